import PyProof.Rows.All
import Wide.All
import OpenK.AllK
import Wide.FinOn
import HandS.ForMost
import HandS.Wide
import HandS.Deep
import HandS.IsInst
import HandS.TupAny
import HandS.TupMul
import HandS.TupLe
import PyProof.ReprRoads
import HandS.SortInts
import HandS.WideMore
import HandS.Zip
import KE.GoesMore
import HandS.Style
import HandS.Conv
import KE.KSortTupG
import HandS.SetBool
import HandS.SetKeys
import HandS.Strs
import KE.KDictZip
import HandS.Zip0
import HandS.Defaults
import HandS.Ends
import OpenK.KMore
import HandS.Codes
import HandS.HeadHook2
import HandS.HeadHook4
import HandS.More
import PySem.Challenge.RW_maskedwires_k13_whole_affine_wires
import KE.KStateDown
import Lean
import HandS.Base
import HandS.Call
import HandS.Words
import HandS.WordsExc
import HandS.Head0
import HandS.Head1
import HandS.Head2
import HandS.HeadEnd
import HandS.HeadHook1
set_option Elab.async false
set_option linter.all false
set_option maxRecDepth 100000
set_option maxHeartbeats 4000000
/-! Vm: a small machine over plain data, with a store of lists and dicts that change; its states against the hand layer's heaps. -/
namespace Vm
open PySem PySem.Spec PyProof.Rows L2

abbrev D := PyData
/-- an object that may change: gone (frozen into data, or out of use), free, locked (a loop walks it) -/
inductive Ob where
  | dead | fl (d : D) | lk (d : D)
abbrev Sto := List Ob
/-- what a name holds -/
inductive Vl where
  | v (d : D) | p (k : Nat) | g (d : D)
abbrev Env := List (Option Vl)
/-- what an expression gives: data that stays; a new object that nobody else holds; an object of the store; a tuple of the module's own -/
inductive R where
  | v (d : D) | n (d : D) | p (k : Nat) | g (d : D)
/-- the end of a run -/
inductive Out (α : Type) where
  | ok (a : α) (s : Sto) | no
abbrev M (α : Type) := Sto → Out α
def bind {α β : Type} (x : M α) (f : α → M β) : M β := fun s => match x s with
  | .ok a s' => f a s'
  | .no => .no
def ret {α : Type} (a : α) : M α := fun s => .ok a s
def stuck {α : Type} : M α := fun _ => .no
def guard (b : Bool) : M Unit := fun s => if b = true then .ok () s else .no
theorem bind_ok {α β : Type} {x : M α} {f : α → M β} {s s2 : Sto} {b : β} (h : bind x f s = .ok b s2) : ∃ a s1, x s = .ok a s1 ∧ f a s1 = .ok b s2 := by
  unfold bind at h
  cases e : x s with
  | ok a s1 => rw [e] at h; exact ⟨a, s1, rfl, h⟩
  | no => rw [e] at h; cases h
theorem guard_ok {b : Bool} {s s2 : Sto} {u : Unit} (h : guard b s = .ok u s2) : b = true ∧ s2 = s := by
  unfold guard at h
  by_cases e : b = true
  · rw [if_pos e] at h; cases h; exact ⟨e, rfl⟩
  · rw [if_neg e] at h; cases h

def Ob.data? : Ob → Option D
  | .dead => none
  | .fl d => some d
  | .lk d => some d
def live (s : Sto) (k : Nat) (d : D) : Prop := ∃ o, s[k]? = some o ∧ o.data? = some d
/-- the data of a result, as it stands now -/
def view (s : Sto) : R → Option D
  | .v d => some d
  | .n d => some d
  | .p k => (s[k]?).bind Ob.data?
  | .g d => some d
def look (r : R) : M D := fun s => match view s r with
  | some d => .ok d s
  | none => .no
theorem look_ok {r : R} {s s2 : Sto} {d : D} (h : look r s = .ok d s2) : view s r = some d ∧ s2 = s := by
  unfold look at h
  cases e : view s r with
  | some d' => rw [e] at h; cases h; exact ⟨rfl, rfl⟩
  | none => rw [e] at h; cases h
/-- taken for good: the object never changes from now on -/
def take (r : R) : M D := fun s => match r with
  | .v d => .ok d s
  | .n d => .ok d s
  | .p k => (match s[k]? with
    | some (.fl d) => .ok d (s.set k .dead)
    | _ => .no)
  | .g _ => .no

/-! ### keys -/
def keyD : Key → D
  | .inl i => .int i
  | .inr x => .str x
def keysD (k : List Key) : D := .tuple (k.map keyD)

/-! ### data in a heap -/
mutual
inductive Rep (K : PySem.W.Frag) (H : Hp) : V → D → Prop
  | non : Rep K H .non .none
  | bl (b : Bool) : Rep K H (.bl b) (.bool b)
  | int (i : Int) : Rep K H (.int i) (.int i)
  | str (x : Str) : Rep K H (.str x) (.str x)
  | lst {a : Addr} {xs : List V} {ds : List D} : H a = some (.lst xs) → Reps K H xs ds → Rep K H (.ref a) (.list ds)
  | tup {a : Addr} {xs : List V} {ds : List D} : H a = some (.tup xs) → Reps K H xs ds → Rep K H (.ref a) (.tuple ds)
  | dK {a : Addr} {kvs : List (Key × V)} {ds : List D} : H a = some (.dK kvs) → Reps K H (kvs.map (·.2)) ds → Rep K H (.ref a) (.dict ((kvs.map fun q => keyD q.1).zip ds))
  | dT {a : Addr} {kvs : List (List Key × V)} {ds : List D} : H a = some (.dT kvs) → Reps K H (kvs.map (·.2)) ds → Rep K H (.ref a) (.dict ((kvs.map fun q => keysD q.1).zip ds))
inductive Reps (K : PySem.W.Frag) (H : Hp) : List V → List D → Prop
  | nil : Reps K H [] []
  | cons {v : V} {vs : List V} {d : D} {ds : List D} : Rep K H v d → Reps K H vs ds → Reps K H (v :: vs) (d :: ds)
end
theorem Reps.length {K : PySem.W.Frag} {H : Hp} : ∀ {vs : List V} {ds : List D}, Reps K H vs ds → vs.length = ds.length
  | _, _, .nil => rfl
  | _, _, .cons _ t => by simp [Reps.length t]
theorem Reps.get {K : PySem.W.Frag} {H : Hp} : ∀ {vs : List V} {ds : List D} {i : Nat} {d : D}, Reps K H vs ds → ds[i]? = some d → ∃ v, vs[i]? = some v ∧ Rep K H v d
  | _, _, _, _, .nil, e => by simp at e
  | _, _, 0, _, .cons r _, e => by simp at e; subst e; exact ⟨_, rfl, r⟩
  | _, _, i + 1, d, .cons _ t, e => by
    obtain ⟨u, h1, h2⟩ := Reps.get (i := i) (d := d) t (by simpa using e)
    exact ⟨u, by simpa using h1, h2⟩
theorem Reps.getV {K : PySem.W.Frag} {H : Hp} : ∀ {vs : List V} {ds : List D} {i : Nat} {v : V}, Reps K H vs ds → vs[i]? = some v → ∃ d, ds[i]? = some d ∧ Rep K H v d
  | _, _, _, _, .nil, e => by simp at e
  | _, _, 0, _, .cons r _, e => by simp at e; subst e; exact ⟨_, rfl, r⟩
  | _, _, i + 1, v, .cons _ t, e => by
    obtain ⟨u, h1, h2⟩ := Reps.getV (i := i) (v := v) t (by simpa using e)
    exact ⟨u, by simpa using h1, h2⟩
theorem Reps.append {K : PySem.W.Frag} {H : Hp} : ∀ {vs ws : List V} {ds es : List D}, Reps K H vs ds → Reps K H ws es → Reps K H (vs ++ ws) (ds ++ es)
  | _, _, _, _, .nil, t => t
  | _, _, _, _, .cons r t, u => .cons r (t.append u)
theorem Reps.take {K : PySem.W.Frag} {H : Hp} : ∀ {vs : List V} {ds : List D} (n : Nat), Reps K H vs ds → Reps K H (vs.take n) (ds.take n)
  | _, _, 0, _ => .nil
  | _, _, _ + 1, .nil => .nil
  | _, _, n + 1, .cons r t => .cons r (Reps.take n t)
theorem Reps.drop {K : PySem.W.Frag} {H : Hp} : ∀ {vs : List V} {ds : List D} (n : Nat), Reps K H vs ds → Reps K H (vs.drop n) (ds.drop n)
  | _, _, 0, r => r
  | _, _, _ + 1, .nil => .nil
  | _, _, n + 1, .cons _ t => Reps.drop n t
theorem Reps.set {K : PySem.W.Frag} {H : Hp} {v : V} {d : D} (r : Rep K H v d) : ∀ {vs : List V} {ds : List D} (i : Nat), Reps K H vs ds → Reps K H (vs.set i v) (ds.set i d)
  | _, _, _, .nil => .nil
  | _, _, 0, .cons _ t => .cons r t
  | _, _, i + 1, .cons q t => .cons q (Reps.set r i t)
theorem Rd.mono {H H' : Hp} {a : Addr} {u : HO} (e : Same H H') (h : Rd H a u) : Rd H' a u := by
  rcases h with h | ⟨o, h⟩
  · exact .inl (e _ _ h)
  · exact .inr ⟨o, e _ _ h⟩
theorem sqT_mono {K : PySem.W.Frag} {H H' : Hp} {a : Addr} {xs : List V} (e : Same H H') (h : SqT K H a xs) : SqT K H' a xs := by
  rcases h with h | h
  · exact .inl (Rd.mono e h)
  · exact .inr h
mutual
theorem Rep.mono {K : PySem.W.Frag} {H H' : Hp} (e : Same H H') : ∀ {v : V} {d : D}, Rep K H v d → Rep K H' v d
  | _, _, .non => .non
  | _, _, .bl b => .bl b
  | _, _, .int i => .int i
  | _, _, .str x => .str x
  | _, _, .lst h r => .lst (e _ _ h) (Reps.mono e r)
  | _, _, .tup h r => .tup (e _ _ h) (Reps.mono e r)
  | _, _, .dK h r => .dK (e _ _ h) (Reps.mono e r)
  | _, _, .dT h r => .dT (e _ _ h) (Reps.mono e r)
theorem Reps.mono {K : PySem.W.Frag} {H H' : Hp} (e : Same H H') : ∀ {vs : List V} {ds : List D}, Reps K H vs ds → Reps K H' vs ds
  | _, _, .nil => .nil
  | _, _, .cons r t => .cons (Rep.mono e r) (Reps.mono e t)
end
/-- an object's content, its items frozen -/
inductive OR (K : PySem.W.Frag) (H : Hp) : HO → D → Prop
  | lst {xs : List V} {ds : List D} : Reps K H xs ds → OR K H (.lst xs) (.list ds)
  | dK {kvs : List (Key × V)} {ds : List D} : Reps K H (kvs.map (·.2)) ds → OR K H (.dK kvs) (.dict ((kvs.map fun q => keyD q.1).zip ds))
  | dT {kvs : List (List Key × V)} {ds : List D} : Reps K H (kvs.map (·.2)) ds → OR K H (.dT kvs) (.dict ((kvs.map fun q => keysD q.1).zip ds))
theorem OR.mono {K : PySem.W.Frag} {H H' : Hp} (e : Same H H') {u : HO} {d : D} (h : OR K H u d) : OR K H' u d := by
  cases h with
  | lst r => exact .lst (r.mono e)
  | dK r => exact .dK (r.mono e)
  | dT r => exact .dT (r.mono e)
/-- an object is data where it stands -/
theorem OR.rep {K : PySem.W.Frag} {H : Hp} {a : Addr} {u : HO} {d : D} (e : H a = some u) (h : OR K H u d) : Rep K H (.ref a) d := by
  cases h with
  | lst r => exact .lst e r
  | dK r => exact .dK e r
  | dT r => exact .dT e r
theorem OR.mut {K : PySem.W.Frag} {H : Hp} {u : HO} {d : D} (h : OR K H u d) : Mut (some u) := by
  cases h <;> trivial

/-! ### states -/
abbrev Rho := List Addr
/-- the store s, laid by ρ; Hf: what stays for good -/
structure WOk (K : PySem.W.Frag) (s : Sto) (ρ : Rho) (Hf H : Hp) : Prop where
  sub : Same Hf H
  len : ρ.length = s.length
  at_ : ∀ k d, live s k d → ∃ a u, ρ[k]? = some a ∧ H a = some u ∧ Hf a = none ∧ OR K Hf u d
  inj : ∀ j k d e a, live s j d → live s k e → ρ[j]? = some a → ρ[k]? = some a → j = k
  ded : ∀ (k : Nat) (a : Addr), s[k]? = some .dead → ρ[k]? = some a → Hf a ≠ none
/-- what happens between two states -/
structure Ext (s : Sto) (ρ : Rho) (Hf H : Hp) (s' : Sto) (ρ' : Rho) (Hf' H' : Hp) : Prop where
  pre : ρ <+: ρ'
  fz : Same Hf Hf'
  keep : ∀ a u, H a = some u → (∀ k d, live s k d → ρ[k]? ≠ some a) → H' a = some u ∧ (Hf a = none → Hf' a = none) ∧ ∀ k d, live s' k d → ρ'[k]? ≠ some a
  grow : ∀ a, H' a = none → H a = none
theorem Ext.refl {s : Sto} {ρ : Rho} {Hf H : Hp} : Ext s ρ Hf H s ρ Hf H := ⟨List.prefix_refl _, Same.refl _, fun _ _ e n => ⟨e, id, n⟩, fun _ e => e⟩
theorem Ext.trans {s s1 s2 : Sto} {ρ ρ1 ρ2 : Rho} {Hf H Hf1 H1 Hf2 H2 : Hp} (a : Ext s ρ Hf H s1 ρ1 Hf1 H1) (b : Ext s1 ρ1 Hf1 H1 s2 ρ2 Hf2 H2) : Ext s ρ Hf H s2 ρ2 Hf2 H2 :=
  ⟨a.pre.trans b.pre, a.fz.trans b.fz, fun c u e n => by
    obtain ⟨e1, f1, n1⟩ := a.keep c u e n
    obtain ⟨e2, f2, n2⟩ := b.keep c u e1 n1
    exact ⟨e2, fun z => f2 (f1 z), n2⟩, fun c e => a.grow c (b.grow c e)⟩
theorem upd_grow {H : Hp} {p a : Addr} {o : HO} (h : upd H p o a = none) : H a = none := by
  by_cases q : a = p
  · subst q; rw [upd_same] at h; cases h
  · rw [upd_ne q] at h; exact h
theorem pre_get {ρ ρ' : Rho} (h : ρ <+: ρ') {k : Nat} {a : Addr} (e : ρ[k]? = some a) : ρ'[k]? = some a := by
  obtain ⟨t, rfl⟩ := h
  rw [List.getElem?_append_left]
  · exact e
  · exact (List.getElem?_eq_some_iff.mp e).1
/-- what is read alone: a tuple of the module's own, a list that is locked -/
inductive GRep (K : PySem.W.Frag) (Hf : Hp) : D → V → Prop
  | t {a : Addr} {xs : List V} {ds : List D} : (∀ H, SqT K H a xs) → (∀ H, Reps K H xs ds) → GRep K Hf (.tuple ds) (.ref a)
  | l {a : Addr} {xs : List V} {ds : List D} : SqL K Hf a xs → Reps K Hf xs ds → GRep K Hf (.list ds) (.ref a)
theorem GRep.mono {K : PySem.W.Frag} {H H' : Hp} (e : Same H H') {d : D} {x : V} (h : GRep K H d x) : GRep K H' d x := by
  cases h with
  | t h r => exact .t h r
  | l h r => exact .l (e.seq h) (r.mono e)
/-- a result, where it lies -/
inductive RRep (K : PySem.W.Frag) (s : Sto) (ρ : Rho) (Hf H : Hp) : R → V → Prop
  | v {d : D} {x : V} : Rep K Hf x d → RRep K s ρ Hf H (.v d) x
  | n {d : D} {a : Addr} {u : HO} : H a = some u → Hf a = none → (∀ k e, live s k e → ρ[k]? ≠ some a) → OR K Hf u d → RRep K s ρ Hf H (.n d) (.ref a)
  | p {k : Nat} {a : Addr} : ρ[k]? = some a → RRep K s ρ Hf H (.p k) (.ref a)
  | g {d : D} {x : V} : GRep K Hf d x → RRep K s ρ Hf H (.g d) x
theorem RRep.ext {K : PySem.W.Frag} {s s' : Sto} {ρ ρ' : Rho} {Hf H Hf' H' : Hp} {r : R} {x : V} (h : RRep K s ρ Hf H r x) (e : Ext s ρ Hf H s' ρ' Hf' H') : RRep K s' ρ' Hf' H' r x := by
  cases h with
  | v r => exact .v (r.mono e.fz)
  | n h1 h2 h3 h4 =>
    obtain ⟨e1, e2, e3⟩ := e.keep _ _ h1 h3
    exact .n e1 (e2 h2) e3 (h4.mono e.fz)
  | p h => exact .p (pre_get e.pre h)
  | g h => exact .g (h.mono e.fz)
/-- the data of what is not read alone: frozen, or an object with frozen items -/
theorem RRep.partsN {K : PySem.W.Frag} {s : Sto} {ρ : Rho} {Hf H : Hp} {r : R} {x : V} {d : D} (h : RRep K s ρ Hf H r x) (w : WOk K s ρ Hf H) (e : Vm.view s r = some d) (n : ∀ e, r ≠ .g e) :
    Rep K Hf x d ∨ ∃ a u, x = .ref a ∧ H a = some u ∧ OR K Hf u d := by
  cases h with
  | g h => exact absurd rfl (n _)
  | v r =>
    have e : some _ = some d := e
    cases e
    exact .inl r
  | n h1 h2 h3 h4 =>
    have e : some _ = some d := e
    cases e
    exact .inr ⟨_, _, rfl, h1, h4⟩
  | @p k a h =>
    have e : (s[k]?).bind Ob.data? = some d := e
    cases q2 : s[k]? with
    | none => rw [q2] at e; cases e
    | some o =>
      rw [q2] at e
      obtain ⟨a', u, h1, h2, h3, h4⟩ := w.at_ k d ⟨o, q2, e⟩
      rw [h] at h1
      cases h1
      exact .inr ⟨_, _, rfl, h2, h4⟩
theorem RRep.parts {K : PySem.W.Frag} {s : Sto} {ρ : Rho} {Hf H : Hp} {r : R} {x : V} {d : D} (h : RRep K s ρ Hf H r x) (w : WOk K s ρ Hf H) (e : Vm.view s r = some d) :
    Rep K Hf x d ∨ (∃ a u, x = .ref a ∧ H a = some u ∧ OR K Hf u d) ∨ GRep K Hf d x := by
  by_cases n : ∃ e, r = .g e
  · obtain ⟨e', rfl⟩ := n
    cases h with
    | g h =>
      have e : some _ = some d := e
      cases e
      exact .inr (.inr h)
  · rcases h.partsN w e (fun e' z => n ⟨e', z⟩) with q | q
    · exact .inl q
    · exact .inr (.inl q)
/-- in the whole heap -/
theorem RRep.view {K : PySem.W.Frag} {s : Sto} {ρ : Rho} {Hf H : Hp} {r : R} {x : V} {d : D} (h : RRep K s ρ Hf H r x) (w : WOk K s ρ Hf H) (e : Vm.view s r = some d) (nt : ∀ ds, d ≠ .tuple ds) (nl : ∀ ds, d ≠ .list ds) : Rep K H x d := by
  rcases h.parts w e with q | ⟨a, u, rfl, q1, q2⟩ | q
  · exact q.mono w.sub
  · exact OR.rep q1 (q2.mono w.sub)
  · cases q with
    | t h r => exact absurd rfl (nt _)
    | l h r => exact absurd rfl (nl _)
/-- a list's items -/
theorem RRep.lst {K : PySem.W.Frag} {s : Sto} {ρ : Rho} {Hf H : Hp} {r : R} {x : V} {ds : List D} (h : RRep K s ρ Hf H r x) (w : WOk K s ρ Hf H) (e : Vm.view s r = some (.list ds)) :
    ∃ a xs, x = .ref a ∧ SqL K H a xs ∧ Reps K Hf xs ds := by
  rcases h.parts w e with h | ⟨a, u, rfl, h1, h2⟩ | h
  · cases h with
    | lst hh r => exact ⟨_, _, rfl, .of (w.sub _ _ hh), r⟩
  · cases h2 with
    | lst r => exact ⟨_, _, rfl, .of h1, r⟩
  · cases h with
    | l hh r => exact ⟨_, _, rfl, w.sub.seq hh, r⟩
theorem RRep.lstN {K : PySem.W.Frag} {s : Sto} {ρ : Rho} {Hf H : Hp} {r : R} {x : V} {ds : List D} (h : RRep K s ρ Hf H r x) (w : WOk K s ρ Hf H) (e : Vm.view s r = some (.list ds)) (n : ∀ e, r ≠ .g e) :
    ∃ a xs, x = .ref a ∧ H a = some (.lst xs) ∧ Reps K Hf xs ds := by
  rcases h.partsN w e n with h | ⟨a, u, rfl, h1, h2⟩
  · cases h with
    | lst hh r => exact ⟨_, _, rfl, w.sub _ _ hh, r⟩
  · cases h2 with
    | lst r => exact ⟨_, _, rfl, h1, r⟩
theorem RRep.tup {K : PySem.W.Frag} {s : Sto} {ρ : Rho} {Hf H : Hp} {r : R} {x : V} {ds : List D} (h : RRep K s ρ Hf H r x) (w : WOk K s ρ Hf H) (e : Vm.view s r = some (.tuple ds)) :
    ∃ a xs, x = .ref a ∧ SqT K H a xs ∧ Reps K Hf xs ds := by
  rcases h.parts w e with h | ⟨a, u, rfl, h1, h2⟩ | h
  · cases h with
    | tup hh r => exact ⟨_, _, rfl, sqT_mono w.sub (.of hh), r⟩
  · cases h2
  · cases h with
    | t h1 h2 => exact ⟨_, _, rfl, h1 H, h2 Hf⟩

/-! ### new things -/
theorem upd_some {H : Hp} {p a : Addr} {o : HO} (h : H a ≠ none) : upd H p o a ≠ none := by
  by_cases q : a = p
  · subst q; rw [upd_same]; exact fun z => by cases z
  · rw [upd_ne q]; exact h
theorem same_new {H : Hp} {p : Addr} {o : HO} (h : H p = none) : Same H (upd H p o) := fun b x e => by
  rw [upd_ne (ne_of_none e h)]; exact e
section
variable {K : PySem.W.Frag} {s : Sto} {ρ : Rho} {Hf H : Hp} {p : Addr} {o : HO}
theorem WOk.ne (w : WOk K s ρ Hf H) (h : H p = none) {k : Nat} {d : D} (l : live s k d) : ρ[k]? ≠ some p := fun z => by
  obtain ⟨a, u, h1, h2, _⟩ := w.at_ k d l
  rw [z] at h1; cases h1
  rw [h] at h2; cases h2
theorem WOk.fnone (w : WOk K s ρ Hf H) (h : H p = none) : Hf p = none := by
  cases e : Hf p with
  | none => rfl
  | some u => rw [w.sub _ _ e] at h; cases h
/-- a new object that stays -/
theorem WOk.fresh (w : WOk K s ρ Hf H) (h : H p = none) : WOk K s ρ (upd Hf p o) (upd H p o) where
  sub := fun b x e => by
    by_cases q : b = p
    · subst q; rw [upd_same] at e ⊢; exact e
    · rw [upd_ne q] at e ⊢; exact w.sub _ _ e
  len := w.len
  at_ := fun k d l => by
    obtain ⟨a, u, h1, h2, h3, h4⟩ := w.at_ k d l
    have q : a ≠ p := fun z => w.ne h l (z ▸ h1)
    exact ⟨a, u, h1, by rw [upd_ne q]; exact h2, by rw [upd_ne q]; exact h3, h4.mono (same_new (w.fnone h))⟩
  inj := w.inj
  ded := fun k a e1 e2 => upd_some (w.ded k a e1 e2)
theorem Ext.fresh (w : WOk K s ρ Hf H) (h : H p = none) : Ext s ρ Hf H s ρ (upd Hf p o) (upd H p o) :=
  ⟨List.prefix_refl _, same_new (w.fnone h), fun a u e n => by
    have q : a ≠ p := ne_of_none e h
    exact ⟨by rw [upd_ne q]; exact e, fun z => by rw [upd_ne q]; exact z, n⟩, fun _ e => upd_grow e⟩
/-- a new object that may change -/
theorem WOk.new (w : WOk K s ρ Hf H) (h : H p = none) : WOk K s ρ Hf (upd H p o) where
  sub := w.sub.trans (same_new h)
  len := w.len
  at_ := fun k d l => by
    obtain ⟨a, u, h1, h2, h3, h4⟩ := w.at_ k d l
    have q : a ≠ p := fun z => w.ne h l (z ▸ h1)
    exact ⟨a, u, h1, by rw [upd_ne q]; exact h2, h3, h4⟩
  inj := w.inj
  ded := w.ded
theorem Ext.new (w : WOk K s ρ Hf H) (h : H p = none) : Ext s ρ Hf H s ρ Hf (upd H p o) :=
  ⟨List.prefix_refl _, Same.refl _, fun a u e n => ⟨by rw [upd_ne (ne_of_none e h)]; exact e, id, n⟩, fun _ e => upd_grow e⟩
theorem RRep.new {d : D} (w : WOk K s ρ Hf H) (h : H p = none) (r : OR K Hf o d) : RRep K s ρ Hf (upd H p o) (.n d) (.ref p) :=
  .n upd_same (w.fnone h) (fun _ _ l => w.ne h l) r
/-- a new object frozen -/
theorem WOk.freeze {a : Addr} (w : WOk K s ρ Hf H) (h : H a = some o) (hn : Hf a = none) (nl : ∀ k d, live s k d → ρ[k]? ≠ some a) : WOk K s ρ (upd Hf a o) H where
  sub := fun b x e => by
    by_cases q : b = a
    · subst q; rw [upd_same] at e; cases e; exact h
    · rw [upd_ne q] at e; exact w.sub _ _ e
  len := w.len
  at_ := fun k d l => by
    obtain ⟨c, u, h1, h2, h3, h4⟩ := w.at_ k d l
    have q : c ≠ a := fun z => nl k d l (z ▸ h1)
    exact ⟨c, u, h1, h2, by rw [upd_ne q]; exact h3, h4.mono (same_new hn)⟩
  inj := w.inj
  ded := fun k b e1 e2 => upd_some (w.ded k b e1 e2)
end
theorem live_set_ne {s : Sto} {j k : Nat} {o : Ob} {d : D} (h : j ≠ k) : live (s.set k o) j d ↔ live s j d := by
  unfold live
  rw [List.getElem?_set_ne (Ne.symm h)]
theorem live_set_self {s : Sto} {k : Nat} {o : Ob} {d : D} (l : live (s.set k o) k d) : o.data? = some d := by
  obtain ⟨o', h1, h2⟩ := l
  by_cases q : k < s.length
  · rw [List.getElem?_set_self q] at h1; cases h1; exact h2
  · rw [List.getElem?_eq_none (by simpa using q)] at h1; cases h1
section
variable {K : PySem.W.Frag} {s : Sto} {ρ : Rho} {Hf H : Hp} {k : Nat} {a : Addr} {d : D} {u : HO} {o : Ob}
theorem dead_set {o : Ob} {j : Nat} (n : o ≠ .dead) (h : (s.set k o)[j]? = some .dead) : s[j]? = some .dead := by
  by_cases q : k = j
  · subst q
    by_cases z : k < s.length
    · rw [List.getElem?_set_self z] at h
      exact absurd (Option.some.inj h) n
    · rw [List.getElem?_eq_none (by simpa using z)] at h
      cases h
  · rw [List.getElem?_set_ne q] at h
    exact h
theorem WOk.set (w : WOk K s ρ Hf H) (l : live s k d) (ha : ρ[k]? = some a) {u' : HO} (h : ∀ e, o.data? = some e → OR K Hf u' e) (nd : o ≠ .dead := by exact fun z => by cases z) : WOk K (s.set k o) ρ Hf (upd H a u') where
  sub := fun b x e => by
    obtain ⟨a', u, h1, h2, h3, h4⟩ := w.at_ k d l
    rw [ha] at h1; cases h1
    have q : b ≠ a := fun z => by subst z; rw [h3] at e; cases e
    rw [upd_ne q]; exact w.sub _ _ e
  len := by rw [List.length_set]; exact w.len
  at_ := fun j e lj => by
    obtain ⟨a', u, h1, h2, h3, h4⟩ := w.at_ k d l
    rw [ha] at h1; cases h1
    by_cases q : j = k
    · subst q
      exact ⟨a, u', ha, upd_same, h3, h e (live_set_self lj)⟩
    · have lj' := (live_set_ne q).mp lj
      obtain ⟨b, x, g1, g2, g3, g4⟩ := w.at_ j e lj'
      have qa : b ≠ a := fun z => q (w.inj j k e d a lj' l (z ▸ g1) ha)
      exact ⟨b, x, g1, by rw [upd_ne qa]; exact g2, g3, g4⟩
  inj := fun j i e f b lj li hj hi => by
    have key : ∀ j e, live (s.set k o) j e → ∃ e', live s j e' := fun j e lj => by
      by_cases q : j = k
      · subst q; exact ⟨d, l⟩
      · exact ⟨e, (live_set_ne q).mp lj⟩
    obtain ⟨e', lj'⟩ := key j e lj
    obtain ⟨f', li'⟩ := key i f li
    exact w.inj j i e' f' b lj' li' hj hi
  ded := fun j b e1 e2 => w.ded j b (dead_set nd e1) e2
theorem live_any_set {s : Sto} {k : Nat} {o : Ob} {d : D} (l : live s k d) {j : Nat} {e : D} (lj : live (s.set k o) j e) : ∃ e', live s j e' := by
  by_cases q : j = k
  · subst q; exact ⟨d, l⟩
  · exact ⟨e, (live_set_ne q).mp lj⟩
theorem Ext.set (w : WOk K s ρ Hf H) (l : live s k d) (ha : ρ[k]? = some a) {u' : HO} : Ext s ρ Hf H (s.set k o) ρ Hf (upd H a u') :=
  ⟨List.prefix_refl _, Same.refl _, fun b x e n => by
    have q : b ≠ a := fun z => n k d l (z ▸ ha)
    refine ⟨by rw [upd_ne q]; exact e, id, fun j f lj => ?_⟩
    obtain ⟨f', lj'⟩ := live_any_set l lj
    exact n j f' lj', fun _ e => upd_grow e⟩
/-- the same object, told otherwise (locked, unlocked) -/
theorem WOk.told (w : WOk K s ρ Hf H) (l : live s k d) (h : ∀ e, o.data? = some e → e = d) (nd : ∀ b, o = .dead → ρ[k]? = some b → Hf b ≠ none) : WOk K (s.set k o) ρ Hf H where
  sub := w.sub
  len := by rw [List.length_set]; exact w.len
  at_ := fun j e lj => by
    by_cases q : j = k
    · subst q
      have := h e (live_set_self lj)
      subst this
      exact w.at_ j e l
    · exact w.at_ j e ((live_set_ne q).mp lj)
  inj := fun j i e f b lj li hj hi => by
    obtain ⟨e', lj'⟩ := live_any_set l lj
    obtain ⟨f', li'⟩ := live_any_set l li
    exact w.inj j i e' f' b lj' li' hj hi
  ded := fun j b e1 e2 => by
    by_cases q : k = j
    · subst q
      by_cases z : k < s.length
      · rw [List.getElem?_set_self z] at e1
        exact nd b (Option.some.inj e1) e2
      · rw [List.getElem?_eq_none (by simpa using z)] at e1
        cases e1
    · rw [List.getElem?_set_ne q] at e1
      exact w.ded j b e1 e2
theorem Ext.told (l : live s k d) : Ext s ρ Hf H (s.set k o) ρ Hf H :=
  ⟨List.prefix_refl _, Same.refl _, fun b x e n => ⟨e, id, fun j f lj => by
    obtain ⟨f', lj'⟩ := live_any_set l lj
    exact n j f' lj'⟩, fun _ e => e⟩
/-- an object of the store frozen -/
theorem WOk.dead (w : WOk K s ρ Hf H) (l : live s k d) (ha : ρ[k]? = some a) (hu : H a = some u) : WOk K (s.set k .dead) ρ (upd Hf a u) H := by
  obtain ⟨a', u', h1, h2, h3, h4⟩ := w.at_ k d l
  rw [ha] at h1; cases h1
  refine { sub := fun b x e => ?_, len := ?_, at_ := fun j e lj => ?_, inj := fun j i e f b lj li hj hi => ?_, ded := fun j b e1 e2 => ?_ }
  · by_cases q : b = a
    · subst q; rw [upd_same] at e; cases e; exact hu
    · rw [upd_ne q] at e; exact w.sub _ _ e
  · rw [List.length_set]; exact w.len
  · have q : j ≠ k := fun q => by subst q; cases live_set_self lj
    have lj' := (live_set_ne q).mp lj
    obtain ⟨c, x, g1, g2, g3, g4⟩ := w.at_ j e lj'
    have qa : c ≠ a := fun z => q (w.inj j k e d a lj' l (z ▸ g1) ha)
    exact ⟨c, x, g1, g2, by rw [upd_ne qa]; exact g3, g4.mono (same_new h3)⟩
  · obtain ⟨e', lj'⟩ := live_any_set l lj
    obtain ⟨f', li'⟩ := live_any_set l li
    exact w.inj j i e' f' b lj' li' hj hi
  · by_cases q : k = j
    · subst q
      rw [ha] at e2
      cases e2
      rw [upd_same]
      exact fun z => by cases z
    · rw [List.getElem?_set_ne q] at e1
      exact upd_some (w.ded j b e1 e2)
theorem Ext.dead (w : WOk K s ρ Hf H) (l : live s k d) (ha : ρ[k]? = some a) : Ext s ρ Hf H (s.set k .dead) ρ (upd Hf a u) H := by
  obtain ⟨a', u', h1, h2, h3, h4⟩ := w.at_ k d l
  rw [ha] at h1; cases h1
  exact ⟨List.prefix_refl _, same_new h3, fun b x e n => by
    have q : b ≠ a := fun z => n k d l (z ▸ ha)
    exact ⟨e, fun z => by rw [upd_ne q]; exact z, fun j f lj => by
      obtain ⟨f', lj'⟩ := live_any_set l lj
      exact n j f' lj'⟩, fun _ e => e⟩
end
/-- where a new object was not yet -/
def Fresh (H : Hp) : R → V → Prop
  | .n _, x => ∃ a, x = .ref a ∧ H a = none
  | _, _ => True
theorem Fresh.back {s s' : Sto} {ρ ρ' : Rho} {Hf H Hf' H' : Hp} (e : Ext s ρ Hf H s' ρ' Hf' H') {r : R} {x : V} (h : Fresh H' r x) : Fresh H r x := by
  cases r with
  | n d => obtain ⟨a, h1, h2⟩ := h; exact ⟨a, h1, e.grow a h2⟩
  | v d => trivial
  | p k => trivial
  | g d => trivial
/-- a result taken for good -/
theorem take_ok {K : PySem.W.Frag} {s0 s s' : Sto} {ρ0 ρ : Rho} {Hf0 H0 Hf H : Hp} {r : R} {x : V} {d : D} (w : WOk K s ρ Hf H) (x0 : Ext s0 ρ0 Hf0 H0 s ρ Hf H) (fr : Fresh H0 r x) (h : RRep K s ρ Hf H r x) (e : take r s = .ok d s') :
    ∃ Hf', WOk K s' ρ Hf' H ∧ Ext s0 ρ0 Hf0 H0 s' ρ Hf' H ∧ Rep K Hf' x d := by
  cases h with
  | v r => cases e; exact ⟨Hf, w, x0, r⟩
  | @n d' a u h1 h2 h3 h4 =>
    cases e
    obtain ⟨a', h5, h6⟩ := fr
    cases h5
    refine ⟨upd Hf a u, w.freeze h1 h2 h3, ⟨x0.pre, x0.fz.trans (same_new h2), fun b y e n => ?_, x0.grow⟩, OR.rep upd_same (h4.mono (same_new h2))⟩
    obtain ⟨g1, g2, g3⟩ := x0.keep b y e n
    have q : b ≠ a := ne_of_none e h6
    exact ⟨g1, fun z => by rw [upd_ne q]; exact g2 z, g3⟩
  | @p k a h =>
    have e : (match s[k]? with
      | some (.fl d) => Out.ok d (s.set k .dead)
      | _ => .no) = .ok d s' := e
    cases q : s[k]? with
    | none => rw [q] at e; cases e
    | some o =>
      cases o with
      | dead => rw [q] at e; cases e
      | lk d' => rw [q] at e; cases e
      | fl d' =>
        rw [q] at e
        cases e
        have l : live s k d := ⟨_, q, rfl⟩
        obtain ⟨a', u, h1, h2, h3, h4⟩ := w.at_ k d l
        rw [h] at h1; cases h1
        exact ⟨upd Hf a u, w.dead l h h2, x0.trans (.dead w l h), OR.rep upd_same (h4.mono (same_new h3))⟩
  | g h => cases e
end Vm

set_option Elab.async false
set_option linter.all false
set_option maxRecDepth 100000
set_option maxHeartbeats 4000000
/-! Vm: the code of the small machine, and its run. -/
namespace Vm
open PySem PySem.Spec PyProof.Rows L2

inductive Bo where
  | add | sub | mul | fdiv | mod | pow | shl | shr | band | bor | bxor
  deriving DecidableEq
inductive Cp where
  | eq | ne | lt | le | gt | ge | isin | notin | is | isnot
  deriving DecidableEq
inductive Ty where
  | int | bool | str | tuple | list | dict
  deriving DecidableEq
/-- built-in functions; sortSet, lenSet: sorted(set(..)), len(set(..)); dictZip: dict(zip(..)) -/
inductive Bf where
  | abs | all | any | int | len | list | max | min | sorted | sum | tuple | repr | divmod | dict | sortSet | lenSet | dictZip | str | bool | listRng
  | isinst (ts : List Ty)
  deriving DecidableEq
inductive Mt where
  | append | extend | index | pop | get | items | values | keys | setdefault | join | split | startswith | replace | count | insert | remove | reverse | sort
  deriving DecidableEq
mutual
inductive Co where
  | var (i : Nat)
  | lit (d : D)
  | glb (d : D)
  | tup (es : List Co)
  | lst (es : List Co)
  | bin (o : Bo) (a b : Co)
  | neg (a : Co)
  | noT (a : Co)
  | cmp (o : Cp) (a b : Co)
  | chn (o o2 : Cp) (a b c : Co)
  | and (a b : Co)
  | or (a b : Co)
  | ite (t a b : Co)
  | ix (a b : Co)
  | sl (a : Co) (lo hi : List Co)
  | call (f : Nat) (es : List Co) (perm : List Nat)
  | bi (f : Bf) (es : List Co)
  | mt (m : Mt) (o : Co) (es : List Co)
  | lc (g : Tg) (it : Wk) (ts : List Co) (e : Co)
  | lc2 (g : Tg) (it : Wk) (ts : List Co) (g2 : Tg) (it2 : Wk) (ts2 : List Co) (e : Co)
  | dsp (es : List Co)
  | ixs (ks : List Str) (es : List Co) (k : Co)
  | sc (f : Bf) (g : Tg) (it : Wk) (ts : List Co) (e : Co)
  | dc (g : Tg) (it : Wk) (ts : List Co) (k v : Co)
inductive Wk where
  | seq (e : Co)
  | rng (es : List Co)
  | enum (e : Co)
  | zip (a b : Co)
  | rev (e : Co)
  | items (e : Co)
inductive Tg where
  | s (i : Nat) (mu : Bool)
  | t (gs : List Tg)
  | x (o i : Co)
end
inductive Sm where
  | set (g : Tg) (e : Co)
  | par (is : List (Nat × Bool)) (es : List Co)
  | unp (gs : List Tg) (e : Co)
  | aug (i : Nat) (o : Bo) (e : Co)
  | ex (e : Co)
  | ret (e : Co)
  | retN
  | ife (t : Co) (a b : List Sm)
  | forr (g : Tg) (it : Wk) (body : List Sm)
  | whl (t : Co) (body : List Sm)
  | brk
  | cnt
  | pas
  | rse

/-! ### operators -/
def tysOf : D → List Ty
  | .int _ => [.int]
  | .bool _ => [.bool, .int]
  | .str _ => [.str]
  | .tuple _ => [.tuple]
  | .list _ => [.list]
  | .dict _ => [.dict]
  | .none => []
def smallI (i : Int) : Bool := decide (-(2 ^ 64) < i) && decide (i < 2 ^ 64)
def lenOk (n : Nat) : Bool := decide (n ≤ sizeLine)
def rep (n : Nat) (ds : List D) : List D := match n with
  | 0 => []
  | n + 1 => ds ++ rep n ds
def binD : Bo → D → D → Option R
  | .add, .int i, .int j => some (.v (.int (i + j)))
  | .add, .str x, .str y => if lenOk (x.length + y.length) then some (.v (.str (x ++ y))) else none
  | .add, .list a, .list b => if lenOk (a.length + b.length) then some (.n (.list (a ++ b))) else none
  | .add, .tuple a, .tuple b => if lenOk (a.length + b.length) then some (.v (.tuple (a ++ b))) else none
  | .sub, .int i, .int j => some (.v (.int (i - j)))
  | .mul, .int i, .int j => if smallI i || smallI j then some (.v (.int (i * j))) else none
  | .mul, .list a, .int j => if decide (0 ≤ j) && decide (j < 65536) && lenOk (a.length * j.toNat) then some (.n (.list (rep j.toNat a))) else none
  | .mul, .tuple a, .int j => if decide (2 ≤ j) && decide (j ≤ 1000) && decide (a.length ≤ 1000) && !a.isEmpty then some (.v (.tuple (rep j.toNat a))) else none
  | .fdiv, .int i, .int j => if decide (0 < j) && decide (j < 1073741824) then some (.v (.int (i / j))) else none
  | .mod, .int i, .int j => if decide (0 < j) then some (.v (.int (i % j))) else none
  | .pow, .int i, .int j => if decide (0 ≤ j) && decide (j ≤ 1000000) && decide (i.natAbs < 2 ^ 64) then some (.v (.int (i ^ j.toNat))) else none
  | .shl, .int i, .int j => if decide (0 ≤ j) && decide (j ≤ 1000000) && decide (i.natAbs < 2 ^ 64) then some (.v (.int (i * 2 ^ j.toNat))) else none
  | .shr, .int i, .int j => if decide (0 ≤ j) then some (.v (.int (i / 2 ^ j.toNat))) else none
  | .band, .int i, .int j => some (.v (.int (Builtin.bitAnd i j)))
  | .bor, .int i, .int j => some (.v (.int (Builtin.bitOr i j)))
  | .bxor, .int i, .int j => some (.v (.int (Builtin.bitXor i j)))
  | _, _, _ => none
def shp (d : D) : Bool := SeqAt.shaped d
/-- the first place of an item that equals -/
def findD (d : D) : List D → Option Nat
  | [] => none
  | e :: es => if PyData.eqv e d = true then some 0 else (findD d es).map (· + 1)
/-- plain keys -/
def isKey : D → Bool
  | .int _ => true
  | .str _ => true
  | .tuple ds => ds.all fun d => match d with
    | .int _ => true
    | .str _ => true
    | _ => false
  | _ => false
/-- keys of one make: ints and texts, or tuples -/
def kindK : D → Nat
  | .int _ => 1
  | .str _ => 1
  | .tuple _ => 2
  | _ => 0
def keysOk (kvs : List (D × D)) (k : D) : Bool := isKey k && kvs.all fun q => isKey q.1 && kindK q.1 == kindK k
/-- the data of keys, equal or not -/
def eqK : D → D → Bool
  | .int i, .int j => i == j
  | .str x, .str y => decide (x = y)
  | .tuple a, .tuple b => PyData.eqv (.tuple a) (.tuple b)
  | _, _ => false
def getK (k : D) : List (D × D) → Option D
  | [] => none
  | (k', v) :: r => if eqK k' k = true then some v else getK k r
def putK (k v : D) : List (D × D) → List (D × D)
  | [] => [(k, v)]
  | (k', w) :: r => if eqK k' k = true then (k', v) :: r else (k', w) :: putK k v r
def cmpD : Cp → D → D → Option Bool
  | .eq, a, b => if shp a && shp b then some (PyData.eqv a b) else none
  | .ne, a, b => if shp a && shp b then some (!PyData.eqv a b) else none
  | .lt, .int i, .int j => some (decide (i < j))
  | .le, .int i, .int j => some (decide (i ≤ j))
  | .gt, .int i, .int j => some (decide (j < i))
  | .ge, .int i, .int j => some (decide (j ≤ i))
  | .lt, .str x, .str y => some (decide (x.cps.toList < y.cps.toList))
  | .isin, .str x, .str y => (match x.cps.toList with
    | [c] => some (decide (c ∈ y.cps.toList))
    | _ => none)
  | .notin, .str x, .str y => (match x.cps.toList with
    | [c] => some (!decide (c ∈ y.cps.toList))
    | _ => none)
  | .isin, d, .list es => if shp d && shp (.list es) then some (es.any fun z => PyData.eqv z d) else none
  | .notin, d, .list es => if shp d && shp (.list es) then some (!es.any fun z => PyData.eqv z d) else none
  | .isin, d, .tuple es => if shp d && shp (.tuple es) then some (es.any fun z => PyData.eqv z d) else none
  | .notin, d, .tuple es => if shp d && shp (.tuple es) then some (!es.any fun z => PyData.eqv z d) else none
  | .isin, d, .dict kvs => if keysOk kvs d && !kvs.isEmpty then some (getK d kvs).isSome else none
  | .notin, d, .dict kvs => if keysOk kvs d && !kvs.isEmpty then some (!(getK d kvs).isSome) else none
  | .is, d, .none => some (match d with | .none => true | _ => false)
  | .isnot, d, .none => some (match d with | .none => false | _ => true)
  | .is, .bool a, .bool b => some (decide (a = b))
  | .isnot, .bool a, .bool b => some (!decide (a = b))
  | _, _, _ => none
def truD : D → Option Bool
  | .none => some false
  | .bool b => some b
  | .int i => some (i != 0)
  | .list ds => some (!ds.isEmpty)
  | .tuple ds => some (!ds.isEmpty)
  | _ => none
def ixD : D → D → Option D
  | .list ds, .int i => atI ds i
  | .tuple ds, .int i => atI ds i
  | .str z, .int i => if lenOk z.length then (atI z.cps.toList i).map fun c => .str ⟨#[c]⟩ else none
  | .dict kvs, k => if keysOk kvs k && !kvs.isEmpty then getK k kvs else none
  | _, _ => none
/-- a part of a list -/
def cutL {α : Type} (xs : List α) (lo hi : Option Int) : List α :=
  (xs.drop (HT.sIx xs.length 0 lo)).take (HT.sIx xs.length xs.length hi - HT.sIx xs.length 0 lo)
def slD : D → Option Int → Option Int → Option R
  | .list ds, lo, hi => some (.n (.list (cutL ds lo hi)))
  | .tuple ds, lo, hi => some (.v (.tuple (cutL ds lo hi)))
  | _, _, _ => none
def intsD : List D → Option (List Int)
  | [] => some []
  | .int i :: r => (intsD r).map (i :: ·)
  | _ :: _ => none
def boolsD : List D → Option (List Bool)
  | [] => some []
  | .bool b :: r => (boolsD r).map (b :: ·)
  | _ :: _ => none
def maxL : Int → List Int → Int
  | m, [] => m
  | m, i :: r => maxL (if m < i then i else m) r
def minL : Int → List Int → Int
  | m, [] => m
  | m, i :: r => minL (if i < m then i else m) r
/-- the order of ints, and of tuples of ints -/
def leInts : List Int → List Int → Bool
  | [], _ => true
  | _ :: _, [] => false
  | a :: as, b :: bs => if a < b then true else if b < a then false else leInts as bs
def tupsD : List D → Option (List (List Int))
  | [] => some []
  | .tuple ds :: r => (intsD ds).bind fun is => (tupsD r).map (is :: ·)
  | _ :: _ => none
def sortI (is : List Int) : List Int := is.mergeSort fun a b => decide (a ≤ b)
def sortT (ts : List (List Int)) : List (List Int) := ts.mergeSort leInts
def sortD (ds : List D) : Option (List D) := match intsD ds with
  | some is => some ((sortI is).map .int)
  | none => (match tupsD ds with
    | some ts => if ts.all (fun t => !t.isEmpty) then some ((sortT ts).map fun t => .tuple (t.map .int)) else none
    | none => none)
/-- the first ones of equal items -/
def dedupD : List D → List D → List D
  | [], acc => acc.reverse
  | d :: ds, acc => if acc.any (fun z => PyData.eqv z d) = true then dedupD ds acc else dedupD ds (d :: acc)
def pairsD : List D → Option (List (D × D))
  | [] => some []
  | .tuple [k, v] :: r => (pairsD r).map ((k, v) :: ·)
  | _ :: _ => none
def mergeD : List (D × D) → List (D × D) → Option (List (D × D))
  | acc, [] => some acc
  | acc, (k, v) :: r => if keysOk acc k = true then mergeD (putK k v acc) r else none
def seqD : D → Option (List D)
  | .list ds => some ds
  | .tuple ds => some ds
  | _ => none
def biAbs : List D → Option R
  | [.int i] => some (.v (.int (if i < 0 then -i else i)))
  | _ => none
def biAll : List D → Option R
  | [.list ds] => (boolsD ds).map fun bs => .v (.bool (bs.all id))
  | _ => none
def biAny : List D → Option R
  | [.list ds] => (boolsD ds).map fun bs => .v (.bool (bs.any id))
  | _ => none
def biInt : List D → Option R
  | [.int i] => some (.v (.int i))
  | [.bool b] => some (.v (.int (if b then 1 else 0)))
  | _ => none
def biLen : List D → Option R
  | [.list ds] => some (.v (.int ds.length))
  | [.tuple ds] => some (.v (.int ds.length))
  | [.str z] => if lenOk z.length then some (.v (.int z.length)) else none
  | _ => none
def biList : List D → Option R
  | [.list ds] => some (.n (.list ds))
  | [.tuple ds] => some (.n (.list ds))
  | _ => none
def biTuple : List D → Option R
  | [.list ds] => some (.v (.tuple ds))
  | _ => none
def biMax : List D → Option R
  | [.int i, .int j] => some (.v (.int (if j > i then j else i)))
  | [.list ds] => (intsD ds).bind fun is => (match is with
    | i :: r => some (.v (.int (maxL i r)))
    | [] => none)
  | _ => none
def biMin : List D → Option R
  | [.int i, .int j] => some (.v (.int (if j < i then j else i)))
  | [.list ds] => (intsD ds).bind fun is => (match is with
    | i :: r => some (.v (.int (minL i r)))
    | [] => none)
  | _ => none
def biSum : List D → Option R
  | [.list ds] => (intsD ds).map fun is => .v (.int is.sum)
  | _ => none
def biSorted : List D → Option R
  | [.list ds] => (sortD ds).map fun es => .n (.list es)
  | _ => none
def reprOk (d : D) : Bool := d.showable && lenOk d.shown.length && decide (d.depth ≤ 64) && !d.hasDict
def biRepr : List D → Option R
  | [.list ds] => if reprOk (.list ds) then some (.v (.str (PyData.list ds).shown)) else none
  | [.tuple ds] => if reprOk (.tuple ds) then some (.v (.str (PyData.tuple ds).shown)) else none
  | _ => none
def smallR (i : Int) : Bool := decide (-(2 ^ 62) ≤ i) && decide (i < 2 ^ 62)
def rngD (a b : Int) : List D := (List.range (b - a).toNat).map fun (i : Nat) => .int (a + i)
def biListRng : List D → Option R
  | [.int j] => if smallR j && decide ((j - 0).toNat ≤ 2 ^ 24) then some (.n (.list (rngD 0 j))) else none
  | [.int i, .int j] => if smallR i && smallR j && decide ((j - i).toNat ≤ 2 ^ 24) then some (.n (.list (rngD i j))) else none
  | _ => none
/-- of ints and texts alone -/
def isAtom : D → Bool
  | .int _ => true
  | .str _ => true
  | _ => false
def atomsOk (ds : List D) : Bool := ds.all isAtom && decide (ds.length < 2000)
def biDivmod : List D → Option R
  | [.int i, .int j] => if decide (0 < j) && decide (j < 1073741824) then some (.v (.tuple [.int (i / j), .int (i % j)])) else none
  | _ => none
def biLenSet : List D → Option R
  | [.list ds] => if atomsOk ds then some (.v (.int (dedupD ds []).length)) else none
  | [.tuple ds] => if atomsOk ds then some (.v (.int (dedupD ds []).length)) else none
  | _ => none
def biSortSet : List D → Option R
  | [.list ds] => if atomsOk ds then (sortD (dedupD ds [])).map fun es => .n (.list es) else none
  | _ => none
def biSortSet0 : List D → Option R
  | _ => none
def biIsinst (ts : List Ty) : List D → Option R
  | [d] => some (.v (.bool ((tysOf d).any fun t => ts.contains t)))
  | _ => none
def keysT (qs : List (D × D)) : Bool := qs.all fun q => isKey q.1 && kindK q.1 == 2
def keysN (qs : List (D × D)) : Bool := qs.all fun q => isKey q.1 && kindK q.1 == 1
/-- no key twice -/
def distK : List (D × D) → Bool
  | [] => true
  | q :: r => (getK q.1 r).isNone && distK r
def biDict : List D → Option R
  | [.list ps] => (pairsD ps).bind fun qs => if (keysT qs || keysN qs) && distK qs then some (.n (.dict qs)) else none
  | _ => none
def biDictZip : List D → Option R
  | [.list ks, .tuple vs] => if decide (ks.length = vs.length) && keysT (ks.zip vs) && distK (ks.zip vs) then some (.n (.dict (ks.zip vs))) else none
  | _ => none
def biD : Bf → List D → Option R
  | .abs => biAbs
  | .all => biAll
  | .any => biAny
  | .int => biInt
  | .len => biLen
  | .list => biList
  | .max => biMax
  | .min => biMin
  | .sorted => biSorted
  | .sum => biSum
  | .tuple => biTuple
  | .repr => biRepr
  | .divmod => biDivmod
  | .sortSet => biSortSet
  | .lenSet => biLenSet
  | .isinst ts => biIsinst ts
  | .listRng => biListRng
  | .dict => biDict
  | .dictZip => biDictZip
  | _ => fun _ => none

/-! ### the run -/
structure Cfg where
  call : Nat → List Vl → M R
  wh : Nat
def getV (i : Nat) (e : Env) : M R := fun s => match e[i]? with
  | some (some (.v d)) => .ok (.v d) s
  | some (some (.p k)) => .ok (.p k) s
  | some (some (.g d)) => .ok (.g d) s
  | _ => .no
def ofO {α : Type} (o : Option α) : M α := fun s => match o with
  | some a => .ok a s
  | none => .no
def alloc (d : D) : M Nat := fun s => .ok s.length (s ++ [.fl d])
/-- a result as a name holds it -/
def hold (mu : Bool) (r : R) : M Vl := match r with
  | .v d => ret (.v d)
  | .n d => if mu = true then bind (alloc d) fun k => ret (.p k) else ret (.v d)
  | .p k => ret (.p k)
  | .g d => ret (.g d)
/-- of no module's tuple -/
def lookP (r : R) : M D := match r with
  | .g _ => stuck
  | r => look r
def looks : List R → M (List D)
  | [] => ret []
  | r :: rs => bind (look r) fun d => bind (looks rs) fun ds => ret (d :: ds)
/-- a change of an object of the store -/
def modify (r : R) (f : D → Option D) : M Unit := fun s => match r with
  | .p k => (match s[k]? with
    | some (.fl d) => (match f d with
      | some e => .ok () (s.set k (.fl e))
      | none => .no)
    | _ => .no)
  | _ => .no

inductive Fl where
  | nx (e : Env) | rt (r : R) | bk (e : Env) | ct (e : Env)
def slots : List Tg → List Nat
  | [] => []
  | .s i _ :: gs => i :: slots gs
  | .t hs :: gs => slots hs ++ slots gs
  | .x _ _ :: gs => slots gs
def wipeE (e : Env) : List Nat → Env
  | [] => e
  | v :: vs => (wipeE e vs).set v none
/-- plain names, tuples of them, bound to data -/
def bindN : List Tg → List D → Env → Option Env
  | [], [], e => some e
  | .s i _ :: gs, d :: ds, e => bindN gs ds (e.set i (some (.v d)))
  | .t hs :: gs, .tuple cs :: ds, e => (match bindN hs cs e with
    | some e' => bindN gs ds e'
    | none => none)
  | _, _, _ => none
def bind1 (g : Tg) (d : D) (e : Env) : M Env := ofO (bindN [g] [d] e)
/-- what is walked -/
inductive Src where
  | seq (r : R) | rng (lo : Int) (n : Nat) | enum (r : R) | zip (r q : R) | rev (r : R) (n : Nat) | str (z : Str)
def seqR (r : R) : M (List D) := bind (look r) fun d => ofO (seqD d)
def lenS : Src → M Nat
  | .seq r => bind (seqR r) fun ds => ret ds.length
  | .rng _ n => ret n
  | .enum r => bind (seqR r) fun ds => ret ds.length
  | .zip r q => bind (seqR r) fun as => bind (seqR q) fun bs => ret (min as.length bs.length)
  | .rev _ n => ret n
  | .str z => ret z.cps.size
def itemS : Src → Nat → M D
  | .seq r, i => bind (seqR r) fun ds => ofO ds[i]?
  | .rng lo n, i => if i < n then ret (.int (lo + i)) else stuck
  | .enum r, i => bind (seqR r) fun ds => bind (ofO ds[i]?) fun d => ret (.tuple [.int i, d])
  | .zip r q, i => bind (seqR r) fun as => bind (seqR q) fun bs => bind (ofO as[i]?) fun a => bind (ofO bs[i]?) fun b => ret (.tuple [a, b])
  | .rev r n, i => bind (seqR r) fun ds => if ds.length = n ∧ i < n then ofO ds[n - 1 - i]? else stuck
  | .str z, i => bind (ofO z.cps[i]?) fun c => ret (.str ⟨#[c]⟩)
/-- the turns from i on, m of them -/
def loopS (src : Src) (body : D → Env → M Fl) : Nat → Nat → Env → M Fl
  | 0, i, e => bind (lenS src) fun n => if n = i then ret (.nx e) else stuck
  | m + 1, i, e => bind (itemS src i) fun d => bind (body d e) fun f => match f with
    | .nx e' => loopS src body m (i + 1) e'
    | .ct e' => loopS src body m (i + 1) e'
    | .bk e' => ret (.nx e')
    | .rt r => ret (.rt r)
/-- the items of a comprehension -/
def mapS (src : Src) (f : D → M (List D)) : Nat → Nat → M (List D)
  | 0, i => bind (lenS src) fun n => if n = i then ret [] else stuck
  | m + 1, i => bind (itemS src i) fun d => bind (f d) fun a => bind (mapS src f m (i + 1)) fun b => ret (a ++ b)
def loopW (test : Env → M Bool) (body : Env → M Fl) : Nat → Env → M Fl
  | 0, _ => stuck
  | n + 1, e => bind (test e) fun b => if b = true then bind (body e) fun f => (match f with
    | .nx e' => loopW test body n e'
    | .ct e' => loopW test body n e'
    | .bk e' => ret (.nx e')
    | .rt r => ret (.rt r)) else ret (.nx e)
def newL (ds : List D) : M R := bind (guard (lenOk ds.length)) fun _ => ret (.n (.list ds))
def setAll : List (Nat × Bool) → List Vl → Env → Option Env
  | [], [], e => some e
  | (i, _) :: is, v :: vs, e => setAll is vs (e.set i (some v))
  | _, _, _ => none
def isL : D → Bool
  | .list _ => true
  | _ => false
def appD (d : D) : D → Option D
  | .list xs => if decide (xs.length < sizeLine) then some (.list (xs ++ [d])) else none
  | _ => none
def extD (ds : List D) : D → Option D
  | .list xs => if lenOk (xs.length + ds.length) then some (.list (xs ++ ds)) else none
  | _ => none
/-- the last item, the item at i, taken away -/
def popD : Option Int → D → Option (D × D)
  | none, .list xs => xs[xs.length - 1]?.map fun y => (y, .list xs.dropLast)
  | some i, .list xs => if decide (-(2 ^ 63) ≤ i) && decide (i < 2 ^ 63) then (match seqIndex? i xs.length with
    | some k => xs[k]?.map fun y => (y, .list (xs.eraseIdx k))
    | none => none) else none
  | _, _ => none
def popM (r : R) (f : D → Option (D × D)) : M R := fun s => match r with
  | .p k => (match s[k]? with
    | some (.fl d) => (match f d with
      | some (y, e) => .ok (.v y) (s.set k (.fl e))
      | none => .no)
    | _ => .no)
  | _ => .no
def mutM (m : Mt) (r : R) (rs : List R) : M R := match m, rs with
  | .append, [q] => bind (take q) fun d => bind (modify r (appD d)) fun _ => ret (.v .none)
  | .extend, [q] => bind (lookP q) fun d => (match d with
    | .list ds => bind (modify r (extD ds)) fun _ => ret (.v .none)
    | _ => stuck)
  | .index, [q] => bind (look r) fun d => bind (look q) fun e => (match d with
    | .list ds => if (shp (.list ds) && shp e) = true then (match findD e ds with
      | some i => ret (.v (.int (i : Nat)))
      | none => stuck) else stuck
    | _ => stuck)
  | .pop, [] => popM r (popD none)
  | .pop, [q] => bind (look q) fun d => (match d with
    | .int i => popM r (popD (some i))
    | _ => stuck)
  | _, _ => stuck

def twoD : List D → Option (List (D × D))
  | [] => some []
  | k :: v :: r => (twoD r).map ((k, v) :: ·)
  | _ => none
mutual
def evE (C : Cfg) : Co → Env → M R
  | .var i, e => getV i e
  | .lit d, _ => ret (.v d)
  | .glb d, _ => ret (.g d)
  | .tup es, e => bind (evTs C es e) fun ds => ret (.v (.tuple ds))
  | .lst es, e => bind (evTs C es e) fun ds => ret (.n (.list ds))
  | .bin o a b, e => bind (evE C a e) fun x => bind (evE C b e) fun y => bind (lookP x) fun d => bind (lookP y) fun d2 => ofO (binD o d d2)
  | .neg a, e => bind (evE C a e) fun x => bind (look x) fun d => match d with
    | .int i => ret (.v (.int (-i)))
    | _ => stuck
  | .noT a, e => bind (evE C a e) fun x => bind (look x) fun d => match d with
    | .bool b => ret (.v (.bool (!b)))
    | _ => stuck
  | .cmp o a b, e => bind (evE C a e) fun x => bind (evE C b e) fun y => bind (look x) fun d => bind (look y) fun d2 => bind (ofO (cmpD o d d2)) fun c => ret (.v (.bool c))
  | .chn o o2 a b c, e => bind (evE C a e) fun x => bind (evE C b e) fun y => bind (look x) fun d => bind (look y) fun d2 => bind (ofO (cmpD o d d2)) fun k =>
      if k = true then bind (evE C c e) fun z => bind (look y) fun d2 => bind (look z) fun d3 => bind (ofO (cmpD o2 d2 d3)) fun k => ret (.v (.bool k)) else ret (.v (.bool false))
  | .and a b, e => bind (evE C a e) fun x => bind (look x) fun d => match d with
    | .bool true => evE C b e
    | .bool false => ret (.v (.bool false))
    | _ => stuck
  | .or a b, e => bind (evE C a e) fun x => bind (look x) fun d => match d with
    | .bool true => ret (.v (.bool true))
    | .bool false => evE C b e
    | _ => stuck
  | .ite t a b, e => bind (evT C t e) fun c => if c = true then evE C a e else evE C b e
  | .ix a b, e => bind (evE C a e) fun x => bind (evE C b e) fun y => bind (look x) fun d => bind (look y) fun d2 => bind (ofO (ixD d d2)) fun r => ret (.v r)
  | .sl a lo hi, e => bind (evE C a e) fun x => bind (evP C lo e) fun l => bind (evP C hi e) fun h => bind (lookP x) fun d => ofO (slD d l h)
  | .call f es perm, e => bind (evAs C es [] e) fun vs => bind (ofO (perm.mapM fun j => vs[j]?)) fun ws => C.call f ws
  | .bi f es, e => bind (evRs C es e) fun rs => bind (looks rs) fun ds => ofO (biD f ds)
  | .mt m o es, e => bind (evE C o e) fun r => bind (look r) fun d => if isL d = true then bind (evRs C es e) fun rs => mutM m r rs else stuck
  | .lc g it ts x, e => bind (evI C it e) fun q => bind (mapS q.1 (fun d => bind (bind1 g d e) fun e' => bind (evAll C ts e') fun c => if c = true then bind (evE C x e') fun r => bind (take r) fun d => ret [d] else ret []) q.2 0) newL
  | .lc2 g it ts g2 it2 ts2 x, e => bind (evI C it e) fun q => bind (mapS q.1 (fun d => bind (bind1 g d (wipeE e (slots [g2]))) fun e' => bind (evAll C ts e') fun c => if c = true then
        (bind (evI C it2 e') fun q2 => mapS q2.1 (fun d => bind (bind1 g2 d e') fun e2 => bind (evAll C ts2 e2) fun c => if c = true then bind (evE C x e2) fun r => bind (take r) fun d => ret [d] else ret []) q2.2 0) else ret []) q.2 0) newL
  | .dsp es, e => stuck
  | .ixs ks es k, e => bind (evTs C es e) fun ds => bind (evE C k e) fun r => bind (look r) fun d => match d with
    | .str x => bind (ofO ((ks.zip ds).lookup x)) fun d => ret (.v d)
    | _ => stuck
  | .sc f g it ts x, e => bind (evI C it e) fun q => bind (mapS q.1 (fun d => bind (bind1 g d e) fun e' => bind (evAll C ts e') fun c => if c = true then bind (evE C x e') fun r => bind (take r) fun d => ret [d] else ret []) q.2 0) fun ds => ofO (biD f [.list ds])
  | .dc g it ts k v, e => stuck
/-- results, nothing taken -/
def evRs (C : Cfg) : List Co → Env → M (List R)
  | [], _ => ret []
  | a :: as, e => bind (evE C a e) fun r => bind (evRs C as e) fun rs => ret (r :: rs)
/-- data, taken -/
def evTs (C : Cfg) : List Co → Env → M (List D)
  | [], _ => ret []
  | a :: as, e => bind (evE C a e) fun r => bind (take r) fun d => bind (evTs C as e) fun ds => ret (d :: ds)
def evAs (C : Cfg) : List Co → List Bool → Env → M (List Vl)
  | [], _, _ => ret []
  | a :: as, ms, e => bind (evE C a e) fun r => bind (hold (ms.headD false) r) fun v => bind (evAs C as ms.tail e) fun vs => ret (v :: vs)
/-- a bound of a slice -/
def evP (C : Cfg) : List Co → Env → M (Option Int)
  | [], _ => ret none
  | [a], e => bind (evE C a e) fun r => bind (look r) fun d => match d with
    | .int i => ret (some i)
    | _ => stuck
  | _, _ => stuck
/-- a test -/
def evT (C : Cfg) : Co → Env → M Bool
  | .and a b, e => bind (evT C a e) fun c => if c = true then evT C b e else ret false
  | .or a b, e => bind (evT C a e) fun c => if c = true then ret true else evT C b e
  | .noT a, e => bind (evT C a e) fun c => ret (!c)
  | .var i, e => bind (getV i e) fun r => bind (look r) fun d => ofO (truD d)
  | .lit d, _ => ofO (truD d)
  | .cmp o a b, e => bind (evE C a e) fun x => bind (evE C b e) fun y => bind (look x) fun d => bind (look y) fun d2 => ofO (cmpD o d d2)
  | .chn o o2 a b c, e => bind (evE C a e) fun x => bind (evE C b e) fun y => bind (look x) fun d => bind (look y) fun d2 => bind (ofO (cmpD o d d2)) fun k =>
      if k = true then bind (evE C c e) fun z => bind (look y) fun d2 => bind (look z) fun d3 => ofO (cmpD o2 d2 d3) else ret false
  | .call f es perm, e => bind (bind (evAs C es [] e) fun vs => bind (ofO (perm.mapM fun j => vs[j]?)) fun ws => C.call f ws) fun r => bind (look r) fun d => ofO (truD d)
  | .bi f es, e => bind (bind (evRs C es e) fun rs => bind (looks rs) fun ds => ofO (biD f ds)) fun r => bind (look r) fun d => ofO (truD d)
  | .ix a b, e => bind (evE C a e) fun x => bind (evE C b e) fun y => bind (look x) fun d => bind (look y) fun d2 => bind (ofO (ixD d d2)) fun r => ofO (truD r)
  | _, _ => stuck
def evAll (C : Cfg) : List Co → Env → M Bool
  | [], _ => ret true
  | [t], e => evT C t e
  | _, _ => stuck
/-- what is walked, how many turns as it stands -/
def evI (C : Cfg) : Wk → Env → M (Src × Nat)
  | .seq a, e => bind (evE C a e) fun r => bind (look r) fun d => match d with
    | .list ds => ret (.seq r, ds.length)
    | .tuple ds => ret (.seq r, ds.length)
    | .str z => ret (.str z, z.cps.size)
    | _ => stuck
  | .rng es, e => bind (evRs C es e) fun rs => bind (looks rs) fun ds => match ds with
    | [.int j] => if smallR j = true then ret (.rng 0 j.toNat, j.toNat) else stuck
    | [.int i, .int j] => if (smallR i && smallR j) = true then ret (.rng i (j - i).toNat, (j - i).toNat) else stuck
    | _ => stuck
  | .enum a, e => bind (evE C a e) fun r => bind (look r) fun d => match d with
    | .list ds => ret (.enum r, ds.length)
    | .tuple ds => ret (.enum r, ds.length)
    | _ => stuck
  | .zip a b, e => bind (evE C a e) fun r => bind (evE C b e) fun q => bind (look r) fun d => bind (look q) fun d2 => match d, d2 with
    | .list as, .list bs => ret (.zip r q, min as.length bs.length)
    | .tuple as, .tuple bs => ret (.zip r q, min as.length bs.length)
    | _, _ => stuck
  | .rev a, e => stuck
  | .items a, e => stuck
end
/-- o[i] = d -/
def setX (C : Cfg) (o i : Co) (d : D) (e : Env) : M Unit := bind (evE C o e) fun x => bind (evE C i e) fun y => bind (look y) fun k => modify x fun c => match c, k with
  | .list xs, .int j => (match ixN xs.length j with
    | some n => some (.list (xs.set n d))
    | none => none)
  | _, _ => none
/-- an assignment's target -/
def setT (C : Cfg) : Tg → R → Env → M Env
  | .s i m, r, e => bind (hold m r) fun v => ret (e.set i (some v))
  | .x o i, r, e => bind (take r) fun d => bind (setX C o i d e) fun _ => ret e
  | .t gs, r, e => bind (lookP r) fun d => bind1 (.t gs) d e
/-- targets one behind another -/
def setTs (C : Cfg) : List Tg → List D → Env → M Env
  | [], [], e => ret e
  | .s i _ :: gs, d :: ds, e => setTs C gs ds (e.set i (some (.v d)))
  | .x o i :: gs, d :: ds, e => bind (setX C o i d e) fun _ => setTs C gs ds e
  | _, _, _ => stuck
mutual
def evS (C : Cfg) : Sm → Env → M Fl
  | .set g a, e => bind (evE C a e) fun r => bind (setT C g r e) fun e' => ret (.nx e')
  | .par is es, e => bind (evAs C es (is.map (·.2)) e) fun vs => bind (ofO (setAll is vs e)) fun e' => ret (.nx e')
  | .unp gs a, e => bind (evE C a e) fun r => bind (lookP r) fun d => match d with
    | .tuple ds => bind (setTs C gs ds e) fun e' => ret (.nx e')
    | _ => stuck
  | .aug i o a, e => bind (getV i e) fun x => bind (evE C a e) fun y => bind (look x) fun d => bind (look y) fun d2 => match d, d2 with
    | .int _, .int _ => bind (ofO (binD o d d2)) fun r => match r with
      | .v d => ret (.nx (e.set i (some (.v d))))
      | _ => stuck
    | _, _ => stuck
  | .ex a, e => bind (evE C a e) fun _ => ret (.nx e)
  | .ret a, e => bind (evE C a e) fun r => ret (.rt r)
  | .retN, _ => ret (.rt (.v .none))
  | .ife t a b, e => bind (evT C t e) fun c => if c = true then evSs C a e else evSs C b e
  | .forr g it body, e => bind (evI C it e) fun q => loopS q.1 (fun d e => bind (bind1 g d e) fun e' => evSs C body e') q.2 0 e
  | .whl t body, e => loopW (fun e => evT C t e) (fun e => evSs C body e) C.wh e
  | .brk, e => ret (.bk e)
  | .cnt, e => ret (.ct e)
  | .pas, e => ret (.nx e)
  | .rse, _ => stuck
def evSs (C : Cfg) : List Sm → Env → M Fl
  | [], e => ret (.nx e)
  | a :: as, e => bind (evS C a e) fun f => match f with
    | .nx e' => evSs C as e'
    | f => ret f
end
/-- a def: how many names it has, its body -/
structure Fd where
  np : Nat
  nn : Nat
  body : List Sm
/-- what a def hands back: an object of its own is new to the caller -/
def leave (base : Nat) (f : Fl) : M R := fun s => match f with
  | .rt (.v d) => .ok (.v d) (s.take base)
  | .rt (.n d) => .ok (.n d) (s.take base)
  | .rt (.p k) => if k < base then .ok (.p k) (s.take base) else (match s[k]? with
    | some (.fl d) => .ok (.n d) (s.take base)
    | _ => .no)
  | .nx _ => .ok (.v .none) (s.take base)
  | _ => .no
def runF (C : Cfg) (fd : Fd) (vs : List Vl) : M R := fun s =>
  if vs.length = fd.np then bind (evSs C fd.body (vs.map some ++ List.replicate (fd.nn - fd.np) none)) (leave s.length) s else .no
def evC (T : List Fd) (wh : Nat) : Nat → Nat → List Vl → M R
  | 0, _, _ => stuck
  | n + 1, f, vs => match T[f]? with
    | some fd => runF ⟨evC T wh n, wh⟩ fd vs
    | none => stuck
end Vm

set_option Elab.async false
set_option linter.all false
set_option maxRecDepth 100000
set_option maxHeartbeats 4000000
/-! Vm: soundness, part 1: judgements, names, operators. -/
namespace Vm
open PySem PySem.Spec PyProof.Rows L2

inductive VRep (K : PySem.W.Frag) (ρ : Rho) (Hf : Hp) : Vl → V → Prop
  | v {d : D} {x : V} : Rep K Hf x d → VRep K ρ Hf (.v d) x
  | p {k : Nat} {a : Addr} : ρ[k]? = some a → VRep K ρ Hf (.p k) (.ref a)
  | g {d : D} {x : V} : GRep K Hf d x → VRep K ρ Hf (.g d) x
def OV (K : PySem.W.Frag) (ρ : Rho) (Hf : Hp) : Option Vl → Option V → Prop
  | none, _ => True
  | some l, some x => VRep K ρ Hf l x
  | some _, none => False
abbrev EnvOk (K : PySem.W.Frag) (ρ : Rho) (Hf : Hp) (env : Env) (σ : L2.St) : Prop := Paired (OV K ρ Hf) env σ
theorem VRep.ext {K : PySem.W.Frag} {s s' : Sto} {ρ ρ' : Rho} {Hf H Hf' H' : Hp} {l : Vl} {x : V} (h : VRep K ρ Hf l x) (e : Ext s ρ Hf H s' ρ' Hf' H') : VRep K ρ' Hf' l x := by
  cases h with
  | v r => exact .v (r.mono e.fz)
  | p h => exact .p (pre_get e.pre h)
  | g h => exact .g (h.mono e.fz)
theorem EnvOk.ext {K : PySem.W.Frag} {s s' : Sto} {ρ ρ' : Rho} {Hf H Hf' H' : Hp} {env : Env} {σ : L2.St} (h : EnvOk K ρ Hf env σ) (e : Ext s ρ Hf H s' ρ' Hf' H') : EnvOk K ρ' Hf' env σ :=
  Paired.mapP h fun a b q => by
    cases a with
    | none => trivial
    | some l => cases b with
      | none => exact q
      | some x => exact VRep.ext q e
theorem Paired.get {α β : Type} {F : α → β → Prop} : ∀ {xs : List α} {ys : List β} {i : Nat} {a : α}, Paired F xs ys → xs[i]? = some a → ∃ b, ys[i]? = some b ∧ F a b
  | _, _, _, _, .nil, e => by simp at e
  | _, _, 0, _, .cons r _, e => by simp at e; subst e; exact ⟨_, rfl, r⟩
  | _, _, i + 1, a, .cons _ t, e => by
    obtain ⟨u, h1, h2⟩ := Paired.get (i := i) (a := a) t (by simpa using e)
    exact ⟨u, by simpa using h1, h2⟩
theorem Paired.set {α β : Type} {F : α → β → Prop} {a : α} {b : β} (r : F a b) : ∀ {xs : List α} {ys : List β} (i : Nat), Paired F xs ys → Paired F (xs.set i a) (ys.set i b)
  | _, _, _, .nil => .nil
  | _, _, 0, .cons _ t => .cons r t
  | _, _, i + 1, .cons q t => .cons q (Paired.set r i t)

/-- what is wanted behind a run -/
def Post (K : PySem.W.Frag) {α β : Type} (s : Sto) (ρ : Rho) (Hf H : Hp) (Rel : Sto → Rho → Hp → Hp → Hp → α → β → Prop) (out : Out α) (Q : β → Hp → Prop) : Prop := match out with
  | .ok a s' => ∀ b ρ' Hf' H', WOk K s' ρ' Hf' H' → Ext s ρ Hf H s' ρ' Hf' H' → Rel s' ρ' Hf' H' H a b → Q b H'
  | .no => False
theorem Post.bind {K : PySem.W.Frag} {α β γ : Type} {s0 s : Sto} {ρ : Rho} {Hf H : Hp} {Rel : Sto → Rho → Hp → Hp → Hp → γ → β → Prop} {x : M α} {f : α → M γ} {Q : β → Hp → Prop} (h : Post K s0 ρ Hf H Rel (Vm.bind x f s) Q) :
    ∃ a s1, x s = .ok a s1 ∧ Post K s0 ρ Hf H Rel (f a s1) Q := by
  unfold Vm.bind at h
  cases e : x s with
  | ok a s1 => rw [e] at h; exact ⟨a, s1, rfl, h⟩
  | no => rw [e] at h; exact False.elim h
/-- from a later start -/
theorem Post.at {K : PySem.W.Frag} {α β : Type} {s0 s1 : Sto} {ρ0 ρ1 : Rho} {Hf0 H0 Hf1 H1 : Hp} {Rel Rel' : Sto → Rho → Hp → Hp → Hp → α → β → Prop} {out : Out α} {Q : β → Hp → Prop} (h : Post K s0 ρ0 Hf0 H0 Rel out Q)
    (x : Ext s0 ρ0 Hf0 H0 s1 ρ1 Hf1 H1) (hr : ∀ s' ρ' Hf' H' a b, Rel' s' ρ' Hf' H' H1 a b → Rel s' ρ' Hf' H' H0 a b) : Post K s1 ρ1 Hf1 H1 Rel' out Q := by
  cases out with
  | ok a s' => exact fun b ρ' Hf' H' w e r => h b ρ' Hf' H' w (x.trans e) (hr _ _ _ _ _ _ r)
  | no => exact h
abbrev ReR (K : PySem.W.Frag) : Sto → Rho → Hp → Hp → Hp → R → V → Prop := fun s' ρ' Hf' H' H0 r v => RRep K s' ρ' Hf' H' r v ∧ Fresh H0 r v
theorem ReR.back {K : PySem.W.Frag} {s0 s1 : Sto} {ρ0 ρ1 : Rho} {Hf0 H0 Hf1 H1 : Hp} (x : Ext s0 ρ0 Hf0 H0 s1 ρ1 Hf1 H1) : ∀ s' ρ' Hf' H' a b, ReR K s' ρ' Hf' H' H1 a b → ReR K s' ρ' Hf' H' H0 a b :=
  fun _ _ _ _ _ _ h => ⟨h.1, h.2.back x⟩
/-- a run's reading -/
def Rdg (K : PySem.W.Frag) {α β : Type} (Rel : Sto → Rho → Hp → Hp → Hp → α → β → Prop) (env : Env) (s : Sto) (out : Out α) : L2.St → Hp → (β → Hp → Prop) → Prop := fun σ H Q =>
  ∃ ρ Hf, WOk K s ρ Hf H ∧ EnvOk K ρ Hf env σ ∧ Post K s ρ Hf H Rel out Q
abbrev TEv (K : PySem.W.Frag) (env : Env) (s : Sto) (out : Out R) : TE := Rdg K (ReR K) env s out
/-- a Bool -/
abbrev ReB : Sto → Rho → Hp → Hp → Hp → Bool → Bool → Prop := fun _ _ _ _ _ a b => a = b
abbrev TTv (K : PySem.W.Frag) (env : Env) (s : Sto) (out : Out Bool) : TT := Rdg K ReB env s out
section
variable {X : Cx} {e : Expr}
theorem PE.conseq {t t' : TE} (h : PE X e t) (k : ∀ σ H Q, t' σ H Q → t σ H Q) : PE X e t' := ⟨fun pins s σ H Q I q => h.run pins s σ H Q I (k σ H Q q)⟩
theorem PT.conseq {t t' : TT} (h : PT X e t) (k : ∀ σ H Q, t' σ H Q → t σ H Q) : PT X e t' := ⟨fun pins s σ H Q I q => h.run pins s σ H Q I (k σ H Q q)⟩
theorem PA.conseq {es : List Expr} {t t' : TA} (h : PA X es t) (k : ∀ σ H Q, t' σ H Q → t σ H Q) : PA X es t' := ⟨fun pos pins s σ H Q I q => h.run pos pins s σ H Q I (k σ H Q q)⟩
theorem PE.ff {t : TE} (k : ∀ σ H Q, ¬ t σ H Q) : PE X e t := ⟨fun _ _ σ H Q _ q => (k σ H Q q).elim⟩
theorem PT.ff {t : TT} (k : ∀ σ H Q, ¬ t σ H Q) : PT X e t := ⟨fun _ _ σ H Q _ q => (k σ H Q q).elim⟩
theorem PA.ff {es : List Expr} {t : TA} (k : ∀ σ H Q, ¬ t σ H Q) : PA X es t := ⟨fun _ _ _ σ H Q _ q => (k σ H Q q).elim⟩
end
theorem Rdg.no {K : PySem.W.Frag} {α β : Type} {Rel : Sto → Rho → Hp → Hp → Hp → α → β → Prop} {env : Env} {s : Sto} {σ : L2.St} {H : Hp} {Q : β → Hp → Prop} : ¬ Rdg K Rel env s (.no : Out α) σ H Q := fun ⟨_, _, _, _, h⟩ => h

/-- an expression and its code -/
def SE (X : Cx) (C : Cfg) (e : Expr) (c : Co) : Prop := ∀ env s, PE X e (TEv X.K env s (evE C c env s))
def ST (X : Cx) (C : Cfg) (e : Expr) (c : Co) : Prop := ∀ env s, PT X e (TTv X.K env s (evT C c env s))

section
variable {X : Cx} {C : Cfg} {a b e : Expr} {ca cb c : Co} {pos : Pos}
/-! ### names, constants -/
theorem ev_ret {α : Type} {a : α} {s : Sto} : ret a s = .ok a s := rfl
/-- the end of a reading: a value that is there -/
theorem Post.fin {K : PySem.W.Frag} {s : Sto} {ρ : Rho} {Hf H : Hp} {r : R} {v : V} {Q : VK} (w : WOk K s ρ Hf H) (h : Post K s ρ Hf H (ReR K) (.ok r s) Q) (q : RRep K s ρ Hf H r v) (f : Fresh H r v) : Q v H :=
  h v ρ Hf H w .refl ⟨q, f⟩
theorem Post.fin' {K : PySem.W.Frag} {s0 s : Sto} {ρ0 ρ : Rho} {Hf0 H0 Hf H : Hp} {r : R} {v : V} {Q : VK} (w : WOk K s ρ Hf H) (x : Ext s0 ρ0 Hf0 H0 s ρ Hf H) (h : Post K s0 ρ0 Hf0 H0 (ReR K) (.ok r s) Q) (q : RRep K s ρ Hf H r v) (f : Fresh H0 r v) : Q v H :=
  h v ρ Hf H w x ⟨q, f⟩
theorem se_var {i : Nat} {x : Str} (hN : X.N[i]? = some x) (hv : Vis X.env.scope x) (hd : (x == ("__debug__" : Str)) = false) (hcd : (x == ("__classdict__" : Str)) = false) : SE X C (.Name x pos) (.var i) := fun env s =>
  PE.conseq (pe_var hN hv hd hcd) fun σ H Q h => by
    obtain ⟨ρ, Hf, w, eo, h⟩ := h
    have h : Post X.K s ρ Hf H (ReR X.K) (getV i env s) Q := h
    unfold getV at h
    cases q : env[i]? with
    | none => rw [q] at h; exact h.elim
    | some o =>
      cases o with
      | none => rw [q] at h; exact h.elim
      | some l =>
        obtain ⟨b, h1, h2⟩ := Paired.get eo q
        cases b with
        | none => exact h2.elim
        | some x =>
          refine ⟨x, h1, ?_⟩
          cases l with
          | v d =>
            rw [q] at h
            cases h2 with
            | v r => exact Post.fin w h (.v r) trivial
          | p k =>
            rw [q] at h
            cases h2 with
            | p r => exact Post.fin w h (.p r) trivial
          | g d =>
            rw [q] at h
            cases h2 with
            | g r => exact Post.fin w h (.g r) trivial
theorem se_con {v : V} {d : D} (hp : PE X e (tC v)) (r : ∀ H, Rep X.K H v d) : SE X C e (.lit d) := fun env s =>
  PE.conseq hp fun σ H Q h => by
    obtain ⟨ρ, Hf, w, eo, h⟩ := h
    exact Post.fin w h (.v (r Hf)) trivial

/-! ### two operands -/
/-- a rule of two values, by their data -/
def rBL (lk : R → M D) (K : PySem.W.Frag) (f : D → D → M R) : R2 := fun x y H Q => ∃ s ρ Hf ra rb, WOk K s ρ Hf H ∧ RRep K s ρ Hf H ra x ∧ RRep K s ρ Hf H rb y ∧ Post K s ρ Hf H (ReR K) (bind (lk ra) (fun d => bind (lk rb) fun d2 => f d d2) s) Q
abbrev rB := rBL look
abbrev rBP := rBL lookP
theorem lookP_ok {r : R} {s s2 : Sto} {d : D} (h : lookP r s = .ok d s2) : view s r = some d ∧ s2 = s ∧ ∀ e, r ≠ .g e := by
  cases r with
  | g e => cases h
  | v e =>
    have h : look (.v e) s = .ok d s2 := h
    exact ⟨(look_ok h).1, (look_ok h).2, fun _ z => by cases z⟩
  | n e =>
    have h : look (.n e) s = .ok d s2 := h
    exact ⟨(look_ok h).1, (look_ok h).2, fun _ z => by cases z⟩
  | p e =>
    have h : look (.p e) s = .ok d s2 := h
    exact ⟨(look_ok h).1, (look_ok h).2, fun _ z => by cases z⟩
theorem rBL.un {K : PySem.W.Frag} {f : D → D → M R} {x y : V} {H : Hp} {Q : VK} (h : rB K f x y H Q) : ∃ s ρ Hf ra rb d d2, WOk K s ρ Hf H ∧ RRep K s ρ Hf H ra x ∧ RRep K s ρ Hf H rb y ∧ view s ra = some d ∧ view s rb = some d2 ∧ Post K s ρ Hf H (ReR K) (f d d2 s) Q := by
  obtain ⟨s, ρ, Hf, ra, rb, w, r1, r2, h⟩ := h
  obtain ⟨d, s1, e1, h⟩ := h.bind
  obtain ⟨v1, rfl⟩ := look_ok e1
  obtain ⟨d2, s2, e2, h⟩ := h.bind
  obtain ⟨v2, rfl⟩ := look_ok e2
  exact ⟨_, ρ, Hf, ra, rb, d, d2, w, r1, r2, v1, v2, h⟩
theorem rBP.un {K : PySem.W.Frag} {f : D → D → M R} {x y : V} {H : Hp} {Q : VK} (h : rBP K f x y H Q) : ∃ s ρ Hf ra rb d d2, WOk K s ρ Hf H ∧ RRep K s ρ Hf H ra x ∧ RRep K s ρ Hf H rb y ∧ view s ra = some d ∧ view s rb = some d2 ∧ ((∀ e, ra ≠ .g e) ∧ ∀ e, rb ≠ .g e) ∧ Post K s ρ Hf H (ReR K) (f d d2 s) Q := by
  obtain ⟨s, ρ, Hf, ra, rb, w, r1, r2, h⟩ := h
  obtain ⟨d, s1, e1, h⟩ := h.bind
  obtain ⟨v1, rfl, n1⟩ := lookP_ok e1
  obtain ⟨d2, s2, e2, h⟩ := h.bind
  obtain ⟨v2, rfl, n2⟩ := lookP_ok e2
  exact ⟨_, ρ, Hf, ra, rb, d, d2, w, r1, r2, v1, v2, ⟨n1, n2⟩, h⟩
/-- both evaluated, then the rule -/
theorem two {lk : R → M D} {f : D → D → M R} {env : Env} {s : Sto} {σ : L2.St} {H : Hp} {Q : VK} {s1 : Sto} {ra : R} (ea : evE C ca env s = .ok ra s1)
    (h : TEv X.K env s (bind (evE C ca env) (fun x => bind (evE C cb env) fun y => bind (lk x) fun d => bind (lk y) fun d2 => f d d2) s) σ H Q) :
    TEv X.K env s (evE C ca env s) σ H (fun x H1 => TEv X.K env s1 (evE C cb env s1) σ H1 (fun y H2 => rBL lk X.K f x y H2 Q)) := by
  obtain ⟨ρ, Hf, w, eo, h⟩ := h
  obtain ⟨ra', s1', ea', h⟩ := h.bind
  rw [ea] at ea'
  cases ea'
  obtain ⟨rb, s2, eb, h⟩ := h.bind
  refine ⟨ρ, Hf, w, eo, ?_⟩
  rw [ea]
  intro x ρ1 Hf1 H1 w1 x1 rx
  refine ⟨ρ1, Hf1, w1, eo.ext x1, ?_⟩
  rw [eb]
  intro y ρ2 Hf2 H2 w2 x2 ry
  exact ⟨s2, ρ2, Hf2, ra, rb, w2, rx.1.ext x2, ry.1, h.at (x1.trans x2) (ReR.back (x1.trans x2))⟩
theorem Rdg.ok_of {K : PySem.W.Frag} {α β γ : Type} {Rel : Sto → Rho → Hp → Hp → Hp → γ → β → Prop} {env : Env} {s : Sto} {x : M α} {f : α → M γ} {σ : L2.St} {H : Hp} {Q : β → Hp → Prop} (h : Rdg K Rel env s (bind x f s) σ H Q) : ∃ a s1, x s = .ok a s1 := by
  obtain ⟨_, _, _, _, h⟩ := h
  obtain ⟨a, s1, e, _⟩ := h.bind
  exact ⟨a, s1, e⟩
/-- by the first operand's end -/
theorem se_op2 {lk : R → M D} {mk : TE → TE → TE} {f : D → D → M R} (rule : ∀ ta tb : TE, PE X a ta → PE X b tb → PE X e (mk ta tb)) (hmk : mk = fun ta tb σ H Q => ta σ H fun x H1 => tb σ H1 fun y H2 => rBL lk X.K f x y H2 Q) (ha : SE X C a ca) (hb : SE X C b cb) :
    ∀ env s, PE X e (TEv X.K env s (bind (evE C ca env) (fun x => bind (evE C cb env) fun y => bind (lk x) fun d => bind (lk y) fun d2 => f d d2) s)) := fun env s => by
  cases ea : evE C ca env s with
  | no =>
    refine PE.ff fun σ H Q h => ?_
    obtain ⟨a, s1, e⟩ := Rdg.ok_of h
    rw [ea] at e
    cases e
  | ok ra s1 =>
    refine PE.conseq (rule _ _ (ha env s) (hb env s1)) fun σ H Q h => ?_
    rw [hmk]
    exact two ea h
theorem se_bin {op : Operator} {o : Bo} (ho : OpR X (binaryOp op) (rBP X.K fun d d2 => ofO (binD o d d2))) (ha : SE X C a ca) (hb : SE X C b cb) : SE X C (.BinOp a op b pos) (.bin o ca cb) :=
  se_op2 (mk := tOp (rBP X.K fun d d2 => ofO (binD o d d2))) (fun ta tb pa pb => pe_op ho pa pb) rfl ha hb
theorem se_cmp {op : CmpOp} {o : Cp} (ho : OpR X (compareOp op) (rB X.K fun d d2 => bind (ofO (cmpD o d d2)) fun c => ret (.v (.bool c)))) (hm : behindInMarks op b = false) (ha : SE X C a ca) (hb : SE X C b cb) : SE X C (.Compare a [op] [b] pos) (.cmp o ca cb) :=
  se_op2 (mk := tOp (rB X.K fun d d2 => bind (ofO (cmpD o d d2)) fun c => ret (.v (.bool c)))) (fun ta tb pa pb => pe_cmpR ho pa pb hm) rfl ha hb
theorem se_ix (ho : IxR X (rB X.K fun d d2 => bind (ofO (ixD d d2)) fun r => ret (.v r))) (hs : PlainIx b) (ha : SE X C a ca) (hb : SE X C b cb) : SE X C (.Subscript a b pos) (.ix ca cb) :=
  se_op2 (mk := tOp (rB X.K fun d d2 => bind (ofO (ixD d d2)) fun r => ret (.v r))) (fun ta tb pa pb => pe_ix ho pa pb hs) rfl ha hb
end
end Vm

set_option Elab.async false
set_option linter.all false
set_option maxRecDepth 100000
set_option maxHeartbeats 4000000
/-! Vm: soundness, part 2: the operators by their data. -/
namespace Vm
open PySem PySem.Spec PyProof.Rows L2
section
variable {K : PySem.W.Frag} {s : Sto} {ρ : Rho} {Hf H : Hp} {Q : VK}
theorem post_if {b : Bool} {r : R} (h : Post K s ρ Hf H (ReR K) (ofO (if b = true then some r else none) s) Q) : b = true ∧ Post K s ρ Hf H (ReR K) (.ok r s) Q := by
  cases b with
  | true => exact ⟨rfl, h⟩
  | false => exact h.elim
theorem post_o {o : Option R} (h : Post K s ρ Hf H (ReR K) (ofO o s) Q) : ∃ r, o = some r ∧ Post K s ρ Hf H (ReR K) (.ok r s) Q := by
  cases o with
  | some r => exact ⟨r, rfl, h⟩
  | none => exact h.elim
theorem Rep.int_of {x : V} {i : Int} (h : Rep K H x (.int i)) : x = .int i := by cases h; rfl
theorem Rep.bool_of {x : V} {b : Bool} (h : Rep K H x (.bool b)) : x = .bl b := by cases h; rfl
theorem Rep.str_of {x : V} {z : Str} (h : Rep K H x (.str z)) : x = .str z := by cases h; rfl
theorem Rep.none_of {x : V} (h : Rep K H x .none) : x = .non := by cases h; rfl
theorem Rep.list_of {x : V} {ds : List D} (h : Rep K H x (.list ds)) : ∃ a xs, x = .ref a ∧ H a = some (.lst xs) ∧ Reps K H xs ds := by
  cases h with
  | lst h r => exact ⟨_, _, rfl, h, r⟩
theorem Rep.tup_of {x : V} {ds : List D} (h : Rep K H x (.tuple ds)) : ∃ a xs, x = .ref a ∧ H a = some (.tup xs) ∧ Reps K H xs ds := by
  cases h with
  | tup h r => exact ⟨_, _, rfl, h, r⟩
theorem _root_.Vm.RRep.int {r : R} {x : V} {i : Int} (h : RRep K s ρ Hf H r x) (w : WOk K s ρ Hf H) (e : view s r = some (.int i)) : x = .int i := (h.view w e (by intro _ z; cases z) (by intro _ z; cases z)).int_of
theorem _root_.Vm.RRep.str {r : R} {x : V} {i : Str} (h : RRep K s ρ Hf H r x) (w : WOk K s ρ Hf H) (e : view s r = some (.str i)) : x = .str i := (h.view w e (by intro _ z; cases z) (by intro _ z; cases z)).str_of
theorem _root_.Vm.RRep.bool {r : R} {x : V} {i : Bool} (h : RRep K s ρ Hf H r x) (w : WOk K s ρ Hf H) (e : view s r = some (.bool i)) : x = .bl i := (h.view w e (by intro _ z; cases z) (by intro _ z; cases z)).bool_of
theorem _root_.Vm.RRep.non {r : R} {x : V} (h : RRep K s ρ Hf H r x) (w : WOk K s ρ Hf H) (e : view s r = some .none) : x = .non := (h.view w e (by intro _ z; cases z) (by intro _ z; cases z)).none_of
theorem Post.int (w : WOk K s ρ Hf H) {i : Int} (h : Post K s ρ Hf H (ReR K) (.ok (.v (.int i)) s) Q) : Q (.int i) H := Post.fin w h (.v (.int i)) trivial
theorem Post.bool (w : WOk K s ρ Hf H) {i : Bool} (h : Post K s ρ Hf H (ReR K) (.ok (.v (.bool i)) s) Q) : Q (.bl i) H := Post.fin w h (.v (.bl i)) trivial
theorem Post.str (w : WOk K s ρ Hf H) {i : Str} (h : Post K s ρ Hf H (ReR K) (.ok (.v (.str i)) s) Q) : Q (.str i) H := Post.fin w h (.v (.str i)) trivial
theorem Post.non (w : WOk K s ρ Hf H) (h : Post K s ρ Hf H (ReR K) (.ok (.v .none) s) Q) : Q .non H := Post.fin w h (.v .non) trivial
/-- a new list -/
theorem Post.newL (w : WOk K s ρ Hf H) {xs : List V} {ds : List D} (h : Post K s ρ Hf H (ReR K) (.ok (.n (.list ds)) s) Q) (r : Reps K Hf xs ds) {p : Addr} (hp : H p = none) : Q (.ref p) (upd H p (.lst xs)) :=
  h _ ρ Hf _ (w.new hp) (.new w hp) ⟨.new w hp (.lst r), p, rfl, hp⟩
/-- a new tuple -/
theorem Post.newT (w : WOk K s ρ Hf H) {xs : List V} {ds : List D} (h : Post K s ρ Hf H (ReR K) (.ok (.v (.tuple ds)) s) Q) (r : Reps K Hf xs ds) {p : Addr} (hp : H p = none) : Q (.ref p) (upd H p (.tup xs)) :=
  h _ ρ (upd Hf p (.tup xs)) _ (w.fresh hp) (.fresh w hp) ⟨.v (.tup upd_same (r.mono (same_new (w.fnone hp)))), trivial⟩
theorem Reps.nil_iff {xs : List V} {ds : List D} (r : Reps K H xs ds) : xs = [] ↔ ds = [] := by
  cases r <;> simp
theorem Reps.flat {xs : List V} {ds : List D} (r : Reps K H xs ds) : ∀ n : Nat, Reps K H (List.replicate n xs).flatten (rep n ds)
  | 0 => .nil
  | n + 1 => by
    rw [List.replicate_succ, List.flatten_cons]
    exact r.append (Reps.flat r n)
end
section
variable {X : Cx}
theorem ob_add : OpR X (binaryOp .Add) (rBP X.K fun d d2 => ofO (binD .add d d2)) := by
  intro pins s σ H x y v u Q I rx ry h0
  obtain ⟨st, ρ, Hf, ra, rb, d, d2, w, r1, r2, v1, v2, ng, h⟩ := rBP.un h0
  clear h0
  cases d <;> cases d2 <;> first | exact h.elim | skip
  · rw [r1.int w v1] at rx; rw [r2.int w v2] at ry
    exact op_add pins s σ H _ _ v u Q I rx ry ⟨_, _, rfl, rfl, h.int w⟩
  · rw [r1.str w v1] at rx; rw [r2.str w v2] at ry
    obtain ⟨hz, h⟩ := post_if h
    exact op_add_str pins s σ H _ _ v u Q I rx ry ⟨_, _, rfl, rfl, of_decide_eq_true hz, h.str w⟩
  · obtain ⟨hz, h9⟩ := post_if h
    clear h
    obtain ⟨a, xs, rfl, ha, ea⟩ := r1.lstN w v1 ng.1
    obtain ⟨b, ys, rfl, hb, eb⟩ := r2.lstN w v2 ng.2
    exact op_cat pins s σ H _ _ v u Q I rx ry ⟨a, b, xs, ys, rfl, rfl, ha, hb, by rw [ea.length, eb.length]; exact of_decide_eq_true hz, fun p hp => h9.newL w (ea.append eb) hp⟩
  · obtain ⟨hz, h9⟩ := post_if h
    clear h
    obtain ⟨a, xs, rfl, ha, ea⟩ := r1.tup w v1
    obtain ⟨b, ys, rfl, hb, eb⟩ := r2.tup w v2
    refine op_catA pins s σ H _ _ v u Q I rx ry ⟨a, b, xs, ys, rfl, rfl, ha, hb, by rw [ea.length, eb.length]; exact of_decide_eq_true hz, fun z => ?_, fun _ z => ?_, fun _ _ p hp => h9.newT w (ea.append eb) hp⟩
    · rename_i ds es
      have z := ea.nil_iff.mp z
      subst z
      rcases r2.partsN w v2 ng.2 with q | ⟨a, u, _, _, q⟩
      · exact Post.fin w h9 (.v q) trivial
      · cases q
    · rename_i ds es _
      have z := eb.nil_iff.mp z
      subst z
      rcases r1.partsN w v1 ng.1 with q | ⟨a, u, _, _, q⟩
      · rw [List.append_nil] at h9
        exact Post.fin w h9 (.v q) trivial
      · cases q
theorem ob_sub : OpR X (binaryOp .Sub) (rBP X.K fun d d2 => ofO (binD .sub d d2)) := by
  intro pins s σ H x y v u Q I rx ry h0
  obtain ⟨st, ρ, Hf, ra, rb, d, d2, w, r1, r2, v1, v2, ng, h⟩ := rBP.un h0
  clear h0
  cases d <;> cases d2 <;> first | exact h.elim | skip
  rw [r1.int w v1] at rx; rw [r2.int w v2] at ry
  exact op_sub pins s σ H _ _ v u Q I rx ry ⟨_, _, rfl, rfl, h.int w⟩
theorem smallI_ok {i j : Int} (h : (smallI i || smallI j) = true) : CMul i j := by
  rcases Bool.or_eq_true_iff.mp h with h | h
  · obtain ⟨h1, h2⟩ := Bool.and_eq_true_iff.mp h
    exact .inl ⟨of_decide_eq_true h1, of_decide_eq_true h2⟩
  · obtain ⟨h1, h2⟩ := Bool.and_eq_true_iff.mp h
    exact .inr ⟨of_decide_eq_true h1, of_decide_eq_true h2⟩
theorem ob_mod : OpR X (binaryOp .Mod) (rBP X.K fun d d2 => ofO (binD .mod d d2)) := by
  intro pins s σ H x y v u Q I rx ry h0
  obtain ⟨st, ρ, Hf, ra, rb, d, d2, w, r1, r2, v1, v2, ng, h⟩ := rBP.un h0
  clear h0
  cases d <;> cases d2 <;> first | exact h.elim | skip
  rw [r1.int w v1] at rx; rw [r2.int w v2] at ry
  obtain ⟨hz, h⟩ := post_if h
  exact op_mod pins s σ H _ _ v u Q I rx ry ⟨_, _, rfl, rfl, of_decide_eq_true hz, h.int w⟩
theorem ob_fdiv : OpR X (binaryOp .FloorDiv) (rBP X.K fun d d2 => ofO (binD .fdiv d d2)) := by
  intro pins s σ H x y v u Q I rx ry h0
  obtain ⟨st, ρ, Hf, ra, rb, d, d2, w, r1, r2, v1, v2, ng, h⟩ := rBP.un h0
  clear h0
  cases d <;> cases d2 <;> first | exact h.elim | skip
  rw [r1.int w v1] at rx; rw [r2.int w v2] at ry
  obtain ⟨hz, h⟩ := post_if h
  obtain ⟨h1, h2⟩ := Bool.and_eq_true_iff.mp hz
  exact op_fdiv pins s σ H _ _ v u Q I rx ry ⟨_, _, rfl, rfl, ⟨of_decide_eq_true h1, of_decide_eq_true h2⟩, h.int w⟩
theorem ob_pow : OpR X (binaryOp .Pow) (rBP X.K fun d d2 => ofO (binD .pow d d2)) := by
  intro pins s σ H x y v u Q I rx ry h0
  obtain ⟨st, ρ, Hf, ra, rb, d, d2, w, r1, r2, v1, v2, ng, h⟩ := rBP.un h0
  clear h0
  cases d <;> cases d2 <;> first | exact h.elim | skip
  rw [r1.int w v1] at rx; rw [r2.int w v2] at ry
  obtain ⟨hz, h⟩ := post_if h
  obtain ⟨h1, h3⟩ := Bool.and_eq_true_iff.mp hz
  obtain ⟨h1, h2⟩ := Bool.and_eq_true_iff.mp h1
  exact op_pow pins s σ H _ _ v u Q I rx ry ⟨_, _, rfl, rfl, ⟨of_decide_eq_true h1, of_decide_eq_true h2, of_decide_eq_true h3⟩, h.int w⟩
theorem ob_shl : OpR X (binaryOp .LShift) (rBP X.K fun d d2 => ofO (binD .shl d d2)) := by
  intro pins s σ H x y v u Q I rx ry h0
  obtain ⟨st, ρ, Hf, ra, rb, d, d2, w, r1, r2, v1, v2, ng, h⟩ := rBP.un h0
  clear h0
  cases d <;> cases d2 <;> first | exact h.elim | skip
  rw [r1.int w v1] at rx; rw [r2.int w v2] at ry
  obtain ⟨hz, h⟩ := post_if h
  obtain ⟨h1, h3⟩ := Bool.and_eq_true_iff.mp hz
  obtain ⟨h1, h2⟩ := Bool.and_eq_true_iff.mp h1
  exact op_shl pins s σ H _ _ v u Q I rx ry ⟨_, _, rfl, rfl, ⟨of_decide_eq_true h1, of_decide_eq_true h2, of_decide_eq_true h3⟩, h.int w⟩
theorem ob_shr : OpR X (binaryOp .RShift) (rBP X.K fun d d2 => ofO (binD .shr d d2)) := by
  intro pins s σ H x y v u Q I rx ry h0
  obtain ⟨st, ρ, Hf, ra, rb, d, d2, w, r1, r2, v1, v2, ng, h⟩ := rBP.un h0
  clear h0
  cases d <;> cases d2 <;> first | exact h.elim | skip
  rw [r1.int w v1] at rx; rw [r2.int w v2] at ry
  obtain ⟨hz, h⟩ := post_if h
  exact op_shr pins s σ H _ _ v u Q I rx ry ⟨_, _, rfl, rfl, of_decide_eq_true hz, h.int w⟩
theorem ob_and : OpR X (binaryOp .BitAnd) (rBP X.K fun d d2 => ofO (binD .band d d2)) := by
  intro pins s σ H x y v u Q I rx ry h0
  obtain ⟨st, ρ, Hf, ra, rb, d, d2, w, r1, r2, v1, v2, ng, h⟩ := rBP.un h0
  clear h0
  cases d <;> cases d2 <;> first | exact h.elim | skip
  rw [r1.int w v1] at rx; rw [r2.int w v2] at ry
  exact op_and pins s σ H _ _ v u Q I rx ry ⟨_, _, rfl, rfl, h.int w⟩
theorem ob_or : OpR X (binaryOp .BitOr) (rBP X.K fun d d2 => ofO (binD .bor d d2)) := by
  intro pins s σ H x y v u Q I rx ry h0
  obtain ⟨st, ρ, Hf, ra, rb, d, d2, w, r1, r2, v1, v2, ng, h⟩ := rBP.un h0
  clear h0
  cases d <;> cases d2 <;> first | exact h.elim | skip
  rw [r1.int w v1] at rx; rw [r2.int w v2] at ry
  exact op_or pins s σ H _ _ v u Q I rx ry ⟨_, _, rfl, rfl, h.int w⟩
theorem ob_xor : OpR X (binaryOp .BitXor) (rBP X.K fun d d2 => ofO (binD .bxor d d2)) := by
  intro pins s σ H x y v u Q I rx ry h0
  obtain ⟨st, ρ, Hf, ra, rb, d, d2, w, r1, r2, v1, v2, ng, h⟩ := rBP.un h0
  clear h0
  cases d <;> cases d2 <;> first | exact h.elim | skip
  rw [r1.int w v1] at rx; rw [r2.int w v2] at ry
  exact op_xor pins s σ H _ _ v u Q I rx ry ⟨_, _, rfl, rfl, h.int w⟩

/-! ### data without dicts -/
mutual
theorem Rep.dp {K : PySem.W.Frag} {H : Hp} : ∀ {d : D} {v : V}, Rep K H v d → d.canLay0 = true → Dp K H v d
  | _, _, .non, _ => .non
  | _, _, .bl b, _ => .bl b
  | _, _, .int i, _ => .int i
  | _, _, .str x, _ => .str x
  | .list ds, _, .lst h r, c => .lst (.of h) (Reps.dp r (by simpa [PyData.canLay0] using c))
  | .tuple ds, _, .tup h r, c => .tup (.of h) (Reps.dp r (by simpa [PyData.canLay0] using c))
  | .dict _, _, _, c => by simp [PyData.canLay0] at c
theorem Reps.dp {K : PySem.W.Frag} {H : Hp} : ∀ {ds : List D} {vs : List V}, Reps K H vs ds → PyData.canLayAll0 ds = true → DpAll K H vs ds
  | _, _, .nil, _ => .nil
  | d :: ds, _, .cons r t, c => by
    have c' : d.canLay0 = true ∧ PyData.canLayAll0 ds = true := by simpa [PyData.canLayAll0] using c
    exact .cons (Rep.dp r c'.1) (Reps.dp t c'.2)
end
theorem RRep.dp {K : PySem.W.Frag} {s : Sto} {ρ : Rho} {Hf H : Hp} {r : R} {x : V} {d : D} (h : RRep K s ρ Hf H r x) (w : WOk K s ρ Hf H) (e : Vm.view s r = some d) (c : shp d = true) : Dp K H x d := by
  have c := SeqAt.canLay_of_shaped c
  rcases h.parts w e with q | ⟨a, u, rfl, q1, q2⟩ | q
  · exact (q.mono w.sub).dp c
  · exact (OR.rep q1 (q2.mono w.sub)).dp c
  · cases q with
    | t q1 q2 => exact .tup (q1 H) (Reps.dp (q2 H) (by simpa [PyData.canLay0] using c))
    | l q1 q2 => exact .lst (w.sub.seq q1) (Reps.dp (q2.mono w.sub) (by simpa [PyData.canLay0] using c))
theorem Rep.shp {K : PySem.W.Frag} {H : Hp} {d : D} {v : V} (r : Rep K H v d) (h : shp d = true) : Dp K H v d := r.dp (SeqAt.canLay_of_shaped h)
theorem post_ib {K : PySem.W.Frag} {s : Sto} {ρ : Rho} {Hf H : Hp} {Q : VK} {b c : Bool} (w : WOk K s ρ Hf H) (h : Post K s ρ Hf H (ReR K) (bind (ofO (if b = true then some c else none)) (fun c => ret (.v (.bool c))) s) Q) : b = true ∧ Q (.bl c) H := by
  cases b with
  | true => exact ⟨rfl, Post.bool w h⟩
  | false => exact h.elim
theorem oc_eq (hu : X.A.units + 64 < cLine) : OpR X (compareOp .Eq) (rB X.K fun d d2 => bind (ofO (cmpD .eq d d2)) fun c => ret (.v (.bool c))) := by
  intro pins s σ H x y v u Q I rx ry h0
  obtain ⟨st, ρ, Hf, ra, rb, d, d2, w, r1, r2, v1, v2, h⟩ := rBL.un h0
  clear h0
  have h : Post X.K st ρ Hf H (ReR X.K) (bind (ofO (if (shp d && shp d2) = true then some (PyData.eqv d d2) else none)) (fun c => ret (.v (.bool c))) st) Q := by
    unfold cmpD at h; exact h
  obtain ⟨hz, h⟩ := post_ib w h
  obtain ⟨h1, h2⟩ := Bool.and_eq_true_iff.mp hz
  exact op_eqD hu pins s σ H _ _ v u Q I rx ry ⟨_, _, r1.dp w v1 h1, r2.dp w v2 h2, h1, h2, h⟩
theorem oc_ne (hu : X.A.units + 64 < cLine) : OpR X (compareOp .NotEq) (rB X.K fun d d2 => bind (ofO (cmpD .ne d d2)) fun c => ret (.v (.bool c))) := by
  intro pins s σ H x y v u Q I rx ry h0
  obtain ⟨st, ρ, Hf, ra, rb, d, d2, w, r1, r2, v1, v2, h⟩ := rBL.un h0
  clear h0
  have h : Post X.K st ρ Hf H (ReR X.K) (bind (ofO (if (shp d && shp d2) = true then some (!PyData.eqv d d2) else none)) (fun c => ret (.v (.bool c))) st) Q := by
    unfold cmpD at h; exact h
  obtain ⟨hz, h⟩ := post_ib w h
  obtain ⟨h1, h2⟩ := Bool.and_eq_true_iff.mp hz
  exact op_neD hu pins s σ H _ _ v u Q I rx ry ⟨_, _, r1.dp w v1 h1, r2.dp w v2 h2, h1, h2, h⟩
end
end Vm

set_option Elab.async false
set_option linter.all false
set_option maxRecDepth 100000
set_option maxHeartbeats 4000000
/-! Vm: dicts, looked up. -/
namespace Vm
open PySem PySem.Spec PyProof.Rows L2
open PySem.Sem (wp)
/-! ### rules -/
/-- what stands at a key; a tuple may be the module's own -/
def LK (K : PySem.W.Frag) (H : Hp) (a : Addr) (y : V) (o : Option V) : Prop :=
  (∃ (ks : List (Key × V)) (kk : Key), H a = some (.dK ks) ∧ y = kV kk ∧ o = valV ks kk) ∨ ∃ (ks : List (List Key × V)) (kk : List Key) (b : Addr), H a = some (.dT ks) ∧ y = .ref b ∧ SqT K H b (kk.map kV) ∧ o = valV ks kk
section
variable {X : Cx} {pins : List (Addr × Obj)} {σ : L2.St} {H : Hp} {s : Shared} {a : Addr} {y z : V} {o : Option V} {u : Value} {A : Around} {E : Value → Shared → Prop}
theorem sq_key {b : Addr} {kk : List Key} (I : Inv X pins σ H s) (h : SqT X.K H b (kk.map kV)) : (tupleKind (mixKind X.prog X.w)).is s.heap kk b := by
  obtain ⟨its, rv, ht, _⟩ := I.tuple h
  obtain ⟨ob, h1, h2, n, h3⟩ := ht
  exact ⟨ob, its.toArray, n, h1, h2, h3, by simpa using items_are rv⟩
theorem lk_type (I : Inv X pins σ H s) (g : LK X.K H a y o) : s.TypeIs (.ref a) "dict" := by
  rcases g with ⟨ks, kk, e, _, _⟩ | ⟨ks, kk, b, e, _, _, _⟩
  · obtain ⟨_, _, vs, _, dd⟩ := dk_of I.hok e
    exact dd.typeIs
  · obtain ⟨_, _, xs, _, dd⟩ := dt_of I.hok e
    exact dd.typeIs
theorem lk_get {Q : Value → Shared → Prop} (hu : A.units + 1 < cLine) (I : Inv X pins σ H s) (g : LK X.K H a y (some z)) (ry : RelV y u) (h : ∀ w' s', Inv X pins σ H s' → RelV z w' → Q w' s') : wpAny (model X.prog X.w) A (getItem (.ref a) u) Q E s := by
  rcases g with ⟨ks, kk, e, ey, l⟩ | ⟨ks, kk, b, e, ey, eb, l⟩
  · subst ey
    obtain ⟨_, _, vs, rel, dd⟩ := dk_of I.hok e
    obtain ⟨w', hw, rw'⟩ := RelO.some_of (v := z) (o := valueAt vs kk) (by rw [l]; exact rel.val kk)
    exact wpAny_getItem_of (kV_is ry) dd.mapOf hw (h w' _ (I.tok _) rw')
  · subst ey
    cases (show u = Value.ref b from ry)
    obtain ⟨_, _, xs, rel, dd⟩ := dt_of I.hok e
    obtain ⟨w', hw, rw'⟩ := RelO.some_of (v := z) (o := (atKey xs kk).map (·.2)) (by rw [l]; exact rel.val kk)
    obtain ⟨p, hp, hp2⟩ := Option.map_eq_some_iff.mp hw
    refine wpAny_getItem_heap (tupleKind_room_in1 hu) (sq_key I eb) dd hp ?_
    rw [hp2]
    exact h w' _ (I.tok _) rw'
theorem lk_in {Q : Value → Shared → Prop} (hu : A.units + 1 < cLine) (I : Inv X pins σ H s) (g : LK X.K H a y o) (ry : RelV y u) (h : ∀ s', Inv X pins σ H s' → Q (.bool o.isSome) s') : wpAny (model X.prog X.w) A (compareOp .In u (.ref a)) Q E s := by
  rcases g with ⟨ks, kk, e, ey, l⟩ | ⟨ks, kk, b, e, ey, eb, l⟩
  · subst ey
    exact d_in hu I (.inl ⟨ks, kk, .inl e, rfl, l⟩) ry h
  · subst ey
    cases (show u = Value.ref b from ry)
    obtain ⟨_, hd, xs, rel, dd⟩ := dt_of I.hok e
    refine wpAny_in_heap (tupleKind_room_in1 hu) (sq_key I eb) hd dd ?_
    have q := (rel.val kk).isSome_eq
    rw [Option.isSome_map] at q
    rw [← q, ← l]
    exact h _ (I.tok _)
theorem lk_notin {Q : Value → Shared → Prop} (hu : A.units + 1 < cLine) (I : Inv X pins σ H s) (g : LK X.K H a y o) (ry : RelV y u) (h : ∀ s', Inv X pins σ H s' → Q (.bool (!o.isSome)) s') : wpAny (model X.prog X.w) A (compareOp .NotIn u (.ref a)) Q E s := by
  rcases g with ⟨ks, kk, e, ey, l⟩ | ⟨ks, kk, b, e, ey, eb, l⟩
  · subst ey
    exact d_notIn hu I (.inl ⟨ks, kk, .inl e, rfl, l⟩) ry h
  · subst ey
    cases (show u = Value.ref b from ry)
    obtain ⟨_, hd, xs, rel, dd⟩ := dt_of I.hok e
    refine wpAny_notIn_heap (tupleKind_room_in1 hu) (sq_key I eb) hd dd ?_
    have q := (rel.val kk).isSome_eq
    rw [Option.isSome_map] at q
    rw [← q, ← l]
    exact h _ (I.tok _)
end
theorem ix_dict {X : Cx} (hu : X.A.units + 64 < cLine) (value slice : Expr) (pins : List (Addr × Obj)) (s : Shared) (σ : L2.St) (H : Hp) (a : Addr) (y z : V) (v u : Value) (Q : VK) (I : Inv X pins σ H s) (rx : RelV (.ref a) v) (ry : RelV y u) (g : LK X.K H a y (some z)) (q : Q z H)
    (hs : subscripted slice false v u = operate [v, u] (getItem v u)) : wpAny (model X.prog X.w) X.A (subscriptTail value slice v u) (EP X pins σ Q) X.xe s := by
  cases rx
  have ty : s.TypeIs (.ref a) "dict" := lk_type I g
  have it : wpAny (model X.prog X.w) X.A (getItem (.ref a) u) (EP X pins σ Q) X.xe s := lk_get (by omega) I g ry fun w' s' I' r' => ⟨z, H, I', r', q⟩
  have fin : wpAny (model X.prog X.w) X.A (subscripted slice false (.ref a) u) (fun r t => wpAny (model X.prog X.w) X.A (letTemporaryGo value (.ref a) r >>= fun _ => pure r) (EP X pins σ Q) X.xe t) X.xe s := by
    rw [hs]
    exact wpAny_operating (thn it fun r t h => wpAny_bind (wpAny_letTemporaryGo (wpAny_pure h)))
  (unfold subscriptTail)
  refine wpAny_bind ?_
  rw [getitemInPython_of_ne ty.not_modules]
  refine wpAny_bind (wpAny_specialOf ty PySem.F.slot_dict_getitem.lookup ?_)
  first
  | exact wpAny_pure (wpAny_bind fin)
  | exact wpAny_bind (wpAny_pure (wpAny_bind fin))
  | exact wpAny_bind fin
/-! ### look-ups, in data and in the heap -/
theorem eqv_keyD (a b : Key) : PyData.eqv (keyD a) (keyD b) = decide (a = b) := by
  cases a with
  | inl i =>
    cases b with
    | inl j =>
      show PyData.eqv (.int i) (.int j) = _
      by_cases h : i = j
      · subst h; simp [PyData.eqv]
      · simp [PyData.eqv, h]
    | inr y => simp [keyD, PyData.eqv]
  | inr x =>
    cases b with
    | inl j => simp [keyD, PyData.eqv]
    | inr y =>
      show PyData.eqv (.str x) (.str y) = _
      by_cases h : x = y
      · subst h; simp [PyData.eqv]
      · simp [PyData.eqv, h]
theorem eqvAll_keyD : ∀ a b : List Key, PyData.eqvAll (a.map keyD) (b.map keyD) = decide (a = b)
  | [], [] => by simp [PyData.eqvAll]
  | [], _ :: _ => by simp [PyData.eqvAll]
  | _ :: _, [] => by simp [PyData.eqvAll]
  | i :: a, j :: b => by
    rw [List.map_cons, List.map_cons]
    unfold PyData.eqvAll
    rw [eqvAll_keyD a b, eqv_keyD]
    by_cases h : i = j
    · by_cases g : a = b <;> simp [h, g]
    · simp [h]
theorem eqK_k (a b : Key) : eqK (keyD a) (keyD b) = decide (a = b) := by
  cases a with
  | inl i =>
    cases b with
    | inl j =>
      show (i == j) = _
      by_cases h : i = j <;> simp [h]
    | inr y => simp [keyD, eqK]
  | inr x =>
    cases b with
    | inl j => simp [keyD, eqK]
    | inr y =>
      show decide (x = y) = _
      by_cases h : x = y <;> simp [h]
theorem eqK_t (a b : List Key) : eqK (keysD a) (keysD b) = decide (a = b) := by
  show PyData.eqv (.tuple (a.map keyD)) (.tuple (b.map keyD)) = _
  unfold PyData.eqv
  exact eqvAll_keyD a b
theorem get_val {κ : Type} [DecidableEq κ] {K : PySem.W.Frag} {Hf : Hp} (kd : κ → D) (hk : ∀ a b, eqK (kd a) (kd b) = decide (a = b)) (k : κ) : ∀ {ks : List (κ × V)} {ds : List D}, Reps K Hf (ks.map (·.2)) ds →
    (∀ d, getK (kd k) ((ks.map fun q => kd q.1).zip ds) = some d → ∃ v, valV ks k = some v ∧ Rep K Hf v d) ∧ (getK (kd k) ((ks.map fun q => kd q.1).zip ds) = none → valV ks k = none)
  | [], _, _ => ⟨(fun d h => by cases h), fun _ => rfl⟩
  | q :: ks, _, .cons (d := d0) (ds := ds) r t => by
    obtain ⟨h1, h2⟩ := get_val kd hk k t
    have e : getK (kd k) (((q :: ks).map fun q => kd q.1).zip (d0 :: ds)) = if eqK (kd q.1) (kd k) = true then some d0 else getK (kd k) ((ks.map fun q => kd q.1).zip ds) := rfl
    rw [e, hk]
    by_cases z : q.1 = k
    · rw [if_pos (decide_eq_true z), valV_pos z]
      exact ⟨fun d h => by cases h; exact ⟨_, rfl, r⟩, fun h => by cases h⟩
    · rw [if_neg (by simp [z]), valV_neg z]
      exact ⟨h1, h2⟩
theorem key_cases {k : D} (h : isKey k = true) : (∃ kk : Key, k = keyD kk ∧ kindK k = 1) ∨ ∃ kk : List Key, k = keysD kk ∧ kindK k = 2 := by
  cases k with
  | int i => exact .inl ⟨.inl i, rfl, rfl⟩
  | str x => exact .inl ⟨.inr x, rfl, rfl⟩
  | tuple ds =>
    right
    have go : ∀ ds : List D, (ds.all fun d => match d with
        | .int _ => true
        | .str _ => true
        | _ => false) = true → ∃ kk : List Key, ds = kk.map keyD := by
      intro ds
      induction ds with
      | nil => exact fun _ => ⟨[], rfl⟩
      | cons d ds ih =>
        intro h
        rw [List.all_cons, Bool.and_eq_true] at h
        obtain ⟨kk, e⟩ := ih h.2
        cases d with
        | int i => exact ⟨.inl i :: kk, by rw [e]; rfl⟩
        | str x => exact ⟨.inr x :: kk, by rw [e]; rfl⟩
        | _ => cases h.1
    obtain ⟨kk, e⟩ := go ds h
    exact ⟨kk, by rw [e]; rfl, rfl⟩
  | _ => cases h
theorem reps_keyT {K : PySem.W.Frag} {Hf : Hp} : ∀ {kk : List Key} {xs : List V}, Reps K Hf xs (kk.map keyD) → xs = kk.map kV
  | [], _, r => by cases r; rfl
  | k :: kk, _, r => by
    rw [List.map_cons] at r
    cases r with
    | cons r t =>
      rw [reps_keyT t]
      cases k with
      | inl i => cases r; rfl
      | inr x => cases r; rfl
section
variable {K : PySem.W.Frag} {s : Sto} {ρ : Rho} {Hf H : Hp} {r rk : R} {x y : V}
theorem RRep.dct {kvs : List (D × D)} (h : RRep K s ρ Hf H r x) (w : WOk K s ρ Hf H) (e : Vm.view s r = some (.dict kvs)) :
    ∃ a, x = .ref a ∧ ((∃ (ks : List (Key × V)) (ds : List D), H a = some (.dK ks) ∧ kvs = (ks.map fun q => keyD q.1).zip ds ∧ Reps K Hf (ks.map (·.2)) ds) ∨ ∃ (ks : List (List Key × V)) (ds : List D), H a = some (.dT ks) ∧ kvs = (ks.map fun q => keysD q.1).zip ds ∧ Reps K Hf (ks.map (·.2)) ds) := by
  rcases h.parts w e with h | ⟨a, u, rfl, h1, h2⟩ | h
  · cases h with
    | dK hh r => exact ⟨_, rfl, .inl ⟨_, _, w.sub _ _ hh, rfl, r⟩⟩
    | dT hh r => exact ⟨_, rfl, .inr ⟨_, _, w.sub _ _ hh, rfl, r⟩⟩
  · cases h2 with
    | dK r => exact ⟨_, rfl, .inl ⟨_, _, h1, rfl, r⟩⟩
    | dT r => exact ⟨_, rfl, .inr ⟨_, _, h1, rfl, r⟩⟩
  · cases h
theorem RRep.keyK {kk : Key} (h : RRep K s ρ Hf H r x) (w : WOk K s ρ Hf H) (e : Vm.view s r = some (keyD kk)) : x = kV kk := by
  cases kk with
  | inl i => exact h.int w e
  | inr z => exact h.str w e
theorem RRep.keyT {kk : List Key} (h : RRep K s ρ Hf H r x) (w : WOk K s ρ Hf H) (e : Vm.view s r = some (keysD kk)) : ∃ b, x = .ref b ∧ SqT K H b (kk.map kV) := by
  obtain ⟨a, xs, rfl, h1, h2⟩ := h.tup w e
  rw [reps_keyT h2] at h1
  exact ⟨a, rfl, h1⟩
/-- a look-up: what the data say, the heap says -/
theorem dget_of {kvs : List (D × D)} {k : D} (h : RRep K s ρ Hf H r x) (hk : RRep K s ρ Hf H rk y) (w : WOk K s ρ Hf H) (e : Vm.view s r = some (.dict kvs)) (ek : Vm.view s rk = some k) (ok : keysOk kvs k = true) (ne : kvs.isEmpty = false) :
    ∃ a, x = .ref a ∧ (∀ d, getK k kvs = some d → ∃ v, LK K H a y (some v) ∧ Rep K Hf v d) ∧ (getK k kvs = none → LK K H a y none) := by
  obtain ⟨a, rfl, c⟩ := h.dct w e
  unfold keysOk at ok
  rw [Bool.and_eq_true] at ok
  obtain ⟨ok1, ok2⟩ := ok
  rw [List.all_eq_true] at ok2
  refine ⟨a, rfl, ?_⟩
  rcases c with ⟨ks, ds, hh, ekv, rr⟩ | ⟨ks, ds, hh, ekv, rr⟩
  · have k1 : kindK k = 1 := by
      cases ks with
      | nil => subst ekv; cases ne
      | cons q ks =>
        cases rr with
        | cons r0 t =>
          have := ok2 (keyD q.1, _) (by rw [ekv]; exact .head _)
          rw [Bool.and_eq_true] at this
          have := eq_of_beq this.2
          rw [← this]
          cases q.1 <;> rfl
    rcases key_cases ok1 with ⟨kk, rfl, _⟩ | ⟨kk, rfl, z⟩
    · have ey := hk.keyK w ek
      obtain ⟨g1, g2⟩ := get_val keyD eqK_k kk rr
      rw [← ekv] at g1 g2
      refine ⟨fun d hd => ?_, fun hd => ?_⟩
      · obtain ⟨v, v1, v2⟩ := g1 d hd
        exact ⟨v, .inl ⟨ks, kk, hh, ey, v1.symm⟩, v2⟩
      · exact .inl ⟨ks, kk, hh, ey, (g2 hd).symm⟩
    · rw [z] at k1; cases k1
  · have k1 : kindK k = 2 := by
      cases ks with
      | nil => subst ekv; cases ne
      | cons q ks =>
        cases rr with
        | cons r0 t =>
          have := ok2 (keysD q.1, _) (by rw [ekv]; exact .head _)
          rw [Bool.and_eq_true] at this
          have := eq_of_beq this.2
          rw [← this]
          rfl
    rcases key_cases ok1 with ⟨kk, rfl, z⟩ | ⟨kk, rfl, _⟩
    · rw [z] at k1; cases k1
    · obtain ⟨b, ey, hb⟩ := hk.keyT w ek
      obtain ⟨g1, g2⟩ := get_val keysD eqK_t kk rr
      rw [← ekv] at g1 g2
      refine ⟨fun d hd => ?_, fun hd => ?_⟩
      · obtain ⟨v, v1, v2⟩ := g1 d hd
        exact ⟨v, .inr ⟨ks, kk, b, hh, ey, hb, v1.symm⟩, v2⟩
      · exact .inr ⟨ks, kk, b, hh, ey, hb, (g2 hd).symm⟩
end
end Vm

set_option Elab.async false
set_option linter.all false
set_option maxRecDepth 100000
set_option maxHeartbeats 4000000
/-! Vm: soundness, part 3: products, orders, in, is, items. -/
namespace Vm
open PySem PySem.Spec PyProof.Rows L2
theorem Reps.atI {K : PySem.W.Frag} {H : Hp} {xs : List V} {ds : List D} {i : Int} {d : D} (r : Reps K H xs ds) (e : L2.atI ds i = some d) : ∃ v, L2.atI xs i = some v ∧ Rep K H v d := by
  unfold L2.atI at e ⊢
  rw [r.length]
  cases q : ixN ds.length i with
  | none => rw [q] at e; cases e
  | some j =>
    rw [q] at e
    exact r.get e
section
variable {K : PySem.W.Frag} {s : Sto} {ρ : Rho} {Hf H : Hp} {Q : VK}
theorem post_c {o : Option Bool} (w : WOk K s ρ Hf H) (h : Post K s ρ Hf H (ReR K) (bind (ofO o) (fun c => ret (.v (.bool c))) s) Q) : ∃ c, o = some c ∧ Q (.bl c) H := by
  cases o with
  | some c => exact ⟨c, rfl, Post.bool w h⟩
  | none => exact h.elim
theorem post_d {o : Option D} (h : Post K s ρ Hf H (ReR K) (bind (ofO o) (fun c => ret (.v c)) s) Q) : ∃ d, o = some d ∧ Post K s ρ Hf H (ReR K) (.ok (.v d) s) Q := by
  cases o with
  | some c => exact ⟨c, rfl, h⟩
  | none => exact h.elim
end
section
variable {X : Cx}
theorem ob_mul : OpR X (binaryOp .Mult) (rBP X.K fun d d2 => ofO (binD .mul d d2)) := by
  intro pins s σ H x y v u Q I rx ry h0
  obtain ⟨st, ρ, Hf, ra, rb, d, d2, w, r1, r2, v1, v2, ng, h⟩ := rBP.un h0
  clear h0
  cases d <;> cases d2 <;> first | exact h.elim | skip
  · rw [r1.int w v1] at rx; rw [r2.int w v2] at ry
    obtain ⟨hz, h9⟩ := post_if h
    exact op_mul pins s σ H _ _ v u Q I rx ry ⟨_, _, rfl, rfl, smallI_ok hz, h9.int w⟩
  · obtain ⟨hz, h9⟩ := post_if h
    clear h
    have e2 := r2.int w v2
    subst e2
    obtain ⟨a, xs, rfl, ha, ea⟩ := r1.lstN w v1 ng.1
    obtain ⟨hz, h3⟩ := Bool.and_eq_true_iff.mp hz
    obtain ⟨h1, h2⟩ := Bool.and_eq_true_iff.mp hz
    have h1 := of_decide_eq_true h1
    have h2 := of_decide_eq_true h2
    exact op_rep pins s σ H _ _ v u Q I rx ry ⟨a, _, xs, rfl, rfl, ha, by omega, by omega, by rw [ea.length]; exact of_decide_eq_true h3, fun p hp => h9.newL w (ea.flat _) hp⟩
  · obtain ⟨hz, h9⟩ := post_if h
    clear h
    have e2 := r2.int w v2
    subst e2
    obtain ⟨a, xs, rfl, ha, ea⟩ := r1.tup w v1
    obtain ⟨hz, h4⟩ := Bool.and_eq_true_iff.mp hz
    obtain ⟨hz, h3⟩ := Bool.and_eq_true_iff.mp hz
    obtain ⟨h1, h2⟩ := Bool.and_eq_true_iff.mp hz
    refine op_repT pins s σ H _ _ v u Q I rx ry ⟨a, _, xs, rfl, rfl, ha, fun z => ?_, of_decide_eq_true h1, of_decide_eq_true h2, by rw [ea.length]; exact of_decide_eq_true h3, fun p hp => h9.newT w (ea.flat _) hp⟩
    have z := ea.nil_iff.mp z
    subst z
    cases h4
/-- an order of ints, or of texts -/
theorem oc_lt : OpR X (compareOp .Lt) (rB X.K fun d d2 => bind (ofO (cmpD .lt d d2)) fun c => ret (.v (.bool c))) := by
  intro pins s σ H x y v u Q I rx ry h0
  obtain ⟨st, ρ, Hf, ra, rb, d, d2, w, r1, r2, v1, v2, h⟩ := rBL.un h0
  clear h0
  cases d <;> cases d2 <;> first | exact h.elim | skip
  · rw [r1.int w v1] at rx; rw [r2.int w v2] at ry
    exact op_lt pins s σ H _ _ v u Q I rx ry ⟨_, _, rfl, rfl, Post.bool w h⟩
  · rw [r1.str w v1] at rx; rw [r2.str w v2] at ry
    exact op_lt_str pins s σ H _ _ v u Q I rx ry ⟨_, _, rfl, rfl, Post.bool w h⟩
theorem oc_le : OpR X (compareOp .LtE) (rB X.K fun d d2 => bind (ofO (cmpD .le d d2)) fun c => ret (.v (.bool c))) := by
  intro pins s σ H x y v u Q I rx ry h0
  obtain ⟨st, ρ, Hf, ra, rb, d, d2, w, r1, r2, v1, v2, h⟩ := rBL.un h0
  clear h0
  cases d <;> cases d2 <;> first | exact h.elim | skip
  rw [r1.int w v1] at rx; rw [r2.int w v2] at ry
  exact op_le pins s σ H _ _ v u Q I rx ry ⟨_, _, rfl, rfl, Post.bool w h⟩
theorem oc_gt : OpR X (compareOp .Gt) (rB X.K fun d d2 => bind (ofO (cmpD .gt d d2)) fun c => ret (.v (.bool c))) := by
  intro pins s σ H x y v u Q I rx ry h0
  obtain ⟨st, ρ, Hf, ra, rb, d, d2, w, r1, r2, v1, v2, h⟩ := rBL.un h0
  clear h0
  cases d <;> cases d2 <;> first | exact h.elim | skip
  rw [r1.int w v1] at rx; rw [r2.int w v2] at ry
  exact op_gt pins s σ H _ _ v u Q I rx ry ⟨_, _, rfl, rfl, Post.bool w h⟩
theorem oc_ge : OpR X (compareOp .GtE) (rB X.K fun d d2 => bind (ofO (cmpD .ge d d2)) fun c => ret (.v (.bool c))) := by
  intro pins s σ H x y v u Q I rx ry h0
  obtain ⟨st, ρ, Hf, ra, rb, d, d2, w, r1, r2, v1, v2, h⟩ := rBL.un h0
  clear h0
  cases d <;> cases d2 <;> first | exact h.elim | skip
  rw [r1.int w v1] at rx; rw [r2.int w v2] at ry
  exact op_ge pins s σ H _ _ v u Q I rx ry ⟨_, _, rfl, rfl, Post.bool w h⟩
theorem one_sign {z : Str} {c : Nat} (h : z.cps.toList = [c]) : z = ⟨#[c]⟩ := by
  obtain ⟨a⟩ := z
  have : a = #[c] := by
    apply Array.toList_inj.mp
    exact h
  rw [this]
theorem oc_in (hu : X.A.units + 65 < cLine) : OpR X (compareOp .In) (rB X.K fun d d2 => bind (ofO (cmpD .isin d d2)) fun c => ret (.v (.bool c))) := by
  intro pins s σ H x y v u Q I rx ry h0
  obtain ⟨st, ρ, Hf, ra, rb, d, d2, w, r1, r2, v1, v2, h⟩ := rBL.un h0
  clear h0
  have key : ∀ es, d2 = .list es → Post X.K st ρ Hf H (ReR X.K) (bind (ofO (if (shp d && shp (.list es)) = true then some (es.any fun z => PyData.eqv z d) else none)) (fun c => ret (.v (.bool c))) st) Q →
      wpAny (model X.prog X.w) X.A (compareOp .In v u) (EP X pins σ Q) X.xe s := fun es e hk => by
    subst e
    obtain ⟨hz, h9⟩ := post_ib w hk
    obtain ⟨h1, h2⟩ := Bool.and_eq_true_iff.mp hz
    exact op_inD hu pins s σ H _ _ v u Q I rx ry ⟨d, es, r1.dp w v1 h1, r2.dp w v2 h2, h1, h2, h9⟩
  have keyT : ∀ es, d2 = .tuple es → Post X.K st ρ Hf H (ReR X.K) (bind (ofO (if (shp d && shp (.tuple es)) = true then some (es.any fun z => PyData.eqv z d) else none)) (fun c => ret (.v (.bool c))) st) Q →
      wpAny (model X.prog X.w) X.A (compareOp .In v u) (EP X pins σ Q) X.xe s := fun es e hk => by
    subst e
    obtain ⟨hz, h9⟩ := post_ib w hk
    obtain ⟨h1, h2⟩ := Bool.and_eq_true_iff.mp hz
    obtain ⟨as, q1⟩ := Dp.reads I d x v (r1.dp w v1 h1) rx
    obtain ⟨bs, q2⟩ := Dp.reads I (.tuple es) y u (r2.dp w v2 h2) ry
    have c2 : PyData.canLayAll0 es = true := by simpa [PyData.canLay0] using SeqAt.canLay_of_shaped h2
    exact SeqAt.in_tuple_reads q2 q1 c2 (SeqAt.canLay_of_shaped h1) (room_in_shaped h1 hu) ⟨.bl _, H, I, rfl, h9⟩
  have stk : Post X.K st ρ Hf H (ReR X.K) (bind (ofO (none : Option Bool)) (fun c => ret (.v (.bool c))) st) Q → wpAny (model X.prog X.w) X.A (compareOp .In v u) (EP X pins σ Q) X.xe s := fun h => h.elim
  cases d2 with
  | list es => exact key es rfl (by cases d <;> exact h)
  | tuple es => exact keyT es rfl (by cases d <;> exact h)
  | str z =>
    cases d with
    | str z1 =>
      have h : Post X.K st ρ Hf H (ReR X.K) (bind (ofO (match z1.cps.toList with
        | [c] => some (decide (c ∈ z.cps.toList))
        | _ => none)) (fun c => ret (.v (.bool c))) st) Q := h
      cases q : z1.cps.toList with
      | nil => rw [q] at h; exact stk h
      | cons c r =>
        cases r with
        | cons c2 r => rw [q] at h; exact stk h
        | nil =>
          rw [q] at h
          have e := one_sign q
          subst e
          rw [r1.str w v1] at rx; rw [r2.str w v2] at ry
          exact op_in_sign pins s σ H _ _ v u Q I rx ry ⟨c, z, rfl, rfl, Post.bool w h⟩
    | _ => exact stk h
  | dict kvs =>
    have h : Post X.K st ρ Hf H (ReR X.K) (bind (ofO (if (keysOk kvs d && !kvs.isEmpty) = true then some (getK d kvs).isSome else none)) (fun c => ret (.v (.bool c))) st) Q := by cases d <;> exact h
    obtain ⟨hz, h9⟩ := post_ib w h
    obtain ⟨h1, h2⟩ := Bool.and_eq_true_iff.mp hz
    obtain ⟨a, rfl, g1, g2⟩ := dget_of r2 r1 w v2 v1 h1 (by simpa using h2)
    cases ry
    cases q : getK d kvs with
    | none =>
      rw [q] at h9
      exact lk_in (by omega) I (g2 q) rx fun s' I' => ⟨.bl false, H, I', rfl, h9⟩
    | some e =>
      rw [q] at h9
      obtain ⟨z, hz, _⟩ := g1 e q
      exact lk_in (by omega) I hz rx fun s' I' => ⟨.bl true, H, I', rfl, h9⟩
  | _ => cases d <;> exact stk h
theorem oc_notin (hu : X.A.units + 65 < cLine) : OpR X (compareOp .NotIn) (rB X.K fun d d2 => bind (ofO (cmpD .notin d d2)) fun c => ret (.v (.bool c))) := by
  intro pins s σ H x y v u Q I rx ry h0
  obtain ⟨st, ρ, Hf, ra, rb, d, d2, w, r1, r2, v1, v2, h⟩ := rBL.un h0
  clear h0
  have key : ∀ es, d2 = .list es → Post X.K st ρ Hf H (ReR X.K) (bind (ofO (if (shp d && shp (.list es)) = true then some (!es.any fun z => PyData.eqv z d) else none)) (fun c => ret (.v (.bool c))) st) Q →
      wpAny (model X.prog X.w) X.A (compareOp .NotIn v u) (EP X pins σ Q) X.xe s := fun es e hk => by
    subst e
    obtain ⟨hz, h9⟩ := post_ib w hk
    obtain ⟨h1, h2⟩ := Bool.and_eq_true_iff.mp hz
    exact op_notInD hu pins s σ H _ _ v u Q I rx ry ⟨d, es, r1.dp w v1 h1, r2.dp w v2 h2, h1, h2, h9⟩
  have keyT : ∀ es, d2 = .tuple es → Post X.K st ρ Hf H (ReR X.K) (bind (ofO (if (shp d && shp (.tuple es)) = true then some (!es.any fun z => PyData.eqv z d) else none)) (fun c => ret (.v (.bool c))) st) Q →
      wpAny (model X.prog X.w) X.A (compareOp .NotIn v u) (EP X pins σ Q) X.xe s := fun es e hk => by
    subst e
    obtain ⟨hz, h9⟩ := post_ib w hk
    obtain ⟨h1, h2⟩ := Bool.and_eq_true_iff.mp hz
    obtain ⟨as, q1⟩ := Dp.reads I d x v (r1.dp w v1 h1) rx
    obtain ⟨bs, q2⟩ := Dp.reads I (.tuple es) y u (r2.dp w v2 h2) ry
    have c2 : PyData.canLayAll0 es = true := by simpa [PyData.canLay0] using SeqAt.canLay_of_shaped h2
    exact SeqAt.notIn_tuple_reads q2 q1 c2 (SeqAt.canLay_of_shaped h1) (room_in_shaped h1 hu) ⟨.bl _, H, I, rfl, h9⟩
  have stk : Post X.K st ρ Hf H (ReR X.K) (bind (ofO (none : Option Bool)) (fun c => ret (.v (.bool c))) st) Q → wpAny (model X.prog X.w) X.A (compareOp .NotIn v u) (EP X pins σ Q) X.xe s := fun h => h.elim
  cases d2 with
  | list es => exact key es rfl (by cases d <;> exact h)
  | tuple es => exact keyT es rfl (by cases d <;> exact h)
  | str z =>
    cases d with
    | str z1 =>
      have h : Post X.K st ρ Hf H (ReR X.K) (bind (ofO (match z1.cps.toList with
        | [c] => some (!decide (c ∈ z.cps.toList))
        | _ => none)) (fun c => ret (.v (.bool c))) st) Q := h
      cases q : z1.cps.toList with
      | nil => rw [q] at h; exact stk h
      | cons c r =>
        cases r with
        | cons c2 r => rw [q] at h; exact stk h
        | nil =>
          rw [q] at h
          have e := one_sign q
          subst e
          rw [r1.str w v1] at rx; rw [r2.str w v2] at ry
          exact op_notIn_sign pins s σ H _ _ v u Q I rx ry ⟨c, z, rfl, rfl, Post.bool w h⟩
    | _ => exact stk h
  | dict kvs =>
    have h : Post X.K st ρ Hf H (ReR X.K) (bind (ofO (if (keysOk kvs d && !kvs.isEmpty) = true then some (!(getK d kvs).isSome) else none)) (fun c => ret (.v (.bool c))) st) Q := by cases d <;> exact h
    obtain ⟨hz, h9⟩ := post_ib w h
    obtain ⟨h1, h2⟩ := Bool.and_eq_true_iff.mp hz
    obtain ⟨a, rfl, g1, g2⟩ := dget_of r2 r1 w v2 v1 h1 (by simpa using h2)
    cases ry
    cases q : getK d kvs with
    | none =>
      rw [q] at h9
      exact lk_notin (by omega) I (g2 q) rx fun s' I' => ⟨.bl true, H, I', rfl, h9⟩
    | some e =>
      rw [q] at h9
      obtain ⟨z, hz, _⟩ := g1 e q
      exact lk_notin (by omega) I hz rx fun s' I' => ⟨.bl false, H, I', rfl, h9⟩
  | _ => cases d <;> exact stk h
/-- is None: by the value -/
theorem RRep.isNone {K : PySem.W.Frag} {s : Sto} {ρ : Rho} {Hf H : Hp} {r : R} {x : V} {d : D} (h : RRep K s ρ Hf H r x) (w : WOk K s ρ Hf H) (e : Vm.view s r = some d) : decide (x = .non) = match d with | .none => true | _ => false := by
  cases d with
  | none => rw [h.non w e]; rfl
  | bool b => rw [h.bool w e]; rfl
  | int b => rw [h.int w e]; rfl
  | str b => rw [h.str w e]; rfl
  | list ds => obtain ⟨a, xs, rfl, _⟩ := h.lst w e; rfl
  | tuple ds => obtain ⟨a, xs, rfl, _⟩ := h.tup w e; rfl
  | dict ds =>
    have := h.view w e (by intro _ z; cases z) (by intro _ z; cases z)
    cases this <;> rfl
theorem oc_is : OpR X (compareOp .Is) (rB X.K fun d d2 => bind (ofO (cmpD .is d d2)) fun c => ret (.v (.bool c))) := by
  intro pins s σ H x y v u Q I rx ry h0
  obtain ⟨st, ρ, Hf, ra, rb, d, d2, w, r1, r2, v1, v2, h⟩ := rBL.un h0
  clear h0
  cases d2 with
  | none =>
    have e := r1.isNone w v1
    rw [r2.non w v2] at ry
    refine op_isN pins s σ H _ _ v u Q I rx ry ⟨rfl, ?_⟩
    rw [e]
    cases d <;> exact Post.bool w h
  | bool b =>
    cases d <;> first | exact h.elim | skip
    rw [r1.bool w v1] at rx; rw [r2.bool w v2] at ry
    exact op_is_bl pins s σ H _ _ v u Q I rx ry ⟨_, _, rfl, rfl, Post.bool w h⟩
  | _ => cases d <;> exact h.elim
theorem oc_isnot : OpR X (compareOp .IsNot) (rB X.K fun d d2 => bind (ofO (cmpD .isnot d d2)) fun c => ret (.v (.bool c))) := by
  intro pins s σ H x y v u Q I rx ry h0
  obtain ⟨st, ρ, Hf, ra, rb, d, d2, w, r1, r2, v1, v2, h⟩ := rBL.un h0
  clear h0
  cases d2 with
  | none =>
    have e := r1.isNone w v1
    rw [r2.non w v2] at ry
    refine op_notN pins s σ H _ _ v u Q I rx ry ⟨rfl, ?_⟩
    rw [e]
    cases d <;> exact Post.bool w h
  | bool b =>
    cases d <;> first | exact h.elim | skip
    rw [r1.bool w v1] at rx; rw [r2.bool w v2] at ry
    exact op_isnot_bl pins s σ H _ _ v u Q I rx ry ⟨_, _, rfl, rfl, Post.bool w h⟩
  | _ => cases d <;> exact h.elim
theorem ox_ix (hu : X.A.units + 64 < cLine) : IxR X (rB X.K fun d d2 => bind (ofO (ixD d d2)) fun r => ret (.v r)) := by
  intro value slice pins s σ H x y v u Q I rx ry h0 hs
  obtain ⟨st, ρ, Hf, ra, rb, d, d2, w, r1, r2, v1, v2, h⟩ := rBL.un h0
  clear h0
  obtain ⟨e, he, h9⟩ := post_d h
  clear h
  by_cases hd : ∃ kvs, d = .dict kvs
  · obtain ⟨kvs, rfl⟩ := hd
    have he : (if (keysOk kvs d2 && !kvs.isEmpty) = true then getK d2 kvs else none) = some e := by cases d2 <;> exact he
    by_cases hz : (keysOk kvs d2 && !kvs.isEmpty) = true
    · rw [if_pos hz] at he
      obtain ⟨h1, h2⟩ := Bool.and_eq_true_iff.mp hz
      obtain ⟨a, rfl, g1, _⟩ := dget_of r1 r2 w v1 v2 h1 (by simpa using h2)
      obtain ⟨z, hg, rz⟩ := g1 e he
      exact ix_dict hu value slice pins s σ H a y z v u Q I rx ry hg (Post.fin w h9 (.v rz) trivial) hs
    · rw [if_neg hz] at he
      cases he
  cases d <;> cases d2 <;> first | cases he | exact absurd ⟨_, rfl⟩ hd | skip
  · rename_i z i
    rw [r1.str w v1] at rx; rw [r2.int w v2] at ry
    have he : (if lenOk z.length = true then (L2.atI z.cps.toList i).map fun c => PyData.str ⟨#[c]⟩ else none) = some e := he
    by_cases hl : lenOk z.length = true
    · rw [if_pos hl] at he
      cases q : L2.atI z.cps.toList i with
      | none => rw [q] at he; cases he
      | some c =>
        rw [q] at he
        cases he
        exact ix_str value slice pins s σ H _ _ v u Q I rx ry ⟨z, i, c, rfl, rfl, of_decide_eq_true hl, q, h9.str w⟩ hs
    · rw [if_neg hl] at he; cases he
  · rename_i ds i
    have e2 := r2.int w v2
    subst e2
    obtain ⟨a, xs, rfl, ha, ea⟩ := r1.lst w v1
    obtain ⟨z, hz, rz⟩ := ea.atI he
    exact ix_list value slice pins s σ H _ _ v u Q I rx ry ⟨a, xs, i, z, rfl, rfl, ha, hz, Post.fin w h9 (.v rz) trivial⟩ hs
  · rename_i ds i
    have e2 := r2.int w v2
    subst e2
    obtain ⟨a, xs, rfl, ha, ea⟩ := r1.tup w v1
    obtain ⟨z, hz, rz⟩ := ea.atI he
    exact ix_tup value slice pins s σ H _ _ v u Q I rx ry ⟨a, xs, i, z, rfl, rfl, ha, hz, Post.fin w h9 (.v rz) trivial⟩ hs
end
end Vm

set_option Elab.async false
set_option linter.all false
set_option maxRecDepth 100000
set_option maxHeartbeats 4000000
/-! Vm: soundness, part 4: built-in functions by their data. -/
namespace Vm
open PySem PySem.Spec PyProof.Rows L2
abbrev RReps (K : PySem.W.Frag) (s : Sto) (ρ : Rho) (Hf H : Hp) : List R → List V → Prop := Paired (RRep K s ρ Hf H)
def views (s : Sto) : List R → List D → Prop := Paired fun r d => view s r = some d
theorem looks_ok : ∀ {rs : List R} {s s2 : Sto} {ds : List D}, looks rs s = .ok ds s2 → s2 = s ∧ views s rs ds
  | [], s, s2, ds, h => by
    cases h
    exact ⟨rfl, .nil⟩
  | r :: rs, s, s2, ds, h => by
    obtain ⟨d, s1, e1, h1⟩ := bind_ok h
    clear h
    obtain ⟨v1, rfl⟩ := look_ok e1
    obtain ⟨es, s3, e2, h2⟩ := bind_ok h1
    clear h1
    obtain ⟨rfl, v2⟩ := looks_ok e2
    cases h2
    exact ⟨rfl, .cons v1 v2⟩
def rC (K : PySem.W.Frag) (f : List D → Option R) : List V → Hp → VK → Prop := fun xs H Q => ∃ s ρ Hf rs, WOk K s ρ Hf H ∧ RReps K s ρ Hf H rs xs ∧ Post K s ρ Hf H (ReR K) (bind (looks rs) (fun ds => ofO (f ds)) s) Q
theorem rC.un {K : PySem.W.Frag} {f : List D → Option R} {xs : List V} {H : Hp} {Q : VK} (h : rC K f xs H Q) : ∃ s ρ Hf rs ds r, WOk K s ρ Hf H ∧ RReps K s ρ Hf H rs xs ∧ views s rs ds ∧ f ds = some r ∧ Post K s ρ Hf H (ReR K) (.ok r s) Q := by
  obtain ⟨s, ρ, Hf, rs, w, r1, h⟩ := h
  obtain ⟨ds, s1, e1, h⟩ := h.bind
  obtain ⟨rfl, v1⟩ := looks_ok e1
  obtain ⟨r, e, h⟩ := post_o h
  exact ⟨_, ρ, Hf, rs, ds, r, w, r1, v1, e, h⟩
/-- one argument -/
theorem one {K : PySem.W.Frag} {s : Sto} {ρ : Rho} {Hf H : Hp} {rs : List R} {xs : List V} {d : D} (h : RReps K s ρ Hf H rs xs) (v : views s rs [d]) : ∃ r x, rs = [r] ∧ xs = [x] ∧ RRep K s ρ Hf H r x ∧ view s r = some d := by
  cases v with
  | cons v vr =>
    cases vr
    cases h with
    | cons h hr =>
      cases hr
      exact ⟨_, _, rfl, rfl, h, v⟩
theorem two2 {K : PySem.W.Frag} {s : Sto} {ρ : Rho} {Hf H : Hp} {rs : List R} {xs : List V} {d d2 : D} (h : RReps K s ρ Hf H rs xs) (v : views s rs [d, d2]) :
    ∃ r x r2 x2, rs = [r, r2] ∧ xs = [x, x2] ∧ RRep K s ρ Hf H r x ∧ view s r = some d ∧ RRep K s ρ Hf H r2 x2 ∧ view s r2 = some d2 := by
  cases v with
  | cons v vr =>
    obtain ⟨r2, x2, h2, hx2, rr2, vv2⟩ := one (rs := _) (xs := xs.tail) (by
      cases h with
      | cons h hr => exact hr) vr
    cases h with
    | cons h hr =>
      have hx2 : _ = [x2] := hx2
      subst h2
      simp only [List.tail_cons] at hx2
      subst hx2
      exact ⟨_, _, _, _, rfl, rfl, h, v, rr2, vv2⟩
theorem Reps.ints {K : PySem.W.Frag} {H : Hp} : ∀ {ds : List D} {xs : List V} {is : List Int}, Reps K H xs ds → intsD ds = some is → xs = is.map V.int ∧ ds = is.map PyData.int
  | [], _, is, .nil, h => by
    cases h
    exact ⟨rfl, rfl⟩
  | .int i :: ds, _, is, .cons r t, h => by
    have h : (intsD ds).map (i :: ·) = some is := h
    cases e : intsD ds with
    | none => rw [e] at h; cases h
    | some js =>
      rw [e] at h
      cases h
      obtain ⟨h1, h2⟩ := Reps.ints t e
      rw [r.int_of, h1, h2]
      exact ⟨rfl, rfl⟩
  | .none :: _, _, _, _, h => by cases h
  | .bool _ :: _, _, _, _, h => by cases h
  | .str _ :: _, _, _, _, h => by cases h
  | .list _ :: _, _, _, _, h => by cases h
  | .tuple _ :: _, _, _, _, h => by cases h
  | .dict _ :: _, _, _, _, h => by cases h
theorem Reps.bools {K : PySem.W.Frag} {H : Hp} : ∀ {ds : List D} {xs : List V} {is : List Bool}, Reps K H xs ds → boolsD ds = some is → xs = is.map V.bl
  | [], _, is, .nil, h => by
    cases h
    rfl
  | .bool i :: ds, _, is, .cons r t, h => by
    have h : (boolsD ds).map (i :: ·) = some is := h
    cases e : boolsD ds with
    | none => rw [e] at h; cases h
    | some js =>
      rw [e] at h
      cases h
      rw [r.bool_of, Reps.bools t e]
      rfl
  | .none :: _, _, _, _, h => by cases h
  | .int _ :: _, _, _, _, h => by cases h
  | .str _ :: _, _, _, _, h => by cases h
  | .list _ :: _, _, _, _, h => by cases h
  | .tuple _ :: _, _, _, _, h => by cases h
  | .dict _ :: _, _, _, _, h => by cases h
theorem Reps.ofInts {K : PySem.W.Frag} {H : Hp} : ∀ is : List Int, Reps K H (is.map V.int) (is.map PyData.int)
  | [] => .nil
  | i :: is => .cons (.int i) (Reps.ofInts is)
section
variable {X : Cx}
theorem cb_abs : CallR X (.builtin "abs") (rC X.K biAbs) := by
  intro pins s σ H xs us Q I rx h0
  obtain ⟨st, ρ, Hf, rs, ds, r, w, r1, v1, e, h⟩ := h0.un
  clear h0
  unfold biAbs at e
  split at e <;> cases e
  obtain ⟨r, x, rfl, rfl, h1, h2⟩ := one r1 v1
  rw [h1.int w h2] at rx
  exact call_abs pins s σ H _ us Q I rx ⟨_, rfl, h.int w⟩
theorem cb_all (hc : X.calm = true) : CallR X (.builtin "all") (rC X.K biAll) := by
  intro pins s σ H xs us Q I rx h0
  obtain ⟨st, ρ, Hf, rs, ds, r, w, r1, v1, e, h⟩ := h0.un
  clear h0
  unfold biAll at e
  split at e <;> first | cases e; done | skip
  rename_i ds
  obtain ⟨r9, x, rfl, rfl, h1, h2⟩ := one r1 v1
  obtain ⟨a, ys, rfl, ha, ea⟩ := h1.lst w h2
  cases q : boolsD ds with
  | none => rw [q] at e; cases e
  | some bs =>
    rw [q] at e
    cases e
    rw [ea.bools q] at ha
    exact cr_all hc pins s σ H _ us Q I rx ⟨a, bs, rfl, ha, h.bool w⟩
theorem cb_any (hc : X.calm = true) : CallR X (.builtin "any") (rC X.K biAny) := by
  intro pins s σ H xs us Q I rx h0
  obtain ⟨st, ρ, Hf, rs, ds, r, w, r1, v1, e, h⟩ := h0.un
  clear h0
  unfold biAny at e
  split at e <;> first | cases e; done | skip
  rename_i ds
  obtain ⟨r9, x, rfl, rfl, h1, h2⟩ := one r1 v1
  obtain ⟨a, ys, rfl, ha, ea⟩ := h1.lst w h2
  cases q : boolsD ds with
  | none => rw [q] at e; cases e
  | some bs =>
    rw [q] at e
    cases e
    rw [ea.bools q] at ha
    exact cr_any hc pins s σ H _ us Q I rx ⟨a, bs, rfl, ha, h.bool w⟩
theorem cb_int : CallR X (.type "int") (rC X.K biInt) := by
  intro pins s σ H xs us Q I rx h0
  obtain ⟨st, ρ, Hf, rs, ds, r, w, r1, v1, e, h⟩ := h0.un
  clear h0
  unfold biInt at e
  split at e <;> cases e
  · obtain ⟨r, x, rfl, rfl, h1, h2⟩ := one r1 v1
    rw [h1.int w h2] at rx
    exact call_int1 pins s σ H _ us Q I rx (.inl ⟨_, rfl, h.int w⟩)
  · obtain ⟨r, x, rfl, rfl, h1, h2⟩ := one r1 v1
    rw [h1.bool w h2] at rx
    exact call_int1 pins s σ H _ us Q I rx (.inr ⟨_, rfl, h.int w⟩)
theorem cb_len : CallR X (.builtin "len") (rC X.K biLen) := by
  intro pins s σ H xs us Q I rx h0
  obtain ⟨st, ρ, Hf, rs, ds, r, w, r1, v1, e, h⟩ := h0.un
  clear h0
  unfold biLen at e
  split at e
  · cases e
    obtain ⟨r9, x, rfl, rfl, h1, h2⟩ := one r1 v1
    obtain ⟨a, ys, rfl, ha, ea⟩ := h1.lst w h2
    rw [← ea.length] at h
    exact call_len_seq pins s σ H _ us Q I rx ⟨a, ys, rfl, .inl ha, h.int w⟩
  · cases e
    obtain ⟨r9, x, rfl, rfl, h1, h2⟩ := one r1 v1
    obtain ⟨a, ys, rfl, ha, ea⟩ := h1.tup w h2
    rw [← ea.length] at h
    exact call_len_seq pins s σ H _ us Q I rx ⟨a, ys, rfl, .inr ha, h.int w⟩
  · rename_i z
    by_cases hz : lenOk z.length = true
    · rw [if_pos hz] at e
      cases e
      obtain ⟨r9, x, rfl, rfl, h1, h2⟩ := one r1 v1
      rw [h1.str w h2] at rx
      exact call_len_str pins s σ H _ us Q I rx ⟨z, rfl, of_decide_eq_true hz, h.int w⟩
    · rw [if_neg hz] at e; cases e
  · cases e
theorem cb_list : CallR X (.type "list") (rC X.K biList) := by
  intro pins s σ H xs us Q I rx h0
  obtain ⟨st, ρ, Hf, rs, ds, r, w, r1, v1, e, h⟩ := h0.un
  clear h0
  unfold biList at e
  split at e <;> cases e
  · obtain ⟨r9, x, rfl, rfl, h1, h2⟩ := one r1 v1
    obtain ⟨a, ys, rfl, ha, ea⟩ := h1.lst w h2
    exact call_list_of pins s σ H _ us Q I rx ⟨a, ys, rfl, .inl ha, fun p hp => h.newL w ea hp⟩
  · obtain ⟨r9, x, rfl, rfl, h1, h2⟩ := one r1 v1
    obtain ⟨a, ys, rfl, ha, ea⟩ := h1.tup w h2
    exact call_list_of pins s σ H _ us Q I rx ⟨a, ys, rfl, .inr ha, fun p hp => h.newL w ea hp⟩
theorem cb_tuple : CallR X (.type "tuple") (rC X.K biTuple) := by
  intro pins s σ H xs us Q I rx h0
  obtain ⟨st, ρ, Hf, rs, ds, r, w, r1, v1, e, h⟩ := h0.un
  clear h0
  unfold biTuple at e
  split at e <;> cases e
  obtain ⟨r9, x, rfl, rfl, h1, h2⟩ := one r1 v1
  obtain ⟨a, ys, rfl, ha, ea⟩ := h1.lst w h2
  exact call_tuple_of pins s σ H _ us Q I rx ⟨a, ys, rfl, .inl ⟨ha, fun p hp => h.newT w ea hp⟩⟩
theorem maxL_mem : ∀ (r : List Int) (m : Int), maxL m r ∈ m :: r ∧ ∀ y ∈ m :: r, y ≤ maxL m r
  | [], m => ⟨by simp [maxL], fun y hy => by simp [maxL] at hy ⊢; omega⟩
  | i :: r, m => by
    obtain ⟨h1, h2⟩ := maxL_mem r (if m < i then i else m)
    have e : maxL m (i :: r) = maxL (if m < i then i else m) r := rfl
    rw [e]
    constructor
    · rcases List.mem_cons.mp h1 with h | h
      · rw [h]
        split
        · exact List.mem_cons_of_mem _ List.mem_cons_self
        · exact List.mem_cons_self
      · exact List.mem_cons_of_mem _ (List.mem_cons_of_mem _ h)
    · intro y hy
      have hb := h2 _ List.mem_cons_self
      have h3 : m ≤ (if m < i then i else m) := by split <;> omega
      have h4 : i ≤ (if m < i then i else m) := by split <;> omega
      rcases List.mem_cons.mp hy with h | hy
      · rw [h]
        exact Int.le_trans h3 hb
      · rcases List.mem_cons.mp hy with h | hy
        · rw [h]
          exact Int.le_trans h4 hb
        · exact h2 y (List.mem_cons_of_mem _ hy)
theorem minL_mem : ∀ (r : List Int) (m : Int), minL m r ∈ m :: r ∧ ∀ y ∈ m :: r, minL m r ≤ y
  | [], m => ⟨by simp [minL], fun y hy => by simp [minL] at hy ⊢; omega⟩
  | i :: r, m => by
    obtain ⟨h1, h2⟩ := minL_mem r (if i < m then i else m)
    have e : minL m (i :: r) = minL (if i < m then i else m) r := rfl
    rw [e]
    constructor
    · rcases List.mem_cons.mp h1 with h | h
      · rw [h]
        split
        · exact List.mem_cons_of_mem _ List.mem_cons_self
        · exact List.mem_cons_self
      · exact List.mem_cons_of_mem _ (List.mem_cons_of_mem _ h)
    · intro y hy
      have hb := h2 _ List.mem_cons_self
      have h3 : (if i < m then i else m) ≤ m := by split <;> omega
      have h4 : (if i < m then i else m) ≤ i := by split <;> omega
      rcases List.mem_cons.mp hy with h | hy
      · rw [h]
        exact Int.le_trans hb h3
      · rcases List.mem_cons.mp hy with h | hy
        · rw [h]
          exact Int.le_trans hb h4
        · exact h2 y (List.mem_cons_of_mem _ hy)
theorem cb_max (hc : X.calm = true) : CallR X (.builtin "max") (rC X.K biMax) := by
  intro pins s σ H xs us Q I rx h0
  obtain ⟨st, ρ, Hf, rs, ds, r, w, r1, v1, e, h⟩ := h0.un
  clear h0
  unfold biMax at e
  split at e <;> first | cases e; done | skip
  · cases e
    obtain ⟨r, x, r2, x2, rfl, rfl, h1, h2, h3, h4⟩ := two2 r1 v1
    rw [h1.int w h2, h3.int w h4] at rx
    exact call_max2 hc pins s σ H _ us Q I rx ⟨_, _, rfl, h.int w⟩
  · rename_i ds
    obtain ⟨r9, x, rfl, rfl, h1, h2⟩ := one r1 v1
    obtain ⟨a, ys, rfl, ha, ea⟩ := h1.lst w h2
    cases q : intsD ds with
    | none => rw [q] at e; cases e
    | some is =>
      rw [q] at e
      cases is with
      | nil => cases e
      | cons i is =>
        cases e
        rw [(ea.ints q).1] at ha
        obtain ⟨g1, g2⟩ := maxL_mem is i
        refine cr_max hc pins s σ H _ us Q I rx ⟨a, i :: is, rfl, ha, by simp, fun m hm hy => ?_⟩
        have e : m = maxL i is := Int.le_antisymm (g2 m hm) (hy _ g1)
        rw [e]
        exact h.int w
theorem cb_min (hc : X.calm = true) : CallR X (.builtin "min") (rC X.K biMin) := by
  intro pins s σ H xs us Q I rx h0
  obtain ⟨st, ρ, Hf, rs, ds, r, w, r1, v1, e, h⟩ := h0.un
  clear h0
  unfold biMin at e
  split at e <;> first | cases e; done | skip
  · cases e
    obtain ⟨r, x, r2, x2, rfl, rfl, h1, h2, h3, h4⟩ := two2 r1 v1
    rw [h1.int w h2, h3.int w h4] at rx
    exact call_min2 hc pins s σ H _ us Q I rx ⟨_, _, rfl, h.int w⟩
  · rename_i ds
    obtain ⟨r9, x, rfl, rfl, h1, h2⟩ := one r1 v1
    obtain ⟨a, ys, rfl, ha, ea⟩ := h1.lst w h2
    cases q : intsD ds with
    | none => rw [q] at e; cases e
    | some is =>
      rw [q] at e
      cases is with
      | nil => cases e
      | cons i is =>
        cases e
        rw [(ea.ints q).1] at ha
        obtain ⟨g1, g2⟩ := minL_mem is i
        refine cr_min hc pins s σ H _ us Q I rx ⟨a, i :: is, rfl, ha, by simp, fun m hm hy => ?_⟩
        have e : m = minL i is := Int.le_antisymm (hy _ g1) (g2 m hm)
        rw [e]
        exact h.int w
theorem cb_sum (hc : X.calm = true) : CallR X (.builtin "sum") (rC X.K biSum) := by
  intro pins s σ H xs us Q I rx h0
  obtain ⟨st, ρ, Hf, rs, ds, r, w, r1, v1, e, h⟩ := h0.un
  clear h0
  unfold biSum at e
  split at e <;> first | cases e; done | skip
  rename_i ds
  obtain ⟨r9, x, rfl, rfl, h1, h2⟩ := one r1 v1
  obtain ⟨a, ys, rfl, ha, ea⟩ := h1.lst w h2
  cases q : intsD ds with
  | none => rw [q] at e; cases e
  | some is =>
    rw [q] at e
    cases e
    rw [(ea.ints q).1] at ha
    exact cr_sum hc pins s σ H _ us Q I rx ⟨a, is, rfl, ha, h.int w⟩
theorem cb_divmod : CallR X (.builtin "divmod") (rC X.K biDivmod) := by
  intro pins s σ H xs us Q I rx h0
  obtain ⟨st, ρ, Hf, rs, ds, r, w, r1, v1, e, h⟩ := h0.un
  clear h0
  unfold biDivmod at e
  split at e <;> first | cases e; done | skip
  rename_i i j
  by_cases hz : (decide (0 < j) && decide (j < 1073741824)) = true
  · rw [if_pos hz] at e
    cases e
    obtain ⟨r, x, r2, x2, rfl, rfl, h1, h2, h3, h4⟩ := two2 r1 v1
    obtain ⟨z1, z2⟩ := Bool.and_eq_true_iff.mp hz
    rw [h1.int w h2, h3.int w h4] at rx
    exact call_divmod pins s σ H _ us Q I rx ⟨i, j, rfl, ⟨of_decide_eq_true z1, of_decide_eq_true z2⟩, fun p hp => h.newT w (.cons (.int _) (.cons (.int _) .nil)) hp⟩
  · rw [if_neg hz] at e; cases e
/-- the types of data -/
def tyN : Ty → String
  | .int => "int"
  | .bool => "bool"
  | .str => "str"
  | .tuple => "tuple"
  | .list => "list"
  | .dict => "dict"
def tyD : D → String
  | .none => "NoneType"
  | .bool _ => "bool"
  | .int _ => "int"
  | .str _ => "str"
  | .list _ => "list"
  | .tuple _ => "tuple"
  | .dict _ => "dict"
end
end Vm

set_option Elab.async false
set_option linter.all false
set_option maxRecDepth 100000
set_option maxHeartbeats 4000000
/-! Vm: soundness, part 5: argument lists, displays, and, or, tests, slices. -/
namespace Vm
open PySem PySem.Spec PyProof.Rows L2
/-! ### a result held -/
theorem live_snoc {s : Sto} {d e : D} {k : Nat} (l : live (s ++ [.fl d]) k e) : (k < s.length ∧ live s k e) ∨ (k = s.length ∧ e = d) := by
  obtain ⟨o, h1, h2⟩ := l
  by_cases q : k < s.length
  · rw [List.getElem?_append_left q] at h1
    exact .inl ⟨q, o, h1, h2⟩
  · rw [List.getElem?_append_right (by omega)] at h1
    by_cases z : k - s.length = 0
    · rw [z] at h1
      simp at h1
      subst h1
      cases h2
      exact .inr ⟨by omega, rfl⟩
    · rw [List.getElem?_eq_none (by simp; omega)] at h1
      cases h1
theorem WOk.alloc {K : PySem.W.Frag} {s : Sto} {ρ : Rho} {Hf H : Hp} {a : Addr} {u : HO} {d : D} (w : WOk K s ρ Hf H) (h : H a = some u) (hn : Hf a = none) (nl : ∀ k d, live s k d → ρ[k]? ≠ some a) (r : OR K Hf u d) : WOk K (s ++ [.fl d]) (ρ ++ [a]) Hf H where
  sub := w.sub
  len := by rw [List.length_append, List.length_append, w.len]; rfl
  at_ := fun k e l => by
    rcases live_snoc l with ⟨q, l⟩ | ⟨q, rfl⟩
    · obtain ⟨b, x, h1, h2⟩ := w.at_ k e l
      exact ⟨b, x, by rw [List.getElem?_append_left (by rw [w.len]; exact q)]; exact h1, h2⟩
    · exact ⟨a, u, by rw [q, ← w.len]; simp, h, hn, r⟩
  inj := fun j k d1 d2 b lj lk hj hk => by
    have hl := w.len
    rcases live_snoc lj with ⟨q, lj⟩ | ⟨q, _⟩ <;> rcases live_snoc lk with ⟨q2, lk⟩ | ⟨q2, _⟩
    · rw [List.getElem?_append_left (by omega)] at hj hk
      exact w.inj j k d1 d2 b lj lk hj hk
    · rw [List.getElem?_append_left (by omega)] at hj
      rw [q2, ← hl] at hk
      simp at hk
      subst hk
      exact absurd hj (nl j d1 lj)
    · rw [List.getElem?_append_left (by omega)] at hk
      rw [q, ← hl] at hj
      simp at hj
      subst hj
      exact absurd hk (nl k d2 lk)
    · omega
  ded := fun k b e1 e2 => by
    by_cases q : k < s.length
    · rw [List.getElem?_append_left q] at e1
      rw [List.getElem?_append_left (by rw [w.len]; exact q)] at e2
      exact w.ded k b e1 e2
    · rw [List.getElem?_append_right (by omega)] at e1
      by_cases z : k - s.length = 0
      · rw [z] at e1
        cases e1
      · rw [List.getElem?_eq_none (by simp; omega)] at e1
        cases e1
theorem hold_ok {K : PySem.W.Frag} {s0 s s' : Sto} {ρ0 ρ : Rho} {Hf0 H0 Hf H : Hp} {r : R} {x : V} {l : Vl} {m : Bool} (w : WOk K s ρ Hf H) (x0 : Ext s0 ρ0 Hf0 H0 s ρ Hf H) (fr : Fresh H0 r x) (h : RRep K s ρ Hf H r x) (e : hold m r s = .ok l s') :
    ∃ ρ' Hf', WOk K s' ρ' Hf' H ∧ Ext s0 ρ0 Hf0 H0 s' ρ' Hf' H ∧ VRep K ρ' Hf' l x := by
  cases r with
  | v d =>
    cases e
    cases h with
    | v r => exact ⟨ρ, Hf, w, x0, .v r⟩
  | p k =>
    cases e
    cases h with
    | p r => exact ⟨ρ, Hf, w, x0, .p r⟩
  | g d =>
    cases e
    cases h with
    | g r => exact ⟨ρ, Hf, w, x0, .g r⟩
  | n d =>
    cases m with
    | false =>
      have e : Out.ok (Vl.v d) s = .ok l s' := e
      cases e
      obtain ⟨Hf', w', x', r'⟩ := take_ok w x0 fr h (d := d) (s' := s) rfl
      exact ⟨ρ, Hf', w', x', .v r'⟩
    | true =>
      have e : Out.ok (Vl.p s.length) (s ++ [.fl d]) = .ok l s' := e
      cases e
      cases h with
      | @n _ a u h1 h2 h3 h4 =>
        obtain ⟨a', h5, h6⟩ := fr
        cases h5
        refine ⟨ρ ++ [a], Hf, w.alloc h1 h2 h3 h4, ⟨x0.pre.trans (List.prefix_append _ _), x0.fz, fun b y eb nb => ?_, x0.grow⟩, .p (by rw [← w.len]; simp)⟩
        obtain ⟨g1, g2, g3⟩ := x0.keep b y eb nb
        refine ⟨g1, g2, fun k e l => ?_⟩
        have hl := w.len
        rcases live_snoc l with ⟨q, l⟩ | ⟨q, _⟩
        · rw [List.getElem?_append_left (by omega)]
          exact g3 k e l
        · rw [q, ← hl]
          simp
          exact fun z => ne_of_none eb h6 z.symm
/-! ### argument lists -/
abbrev ReRs (K : PySem.W.Frag) : Sto → Rho → Hp → Hp → Hp → List R → List V → Prop := fun s' ρ' Hf' H' _ rs vs => RReps K s' ρ' Hf' H' rs vs
abbrev ReTs (K : PySem.W.Frag) : Sto → Rho → Hp → Hp → Hp → List D → List V → Prop := fun _ _ Hf' _ _ ds vs => Reps K Hf' vs ds
abbrev ReAs (K : PySem.W.Frag) : Sto → Rho → Hp → Hp → Hp → List Vl → List V → Prop := fun _ ρ' Hf' _ _ ls vs => Paired (VRep K ρ' Hf') ls vs
theorem RReps.ext {K : PySem.W.Frag} {s s' : Sto} {ρ ρ' : Rho} {Hf H Hf' H' : Hp} {rs : List R} {xs : List V} (h : RReps K s ρ Hf H rs xs) (e : Ext s ρ Hf H s' ρ' Hf' H') : RReps K s' ρ' Hf' H' rs xs := Paired.mapP h fun _ _ q => q.ext e
def noStar : Expr → Bool
  | .Starred _ _ => false
  | _ => true
theorem star_cons {e : Expr} {es : List Expr} {env : PySem.Env} (h : noStar e = true) : starEach (e :: es) env = (false, eval e env) :: starEach es env := by
  cases e <;> first | rfl | cases h
theorem star_plain : ∀ {es : List Expr} {env : PySem.Env} {pos : Pos}, es.all noStar = true → (backTo pos (starEach es env)).any (·.1) = false
  | [], _, _, _ => rfl
  | e :: es, env, pos, h => by
    rw [List.all_cons, Bool.and_eq_true] at h
    rw [star_cons h.1]
    have ih := star_plain (es := es) (env := env) (pos := pos) h.2
    cases es with
    | nil => rfl
    | cons e2 es =>
      rw [List.all_cons, Bool.and_eq_true] at h
      rw [star_cons h.2.1] at ih ⊢
      exact ih
section
variable {X : Cx} {C : Cfg}
def SRs (X : Cx) (C : Cfg) (es : List Expr) (cs : List Co) : Prop := ∀ env s, PA X es (Rdg X.K (ReRs X.K) env s (evRs C cs env s))
def STs (X : Cx) (C : Cfg) (es : List Expr) (cs : List Co) : Prop := ∀ env s, PA X es (Rdg X.K (ReTs X.K) env s (evTs C cs env s))
def SAs (X : Cx) (C : Cfg) (es : List Expr) (cs : List Co) : Prop := ∀ ms env s, PA X es (Rdg X.K (ReAs X.K) env s (evAs C cs ms env s))
variable {e : Expr} {es : List Expr} {c : Co} {cs : List Co}
theorem srs_nil : SRs X C [] [] := fun env s => PA.conseq pa_nil fun σ H Q h => by
  obtain ⟨ρ, Hf, w, eo, h⟩ := h
  exact h [] ρ Hf H w .refl .nil
theorem sts_nil : STs X C [] [] := fun env s => PA.conseq pa_nil fun σ H Q h => by
  obtain ⟨ρ, Hf, w, eo, h⟩ := h
  exact h [] ρ Hf H w .refl .nil
theorem sas_nil : SAs X C [] [] := fun ms env s => PA.conseq pa_nil fun σ H Q h => by
  obtain ⟨ρ, Hf, w, eo, h⟩ := h
  exact h [] ρ Hf H w .refl .nil
theorem srs_cons (hn : noStar e = true) (ha : SE X C e c) (hr : SRs X C es cs) : SRs X C (e :: es) (c :: cs) := fun env s => by
  cases ea : evE C c env s with
  | no =>
    refine PA.ff fun σ H Q h => ?_
    obtain ⟨a, s1, e⟩ := Rdg.ok_of h
    rw [ea] at e
    cases e
  | ok ra s1 =>
    refine PA.conseq (pa_cons (ha env s) (hr env s1) (star_cons hn)) fun σ H Q h => ?_
    obtain ⟨ρ, Hf, w, eo, h⟩ := h
    obtain ⟨ra', s1', ea', h⟩ := h.bind
    rw [ea] at ea'
    cases ea'
    obtain ⟨rs, s2, er, h⟩ := h.bind
    refine ⟨ρ, Hf, w, eo, ?_⟩
    rw [ea]
    intro x ρ1 Hf1 H1 w1 x1 rx
    refine ⟨ρ1, Hf1, w1, eo.ext x1, ?_⟩
    rw [er]
    intro xs ρ2 Hf2 H2 w2 x2 rxs
    exact h (x :: xs) ρ2 Hf2 H2 w2 (x1.trans x2) (.cons (rx.1.ext x2) rxs)
theorem sts_cons (hn : noStar e = true) (ha : SE X C e c) (hr : STs X C es cs) : STs X C (e :: es) (c :: cs) := fun env s => by
  cases ea : evE C c env s with
  | no =>
    refine PA.ff fun σ H Q h => ?_
    obtain ⟨a, s1, e⟩ := Rdg.ok_of h
    rw [ea] at e
    cases e
  | ok ra s1 =>
    cases et : take ra s1 with
    | no =>
      refine PA.ff fun σ H Q h => ?_
      obtain ⟨ρ, Hf, w, eo, h⟩ := h
      obtain ⟨ra', s1', ea', h⟩ := h.bind
      rw [ea] at ea'
      cases ea'
      obtain ⟨d, s2, e, h⟩ := h.bind
      rw [et] at e
      cases e
    | ok d s2 =>
      refine PA.conseq (pa_cons (ha env s) (hr env s2) (star_cons hn)) fun σ H Q h => ?_
      obtain ⟨ρ, Hf, w, eo, h⟩ := h
      obtain ⟨ra', s1', ea', h⟩ := h.bind
      rw [ea] at ea'
      cases ea'
      obtain ⟨d', s2', et', h⟩ := h.bind
      rw [et] at et'
      cases et'
      obtain ⟨rs, s3, er, h⟩ := h.bind
      refine ⟨ρ, Hf, w, eo, ?_⟩
      rw [ea]
      intro x ρ1 Hf1 H1 w1 x1 rx
      obtain ⟨Hf1', w1', x1', rd⟩ := take_ok w1 x1 rx.2 rx.1 et
      refine ⟨ρ1, Hf1', w1', eo.ext x1', ?_⟩
      rw [er]
      intro xs ρ2 Hf2 H2 w2 x2 rxs
      exact h (x :: xs) ρ2 Hf2 H2 w2 (x1'.trans x2) (.cons (rd.mono x2.fz) rxs)
theorem sas_cons (hn : noStar e = true) (ha : SE X C e c) (hr : SAs X C es cs) : SAs X C (e :: es) (c :: cs) := fun ms env s => by
  cases ea : evE C c env s with
  | no =>
    refine PA.ff fun σ H Q h => ?_
    obtain ⟨a, s1, e⟩ := Rdg.ok_of h
    rw [ea] at e
    cases e
  | ok ra s1 =>
    cases et : hold (ms.headD false) ra s1 with
    | no =>
      refine PA.ff fun σ H Q h => ?_
      obtain ⟨ρ, Hf, w, eo, h⟩ := h
      obtain ⟨ra', s1', ea', h⟩ := h.bind
      rw [ea] at ea'
      cases ea'
      obtain ⟨d, s2, e, h⟩ := h.bind
      rw [et] at e
      cases e
    | ok d s2 =>
      refine PA.conseq (pa_cons (ha env s) (hr ms.tail env s2) (star_cons hn)) fun σ H Q h => ?_
      obtain ⟨ρ, Hf, w, eo, h⟩ := h
      obtain ⟨ra', s1', ea', h⟩ := h.bind
      rw [ea] at ea'
      cases ea'
      obtain ⟨d', s2', et', h⟩ := h.bind
      rw [et] at et'
      cases et'
      obtain ⟨rs, s3, er, h⟩ := h.bind
      refine ⟨ρ, Hf, w, eo, ?_⟩
      rw [ea]
      intro x ρ1 Hf1 H1 w1 x1 rx
      obtain ⟨ρ1', Hf1', w1', x1', rd⟩ := hold_ok w1 x1 rx.2 rx.1 et
      refine ⟨ρ1', Hf1', w1', eo.ext x1', ?_⟩
      rw [er]
      intro xs ρ2 Hf2 H2 w2 x2 rxs
      exact h (x :: xs) ρ2 Hf2 H2 w2 (x1'.trans x2) (.cons (rd.ext x2) rxs)
/-! ### displays -/
variable {pos : Pos} {k : Nat}
theorem Reps.sizeOk {K : PySem.W.Frag} {H : Hp} {xs : List V} {ds : List D} (r : Reps K H xs ds) (h : lenOk ds.length = true) : xs.length ≤ sizeLine := by
  rw [r.length]
  exact of_decide_eq_true h
theorem evTs_len : ∀ {cs : List Co} {env : Env} {s s' : Sto} {ds : List D}, evTs C cs env s = .ok ds s' → ds.length = cs.length
  | [], _, _, _, _, h => by
    simp only [evTs, ret] at h
    cases h
    rfl
  | c :: cs, env, s, s', ds, h => by
    unfold evTs at h
    obtain ⟨r, s1, _, h⟩ := bind_ok h
    obtain ⟨d, s2, _, h⟩ := bind_ok h
    obtain ⟨es, s3, e3, h⟩ := bind_ok h
    cases h
    rw [List.length_cons, List.length_cons, evTs_len e3]
theorem se_tup (hl : cs.length ≤ sizeLine) (h : STs X C es cs) : SE X C (.Tuple es k pos) (.tup cs) := fun env s => by
  refine PE.conseq (pe_tup (h env s)) fun σ H Q q => ?_
  obtain ⟨ρ, Hf, w, eo, q⟩ := q
  have q : Post X.K s ρ Hf H (ReR X.K) (bind (evTs C cs env) (fun ds => ret (.v (.tuple ds))) s) Q := by
    unfold evE at q
    exact q
  obtain ⟨ds, s1, e1, q⟩ := q.bind
  refine ⟨ρ, Hf, w, eo, ?_⟩
  rw [e1]
  intro xs ρ1 Hf1 H1 w1 x1 rx
  refine ⟨by rw [rx.length, evTs_len e1]; exact hl, fun p hp => ?_⟩
  exact (q.at x1 (ReR.back x1)).newT w1 rx hp
theorem se_lst (hl : cs.length ≤ sizeLine) (h : STs X C es cs) : SE X C (.List es pos) (.lst cs) := fun env s => by
  refine PE.conseq (pe_lst (h env s)) fun σ H Q q => ?_
  obtain ⟨ρ, Hf, w, eo, q⟩ := q
  have q : Post X.K s ρ Hf H (ReR X.K) (bind (evTs C cs env) (fun ds => ret (.n (.list ds))) s) Q := by
    unfold evE at q
    exact q
  obtain ⟨ds, s1, e1, q⟩ := q.bind
  refine ⟨ρ, Hf, w, eo, ?_⟩
  rw [e1]
  intro xs ρ1 Hf1 H1 w1 x1 rx
  refine ⟨by rw [rx.length, evTs_len e1]; exact hl, fun p hp => ?_⟩
  exact (q.at x1 (ReR.back x1)).newL w1 rx hp
end
end Vm

set_option Elab.async false
set_option linter.all false
set_option maxRecDepth 100000
set_option maxHeartbeats 4000000
/-! Vm: soundness, part 6: one operand, and, or, chains, choices, tests, slices, built-in calls. -/
namespace Vm
open PySem PySem.Spec PyProof.Rows L2
section
variable {K : PySem.W.Frag} {α β γ : Type}
/-- a reading by its first run -/
theorem rdg_split {Rel : Sto → Rho → Hp → Hp → Hp → γ → β → Prop} {Rel2 : Sto → Rho → Hp → Hp → Hp → α → V → Prop} {env : Env} {s : Sto} {x : M α} {f : α → M γ} {σ : L2.St} {H : Hp} {Q : β → Hp → Prop} {P : V → Hp → Prop}
    (h : Rdg K Rel env s (bind x f s) σ H Q)
    (k : ∀ a s1 v ρ0 Hf0 ρ1 Hf1 H1, x s = .ok a s1 → WOk K s1 ρ1 Hf1 H1 → EnvOk K ρ1 Hf1 env σ → Ext s ρ0 Hf0 H s1 ρ1 Hf1 H1 → Rel2 s1 ρ1 Hf1 H1 H a v → Post K s ρ0 Hf0 H Rel (f a s1) Q → P v H1) : Rdg K Rel2 env s (x s) σ H P := by
  obtain ⟨ρ, Hf, w, eo, h⟩ := h
  obtain ⟨a, s1, e, h⟩ := h.bind
  refine ⟨ρ, Hf, w, eo, ?_⟩
  rw [e]
  intro v ρ1 Hf1 H1 w1 x1 r1
  exact k a s1 v ρ Hf ρ1 Hf1 H1 e w1 (eo.ext x1) x1 r1 h
end
section
variable {X : Cx} {C : Cfg} {a b c e : Expr} {ca cb cc : Co} {pos : Pos}
theorem se_neg (ha : SE X C a ca) : SE X C (.UnaryOp .USub a pos) (.neg ca) := fun env s => by
  refine PE.conseq (pe_un un_neg (ha env s)) fun σ H Q h => ?_
  unfold evE at h
  refine rdg_split h fun r s1 v ρ0 Hf0 ρ1 Hf1 H1 e w1 eo x1 rr h => ?_
  obtain ⟨d, s2, e2, h⟩ := h.bind
  obtain ⟨v1, rfl⟩ := look_ok e2
  cases d <;> first | exact h.elim | skip
  exact ⟨_, rr.1.int w1 v1, (h.at x1 (ReR.back x1)).int w1⟩
theorem se_not (ha : SE X C a ca) : SE X C (.UnaryOp .Not a pos) (.noT ca) := fun env s => by
  refine PE.conseq (pe_not (ha env s)) fun σ H Q h => ?_
  unfold evE at h
  refine rdg_split h fun r s1 v ρ0 Hf0 ρ1 Hf1 H1 e w1 eo x1 rr h => ?_
  obtain ⟨d, s2, e2, h⟩ := h.bind
  obtain ⟨v1, rfl⟩ := look_ok e2
  cases d <;> first | exact h.elim | skip
  exact ⟨_, rr.1.bool w1 v1, (h.at x1 (ReR.back x1)).bool w1⟩
theorem se_one {op : BoolOp} (ha : SE X C a ca) : SE X C (.BoolOp op [a] pos) ca := fun env s => pe_one (ha env s)
theorem se_and {rest : List Expr} (ha : SE X C a ca) (hb : SE X C (.BoolOp .And (b :: rest) pos) cb) : SE X C (.BoolOp .And (a :: b :: rest) pos) (.and ca cb) := fun env s => by
  cases ea : evE C ca env s with
  | no =>
    refine PE.ff fun σ H Q h => ?_
    unfold evE at h
    obtain ⟨a, s1, e⟩ := Rdg.ok_of h
    rw [ea] at e
    cases e
  | ok ra s1 =>
    refine PE.conseq (pe_and (ha env s) (hb env s1)) fun σ H Q h => ?_
    unfold evE at h
    refine rdg_split h fun r s1' v ρ0 Hf0 ρ1 Hf1 H1 e w1 eo x1 rr h => ?_
    rw [ea] at e
    cases e
    obtain ⟨d, s2, e2, h⟩ := h.bind
    obtain ⟨v1, rfl⟩ := look_ok e2
    cases d <;> first | exact h.elim | skip
    rename_i k
    refine ⟨k, rr.1.bool w1 v1, ?_⟩
    cases k with
    | true => exact ⟨ρ1, Hf1, w1, eo, h.at x1 (ReR.back x1)⟩
    | false => exact (h.at x1 (ReR.back x1)).bool w1
theorem se_or {rest : List Expr} (ha : SE X C a ca) (hb : SE X C (.BoolOp .Or (b :: rest) pos) cb) : SE X C (.BoolOp .Or (a :: b :: rest) pos) (.or ca cb) := fun env s => by
  cases ea : evE C ca env s with
  | no =>
    refine PE.ff fun σ H Q h => ?_
    unfold evE at h
    obtain ⟨a, s1, e⟩ := Rdg.ok_of h
    rw [ea] at e
    cases e
  | ok ra s1 =>
    refine PE.conseq (pe_or (ha env s) (hb env s1)) fun σ H Q h => ?_
    unfold evE at h
    refine rdg_split h fun r s1' v ρ0 Hf0 ρ1 Hf1 H1 e w1 eo x1 rr h => ?_
    rw [ea] at e
    cases e
    obtain ⟨d, s2, e2, h⟩ := h.bind
    obtain ⟨v1, rfl⟩ := look_ok e2
    cases d <;> first | exact h.elim | skip
    rename_i k
    refine ⟨k, rr.1.bool w1 v1, ?_⟩
    cases k with
    | true => exact (h.at x1 (ReR.back x1)).bool w1
    | false => exact ⟨ρ1, Hf1, w1, eo, h.at x1 (ReR.back x1)⟩
/-! ### tests -/
theorem rdg_splitT {K : PySem.W.Frag} {β γ : Type} {Rel : Sto → Rho → Hp → Hp → Hp → γ → β → Prop} {env : Env} {s : Sto} {x : M Bool} {f : Bool → M γ} {σ : L2.St} {H : Hp} {Q : β → Hp → Prop} {P : Bool → Hp → Prop}
    (h : Rdg K Rel env s (bind x f s) σ H Q)
    (k : ∀ a s1 ρ0 Hf0 ρ1 Hf1 H1, x s = .ok a s1 → WOk K s1 ρ1 Hf1 H1 → EnvOk K ρ1 Hf1 env σ → Ext s ρ0 Hf0 H s1 ρ1 Hf1 H1 → Post K s ρ0 Hf0 H Rel (f a s1) Q → P a H1) : Rdg K ReB env s (x s) σ H P := by
  obtain ⟨ρ, Hf, w, eo, h⟩ := h
  obtain ⟨a, s1, e, h⟩ := h.bind
  refine ⟨ρ, Hf, w, eo, ?_⟩
  rw [e]
  intro v ρ1 Hf1 H1 w1 x1 r1
  have r1 : a = v := r1
  subst r1
  exact k a s1 ρ Hf ρ1 Hf1 H1 e w1 (eo.ext x1) x1 h
theorem ReB.back {H0 H1 : Hp} : ∀ (s' : Sto) (ρ' : Rho) (Hf' H' : Hp) (a b : Bool), ReB s' ρ' Hf' H' H1 a b → ReB s' ρ' Hf' H' H0 a b := fun _ _ _ _ _ _ h => h
theorem Post.tst {K : PySem.W.Frag} {s0 s : Sto} {ρ0 ρ : Rho} {Hf0 H0 Hf H : Hp} {b : Bool} {Q : Bool → Hp → Prop} (w : WOk K s ρ Hf H) (x : Ext s0 ρ0 Hf0 H0 s ρ Hf H) (h : Post K s0 ρ0 Hf0 H0 ReB (.ok b s) Q) : Q b H := h b ρ Hf H w x rfl
/-- an and, an or as a test, whatever it stands in -/
def STw (X : Cx) (C : Cfg) (e : Expr) (c : Co) : Prop := ∀ env s, PW X e (TTv X.K env s (evT C c env s))
theorem PW.conseq {t t' : TT} (h : PW X e t) (k : ∀ σ H Q, t' σ H Q → t σ H Q) : PW X e t' := ⟨fun wh pins s σ H Q I q => h.run wh pins s σ H Q I (k σ H Q q)⟩
theorem PW.ff {t : TT} (k : ∀ σ H Q, ¬ t σ H Q) : PW X e t := ⟨fun _ _ _ σ H Q _ q => (k σ H Q q).elim⟩
theorem stw_and1 (ha : ST X C a ca) : STw X C (.BoolOp .And [a] pos) ca := fun env s => pw_and1 (ha env s)
theorem stw_or1 (ha : ST X C a ca) : STw X C (.BoolOp .Or [a] pos) ca := fun env s => pw_or1 (ha env s)
theorem stw_and {rest : List Expr} (ha : ST X C a ca) (hb : STw X C (.BoolOp .And (b :: rest) pos) cb) : STw X C (.BoolOp .And (a :: b :: rest) pos) (.and ca cb) := fun env s => by
  cases ea : evT C ca env s with
  | no =>
    refine PW.ff fun σ H Q h => ?_
    unfold evT at h
    obtain ⟨a, s1, e⟩ := Rdg.ok_of h
    rw [ea] at e
    cases e
  | ok ra s1 =>
    refine PW.conseq (pw_and (ha env s) (hb env s1)) fun σ H Q h => ?_
    unfold evT at h
    refine rdg_splitT h fun r s1' ρ0 Hf0 ρ1 Hf1 H1 e w1 eo x1 h => ?_
    rw [ea] at e
    cases e
    cases ra with
    | true => exact ⟨ρ1, Hf1, w1, eo, h.at x1 ReB.back⟩
    | false => exact h.tst w1 x1
theorem stw_or {rest : List Expr} (ha : ST X C a ca) (hb : STw X C (.BoolOp .Or (b :: rest) pos) cb) : STw X C (.BoolOp .Or (a :: b :: rest) pos) (.or ca cb) := fun env s => by
  cases ea : evT C ca env s with
  | no =>
    refine PW.ff fun σ H Q h => ?_
    unfold evT at h
    obtain ⟨a, s1, e⟩ := Rdg.ok_of h
    rw [ea] at e
    cases e
  | ok ra s1 =>
    refine PW.conseq (pw_or (ha env s) (hb env s1)) fun σ H Q h => ?_
    unfold evT at h
    refine rdg_splitT h fun r s1' ρ0 Hf0 ρ1 Hf1 H1 e w1 eo x1 h => ?_
    rw [ea] at e
    cases e
    cases ra with
    | true => exact h.tst w1 x1
    | false => exact ⟨ρ1, Hf1, w1, eo, h.at x1 ReB.back⟩
theorem STw.st {c' : Co} (h : STw X C e c') : ST X C e c' := fun env s => (h env s).pt
theorem st_not (ha : ST X C a ca) : ST X C (.UnaryOp .Not a pos) (.noT ca) := fun env s => by
  refine PT.conseq (pt_not (ha env s)) fun σ H Q h => ?_
  unfold evT at h
  refine rdg_splitT h fun r s1' ρ0 Hf0 ρ1 Hf1 H1 e w1 eo x1 h => ?_
  exact h.tst w1 x1
theorem RRep.tru {K : PySem.W.Frag} {s : Sto} {ρ : Rho} {Hf H : Hp} {r : R} {x : V} {d : D} {k : Bool} (h : RRep K s ρ Hf H r x) (w : WOk K s ρ Hf H) (e : Vm.view s r = some d) (t : truD d = some k) : TruV K x H k := by
  cases d with
  | none => rw [h.non w e]; cases t; rfl
  | bool b => rw [h.bool w e]; cases t; rfl
  | int b => rw [h.int w e]; cases t; rfl
  | str b => cases t
  | list ds =>
    obtain ⟨a, xs, rfl, h1, h2⟩ := h.lst w e
    cases t
    refine .inl ⟨xs, h1, ?_⟩
    cases h2 <;> rfl
  | tuple ds =>
    obtain ⟨a, xs, rfl, h1, h2⟩ := h.tup w e
    cases t
    refine .inr (.inl ⟨xs, h1, ?_⟩)
    cases h2 <;> rfl
  | dict ds => cases t
/-- a value's truth -/
theorem st_tru {ce : Co} (he : ∀ whole, isTrue e X.env whole = (do let v ← whole; standAt e.pos; holding [v] (truthy v))) (ha : SE X C e ce) (hc : ∀ env, evT C ce env = bind (evE C ce env) fun r => bind (look r) fun d => ofO (truD d)) : ST X C e ce := fun env s => by
  refine PT.conseq (pt_truth (ha env s) he) fun σ H Q h => ?_
  rw [hc] at h
  refine rdg_split h fun r s1 v ρ0 Hf0 ρ1 Hf1 H1 e w1 eo x1 rr h => ?_
  obtain ⟨d, s2, e2, h2⟩ := h.bind
  clear h
  obtain ⟨v1, rfl⟩ := look_ok e2
  cases q : truD d with
  | none =>
    rw [q] at h2
    exact h2.elim
  | some k =>
    rw [q] at h2
    exact ⟨k, rr.1.tru w1 v1 q, h2.tst w1 x1⟩
/-- a comparison as a test -/
theorem st_cmp {op : CmpOp} {o : Cp} (ho : OpR X (compareOp op) (rB X.K fun d d2 => bind (ofO (cmpD o d d2)) fun c => ret (.v (.bool c)))) (hm : behindInMarks op b = false) (ha : SE X C a ca) (hb : SE X C b cb) : ST X C (.Compare a [op] [b] pos) (.cmp o ca cb) := fun env s => by
  cases ea : evE C ca env s with
  | no =>
    refine PT.ff fun σ H Q h => ?_
    unfold evT at h
    obtain ⟨a, s1, e⟩ := Rdg.ok_of h
    rw [ea] at e
    cases e
  | ok ra s1 =>
    refine PT.conseq (pt_cmpR ho (ha env s) (hb env s1) hm) fun σ H Q h => ?_
    unfold evT at h
    refine rdg_split h fun r s1' v ρ0 Hf0 ρ1 Hf1 H1 e w1 eo x1 rr h => ?_
    rw [ea] at e
    cases e
    obtain ⟨rb, s2, eb, h1⟩ := h.bind
    clear h
    refine ⟨ρ1, Hf1, w1, eo, ?_⟩
    rw [eb]
    intro y ρ2 Hf2 H2 w2 x2 ry
    obtain ⟨d, s3, e3, h2⟩ := h1.bind
    clear h1
    obtain ⟨v3, e3'⟩ := look_ok e3
    subst e3'
    obtain ⟨d2, s4, e4, h⟩ := h2.bind
    clear h2
    obtain ⟨v4, e4'⟩ := look_ok e4
    subst e4'
    refine ⟨_, ρ2, Hf2, ra, rb, w2, rr.1.ext x2, ry.1, ?_⟩
    have q : ∀ s4, look ra s4 = .ok d s4 → look rb s4 = .ok d2 s4 → (bind (look ra) (fun d => bind (look rb) fun d2 => bind (ofO (cmpD o d d2)) fun c => ret (.v (.bool c))) s4) = bind (ofO (cmpD o d d2)) (fun c => ret (R.v (.bool c))) s4 := fun s4 e3 e4 => by
      unfold bind
      rw [e3]
      simp only []
      rw [e4]
    rw [q _ e3 e4]
    cases k : cmpD o d d2 with
    | none =>
      rw [k] at h
      exact h.elim
    | some k' =>
      rw [k] at h
      intro z ρ3 Hf3 H3 w3 x3 rz
      cases rz.1 with
      | v rz => exact ⟨k', rz.bool_of, h.tst w3 ((x1.trans x2).trans x3)⟩
/-- a if t else b -/
theorem se_ite {t : Expr} {ct : Co} (ht : ST X C t ct) (ha : SE X C a ca) (hb : SE X C b cb) : SE X C (.IfExp t a b pos) (.ite ct ca cb) := fun env s => by
  cases ea : evT C ct env s with
  | no =>
    refine PE.ff fun σ H Q h => ?_
    unfold evE at h
    obtain ⟨a, s1, e⟩ := Rdg.ok_of h
    rw [ea] at e
    cases e
  | ok ra s1 =>
    refine PE.conseq (pe_ifExp (ht env s) (ha env s1) (hb env s1)) fun σ H Q h => ?_
    unfold evE at h
    refine rdg_splitT h fun r s1' ρ0 Hf0 ρ1 Hf1 H1 e w1 eo x1 h => ?_
    rw [ea] at e
    cases e
    cases ra with
    | true => exact ⟨ρ1, Hf1, w1, eo, h.at x1 (ReR.back x1)⟩
    | false => exact ⟨ρ1, Hf1, w1, eo, h.at x1 (ReR.back x1)⟩
/-! ### built-in calls -/
theorem ld_call {f : Bf} {cs : List Co} {es : List Expr} {r : List V → Hp → VK → Prop} (hr : r = rC X.K (biD f)) (h : SRs X C es cs) : ∀ env s σ H Q, TEv X.K env s (evE C (.bi f cs) env s) σ H Q → tCB r (Rdg X.K (ReRs X.K) env s (evRs C cs env s)) σ H Q := fun env s σ H Q q => by
  subst hr
  unfold evE at q
  obtain ⟨ρ, Hf, w, eo, q⟩ := q
  obtain ⟨rs, s1, e, q⟩ := q.bind
  refine ⟨ρ, Hf, w, eo, ?_⟩
  rw [e]
  intro xs ρ1 Hf1 H1 w1 x1 rx
  exact ⟨s1, ρ1, Hf1, rs, w1, rx, q.at x1 (ReR.back x1)⟩
theorem se_bi {f : Bf} {x : Str} {id : String} {es : List Expr} {cs : List Co} {p : Pos} (hc : CallR X (.builtin id) (rC X.K (biD f))) (hg : Gl X x) (hm : X.mg x = none) (hv : bootBuiltins x = some (.builtin id)) (hn : x ≠ "__name__") (hdb : (x == ("__debug__" : Str)) = false)
    (hs : (e :: es).all noStar = true) (h : SRs X C (e :: es) cs) : SE X C (.Call (.Name x p) (e :: es) [] pos) (.bi f cs) := fun env s => by
  rw [List.all_cons, Bool.and_eq_true] at hs
  exact PE.conseq (pe_callB hc hg hm hv (h env s) hn hdb (star_cons hs.1) (star_plain hs.2)) (ld_call rfl h env s)
theorem se_ty {f : Bf} {x : Str} {id : String} {es : List Expr} {cs : List Co} {p : Pos} (hc : CallR X (.type id) (rC X.K (biD f))) (hg : Gl X x) (hm : X.mg x = none) (hv : bootBuiltins x = some (.type id)) (hn : x ≠ "__name__") (hdb : (x == ("__debug__" : Str)) = false)
    (hs : (e :: es).all noStar = true) (h : SRs X C (e :: es) cs) : SE X C (.Call (.Name x p) (e :: es) [] pos) (.bi f cs) := fun env s => by
  rw [List.all_cons, Bool.and_eq_true] at hs
  exact PE.conseq (pe_callTy hc hg hm hv (h env s) hn hdb (star_cons hs.1) (star_plain hs.2)) (ld_call rfl h env s)
end
end Vm

set_option Elab.async false
set_option linter.all false
set_option maxRecDepth 100000
set_option maxHeartbeats 4000000
/-! Vm: soundness, part 7: slices, chains of comparisons. -/
namespace Vm
open PySem PySem.Spec PyProof.Rows L2
abbrev ReO : Sto → Rho → Hp → Hp → Hp → Option Int → Option Int → Prop := fun _ _ _ _ _ a b => a = b
def SPo (X : Cx) (C : Cfg) (o : Option Expr) (cs : List Co) : Prop := ∀ env s, PO X o (Rdg X.K ReO env s (evP C cs env s))
section
variable {X : Cx} {C : Cfg} {a b c e : Expr} {ca cb cc : Co} {pos : Pos}
theorem PO.conseq {o : Option Expr} {t t' : TO} (h : PO X o t) (k : ∀ σ H Q, t' σ H Q → t σ H Q) : PO X o t' := ⟨fun pins s σ H Q I q => h.run pins s σ H Q I (k σ H Q q)⟩
theorem PO.ff {o : Option Expr} {t : TO} (k : ∀ σ H Q, ¬ t σ H Q) : PO X o t := ⟨fun _ _ σ H Q _ q => (k σ H Q q).elim⟩
theorem spo_none : SPo X C none [] := fun env s => PO.conseq po_none fun σ H Q h => by
  obtain ⟨ρ, Hf, w, eo, h⟩ := h
  unfold evP at h
  exact h none ρ Hf H w .refl rfl
theorem spo_some (ha : SE X C a ca) : SPo X C (some a) [ca] := fun env s => PO.conseq (po_some (ha env s)) fun σ H Q h => by
  unfold evP at h
  refine rdg_split h fun r s1 v ρ0 Hf0 ρ1 Hf1 H1 e w1 eo x1 rr h => ?_
  obtain ⟨d, s2, e2, h2⟩ := h.bind
  clear h
  obtain ⟨v1, e3⟩ := look_ok e2
  subst e3
  cases d <;> first | exact h2.elim | skip
  exact ⟨_, rr.1.int w1 v1, h2 _ ρ1 Hf1 H1 w1 x1 rfl⟩
def rSlc (K : PySem.W.Frag) : V → Option Int → Option Int → Hp → VK → Prop := fun x lo hi H Q => ∃ s ρ Hf r, WOk K s ρ Hf H ∧ RRep K s ρ Hf H r x ∧ Post K s ρ Hf H (ReR K) (bind (lookP r) (fun d => ofO (slD d lo hi)) s) Q
theorem Reps.cut {K : PySem.W.Frag} {H : Hp} {xs : List V} {ds : List D} (r : Reps K H xs ds) (lo hi : Option Int) : Reps K H (cutV xs lo hi) (cutL ds lo hi) := by
  unfold cutV cutL
  rw [r.length]
  exact (r.drop _).take _
theorem Reps.all_cut {xs : List V} {lo hi : Option Int} (h : HT.sIx xs.length 0 lo = 0 ∧ HT.sIx xs.length xs.length hi = xs.length) : cutV xs lo hi = xs := by
  unfold cutV
  rw [h.1, h.2]
  simp
theorem sl_any : SlR X (rSlc X.K) := by
  intro pins s σ H x v vl vu lo hi sl Q I rx hs pl pu h0
  obtain ⟨st, ρ, Hf, r, w, rr, h⟩ := h0
  obtain ⟨d, s2, e2, h2⟩ := h.bind
  clear h
  obtain ⟨v1, e3, ng⟩ := lookP_ok e2
  subst e3
  cases d <;> first | exact h2.elim | skip
  · obtain ⟨a, xs, rfl, ha, ea⟩ := rr.lst w v1
    exact sl_list pins s σ H _ v vl vu lo hi sl Q I rx hs pl pu ⟨a, xs, rfl, ha, fun p hp => h2.newL w (ea.cut lo hi) hp⟩
  · rename_i ds
    obtain ⟨a, xs, rfl, ha, ea⟩ := rr.tup w v1
    refine sl_tupA pins s σ H _ v vl vu lo hi sl Q I rx hs pl pu ⟨a, xs, rfl, ha, fun z => ?_, fun _ p hp => h2.newT w (ea.cut lo hi) hp⟩
    have e : cutL ds lo hi = ds := by
      have z' : HT.sIx ds.length 0 lo = 0 ∧ HT.sIx ds.length ds.length hi = ds.length := by rw [← ea.length]; exact z
      unfold cutL
      rw [z'.1, z'.2]
      simp
    have h3 : Post X.K _ ρ Hf H (ReR X.K) (.ok (.v (.tuple (cutL ds lo hi))) _) Q := h2
    rw [e] at h3
    rcases rr.partsN w v1 ng with q | ⟨_, _, _, _, q⟩
    · exact Post.fin w h3 (.v q) trivial
    · cases q
theorem se_sl {lo hi : Option Expr} {clo chi : List Co} {p2 : Pos} (ha : SE X C a ca) (hl : SPo X C lo clo) (hh : SPo X C hi chi) : SE X C (.Subscript a (.Slice lo hi none p2) pos) (.sl ca clo chi) := fun env s => by
  cases ea : evE C ca env s with
  | no =>
    refine PE.ff fun σ H Q h => ?_
    unfold evE at h
    obtain ⟨a, s1, e⟩ := Rdg.ok_of h
    rw [ea] at e
    cases e
  | ok ra s1 =>
    cases el : evP C clo env s1 with
    | no =>
      refine PE.ff fun σ H Q h => ?_
      unfold evE at h
      obtain ⟨ρ, Hf, w, eo, h⟩ := h
      obtain ⟨r, s1', e1, h1⟩ := h.bind
      rw [ea] at e1
      cases e1
      obtain ⟨l, s2, e2, h2⟩ := h1.bind
      rw [el] at e2
      cases e2
    | ok l s2 =>
      refine PE.conseq (pe_slice sl_any (ha env s) (hl env s1) (hh env s2)) fun σ H Q h => ?_
      unfold evE at h
      refine rdg_split h fun r s1' v ρ0 Hf0 ρ1 Hf1 H1 e w1 eo x1 rr h => ?_
      rw [ea] at e
      cases e
      obtain ⟨l', s2', e2, h2⟩ := h.bind
      clear h
      rw [el] at e2
      cases e2
      obtain ⟨hi', s3, e3, h3⟩ := h2.bind
      clear h2
      refine ⟨ρ1, Hf1, w1, eo, ?_⟩
      rw [el]
      intro y ρ2 Hf2 H2 w2 x2 ry
      have ry : l = y := ry
      subst ry
      refine ⟨ρ2, Hf2, w2, eo.ext x2, ?_⟩
      rw [e3]
      intro z ρ3 Hf3 H3 w3 x3 rz
      have rz : hi' = z := rz
      subst rz
      have x4 := (x1.trans x2).trans x3
      exact ⟨s3, ρ3, Hf3, _, w3, rr.1.ext (x2.trans x3), h3.at x4 (ReR.back x4)⟩
abbrev rCmp (X : Cx) (o : Cp) : R2 := rB X.K fun d d2 => bind (ofO (cmpD o d d2)) fun c => ret (.v (.bool c))
/-- the first comparison of a chain, from a run -/
theorem chain_1 {K : PySem.W.Frag} {α β : Type} {Rel : Sto → Rho → Hp → Hp → Hp → α → β → Prop} {s0 s : Sto} {ρ0 ρ : Rho} {Hf0 H0 Hf H : Hp} {Q : β → Hp → Prop} {o : Cp} {x y : V} {ra rb : R} {f : Bool → M α} {P : Bool → Hp → Prop}
    (w : WOk K s ρ Hf H) (x0 : Ext s0 ρ0 Hf0 H0 s ρ Hf H) (rx : RRep K s ρ Hf H ra x) (ry : RRep K s ρ Hf H rb y)
    (h : Post K s0 ρ0 Hf0 H0 Rel (bind (look ra) (fun d => bind (look rb) fun d2 => bind (ofO (cmpD o d d2)) f) s) Q)
    (k : ∀ c ρ1 Hf1 H1, WOk K s ρ1 Hf1 H1 → Ext s ρ Hf H s ρ1 Hf1 H1 → Post K s0 ρ0 Hf0 H0 Rel (f c s) Q → P c H1) :
    rB K (fun d d2 => bind (ofO (cmpD o d d2)) fun c => ret (.v (.bool c))) x y H fun z H3 => ∃ c, z = .bl c ∧ P c H3 := by
  obtain ⟨d, s3, e3, h2⟩ := h.bind
  clear h
  obtain ⟨v3, e3'⟩ := look_ok e3
  subst e3'
  obtain ⟨d2, s4, e4, h3⟩ := h2.bind
  clear h2
  obtain ⟨v4, e4'⟩ := look_ok e4
  subst e4'
  refine ⟨_, ρ, Hf, ra, rb, w, rx, ry, ?_⟩
  have q : ∀ s4, look ra s4 = .ok d s4 → look rb s4 = .ok d2 s4 → (bind (look ra) (fun d => bind (look rb) fun d2 => bind (ofO (cmpD o d d2)) fun c => ret (.v (.bool c))) s4) = bind (ofO (cmpD o d d2)) (fun c => ret (R.v (.bool c))) s4 := fun s4 e3 e4 => by
    unfold bind
    rw [e3]
    simp only []
    rw [e4]
  rw [q _ e3 e4]
  cases k' : cmpD o d d2 with
  | none =>
    rw [k'] at h3
    exact h3.elim
  | some c =>
    rw [k'] at h3
    intro z ρ3 Hf3 H3 w3 x3 rz
    cases rz.1 with
    | v rz => exact ⟨c, rz.bool_of, k c ρ3 Hf3 H3 w3 x3 h3⟩
theorem se_chn {op op2 : CmpOp} {o o2 : Cp} (ho : OpR X (compareOp op) (rCmp X o)) (ho2 : OpR X (compareOp op2) (rCmp X o2)) (hm : lastMarks [op, op2] [b, c] = false) (ha : SE X C a ca) (hb : SE X C b cb) (hc : SE X C c cc) : SE X C (.Compare a [op, op2] [b, c] pos) (.chn o o2 ca cb cc) := fun env s => by
  cases ea : evE C ca env s with
  | no =>
    refine PE.ff fun σ H Q h => ?_
    unfold evE at h
    obtain ⟨a, s1, e⟩ := Rdg.ok_of h
    rw [ea] at e
    cases e
  | ok ra s1 =>
    cases eb : evE C cb env s1 with
    | no =>
      refine PE.ff fun σ H Q h => ?_
      unfold evE at h
      obtain ⟨ρ, Hf, w, eo, h⟩ := h
      obtain ⟨r, s1', e1, h1⟩ := h.bind
      rw [ea] at e1
      cases e1
      obtain ⟨l, s2, e2, h2⟩ := h1.bind
      rw [eb] at e2
      cases e2
    | ok rb s2 =>
      refine PE.conseq (pe_chain ho ho2 (ha env s) (hb env s1) (hc env s2) hm) fun σ H Q h => ?_
      unfold evE at h
      refine rdg_split h fun r s1' v ρ0 Hf0 ρ1 Hf1 H1 e w1 eo x1 rr h => ?_
      rw [ea] at e
      cases e
      obtain ⟨rb', s2', e2, h2⟩ := h.bind
      clear h
      rw [eb] at e2
      cases e2
      refine ⟨ρ1, Hf1, w1, eo, ?_⟩
      rw [eb]
      intro y ρ2 Hf2 H2 w2 x2 ry
      refine chain_1 w2 (x1.trans x2) (rr.1.ext x2) ry.1 h2 fun k ρ3 Hf3 H3 w3 x3 h3 => ?_
      have x13 := (x1.trans x2).trans x3
      cases k with
      | false => exact (h3.at x13 (ReR.back x13)).bool w3
      | true =>
        refine ⟨ρ3, Hf3, w3, (eo.ext x2).ext x3, ?_⟩
        obtain ⟨rc, s4, e4, h4⟩ := h3.bind
        clear h3
        rw [e4]
        intro z ρ4 Hf4 H4 w4 x4 rz
        have x14 := x13.trans x4
        exact ⟨s4, ρ4, Hf4, rb, rc, w4, (ry.1.ext x3).ext x4, rz.1, h4.at x14 (ReR.back x14)⟩
theorem st_chn {op op2 : CmpOp} {o o2 : Cp} (ho : OpR X (compareOp op) (rCmp X o)) (ho2 : OpR X (compareOp op2) (rCmp X o2)) (hm : lastMarks [op, op2] [b, c] = false) (ha : SE X C a ca) (hb : SE X C b cb) (hc : SE X C c cc) : ST X C (.Compare a [op, op2] [b, c] pos) (.chn o o2 ca cb cc) := fun env s => by
  cases ea : evE C ca env s with
  | no =>
    refine PT.ff fun σ H Q h => ?_
    unfold evT at h
    obtain ⟨a, s1, e⟩ := Rdg.ok_of h
    rw [ea] at e
    cases e
  | ok ra s1 =>
    cases eb : evE C cb env s1 with
    | no =>
      refine PT.ff fun σ H Q h => ?_
      unfold evT at h
      obtain ⟨ρ, Hf, w, eo, h⟩ := h
      obtain ⟨r, s1', e1, h1⟩ := h.bind
      rw [ea] at e1
      cases e1
      obtain ⟨l, s2, e2, h2⟩ := h1.bind
      rw [eb] at e2
      cases e2
    | ok rb s2 =>
      refine PT.conseq (pt_chain ho ho2 (ha env s) (hb env s1) (hc env s2) hm) fun σ H Q h => ?_
      unfold evT at h
      refine rdg_split h fun r s1' v ρ0 Hf0 ρ1 Hf1 H1 e w1 eo x1 rr h => ?_
      rw [ea] at e
      cases e
      obtain ⟨rb', s2', e2, h2⟩ := h.bind
      clear h
      rw [eb] at e2
      cases e2
      refine ⟨ρ1, Hf1, w1, eo, ?_⟩
      rw [eb]
      intro y ρ2 Hf2 H2 w2 x2 ry
      refine chain_1 w2 (x1.trans x2) (rr.1.ext x2) ry.1 h2 fun k ρ3 Hf3 H3 w3 x3 h3 => ?_
      have x13 := (x1.trans x2).trans x3
      cases k with
      | false => exact ⟨false, rfl, h3.tst w3 x13⟩
      | true =>
        refine ⟨ρ3, Hf3, w3, (eo.ext x2).ext x3, ?_⟩
        obtain ⟨rc, s4, e4, h4⟩ := h3.bind
        clear h3
        rw [e4]
        intro z ρ4 Hf4 H4 w4 x4 rz
        have x14 := x13.trans x4
        refine chain_1 w4 x14 ((ry.1.ext x3).ext x4) rz.1 (f := fun c => ret c) ?_ fun k ρ5 Hf5 H5 w5 x5 h5 => h5.tst w5 (x14.trans x5)
        obtain ⟨d, s5, e5, h5⟩ := h4.bind
        clear h4
        obtain ⟨d2, s6, e6, h6⟩ := h5.bind
        clear h5
        unfold bind
        rw [e5]
        simp only []
        rw [e6]
        simp only []
        cases k' : cmpD o2 d d2 with
        | none => rw [k'] at h6; exact h6
        | some k => rw [k'] at h6; exact h6
end
end Vm

set_option Elab.async false
set_option linter.all false
set_option maxRecDepth 100000
set_option maxHeartbeats 4000000
/-! Vm: soundness, part 8: what is walked. -/
namespace Vm
open PySem PySem.Spec PyProof.Rows L2
/-- what only grows -/
structure Evo (ρ : Rho) (Hf : Hp) (ρ' : Rho) (Hf' : Hp) : Prop where
  pre : ρ <+: ρ'
  fz : Same Hf Hf'
theorem Evo.refl {ρ : Rho} {Hf : Hp} : Evo ρ Hf ρ Hf := ⟨List.prefix_refl _, Same.refl _⟩
theorem Evo.trans {ρ ρ1 ρ2 : Rho} {Hf Hf1 Hf2 : Hp} (a : Evo ρ Hf ρ1 Hf1) (b : Evo ρ1 Hf1 ρ2 Hf2) : Evo ρ Hf ρ2 Hf2 := ⟨a.pre.trans b.pre, a.fz.trans b.fz⟩
theorem Ext.evo {s s' : Sto} {ρ ρ' : Rho} {Hf H Hf' H' : Hp} (x : Ext s ρ Hf H s' ρ' Hf' H') : Evo ρ Hf ρ' Hf' := ⟨x.pre, x.fz⟩
theorem RRep.evo {K : PySem.W.Frag} {s s' : Sto} {ρ ρ' : Rho} {Hf H Hf' H' : Hp} {r : R} {x : V} (h : RRep K s ρ Hf H r x) (n : ∀ d, r ≠ .n d) (e : Evo ρ Hf ρ' Hf') : RRep K s' ρ' Hf' H' r x := by
  cases h with
  | v r => exact .v (r.mono e.fz)
  | n h1 h2 h3 h4 => exact absurd rfl (n _)
  | p h => exact .p (pre_get e.pre h)
  | g h => exact .g (h.mono e.fz)
/-- a new object that is walked alone stays as it is -/
theorem settle {K : PySem.W.Frag} {s0 s : Sto} {ρ0 ρ : Rho} {Hf0 H0 Hf H : Hp} {r : R} {x : V} (w : WOk K s ρ Hf H) (x0 : Ext s0 ρ0 Hf0 H0 s ρ Hf H) (fr : Fresh H0 r x) (h : RRep K s ρ Hf H r x) :
    ∃ r' Hf', WOk K s ρ Hf' H ∧ Ext s0 ρ0 Hf0 H0 s ρ Hf' H ∧ Evo ρ Hf ρ Hf' ∧ RRep K s ρ Hf' H r' x ∧ (∀ d, r' ≠ .n d) ∧ seqR r' = seqR r ∧ ∀ s, view s r' = view s r := by
  cases r with
  | v d => exact ⟨_, Hf, w, x0, .refl, h, (fun _ e => by cases e), rfl, fun _ => rfl⟩
  | p k => exact ⟨_, Hf, w, x0, .refl, h, (fun _ e => by cases e), rfl, fun _ => rfl⟩
  | g d => exact ⟨_, Hf, w, x0, .refl, h, (fun _ e => by cases e), rfl, fun _ => rfl⟩
  | n d =>
    cases h with
    | @n _ a u h1 h2 h3 h4 =>
      obtain ⟨a', h5, h6⟩ := fr
      cases h5
      refine ⟨.v d, upd Hf a u, w.freeze h1 h2 h3, ⟨x0.pre, x0.fz.trans (same_new h2), fun b y e n => ?_, x0.grow⟩, ⟨List.prefix_refl _, same_new h2⟩, .v (OR.rep upd_same (h4.mono (same_new h2))), (fun _ e => by cases e), rfl, fun _ => rfl⟩
      obtain ⟨g1, g2, g3⟩ := x0.keep b y e n
      have q : b ≠ a := ne_of_none e h6
      exact ⟨g1, fun z => by rw [upd_ne q]; exact g2 z, g3⟩
/-- J walks src, from this state on -/
structure SrcOk (K : PySem.W.Frag) (src : Src) (J : It) (s : Sto) (ρ : Rho) (Hf H : Hp) : Prop where
  item : ∀ s' ρ' Hf' H' i d s2, Evo ρ Hf ρ' Hf' → WOk K s' ρ' Hf' H' → itemS src i s' = .ok d s2 →
    s2 = s' ∧ J.go i H' ∧ ∀ x H2, J.yld i H' x H2 → ∃ Hf2, WOk K s' ρ' Hf2 H2 ∧ Ext s' ρ' Hf' H' s' ρ' Hf2 H2 ∧ Rep K Hf2 x d
  stop : ∀ s' ρ' Hf' H' n s2, Evo ρ Hf ρ' Hf' → WOk K s' ρ' Hf' H' → lenS src s' = .ok n s2 → s2 = s' ∧ J.stop n H'
theorem SrcOk.evo {K : PySem.W.Frag} {src : Src} {J : It} {s s1 : Sto} {ρ ρ1 : Rho} {Hf H Hf1 H1 : Hp} (h : SrcOk K src J s ρ Hf H) (e : Evo ρ Hf ρ1 Hf1) : SrcOk K src J s1 ρ1 Hf1 H1 :=
  ⟨fun s' ρ' Hf' H' i d s2 x w q => h.item s' ρ' Hf' H' i d s2 (e.trans x) w q, fun s' ρ' Hf' H' n s2 x w q => h.stop s' ρ' Hf' H' n s2 (e.trans x) w q⟩
theorem ofO_ok {α : Type} {o : Option α} {s s2 : Sto} {a : α} (h : ofO o s = .ok a s2) : o = some a ∧ s2 = s := by
  unfold ofO at h
  cases o with
  | none => cases h
  | some b => cases h; exact ⟨rfl, rfl⟩
theorem seqR_ok {r : R} {s s2 : Sto} {ds : List D} (h : seqR r s = .ok ds s2) : s2 = s ∧ (view s r = some (.list ds) ∨ view s r = some (.tuple ds)) := by
  unfold seqR at h
  obtain ⟨d, s1, e1, h1⟩ := bind_ok h
  clear h
  obtain ⟨v1, e2⟩ := look_ok e1
  subst e2
  obtain ⟨h2, e3⟩ := ofO_ok h1
  clear h1
  subst e3
  refine ⟨rfl, ?_⟩
  cases d <;> first | (cases h2; done) | skip
  · cases h2
    exact .inl v1
  · cases h2
    exact .inr v1
theorem tup_stay {K : PySem.W.Frag} {s : Sto} {ρ : Rho} {Hf H : Hp} {r : R} {x : V} {ds : List D} (h : RRep K s ρ Hf H r x) (w : WOk K s ρ Hf H) (e : view s r = some (.tuple ds)) (s' : Sto) : view s' r = some (.tuple ds) := by
  cases h with
  | v h => exact e
  | g h => exact e
  | n h1 h2 h3 h4 =>
    have e : some _ = some (PyData.tuple ds) := e
    cases e
    cases h4
  | @p k a h =>
    have e : (s[k]?).bind Ob.data? = some (.tuple ds) := e
    cases q2 : s[k]? with
    | none => rw [q2] at e; cases e
    | some o =>
      rw [q2] at e
      obtain ⟨a', u, h1, h2, h3, h4⟩ := w.at_ k _ ⟨o, q2, e⟩
      cases h4
/-- where a list or a tuple lies, for good -/
theorem seq_at {K : PySem.W.Frag} {s : Sto} {ρ : Rho} {Hf H : Hp} {r : R} {x : V} {ds : List D} (hn : ∀ d, r ≠ .n d) (h : RRep K s ρ Hf H r x) (w : WOk K s ρ Hf H) (e : view s r = some (.list ds)) :
    ∃ a, x = .ref a ∧ (∃ xs, SqL K H a xs) ∧ ∀ s' ρ' Hf' H' es s2, Evo ρ Hf ρ' Hf' → WOk K s' ρ' Hf' H' → seqR r s' = .ok es s2 → s2 = s' ∧ ∃ ys, SqL K H' a ys ∧ Reps K Hf' ys es := by
  obtain ⟨a, xs, rfl, h1, h2⟩ := h.lst w e
  refine ⟨a, rfl, ⟨xs, h1⟩, fun s' ρ' Hf' H' es s2 x' w' q => ?_⟩
  obtain ⟨e1, v⟩ := seqR_ok q
  refine ⟨e1, ?_⟩
  rcases v with v | v
  · obtain ⟨b, ys, e2, h3, h4⟩ := (h.evo hn x').lst w' v
    cases e2
    exact ⟨ys, h3, h4⟩
  · have := tup_stay (h.evo hn x' (s' := s') (H' := H')) w' v s
    rw [e] at this
    cases this
theorem seq_atT {K : PySem.W.Frag} {s : Sto} {ρ : Rho} {Hf H : Hp} {r : R} {x : V} {ds : List D} (hn : ∀ d, r ≠ .n d) (h : RRep K s ρ Hf H r x) (w : WOk K s ρ Hf H) (e : view s r = some (.tuple ds)) :
    ∃ a, x = .ref a ∧ (∃ xs, SqT K H a xs) ∧ ∀ s' ρ' Hf' H' es s2, Evo ρ Hf ρ' Hf' → WOk K s' ρ' Hf' H' → seqR r s' = .ok es s2 → s2 = s' ∧ ∃ ys, SqT K H' a ys ∧ Reps K Hf' ys es := by
  obtain ⟨a, xs, rfl, h1, h2⟩ := h.tup w e
  refine ⟨a, rfl, ⟨xs, h1⟩, fun s' ρ' Hf' H' es s2 x' w' q => ?_⟩
  obtain ⟨e1, v⟩ := seqR_ok q
  refine ⟨e1, ?_⟩
  have z := tup_stay h w e s'
  rcases v with v | v
  · rw [v] at z
    cases z
  · obtain ⟨b, ys, e2, h3, h4⟩ := (h.evo hn x').tup w' v
    cases e2
    exact ⟨ys, h3, h4⟩
theorem SrcOk.seqL {K : PySem.W.Frag} {s : Sto} {ρ : Rho} {Hf H : Hp} {r : R} {a : Addr} (h : ∀ s' ρ' Hf' H' es s2, Evo ρ Hf ρ' Hf' → WOk K s' ρ' Hf' H' → seqR r s' = .ok es s2 → s2 = s' ∧ ∃ ys, SqL K H' a ys ∧ Reps K Hf' ys es) :
    SrcOk K (.seq r) (Itl K a) s ρ Hf H where
  item := fun s' ρ' Hf' H' i d s2 x w q => by
    obtain ⟨es, s3, e1, q1⟩ := bind_ok q
    obtain ⟨e2, ys, h1, h2⟩ := h s' ρ' Hf' H' es s3 x w e1
    subst e2
    obtain ⟨e3, e4⟩ := ofO_ok q1
    obtain ⟨v, h3, h4⟩ := h2.get e3
    refine ⟨e4, ⟨ys, v, h1, h3⟩, fun z H2 y => ?_⟩
    obtain ⟨e5, y⟩ := y
    subst e5
    have := y ys h1
    rw [h3] at this
    cases this
    exact ⟨Hf', w, .refl, h4⟩
  stop := fun s' ρ' Hf' H' n s2 x w q => by
    obtain ⟨es, s3, e1, q1⟩ := bind_ok q
    obtain ⟨e2, ys, h1, h2⟩ := h s' ρ' Hf' H' es s3 x w e1
    subst e2
    cases q1
    exact ⟨rfl, ys, h1, by rw [h2.length]; exact Nat.le_refl _⟩
theorem SrcOk.seqT {K : PySem.W.Frag} {s : Sto} {ρ : Rho} {Hf H : Hp} {r : R} {a : Addr} (h : ∀ s' ρ' Hf' H' es s2, Evo ρ Hf ρ' Hf' → WOk K s' ρ' Hf' H' → seqR r s' = .ok es s2 → s2 = s' ∧ ∃ ys, SqT K H' a ys ∧ Reps K Hf' ys es) :
    SrcOk K (.seq r) (Itt K a) s ρ Hf H where
  item := fun s' ρ' Hf' H' i d s2 x w q => by
    obtain ⟨es, s3, e1, q1⟩ := bind_ok q
    obtain ⟨e2, ys, h1, h2⟩ := h s' ρ' Hf' H' es s3 x w e1
    subst e2
    obtain ⟨e3, e4⟩ := ofO_ok q1
    obtain ⟨v, h3, h4⟩ := h2.get e3
    refine ⟨e4, ⟨ys, v, h1, h3⟩, fun z H2 y => ?_⟩
    obtain ⟨e5, y⟩ := y
    subst e5
    have := y ys h1
    rw [h3] at this
    cases this
    exact ⟨Hf', w, .refl, h4⟩
  stop := fun s' ρ' Hf' H' n s2 x w q => by
    obtain ⟨es, s3, e1, q1⟩ := bind_ok q
    obtain ⟨e2, ys, h1, h2⟩ := h s' ρ' Hf' H' es s3 x w e1
    subst e2
    cases q1
    exact ⟨rfl, ys, h1, by rw [h2.length]; exact Nat.le_refl _⟩
theorem SrcOk.rng {K : PySem.W.Frag} {s : Sto} {ρ : Rho} {Hf H : Hp} {lo : Int} {n : Nat} : SrcOk K (.rng lo n) (Itr lo n) s ρ Hf H where
  item := fun s' ρ' Hf' H' i d s2 x w q => by
    have q : (if i < n then ret (.int (lo + i)) else stuck : M D) s' = .ok d s2 := q
    by_cases hi : i < n
    · rw [if_pos hi] at q
      cases q
      refine ⟨rfl, hi, fun z H2 y => ?_⟩
      obtain ⟨e5, y⟩ := y
      subst e5 y
      exact ⟨Hf', w, .refl, .int _⟩
    · rw [if_neg hi] at q
      cases q
  stop := fun s' ρ' Hf' H' m s2 x w q => by
    cases q
    exact ⟨rfl, Nat.le_refl _⟩
theorem SrcOk.str {K : PySem.W.Frag} {s : Sto} {ρ : Rho} {Hf H : Hp} {z : Str} : SrcOk K (.str z) (Its z) s ρ Hf H where
  item := fun s' ρ' Hf' H' i d s2 x w q => by
    obtain ⟨c, s3, e1, q1⟩ := bind_ok q
    obtain ⟨e3, e4⟩ := ofO_ok e1
    subst e4
    cases q1
    refine ⟨rfl, (Array.getElem?_eq_some_iff.mp e3).1, fun v H2 y => ?_⟩
    obtain ⟨e5, c', y1, y2⟩ := y
    subst e5 y2
    rw [e3] at y1
    cases y1
    exact ⟨Hf', w, .refl, .str _⟩
  stop := fun s' ρ' Hf' H' m s2 x w q => by
    cases q
    exact ⟨rfl, Nat.le_refl _⟩
/-- a pair just made -/
theorem pair_ok {K : PySem.W.Frag} {s : Sto} {ρ : Rho} {Hf H : Hp} {T : Addr} {xs : List V} {ds : List D} (w : WOk K s ρ Hf H) (hn : H T = none) (r : Reps K Hf xs ds) :
    ∃ Hf2, WOk K s ρ Hf2 (upd H T (.tup xs)) ∧ Ext s ρ Hf H s ρ Hf2 (upd H T (.tup xs)) ∧ Rep K Hf2 (.ref T) (.tuple ds) :=
  ⟨upd Hf T (.tup xs), w.fresh hn, .fresh w hn, .tup upd_same (r.mono (same_new (w.fnone hn)))⟩
theorem SrcOk.enumL {K : PySem.W.Frag} {s : Sto} {ρ : Rho} {Hf H : Hp} {r : R} {a : Addr} (h : ∀ s' ρ' Hf' H' es s2, Evo ρ Hf ρ' Hf' → WOk K s' ρ' Hf' H' → seqR r s' = .ok es s2 → s2 = s' ∧ ∃ ys, SqL K H' a ys ∧ Reps K Hf' ys es) :
    SrcOk K (.enum r) (Ite K a) s ρ Hf H where
  item := fun s' ρ' Hf' H' i d s2 x w q => by
    obtain ⟨es, s3, e1, q1⟩ := bind_ok q
    obtain ⟨e2, ys, h1, h2⟩ := h s' ρ' Hf' H' es s3 x w e1
    subst e2
    obtain ⟨d0, s4, e3, q2⟩ := bind_ok q1
    obtain ⟨e3a, e4⟩ := ofO_ok e3
    subst e4
    cases q2
    obtain ⟨v, h3, h4⟩ := h2.get e3a
    refine ⟨rfl, ⟨ys, v, h1, h3⟩, fun z H2 y => ?_⟩
    obtain ⟨T, x0, e5, hn, e6, y⟩ := y
    subst e5 e6
    have := y ys h1
    rw [h3] at this
    cases this
    exact pair_ok w hn (.cons (.int _) (.cons h4 .nil))
  stop := fun s' ρ' Hf' H' n s2 x w q => by
    obtain ⟨es, s3, e1, q1⟩ := bind_ok q
    obtain ⟨e2, ys, h1, h2⟩ := h s' ρ' Hf' H' es s3 x w e1
    subst e2
    cases q1
    exact ⟨rfl, ys, h1, by rw [h2.length]; exact Nat.le_refl _⟩
theorem SrcOk.zipL {K : PySem.W.Frag} {s : Sto} {ρ : Rho} {Hf H : Hp} {r r2 : R} {a b : Addr} (h : ∀ s' ρ' Hf' H' es s2, Evo ρ Hf ρ' Hf' → WOk K s' ρ' Hf' H' → seqR r s' = .ok es s2 → s2 = s' ∧ ∃ ys, SqL K H' a ys ∧ Reps K Hf' ys es)
    (g : ∀ s' ρ' Hf' H' es s2, Evo ρ Hf ρ' Hf' → WOk K s' ρ' Hf' H' → seqR r2 s' = .ok es s2 → s2 = s' ∧ ∃ ys, SqL K H' b ys ∧ Reps K Hf' ys es) : SrcOk K (.zip r r2) (Itz K a b) s ρ Hf H where
  item := fun s' ρ' Hf' H' i d s2 x w q => by
    obtain ⟨es, s3, e1, q1⟩ := bind_ok q
    obtain ⟨e2, ys, h1, h2⟩ := h s' ρ' Hf' H' es s3 x w e1
    subst e2
    obtain ⟨fs, s5, e1', q3⟩ := bind_ok q1
    obtain ⟨e2', zs, g1, g2⟩ := g _ ρ' Hf' H' fs s5 x w e1'
    subst e2'
    obtain ⟨d0, s4, e3, q2⟩ := bind_ok q3
    obtain ⟨e3a, e4⟩ := ofO_ok e3
    subst e4
    obtain ⟨d1, s6, e7, q4⟩ := bind_ok q2
    obtain ⟨e8, e9⟩ := ofO_ok e7
    subst e9
    cases q4
    obtain ⟨v, h3, h4⟩ := h2.get e3a
    obtain ⟨v', g3, g4⟩ := g2.get e8
    refine ⟨rfl, ⟨ys, zs, v, v', h1, g1, h3, g3⟩, fun z H2 y => ?_⟩
    obtain ⟨T, x0, y0, e5, hn, e6, y, y'⟩ := y
    subst e5 e6
    have t1 := y ys h1
    have t2 := y' zs g1
    rw [h3] at t1
    rw [g3] at t2
    cases t1
    cases t2
    exact pair_ok w hn (.cons h4 (.cons g4 .nil))
  stop := fun s' ρ' Hf' H' n s2 x w q => by
    obtain ⟨es, s3, e1, q1⟩ := bind_ok q
    obtain ⟨e2, ys, h1, h2⟩ := h s' ρ' Hf' H' es s3 x w e1
    subst e2
    obtain ⟨fs, s5, e1', q3⟩ := bind_ok q1
    obtain ⟨e2', zs, g1, g2⟩ := g _ ρ' Hf' H' fs s5 x w e1'
    subst e2'
    cases q3
    refine ⟨rfl, ys, zs, h1, g1, ?_⟩
    rw [h2.length, g2.length]
    omega
theorem SrcOk.zipT {K : PySem.W.Frag} {s : Sto} {ρ : Rho} {Hf H : Hp} {r r2 : R} {a b : Addr} (h : ∀ s' ρ' Hf' H' es s2, Evo ρ Hf ρ' Hf' → WOk K s' ρ' Hf' H' → seqR r s' = .ok es s2 → s2 = s' ∧ ∃ ys, SqT K H' a ys ∧ Reps K Hf' ys es)
    (g : ∀ s' ρ' Hf' H' es s2, Evo ρ Hf ρ' Hf' → WOk K s' ρ' Hf' H' → seqR r2 s' = .ok es s2 → s2 = s' ∧ ∃ ys, SqT K H' b ys ∧ Reps K Hf' ys es) : SrcOk K (.zip r r2) (RZ.ItzT K a b) s ρ Hf H where
  item := fun s' ρ' Hf' H' i d s2 x w q => by
    obtain ⟨es, s3, e1, q1⟩ := bind_ok q
    obtain ⟨e2, ys, h1, h2⟩ := h s' ρ' Hf' H' es s3 x w e1
    subst e2
    obtain ⟨fs, s5, e1', q3⟩ := bind_ok q1
    obtain ⟨e2', zs, g1, g2⟩ := g _ ρ' Hf' H' fs s5 x w e1'
    subst e2'
    obtain ⟨d0, s4, e3, q2⟩ := bind_ok q3
    obtain ⟨e3a, e4⟩ := ofO_ok e3
    subst e4
    obtain ⟨d1, s6, e7, q4⟩ := bind_ok q2
    obtain ⟨e8, e9⟩ := ofO_ok e7
    subst e9
    cases q4
    obtain ⟨v, h3, h4⟩ := h2.get e3a
    obtain ⟨v', g3, g4⟩ := g2.get e8
    refine ⟨rfl, ⟨ys, zs, v, v', h1, g1, h3, g3⟩, fun z H2 y => ?_⟩
    obtain ⟨T, x0, y0, e5, hn, e6, y, y'⟩ := y
    subst e5 e6
    have t1 := y ys h1
    have t2 := y' zs g1
    rw [h3] at t1
    rw [g3] at t2
    cases t1
    cases t2
    exact pair_ok w hn (.cons h4 (.cons g4 .nil))
  stop := fun s' ρ' Hf' H' n s2 x w q => by
    obtain ⟨es, s3, e1, q1⟩ := bind_ok q
    obtain ⟨e2, ys, h1, h2⟩ := h s' ρ' Hf' H' es s3 x w e1
    subst e2
    obtain ⟨fs, s5, e1', q3⟩ := bind_ok q1
    obtain ⟨e2', zs, g1, g2⟩ := g _ ρ' Hf' H' fs s5 x w e1'
    subst e2'
    cases q3
    refine ⟨rfl, ys, zs, h1, g1, ?_⟩
    rw [h2.length, g2.length]
    omega
/-- of a list or a tuple -/
def iSeq (K : PySem.W.Frag) (tl : TE) : TI := fun σ H R => tl σ H fun x H1 => (∃ a, x = .ref a ∧ (∃ xs, SqL K H1 a xs) ∧ R (Itl K a) H1) ∨ (∃ a, x = .ref a ∧ (∃ xs, SqT K H1 a xs) ∧ R (Itt K a) H1) ∨ ∃ z, x = .str z ∧ R (Its z) H1
theorem pi_seq {X : Cx} {tg l : Expr} {tl : TE} (hl : PE X l tl) : PI X tg l (iSeq X.K tl) := by
  refine ⟨fun pins s σ H R I h => ?_⟩
  refine thn (hl.run pins s σ H _ I h) fun v s1 ⟨x, H1, I1, r1, q1⟩ => ?_
  rcases q1 with ⟨a, e, ⟨xs, hq⟩, q⟩ | ⟨a, e, ⟨xs, hq⟩, q⟩ | ⟨z, e, q⟩
  · subst e
    cases r1
    obtain ⟨its, rv, p, hz⟩ := I1.list hq
    exact wpAny_pyIter_list p.isList (pi_one (tk := s1.toks) I1 _ (turn_list a _) ⟨_, Heap.get?_push_size _ rfl, rfl, rfl⟩ q)
  · subst e
    cases r1
    obtain ⟨its, rv, p, hz⟩ := I1.tuple hq
    exact wpAny_pyIter_tuple (show s1.heap.IsTuple a its.toArray from p) (pi_one (tk := s1.toks) I1 _ (turn_tuple a _) ⟨_, Heap.get?_push_size _ rfl, rfl, rfl⟩ q)
  · subst e
    obtain ⟨t, rfl⟩ := r1
    cases ha : z.cps.all (· < 128)
    · exact wpAny_pyIter_wide ha (pi_one (tk := s1.toks) I1 _ (turn_str _ z t "str_iterator" (.inr rfl)) ⟨_, Heap.get?_push_size _ rfl, rfl, rfl⟩ q)
    · exact wpAny_pyIter_ascii ha (pi_one (tk := s1.toks) I1 _ (turn_str _ z t "str_ascii_iterator" (.inl rfl)) ⟨_, Heap.get?_push_size _ rfl, rfl, rfl⟩ q)
end Vm

set_option Elab.async false
set_option linter.all false
set_option maxRecDepth 100000
set_option maxHeartbeats 4000000
/-! Vm: enumerate of a tuple. -/
namespace Vm
open PySem PySem.Spec PyProof.Rows L2
open AutoSeq1 (wpAny_loadPart')
theorem drawsT {prog : Program} {w : World} {A : Around} (hh : A.handled = none) (it l : Addr) (hne : l ≠ it) (items : Array Value) :
    Draws prog w A it [it, l] items.size (fun i v => items[i]? = some v) (fun i h => h.IsTupleIter it l i ∧ h.IsTuple l items) where
  live := fun _ _ st => let ⟨o, ho, _⟩ := st.1; ⟨o, ho⟩
  frame := fun _ _ _ st hk => ⟨st.1.at fun o e => hk it (by simp) o e, let ⟨o, ho, r⟩ := st.2; ⟨o, hk l (by simp) o ho, r⟩⟩
  item := fun i s Q E hi st hQ => by
    refine RZ.nextOf_tuple_item st.1 st.2 (x := items[i]) (by simp [hi]) fun h' hit' hs' => ?_
    exact hQ _ h' s.toks (by simp [hi]) ⟨hit', st.2.extBut hs'.extBut hne⟩ hs'
  done := fun s Q E st hE => RZ.nextOf_tuple_end hh st.1 st.2 (by simp) hE
theorem enum_newT (t : Addr) (items : Array Value) (n : Nat) (dct : Option Addr) (sl : Array (Option Value)) :
    Meets (Builtin.«enumerate.__new__» ⟨[.type "enumerate", .ref t], []⟩) (fun _ R s => s.heap.get? t = some { cls := .type "tuple", dict := dct, data := .seq items n, slots := sl } ∧
      R (.ok (.ret (.ref (s.heap.push { cls := .type "tuple_iterator", data := .fields #[.ref t, .int 0 0] }).objs.size)))
        { s with heap := (s.heap.push { cls := .type "tuple_iterator", data := .fields #[.ref t, .int 0 0] }).push { cls := .type "enumerate", data := .fields #[.none, .bool false, .ref s.heap.objs.size, rawInt 0, .none, .none] } }) :=
  .of_wp fun prog w A R s h => by
    obtain ⟨hp, g, d, tk, os⟩ := s
    obtain ⟨hl, h⟩ := h
    have hsub := sub_enumerate
    have hL : Heap.IsTuple (Shared.heap ⟨hp, g, d, tk, os⟩) t items := ⟨_, hl, rfl, n, rfl⟩
    wp_walk using wpAny_loadPart' hl
    refine wpAny_stack_any fun st => wpAny_pure ?_
    split
    · rename_i c _ _ _ _ _
      cases (c == Value.type "enumerate")
      · wp_walk using wpAny_loadPart' hl, wpAny_pyIter_tuple hL
        exact ⟨_, rfl, h⟩
      · wp_walk using wpAny_loadPart' hl, wpAny_pyIter_tuple hL
        exact ⟨_, rfl, h⟩
    · wp_walk using wpAny_loadPart' hl, wpAny_pyIter_tuple hL
      exact ⟨_, rfl, h⟩
theorem call_enumT {prog : Program} {w : World} {A : Around} {E : Value → Shared → Prop} {s : Shared} {l : Addr} {items : Array Value} {Q : Value → Shared → Prop} (hL : s.heap.IsTuple l items)
    (h : ∀ h', IsEnum h' (s.heap.objs.size + 1) s.heap.objs.size 0 .none → h'.IsTupleIter s.heap.objs.size l 0 →
      (∀ b o, s.heap.get? b = some o → h'.get? b = some o) → Q (.ref (s.heap.objs.size + 1)) { s with heap := h' }) :
    wpAny (model prog w) A (call (.type "enumerate") [.ref l]) Q E s := by
  obtain ⟨⟨c, dct, dt, sl⟩, hl, hc, n, hd⟩ := hL
  replace hc : c = .type "tuple" := hc
  replace hd : dt = .seq items n := hd
  subst hc hd
  refine callType_new F.called_enumerate (by decide) (F.typeCall_enumerate_1 _) (F.newCall_enumerate_1 _) (fun obj => F.args_object_init_2 obj _) F.entry_enumerate_new
    (enum_newT l items n dct sl) ⟨hl, ?_⟩
  have hz : (s.heap.push { cls := .type "tuple_iterator", data := .fields #[.ref l, .int 0 0] }).objs.size = s.heap.objs.size + 1 := Heap.size_push ..
  show _ ∧ _
  rw [hz]
  have he : IsEnum ((s.heap.push { cls := .type "tuple_iterator", data := .fields #[.ref l, .int 0 0] }).push
      { cls := .type "enumerate", data := .fields #[.none, .bool false, .ref s.heap.objs.size, rawInt 0, .none, .none] }) (s.heap.objs.size + 1) s.heap.objs.size 0 .none := by
    have := Heap.get?_push_size (s.heap.push { cls := .type "tuple_iterator", data := .fields #[.ref l, .int 0 0] })
      (o := { cls := .type "enumerate", data := .fields #[.none, .bool false, .ref s.heap.objs.size, rawInt 0, .none, .none] }) rfl
    rw [hz] at this
    exact this
  exact ⟨⟨_, he, rfl⟩, h _ he ⟨_, Heap.get?_push_of_some _ (Heap.get?_push_size _ rfl), rfl, rfl⟩ fun b o x => Heap.get?_push_of_some _ (Heap.get?_push_of_some _ x)⟩
/-- the tuple at a, each item in a new pair -/
def IteT (K : PySem.W.Frag) (a : Addr) : It :=
  ⟨fun i H => ∃ (xs : List V) (x : V), SqT K H a xs ∧ xs[i]? = some x, fun i H v H' => ∃ T x, v = .ref T ∧ H T = none ∧ H' = upd H T (.tup [.int (i : Nat), x]) ∧ ∀ xs, SqT K H a xs → xs[i]? = some x, fun i H => ∃ xs : List V, SqT K H a xs ∧ xs.length ≤ i⟩
theorem tup_apart {s : Shared} {e it a : Addr} {i : Int} {j : Nat} {old : Value} {items : Array Value} (he : IsEnum s.heap e it i old) (hit : s.heap.IsTupleIter it a j) (hq : s.heap.IsTuple a items) : a ≠ it ∧ e ∉ [it, a] ∧ e ≠ it := by
  obtain ⟨o1, h1, c1, d1⟩ := hit
  obtain ⟨o2, h2, c2, n2, d2⟩ := hq
  have n1 : e ≠ it := fun z => by
    subst z
    rw [he] at h1
    cases h1
    have c1 : Value.type "enumerate" = Value.type "tuple_iterator" := c1
    exact absurd c1 (by decide)
  have n3 : e ≠ a := fun z => by
    subst z
    rw [he] at h2
    cases h2
    have c2 : Value.type "enumerate" = Value.type "tuple" := c2
    exact absurd c2 (by decide)
  refine ⟨fun z => ?_, by simp [n1, n3], n1⟩
  subst z
  rw [h1] at h2
  cases h2
  rw [c1] at c2
  exact absurd c2 (by decide)
theorem turn_enumT {P : Program} {w : World} {K : PySem.W.Frag} {elts : List Expr} {kk : Nat} {tpos : Pos} (a e it : Addr) :
    Turn P w K (.Tuple elts kk tpos) (IteT K a) [e, it] e (fun i h => (∃ old, IsEnum h e it ((i : Nat) : Int) old) ∧ h.IsTupleIter it a i) where
  mem := by simp
  obj := fun i h st b hb => by
    obtain ⟨⟨old, he⟩, ⟨o, ho, hc, hd⟩⟩ := st
    have e' : b = e ∨ b = it := by simpa using hb
    rcases e' with z | z
    · rw [z]; exact ⟨_, he, fun v q => nomatch q⟩
    · rw [z]; exact ⟨o, ho, fun v q => by rw [hd] at q; cases q⟩
  keep := fun i h h' st k => let ⟨⟨old, he⟩, hi⟩ := st; ⟨⟨old, k e (by simp) _ he⟩, hi.at fun o q => k it (by simp) o q⟩
  item := by
    intro X hP hw hK hc i pins s σ H E I hf st hg
    subst hP hw hK
    obtain ⟨⟨old, he⟩, hit⟩ := st
    obtain ⟨xs, x, hq, hx⟩ := hg
    obtain ⟨its, rv, p, hz⟩ := I.tuple hq
    obtain ⟨u, hu, ru⟩ := rv.get hx
    have pt : s.heap.IsTuple a its.toArray := p
    obtain ⟨na, ne2, ne⟩ := tup_apart he hit pt
    have hel : e < s.heap.objs.size := Heap.lt_size he
    have hil : it < s.heap.objs.size := by obtain ⟨_, q, _⟩ := hit; exact Heap.lt_size q
    have hlt : i < its.toArray.size := by
      have : i < its.length := (List.getElem?_eq_some_iff.mp hu).1
      simpa using this
    refine wpAny_pyNext_enum_itemD (drawsT (show X.A.in1.handled = none from I.ok.hd hc) it a na its.toArray) he ⟨hit, pt⟩ hlt ne ne2 fun y h' tk hP ho hit' hT hsz hk => ?_
    have ey : y = u := by
      have hP : its.toArray[i]? = some y := hP
      have : its[i]? = some y := by simpa using hP
      rw [hu] at this
      cases this
      rfl
    subst ey
    refine ⟨_, rfl, wpAny_letOwnedTupleGo_enum (s := { s with heap := h', toks := tk + 1 }) ho fun h'' he' sb => ?_⟩
    have hT2 : h''.get? s.heap.objs.size = some { cls := .type "tuple", data := .seq #[.int i tk, y] } := (sb.2 _ (Nat.ne_of_gt hel)).trans hT
    have new : ObjOk X.prog X.w (upd H s.heap.objs.size (.tup [.int (i : Nat), x])) h'' s.heap.objs.size (.tup [.int (i : Nat), x]) :=
      ⟨by show 2 ≤ sizeLine; decide, [.int i tk, y], .cons ⟨_, rfl⟩ (.cons ru .nil), ⟨_, hT2, rfl, _, rfl⟩⟩
    have I1 : Inv X pins σ (upd H s.heap.objs.size (.tup [.int (i : Nat), x])) { s with heap := h'', toks := tk + 1 } :=
      I.turnedNew (ch := [e, it]) (fun b ob hb q => (sb.2 b (fun z => hb (by simp [z]))).trans (hk b ob (fun z => hb (by simp [z])) (fun z => hb (by simp [z])) q)) hf (Nat.le_refl _) new
    refine ⟨.ref s.heap.objs.size, _, I1, rfl, ⟨_, x, rfl, I.hok.fresh (Nat.le_refl _), rfl, fun ys hy => by rw [I.tuple_inj hy hq]; exact hx⟩, ⟨⟨y, ?_⟩, hit'.1.at fun o q => (sb.2 it (Ne.symm ne)).trans q⟩, fun b hb => ?_⟩
    · have e1 : ((i + 1 : Nat) : Int) = (i : Int) + 1 := by omega
      rw [e1]; exact he'
    · have hb' : b < s.heap.objs.size := by
        have e' : b = e ∨ b = it := by simpa using hb
        rcases e' with z | z
        · rw [z]; exact hel
        · rw [z]; exact hil
      rw [upd_ne (Nat.ne_of_lt hb')]
      exact (hf b hb).1
  done := by
    intro X hP hw hK hc i pins s σ H E I hf st hg
    subst hP hw hK
    obtain ⟨⟨old, he⟩, hit⟩ := st
    obtain ⟨xs, hq, hx⟩ := hg
    obtain ⟨its, rv, p, hz⟩ := I.tuple hq
    have pt : s.heap.IsTuple a its.toArray := p
    obtain ⟨na, ne2, ne⟩ := tup_apart he hit pt
    obtain ⟨f0, f1, f2, f3, f4, f5⟩ := hf it (by simp)
    have hl := rv.length
    have D : Draws X.prog X.w X.A.in1 it [it, a] i (fun i v => its.toArray[i]? = some v) (fun j h => j = i ∧ h.IsTupleIter it a i ∧ h.IsTuple a its.toArray) :=
      { live := fun j h st => let ⟨o, ho, _⟩ := st.2.1; ⟨o, ho⟩
        frame := fun j h h' st hk => ⟨st.1, st.2.1.at fun o e => hk it (by simp) o e, let ⟨o, ho, r⟩ := st.2.2; ⟨o, hk a (by simp) o ho, r⟩⟩
        item := fun j s Q E hj st hQ => absurd st.1 (Nat.ne_of_lt hj)
        done := fun s Q E st hE => RZ.nextOf_tuple_end (show X.A.in1.handled = none from I.ok.hd hc) st.2.1 st.2.2 (Array.getElem?_eq_none (by simp; omega)) hE }
    exact wpAny_pyNext_enum_endD D he ⟨rfl, hit, pt⟩ fun h' eb => ⟨rfl, I.turned (t' := s.toks) (fun b o hb q => eb b o hb q) f0 f1 f3 f4 f5⟩
  self := fun A i s Q E st h => let ⟨⟨_, he⟩, _⟩ := st; wpAny_pyIter_enum he h
theorem SrcOk.enumT {K : PySem.W.Frag} {s : Sto} {ρ : Rho} {Hf H : Hp} {r : R} {a : Addr} (h : ∀ s' ρ' Hf' H' es s2, Evo ρ Hf ρ' Hf' → WOk K s' ρ' Hf' H' → seqR r s' = .ok es s2 → s2 = s' ∧ ∃ ys, SqT K H' a ys ∧ Reps K Hf' ys es) :
    SrcOk K (.enum r) (IteT K a) s ρ Hf H where
  item := fun s' ρ' Hf' H' i d s2 x w q => by
    obtain ⟨es, s3, e1, q1⟩ := bind_ok q
    obtain ⟨e2, ys, h1, h2⟩ := h s' ρ' Hf' H' es s3 x w e1
    subst e2
    obtain ⟨d0, s4, e3, q2⟩ := bind_ok q1
    obtain ⟨e3a, e4⟩ := ofO_ok e3
    subst e4
    cases q2
    obtain ⟨v, h3, h4⟩ := h2.get e3a
    refine ⟨rfl, ⟨ys, v, h1, h3⟩, fun z H2 y => ?_⟩
    obtain ⟨T, x0, e5, hn, e6, y⟩ := y
    subst e5 e6
    have := y ys h1
    rw [h3] at this
    cases this
    exact pair_ok w hn (.cons (.int _) (.cons h4 .nil))
  stop := fun s' ρ' Hf' H' n s2 x w q => by
    obtain ⟨es, s3, e1, q1⟩ := bind_ok q
    obtain ⟨e2, ys, h1, h2⟩ := h s' ρ' Hf' H' es s3 x w e1
    subst e2
    cases q1
    exact ⟨rfl, ys, h1, by rw [h2.length]; exact Nat.le_refl _⟩
/-- enumerate of a list or a tuple -/
def iEnumA (K : PySem.W.Frag) (ta : TA) : TI := fun σ H R => ta σ H fun vs H1 => ∃ a, vs = [.ref a] ∧ ((∃ xs, SqL K H1 a xs ∧ R (Ite K a) H1) ∨ ∃ xs, SqT K H1 a xs ∧ R (IteT K a) H1)
theorem pi_enumA {X : Cx} {e : Expr} {ta : TA} {p pos tpos : Pos} {elts : List Expr} {kk : Nat} (hg : Gl X "enumerate") (hm : X.mg "enumerate" = none) (ha : PA X [e] ta) (hs : starEach [e] X.env = (false, eval e X.env) :: starEach [] X.env) :
    PI X (.Tuple elts kk tpos) (.Call (.Name "enumerate" p) [e] [] pos) (iEnumA X.K ta) := by
  refine ⟨fun pins s σ H R I h => ?_⟩
  refine Call_ (ld_blt I hg hm boot_enumerate (PyProof.Rows.callWith_type1 (thn (ha.run pos pins s σ H _ I h) fun us s1 ⟨vs, H1, I1, r1, q1⟩ => ?_) hs rfl))
  obtain ⟨a, ex, q1⟩ := q1
  subst ex
  cases r1 with
  | cons r rr =>
    cases rr
    cases r
    have two : ∀ b, b ∈ [s1.heap.objs.size + 1, s1.heap.objs.size] → FpOk X pins H1 b := fun b hb => by
      have e' : b = s1.heap.objs.size + 1 ∨ b = s1.heap.objs.size := by simpa using hb
      have hle : s1.heap.objs.size ≤ b := by omega
      exact I1.fpOk hle (I1.hok.fresh hle)
    rcases q1 with ⟨xs, hq, q⟩ | ⟨xs, hq, q⟩
    · obtain ⟨its, rv, p', hz⟩ := I1.list hq
      refine call_enumerate_list p'.isList fun h' he hit hsz hk => wpAny_pyIter_enum he ?_
      have I2 : Inv X pins σ H1 { s1 with heap := h' } := I1.kept (t' := s1.toks) hk
      exact ⟨_, [s1.heap.objs.size + 1, s1.heap.objs.size], _, _, H1, rfl, I2, turn_enum a (s1.heap.objs.size + 1) s1.heap.objs.size, ⟨⟨.none, he⟩, hit, Nat.succ_ne_self _⟩, two, q⟩
    · obtain ⟨its, rv, p', hz⟩ := I1.tuple hq
      refine call_enumT (show s1.heap.IsTuple a its.toArray from p') fun h' he hit hk => wpAny_pyIter_enum he ?_
      have I2 : Inv X pins σ H1 { s1 with heap := h' } := I1.kept (t' := s1.toks) hk
      exact ⟨_, [s1.heap.objs.size + 1, s1.heap.objs.size], _, _, H1, rfl, I2, turn_enumT a (s1.heap.objs.size + 1) s1.heap.objs.size, ⟨⟨.none, he⟩, hit⟩, two, q⟩
end Vm

set_option Elab.async false
set_option linter.all false
set_option maxRecDepth 100000
set_option maxHeartbeats 4000000
/-! Vm: soundness, part 9: targets, what is walked, list comprehensions. -/
namespace Vm
open PySem PySem.Spec PyProof.Rows L2
/-! ### targets -/
def tgsOf (K : PySem.W.Frag) : List Tg → TGs
  | [] => gNil
  | .s i _ :: gs => gCons (gName i) (tgsOf K gs)
  | .t hs :: gs => gCons (gTup K hs.length (tgsOf K hs)) (tgsOf K gs)
  | .x _ _ :: _ => fun _ _ _ _ => False
def tgOf (K : PySem.W.Frag) : Tg → TG
  | .s i _ => gName i
  | .t hs => gTup K hs.length (tgsOf K hs)
  | .x _ _ => fun _ _ _ _ => False
theorem wipe_set {σ : L2.St} {i : Nat} {o : Option V} : ∀ {vs : List Nat}, i ∈ vs → wipe (σ.set i o) vs = wipe σ vs
  | v :: vs, h => by
    unfold wipe
    by_cases q : i ∈ vs
    · rw [wipe_set q]
    · have e : i = v := (List.mem_cons.mp h).resolve_right q
      subst e
      have comm : wipe (σ.set i o) vs = (wipe σ vs).set i o := by
        clear h
        induction vs with
        | nil => rfl
        | cons w ws ih =>
          have n1 : i ≠ w := fun z => q (z ▸ List.mem_cons_self)
          have n2 : i ∉ ws := fun z => q (List.mem_cons_of_mem _ z)
          unfold wipe
          rw [ih n2, List.set_comm _ _ n1]
      rw [comm, List.set_set]
theorem wipe_wipe {σ : L2.St} : ∀ {us vs : List Nat}, (∀ i ∈ us, i ∈ vs) → wipe (wipe σ us) vs = wipe σ vs
  | [], _, _ => rfl
  | u :: us, vs, h => by
    show wipe ((wipe σ us).set u none) vs = _
    rw [wipe_set (h u List.mem_cons_self), wipe_wipe fun i hi => h i (List.mem_cons_of_mem _ hi)]
theorem EnvOk.wipe {K : PySem.W.Frag} {ρ : Rho} {Hf : Hp} {env : Env} {σ : L2.St} (h : EnvOk K ρ Hf env σ) : ∀ vs : List Nat, EnvOk K ρ Hf (wipeE env vs) (L2.wipe σ vs)
  | [] => h
  | v :: vs => Paired.set (by trivial) v (EnvOk.wipe h vs)
/-- alike but at P -/
def Agree (P : Nat → Prop) (a b : Env) : Prop := a.length = b.length ∧ ∀ i, ¬ P i → a[i]? = b[i]?
theorem Agree.set {P : Nat → Prop} {a b : Env} (h : Agree P a b) (i : Nat) (o : Option Vl) : Agree (fun j => P j ∧ j ≠ i) (a.set i o) (b.set i o) :=
  ⟨by rw [List.length_set, List.length_set]; exact h.1, fun j hj => by
    by_cases e : i = j
    · subst e
      by_cases l : i < a.length
      · rw [List.getElem?_set_self l, List.getElem?_set_self (by rw [← h.1]; exact l)]
      · rw [List.getElem?_eq_none (by simpa using l), List.getElem?_eq_none (by rw [List.length_set, ← h.1]; omega)]
    · rw [List.getElem?_set_ne e, List.getElem?_set_ne e]
      exact h.2 j fun p => hj ⟨p, fun z => e z.symm⟩⟩
theorem Agree.mono {P Q : Nat → Prop} {a b : Env} (h : Agree P a b) (k : ∀ i, P i → Q i) : Agree Q a b := ⟨h.1, fun i n => h.2 i fun p => n (k i p)⟩
theorem Agree.wipe (e : Env) : ∀ vs : List Nat, Agree (fun i => i ∈ vs) (wipeE e vs) e
  | [] => ⟨rfl, fun _ _ => rfl⟩
  | v :: vs => ⟨by unfold wipeE; rw [List.length_set]; exact (Agree.wipe e vs).1, fun i n => by
      unfold wipeE
      have hn : v ≠ i := fun z => n (show i ∈ v :: vs by rw [z]; exact List.mem_cons_self)
      rw [List.getElem?_set_ne hn]
      exact (Agree.wipe e vs).2 i fun z => n (List.mem_cons_of_mem _ z)⟩
theorem bindN_inv {gs : List Tg} {ds : List D} {e e' : Env} (h : bindN gs ds e = some e') :
    (gs = [] ∧ ds = [] ∧ e' = e) ∨ (∃ i m gs' d ds', gs = .s i m :: gs' ∧ ds = d :: ds' ∧ bindN gs' ds' (e.set i (some (.v d))) = some e') ∨
      ∃ hs gs' cs ds' e1, gs = .t hs :: gs' ∧ ds = .tuple cs :: ds' ∧ bindN hs cs e = some e1 ∧ bindN gs' ds' e1 = some e' := by
  cases gs with
  | nil =>
    cases ds with
    | nil =>
      unfold bindN at h
      cases h
      exact .inl ⟨rfl, rfl, rfl⟩
    | cons d ds =>
      unfold bindN at h
      cases h
  | cons g gs =>
    cases ds with
    | nil =>
      cases g <;> · unfold bindN at h; cases h
    | cons d ds =>
      cases g with
      | s i m =>
        unfold bindN at h
        exact .inr (.inl ⟨i, m, gs, d, ds, rfl, rfl, h⟩)
      | x o i =>
        unfold bindN at h
        cases h
      | t hs =>
        cases d <;> unfold bindN at h <;> first | (cases h; done) | skip
        rename_i cs
        cases q : bindN hs cs e with
        | none => rw [q] at h; cases h
        | some e1 =>
          rw [q] at h
          exact .inr (.inr ⟨hs, gs, cs, ds, e1, rfl, rfl, q, h⟩)
theorem bindN_agree : ∀ (gs : List Tg) {ds : List D} {a b a' : Env} {P : Nat → Prop}, bindN gs ds a = some a' → Agree P a b → ∃ b', bindN gs ds b = some b' ∧ Agree (fun i => P i ∧ i ∉ slots gs) a' b'
  | [], ds, a, b, a', P, h, k => by
    rcases bindN_inv h with ⟨_, e2, e3⟩ | ⟨i, m, gs', d, ds', e1, _⟩ | ⟨hs, gs', cs, ds', e1, e2, _⟩
    · subst e2 e3
      exact ⟨b, by unfold bindN; rfl, k.mono fun i p => ⟨p, by unfold slots; simp⟩⟩
    · cases e1
    · cases e2
  | .s i m :: gs, ds, a, b, a', P, h, k => by
    rcases bindN_inv h with ⟨e1, _, _⟩ | ⟨i', m', gs', d, ds', e1, e2, hz⟩ | ⟨hs, gs', cs, ds', e1, e2, _⟩
    · cases e1
    · cases e1
      subst e2
      obtain ⟨b', h1, h2⟩ := bindN_agree gs hz (k.set i (some (.v d)))
      exact ⟨b', by unfold bindN; exact h1, h2.mono fun j p => ⟨p.1.1, by unfold slots; simp [p.1.2, p.2]⟩⟩
    · cases e2
  | .t hs :: gs, ds, a, b, a', P, h, k => by
    rcases bindN_inv h with ⟨e1, _, _⟩ | ⟨i', m', gs', d, ds', e1, e2, hz⟩ | ⟨hs', gs', cs, ds', e1, e2, e3, e, hz⟩
    · cases e1
    · cases e1
    · cases e2
      subst e3
      obtain ⟨b1, h1, h2⟩ := bindN_agree hs e k
      obtain ⟨b2, h3, h4⟩ := bindN_agree gs hz h2
      refine ⟨b2, ?_, h4.mono fun j p => ⟨p.1.1, by unfold slots; simp [p.1.2, p.2]⟩⟩
      unfold bindN
      rw [h1]
      exact h3
  | .x o i :: gs, ds, a, b, a', P, h, k => by
    rcases bindN_inv h with ⟨e1, _, _⟩ | ⟨i', m', gs', d, ds', e1, e2, hz⟩ | ⟨hs', gs', cs, ds', e1, e2, e3, e, hz⟩
    · cases e1
    · cases e1
    · cases e2
theorem bindN_len : ∀ (gs : List Tg) {ds : List D} {e e' : Env}, bindN gs ds e = some e' → ds.length = gs.length
  | [], ds, e, e', h => by
    rcases bindN_inv h with ⟨_, e2, e3⟩ | ⟨i, m, gs', d, ds', e1, _⟩ | ⟨hs, gs', cs, ds', e1, e2, _⟩
    · rw [e2]; rfl
    · cases e1
    · cases e2
  | g :: gs, ds, e, e', h => by
    rcases bindN_inv h with ⟨e1, _, _⟩ | ⟨i', m', gs', d, ds', e1, e2, hz⟩ | ⟨hs', gs', cs, ds', e1, e2, e3, e4, hz⟩
    · cases e1
    · cases e1
      rw [e2, List.length_cons, List.length_cons, bindN_len gs hz]
    · cases e2
      rw [e3, List.length_cons, List.length_cons, bindN_len gs hz]
theorem bindN_wipe {gs : List Tg} {ds : List D} {e e' : Env} {vs : List Nat} (h : bindN gs ds e = some e') (k : ∀ i ∈ vs, i ∈ slots gs) : bindN gs ds (wipeE e vs) = some e' := by
  have ag : Agree (fun i => i ∈ vs) e (wipeE e vs) := ⟨(Agree.wipe e vs).1.symm, fun i n => ((Agree.wipe e vs).2 i n).symm⟩
  obtain ⟨b, h1, h2⟩ := bindN_agree gs h ag
  rw [h1]
  refine congrArg some (List.ext_getElem? fun i => ((h2.2 i fun p => p.2 (k i p.1)).symm))
section
variable {K : PySem.W.Frag} {s : Sto} {ρ : Rho} {Hf H : Hp}
theorem tgs_run : ∀ (gs : List Tg) {ds : List D} {e e' : Env} {xs : List V} {σ : L2.St} {Q : L2.St → Hp → Prop}, bindN gs ds e = some e' → WOk K s ρ Hf H → Reps K Hf xs ds → EnvOk K ρ Hf e σ →
    (∀ σ', EnvOk K ρ Hf e' σ' → (∀ vs, (∀ i ∈ slots gs, i ∈ vs) → L2.wipe σ' vs = L2.wipe σ vs) → Q σ' H) → tgsOf K gs xs σ H Q
  | [], ds, e, e', xs, σ, Q, h, w, r, eo, k => by
    rcases bindN_inv h with ⟨_, e2, e3⟩ | ⟨i, m, gs', d, ds', e1, _⟩ | ⟨hs, gs', cs, ds', e1, e2, _⟩
    · subst e2 e3
      cases r
      unfold tgsOf
      exact ⟨rfl, k σ eo fun _ _ => rfl⟩
    · cases e1
    · cases e2
  | .s i m :: gs, ds, e, e', xs, σ, Q, h, w, r, eo, k => by
    rcases bindN_inv h with ⟨e1, _, _⟩ | ⟨i', m', gs', d, ds', e1, e2, hz⟩ | ⟨hs, gs', cs, ds', e1, e2, _⟩
    · cases e1
    · cases e1
      subst e2
      cases r with
      | cons r rr =>
        unfold tgsOf
        refine ⟨_, _, rfl, ?_⟩
        show tgsOf K gs _ (σ.set i (some _)) H Q
        refine tgs_run gs hz w rr (Paired.set (show OV K ρ Hf (some (.v d)) (some _) from VRep.v r) i eo) fun σ' eo' q => k σ' eo' fun vs hv => ?_
        have hv1 : ∀ j ∈ slots gs, j ∈ vs := fun j hj => hv j (by unfold slots; exact List.mem_cons_of_mem _ hj)
        rw [q vs hv1]
        exact wipe_set (hv i (by unfold slots; exact List.mem_cons_self))
    · cases e2
  | .t hs :: gs, ds, e, e', xs, σ, Q, h, w, r, eo, k => by
    rcases bindN_inv h with ⟨e1, _, _⟩ | ⟨i', m', gs', d, ds', e1, e2, hz⟩ | ⟨hs', gs', cs, ds', a1, e2, e3, e1, hz⟩
    · cases e1
    · cases e1
    · cases e2
      subst e3
      cases r with
      | cons r rr =>
        unfold tgsOf
        refine ⟨_, _, rfl, ?_⟩
        cases r with
        | tup hh rt =>
          refine ⟨_, _, rfl, sqT_mono w.sub (.of hh), ?_, ?_⟩
          · rw [rt.length]
            exact bindN_len hs e1
          · refine tgs_run hs e1 w rt eo fun σ1 eo1 q1 => tgs_run gs hz w rr eo1 fun σ' eo' q => k σ' eo' fun vs hv => ?_
            rw [q vs fun j hj => hv j (by unfold slots; exact List.mem_append_right _ hj), q1 vs fun j hj => hv j (by unfold slots; exact List.mem_append_left _ hj)]
  | .x o i :: gs, ds, e, e', xs, σ, Q, h, w, r, eo, k => by
    rcases bindN_inv h with ⟨e1, _, _⟩ | ⟨i', m', gs', d, ds', e1, e2, hz⟩ | ⟨hs', gs', cs, ds', e1, e2, e3, e, hz⟩
    · cases e1
    · cases e1
    · cases e2
theorem tg_run {g : Tg} {d : D} {e e' : Env} {x : V} {σ : L2.St} {Q : L2.St → Hp → Prop} (h : bindN [g] [d] e = some e') (w : WOk K s ρ Hf H) (r : Rep K Hf x d) (eo : EnvOk K ρ Hf e σ)
    (k : ∀ σ', EnvOk K ρ Hf e' σ' → (∀ vs, (∀ i ∈ slots [g], i ∈ vs) → L2.wipe σ' vs = L2.wipe σ vs) → Q σ' H) : tgOf K g x σ H Q := by
  have nil : ∀ {gs : List Tg} {ds : List D} {a b : Env}, bindN gs ds a = some b → gs = [] → b = a := fun {gs ds a b} h z => by
    rcases bindN_inv h with ⟨_, _, e3⟩ | ⟨i, m, gs', d, ds', e1, _⟩ | ⟨hs, gs', cs, ds', e1, e2, _⟩
    · exact e3
    · rw [z] at e1; cases e1
    · rw [z] at e2; cases e2
  rcases bindN_inv h with ⟨e1, _, _⟩ | ⟨i, m, gs', d', ds', e1, e2, h2⟩ | ⟨hs, gs', cs, ds', a1, e2, e3, e1, h2⟩
  · cases e1
  · cases e1
    cases e2
    have z := nil h2 rfl
    subst z
    exact k (σ.set i (some x)) (Paired.set (show OV K ρ Hf (some (.v _)) (some x) from VRep.v r) i eo) fun vs hv => wipe_set (hv i (by unfold slots; exact List.mem_cons_self))
  · cases e2
    cases e3
    have z := nil h2 rfl
    subst z
    cases r with
    | tup hh rt =>
      refine ⟨_, _, rfl, sqT_mono w.sub (.of hh), ?_, ?_⟩
      · rw [rt.length]
        exact bindN_len hs e1
      · exact tgs_run hs e1 w rt eo fun σ' eo' q => k σ' eo' fun vs hv => q vs fun j hj => hv j (by unfold slots; exact List.mem_append_left _ hj)
end
end Vm

set_option Elab.async false
set_option linter.all false
set_option maxRecDepth 100000
set_option maxHeartbeats 4000000
/-! Vm: soundness, part 10: iterators, list comprehensions. -/
namespace Vm
open PySem PySem.Spec PyProof.Rows L2
abbrev ReI (K : PySem.W.Frag) : Sto → Rho → Hp → Hp → Hp → (Src × Nat) → It → Prop := fun s' ρ' Hf' H' _ q J => SrcOk K q.1 J s' ρ' Hf' H'
theorem bind_at' {α β : Type} {x : M α} {f : α → M β} {s s1 : Sto} {a : α} (h : x s = .ok a s1) : bind x f s = f a s1 := by
  unfold bind
  rw [h]
def SI (X : Cx) (C : Cfg) (tg it : Expr) (w : Wk) : Prop := ∀ env s, PI X tg it (Rdg X.K (ReI X.K) env s (evI C w env s))
section
variable {X : Cx}
theorem PI.conseq {tg it : Expr} {t t' : TI} (h : PI X tg it t) (k : ∀ σ H Q, t' σ H Q → t σ H Q) : PI X tg it t' := ⟨fun pins s σ H Q I q => h.run pins s σ H Q I (k σ H Q q)⟩
theorem PE.ex {ι : Type} {e : Expr} {t : ι → TE} (h : ∀ i, PE X e (t i)) : PE X e (fun σ H Q => ∃ i, t i σ H Q) := ⟨fun pins s σ H Q I ⟨i, q⟩ => (h i).run pins s σ H Q I q⟩
theorem PI.ex {ι : Type} {tg it : Expr} {t : ι → TI} (h : ∀ i, PI X tg it (t i)) : PI X tg it (fun σ H Q => ∃ i, t i σ H Q) := ⟨fun pins s σ H Q I ⟨i, q⟩ => (h i).run pins s σ H Q I q⟩
theorem PTs.ex {ι : Type} {cs : List Expr} {t : ι → TT} (h : ∀ i, PTs X cs (t i)) : PTs X cs (fun σ H Q => ∃ i, t i σ H Q) := ⟨fun pins s σ H Q I ⟨i, q⟩ => (h i).run pins s σ H Q I q⟩
theorem PTs.conseq {cs : List Expr} {t t' : TT} (h : PTs X cs t) (k : ∀ σ H Q, t' σ H Q → t σ H Q) : PTs X cs t' := ⟨fun pins s σ H Q I q => h.run pins s σ H Q I (k σ H Q q)⟩
theorem PSs.ex {ι : Type} {b : List Stmt} {t : ι → TS} (h : ∀ i, PSs X b (t i)) : PSs X b (fun D σ H => ∃ i, t i D σ H) := ⟨fun pins s σ H D I ⟨i, q⟩ => (h i).run pins s σ H D I q⟩
end
/-- the tests of a clause -/
def SQ (X : Cx) (C : Cfg) (cs : List Expr) (ts : List Co) : Prop := ∀ env s, PTs X cs (TTv X.K env s (evAll C ts env s))
section
variable {X : Cx} {C : Cfg} {a b c e tg : Expr} {ca cb cc : Co} {pos p tpos : Pos}
theorem sq_nil : SQ X C [] [] := fun env s => PTs.conseq pts_nil fun σ H Q h => by
  obtain ⟨ρ, Hf, w, eo, h⟩ := h
  unfold evAll at h
  exact h.tst w .refl
theorem sq_one (h : ST X C a ca) : SQ X C [a] [ca] := fun env s => PTs.conseq (pts_one (h env s)) fun σ H Q h => by
  unfold evAll at h
  exact h
theorem si_seq (ha : SE X C a ca) : SI X C tg a (.seq ca) := fun env s => PI.conseq (pi_seq (ha env s)) fun σ H Q h => by
  unfold evI at h
  obtain ⟨ρ, Hf, w, eo, h⟩ := h
  obtain ⟨r, s1, e1, h1⟩ := h.bind
  clear h
  refine ⟨ρ, Hf, w, eo, ?_⟩
  rw [e1]
  intro v ρ1 Hf1 H1 w1 x1 rr
  obtain ⟨d, s2, e2, h2⟩ := h1.bind
  clear h1
  obtain ⟨v1, e3⟩ := look_ok e2
  subst e3
  cases d <;> first | exact h2.elim | skip
  · have z := rr.1.str w1 v1
    subst z
    exact .inr (.inr ⟨_, rfl, h2 (Its _) ρ1 Hf1 H1 w1 x1 .str⟩)
  · obtain ⟨r', Hf2, w2, x2, _, rr2, hn, hs, hv⟩ := settle w1 x1 rr.2 rr.1
    obtain ⟨a, rfl, q1, q2⟩ := seq_at hn rr2 w2 ((hv _).trans v1)
    rw [hs] at q2
    exact .inl ⟨a, rfl, q1, h2 (Itl X.K a) ρ1 Hf2 H1 w2 x2 (.seqL q2)⟩
  · obtain ⟨r', Hf2, w2, x2, _, rr2, hn, hs, hv⟩ := settle w1 x1 rr.2 rr.1
    obtain ⟨a, rfl, q1, q2⟩ := seq_atT hn rr2 w2 ((hv _).trans v1)
    rw [hs] at q2
    exact .inr (.inl ⟨a, rfl, q1, h2 (Itt X.K a) ρ1 Hf2 H1 w2 x2 (.seqT q2)⟩)
theorem evRs_len {C : Cfg} : ∀ {cs : List Co} {env : Env} {s s' : Sto} {ds : List R}, evRs C cs env s = .ok ds s' → ds.length = cs.length
  | [], _, _, _, _, h => by
    simp only [evRs, ret] at h
    cases h
    rfl
  | c :: cs, env, s, s', ds, h => by
    unfold evRs at h
    obtain ⟨r, s1, _, h1⟩ := bind_ok h
    clear h
    obtain ⟨es, s3, e3, h⟩ := bind_ok h1
    clear h1
    cases h
    rw [List.length_cons, List.length_cons, evRs_len e3]
theorem smallR_of {i : Int} (h : smallR i = true) : -(2 ^ 62) ≤ i ∧ i < 2 ^ 62 := by
  unfold smallR at h
  rw [Bool.and_eq_true, decide_eq_true_eq, decide_eq_true_eq] at h
  exact h
theorem ita_views {K : PySem.W.Frag} {s : Sto} {ρ : Rho} {Hf H : Hp} {rs : List R} {xs : List V} {i : Int} (w : WOk K s ρ Hf H) (h : RReps K s ρ Hf H rs xs) (v : views s rs [.int i]) : xs = [.int i] := by
  obtain ⟨r, x, e1, e2, h1, h2⟩ := one h v
  rw [e2, h1.int w h2]
theorem ita_views2 {K : PySem.W.Frag} {s : Sto} {ρ : Rho} {Hf H : Hp} {rs : List R} {xs : List V} {i j : Int} (w : WOk K s ρ Hf H) (h : RReps K s ρ Hf H rs xs) (v : views s rs [.int i, .int j]) : xs = [.int i, .int j] := by
  obtain ⟨r, x, r2, x2, e1, e2, h1, h2, h3, h4⟩ := two2 h v
  rw [e2, h1.int w h2, h3.int w h4]
theorem si_rng1 (hg : Gl X "range") (hm : X.mg "range" = none) (hs : noStar a = true) (ha : SRs X C [a] [ca]) : SI X C tg (.Call (.Name "range" p) [a] [] pos) (.rng [ca]) := fun env s => PI.conseq (pi_range1 hg hm (ha env s) (star_cons hs)) fun σ H Q h => by
  unfold evI at h
  obtain ⟨ρ, Hf, w, eo, h⟩ := h
  obtain ⟨rs, s1, e1, h1⟩ := h.bind
  clear h
  refine ⟨ρ, Hf, w, eo, ?_⟩
  rw [e1]
  intro v ρ1 Hf1 H1 w1 x1 rr
  obtain ⟨ds, s2, e2, h2⟩ := h1.bind
  clear h1
  obtain ⟨e3, v1⟩ := looks_ok e2
  subst e3
  have l := evRs_len e1
  have rr : RReps X.K _ ρ1 Hf1 H1 rs v := rr
  split at h2
  · rename_i j
    have z := ita_views w1 rr v1
    by_cases k : smallR j = true
    · rw [if_pos k] at h2
      have k2 := smallR_of k
      exact ⟨j, z, k2.1, k2.2, h2 _ ρ1 Hf1 H1 w1 x1 .rng⟩
    · rw [if_neg k] at h2
      exact h2.elim
  · exfalso
    have v1 : Paired (fun r d => view _ r = some d) rs _ := v1
    have := Paired.length v1
    rw [l] at this
    cases this
  · exact h2.elim
theorem si_rng2 (hg : Gl X "range") (hm : X.mg "range" = none) (hs : noStar a = true) (hs2 : noStar b = true) (ha : SRs X C [a, b] [ca, cb]) : SI X C tg (.Call (.Name "range" p) [a, b] [] pos) (.rng [ca, cb]) := fun env s => PI.conseq (pi_range2 hg hm (ha env s) (by rw [star_cons hs, star_cons hs2]; rfl) (star_cons hs2)) fun σ H Q h => by
  unfold evI at h
  obtain ⟨ρ, Hf, w, eo, h⟩ := h
  obtain ⟨rs, s1, e1, h1⟩ := h.bind
  clear h
  refine ⟨ρ, Hf, w, eo, ?_⟩
  rw [e1]
  intro v ρ1 Hf1 H1 w1 x1 rr
  obtain ⟨ds, s2, e2, h2⟩ := h1.bind
  clear h1
  obtain ⟨e3, v1⟩ := looks_ok e2
  subst e3
  have l := evRs_len e1
  have rr : RReps X.K _ ρ1 Hf1 H1 rs v := rr
  split at h2
  · exfalso
    have v1 : Paired (fun r d => view _ r = some d) rs _ := v1
    have := Paired.length v1
    rw [l] at this
    cases this
  · rename_i i j
    have z := ita_views2 w1 rr v1
    by_cases k : (smallR i && smallR j) = true
    · rw [if_pos k] at h2
      rw [Bool.and_eq_true] at k
      have k1 := smallR_of k.1
      have k2 := smallR_of k.2
      exact ⟨i, j, z, ⟨k1.1, k1.2, k2.1, k2.2⟩, h2 _ ρ1 Hf1 H1 w1 x1 .rng⟩
    · rw [if_neg k] at h2
      exact h2.elim
  · exact h2.elim
def Set1 (K : PySem.W.Frag) (s : Sto) (ρ : Rho) (Hf H : Hp) (r : R) (v : V) : Prop := ∃ r', RRep K s ρ Hf H r' v ∧ (∀ d, r' ≠ .n d) ∧ seqR r' = seqR r ∧ ∀ s, view s r' = view s r
theorem Set1.evo {K : PySem.W.Frag} {s s' : Sto} {ρ ρ' : Rho} {Hf H Hf' H' : Hp} {r : R} {x : V} (h : Set1 K s ρ Hf H r x) (e : Evo ρ Hf ρ' Hf') : Set1 K s' ρ' Hf' H' r x :=
  let ⟨r', h1, h2, h3, h4⟩ := h
  ⟨r', h1.evo h2 e, h2, h3, h4⟩
abbrev ReN (K : PySem.W.Frag) : Sto → Rho → Hp → Hp → Hp → List R → List V → Prop := fun s' ρ' Hf' H' H0 rs vs => Paired (Set1 K s' ρ' Hf' H') rs vs
/-- one argument, two: what is new stays as it is -/
theorem srn_one (hs : noStar a = true) (ha : SE X C a ca) : ∀ env s, PA X [a] (Rdg X.K (ReN X.K) env s (bind (evE C ca env) (fun r => ret [r]) s)) := fun env s =>
  PA.conseq (pa_cons (ha env s) pa_nil (star_cons hs)) fun σ H Q h => by
    refine rdg_split h fun r s1 v ρ0 Hf0 ρ1 Hf1 H1 e1 w1 eo x1 rr h2 => ?_
    obtain ⟨r', Hf2, w2, x2, ev2, rr2, hn, hsq, hv⟩ := settle w1 x1 rr.2 rr.1
    exact h2 [v] ρ1 Hf2 H1 w2 x2 (.cons ⟨r', rr2, hn, hsq, hv⟩ .nil)
theorem EnvOk.evo {K : PySem.W.Frag} {ρ ρ' : Rho} {Hf Hf' : Hp} {env : Env} {σ : L2.St} (h : EnvOk K ρ Hf env σ) (e : Evo ρ Hf ρ' Hf') : EnvOk K ρ' Hf' env σ :=
  Paired.mapP h fun a b q => by
    cases a with
    | none => trivial
    | some l => cases b with
      | none => exact q
      | some x =>
        have q : VRep K ρ Hf l x := q
        cases q with
        | v r => exact VRep.v (r.mono e.fz)
        | p h => exact VRep.p (pre_get e.pre h)
        | g h => exact VRep.g (h.mono e.fz)
theorem srn_two (hs : noStar a = true) (hs2 : noStar b = true) (ha : SE X C a ca) (hb : SE X C b cb) : ∀ env s, PA X [a, b] (Rdg X.K (ReN X.K) env s (bind (evE C ca env) (fun r => bind (evE C cb env) fun q => ret [r, q]) s)) := fun env s => by
  cases ea : evE C ca env s with
  | no =>
    refine PA.ff fun σ H Q h => ?_
    obtain ⟨a, s1, e⟩ := Rdg.ok_of h
    rw [ea] at e
    cases e
  | ok ra s1 =>
    refine PA.conseq (pa_cons (ha env s) (srn_one hs2 hb env s1) (star_cons hs)) fun σ H Q h => ?_
    refine rdg_split h fun r s1' v ρ0 Hf0 ρ1 Hf1 H1 e1 w1 eo x1 rr h2 => ?_
    rw [ea] at e1
    cases e1
    obtain ⟨r', Hf2, w2, x2, ev2, rr2, hn, hsq, hv⟩ := settle w1 x1 rr.2 rr.1
    refine ⟨ρ1, Hf2, w2, eo.evo ev2, ?_⟩
    obtain ⟨q, s2, e2, h3⟩ := h2.bind
    rw [bind_at' e2]
    intro u ρ3 Hf3 H3 w3 x3 ru
    have ru : Paired (Set1 X.K s2 ρ3 Hf3 H3) [q] u := ru
    cases ru with
    | cons rq rr3 =>
      cases rr3
      exact h3 _ ρ3 Hf3 H3 w3 (x2.trans x3) (.cons ⟨r', rr2.ext x3, hn, hsq, hv⟩ (.cons rq .nil))
theorem si_enum {elts : List Expr} {kk : Nat} (hg : Gl X "enumerate") (hm : X.mg "enumerate" = none) (hs : noStar a = true) (ha : SE X C a ca) : SI X C (.Tuple elts kk tpos) (.Call (.Name "enumerate" p) [a] [] pos) (.enum ca) := fun env s => PI.conseq (pi_enumA hg hm (srn_one hs ha env s) (star_cons hs)) fun σ H Q h => by
  unfold evI at h
  obtain ⟨ρ, Hf, w, eo, h⟩ := h
  obtain ⟨r, s1, e1, h1⟩ := h.bind
  clear h
  refine ⟨ρ, Hf, w, eo, ?_⟩
  rw [bind_at' e1]
  intro v ρ1 Hf1 H1 w1 x1 rr
  obtain ⟨d, s2, e2, h2⟩ := h1.bind
  clear h1
  obtain ⟨v1, e3⟩ := look_ok e2
  subst e3
  have rr0 : Paired (Set1 X.K s2 ρ1 Hf1 H1) [r] v := rr
  clear rr
  cases rr0 with
  | cons rr rrr =>
    cases rrr
    obtain ⟨r', rr2, hn, hsq, hv⟩ := rr
    cases d <;> first | exact h2.elim | skip
    · obtain ⟨a, rfl, ⟨xs, q1⟩, q2⟩ := seq_at hn rr2 w1 ((hv _).trans v1)
      rw [hsq] at q2
      exact ⟨a, rfl, .inl ⟨xs, q1, h2 _ ρ1 Hf1 H1 w1 x1 (.enumL q2)⟩⟩
    · obtain ⟨a, rfl, ⟨xs, q1⟩, q2⟩ := seq_atT hn rr2 w1 ((hv _).trans v1)
      rw [hsq] at q2
      exact ⟨a, rfl, .inr ⟨xs, q1, h2 _ ρ1 Hf1 H1 w1 x1 (.enumT q2)⟩⟩
theorem si_zip {elts : List Expr} {kk : Nat} (hg : Gl X "zip") (hm : X.mg "zip" = none) (hs : noStar a = true) (hs2 : noStar b = true) (ha : SE X C a ca) (hb : SE X C b cb) : SI X C (.Tuple elts kk tpos) (.Call (.Name "zip" p) [a, b] [] pos) (.zip ca cb) := fun env s =>
  PI.conseq (RZ.pi_zipA hg hm (srn_two hs hs2 ha hb env s) (star_cons hs) (star_plain (by simp [hs2]))) fun σ H Q h => by
  unfold evI at h
  obtain ⟨ρ, Hf, w, eo, h⟩ := h
  obtain ⟨r, s1, e1, h1⟩ := h.bind
  clear h
  obtain ⟨q, s2, e2, h2⟩ := h1.bind
  clear h1
  refine ⟨ρ, Hf, w, eo, ?_⟩
  rw [bind_at' e1, bind_at' e2]
  intro v ρ1 Hf1 H1 w1 x1 rr
  obtain ⟨d, s3, e3, h3⟩ := h2.bind
  clear h2
  obtain ⟨v1, e4⟩ := look_ok e3
  subst e4
  obtain ⟨d2, s4, e5, h4⟩ := h3.bind
  clear h3
  obtain ⟨v2, e6⟩ := look_ok e5
  subst e6
  have rr0 : Paired (Set1 X.K s4 ρ1 Hf1 H1) [r, q] v := rr
  clear rr
  cases rr0 with
  | cons rr rrr =>
    cases rrr with
    | cons rq rrr2 =>
      cases rrr2
      obtain ⟨r', rr2, hn, hsq, hv⟩ := rr
      obtain ⟨q', rq2, hn', hsq', hv'⟩ := rq
      cases d <;> first | exact h4.elim | skip
      · cases d2 <;> first | exact h4.elim | skip
        obtain ⟨a, rfl, ⟨xs, q1⟩, q2⟩ := seq_at hn rr2 w1 ((hv _).trans v1)
        obtain ⟨b, rfl, ⟨ys, q3⟩, q4⟩ := seq_at hn' rq2 w1 ((hv' _).trans v2)
        rw [hsq] at q2
        rw [hsq'] at q4
        exact ⟨a, b, xs, ys, rfl, .inl ⟨q1, q3, h4 _ ρ1 Hf1 H1 w1 x1 (.zipL q2 q4)⟩⟩
      · cases d2 <;> first | exact h4.elim | skip
        obtain ⟨a, rfl, ⟨xs, q1⟩, q2⟩ := seq_atT hn rr2 w1 ((hv _).trans v1)
        obtain ⟨b, rfl, ⟨ys, q3⟩, q4⟩ := seq_atT hn' rq2 w1 ((hv' _).trans v2)
        rw [hsq] at q2
        rw [hsq'] at q4
        exact ⟨a, b, xs, ys, rfl, .inr ⟨q1, q3, h4 _ ρ1 Hf1 H1 w1 x1 (.zipT q2 q4)⟩⟩
end
end Vm

set_option Elab.async false
set_option linter.all false
set_option maxRecDepth 100000
set_option maxHeartbeats 4000000
/-! Vm: soundness, part 11: list comprehensions. -/
namespace Vm
open PySem PySem.Spec PyProof.Rows L2
section
variable {K : PySem.W.Frag} {s s' : Sto} {ρ ρ' : Rho} {Hf H Hf' H' : Hp} {D : Addr} {o : HO}
/-- a write to what was not there at the start -/
theorem Ext.out (x : Ext s ρ Hf H s' ρ' Hf' H') (h : H D = none) : Ext s ρ Hf H s' ρ' Hf' (upd H' D o) :=
  ⟨x.pre, x.fz, fun a u e n => by
    obtain ⟨h1, h2, h3⟩ := x.keep a u e n
    exact ⟨by rw [upd_ne (ne_of_none e h)]; exact h1, h2, h3⟩, fun a e => x.grow a (upd_grow e)⟩
theorem WOk.out (w : WOk K s ρ Hf H) (h : Hf D = none) (nl : ∀ k d, live s k d → ρ[k]? ≠ some D) : WOk K s ρ Hf (upd H D o) where
  sub := fun b x e => by rw [upd_ne (ne_of_none e h)]; exact w.sub _ _ e
  len := w.len
  at_ := fun k d l => by
    obtain ⟨a, u, h1, h2, h3, h4⟩ := w.at_ k d l
    have q : a ≠ D := fun z => nl k d l (z ▸ h1)
    exact ⟨a, u, h1, by rw [upd_ne q]; exact h2, h3, h4⟩
  inj := w.inj
  ded := w.ded
end
/-- the accumulating list at a: its items frozen, itself of nobody -/
structure Acc (K : PySem.W.Frag) (s : Sto) (ρ : Rho) (Hf H : Hp) (D : Addr) (ds : List PyData) (xs : List V) : Prop where
  here : H D = some (.lst xs)
  own : Hf D = none
  nl : ∀ k d, live s k d → ρ[k]? ≠ some D
  reps : Reps K Hf xs ds
theorem Acc.ext {K : PySem.W.Frag} {s s' : Sto} {ρ ρ' : Rho} {Hf H Hf' H' : Hp} {D : Addr} {ds : List PyData} {xs : List V} (h : Acc K s ρ Hf H D ds xs) (x : Ext s ρ Hf H s' ρ' Hf' H') : Acc K s' ρ' Hf' H' D ds xs := by
  obtain ⟨h1, h2, h3⟩ := x.keep D _ h.here h.nl
  exact ⟨h1, h2 h.own, h3, h.reps.mono x.fz⟩
section
variable {K : PySem.W.Frag} {s0 s : Sto} {ρ0 ρ : Rho} {Hf0 H0 Hf H : Hp} {Q : VK} {D : Addr} {ds : List PyData} {xs : List V}
/-- the end: the list handed over -/
theorem Acc.fin (h : Acc K s ρ Hf H D ds xs) (w : WOk K s ρ Hf H) (x : Ext s0 ρ0 Hf0 H0 s ρ Hf H) (n : H0 D = none) (p : Post K s0 ρ0 Hf0 H0 (ReR K) (newL ds s) Q) : Q (.ref D) H := by
  obtain ⟨u, s1, e1, p1⟩ := p.bind
  obtain ⟨hb, e2⟩ := guard_ok e1
  subst e2
  exact p1 _ ρ Hf H w x ⟨.n h.here h.own h.nl (.lst h.reps), D, rfl, n⟩
theorem newL_len {s : Sto} {r : R} {s2 : Sto} {es : List PyData} (h : newL es s = .ok r s2) : es.length ≤ sizeLine := by
  unfold newL at h
  obtain ⟨u, s1, e1, _⟩ := bind_ok h
  exact of_decide_eq_true (guard_ok e1).1
end
theorem Post.ok {K : PySem.W.Frag} {α β : Type} {s : Sto} {ρ : Rho} {Hf H : Hp} {Rel : Sto → Rho → Hp → Hp → Hp → α → β → Prop} {out : Out α} {Q : β → Hp → Prop} (h : Post K s ρ Hf H Rel out Q) : ∃ a s', out = .ok a s' := by
  cases out with
  | ok a s' => exact ⟨a, s', rfl⟩
  | no => exact h.elim
theorem bind_assoc {α β γ : Type} {x : M α} {f : α → M β} {g : β → M γ} {s : Sto} : bind (bind x f) g s = bind x (fun a => bind (f a) g) s := by
  unfold bind
  cases x s <;> rfl
theorem bind_at {α β : Type} {x : M α} {f : α → M β} {s s1 : Sto} {a : α} (h : x s = .ok a s1) : bind x f s = f a s1 := by
  unfold bind
  rw [h]
section
variable {X : Cx} {C : Cfg} {it e tg : Expr} {w : Wk} {g : Tg} {ts : List Co} {c : Co} {ifs : List Expr} {pos : Pos}
/-- an item of a comprehension, tested -/
def itemF (C : Cfg) (g : Tg) (ts : List Co) (c : Co) (env : Env) : PyData → M (List PyData) := fun d => bind (bind1 g d env) fun e' => bind (evAll C ts e') fun k => if k = true then bind (evE C c e') fun r => bind (take r) fun d => ret [d] else ret []
abbrev teX (K : PySem.W.Frag) (C : Cfg) (c : Co) : TE := fun σ H Q => ∃ p : Env × Sto, TEv K p.1 p.2 (evE C c p.1 p.2) σ H Q
abbrev ttX (K : PySem.W.Frag) (C : Cfg) (ts : List Co) : TT := fun σ H Q => ∃ p : Env × Sto, TTv K p.1 p.2 (evAll C ts p.1 p.2) σ H Q
/-- one turn's end: the tests, the item, the list -/
theorem item_run {K : PySem.W.Frag} {s0 s : Sto} {ρ0 ρ : Rho} {Hf0 H0 Hf H : Hp} {σ : L2.St} {e' : Env} {D : Addr} {ds : List PyData} {xs : List V} {Q : VK} {rest : List PyData → M R} {Nx : Hp → Prop}
    (w : WOk K s ρ Hf H) (x0 : Ext s0 ρ0 Hf0 H0 s ρ Hf H) (n0 : H0 D = none) (eo : EnvOk K ρ Hf e' σ) (ac : Acc K s ρ Hf H D ds xs)
    (p : Post K s0 ρ0 Hf0 H0 (ReR K) (bind (bind (evAll C ts e') fun k => if k = true then bind (evE C c e') fun r => bind (take r) fun d => ret [d] else ret []) rest s) Q)
    (hlen : ∀ d s2 r s3, rest [d] s2 = .ok r s3 → ds.length < sizeLine)
    (hN : ∀ es ys s2 ρ2 Hf2 H2, WOk K s2 ρ2 Hf2 H2 → Ext s0 ρ0 Hf0 H0 s2 ρ2 Hf2 H2 → Ext s ρ Hf H s2 ρ2 Hf2 H2 ∨ (∃ H3, Ext s ρ Hf H s2 ρ2 Hf2 H3 ∧ H2 = upd H3 D (.lst ys)) → Acc K s2 ρ2 Hf2 H2 D (ds ++ es) ys → Post K s0 ρ0 Hf0 H0 (ReR K) (rest es s2) Q → Nx H2) :
    ttX K C ts σ H fun b H3 => if b = true then teX K C c σ H3 fun y H4 => ∃ acc, H4 D = some (.lst acc) ∧ acc.length < sizeLine ∧ Nx (upd H4 D (.lst (acc ++ [y]))) else Nx H3 := by
  obtain ⟨l, s9, e9, p1⟩ := p.bind
  obtain ⟨k, s1, e1, h1⟩ := bind_ok e9
  refine ⟨(e', s), ρ, Hf, w, eo, ?_⟩
  show Post K s ρ Hf H ReB (evAll C ts e' s) _
  rw [e1]
  intro b ρ1 Hf1 H1 w1 x1 eb
  have eb : k = b := eb
  subst eb
  cases k with
  | false =>
    have h1 : Out.ok [] s1 = .ok l s9 := h1
    cases h1
    exact hN [] xs _ ρ1 Hf1 H1 w1 (x0.trans x1) (.inl x1) (by rw [List.append_nil]; exact ac.ext x1) p1
  | true =>
    have h1 : bind (evE C c e') (fun r => bind (take r) fun d => ret [d]) s1 = .ok l s9 := h1
    obtain ⟨r, s2, e2, h2⟩ := bind_ok h1
    obtain ⟨d, s3, e3, h3⟩ := bind_ok h2
    cases h3
    refine ⟨(e', s1), ρ1, Hf1, w1, eo.ext x1, ?_⟩
    show Post K s1 ρ1 Hf1 H1 (ReR K) (evE C c e' s1) _
    rw [e2]
    intro y ρ2 Hf2 H2 w2 x2 ry
    obtain ⟨Hf3, w3, x3, rd⟩ := take_ok w2 x2 ry.2 ry.1 e3
    have ac3 := (ac.ext x1).ext x3
    obtain ⟨r', s4, e4⟩ := p1.ok
    refine ⟨xs, ac3.here, by rw [ac3.reps.length]; exact hlen _ _ _ _ e4, ?_⟩
    refine hN [d] (xs ++ [y]) _ ρ2 Hf3 _ (w3.out ac3.own ac3.nl) ((x0.trans (x1.trans x3)).out n0) (.inr ⟨H2, x1.trans x3, rfl⟩) ⟨upd_same, ac3.own, ac3.nl, ac3.reps.append (.cons rd .nil)⟩ p1
theorem lc_run {K : PySem.W.Frag} {env : Env} {s : Sto} {σ : L2.St} {H : Hp} {Q : VK} {vs : List Nat} (hv1 : ∀ i ∈ vs, i ∈ slots [g]) (hv2 : ∀ i ∈ slots [g], i ∈ vs) (h : TEv K env s (evE C (.lc g w ts c) env s) σ H Q) :
    tLc (Rdg K (ReI K) env s (evI C w env s)) (tgOf K g) (ttX K C ts) (teX K C c) vs σ H Q := by
  unfold evE at h
  obtain ⟨ρ, Hf, w0, eo, h⟩ := h
  obtain ⟨q, s1, e1, h1⟩ := h.bind
  clear h
  refine ⟨ρ, Hf, w0, eo, ?_⟩
  rw [e1]
  intro J ρ1 Hf1 H1 w1 x1 sr D hD
  have h1 : Post K s ρ Hf H (ReR K) (bind (mapS q.1 (itemF C g ts c env) q.2 0) newL s1) Q := h1
  have n0 : H D = none := x1.grow D hD
  refine ⟨fun i m H' => ∃ s' ρ' Hf' ds xs, WOk K s' ρ' Hf' H' ∧ Ext s ρ Hf H s' ρ' Hf' H' ∧ Evo ρ1 Hf1 ρ' Hf' ∧ Acc K s' ρ' Hf' H' D ds xs ∧ Post K s ρ Hf H (ReR K) (bind (mapS q.1 (itemF C g ts c env) m i) (fun l => newL (ds ++ l)) s') Q, ?_, ?_⟩
  · have wn := w1.out (o := .lst []) (D := D) (w1.fnone hD) (fun k d l => w1.ne hD l)
    exact ⟨q.2, s1, ρ1, Hf1, [], [], wn, x1.out n0, .refl, ⟨upd_same, w1.fnone hD, fun k d l => w1.ne hD l, .nil⟩, h1⟩
  · rintro i m H2 ⟨s2, ρ2, Hf2, ds, xs, w2, x02, x12, ac, p⟩
    cases m with
    | zero =>
      left
      obtain ⟨l, s3, e3, p1⟩ := p.bind
      unfold mapS at e3
      obtain ⟨n, s4, e4, e5⟩ := bind_ok e3
      obtain ⟨z, st⟩ := sr.stop _ _ _ _ _ _ x12 w2 e4
      subst z
      by_cases k : n = i
      · rw [if_pos k] at e5
        cases e5
        subst k
        rw [List.append_nil] at p1
        exact ⟨st, ac.fin w2 x02 n0 p1⟩
      · rw [if_neg k] at e5
        cases e5
    | succ m =>
      right
      have p : Post K s ρ Hf H (ReR K) (bind (bind (itemS q.1 i) fun d => bind (itemF C g ts c env d) fun a => bind (mapS q.1 (itemF C g ts c env) m (i + 1)) fun b => ret (a ++ b)) (fun l => newL (ds ++ l)) s2) Q := p
      rw [bind_assoc] at p
      obtain ⟨d, s3, e3, p1⟩ := p.bind
      clear p
      obtain ⟨z, go, yl⟩ := sr.item _ _ _ _ _ _ _ x12 w2 e3
      subst z
      refine ⟨go, _, fun H' q' => ⟨m, Nat.lt_succ_self m, q'⟩, fun x H3 y => ?_⟩
      obtain ⟨Hf3, w3, x3, rx⟩ := yl x H3 y
      rw [bind_assoc] at p1
      unfold itemF at p1
      rw [bind_assoc] at p1
      obtain ⟨e', s4, e4, p2⟩ := p1.bind
      clear p1
      obtain ⟨eb, z⟩ := ofO_ok e4
      subst z
      refine tg_run (bindN_wipe eb hv1) w3 rx (((eo.ext x02).ext x3).wipe vs) fun σ' eo' hw => ⟨?_, ?_⟩
      · rw [hw vs hv2, wipe_wipe fun i hi => hi]
      · refine item_run w3 (x02.trans x3) n0 eo' (ac.ext x3) p2 (fun d' s5 r s6 e6 => ?_) fun es ys s5 ρ5 Hf5 H5 w5 x05 xx ac5 p5 => ?_
        · obtain ⟨b, s7, e7, e8⟩ := bind_ok e6
          obtain ⟨b2, s8, e9, e10⟩ := bind_ok e7
          cases e10
          have := newL_len e8
          rw [List.length_append, List.length_append, List.length_singleton] at this
          omega
        · refine ⟨s5, ρ5, Hf5, ds ++ es, ys, w5, x05, ?_, ac5, ?_⟩
          · rcases xx with xx | ⟨H6, xx, rfl⟩
            · exact x12.trans (x3.trans xx).evo
            · exact x12.trans (x3.trans xx).evo
          · have p5 : Post K s ρ Hf H (ReR K) (bind (bind (mapS q.1 (itemF C g ts c env) m (i + 1)) fun b => ret (es ++ b)) (fun l => newL (ds ++ l)) s5) Q := p5
            rw [bind_assoc] at p5
            have e : (fun a => bind (ret (es ++ a)) fun l => newL (ds ++ l)) = fun l => newL (ds ++ es ++ l) := by
              funext a s
              rw [List.append_assoc]
              rfl
            rw [e] at p5
            exact p5
end
end Vm

set_option Elab.async false
set_option linter.all false
set_option maxRecDepth 100000
set_option maxHeartbeats 4000000
/-! Vm: soundness, part 12: list comprehensions of two clauses. -/
namespace Vm
open PySem PySem.Spec PyProof.Rows L2
theorem wipeE_some {e : Env} {i : Nat} {l : Vl} : ∀ {vs : List Nat}, (wipeE e vs)[i]? = some (some l) → e[i]? = some (some l) ∧ i ∉ vs
  | [], h => ⟨h, by simp⟩
  | v :: vs, h => by
    unfold wipeE at h
    by_cases q : v = i
    · subst q
      by_cases k : v < (wipeE e vs).length
      · rw [List.getElem?_set_self k] at h
        cases h
      · rw [List.getElem?_eq_none (by rw [List.length_set]; omega)] at h
        cases h
    · rw [List.getElem?_set_ne q] at h
      obtain ⟨h1, h2⟩ := wipeE_some h
      exact ⟨h1, by simp only [List.mem_cons, not_or]; exact ⟨fun z => q z.symm, h2⟩⟩
theorem paired_by {α β : Type} {F : α → β → Prop} : ∀ {xs : List α} {ys : List β}, xs.length = ys.length → (∀ (i : Nat) (a : α) (b : β), xs[i]? = some a → ys[i]? = some b → F a b) → Paired F xs ys
  | [], [], _, _ => .nil
  | [], _ :: _, h, _ => by cases h
  | _ :: _, [], h, _ => by cases h
  | x :: xs, y :: ys, h, k => .cons (k 0 x y rfl rfl) (paired_by (by simpa using h) fun i a b h1 h2 => k (i + 1) a b (by simpa using h1) (by simpa using h2))
theorem EnvOk.weak {K : PySem.W.Frag} {ρ : Rho} {Hf : Hp} {env : Env} {σ σ' : L2.St} (h : EnvOk K ρ Hf env σ) (hl : σ'.length = σ.length) (k : ∀ (i : Nat) (l : Vl), env[i]? = some (some l) → σ'[i]? = σ[i]?) : EnvOk K ρ Hf env σ' := by
  refine paired_by ((Paired.length h).trans hl.symm) fun i a b h1 h2 => ?_
  cases a with
  | none => trivial
  | some l =>
    rw [k i l h1] at h2
    obtain ⟨b', h3, h4⟩ := Paired.get h h1
    rw [h2] at h3
    cases h3
    exact h4
/-- the block's slots forgotten: those of g and of g2 -/
theorem EnvOk.wipe2 {K : PySem.W.Frag} {ρ : Rho} {Hf : Hp} {env : Env} {σ : L2.St} {vs s1 s2 : List Nat} (h : EnvOk K ρ Hf env σ) (hv : ∀ i ∈ vs, i ∈ s1 ∨ i ∈ s2) : EnvOk K ρ Hf (wipeE (wipeE env s2) s1) (L2.wipe σ vs) := by
  have h2 : EnvOk K ρ Hf (wipeE (wipeE env s2) s1) (L2.wipe (L2.wipe σ s2) s1) := (h.wipe s2).wipe s1
  refine h2.weak (by rw [wipe_length, wipe_length, wipe_length]) fun i l e => ?_
  obtain ⟨e1, n1⟩ := wipeE_some e
  obtain ⟨e2, n2⟩ := wipeE_some e1
  have n3 : i ∉ vs := fun z => (hv i z).elim n1 n2
  rw [wipe_out n3, wipe_out n1, wipe_out n2]
section
variable {C : Cfg} {w w2 : Wk} {g g2 : Tg} {ts ts2 : List Co} {c : Co}
abbrev tiX (K : PySem.W.Frag) (C : Cfg) (w : Wk) : TI := fun σ H Q => ∃ p : Env × Sto, Rdg K (ReI K) p.1 p.2 (evI C w p.1 p.2) σ H Q
def outF (C : Cfg) (g : Tg) (ts : List Co) (g2 : Tg) (w2 : Wk) (ts2 : List Co) (c : Co) (env : Env) : PyData → M (List PyData) := fun d => bind (bind1 g d (wipeE env (slots [g2]))) fun e' => bind (evAll C ts e') fun k => if k = true then
  (bind (evI C w2 e') fun q2 => mapS q2.1 (itemF C g2 ts2 c e') q2.2 0) else ret []
theorem lc2_run {K : PySem.W.Frag} {env : Env} {s : Sto} {σ : L2.St} {H : Hp} {Q : VK} {vs : List Nat} (hv : ∀ i ∈ vs, i ∈ slots [g] ∨ i ∈ slots [g2]) (hv2 : ∀ i ∈ slots [g], i ∈ vs) (h : TEv K env s (evE C (.lc2 g w ts g2 w2 ts2 c) env s) σ H Q) :
    tLc2 (Rdg K (ReI K) env s (evI C w env s)) (tgOf K g) (ttX K C ts) (tiX K C w2) (tgOf K g2) (ttX K C ts2) (teX K C c) vs (slots [g2]) σ H Q := by
  unfold evE at h
  obtain ⟨ρ, Hf, w0, eo, h⟩ := h
  obtain ⟨q, s1, e1, h1⟩ := h.bind
  clear h
  refine ⟨ρ, Hf, w0, eo, ?_⟩
  rw [e1]
  intro J ρ1 Hf1 H1 w1 x1 sr D hD
  have h1 : Post K s ρ Hf H (ReR K) (bind (mapS q.1 (outF C g ts g2 w2 ts2 c env) q.2 0) newL s1) Q := h1
  have n0 : H D = none := x1.grow D hD
  refine ⟨fun i m H' => ∃ s' ρ' Hf' ds xs, WOk K s' ρ' Hf' H' ∧ Ext s ρ Hf H s' ρ' Hf' H' ∧ Evo ρ1 Hf1 ρ' Hf' ∧ Acc K s' ρ' Hf' H' D ds xs ∧ Post K s ρ Hf H (ReR K) (bind (mapS q.1 (outF C g ts g2 w2 ts2 c env) m i) (fun l => newL (ds ++ l)) s') Q, ?_, ?_⟩
  · have wn := w1.out (o := .lst []) (D := D) (w1.fnone hD) (fun k d l => w1.ne hD l)
    exact ⟨q.2, s1, ρ1, Hf1, [], [], wn, x1.out n0, .refl, ⟨upd_same, w1.fnone hD, fun k d l => w1.ne hD l, .nil⟩, h1⟩
  · rintro i m H2 ⟨s2, ρ2, Hf2, ds, xs, w2', x02, x12, ac, p⟩
    cases m with
    | zero =>
      left
      obtain ⟨l, s3, e3, p1⟩ := p.bind
      unfold mapS at e3
      obtain ⟨n, s4, e4, e5⟩ := bind_ok e3
      obtain ⟨z, st⟩ := sr.stop _ _ _ _ _ _ x12 w2' e4
      subst z
      by_cases k : n = i
      · rw [if_pos k] at e5
        cases e5
        subst k
        rw [List.append_nil] at p1
        exact ⟨st, ac.fin w2' x02 n0 p1⟩
      · rw [if_neg k] at e5
        cases e5
    | succ m =>
      right
      have p : Post K s ρ Hf H (ReR K) (bind (bind (itemS q.1 i) fun d => bind (outF C g ts g2 w2 ts2 c env d) fun a => bind (mapS q.1 (outF C g ts g2 w2 ts2 c env) m (i + 1)) fun b => ret (a ++ b)) (fun l => newL (ds ++ l)) s2) Q := p
      rw [bind_assoc] at p
      obtain ⟨d, s3, e3, p1⟩ := p.bind
      clear p
      obtain ⟨z, go, yl⟩ := sr.item _ _ _ _ _ _ _ x12 w2' e3
      subst z
      refine ⟨go, _, fun H' q' => ⟨m, Nat.lt_succ_self m, q'⟩, fun x H3 y => ?_⟩
      obtain ⟨Hf3, w3, x3, rx⟩ := yl x H3 y
      rw [bind_assoc] at p1
      unfold outF at p1
      rw [bind_assoc] at p1
      obtain ⟨e', s4, e4, p2⟩ := p1.bind
      clear p1
      obtain ⟨eb, z⟩ := ofO_ok e4
      subst z
      refine tg_run (bindN_wipe eb fun i hi => hi) w3 rx (((eo.ext x02).ext x3).wipe2 hv) fun σ' eo' hw => ⟨?_, ?_⟩
      · rw [hw vs hv2, wipe_wipe fun i hi => hi]
      · rw [bind_assoc] at p2
        obtain ⟨k, s5, e5, p3⟩ := p2.bind
        clear p2
        refine ⟨(e', _), ρ2, Hf3, w3, eo', ?_⟩
        show Post K _ ρ2 Hf3 H3 ReB (evAll C ts e' _) _
        rw [e5]
        intro b ρ5 Hf5 H5 w5 x5 ebk
        have ebk : k = b := ebk
        subst ebk
        have ac5 := (ac.ext x3).ext x5
        have x05 := (x02.trans x3).trans x5
        have x15 := (x12.trans x3.evo).trans x5.evo
        cases k with
        | false =>
          rw [if_neg Bool.false_ne_true]
          refine ⟨s5, ρ5, Hf5, ds, xs, w5, x05, x15, ac5, ?_⟩
          have p4 : Post K s ρ Hf H (ReR K) (bind (bind (mapS q.1 (outF C g ts g2 w2 ts2 c env) m (i + 1)) fun b => ret b) (fun l => newL (ds ++ l)) s5) Q := p3
          rw [bind_assoc] at p4
          exact p4
        | true =>
          rw [if_pos rfl]
          have p4 : Post K s ρ Hf H (ReR K) (bind (bind (evI C w2 e') fun q2 => mapS q2.1 (itemF C g2 ts2 c e') q2.2 0) (fun a => bind (bind (mapS q.1 (outF C g ts g2 w2 ts2 c env) m (i + 1)) fun b => ret (a ++ b)) fun l => newL (ds ++ l)) s5) Q := p3
          clear p3
          rw [bind_assoc] at p4
          obtain ⟨q2, s6, e6, p5⟩ := p4.bind
          clear p4
          refine ⟨(e', s5), ρ5, Hf5, w5, eo'.ext x5, ?_⟩
          show Post K s5 ρ5 Hf5 H5 (ReI K) (evI C w2 e' s5) _
          rw [e6]
          intro J1 ρ6 Hf6 H6 w6 x6 sr1
          refine ⟨fun j k H' => ∃ s' ρ' Hf' es ys, WOk K s' ρ' Hf' H' ∧ Ext s ρ Hf H s' ρ' Hf' H' ∧ Evo ρ1 Hf1 ρ' Hf' ∧ EnvOk K ρ' Hf' e' σ' ∧ SrcOk K q2.1 J1 s' ρ' Hf' H' ∧ Acc K s' ρ' Hf' H' D (ds ++ es) ys ∧
            Post K s ρ Hf H (ReR K) (bind (mapS q2.1 (itemF C g2 ts2 c e') k j) (fun a => bind (mapS q.1 (outF C g ts g2 w2 ts2 c env) m (i + 1)) fun l => newL (ds ++ (es ++ (a ++ l)))) s') Q, ?_, ?_⟩
          · refine ⟨q2.2, s6, ρ6, Hf6, [], xs, w6, x05.trans x6, x15.trans x6.evo, (eo'.ext x5).ext x6, sr1, by rw [List.append_nil]; exact ac5.ext x6, ?_⟩
            have e : (fun a => bind (bind (mapS q.1 (outF C g ts g2 w2 ts2 c env) m (i + 1)) fun b => ret (a ++ b)) fun l => newL (ds ++ l)) = fun a => bind (mapS q.1 (outF C g ts g2 w2 ts2 c env) m (i + 1)) fun l => newL (ds ++ ([] ++ (a ++ l))) := by
              funext a s
              rw [bind_assoc]
              rfl
            rw [e] at p5
            exact p5
          · rintro j k H7 ⟨s7, ρ7, Hf7, es, ys, w7, x07, x17, eo7, sr7, ac7, p7⟩
            cases k with
            | zero =>
              left
              obtain ⟨l, s8, e8, p8⟩ := p7.bind
              unfold mapS at e8
              obtain ⟨n, s9, e9, e10⟩ := bind_ok e8
              obtain ⟨z, st⟩ := sr7.stop _ _ _ _ _ _ .refl w7 e9
              subst z
              by_cases k : n = j
              · rw [if_pos k] at e10
                cases e10
                subst k
                refine ⟨st, _, ρ7, Hf7, ds ++ es, ys, w7, x07, x17, ac7, ?_⟩
                have e : (fun l => newL (ds ++ (es ++ ([] ++ l)))) = fun l => newL (ds ++ es ++ l) := by
                  funext l
                  rw [List.nil_append, List.append_assoc]
                rw [e] at p8
                exact p8
              · rw [if_neg k] at e10
                cases e10
            | succ k =>
              right
              have p7 : Post K s ρ Hf H (ReR K) (bind (bind (itemS q2.1 j) fun d => bind (itemF C g2 ts2 c e' d) fun a => bind (mapS q2.1 (itemF C g2 ts2 c e') k (j + 1)) fun b => ret (a ++ b)) (fun a => bind (mapS q.1 (outF C g ts g2 w2 ts2 c env) m (i + 1)) fun l => newL (ds ++ (es ++ (a ++ l)))) s7) Q := p7
              rw [bind_assoc] at p7
              obtain ⟨d2, s8, e8, p8⟩ := p7.bind
              clear p7
              obtain ⟨z, go1, yl1⟩ := sr7.item _ _ _ _ _ _ _ .refl w7 e8
              subst z
              refine ⟨go1, _, fun H' q' => ⟨k, Nat.lt_succ_self k, q'⟩, fun x8 H8 y8 => ?_⟩
              obtain ⟨Hf8, w8, x8', rx8⟩ := yl1 x8 H8 y8
              rw [bind_assoc] at p8
              unfold itemF at p8
              rw [bind_assoc] at p8
              obtain ⟨e2, s9, e9, p9⟩ := p8.bind
              clear p8
              obtain ⟨eb2, z⟩ := ofO_ok e9
              subst z
              refine tg_run (s := _) (bindN_wipe eb2 fun i hi => hi) w8 rx8 ((EnvOk.ext eo7 x8').wipe (slots [g2])) fun σ3 eo3 hw3 => ⟨?_, ?_⟩
              · rw [hw3 _ fun i hi => hi, wipe_wipe fun i hi => hi]
              · refine item_run w8 (x07.trans x8') n0 eo3 (ac7.ext x8') p9 (fun d' t5 r t6 f6 => ?_) fun fs zs t5 τ5 Gf5 G5 v5 y05 xx bc5 r5 => ?_
                · obtain ⟨b, t7, f7, f8⟩ := bind_ok f6
                  obtain ⟨b2, t8, f9, f10⟩ := bind_ok f7
                  cases f10
                  obtain ⟨b3, t9, f11, f12⟩ := bind_ok f8
                  have := newL_len f12
                  simp only [List.length_append, List.length_singleton] at this ⊢
                  omega
                · have ev : Evo ρ7 Hf7 τ5 Gf5 := by
                    rcases xx with xx | ⟨H6, xx, e⟩
                    · exact (x8'.trans xx).evo
                    · exact (x8'.trans xx).evo
                  refine ⟨t5, τ5, Gf5, es ++ fs, zs, v5, y05, x17.trans ev, EnvOk.evo eo7 ev, sr7.evo ev, by rw [← List.append_assoc]; exact bc5, ?_⟩
                  · have r5 : Post K s ρ Hf H (ReR K) (bind (bind (mapS q2.1 (itemF C g2 ts2 c e') k (j + 1)) fun b => ret (fs ++ b)) (fun a => bind (mapS q.1 (outF C g ts g2 w2 ts2 c env) m (i + 1)) fun l => newL (ds ++ (es ++ (a ++ l)))) t5) Q := r5
                    rw [bind_assoc] at r5
                    have e : (fun a => bind (ret (fs ++ a)) fun a => bind (mapS q.1 (outF C g ts g2 w2 ts2 c env) m (i + 1)) fun l => newL (ds ++ (es ++ (a ++ l)))) = fun a => bind (mapS q.1 (outF C g ts g2 w2 ts2 c env) m (i + 1)) fun l => newL (ds ++ (es ++ fs ++ (a ++ l))) := by
                      funext a s
                      have ee : ∀ l, ds ++ (es ++ (fs ++ a ++ l)) = ds ++ (es ++ fs ++ (a ++ l)) := fun l => by simp
                      show bind (mapS q.1 (outF C g ts g2 w2 ts2 c env) m (i + 1)) (fun l => newL (ds ++ (es ++ (fs ++ a ++ l)))) s = _
                      simp only [ee]
                    rw [e] at r5
                    exact r5
end
end Vm

set_option Elab.async false
set_option linter.all false
set_option maxRecDepth 100000
set_option maxHeartbeats 4000000
/-! Vm: soundness, part 13: statements. -/
namespace Vm
open PySem PySem.Spec PyProof.Rows L2
def PostS (K : PySem.W.Frag) (s : Sto) (ρ : Rho) (Hf H : Hp) (out : Out Fl) (D : Ends) : Prop := match out with
  | .ok (.nx e) s' => ∀ σ ρ' Hf' H', WOk K s' ρ' Hf' H' → Ext s ρ Hf H s' ρ' Hf' H' → EnvOk K ρ' Hf' e σ → D.nx σ H'
  | .ok (.bk e) s' => ∀ σ ρ' Hf' H', WOk K s' ρ' Hf' H' → Ext s ρ Hf H s' ρ' Hf' H' → EnvOk K ρ' Hf' e σ → D.bk σ H'
  | .ok (.ct e) s' => ∀ σ ρ' Hf' H', WOk K s' ρ' Hf' H' → Ext s ρ Hf H s' ρ' Hf' H' → EnvOk K ρ' Hf' e σ → D.ct σ H'
  | .ok (.rt r) s' => ∀ v ρ' Hf' H', WOk K s' ρ' Hf' H' → Ext s ρ Hf H s' ρ' Hf' H' → RRep K s' ρ' Hf' H' r v → Fresh H r v → D.rt v H'
  | .no => False
theorem PostS.bind {K : PySem.W.Frag} {α : Type} {s0 s : Sto} {ρ : Rho} {Hf H : Hp} {x : M α} {f : α → M Fl} {D : Ends} (h : PostS K s0 ρ Hf H (Vm.bind x f s) D) :
    ∃ a s1, x s = .ok a s1 ∧ PostS K s0 ρ Hf H (f a s1) D := by
  unfold Vm.bind at h
  cases e : x s with
  | ok a s1 => rw [e] at h; exact ⟨a, s1, rfl, h⟩
  | no => rw [e] at h; exact False.elim h
theorem PostS.at {K : PySem.W.Frag} {s0 s1 : Sto} {ρ0 ρ1 : Rho} {Hf0 H0 Hf1 H1 : Hp} {out : Out Fl} {D : Ends} (h : PostS K s0 ρ0 Hf0 H0 out D) (x : Ext s0 ρ0 Hf0 H0 s1 ρ1 Hf1 H1) : PostS K s1 ρ1 Hf1 H1 out D := by
  cases out with
  | no => exact h
  | ok f s' => cases f with
    | nx e => exact fun σ ρ' Hf' H' w e eo => h σ ρ' Hf' H' w (x.trans e) eo
    | bk e => exact fun σ ρ' Hf' H' w e eo => h σ ρ' Hf' H' w (x.trans e) eo
    | ct e => exact fun σ ρ' Hf' H' w e eo => h σ ρ' Hf' H' w (x.trans e) eo
    | rt r => exact fun v ρ' Hf' H' w e rr fr => h v ρ' Hf' H' w (x.trans e) rr (fr.back x)
theorem PostS.mono {K : PySem.W.Frag} {s0 : Sto} {ρ0 : Rho} {Hf0 H0 : Hp} {out : Out Fl} {D D' : Ends} (h : PostS K s0 ρ0 Hf0 H0 out D) (hn : ∀ σ H, D.nx σ H → D'.nx σ H) (hb : ∀ σ H, D.bk σ H → D'.bk σ H) (hc : ∀ σ H, D.ct σ H → D'.ct σ H) (hr : ∀ v H, D.rt v H → D'.rt v H) : PostS K s0 ρ0 Hf0 H0 out D' := by
  cases out with
  | no => exact h
  | ok f s' => cases f with
    | nx e => exact fun σ ρ' Hf' H' w e eo => hn _ _ (h σ ρ' Hf' H' w e eo)
    | bk e => exact fun σ ρ' Hf' H' w e eo => hb _ _ (h σ ρ' Hf' H' w e eo)
    | ct e => exact fun σ ρ' Hf' H' w e eo => hc _ _ (h σ ρ' Hf' H' w e eo)
    | rt r => exact fun v ρ' Hf' H' w e rr fr => hr _ _ (h v ρ' Hf' H' w e rr fr)
abbrev TSv (K : PySem.W.Frag) (env : Env) (s : Sto) (out : Out Fl) : TS := fun D σ H => ∃ ρ Hf, WOk K s ρ Hf H ∧ EnvOk K ρ Hf env σ ∧ PostS K s ρ Hf H out D
def SS (X : Cx) (C : Cfg) (st : Stmt) (c : Sm) : Prop := ∀ env s, PS X st (TSv X.K env s (evS C c env s))
def SSs (X : Cx) (C : Cfg) (st : List Stmt) (c : List Sm) : Prop := ∀ env s, PSs X st (TSv X.K env s (evSs C c env s))
section
variable {X : Cx}
theorem PS.conseq {st : Stmt} {t t' : TS} (h : PS X st t) (k : ∀ D σ H, t' D σ H → t D σ H) : PS X st t' := ⟨fun pins s σ H D I q => h.run pins s σ H D I (k D σ H q)⟩
theorem PSs.conseq {st : List Stmt} {t t' : TS} (h : PSs X st t) (k : ∀ D σ H, t' D σ H → t D σ H) : PSs X st t' := ⟨fun pins s σ H D I q => h.run pins s σ H D I (k D σ H q)⟩
theorem PS.ff {st : Stmt} {t : TS} (k : ∀ D σ H, ¬ t D σ H) : PS X st t := ⟨fun _ _ σ H D _ q => (k D σ H q).elim⟩
theorem PSs.ff {st : List Stmt} {t : TS} (k : ∀ D σ H, ¬ t D σ H) : PSs X st t := ⟨fun _ _ σ H D _ q => (k D σ H q).elim⟩
end
/-- a reading of a statement by its first run -/
theorem rds_split {K : PySem.W.Frag} {α β : Type} {D : Ends} {Rel2 : Sto → Rho → Hp → Hp → Hp → α → β → Prop} {env : Env} {s : Sto} {x : M α} {f : α → M Fl} {σ : L2.St} {H : Hp} {P : β → Hp → Prop}
    (h : TSv K env s (bind x f s) D σ H)
    (k : ∀ a s1 v ρ0 Hf0 ρ1 Hf1 H1, x s = .ok a s1 → WOk K s1 ρ1 Hf1 H1 → EnvOk K ρ0 Hf0 env σ → Ext s ρ0 Hf0 H s1 ρ1 Hf1 H1 → Rel2 s1 ρ1 Hf1 H1 H a v → PostS K s ρ0 Hf0 H (f a s1) D → P v H1) : Rdg K Rel2 env s (x s) σ H P := by
  obtain ⟨ρ, Hf, w, eo, h⟩ := h
  obtain ⟨a, s1, e, h⟩ := h.bind
  refine ⟨ρ, Hf, w, eo, ?_⟩
  rw [e]
  intro v ρ1 Hf1 H1 w1 x1 r1
  exact k a s1 v ρ Hf ρ1 Hf1 H1 e w1 eo x1 r1 h
theorem TSv.ok_of {K : PySem.W.Frag} {α : Type} {D : Ends} {env : Env} {s : Sto} {x : M α} {f : α → M Fl} {σ : L2.St} {H : Hp} (h : TSv K env s (bind x f s) D σ H) : ∃ a s1, x s = .ok a s1 := by
  obtain ⟨_, _, _, _, h⟩ := h
  obtain ⟨a, s1, e, _⟩ := h.bind
  exact ⟨a, s1, e⟩
section
variable {X : Cx} {C : Cfg} {e a b t tg it : Expr} {c ca cb ct : Co} {pos : Pos} {g : Tg} {w : Wk}
theorem ss_pass : SS X C (.Pass pos) .pas := fun env s => PS.conseq ps_pass fun D σ H h => by
  obtain ⟨ρ, Hf, w, eo, h⟩ := h
  unfold evS at h
  exact h σ ρ Hf H w .refl eo
theorem ss_break : SS X C (.Break pos) .brk := fun env s => PS.conseq ps_break fun D σ H h => by
  obtain ⟨ρ, Hf, w, eo, h⟩ := h
  unfold evS at h
  exact h σ ρ Hf H w .refl eo
theorem ss_cont : SS X C (.Continue pos) .cnt := fun env s => PS.conseq ps_continue fun D σ H h => by
  obtain ⟨ρ, Hf, w, eo, h⟩ := h
  unfold evS at h
  exact h σ ρ Hf H w .refl eo
theorem ss_doc {x j pos'} : SS X C (.Expr (.Constant (.str x) j pos) pos') .pas := fun env s => PS.conseq ps_doc fun D σ H h => by
  obtain ⟨ρ, Hf, w, eo, h⟩ := h
  unfold evS at h
  exact h σ ρ Hf H w .refl eo
theorem ss_ret (h : SE X C e c) : SS X C (.Return (some e) pos) (.ret c) := fun env s => PS.conseq (ps_ret (h env s)) fun D σ H q => by
  unfold evS at q
  exact rds_split q fun r s1 v ρ0 Hf0 ρ1 Hf1 H1 e1 w1 eo x1 rr p => p v ρ1 Hf1 H1 w1 x1 rr.1 rr.2
theorem ss_retN : SS X C (.Return none pos) .retN := fun env s => PS.conseq ps_retN fun D σ H h => by
  obtain ⟨ρ, Hf, w, eo, h⟩ := h
  unfold evS at h
  exact h _ ρ Hf H w .refl (.v .non) trivial
theorem ss_expr (h : SE X C e c) (hs : swapsWith e none pos.line X.env = pure false) : SS X C (.Expr e pos) (.ex c) := fun env s => PS.conseq (ps_expr (h env s) hs) fun D σ H q => by
  unfold evS at q
  exact rds_split q fun r s1 v ρ0 Hf0 ρ1 Hf1 H1 e1 w1 eo x1 rr p => p σ ρ1 Hf1 H1 w1 x1 (eo.ext x1)
theorem sss_nil : SSs X C [] [] := fun env s => PSs.conseq pss_nil fun D σ H h => by
  obtain ⟨ρ, Hf, w, eo, h⟩ := h
  unfold evSs at h
  exact h σ ρ Hf H w .refl eo
theorem sss_cons {st : Stmt} {sts : List Stmt} {cs : Sm} {css : List Sm} (h : SS X C st cs) (hr : SSs X C sts css) : SSs X C (st :: sts) (cs :: css) := fun env s =>
  PSs.conseq (pss_cons (h env s) (PSs.ex fun p : Env × Sto => hr p.1 p.2)) fun D σ H q => by
  unfold evSs at q
  obtain ⟨ρ, Hf, w, eo, q⟩ := q
  obtain ⟨f, s1, e1, q1⟩ := q.bind
  clear q
  refine ⟨ρ, Hf, w, eo, ?_⟩
  rw [e1]
  cases f with
  | nx e' => exact fun σ' ρ' Hf' H' w' x' eo' => ⟨(e', s1), ρ', Hf', w', eo', q1.at x'⟩
  | bk e' => exact q1
  | ct e' => exact q1
  | rt r => exact q1
theorem ss_if {p q : List Stmt} {cp cq : List Sm} (ht : ST X C t ct) (hp : SSs X C p cp) (hq : SSs X C q cq) : SS X C (.If t p q pos) (.ife ct cp cq) := fun env s => by
  cases ea : evT C ct env s with
  | no =>
    refine PS.ff fun D σ H h => ?_
    unfold evS at h
    obtain ⟨a, s1, e⟩ := TSv.ok_of h
    rw [ea] at e
    cases e
  | ok k s1 =>
    refine PS.conseq (ps_if (ht env s) (hp env s1) (hq env s1)) fun D σ H h => ?_
    unfold evS at h
    refine rds_split h fun r s1' v ρ0 Hf0 ρ1 Hf1 H1 e1 w1 eo x1 rr p => ?_
    rw [ea] at e1
    cases e1
    have rr : k = v := rr
    subst rr
    cases k with
    | true => exact ⟨ρ1, Hf1, w1, eo.ext x1, p.at x1⟩
    | false => exact ⟨ρ1, Hf1, w1, eo.ext x1, p.at x1⟩
/-! ### assignments -/
/-- a name from a reading of its value -/
theorem name_run {K : PySem.W.Frag} {s0 s : Sto} {ρ0 ρ : Rho} {Hf0 H0 Hf H : Hp} {r : R} {v : V} {i : Nat} {m : Bool} {env : Env} {σ : L2.St} {D : Ends} (w : WOk K s ρ Hf H) (eo : EnvOk K ρ0 Hf0 env σ) (x0 : Ext s0 ρ0 Hf0 H0 s ρ Hf H) (rr : ReR K s ρ Hf H H0 r v)
    (p : PostS K s0 ρ0 Hf0 H0 (bind (setT C (.s i m) r env) (fun e' => ret (.nx e')) s) D) : D.nx (σ.set i (some v)) H := by
  obtain ⟨e', s1, e1, p1⟩ := p.bind
  unfold setT at e1
  obtain ⟨l, s2, e2, e3⟩ := bind_ok e1
  cases e3
  obtain ⟨ρ', Hf', w', x', vr⟩ := hold_ok w x0 rr.2 rr.1 e2
  exact p1 _ ρ' Hf' H w' x' (Paired.set (show OV K ρ' Hf' (some l) (some v) from vr) i (eo.ext x'))
theorem ss_set {i : Nat} {m : Bool} {x : Str} {px : Pos} (hN : X.N.Nodup) (hi : X.N[i]? = some x) (hx : Loc X.env.scope x) (he : SE X C e c) (hs : swapsWith e (some (.Name x px)) pos.line X.env = pure false) (hf : X.fn x = true ∨ X.env.scope.names.lookup x = some .local) :
    SS X C (.Assign [.Name x px] e pos) (.set (.s i m) c) := fun env s => PS.conseq (ps_set hN hi hx (he env s) hs hf) fun D σ H q => by
  unfold evS at q
  exact rds_split q fun r s1 v ρ0 Hf0 ρ1 Hf1 H1 e1 w1 eo x1 rr p => name_run w1 eo x1 rr p
theorem ss_setLc {i : Nat} {m : Bool} {x : Str} {px : Pos} {elt : Expr} {ifs : List Expr} {scope : Scope} {own : List (Str × Nat)} {pc : Pos} {ts : List Co} {cl : Co} (hc : X.calm = true) (hN : X.N.Nodup) (hi : X.N[i]? = some x) (hx : X.env.scope.names.lookup x = some .local)
    (hsw : swapsWith (.ListComp elt [⟨tg, it, ifs, 0⟩] scope pc) (some (.Name x px)) pos.line X.env = pure true) (hit : SI X C tg it w) (ok : BlkOk X.N X.env.scope scope own)
    (hv1 : ∀ i ∈ own.map (·.2), i ∈ slots [g]) (hv2 : ∀ i ∈ slots [g], i ∈ own.map (·.2))
    (hg : ∀ (s : Shared) (H : Hp) (C : Addr) (cl : List (Str × Addr)) (fp : List Addr), PG (X.blk s H scope (compEnvC scope cl C X.env) fp) tg (tgOf X.K g))
    (ht : ∀ (s : Shared) (H : Hp) (D : Addr) (cl : List (Str × Addr)) (fp : List Addr), SQ (X.blk s H scope (compEnvC scope cl D X.env) fp) C ifs ts)
    (he : ∀ (s : Shared) (H : Hp) (D : Addr) (cl' : List (Str × Addr)) (fp : List Addr), SE (X.blk s H scope (compEnvC scope cl' D X.env) fp) C elt cl) (hs : ∀ x, foldedSetIterable it X.env x = pure x) :
    SS X C (.Assign [.Name x px] (.ListComp elt [⟨tg, it, ifs, 0⟩] scope pc) pos) (.set (.s i m) (.lc g w ts cl)) := fun env s =>
  PS.conseq (ps_setLc hc hN hi hx hsw (hit env s) ok hg (fun s H D cl' fp => PTs.ex fun p : Env × Sto => ht s H D cl' fp p.1 p.2) (fun s H D cl' fp => PE.ex fun p : Env × Sto => he s H D cl' fp p.1 p.2) hs) fun D σ H q => by
  unfold evS at q
  refine lc_run hv1 hv2 (rds_split q fun r s1 v ρ0 Hf0 ρ1 Hf1 H1 e1 w1 eo x1 rr p => ?_)
  exact name_run (D := D) w1 eo x1 rr p
theorem se_lc {elt : Expr} {ifs : List Expr} {scope : Scope} {own : List (Str × Nat)} {pc : Pos} {ts : List Co} {cl : Co} (hc : X.calm = true) (hN : X.N.Nodup) (hit : SI X C tg it w) (ok : BlkOk X.N X.env.scope scope own)
    (hv1 : ∀ i ∈ own.map (·.2), i ∈ slots [g]) (hv2 : ∀ i ∈ slots [g], i ∈ own.map (·.2))
    (hg : ∀ (s : Shared) (H : Hp) (C : Addr) (cl : List (Str × Addr)) (fp : List Addr), PG (X.blk s H scope (compEnvC scope cl C X.env) fp) tg (tgOf X.K g))
    (ht : ∀ (s : Shared) (H : Hp) (D : Addr) (cl : List (Str × Addr)) (fp : List Addr), SQ (X.blk s H scope (compEnvC scope cl D X.env) fp) C ifs ts)
    (he : ∀ (s : Shared) (H : Hp) (D : Addr) (cl' : List (Str × Addr)) (fp : List Addr), SE (X.blk s H scope (compEnvC scope cl' D X.env) fp) C elt cl) (hs : ∀ x, foldedSetIterable it X.env x = pure x) :
    SE X C (.ListComp elt [⟨tg, it, ifs, 0⟩] scope pc) (.lc g w ts cl) := fun env s =>
  PE.conseq (pe_lc hc hN (hit env s) ok hg (fun s H D cl' fp => PTs.ex fun p : Env × Sto => ht s H D cl' fp p.1 p.2) (fun s H D cl' fp => PE.ex fun p : Env × Sto => he s H D cl' fp p.1 p.2) hs) fun σ H Q q => lc_run hv1 hv2 q
section
variable {tg1 it1 : Expr} {g1 : Tg} {w1 : Wk}
theorem se_lc2 {elt : Expr} {ifs ifs1 : List Expr} {scope : Scope} {own : List (Str × Nat)} {pc : Pos} {ts ts1 : List Co} {cl : Co} (hc : X.calm = true) (hN : X.N.Nodup) (hit : SI X C tg it w) (ok : BlkOk X.N X.env.scope scope own)
    (hv : ∀ i ∈ own.map (·.2), i ∈ slots [g] ∨ i ∈ slots [g1]) (hv2 : ∀ i ∈ slots [g], i ∈ own.map (·.2)) (hv3 : ∀ i ∈ slots [g1], i ∈ own.map (·.2))
    (hg : ∀ (s : Shared) (H : Hp) (C : Addr) (cl : List (Str × Addr)) (fp : List Addr), PG (X.blk s H scope (compEnvC scope cl C X.env) fp) tg (tgOf X.K g))
    (ht : ∀ (s : Shared) (H : Hp) (D : Addr) (cl : List (Str × Addr)) (fp : List Addr), SQ (X.blk s H scope (compEnvC scope cl D X.env) fp) C ifs ts)
    (hi1 : ∀ (s : Shared) (H : Hp) (D : Addr) (cl : List (Str × Addr)) (fp : List Addr), SI (X.blk s H scope (compEnvC scope cl D X.env) fp) C tg1 it1 w1)
    (hg1 : ∀ (s : Shared) (H : Hp) (C : Addr) (cl : List (Str × Addr)) (fp : List Addr), PG (X.blk s H scope (compEnvC scope cl C X.env) fp) tg1 (tgOf X.K g1))
    (ht1 : ∀ (s : Shared) (H : Hp) (D : Addr) (cl : List (Str × Addr)) (fp : List Addr), SQ (X.blk s H scope (compEnvC scope cl D X.env) fp) C ifs1 ts1)
    (he : ∀ (s : Shared) (H : Hp) (D : Addr) (cl' : List (Str × Addr)) (fp : List Addr), SE (X.blk s H scope (compEnvC scope cl' D X.env) fp) C elt cl) (hs : ∀ x, foldedSetIterable it X.env x = pure x) (hs1 : ∀ env x, foldedSetIterable it1 env x = pure x) :
    SE X C (.ListComp elt [⟨tg, it, ifs, 0⟩, ⟨tg1, it1, ifs1, 0⟩] scope pc) (.lc2 g w ts g1 w1 ts1 cl) := fun env s =>
  PE.conseq (pe_lc2 hc hN (hit env s) ok hv3 hg (fun s H D cl' fp => PTs.ex fun p : Env × Sto => ht s H D cl' fp p.1 p.2) (fun s H D cl' fp => PI.ex fun p : Env × Sto => hi1 s H D cl' fp p.1 p.2) hg1
    (fun s H D cl' fp => PTs.ex fun p : Env × Sto => ht1 s H D cl' fp p.1 p.2) (fun s H D cl' fp => PE.ex fun p : Env × Sto => he s H D cl' fp p.1 p.2) hs hs1) fun σ H Q q => lc2_run hv hv2 q
theorem ss_setLc2 {i : Nat} {m : Bool} {x : Str} {px : Pos} {elt : Expr} {ifs ifs1 : List Expr} {scope : Scope} {own : List (Str × Nat)} {pc : Pos} {ts ts1 : List Co} {cl : Co} (hc : X.calm = true) (hN : X.N.Nodup) (hi : X.N[i]? = some x) (hx : X.env.scope.names.lookup x = some .local)
    (hsw : swapsWith (.ListComp elt [⟨tg, it, ifs, 0⟩, ⟨tg1, it1, ifs1, 0⟩] scope pc) (some (.Name x px)) pos.line X.env = pure true) (hit : SI X C tg it w) (ok : BlkOk X.N X.env.scope scope own)
    (hv : ∀ i ∈ own.map (·.2), i ∈ slots [g] ∨ i ∈ slots [g1]) (hv2 : ∀ i ∈ slots [g], i ∈ own.map (·.2)) (hv3 : ∀ i ∈ slots [g1], i ∈ own.map (·.2))
    (hg : ∀ (s : Shared) (H : Hp) (C : Addr) (cl : List (Str × Addr)) (fp : List Addr), PG (X.blk s H scope (compEnvC scope cl C X.env) fp) tg (tgOf X.K g))
    (ht : ∀ (s : Shared) (H : Hp) (D : Addr) (cl : List (Str × Addr)) (fp : List Addr), SQ (X.blk s H scope (compEnvC scope cl D X.env) fp) C ifs ts)
    (hi1 : ∀ (s : Shared) (H : Hp) (D : Addr) (cl : List (Str × Addr)) (fp : List Addr), SI (X.blk s H scope (compEnvC scope cl D X.env) fp) C tg1 it1 w1)
    (hg1 : ∀ (s : Shared) (H : Hp) (C : Addr) (cl : List (Str × Addr)) (fp : List Addr), PG (X.blk s H scope (compEnvC scope cl C X.env) fp) tg1 (tgOf X.K g1))
    (ht1 : ∀ (s : Shared) (H : Hp) (D : Addr) (cl : List (Str × Addr)) (fp : List Addr), SQ (X.blk s H scope (compEnvC scope cl D X.env) fp) C ifs1 ts1)
    (he : ∀ (s : Shared) (H : Hp) (D : Addr) (cl' : List (Str × Addr)) (fp : List Addr), SE (X.blk s H scope (compEnvC scope cl' D X.env) fp) C elt cl) (hs : ∀ x, foldedSetIterable it X.env x = pure x) (hs1 : ∀ env x, foldedSetIterable it1 env x = pure x) :
    SS X C (.Assign [.Name x px] (.ListComp elt [⟨tg, it, ifs, 0⟩, ⟨tg1, it1, ifs1, 0⟩] scope pc) pos) (.set (.s i m) (.lc2 g w ts g1 w1 ts1 cl)) := fun env s =>
  PS.conseq (ps_setLc2 hc hN hi hx hsw (hit env s) ok hv3 hg (fun s H D cl' fp => PTs.ex fun p : Env × Sto => ht s H D cl' fp p.1 p.2) (fun s H D cl' fp => PI.ex fun p : Env × Sto => hi1 s H D cl' fp p.1 p.2) hg1
    (fun s H D cl' fp => PTs.ex fun p : Env × Sto => ht1 s H D cl' fp p.1 p.2) (fun s H D cl' fp => PE.ex fun p : Env × Sto => he s H D cl' fp p.1 p.2) hs hs1) fun D σ H q => by
  unfold evS at q
  refine lc2_run hv hv2 (rds_split q fun r s1 v ρ0 Hf0 ρ1 Hf1 H1 e1 w1 eo x1 rr p => ?_)
  exact name_run (D := D) w1 eo x1 rr p
end
/-- (a, b, ..) = value -/
theorem ss_tup {gs : List Tg} (he : SE X C e c) (hg : PG X tg (tgOf X.K (.t gs))) (hs : swapsWithSole [tg] e pos.line X.env = pure false) (hw : swappedStores [tg] e X.env = pure none) (h1 : (assignEach [tg] X.env).map (·.2) = [assign tg X.env]) :
    SS X C (.Assign [tg] e pos) (.set (.t gs) c) := fun env s => PS.conseq (ps_asg (he env s) hg hs hw h1) fun D σ H q => by
  unfold evS at q
  refine rds_split q fun r s1 v ρ0 Hf0 ρ1 Hf1 H1 e1 w1 eo x1 rr p => ?_
  obtain ⟨e', s2, e2, p1⟩ := p.bind
  clear p
  unfold setT at e2
  obtain ⟨d, s3, e3, e4⟩ := bind_ok e2
  obtain ⟨v3, z, ng⟩ := lookP_ok e3
  subst z
  obtain ⟨e5, z⟩ := ofO_ok e4
  subst z
  rcases rr.1.partsN w1 v3 ng with q | ⟨a, u, q1, q2, q3⟩
  · exact tg_run e5 w1 q (eo.ext x1) fun σ' eo' _ => p1 _ ρ1 Hf1 H1 w1 x1 eo'
  · exfalso
    rcases bindN_inv e5 with ⟨e1, _, _⟩ | ⟨i, m, gs', d', ds', e1, _⟩ | ⟨hs, gs', cs, ds', a1, e2, e3, _⟩
    · cases e1
    · cases e1
    · cases e3
      cases q3
/-- o[i] = d, from a run -/
theorem setX_run {K : PySem.W.Frag} {s0 s : Sto} {ρ0 ρ : Rho} {Hf0 H0 Hf H : Hp} {co ci : Co} {d : PyData} {v : V} {env : Env} {σ : L2.St} {s7 : Sto} {Q : L2.St → Hp → Prop} (w1 : WOk K s ρ Hf H) (eo : EnvOk K ρ0 Hf0 env σ) (x0 : Ext s0 ρ0 Hf0 H0 s ρ Hf H) (rd : Rep K Hf v d)
    (e2 : setX C co ci d env s = .ok () s7) (k : ∀ ρ' Hf' H', WOk K s7 ρ' Hf' H' → Ext s0 ρ0 Hf0 H0 s7 ρ' Hf' H' → Ext s ρ Hf H s7 ρ' Hf' H' → EnvOk K ρ' Hf' env σ → Q σ H') :
    gSub (teX K C co) (teX K C ci) rSetL v σ H Q := by
  unfold setX at e2
  obtain ⟨ro, s4, e5, e6⟩ := bind_ok e2
  clear e2
  obtain ⟨ri, s5, e7, e8⟩ := bind_ok e6
  clear e6
  obtain ⟨kk, s6, e9, e11⟩ := bind_ok e8
  clear e8
  obtain ⟨v9, z⟩ := look_ok e9
  subst z
  refine ⟨(env, s), ρ, Hf, w1, eo.ext x0, ?_⟩
  show Post K s ρ Hf H (ReR K) (evE C co env s) _
  rw [e5]
  intro xo ρ4 Hf4 H4 w4 x4 rro
  refine ⟨(env, s4), ρ4, Hf4, w4, (eo.ext x0).ext x4, ?_⟩
  show Post K s4 ρ4 Hf4 H4 (ReR K) (evE C ci env s4) _
  rw [e7]
  intro xi ρ5 Hf5 H5 w5 x5 rri
  have rro5 := rro.1.ext x5
  have x05 := (x0.trans x4).trans x5
  have rd5 := (rd.mono x4.fz).mono x5.fz
  cases ro with
  | v d => cases e11
  | n d => cases e11
  | g d => cases e11
  | p n =>
    have e11' : (match s6[n]? with
      | some (.fl d0) => (match (match d0, kk with
        | .list xs, .int j => (match ixN xs.length j with
          | some n => some (PyData.list (xs.set n d))
          | none => none)
        | _, _ => none) with
        | some e => Out.ok () (s6.set n (.fl e))
        | none => .no)
      | _ => .no) = .ok () s7 := e11
    clear e11
    cases q : s6[n]? with
    | none => rw [q] at e11'; cases e11'
    | some ob =>
      cases ob with
      | dead => rw [q] at e11'; cases e11'
      | lk d' => rw [q] at e11'; cases e11'
      | fl d' =>
        rw [q] at e11'
        cases d' <;> first | (cases e11'; done) | skip
        rename_i xs
        cases kk <;> first | (cases e11'; done) | skip
        rename_i j
        have e12 : (match (match ixN xs.length j with
          | some n => some (PyData.list (xs.set n d))
          | none => none) with
          | some e => Out.ok () (s6.set n (.fl e))
          | none => .no) = .ok () s7 := e11'
        clear e11'
        cases qi : ixN xs.length j with
        | none => rw [qi] at e12; cases e12
        | some m =>
          rw [qi] at e12
          cases e12
          have l : live s6 n (.list xs) := ⟨_, q, rfl⟩
          cases rro5 with
          | @p _ a ha =>
            obtain ⟨a', u', h1, h2, h3, h4⟩ := w5.at_ n _ l
            rw [ha] at h1
            cases h1
            cases h4 with
            | @lst vs _ rl =>
              have zi := rri.1.int w5 v9
              subst zi
              refine ⟨a, vs, j, m, rfl, rfl, h2, by rw [rl.length]; exact qi, ?_⟩
              have wn := w5.set l ha (o := .fl (.list (xs.set m d))) (u' := .lst (vs.set m v)) fun e he => by
                cases he
                exact .lst (rl.set rd5 m)
              have xs' := Ext.set (o := .fl (.list (xs.set m d))) (u' := .lst (vs.set m v)) w5 l ha
              exact k ρ5 Hf5 _ wn (x05.trans xs') ((x4.trans x5).trans xs') (eo.ext (x05.trans xs'))
/-- how a part is stored -/
abbrev ItemAsg (X : Cx) (o i : Expr) (po : Pos) : Prop := ∀ v, assign (.Subscript o i po) X.env v = (do
      let ov ← holding [v] (eval o X.env)
      let iv ← holding [v, ov] (eval i X.env)
      standAt po
      holding [v, ov, iv] (setItem ov iv v)
      release [v, ov, iv] [])
/-- an object's item -/
theorem ss_item {o i : Expr} {co ci : Co} {po : Pos} (he : SE X C e c) (ho : SE X C o co) (hi : SE X C i ci) (hs : swapsWithSole [.Subscript o i po] e pos.line X.env = pure false) (hw : swappedStores [.Subscript o i po] e X.env = pure none)
    (h1 : (assignEach [.Subscript o i po] X.env).map (·.2) = [assign (.Subscript o i po) X.env])
    (ha : ItemAsg X o i po) : SS X C (.Assign [.Subscript o i po] e pos) (.set (.x co ci) c) := fun env s =>
  PS.conseq (ps_asg (he env s) (pg_sub (PE.ex fun p : Env × Sto => ho p.1 p.2) (PE.ex fun p : Env × Sto => hi p.1 p.2) set_list ha) hs hw h1) fun D σ H q => by
  unfold evS at q
  refine rds_split q fun r s1 v ρ0 Hf0 ρ1 Hf1 H1 e1 w1 eo x1 rr p => ?_
  obtain ⟨e', s2, e2, p1⟩ := p.bind
  clear p
  unfold setT at e2
  obtain ⟨d, s3, e3, e4⟩ := bind_ok e2
  clear e2
  obtain ⟨u, s7, e5, e6⟩ := bind_ok e4
  cases e6
  obtain ⟨Hf2, w2, x2, rd⟩ := take_ok w1 x1 rr.2 rr.1 e3
  exact setX_run w2 eo x2 rd e5 fun ρ' Hf' H' w' x' _ eo' => p1 σ ρ' Hf' H' w' x' eo'
/-! ### targets one behind another -/
/-- targets as they are stored, from a run -/
def gRun (K : PySem.W.Frag) (C : Cfg) (gs : List Tg) : TGs := fun xs σ H Q => ∃ ds e s ρ0 Hf0 H0 s0 ρ Hf, WOk K s ρ Hf H ∧ EnvOk K ρ Hf e σ ∧ Ext s0 ρ0 Hf0 H0 s ρ Hf H ∧ Reps K Hf xs ds ∧ (match setTs C gs ds e s with
  | .ok e' s' => ∀ σ' ρ' Hf' H', WOk K s' ρ' Hf' H' → Ext s0 ρ0 Hf0 H0 s' ρ' Hf' H' → EnvOk K ρ' Hf' e' σ' → Q σ' H'
  | .no => False)
theorem PGs.conseq {es : List Expr} {t t' : TGs} (h : PGs X es t) (k : ∀ xs σ H Q, t' xs σ H Q → t xs σ H Q) : PGs X es t' := ⟨fun pins s σ H vs us Q I r q => h.run pins s σ H vs us Q I r (k vs σ H Q q)⟩
theorem gs_nil : PGs X [] (gRun X.K C []) := PGs.conseq pgs_nil fun xs σ H Q h => by
  obtain ⟨ds, e, s, ρ0, Hf0, H0, s0, ρ, Hf, w, eo, x0, r, h⟩ := h
  cases r with
  | cons _ _ => unfold setTs at h; exact h.elim
  | nil =>
    unfold setTs at h
    exact ⟨rfl, h σ ρ Hf H w x0 eo⟩
theorem gs_name {i : Nat} {m : Bool} {es : List Expr} {x : Str} {px : Pos} {gs : List Tg} (hg : PG X (.Name x px) (gName i)) (hr : PGs X es (gRun X.K C gs)) (hs : (assignEach (.Name x px :: es) X.env).map (·.2) = assign (.Name x px) X.env :: (assignEach es X.env).map (·.2)) : PGs X (.Name x px :: es) (gRun X.K C (.s i m :: gs)) := PGs.conseq (pgs_cons hg hr hs) fun xs σ H Q h => by
  obtain ⟨ds, e, s, ρ0, Hf0, H0, s0, ρ, Hf, w, eo, x0, r, h⟩ := h
  cases r with
  | nil => unfold setTs at h; exact h.elim
  | @cons v vs d ds rv rr =>
    unfold setTs at h
    exact ⟨v, vs, rfl, ds, _, s, ρ0, Hf0, H0, s0, ρ, Hf, w, Paired.set (show OV X.K ρ Hf (some (.v d)) (some v) from VRep.v rv) i eo, x0, rr, h⟩
theorem gs_item {o i : Expr} {co ci : Co} {es : List Expr} {po : Pos} {gs : List Tg} (ho : SE X C o co) (hi : SE X C i ci) (ha : ItemAsg X o i po) (hr : PGs X es (gRun X.K C gs)) (hs : (assignEach (.Subscript o i po :: es) X.env).map (·.2) = assign (.Subscript o i po) X.env :: (assignEach es X.env).map (·.2)) :
    PGs X (.Subscript o i po :: es) (gRun X.K C (.x co ci :: gs)) := PGs.conseq (pgs_cons (pg_sub (PE.ex fun p : Env × Sto => ho p.1 p.2) (PE.ex fun p : Env × Sto => hi p.1 p.2) set_list ha) hr hs) fun xs σ H Q h => by
  obtain ⟨ds, e, s, ρ0, Hf0, H0, s0, ρ, Hf, w, eo, x0, r, h⟩ := h
  cases r with
  | nil => unfold setTs at h; exact h.elim
  | @cons v vs d ds rv rr =>
    unfold setTs at h
    unfold bind at h
    cases q : setX C co ci d e s with
    | no => rw [q] at h; exact h.elim
    | ok u s7 =>
      rw [q] at h
      refine ⟨v, vs, rfl, setX_run w eo Ext.refl rv q fun ρ' Hf' H' w' x' _ eo' => ?_⟩
      exact ⟨ds, e, s7, ρ0, Hf0, H0, s0, ρ', Hf', w', eo', x0.trans x', rr.mono x'.fz, h⟩
theorem setTs_len : ∀ {gs : List Tg} {ds : List PyData} {e : Env} {s s' : Sto} {e' : Env}, setTs C gs ds e s = .ok e' s' → ds.length = gs.length
  | [], [], _, _, _, _, _ => rfl
  | [], _ :: _, _, _, _, _, h => by unfold setTs at h; cases h
  | g :: gs, [], _, _, _, _, h => by cases g <;> · unfold setTs at h; cases h
  | .s i m :: gs, d :: ds, _, _, _, _, h => by
    unfold setTs at h
    rw [List.length_cons, List.length_cons, setTs_len h]
  | .x o i :: gs, d :: ds, _, _, _, _, h => by
    unfold setTs at h
    obtain ⟨u, s1, _, h1⟩ := bind_ok h
    rw [List.length_cons, List.length_cons, setTs_len h1]
  | .t hs :: gs, d :: ds, _, _, _, _, h => by unfold setTs at h; cases h
theorem ss_unp {es : List Expr} {gs : List Tg} {kt : Nat} {pt : Pos} (he : SE X C e c) (hc : X.calm = true) (hg : PGs X es (gRun X.K C gs)) (hn : (assignEach es X.env).length = gs.length) (hst : (assignEach es X.env).findIdx? (·.1) = none)
    (hs : swapsWithSole [.Tuple es kt pt] e pos.line X.env = pure false) (hw : swappedStores [.Tuple es kt pt] e X.env = pure none) (h1 : (assignEach [.Tuple es kt pt] X.env).map (·.2) = [assign (.Tuple es kt pt) X.env]) :
    SS X C (.Assign [.Tuple es kt pt] e pos) (.unp gs c) := fun env s => PS.conseq (ps_asg (he env s) (pg_tup hc hg hn hst) hs hw h1) fun D σ H q => by
  unfold evS at q
  refine rds_split q fun r s1 v ρ0 Hf0 ρ1 Hf1 H1 e1 w1 eo x1 rr p => ?_
  obtain ⟨d, s3, e3, p1⟩ := p.bind
  clear p
  obtain ⟨v3, z, ng⟩ := lookP_ok e3
  subst z
  cases d <;> first | exact p1.elim | skip
  rename_i ds
  have p1 : PostS X.K s ρ0 Hf0 H (bind (setTs C gs ds env) (fun e' => ret (.nx e')) s3) D := p1
  obtain ⟨e', s4, e4, p2⟩ := p1.bind
  clear p1
  obtain ⟨a, xs, rfl, h1, h2⟩ := rr.1.tup w1 v3
  refine ⟨a, xs, rfl, h1, by rw [h2.length]; exact setTs_len e4, ds, env, s3, ρ0, Hf0, H, s, ρ1, Hf1, w1, eo.ext x1, x1, h2, ?_⟩
  rw [e4]
  exact fun σ' ρ' Hf' H' w' x' eo' => p2 σ' ρ' Hf' H' w' x' eo'
end
end Vm

set_option Elab.async false
set_option linter.all false
set_option maxRecDepth 100000
set_option maxHeartbeats 4000000
/-! Vm: soundness, part 14: op=, pairs, loops, append. -/
namespace Vm
open PySem PySem.Spec PyProof.Rows L2
section
variable {X : Cx} {C : Cfg} {e a b t tg it : Expr} {c ca cb cc ct : Co} {pos : Pos} {g : Tg} {w : Wk}
/-- name op= an int -/
theorem ss_aug {i : Nat} {x : Str} {px : Pos} {op : Operator} {o : Bo} {f : Int → Int → Int} (hN : X.N.Nodup) (hi : X.N[i]? = some x) (hx : Loc X.env.scope x) (ho : PIp X op (ipI f)) (hb : ∀ i j, binD o (.int i) (.int j) = some (.v (.int (f i j)))) (he : SE X C e c) (hf : X.fn x = true ∨ X.env.scope.names.lookup x = some .local) :
    SS X C (.AugAssign (.Name x px) op e pos) (.aug i o c) := fun env s => PS.conseq (ps_aug hN hi hx (he env s) ho hf) fun D σ H q => by
  unfold evS at q
  obtain ⟨ρ, Hf, w, eo, q⟩ := q
  obtain ⟨r0, s0, e0, q1⟩ := q.bind
  clear q
  have v0 : s0 = s ∧ ∃ v, σ[i]? = some (some v) ∧ RRep X.K s ρ Hf H r0 v := by
    unfold getV at e0
    cases z : env[i]? with
    | none => rw [z] at e0; cases e0
    | some o =>
      cases o with
      | none => rw [z] at e0; cases e0
      | some l =>
        obtain ⟨y, h1, h2⟩ := Paired.get eo z
        cases y with
        | none => exact h2.elim
        | some y =>
          cases l with
          | v d =>
            rw [z] at e0
            cases e0
            cases h2 with
            | v r => exact ⟨rfl, y, h1, .v r⟩
          | p k =>
            rw [z] at e0
            cases e0
            cases h2 with
            | p r => exact ⟨rfl, _, h1, .p r⟩
          | g d =>
            rw [z] at e0
            cases e0
            cases h2 with
            | g r => exact ⟨rfl, y, h1, .g r⟩
  obtain ⟨z, v, hv, rr0⟩ := v0
  subst z
  obtain ⟨r1, s1, e1, q2⟩ := q1.bind
  clear q1
  refine ⟨v, hv, ρ, Hf, w, eo, ?_⟩
  rw [e1]
  intro y ρ1 Hf1 H1 w1 x1 rr
  obtain ⟨d, s2, e2, q3⟩ := q2.bind
  clear q2
  obtain ⟨v2, z⟩ := look_ok e2
  subst z
  obtain ⟨d2, s3, e3, q4⟩ := q3.bind
  clear q3
  obtain ⟨v3, z⟩ := look_ok e3
  subst z
  cases d <;> first | exact q4.elim | skip
  cases d2 <;> first | exact q4.elim | skip
  rename_i k j
  have q5 : PostS X.K s0 ρ Hf H (bind (ofO (binD o (.int k) (.int j))) (fun r => match r with
    | .v d => ret (.nx (env.set i (some (.v d))))
    | _ => stuck) s3) D := q4
  rw [hb] at q5
  refine ⟨k, j, (rr0.ext x1).int w1 v2, rr.1.int w1 v3, ?_⟩
  exact q5 _ ρ1 Hf1 H1 w1 x1 (Paired.set (show OV X.K ρ1 Hf1 (some (.v (.int _))) (some (.int _)) from VRep.v (.int _)) i (eo.ext x1))
/-! ### pairs -/
theorem par2_run {K : PySem.W.Frag} {env : Env} {s : Sto} {σ : L2.St} {H : Hp} {D : Ends} {i j : Nat} {mi mj : Bool} {cs : List Co} (h : TSv K env s (evS C (.par [(i, mi), (j, mj)] cs) env s) D σ H) (P : List V → Hp → Prop)
    (k : ∀ v w s1 ρ0 Hf0 ρ1 Hf1 H1, WOk K s1 ρ1 Hf1 H1 → Ext s ρ0 Hf0 H s1 ρ1 Hf1 H1 → (∀ H2, WOk K s1 ρ1 Hf1 H2 → Ext s ρ0 Hf0 H s1 ρ1 Hf1 H2 → D.nx ((σ.set i (some v)).set j (some w)) H2) → P [v, w] H1) : Rdg K (ReAs K) env s (evAs C cs [mi, mj] env s) σ H P := by
  unfold evS at h
  refine rds_split h fun ls s1 vs ρ0 Hf0 ρ1 Hf1 H1 e1 w1 eo x1 rr p => ?_
  obtain ⟨e', s2, e2, p1⟩ := p.bind
  clear p
  obtain ⟨e3, z⟩ := ofO_ok e2
  subst z
  have ra : Paired (VRep K ρ1 Hf1) ls vs := rr
  clear rr
  cases ra with
  | nil => cases e3
  | cons r1 rb =>
    cases rb with
    | nil => cases e3
    | cons r2 rc =>
      cases rc with
      | cons _ _ => cases e3
      | nil =>
        cases e3
        refine k _ _ _ ρ0 Hf0 ρ1 Hf1 H1 w1 x1 fun H2 w2 x2 => p1 _ ρ1 Hf1 H2 w2 x2 ?_
        exact Paired.set (show OV K ρ1 Hf1 (some _) (some _) from r2) j (Paired.set (show OV K ρ1 Hf1 (some _) (some _) from r1) i (eo.ext x2))
theorem par3_run {K : PySem.W.Frag} {env : Env} {s : Sto} {σ : L2.St} {H : Hp} {D : Ends} {i j l : Nat} {mi mj ml : Bool} {cs : List Co} (h : TSv K env s (evS C (.par [(i, mi), (j, mj), (l, ml)] cs) env s) D σ H) (P : List V → Hp → Prop)
    (k : ∀ v w u s1 ρ0 Hf0 ρ1 Hf1 H1, WOk K s1 ρ1 Hf1 H1 → Ext s ρ0 Hf0 H s1 ρ1 Hf1 H1 → (∀ H2, WOk K s1 ρ1 Hf1 H2 → Ext s ρ0 Hf0 H s1 ρ1 Hf1 H2 → D.nx (((σ.set i (some v)).set j (some w)).set l (some u)) H2) → P [v, w, u] H1) : Rdg K (ReAs K) env s (evAs C cs [mi, mj, ml] env s) σ H P := by
  unfold evS at h
  refine rds_split h fun ls s1 vs ρ0 Hf0 ρ1 Hf1 H1 e1 w1 eo x1 rr p => ?_
  obtain ⟨e', s2, e2, p1⟩ := p.bind
  clear p
  obtain ⟨e3, z⟩ := ofO_ok e2
  subst z
  have ra : Paired (VRep K ρ1 Hf1) ls vs := rr
  clear rr
  cases ra with
  | nil => cases e3
  | cons r1 rb =>
    cases rb with
    | nil => cases e3
    | cons r2 rc =>
      cases rc with
      | nil => cases e3
      | cons r3 rd =>
        cases rd with
        | cons _ _ => cases e3
        | nil =>
          cases e3
          refine k _ _ _ _ ρ0 Hf0 ρ1 Hf1 H1 w1 x1 fun H2 w2 x2 => p1 _ ρ1 Hf1 H2 w2 x2 ?_
          exact Paired.set (show OV K ρ1 Hf1 (some _) (some _) from r3) l (Paired.set (show OV K ρ1 Hf1 (some _) (some _) from r2) j (Paired.set (show OV K ρ1 Hf1 (some _) (some _) from r1) i (eo.ext x2)))
section
variable {i j l : Nat} {x y z : Str} {px py pz pt pt2 : Pos} {kt k2 : Nat} {mi mj ml : Bool} {cs : List Co}
theorem ss_par2 (hc : X.calm = true) (hN : X.N.Nodup) (hi : X.N[i]? = some x) (hj : X.N[j]? = some y) (hij : i ≠ j) (hx : X.env.scope.names.lookup x = some .local) (hy : X.env.scope.names.lookup y = some .local) (ha : SAs X C [a, b] cs)
    (hw : swappedStores [.Tuple [.Name x px, .Name y py] kt pt] (.Tuple [a, b] k2 pt2) X.env = pure (some [x, y])) : SS X C (.Assign [.Tuple [.Name x px, .Name y py] kt pt] (.Tuple [a, b] k2 pt2) pos) (.par [(i, mi), (j, mj)] cs) := fun env s =>
  PS.conseq (ps_par hc hN hi hj hij hx hy (ha [mi, mj] env s) hw) fun D σ H q =>
    par2_run q _ fun v w s1 ρ0 Hf0 ρ1 Hf1 H1 w1 x1 k => ⟨v, w, rfl, k H1 w1 x1⟩
theorem ss_par3 (hc : X.calm = true) (hN : X.N.Nodup) (hi : X.N[i]? = some x) (hj : X.N[j]? = some y) (hl : X.N[l]? = some z) (hij : i ≠ j) (hil : i ≠ l) (hjl : j ≠ l) (hx : X.env.scope.names.lookup x = some .local) (hy : X.env.scope.names.lookup y = some .local) (hz : X.env.scope.names.lookup z = some .local) (ha : SAs X C [a, b, e] cs)
    (hw : swappedStores [.Tuple [.Name x px, .Name y py, .Name z pz] kt pt] (.Tuple [a, b, e] k2 pt2) X.env = pure (some [x, y, z])) : SS X C (.Assign [.Tuple [.Name x px, .Name y py, .Name z pz] kt pt] (.Tuple [a, b, e] k2 pt2) pos) (.par [(i, mi), (j, mj), (l, ml)] cs) := fun env s =>
  PS.conseq (ps_par3 hc hN hi hj hl hij hil hjl hx hy hz (ha [mi, mj, ml] env s) hw) fun D σ H q =>
    par3_run q _ fun v w u s1 ρ0 Hf0 ρ1 Hf1 H1 w1 x1 k => ⟨v, w, u, rfl, k H1 w1 x1⟩
/-- through a real tuple -/
theorem ss_par2T (hg : PG X (.Tuple [.Name x px, .Name y py] kt pt) (gTup X.K 2 (gCons (gName i) (gCons (gName j) gNil)))) (ha : SAs X C [a, b] cs)
    (hs : swapsWithSole [.Tuple [.Name x px, .Name y py] kt pt] (.Tuple [a, b] k2 pt2) pos.line X.env = pure false) (hw : swappedStores [.Tuple [.Name x px, .Name y py] kt pt] (.Tuple [a, b] k2 pt2) X.env = pure none)
    (h1 : (assignEach [.Tuple [.Name x px, .Name y py] kt pt] X.env).map (·.2) = [assign (.Tuple [.Name x px, .Name y py] kt pt) X.env]) : SS X C (.Assign [.Tuple [.Name x px, .Name y py] kt pt] (.Tuple [a, b] k2 pt2) pos) (.par [(i, mi), (j, mj)] cs) := fun env s =>
  PS.conseq (ps_asg (pe_tup (ha [mi, mj] env s)) hg hs hw h1) fun D σ H q =>
    par2_run q _ fun v w s1 ρ0 Hf0 ρ1 Hf1 H1 w1 x1 k => ⟨by show 2 ≤ sizeLine; decide, fun p hp => ⟨p, [v, w], rfl, .of upd_same, rfl, v, [w], rfl, w, [], rfl, rfl, k _ (w1.new hp) (x1.trans (.new w1 hp))⟩⟩
theorem ss_par3T (hg : PG X (.Tuple [.Name x px, .Name y py, .Name z pz] kt pt) (gTup X.K 3 (gCons (gName i) (gCons (gName j) (gCons (gName l) gNil))))) (ha : SAs X C [a, b, e] cs)
    (hs : swapsWithSole [.Tuple [.Name x px, .Name y py, .Name z pz] kt pt] (.Tuple [a, b, e] k2 pt2) pos.line X.env = pure false) (hw : swappedStores [.Tuple [.Name x px, .Name y py, .Name z pz] kt pt] (.Tuple [a, b, e] k2 pt2) X.env = pure none)
    (h1 : (assignEach [.Tuple [.Name x px, .Name y py, .Name z pz] kt pt] X.env).map (·.2) = [assign (.Tuple [.Name x px, .Name y py, .Name z pz] kt pt) X.env]) : SS X C (.Assign [.Tuple [.Name x px, .Name y py, .Name z pz] kt pt] (.Tuple [a, b, e] k2 pt2) pos) (.par [(i, mi), (j, mj), (l, ml)] cs) := fun env s =>
  PS.conseq (ps_asg (pe_tup (ha [mi, mj, ml] env s)) hg hs hw h1) fun D σ H q =>
    par3_run q _ fun v w u s1 ρ0 Hf0 ρ1 Hf1 H1 w1 x1 k => ⟨by show 3 ≤ sizeLine; decide, fun p hp => ⟨p, [v, w, u], rfl, .of upd_same, rfl, v, [w, u], rfl, w, [u], rfl, u, [], rfl, rfl, k _ (w1.new hp) (x1.trans (.new w1 hp))⟩⟩
end
/-! ### loops -/
theorem ss_for {body : List Stmt} {cs : List Sm} (hp : PassesOwn (model X.prog X.w) X.A X.env X.xe) (hc : X.calm = true) (hi : SI X C tg it w) (hg : PG X tg (tgOf X.K g)) (hb : SSs X C body cs) (hs : ∀ x, foldedSetIterable it X.env x = pure x) : SS X C (.For tg it body [] pos) (.forr g w cs) := fun env s =>
  PS.conseq (ps_for hp hc (hi env s) hg (PSs.ex fun p : Env × Sto => hb p.1 p.2) hs) fun D σ H q => by
  unfold evS at q
  refine rds_split q fun src s1 J ρ0 Hf0 ρ1 Hf1 H1 e1 w1 eo x1 sr p => ?_
  refine ⟨fun i m σ H' => ∃ env s' ρ' Hf', WOk X.K s' ρ' Hf' H' ∧ Ext s ρ0 Hf0 H s' ρ' Hf' H' ∧ Evo ρ1 Hf1 ρ' Hf' ∧ EnvOk X.K ρ' Hf' env σ ∧ PostS X.K s ρ0 Hf0 H (loopS src.1 (fun d e => bind (bind1 g d e) fun e' => evSs C cs e') m i env s') D, ⟨src.2, env, s1, ρ1, Hf1, w1, x1, .refl, eo.ext x1, p⟩, ?_⟩
  rintro i m σ2 H2 ⟨env2, s2, ρ2, Hf2, w2, x02, ev2, eo2, p2⟩
  cases m with
  | zero =>
    left
    unfold loopS at p2
    obtain ⟨n, s3, e3, p3⟩ := p2.bind
    obtain ⟨z, st⟩ := sr.stop _ _ _ _ _ _ ev2 w2 e3
    subst z
    by_cases k : n = i
    · rw [if_pos k] at p3
      subst k
      exact ⟨st, p3 σ2 ρ2 Hf2 H2 w2 x02 eo2⟩
    · rw [if_neg k] at p3
      exact p3.elim
  | succ m =>
    right
    unfold loopS at p2
    obtain ⟨d, s3, e3, p3⟩ := p2.bind
    clear p2
    obtain ⟨z, go, yl⟩ := sr.item _ _ _ _ _ _ _ ev2 w2 e3
    subst z
    refine ⟨go, _, fun σ' H' q' => ⟨m, Nat.lt_succ_self m, q'⟩, fun x H3 y => ?_⟩
    obtain ⟨Hf3, w3, x3, rx⟩ := yl x H3 y
    obtain ⟨f, s4, e4, p4⟩ := p3.bind
    clear p3
    obtain ⟨e', s5, e5, e6⟩ := bind_ok e4
    obtain ⟨eb, z⟩ := ofO_ok e5
    subst z
    refine tg_run eb w3 rx (eo2.ext x3) fun σ' eo' _ => ⟨(e', _), ρ2, Hf3, w3, eo', ?_⟩
    show PostS X.K _ ρ2 Hf3 H3 (evSs C cs e' _) _
    rw [e6]
    have x03 := x02.trans x3
    cases f with
    | nx e2 => exact fun σ4 ρ4 Hf4 H4 w4 x4 eo4 => ⟨e2, s4, ρ4, Hf4, w4, x03.trans x4, ev2.trans (x3.evo.trans x4.evo), eo4, p4⟩
    | ct e2 => exact fun σ4 ρ4 Hf4 H4 w4 x4 eo4 => ⟨e2, s4, ρ4, Hf4, w4, x03.trans x4, ev2.trans (x3.evo.trans x4.evo), eo4, p4⟩
    | bk e2 => exact fun σ4 ρ4 Hf4 H4 w4 x4 eo4 => p4 σ4 ρ4 Hf4 H4 w4 (x03.trans x4) eo4
    | rt r => exact fun v ρ4 Hf4 H4 w4 x4 rr fr => p4 v ρ4 Hf4 H4 w4 (x03.trans x4) rr (fr.back x03)
theorem PT.ex {ι : Type} {e : Expr} {t : ι → TT} (h : ∀ i, PT X e (t i)) : PT X e (fun σ H Q => ∃ i, t i σ H Q) := ⟨fun pins s σ H Q I ⟨i, q⟩ => (h i).run pins s σ H Q I q⟩
theorem ss_while {body : List Stmt} {cs : List Sm} (hp : PassesOwn (model X.prog X.w) X.A X.env X.xe) (ht : ST X C t ct) (hb : SSs X C body cs) : SS X C (.While t body [] pos) (.whl ct cs) := fun env s =>
  PS.conseq (ps_while hp (PT.ex fun p : Env × Sto => ht p.1 p.2) (PSs.ex fun p : Env × Sto => hb p.1 p.2)) fun D σ H q => by
  unfold evS at q
  obtain ⟨ρ0, Hf0, w0, eo0, q⟩ := q
  refine ⟨fun m σ H' => ∃ env s' ρ' Hf', WOk X.K s' ρ' Hf' H' ∧ Ext s ρ0 Hf0 H s' ρ' Hf' H' ∧ EnvOk X.K ρ' Hf' env σ ∧ PostS X.K s ρ0 Hf0 H (loopW (fun e => evT C ct e) (fun e => evSs C cs e) m env s') D, ⟨C.wh, env, s, ρ0, Hf0, w0, .refl, eo0, q⟩, ?_⟩
  rintro m σ2 H2 ⟨env2, s2, ρ2, Hf2, w2, x02, eo2, p2⟩
  cases m with
  | zero => exact p2.elim
  | succ m =>
    unfold loopW at p2
    obtain ⟨k, s3, e3, p3⟩ := p2.bind
    clear p2
    refine ⟨(env2, s2), ρ2, Hf2, w2, eo2, ?_⟩
    show Post X.K s2 ρ2 Hf2 H2 ReB (evT C ct env2 s2) _
    rw [e3]
    intro b ρ3 Hf3 H3 w3 x3 eb
    have eb : k = b := eb
    subst eb
    cases k with
    | false =>
      rw [if_neg Bool.false_ne_true] at p3 ⊢
      exact p3 σ2 ρ3 Hf3 H3 w3 (x02.trans x3) (eo2.ext x3)
    | true =>
      rw [if_pos rfl] at p3 ⊢
      refine ⟨_, fun σ' H' q' => ⟨m, Nat.lt_succ_self m, q'⟩, ?_⟩
      obtain ⟨f, s4, e4, p4⟩ := p3.bind
      clear p3
      refine ⟨(env2, s3), ρ3, Hf3, w3, eo2.ext x3, ?_⟩
      show PostS X.K s3 ρ3 Hf3 H3 (evSs C cs env2 s3) _
      rw [e4]
      have x03 := x02.trans x3
      cases f with
      | nx e2 => exact fun σ4 ρ4 Hf4 H4 w4 x4 eo4 => ⟨e2, s4, ρ4, Hf4, w4, x03.trans x4, eo4, p4⟩
      | ct e2 => exact fun σ4 ρ4 Hf4 H4 w4 x4 eo4 => ⟨e2, s4, ρ4, Hf4, w4, x03.trans x4, eo4, p4⟩
      | bk e2 => exact fun σ4 ρ4 Hf4 H4 w4 x4 eo4 => p4 σ4 ρ4 Hf4 H4 w4 (x03.trans x4) eo4
      | rt r => exact fun v ρ4 Hf4 H4 w4 x4 rr fr => p4 v ρ4 Hf4 H4 w4 (x03.trans x4) rr (fr.back x03)
end
end Vm

set_option Elab.async false
set_option linter.all false
set_option maxRecDepth 100000
set_option maxHeartbeats 4000000
/-! Vm: methods of lists. -/
namespace Vm
open PySem PySem.Spec PyProof.Rows L2
section
variable {K : PySem.W.Frag} {s : Sto} {ρ : Rho} {Hf H : Hp} {r : R} {x : V}
/-- the list that changes -/
theorem mod_at {f : PyData → Option PyData} {s2 : Sto} {u : Unit} (w : WOk K s ρ Hf H) (h : RRep K s ρ Hf H r x) (e : modify r f s = .ok u s2) (hf : ∀ d e, f d = some e → ∃ xs ys, d = .list xs ∧ e = .list ys) :
    ∃ k a xs ys vs, r = .p k ∧ x = .ref a ∧ live s k (.list xs) ∧ ρ[k]? = some a ∧ H a = some (.lst vs) ∧ Reps K Hf vs xs ∧ f (.list xs) = some (.list ys) ∧ s2 = s.set k (.fl (.list ys)) := by
  cases h with
  | v _ => cases e
  | n _ _ _ _ => cases e
  | g _ => cases e
  | @p k a ha =>
    have e' : (match s[k]? with
      | some (.fl d) => (match f d with
        | some e => Out.ok () (s.set k (.fl e))
        | none => .no)
      | _ => .no) = .ok u s2 := e
    clear e
    cases q : s[k]? with
    | none => rw [q] at e'; cases e'
    | some ob =>
      cases ob with
      | dead => rw [q] at e'; cases e'
      | lk d => rw [q] at e'; cases e'
      | fl d =>
        rw [q] at e'
        have e2 : (match f d with
          | some e => Out.ok () (s.set k (.fl e))
          | none => .no) = .ok u s2 := e'
        clear e'
        cases qf : f d with
        | none => rw [qf] at e2; cases e2
        | some e =>
          rw [qf] at e2
          cases e2
          obtain ⟨xs, ys, rfl, rfl⟩ := hf _ _ qf
          have l : live s k (.list xs) := ⟨_, q, rfl⟩
          obtain ⟨a', u', h1, h2, h3, h4⟩ := w.at_ k _ l
          rw [ha] at h1
          cases h1
          cases h4 with
          | @lst vs _ rl => exact ⟨k, a, xs, ys, vs, rfl, rfl, l, ha, h2, rl, qf, rfl⟩
end
theorem appD_ok {d c e : PyData} (h : appD d c = some e) : ∃ xs, c = .list xs ∧ e = .list (xs ++ [d]) ∧ xs.length < sizeLine := by
  cases c <;> first | (cases h; done) | skip
  rename_i xs
  have h' : (if decide (xs.length < sizeLine) = true then some (PyData.list (xs ++ [d])) else none) = some e := h
  by_cases k : decide (xs.length < sizeLine) = true
  · rw [if_pos k] at h'
    exact ⟨xs, rfl, (Option.some.inj h').symm, of_decide_eq_true k⟩
  · rw [if_neg k] at h'
    cases h'
theorem extD_ok {ds : List PyData} {c e : PyData} (h : extD ds c = some e) : ∃ xs, c = .list xs ∧ e = .list (xs ++ ds) ∧ xs.length + ds.length ≤ sizeLine := by
  cases c <;> first | (cases h; done) | skip
  rename_i xs
  have h' : (if lenOk (xs.length + ds.length) = true then some (PyData.list (xs ++ ds)) else none) = some e := h
  by_cases k : lenOk (xs.length + ds.length) = true
  · rw [if_pos k] at h'
    exact ⟨xs, rfl, (Option.some.inj h').symm, of_decide_eq_true k⟩
  · rw [if_neg k] at h'
    cases h'
theorem popD0_ok {c e y : PyData} (h : popD none c = some (y, e)) : ∃ xs, c = .list xs ∧ e = .list xs.dropLast ∧ xs[xs.length - 1]? = some y := by
  cases c <;> first | (cases h; done) | skip
  rename_i xs
  have h' : (xs[xs.length - 1]?.map fun y => (y, PyData.list xs.dropLast)) = some (y, e) := h
  cases z : xs[xs.length - 1]? with
  | none => rw [z] at h'; cases h'
  | some y' => rw [z] at h'; cases h'; exact ⟨xs, rfl, rfl, z⟩
theorem popD1_ok {c e y : PyData} {i : Int} (h : popD (some i) c = some (y, e)) : ∃ xs k, c = .list xs ∧ e = .list (xs.eraseIdx k) ∧ -(2 ^ 63) ≤ i ∧ i < 2 ^ 63 ∧ seqIndex? i xs.length = some k ∧ xs[k]? = some y := by
  cases c <;> first | (cases h; done) | skip
  rename_i xs
  have h' : (if (decide (-(2 ^ 63) ≤ i) && decide (i < 2 ^ 63)) = true then (match seqIndex? i xs.length with
    | some k => xs[k]?.map fun y => (y, PyData.list (xs.eraseIdx k))
    | none => none) else none) = some (y, e) := h
  by_cases k : (decide (-(2 ^ 63) ≤ i) && decide (i < 2 ^ 63)) = true
  · rw [if_pos k] at h'
    rw [Bool.and_eq_true, decide_eq_true_eq, decide_eq_true_eq] at k
    cases q : seqIndex? i xs.length with
    | none => rw [q] at h'; cases h'
    | some n =>
      rw [q] at h'
      have h2 : (xs[n]?.map fun y => (y, PyData.list (xs.eraseIdx n))) = some (y, e) := h'
      cases z : xs[n]? with
      | none => rw [z] at h2; cases h2
      | some y' => rw [z] at h2; cases h2; exact ⟨xs, n, rfl, rfl, k.1, k.2, q, z⟩
  · rw [if_neg k] at h'
    cases h'
def rMt (K : PySem.W.Frag) (m : Mt) : V → List V → Hp → VK → Prop := fun x xs H Q => ∃ s0 ρ0 Hf0 H0 s ρ Hf r q y, xs = [y] ∧ WOk K s ρ Hf H ∧ Ext s0 ρ0 Hf0 H0 s ρ Hf H ∧ RRep K s ρ Hf H r x ∧ RRep K s ρ Hf H q y ∧ Fresh H0 q y ∧ Post K s0 ρ0 Hf0 H0 (ReR K) (mutM m r [q] s) Q
def rMt0 (K : PySem.W.Frag) (m : Mt) : V → List V → Hp → VK → Prop := fun x xs H Q => ∃ s ρ Hf r, xs = [] ∧ WOk K s ρ Hf H ∧ RRep K s ρ Hf H r x ∧ Post K s ρ Hf H (ReR K) (mutM m r [] s) Q
section
variable {X : Cx}
theorem mtr_append : MtR X "list.append" (rMt X.K .append) := by
  intro pins s σ H x xs v us Q I rx rv h
  obtain ⟨s0, ρ0, Hf0, H0, st, ρ, Hf, r, q, y, rfl, w, x0, rr, rq, fr, p⟩ := h
  obtain ⟨d, s1, e1, p1⟩ := p.bind
  clear p
  obtain ⟨u, s2, e2, p2⟩ := p1.bind
  clear p1
  obtain ⟨Hf1, w1, x1, rd⟩ := take_ok w x0 fr rq e1
  have rr1 : RRep X.K s1 ρ Hf1 H r x := by
    have e2' := e2
    cases rr with
    | p h => exact .p h
    | v _ => cases e2
    | n _ _ _ _ => cases e2
    | g _ => cases e2
  obtain ⟨k, a, ds, ys, vs, rfl, rfl, l, ha, hH, rl, qf, rfl⟩ := mod_at w1 rr1 e2 fun d0 e h => by
    obtain ⟨xs, h1, h2, _⟩ := appD_ok h
    exact ⟨xs, _, h1, h2⟩
  obtain ⟨xs, h1, h2, hz⟩ := appD_ok qf
  cases h1
  cases h2
  refine mt_append pins s σ H _ _ v us Q I rx rv ⟨a, vs, y, rfl, rfl, hH, by rw [rl.length]; exact hz, ?_⟩
  refine p2 _ ρ Hf1 _ (w1.set l ha fun e he => ?_) (x1.trans (.set w1 l ha)) ⟨.v .non, trivial⟩
  cases he
  exact .lst (rl.append (.cons rd .nil))
theorem mtr_extend : MtR X "list.extend" (rMt X.K .extend) := by
  intro pins s σ H x xs v us Q I rx rv h
  obtain ⟨s0, ρ0, Hf0, H0, st, ρ, Hf, r, q, y, rfl, w, x0, rr, rq, fr, p⟩ := h
  obtain ⟨d, s1, e1, p1⟩ := p.bind
  clear p
  obtain ⟨v1, z, ng⟩ := lookP_ok e1
  subst z
  cases d <;> first | exact p1.elim | skip
  rename_i es
  have p1 : Post X.K s0 ρ0 Hf0 H0 (ReR X.K) (bind (modify r (extD es)) (fun _ => ret (.v .none)) s1) Q := p1
  obtain ⟨u, s2, e2, p2⟩ := p1.bind
  clear p1
  obtain ⟨b, zs, rfl, hb, rz⟩ := rq.lstN w v1 ng
  obtain ⟨k, a, ds, ys, vs, rfl, rfl, l, ha, hH, rl, qf, rfl⟩ := mod_at w rr e2 fun d0 e h => by
    obtain ⟨xs, h1, h2, _⟩ := extD_ok h
    exact ⟨xs, _, h1, h2⟩
  obtain ⟨xs, h1, h2, hz⟩ := extD_ok qf
  cases h1
  cases h2
  refine mt_extend pins s σ H _ _ v us Q I rx rv ⟨a, b, vs, zs, rfl, rfl, hH, hb, by rw [rl.length, rz.length]; exact hz, ?_⟩
  refine p2 _ ρ Hf _ (w.set l ha fun e he => ?_) (x0.trans (.set w l ha)) ⟨.v .non, trivial⟩
  cases he
  exact .lst (rl.append rz)
theorem pop_at {K : PySem.W.Frag} {s0 s : Sto} {ρ0 ρ : Rho} {Hf0 H0 Hf H : Hp} {r : R} {x : V} {f : PyData → Option (PyData × PyData)} {Q : VK} (w : WOk K s ρ Hf H) (x0 : Ext s0 ρ0 Hf0 H0 s ρ Hf H) (h : RRep K s ρ Hf H r x) (p : Post K s0 ρ0 Hf0 H0 (ReR K) (popM r f s) Q)
    (hf : ∀ d y e, f d = some (y, e) → ∃ xs ys, d = .list xs ∧ e = .list ys) :
    ∃ a xs ys vs y, x = .ref a ∧ H a = some (.lst vs) ∧ Reps K Hf vs xs ∧ f (.list xs) = some (y, .list ys) ∧ ∀ ws z, Reps K Hf ws ys → Rep K Hf z y → Q z (upd H a (.lst ws)) := by
  cases h with
  | v _ => exact p.elim
  | n _ _ _ _ => exact p.elim
  | g _ => exact p.elim
  | @p k a ha =>
    have e' : Post K s0 ρ0 Hf0 H0 (ReR K) (match s[k]? with
      | some (.fl d) => (match f d with
        | some (y, e) => Out.ok (.v y) (s.set k (.fl e))
        | none => .no)
      | _ => .no) Q := p
    clear p
    cases q : s[k]? with
    | none => rw [q] at e'; exact e'.elim
    | some ob =>
      cases ob with
      | dead => rw [q] at e'; exact e'.elim
      | lk d => rw [q] at e'; exact e'.elim
      | fl d =>
        rw [q] at e'
        have e2 : Post K s0 ρ0 Hf0 H0 (ReR K) (match f d with
          | some (y, e) => Out.ok (.v y) (s.set k (.fl e))
          | none => .no) Q := e'
        clear e'
        cases qf : f d with
        | none => rw [qf] at e2; exact e2.elim
        | some ye =>
          obtain ⟨y, e⟩ := ye
          rw [qf] at e2
          obtain ⟨xs, ys, rfl, rfl⟩ := hf _ _ _ qf
          have l : live s k (.list xs) := ⟨_, q, rfl⟩
          obtain ⟨a', u', h1, h2, h3, h4⟩ := w.at_ k _ l
          rw [ha] at h1
          cases h1
          cases h4 with
          | @lst vs _ rl =>
            refine ⟨a, xs, ys, vs, y, rfl, h2, rl, qf, fun ws z rw rz => ?_⟩
            refine e2 z ρ Hf _ (w.set l ha fun e he => ?_) (x0.trans (.set w l ha)) ⟨.v rz, trivial⟩
            cases he
            exact .lst rw
theorem Reps.dropLast {K : PySem.W.Frag} {H : Hp} {vs : List V} {ds : List PyData} (h : Reps K H vs ds) : Reps K H vs.dropLast ds.dropLast := by
  rw [List.dropLast_eq_take, List.dropLast_eq_take, h.length]
  exact h.take _
theorem Reps.eraseIdx {K : PySem.W.Frag} {H : Hp} {vs : List V} {ds : List PyData} (h : Reps K H vs ds) (k : Nat) : Reps K H (vs.eraseIdx k) (ds.eraseIdx k) := by
  rw [List.eraseIdx_eq_take_drop_succ, List.eraseIdx_eq_take_drop_succ]
  exact (h.take _).append (h.drop _)
theorem mtr_pop0 : MtR X "list.pop" (rMt0 X.K .pop) := by
  intro pins s σ H x xs v us Q I rx rv h
  obtain ⟨st, ρ, Hf, r, rfl, w, rr, p⟩ := h
  have p : Post X.K st ρ Hf H (ReR X.K) (popM r (popD none) st) Q := p
  obtain ⟨a, ds, ys, vs, y, rfl, hH, rl, qf, k⟩ := pop_at w .refl rr p fun d y e h => by
    obtain ⟨xs, h1, h2, _⟩ := popD0_ok h
    exact ⟨xs, _, h1, h2⟩
  obtain ⟨xs, h1, h2, z⟩ := popD0_ok qf
  cases h1
  cases h2
  obtain ⟨u, hu, ru⟩ := rl.get z
  rw [← rl.length] at hu
  exact mt_pop pins s σ H _ _ v us Q I rx rv ⟨a, vs, u, rfl, rfl, hH, hu, k _ _ rl.dropLast ru⟩
theorem mtr_pop1 : MtR X "list.pop" (rMt X.K .pop) := by
  intro pins s σ H x xs v us Q I rx rv h
  obtain ⟨s0, ρ0, Hf0, H0, st, ρ, Hf, r, q, y, rfl, w, x0, rr, rq, fr, p⟩ := h
  obtain ⟨d, s1, e1, p1⟩ := p.bind
  clear p
  obtain ⟨v1, z⟩ := look_ok e1
  subst z
  cases d <;> first | exact p1.elim | skip
  rename_i i
  have p1 : Post X.K s0 ρ0 Hf0 H0 (ReR X.K) (popM r (popD (some i)) s1) Q := p1
  obtain ⟨a, ds, ys, vs, y', rfl, hH, rl, qf, k⟩ := pop_at w x0 rr p1 fun d y e h => by
    obtain ⟨xs, k, h1, h2, _⟩ := popD1_ok h
    exact ⟨xs, _, h1, h2⟩
  obtain ⟨xs, k0, h1, h2, b1, b2, hk, z⟩ := popD1_ok qf
  cases h1
  cases h2
  obtain ⟨u, hu, ru⟩ := rl.get z
  have ey := rq.int w v1
  subst ey
  exact mt_popAt pins s σ H _ _ v us Q I rx rv ⟨a, vs, i, k0, u, rfl, rfl, hH, b1, b2, by rw [rl.length]; exact hk, hu, k _ _ (rl.eraseIdx k0) ru⟩
variable {C : Cfg} {o a : Expr} {co ca : Co} {apos cpos : Pos} {name : Str} {id : String} {m : Mt}
/-- how a method's call stands: on one line, its arguments plain -/
structure MtOk (X : Cx) (o : Expr) (name : Str) (apos cpos : Pos) (es : List Expr) : Prop where
  base : attributeBase o name X.env (eval o X.env) = eval o X.env
  line : (apos.endLine == cpos.line) = true
theorem se_mt1 (pa : PlainAttrs "list") (slot : Slot "list" name id) (hty : typeOf (.builtin id) = pure (.type "method_descriptor")) (hm : MtR X id (rMt X.K m)) (ho : SE X C o co) (ha : SE X C a ca)
    (hbase : attributeBase o name X.env (eval o X.env) = eval o X.env)
    (hfew : ((backTo cpos (starEach (a :: []) X.env)).all (fun x => !x.1) && (backToKw cpos (keywordEach [] X.env)).all (fun x => x.1.isSome)
      && decide ((a :: ([] : List Expr)).length + ([] : List Keyword).length + (if ([] : List Keyword).isEmpty then 0 else 1) < 30)) = true)
    (hline : (apos.endLine == cpos.line) = true) (hs : noStar a = true) : SE X C (.Call (.Attribute o name apos) [a] [] cpos) (.mt m co [ca]) := fun env s => by
  cases eo1 : evE C co env s with
  | no =>
    refine PE.ff fun σ H Q h => ?_
    unfold evE at h
    obtain ⟨a, s1, e⟩ := Rdg.ok_of h
    rw [eo1] at e
    cases e
  | ok ro s1 =>
    refine PE.conseq (pe_bm pa slot hty hm (ho env s) (PA.conseq (pa_cons (ha env s1) pa_nil (star_cons hs)) fun σ H (Q : List V → Hp → Prop) (h : Rdg X.K (fun s' ρ' Hf' H' H0 r (ys : List V) => ∃ y, ys = [y] ∧ RRep X.K s' ρ' Hf' H' r y ∧ Fresh H0 r y) env s1 (evE C ca env s1) σ H Q) => ?_) hbase hfew hline (star_cons hs) rfl) fun σ H Q h => ?_
    · obtain ⟨ρ, Hf, w, eo, h⟩ := h
      refine ⟨ρ, Hf, w, eo, ?_⟩
      cases e2 : evE C ca env s1 with
      | no => rw [e2] at h; exact h.elim
      | ok ra s2 =>
        rw [e2] at h
        exact fun y ρ' Hf' H' w' x' rr => h [y] ρ' Hf' H' w' x' ⟨y, rfl, rr.1, rr.2⟩
    · unfold evE at h
      refine rdg_split h fun r s1' v ρ0 Hf0 ρ1 Hf1 H1 e w1 eo x1 rr h => ?_
      rw [eo1] at e
      cases e
      obtain ⟨d, s2, e2, h1⟩ := h.bind
      clear h
      obtain ⟨v1, z⟩ := look_ok e2
      subst z
      cases d <;> first | exact h1.elim | skip
      rename_i ds
      have h1 : Post X.K s ρ0 Hf0 H (ReR X.K) (bind (evRs C [ca] env) (fun rs => mutM m ro rs) s2) Q := h1
      obtain ⟨l, xs, rfl, hl, _⟩ := rr.1.lst w1 v1
      refine ⟨.inl ⟨rfl, xs, hl⟩, ρ1, Hf1, w1, eo, ?_⟩
      obtain ⟨rs, s3, e3, h2⟩ := h1.bind
      clear h1
      have e3 : evRs C [ca] env s2 = .ok rs s3 := e3
      unfold evRs at e3
      obtain ⟨ra, s4, e4, e5⟩ := bind_ok e3
      unfold evRs at e5
      cases e5
      rw [e4]
      intro ys ρ3 Hf3 H3 w3 x3 ry
      obtain ⟨y, rfl, ry, fy⟩ := ry
      exact ⟨s, ρ0, Hf0, H, _, ρ3, Hf3, ro, ra, y, rfl, w3, x1.trans x3, rr.1.ext x3, ry, fy.back x1, h2⟩
theorem se_mt0 (pa : PlainAttrs "list") (slot : Slot "list" name id) (hty : typeOf (.builtin id) = pure (.type "method_descriptor")) (hm : MtR X id (rMt0 X.K m)) (ho : SE X C o co)
    (hbase : attributeBase o name X.env (eval o X.env) = eval o X.env) (hline : (apos.endLine == cpos.line) = true) : SE X C (.Call (.Attribute o name apos) [] [] cpos) (.mt m co []) := fun env s => by
  refine PE.conseq (pe_bm0 pa slot hty hm (ho env s) hbase hline) fun σ H Q h => ?_
  unfold evE at h
  refine rdg_split h fun r s1' v ρ0 Hf0 ρ1 Hf1 H1 e w1 eo x1 rr h => ?_
  obtain ⟨d, s2, e2, h1⟩ := h.bind
  clear h
  obtain ⟨v1, z⟩ := look_ok e2
  subst z
  cases d <;> first | exact h1.elim | skip
  have h1 : Post X.K s ρ0 Hf0 H (ReR X.K) (mutM m r [] s2) Q := h1
  obtain ⟨l, xs, rfl, hl, _⟩ := rr.1.lst w1 v1
  exact ⟨.inl ⟨rfl, xs, hl⟩, s2, ρ1, Hf1, r, rfl, w1, rr.1, h1.at x1 (ReR.back x1)⟩
end
end Vm

set_option Elab.async false
set_option linter.all false
set_option maxRecDepth 100000
set_option maxHeartbeats 4000000
/-! Vm: isinstance, list(range), repr, sorted of ints. -/
namespace Vm
open PySem PySem.Spec PyProof.Rows L2
/-! ### isinstance -/
def tagD : D → String
  | .none => "NoneType"
  | .bool _ => "bool"
  | .int _ => "int"
  | .str _ => "str"
  | .tuple _ => "tuple"
  | .list _ => "list"
  | .dict _ => "dict"
def tyName : Ty → String
  | .int => "int"
  | .bool => "bool"
  | .str => "str"
  | .tuple => "tuple"
  | .list => "list"
  | .dict => "dict"
theorem kitB_ok (d : D) (T : Ty) : kitB (tagD d) (tyName T) = some ((tysOf d).any fun t => [T].contains t) := by
  cases d <;> cases T <;> kernel_rfl
theorem tyx_lst {K : PySem.W.Frag} {H : Hp} {a : Addr} {xs : List V} (h : SqL K H a xs) : TyX K H (.ref a) (.type "list") := by
  rcases h with (h | ⟨o, h⟩) | ⟨o, its, n, h1, h2, _⟩
  · exact .base (.lst h)
  · exact .base (.frz h)
  · exact .kList h1 h2
theorem tyx_tup {K : PySem.W.Frag} {H : Hp} {a : Addr} {xs : List V} (h : SqT K H a xs) : TyX K H (.ref a) (.type "tuple") := by
  rcases h with (h | ⟨o, h⟩) | ⟨o, its, n, h1, h2, _⟩
  · exact .base (.tup h)
  · exact .fTuple h
  · exact .kTuple h1 h2
theorem tyx_of {K : PySem.W.Frag} {s : Sto} {ρ : Rho} {Hf H : Hp} {r : R} {x : V} {d : D} (h : RRep K s ρ Hf H r x) (w : WOk K s ρ Hf H) (e : Vm.view s r = some d) : TyX K H x (.type (tagD d)) := by
  cases d with
  | none => rw [h.non w e]; exact .base .non
  | bool b => rw [h.bool w e]; exact .base (.bl b)
  | int b => rw [h.int w e]; exact .base (.int b)
  | str b => rw [h.str w e]; exact .base (.str b)
  | list ds =>
    obtain ⟨a, xs, rfl, h1, _⟩ := h.lst w e
    exact tyx_lst h1
  | tuple ds =>
    obtain ⟨a, xs, rfl, h1, _⟩ := h.tup w e
    exact tyx_tup h1
  | dict ds =>
    have q := h.view w e (fun _ z => by cases z) (fun _ z => by cases z)
    cases q with
    | dK h1 _ => exact .base (.dK h1)
    | dT h1 _ => exact .base (.dT h1)
section
variable {X : Cx} {C : Cfg} {a : Expr} {ca : Co} {p q pos : Pos} {y : Str} {T : Ty}
theorem se_isi (hg : Gl X "isinstance") (hm : X.mg "isinstance" = none) (hgy : Gl X y) (hmy : X.mg y = none) (hvy : bootBuiltins y = some (.type (tyName T))) (hny : y ≠ "__name__") (hdy : (y == ("__debug__" : Str)) = false) (hs : noStar a = true) (ha : SE X C a ca) :
    SE X C (.Call (.Name "isinstance" p) [a, .Name y q] [] pos) (.bi (.isinst [T]) [ca]) := fun env s =>
  PE.conseq (pe_callB call_isi hg hm rfl (pa_cons (ha env s) (pa_cons (pe_bltn (v := .ty (tyName T)) hgy hmy hvy rfl hny hdy) pa_nil (star_cons rfl)) (star_cons hs)) (by decide) (by decide) (star_cons hs) (star_plain rfl)) fun σ H Q h => by
    unfold evE at h
    obtain ⟨ρ, Hf, w, eo, h⟩ := h
    obtain ⟨rs, s1, e1, h1⟩ := h.bind
    clear h
    unfold evRs at e1
    obtain ⟨r, s2, e2, e3⟩ := bind_ok e1
    clear e1
    unfold evRs at e3
    cases e3
    refine ⟨ρ, Hf, w, eo, ?_⟩
    rw [e2]
    intro v ρ1 Hf1 H1 w1 x1 rr
    obtain ⟨ds, s3, e4, h2⟩ := h1.bind
    clear h1
    obtain ⟨z, vv⟩ := looks_ok e4
    subst z
    cases vv with
    | @cons _ d _ _ v1 vt =>
      cases vt
      exact ⟨v, .ty (tyName T), .type (tagD d), .type (tyName T), _, rfl, .ty _, tyx_of rr.1 w1 v1, kit_ty (kitB_ok d T), (h2.at x1 (ReR.back x1)).bool w1⟩
/-! ### list(range(..)) -/
theorem rng_reps {K : PySem.W.Frag} {H : Hp} (a b : Int) : Reps K H (rgV a b) (rngD a b) := by
  unfold rgV rngD
  generalize List.range (b - a).toNat = l
  induction l with
  | nil => exact .nil
  | cons i l ih => exact .cons (.int _) ih
theorem post_o' {K : PySem.W.Frag} {α β : Type} {s0 s : Sto} {ρ : Rho} {Hf H : Hp} {Rel : Sto → Rho → Hp → Hp → Hp → α → β → Prop} {o : Option α} {Q : β → Hp → Prop} (h : Post K s0 ρ Hf H Rel (ofO o s) Q) : ∃ r, o = some r ∧ Post K s0 ρ Hf H Rel (.ok r s) Q := by
  cases o with
  | none => exact h.elim
  | some r => exact ⟨r, rfl, h⟩
theorem lrg_run {K : PySem.W.Frag} {env : Env} {s : Sto} {σ : L2.St} {H : Hp} {Q : VK} (h : TEv K env s (evE C (.bi .listRng [ca]) env s) σ H Q) :
    Rdg K (ReR K) env s (evE C ca env s) σ H fun x H1 => ∃ n, x = .int n ∧ (RgOk 0 n ∧ ∀ q, H1 q = none → Q (.ref q) (upd H1 q (.lst (rgV 0 n)))) := by
  unfold evE at h
  obtain ⟨ρ, Hf, w, eo, h⟩ := h
  obtain ⟨rs, s1, e1, h1⟩ := h.bind
  clear h
  unfold evRs at e1
  obtain ⟨r, s2, e2, e3⟩ := bind_ok e1
  clear e1
  unfold evRs at e3
  cases e3
  refine ⟨ρ, Hf, w, eo, ?_⟩
  rw [e2]
  intro v ρ1 Hf1 H1 w1 x1 rr
  obtain ⟨ds, s3, e4, h2⟩ := h1.bind
  clear h1
  obtain ⟨z, vv⟩ := looks_ok e4
  subst z
  cases vv with
  | @cons _ d _ _ v1 vt =>
    cases vt
    obtain ⟨r2, e5, h3⟩ := post_o' h2
    clear h2
    cases d <;> first | (cases e5; done) | skip
    rename_i j
    have e6 : (if (smallR j && decide ((j - 0).toNat ≤ 2 ^ 24)) = true then some (R.n (.list (rngD 0 j))) else none) = some r2 := e5
    clear e5
    by_cases k : (smallR j && decide ((j - 0).toNat ≤ 2 ^ 24)) = true
    · rw [if_pos k] at e6
      cases e6
      rw [Bool.and_eq_true, decide_eq_true_eq] at k
      have k1 : -(2 ^ 62) ≤ j ∧ j < 2 ^ 62 := by
        have k1 := k.1
        unfold smallR at k1
        rw [Bool.and_eq_true, decide_eq_true_eq, decide_eq_true_eq] at k1
        exact k1
      exact ⟨j, rr.1.int w1 v1, ⟨by omega, by omega, k1.1, k1.2, k.2⟩, fun q hq => (h3.at x1 (ReR.back x1)).newL w1 (rng_reps 0 j) hq⟩
    · rw [if_neg k] at e6
      cases e6
theorem se_lrg1 {pos' : Pos} (hc : X.calm = true) (hg : Gl X "list") (hm : X.mg "list" = none) (hgr : Gl X "range") (hmr : X.mg "range" = none) (hs : noStar a = true) (ha : SE X C a ca) : SE X C (.Call (.Name "list" p) [.Call (.Name "range" q) [a] [] pos] [] pos') (.bi .listRng [ca]) := fun env s =>
  PE.conseq (pe_listRg hc hg hm (prg_1 hgr hmr (ha env s) (star_cons hs))) fun σ H Q h => lrg_run h
end
/-! ### repr -/
section
variable {X : Cx} {pins : List (Addr × Obj)} {σ : L2.St} {H Hf : Hp} {sh : Shared}
mutual
theorem Rep.reads (I : Inv X pins σ H sh) (sub : Same Hf H) : ∀ {v : V} {d : D} {u : Value}, Rep X.K Hf v d → d.hasDict = false → RelV v u → ∃ as, Reads sh.heap u d as
  | _, _, u, .non, _, r => by
    have r : u = Value.none := r
    subst r
    exact ⟨[], .none⟩
  | _, _, u, .bl b, _, r => by
    have r : u = Value.bool b := r
    subst r
    exact ⟨[], .bool b⟩
  | _, _, u, .int i, _, r => by
    obtain ⟨t, r⟩ := (show ∃ t, u = Value.int i t from r)
    subst r
    exact ⟨[], .int i t⟩
  | _, _, u, .str x, _, r => by
    obtain ⟨t, r⟩ := (show ∃ t, u = Value.str x t from r)
    subst r
    exact ⟨[], .str x t⟩
  | _, _, u, .lst (a := a) h rs, n, r => by
    have r : u = Value.ref a := r
    subst r
    obtain ⟨its, rv, p, hz⟩ := I.list (show SqL X.K H a _ from .of (sub _ _ h))
    obtain ⟨o, h1, h2, m, h3⟩ := p.isList
    obtain ⟨as, ra⟩ := Reps.reads I sub rs (by simpa [PyData.hasDict] using n) rv
    exact ⟨_, .list h1 h2 h3 (by simpa using ra)⟩
  | _, _, u, .tup (a := a) h rs, n, r => by
    have r : u = Value.ref a := r
    subst r
    obtain ⟨its, rv, p, hz⟩ := I.tuple (show SqT X.K H a _ from .of (sub _ _ h))
    obtain ⟨o, h1, h2, m, h3⟩ := (show sh.heap.IsTuple a its.toArray from p)
    obtain ⟨as, ra⟩ := Reps.reads I sub rs (by simpa [PyData.hasDict] using n) rv
    exact ⟨_, .tuple h1 h2 h3 (by simpa using ra)⟩
  | _, _, _, .dK _ _, n, _ => by simp [PyData.hasDict] at n
  | _, _, _, .dT _ _, n, _ => by simp [PyData.hasDict] at n
theorem Reps.reads (I : Inv X pins σ H sh) (sub : Same Hf H) : ∀ {vs : List V} {ds : List D} {us : List Value}, Reps X.K Hf vs ds → PyData.hasDictAll ds = false → Vals vs us → ∃ as, ReadsAll sh.heap us ds as
  | _, _, _, .nil, _, .nil => ⟨[], .nil⟩
  | _, _, _, .cons (d := d) (ds := ds) r t, n, .cons v vt => by
    have n2 : d.hasDict = false ∧ PyData.hasDictAll ds = false := by simpa [PyData.hasDictAll] using n
    obtain ⟨as, h1⟩ := Rep.reads I sub r n2.1 v
    obtain ⟨bs, h2⟩ := Reps.reads I sub t n2.2 vt
    exact ⟨_, .cons h1 h2⟩
end
theorem reprOk_ok {d : D} (h : reprOk d = true) : d.showable = true ∧ d.shown.length ≤ sizeLine ∧ d.depth ≤ 64 ∧ d.hasDict = false := by
  unfold reprOk at h
  simp only [Bool.and_eq_true, decide_eq_true_eq, Bool.not_eq_true'] at h
  obtain ⟨⟨⟨k1, k2⟩, k3⟩, k4⟩ := h
  exact ⟨k1, of_decide_eq_true k2, k3, k4⟩
theorem cb_repr (hu : X.A.units + 200 < cLine) (hg : X.A.guards = some []) : CallR X (.builtin "repr") (rC X.K biRepr) := by
  intro pins s σ H xs us Q I rv h
  obtain ⟨st, ρ, Hf, rs, ds, r, w, rr, vv, e, p⟩ := h.un
  have one1 : ∃ d, ds = [d] := by
    cases ds with
    | nil => cases e
    | cons d ds => cases ds with
      | nil => exact ⟨d, rfl⟩
      | cons _ _ => cases d <;> cases e
  obtain ⟨d, rfl⟩ := one1
  obtain ⟨r0, x, rfl, rfl, h1, h2⟩ := one rr vv
  have fin : ∀ (a : Addr) (as : List Addr), Reads s.heap (.ref a) d as → reprOk d = true → r = .v (.str d.shown) → us = [.ref a] → wpAny (model X.prog X.w) X.A (call (.builtin "repr") us) (EP X pins σ Q) X.xe s := fun a as rd k er eu => by
    subst eu er
    obtain ⟨k1, k2, k3, k4⟩ := reprOk_ok k
    exact repr_of_reads' rd k1 (fun z => by rw [k4] at z; cases z) hg (by omega) (fun _ _ q => q) (fun h' u tk hk => ⟨.str d.shown, H, I.kept hk, ⟨u, rfl⟩, p.str w⟩) k2
  cases d <;> first | (cases e; done) | skip
  · rename_i ds
    have e2 : (if reprOk (.list ds) = true then some (R.v (.str (PyData.list ds).shown)) else none) = some r := e
    by_cases k : reprOk (.list ds) = true
    · rw [if_pos k] at e2
      have er := (Option.some.inj e2).symm
      obtain ⟨a, ys, rfl, q1, q2⟩ := h1.lst w h2
      obtain ⟨its, rvs, pl, hz⟩ := I.list q1
      obtain ⟨o, g1, g2, m, g3⟩ := pl.isList
      obtain ⟨as, ra⟩ := Reps.reads I w.sub q2 (by simpa [PyData.hasDict] using (reprOk_ok k).2.2.2) rvs
      cases rv with
      | cons r1 rt =>
        cases rt
        have r1 : _ = Value.ref a := r1
        exact fin a _ (.list g1 g2 g3 (by simpa using ra)) k er (by rw [r1])
    · rw [if_neg k] at e2
      cases e2
  · rename_i ds
    have e2 : (if reprOk (.tuple ds) = true then some (R.v (.str (PyData.tuple ds).shown)) else none) = some r := e
    by_cases k : reprOk (.tuple ds) = true
    · rw [if_pos k] at e2
      have er := (Option.some.inj e2).symm
      obtain ⟨a, ys, rfl, q1, q2⟩ := h1.tup w h2
      obtain ⟨its, rvs, pl, hz⟩ := I.tuple q1
      obtain ⟨o, g1, g2, m, g3⟩ := (show s.heap.IsTuple a its.toArray from pl)
      obtain ⟨as, ra⟩ := Reps.reads I w.sub q2 (by simpa [PyData.hasDict] using (reprOk_ok k).2.2.2) rvs
      cases rv with
      | cons r1 rt =>
        cases rt
        have r1 : _ = Value.ref a := r1
        exact fin a _ (.tuple g1 g2 g3 (by simpa using ra)) k er (by rw [r1])
    · rw [if_neg k] at e2
      cases e2
end
end Vm

set_option Elab.async false
set_option linter.all false
set_option maxRecDepth 100000
set_option maxHeartbeats 4000000
/-! Vm: sorted. -/
namespace Vm
open PySem PySem.Spec PyProof.Rows L2
/-! ### the order -/
theorem leInts_cons {a b : Int} {as bs : List Int} : leInts (a :: as) (b :: bs) = true ↔ a < b ∨ (a = b ∧ leInts as bs = true) := by
  have e0 : leInts (a :: as) (b :: bs) = if a < b then true else if b < a then false else leInts as bs := by
    conv => lhs; unfold leInts
  rw [e0]
  by_cases h : a < b
  · simp [h]
  · rw [if_neg h]
    by_cases h2 : b < a
    · rw [if_pos h2]
      constructor
      · intro z; cases z
      · rintro (z | ⟨z, _⟩) <;> omega
    · rw [if_neg h2]
      have e : a = b := by omega
      constructor
      · exact fun z => .inr ⟨e, z⟩
      · rintro (z | ⟨_, z⟩)
        · omega
        · exact z
theorem leInts_total : ∀ a b : List Int, (leInts a b || leInts b a) = true
  | [], _ => by unfold leInts; rfl
  | a :: as, [] => by
    have : leInts [] (a :: as) = true := by unfold leInts; rfl
    rw [Bool.or_eq_true]
    exact .inr this
  | a :: as, b :: bs => by
    have ih := leInts_total as bs
    rw [Bool.or_eq_true] at ih ⊢
    rw [leInts_cons, leInts_cons]
    by_cases h : a < b
    · exact .inl (.inl h)
    · by_cases h2 : b < a
      · exact .inr (.inl h2)
      · have e : a = b := by omega
        rcases ih with ih | ih
        · exact .inl (.inr ⟨e, ih⟩)
        · exact .inr (.inr ⟨e.symm, ih⟩)
theorem leInts_trans : ∀ a b c : List Int, leInts a b = true → leInts b c = true → leInts a c = true
  | [], _, _, _, _ => by unfold leInts; rfl
  | _ :: _, [], _, h, _ => by unfold leInts at h; cases h
  | _ :: _, _ :: _, [], _, h => by unfold leInts at h; cases h
  | a :: as, b :: bs, c :: cs, h1, h2 => by
    rw [leInts_cons] at h1 h2 ⊢
    rcases h1 with h1 | ⟨h1, h1'⟩
    · rcases h2 with h2 | ⟨h2, _⟩
      · exact .inl (by omega)
      · exact .inl (by omega)
    · rcases h2 with h2 | ⟨h2, h2'⟩
      · exact .inl (by omega)
      · exact .inr ⟨by omega, leInts_trans _ _ _ h1' h2'⟩
theorem leInts_anti : ∀ a b : List Int, leInts a b = true → leInts b a = true → a = b
  | [], [], _, _ => rfl
  | [], _ :: _, _, h => by unfold leInts at h; cases h
  | _ :: _, [], h, _ => by unfold leInts at h; cases h
  | a :: as, b :: bs, h1, h2 => by
    rw [leInts_cons] at h1 h2
    rcases h1 with h1 | ⟨h1, h1'⟩
    · rcases h2 with h2 | ⟨h2, _⟩ <;> omega
    · rcases h2 with h2 | ⟨h2, h2'⟩
      · omega
      · rw [h1, leInts_anti _ _ h1' h2']
theorem sortT_of {ts us : List (List Int)} (p : us.Perm ts) (s : us.Pairwise fun a b => leInts a b = true) : us = sortT ts := by
  unfold sortT
  refine List.Perm.eq_of_pairwise (le := fun a b => leInts a b = true) (fun a b _ _ h1 h2 => leInts_anti a b h1 h2) s ?_ (p.trans (List.mergeSort_perm ts leInts).symm)
  exact List.pairwise_mergeSort leInts_trans leInts_total ts
theorem sortI_of {ts us : List Int} (p : us.Perm ts) (s : us.Pairwise (· ≤ ·)) : us = sortI ts := by
  unfold sortI
  refine List.Perm.eq_of_pairwise (le := fun a b => decide (a ≤ b) = true) (fun a b _ _ h1 h2 => ?_) ?_ ?_ (p.trans (List.mergeSort_perm ts _).symm)
  · exact Int.le_antisymm (of_decide_eq_true h1) (of_decide_eq_true h2)
  · exact s.imp fun h => decide_eq_true h
  · refine List.pairwise_mergeSort (fun a b c h1 h2 => ?_) (fun a b => ?_) ts
    · exact decide_eq_true (Int.le_trans (of_decide_eq_true h1) (of_decide_eq_true h2))
    · rw [Bool.or_eq_true, decide_eq_true_eq, decide_eq_true_eq]
      omega
theorem lex_le : ∀ as bs : List Int, lexLt itemOrd (bs.map Sum.inl) (as.map Sum.inl) = false → leInts as bs = true
  | [], _, _ => by unfold leInts; rfl
  | _ :: _, [], h => by cases h
  | a :: as, b :: bs, h => by
    rw [List.map_cons, List.map_cons, lex_false] at h
    rw [leInts_cons]
    have h1 : ¬ b < a := fun z => by
      have : decide (b < a) = false := h.1
      rw [decide_eq_false_iff_not] at this
      exact this z
    rcases h.2 with h2 | h2
    · have : decide (a < b) = true := h2
      exact .inl (of_decide_eq_true this)
    · by_cases e : a < b
      · exact .inl e
      · exact .inr ⟨by omega, lex_le as bs h2⟩
/-! ### ints -/
/-! ### tuples of ints -/
theorem intsD_eq : ∀ {ds : List PyData} {is : List Int}, intsD ds = some is → ds = is.map PyData.int
  | [], is, h => by cases h; rfl
  | .int i :: ds, is, h => by
    have h : (intsD ds).map (i :: ·) = some is := h
    cases e : intsD ds with
    | none => rw [e] at h; cases h
    | some js =>
      rw [e] at h
      cases h
      rw [intsD_eq e]
      rfl
  | .none :: _, _, h => by cases h
  | .bool _ :: _, _, h => by cases h
  | .str _ :: _, _, h => by cases h
  | .list _ :: _, _, h => by cases h
  | .tuple _ :: _, _, h => by cases h
  | .dict _ :: _, _, h => by cases h
theorem tupsD_cons {d : PyData} {ds : List PyData} {ts : List (List Int)} (h : tupsD (d :: ds) = some ts) : ∃ t r, ts = t :: r ∧ d = .tuple (t.map PyData.int) ∧ tupsD ds = some r := by
  cases d <;> first | (cases h; done) | skip
  rename_i es
  have h : (intsD es).bind (fun is => (tupsD ds).map (is :: ·)) = some ts := h
  cases e : intsD es with
  | none => rw [e] at h; cases h
  | some is =>
    rw [e] at h
    have h : (tupsD ds).map (is :: ·) = some ts := h
    cases e2 : tupsD ds with
    | none => rw [e2] at h; cases h
    | some r =>
      rw [e2] at h
      cases h
      exact ⟨is, r, rfl, by rw [intsD_eq e], rfl⟩
/-- a value that is a tuple of the ints t -/
def TAt (Hf : Hp) (x : V) (t : List Int) : Prop := ∃ a, x = .ref a ∧ Hf a = some (.tup (t.map V.int))
theorem tAt_of {K : PySem.W.Frag} {Hf : Hp} : ∀ {xs : List V} {ds : List PyData} {ts : List (List Int)}, Reps K Hf xs ds → tupsD ds = some ts → Paired (TAt Hf) xs ts
  | _, _, ts, .nil, h => by cases h; exact .nil
  | _, _, ts, .cons r t, h => by
    obtain ⟨u, v, rfl, rfl, h2⟩ := tupsD_cons h
    refine .cons ?_ (tAt_of t h2)
    cases r with
    | tup h1 rs =>
      obtain ⟨e1, e2⟩ := Reps.ints rs (is := u) (by
        clear h2 h1 rs h
        induction u with
        | nil => rfl
        | cons i u ih =>
          show (intsD (u.map PyData.int)).map (i :: ·) = _
          rw [ih]
          rfl)
      rw [e1] at h1
      exact ⟨_, rfl, h1⟩
theorem reps_tAt {K : PySem.W.Frag} {Hf : Hp} : ∀ {xs : List V} {ts : List (List Int)}, Paired (TAt Hf) xs ts → Reps K Hf xs (ts.map fun t => .tuple (t.map .int))
  | _, _, .nil => .nil
  | _, _, .cons ⟨a, e, h⟩ t => by
    subst e
    exact .cons (.tup h (Reps.ofInts _)) (reps_tAt t)
/-- the ints of a tuple, by the heap -/
def keyI (h : Heap) (v : Value) : List Int := ((G.tupKeyC h (fun _ => false) v).getD []).map fun z => match z with
  | .inl i => i
  | .inr _ => 0
theorem tupItems_ints : ∀ {t : List Int} {us : List Value} {i : Nat}, Vals (t.map V.int) us → tupItems (fun _ => false) i us = some (t.map Sum.inl)
  | [], _, _, .nil => rfl
  | n :: t, _, i, .cons r rt => by
    obtain ⟨tk, r⟩ := (show ∃ tk, _ = Value.int n tk from r)
    subst r
    show (if (false = true) then none else (tupItems (fun _ => false) (i + 1) _).map (Sum.inl n :: ·)) = _
    rw [if_neg Bool.false_ne_true, tupItems_ints rt]
    rfl
theorem key_at {X : Cx} {pins : List (Addr × Obj)} {σ : L2.St} {H Hf : Hp} {sh : Shared} (I : Inv X pins σ H sh) (sub : Same Hf H) {x : V} {t : List Int} {u : Value} (h : TAt Hf x t) (r : RelV x u) :
    ∃ a o vs n, x = .ref a ∧ u = .ref a ∧ Hf a = some (.tup (t.map V.int)) ∧ sh.heap.get? a = some o ∧ o.cls = .type "tuple" ∧ o.data = .seq vs n ∧ Vals (t.map V.int) vs.toList ∧ G.tupKeyC sh.heap (fun _ => false) u = some (t.map Sum.inl) ∧ keyI sh.heap u = t := by
  obtain ⟨a, rfl, ha⟩ := h
  have r : u = Value.ref a := r
  subst r
  obtain ⟨_, its, rv, o, h1, h2, n, h3⟩ := (show ObjOk X.prog X.w H sh.heap a (.tup (t.map V.int)) from I.hok a _ (sub _ _ ha))
  have k : G.tupKeyC sh.heap (fun _ => false) (.ref a) = some (t.map Sum.inl) := by
    unfold G.tupKeyC
    rw [if_pos (by unfold G.isTupObj; simp only [h1, h2]; rfl)]
    unfold tupKey
    simp only [h1, h3]
    exact tupItems_ints (by simpa using rv)
  refine ⟨a, o, its.toArray, n, rfl, rfl, ha, h1, h2, by simpa using h3, by simpa using rv, k, ?_⟩
  unfold keyI
  rw [k]
  show (t.map Sum.inl).map _ = t
  rw [List.map_map]
  exact List.map_id' t
end Vm

set_option Elab.async false
set_option linter.all false
set_option maxRecDepth 100000
set_option maxHeartbeats 4000000
/-! Vm: sorted, the rule. -/
namespace Vm
open PySem PySem.Spec PyProof.Rows L2
/-- what is known of each item -/
def TVal (h : Heap) (Hf : Hp) (v : Value) : Prop := ∃ a t, v = .ref a ∧ Hf a = some (.tup (t.map V.int)) ∧ keyI h v = t ∧ G.tupKeyC h (fun _ => false) v = some (t.map Sum.inl) ∧ (t ≠ [] → ∃ f, TupOf h (fun _ => false) v f)
section
variable {X : Cx} {pins : List (Addr × Obj)} {σ : L2.St} {H Hf : Hp} {sh : Shared}
theorem tVal_of (I : Inv X pins σ H sh) (sub : Same Hf H) {x : V} {t : List Int} {u : Value} (h : TAt Hf x t) (r : RelV x u) : TVal sh.heap Hf u ∧ keyI sh.heap u = t := by
  obtain ⟨a, o, vs, n, rfl, rfl, h1, h2, h3, h4, h5, h6, h7⟩ := key_at I sub h r
  refine ⟨⟨a, t, rfl, h1, h7, h6, fun ne => ?_⟩, h7⟩
  cases t with
  | nil => exact absurd rfl ne
  | cons i t =>
    cases e : vs.toList with
    | nil =>
      rw [e] at h5
      cases h5
    | cons v vl =>
      rw [e] at h5
      cases h5 with
      | cons r rt =>
        obtain ⟨tk, r⟩ := (show ∃ tk, v = Value.int i tk from r)
        subst r
        refine ⟨.int i tk, a, o, vs, n, rfl, h2, h3, h4, ?_, fun _ => ⟨i, tk, rfl⟩, fun z => by cases z⟩
        rw [← Array.getElem?_toList, e]
        rfl
theorem tVals_of (I : Inv X pins σ H sh) (sub : Same Hf H) : ∀ {xs : List V} {ts : List (List Int)} {us : List Value}, Paired (TAt Hf) xs ts → Vals xs us → (∀ v ∈ us, TVal sh.heap Hf v) ∧ us.map (keyI sh.heap) = ts
  | _, _, _, .nil, .nil => ⟨(fun v hv => by cases hv), rfl⟩
  | _, _, _, .cons h t, .cons r rt => by
    obtain ⟨h1, h2⟩ := tVal_of I sub h r
    obtain ⟨h3, h4⟩ := tVals_of I sub t rt
    refine ⟨fun v hv => ?_, by rw [List.map_cons, h2, h4]⟩
    rcases List.mem_cons.mp hv with e | hv
    · rw [e]; exact h1
    · exact h3 v hv
theorem tupsOf_all {h : Heap} : ∀ {us : List Value}, (∀ v ∈ us, TVal h Hf v) → (∀ v ∈ us, keyI h v ≠ []) → ∃ fs, TupsOf h (fun _ => false) us fs
  | [], _, _ => ⟨[], .nil⟩
  | u :: us, h1, h2 => by
    obtain ⟨fs, h3⟩ := tupsOf_all (fun v hv => h1 v (List.mem_cons_of_mem _ hv)) fun v hv => h2 v (List.mem_cons_of_mem _ hv)
    obtain ⟨a, t, e1, e2, e3, e4, e5⟩ := h1 u List.mem_cons_self
    obtain ⟨f, hf⟩ := e5 (by rw [← e3]; exact h2 u List.mem_cons_self)
    exact ⟨f :: fs, .cons hf h3⟩
def refV1 : Value → V
  | .ref a => .ref a
  | _ => .non
theorem vals_back {h : Heap} : ∀ {us : List Value}, (∀ v ∈ us, TVal h Hf v) → Vals (us.map refV1) us ∧ Paired (TAt Hf) (us.map refV1) (us.map (keyI h))
  | [], _ => ⟨.nil, .nil⟩
  | u :: us, h1 => by
    obtain ⟨h3, h4⟩ := vals_back fun v hv => h1 v (List.mem_cons_of_mem _ hv)
    obtain ⟨a, t, e1, e2, e3, _⟩ := h1 u List.mem_cons_self
    subst e1
    exact ⟨.cons rfl h3, .cons ⟨a, rfl, by rw [e3]; exact e2⟩ h4⟩
theorem zip_self : ∀ {us : List Value} {p : Value × Value}, p ∈ us.zip us → p.1 = p.2 ∧ p.2 ∈ us
  | u :: us, p, h => by
    rcases List.mem_cons.mp (show p ∈ (u, u) :: us.zip us from h) with e | h
    · rw [e]; exact ⟨rfl, List.mem_cons_self⟩
    · obtain ⟨h1, h2⟩ := zip_self h
      exact ⟨h1, List.mem_cons_of_mem _ h2⟩
theorem zip_snd : ∀ us : List Value, (us.zip us).map (·.2) = us
  | [] => rfl
  | u :: us => congrArg (u :: ·) (zip_snd us)
/-- tuples of ints sorted -/
theorem sort_run {l : Addr} {us : List Value} {ts : List (List Int)} {Q : VK} (I : Inv X pins σ H sh) (hl : sh.heap.IsList l us.toArray) (hz : us.length ≤ sizeLine) (h1 : ∀ v ∈ us, TVal sh.heap Hf v) (h2 : us.map (keyI sh.heap) = ts) (h3 : ∀ t ∈ ts, t ≠ [])
    (q : ∀ ys p, Paired (TAt Hf) ys (sortT ts) → H p = none → Q (.ref p) (upd H p (.lst ys))) : wpAny (model X.prog X.w) X.A (call (.builtin "sorted") [.ref l]) (EP X pins σ Q) X.xe sh := by
  obtain ⟨fs, hf⟩ := tupsOf_all h1 fun v hv => h3 _ (by rw [← h2]; exact List.mem_map_of_mem hv)
  refine G.sorted_tups hl hf (fun v hv => let ⟨a, t, _, _, _, e, _⟩ := h1 v hv; ⟨_, e⟩) hz fun st' hp hs _ => ?_
  have pl : (arrOf st').toList.Perm (us.zip us) := by
    rw [← pairsOf_toList]
    exact hp.toList
  have po : ((arrOf st').toList.map (·.2)).Perm us := by
    have := pl.map (·.2)
    rw [zip_snd] at this
    exact this
  have hv : ∀ v ∈ (arrOf st').toList.map (·.2), TVal sh.heap Hf v := fun v hv => h1 v (po.mem_iff.mp hv)
  obtain ⟨b1, b2⟩ := vals_back hv
  have sorted : (((arrOf st').toList.map (·.2)).map (keyI sh.heap)).Pairwise fun a b => leInts a b = true := by
    rw [List.pairwise_iff_getElem]
    intro i j hi hj hij
    rw [List.length_map, List.length_map, Array.length_toList] at hi hj
    have ps : (arrOf st').size = (pairsOf us).size := hp.size_eq
    have k := hs i j (Nat.le_of_lt hij) (by rw [← ps]; exact hj)
    have at_ : ∀ m (hm : m < (arrOf st').size), KK (G.tupKindC sh.heap fun _ => false) (arrOf st') m = (keyI sh.heap ((arrOf st')[m]).2).map Sum.inl := fun m hm => by
      have mem : (arrOf st')[m] ∈ us.zip us := pl.mem_iff.mp (by rw [Array.mem_toList_iff]; exact Array.getElem_mem hm)
      obtain ⟨z1, z2⟩ := zip_self mem
      obtain ⟨a, t, _, _, e3, e4, _⟩ := h1 _ z2
      unfold KK
      rw [Array.getElem?_eq_getElem hm]
      show ((G.tupKeyC sh.heap (fun _ => false) ((arrOf st')[m]).1).getD []) = _
      rw [z1, e4, e3]
      rfl
    rw [at_ i hi, at_ j hj] at k
    simp only [List.getElem_map, Array.getElem_toList]
    exact lex_le _ _ k
  have et := sortT_of (ts := ts) (by rw [← h2]; exact po.map _) sorted
  rw [et] at b2
  obtain ⟨ep, he⟩ := PyProof.Rows.sortedAll_at sh.heap us ((arrOf st').map (·.2))
  have hlen : (((arrOf st').toList.map (·.2)).map refV1).length ≤ sizeLine := by
    rw [List.length_map, po.length_eq]
    exact hz
  refine ⟨.ref _, upd H (sh.heap.objs.size + 1) (.lst (((arrOf st').toList.map (·.2)).map refV1)), I.laid (t' := sh.toks) (fun _ _ => PyProof.Rows.sortedAll_old) (Nat.le_succ _) ⟨hlen, _, ep, b1, ?_⟩, rfl, q _ _ b2 (I.hok.fresh (Nat.le_succ _))⟩
  rw [he]
  simp only [Option.some.injEq]
  refine congrArg (fun z => seqObj "list" z ep) (Array.toList_inj.mp ?_)
  simp
end
theorem cb_sorted {X : Cx} : CallR X (.builtin "sorted") (rC X.K biSorted) := by
  intro pins s σ H xs us Q I rv h
  obtain ⟨st, ρ, Hf, rs, ds, r, w, rr, vv, e, p⟩ := h.un
  have one1 : ∃ es, ds = [.list es] := by
    cases ds with
    | nil => cases e
    | cons d ds => cases ds with
      | nil => cases d <;> first | exact ⟨_, rfl⟩ | cases e
      | cons _ _ => cases d <;> cases e
  obtain ⟨es, rfl⟩ := one1
  obtain ⟨r0, x, rfl, rfl, h1, h2⟩ := one rr vv
  obtain ⟨a, ys, rfl, q1, q2⟩ := h1.lst w h2
  have e : (sortD es).map (fun es => R.n (.list es)) = some r := e
  unfold sortD at e
  cases ei : intsD es with
  | some is =>
    rw [ei] at e
    cases e
    obtain ⟨z1, z2⟩ := Reps.ints q2 ei
    rw [z1] at q1
    refine cr_sortedI pins s σ H _ us Q I rv ⟨a, is, rfl, q1, fun ns' p' g1 g2 hp => ?_⟩
    rw [sortI_of g1 g2]
    exact p.newL w (Reps.ofInts _) hp
  | none =>
    rw [ei] at e
    cases et : tupsD es with
    | none => rw [et] at e; cases e
    | some ts =>
      rw [et] at e
      have e : (if ts.all (fun t => !t.isEmpty) = true then some ((sortT ts).map fun t => PyData.tuple (t.map .int)) else none).map (fun es => R.n (.list es)) = some r := e
      by_cases k : ts.all (fun t => !t.isEmpty) = true
      · rw [if_pos k] at e
        cases e
        obtain ⟨its, rvs, pl, hz⟩ := I.list q1
        obtain ⟨g1, g2⟩ := tVals_of I w.sub (tAt_of q2 et) rvs
        cases rv with
        | cons r1 rt =>
          cases rt
          have r1 : _ = Value.ref a := r1
          rw [r1]
          refine sort_run I pl.isList (by rw [← rvs.length]; exact hz) g1 g2 (fun t ht z => ?_) fun zs p' pr hp => p.newL w (reps_tAt pr) hp
          have := List.all_eq_true.mp k t ht
          rw [z] at this
          cases this
      · rw [if_neg k] at e
        cases e
end Vm

set_option Elab.async false
set_option linter.all false
set_option maxRecDepth 100000
set_option maxHeartbeats 4000000
/-! Vm: sets of ints and texts, made by comprehensions. -/
namespace Vm
open PySem PySem.Spec PyProof.Rows L2
section
variable {X : Cx}
/-- {elt for tg in it if ..}, ints and texts: D the set as it grows -/
def tSk (P : Program) (wo : World) (wi : TI) (g : TG) (tt : TT) (te : TE) (own : List Nat) : TE := fun σ H Q => wi σ H fun J G1 => ∀ D, G1 D = none →
  ∃ W : Nat → Nat → Hp → Prop, (∃ m, W 0 m (upd G1 D (SetK P wo D (fun _ => false) 0))) ∧ ∀ i m G, W i m G →
    (J.stop i G ∧ Q (.ref D) G) ∨ (J.go i G ∧ ∃ Nx : Hp → Prop, (∀ G', Nx G' → ∃ k, k < m ∧ W (i + 1) k G') ∧ ∀ x G', J.yld i G x G' → g x (L2.wipe σ own) G' fun σ2 G2 => L2.wipe σ2 own = L2.wipe σ own ∧ tt σ2 G2 fun b G3 =>
      if b = true then te σ2 G3 fun y G4 => ∃ (c : Key) (S : Key → Bool) (n : Nat), y = kV c ∧ G4 D = some (SetK P wo D S n) ∧ n + 1 < scanBound ∧ Nx (upd G4 D (SetK P wo D (fun j => S j || decide (j = c)) (if S c = true then n else n + 1))) else Nx G3)
theorem setK_empty {P : Program} {wo : World} {h : Heap} : (h.push { cls := .type "set", dict := none, data := .set #[] 0 (.fresh 0 0 (!wo.params.followText "set-order")) }).SetOf (mixKind P wo) h.objs.size (fun _ => false) 0 :=
  ⟨_, #[], 0, _, Heap.get?_push_size _ rfl, ⟨rfl, rfl, rfl⟩, rfl, (fun e he => by simp at he), (fun k => by simp), (by decide), (by rfl), rfl⟩
theorem pe_sk {elt tg it : Expr} {ifs : List Expr} {scope : Scope} {own : List (PySem.Str × Nat)} {pos : Pos} {wi : TI} {g : TG} {tt : TT} {te : TE} (calm : X.calm = true) (nd : X.N.Nodup) (hi : PI X tg it wi) (bo : BlkOk X.N X.env.scope scope own)
    (hg : ∀ (s : Shared) (H : Hp) (C : Addr) (cl : List (PySem.Str × Addr)) (fp : List Addr), PG (X.blk s H scope (compEnvC scope cl C X.env) fp) tg g)
    (ht : ∀ (s : Shared) (H : Hp) (C : Addr) (cl : List (PySem.Str × Addr)) (fp : List Addr), PTs (X.blk s H scope (compEnvC scope cl C X.env) fp) ifs tt)
    (he : ∀ (s : Shared) (H : Hp) (C : Addr) (cl : List (PySem.Str × Addr)) (fp : List Addr), PE (X.blk s H scope (compEnvC scope cl C X.env) fp) elt te) (nf : ∀ x, foldedSetIterable it X.env x = pure x) :
    PE X (.SetComp elt [⟨tg, it, ifs, 0⟩] scope pos) (tSk X.prog X.w wi g tt te (own.map (·.2))) := by
  refine ⟨fun pins a0 σ H Q I0 rd => ?_⟩
  rw [PpSet.eval_SetComp]
  have caught : ∀ y ∈ scope.names, y.2 = .free → ∃ c, X.env.cells.lookup y.1 = some c := fun y hy e => (bo.free y hy e).elim (fun k => I0.ok.has _ (.inl k)) fun k => I0.ok.has _ (.inr k)
  refine wpAny_comprehension_free rfl nf (closure_ok caught) bo.kind (fun y hy e => by rw [bo.uniq y hy, e]) (thn (hi.run pins a0 σ H _ I0 rd) fun xv a1 hx => thn hx fun itv a2 hy => ?_)
  obtain ⟨itr, fp, tn, J, G2, rfl, I2, T, st2, f2, rest⟩ := hy
  refine PpSet.newSet_ok (newEnv_comp ?_)
  have emp := setK_empty (P := X.prog) (wo := X.w) (h := a2.heap)
  generalize hobj : ({ cls := .type "set", dict := none, data := .set #[] 0 (.fresh 0 0 (!X.w.params.followText "set-order")) } : Obj) = ob at emp ⊢
  generalize hD : a2.heap.objs.size = D at emp ⊢
  have dn : G2 D = none := I2.hok.fresh (Nat.le_of_eq hD)
  obtain ⟨W, ⟨m0, w0⟩, turn⟩ := rest D dn
  have old : ∀ b o, a2.heap.get? b = some o → (a2.heap.push ob).get? b = some o := fun b o e => Heap.get?_push_of_some _ e
  have I3 : Inv X pins σ (upd G2 D (SetK X.prog X.w D (fun _ => false) 0)) { a2 with heap := a2.heap.push ob } := I2.laid (t' := a2.toks) old (Nat.le_of_eq hD) (setK_new emp)
  generalize hG3 : upd G2 D (SetK X.prog X.w D (fun _ => false) 0) = G3 at I3 w0
  have lt2 : ∀ b ∈ fp, b < a2.heap.objs.size := fun b hb => let ⟨o, e, _⟩ := T.obj _ _ st2 b hb; Heap.lt_size e
  have f3 : ∀ b ∈ fp, FpOk X pins G3 b ∧ b < (a2.heap.push ob).objs.size := fun b hb => by
    have l := lt2 b hb
    refine ⟨⟨?_, (f2 b hb).2⟩, by rw [Heap.size_push]; exact Nat.lt_succ_of_lt l⟩
    rw [← hG3, upd_ne (by rw [← hD]; exact Nat.ne_of_lt l)]
    exact (f2 b hb).1
  have st3 : tn 0 (a2.heap.push ob) := T.keep _ _ _ st2 fun b _ o e => old b o e
  generalize ha3 : ({ a2 with heap := a2.heap.push ob } : Shared) = a3 at I3
  have hh3 : a3.heap = a2.heap.push ob := by rw [← ha3]
  rw [← hh3] at f3 st3
  have I4 := block_start I3 bo nd f3
  have ggs := hg a3 G3 a3.heap.objs.size (cellsFrom (a3.heap.objs.size + 1) scope.names (cloFrom X.env.cells scope.names [])) fp
  have tts := ht a3 G3 a3.heap.objs.size (cellsFrom (a3.heap.objs.size + 1) scope.names (cloFrom X.env.cells scope.names [])) fp
  have ees := he a3 G3 a3.heap.objs.size (cellsFrom (a3.heap.objs.size + 1) scope.names (cloFrom X.env.cells scope.names [])) fp
  generalize hce : compEnvC scope (cellsFrom (a3.heap.objs.size + 1) scope.names (cloFrom X.env.cells scope.names [])) a3.heap.objs.size X.env = ev at I4 ggs tts ees
  have locE : ev.locals = a3.heap.objs.size := by rw [← hce]; rfl
  show codeAny (model X.prog X.w) X.A (.compStart (.SetComp elt [⟨tg, it, ifs, 0⟩] scope pos) 0 (.ref itr) (.ref D) (compEnvC scope (cellsFrom (a3.heap.objs.size + 1) scope.names (cloFrom X.env.cells scope.names [])) a3.heap.objs.size X.env)) _ _
  rw [hce]
  generalize ha4 : ({ a3 with heap := pushCells (a3.heap.push { cls := .type "dict", data := .dict #[] }) scope.names } : Shared) = a4 at I4
  have st4 : tn 0 a4.heap := T.keep _ _ _ st3 fun b _ o e => by rw [← ha4]; exact pushCells_keeps _ _ _ _ (Heap.get?_push_of_some _ e)
  have away : ∀ {σ' : L2.St} {G' : Hp} {s' : Shared}, Inv (X.blk a3 G3 scope ev fp) [] σ' G' s' → (∀ b ∈ fp, G' b = none) → ∀ b ∈ fp, FpOk (X.blk a3 G3 scope ev fp) [] G' b := fun {σ' G' s'} I' hn b hb =>
    ⟨hn b hb, (I'.ok.exf b hb).1, I'.ok.exfs b hb, .inl hb, fun x c e => (I'.ok.exf b hb).2 x c e, fun p hp => by cases hp⟩
  have loop : codeAny (model X.prog X.w) X.A (.compLoop (.SetComp elt [⟨tg, it, ifs, 0⟩] scope pos) 0 (.ref itr) (.ref D) ev) (compPost (model X.prog X.w) X.A X.xe none (EP X pins σ Q) (.ref D) a3.heap.objs.size) a4 := by
    refine PpSet.compLoopS_any (fun n s' => ∃ i G', Inv (X.blk a3 G3 scope ev fp) [] (L2.wipe σ (own.map (·.2))) G' s' ∧ tn i s'.heap ∧ (∀ b ∈ fp, G' b = none) ∧ W i n G') ?_ m0 ⟨0, G3, I4, st4, (fun b hb => (f3 b hb).1.1), w0⟩
    rintro n a5 ⟨i, G5, I5, st5, n5, w5⟩
    rcases turn i n G5 w5 with ⟨stop, done⟩ | ⟨go, Nx, nxt, step⟩
    · refine thnF (T.done (X.blk a3 G3 scope ev fp) rfl rfl rfl calm i [] a5 _ G5 (fun _ _ => False) I5 (away I5 n5) st5 stop) fun r a6 ⟨hr, I6⟩ => ?_
      subst hr
      have I7 : Inv X pins σ G5 a6 := I3.call' (ch := fp) I6.os I6.base I6.hok I6.bare fun b hb => let z := (f3 b hb).1; ⟨z.2.2.2.1, z.2.1, z.2.2.2.2.1, z.2.2.2.2.2⟩
      have free : G5 a3.heap.objs.size = none := by
        have z : G5 ev.locals = none := I6.free
        rwa [locE] at z
      obtain ⟨mm, hn, _⟩ := I6.loc
      have hn : a6.heap.Ns ev.locals mm := hn
      rw [locE] at hn
      obtain ⟨f0, f1, f2', f3', f4, f5⟩ := I3.fpOk (Nat.le_refl _) free
      exact ⟨mm, hn, fun h'' sb => ⟨.ref D, G5, I7.turned (t' := a6.toks) (fun b o hb e => (sb.2 b hb).trans e) f0 f1 f3' f4 f5, rfl, done⟩⟩
    · refine thnF (T.item (X.blk a3 G3 scope ev fp) rfl rfl rfl calm i [] a5 _ G5 (fun _ _ => False) I5 (away I5 n5) st5 go) fun r a6 ⟨u, hr, h6⟩ => ?_
      subst hr
      refine thnF h6 fun _ a7 ⟨x, G7, I7, r7, y7, st7, n7⟩ => ?_
      have pinned := I7.pinned (away I7 n7) (T.obj _ _ st7)
      refine thnF (ggs.run _ a7 _ G7 x u _ pinned r7 (step x G7 y7)) fun _ a8 ⟨σ8, G8, I8, hw, q8⟩ => ?_
      refine thnF (tts.run _ a8 σ8 G8 _ I8 q8) fun b a9 ⟨G9, I9, q9⟩ => ?_
      have fin : ∀ {s' : Shared} {G' : Hp}, Inv (X.blk a3 G3 scope ev fp) ([] ++ pinsAt fp a7.heap) σ8 G' s' → Nx G' → ∃ m, m < n ∧ ∃ i G', Inv (X.blk a3 G3 scope ev fp) [] (L2.wipe σ (own.map (·.2))) G' s' ∧ tn i s'.heap ∧ (∀ b ∈ fp, G' b = none) ∧ W i m G' := fun {s' G'} I' nx => by
        obtain ⟨m', hm, w'⟩ := nxt G' nx
        have held : ∀ b ∈ fp, ∀ o, a7.heap.get? b = some o → s'.heap.get? b = some o ∧ G' b = none := fun b hb o e =>
          let z := I'.pin (b, o) (List.mem_append_right _ (List.mem_append_right _ (mem_pinsAt hb e)))
          ⟨z.1, z.2.1⟩
        refine ⟨m', hm, i + 1, G', (I'.unpinned (pins := [])).weak (by rw [← hw, wipe_length]) (fun j v e => by rw [← hw] at e; exact (wipe_some e).1), T.keep _ _ _ st7 fun b hb o e => (held b hb o e).1, fun b hb => ?_, w'⟩
        obtain ⟨o, e, _⟩ := T.obj _ _ st7 b hb
        exact (held b hb o e).2
      cases b with
      | false =>
        rw [if_neg Bool.false_ne_true] at q9 ⊢
        exact fin I9 q9
      | true =>
        rw [if_pos rfl] at q9 ⊢
        refine thnF (ees.run _ a9 σ8 G9 _ I9 q9) fun z a10 ⟨yv, G10, I10, r10, c, S, k, ey, e10, room, nx⟩ => ?_
        subst ey
        refine wpAny_mono (mt_saddK (X := X.blk a3 G3 scope ev fp) _ a10 σ8 G10 (.ref D) [kV c] (.ref D) [z] (fun v G' => v = .non ∧ Nx G') I10 rfl (.cons r10 .nil) ⟨D, c, S, k, rfl, rfl, e10, room, rfl, nx⟩) (fun v a11 ⟨v', G11, I11, _, _, nx'⟩ => fin I11 nx') fun _ _ z => z.elim
  exact PpSet.codeAny_compStart_set loop (T.self X.A 0 _ _ _ st4 loop)
end
end Vm

set_option Elab.async false
set_option linter.all false
set_option maxRecDepth 100000
set_option maxHeartbeats 4000000
/-! Vm: len({..}). -/
namespace Vm
open PySem PySem.Spec PyProof.Rows L2
/-! ### items told once -/
theorem dedup_snoc : ∀ (ds : List D) (d : D) (acc : List D), dedupD (ds ++ [d]) acc = if (dedupD ds acc).any (fun z => PyData.eqv z d) = true then dedupD ds acc else dedupD ds acc ++ [d]
  | [], d, acc => by
    have e0 : dedupD [] acc = acc.reverse := by unfold dedupD; rfl
    have e1 : dedupD ([] ++ [d]) acc = if acc.any (fun z => PyData.eqv z d) = true then acc.reverse else (d :: acc).reverse := by
      show dedupD [d] acc = _
      unfold dedupD
      unfold dedupD
      rfl
    rw [e1, e0, List.any_reverse, List.reverse_cons]
  | e :: ds, d, acc => by
    have e1 : dedupD (e :: ds ++ [d]) acc = if acc.any (fun z => PyData.eqv z e) = true then dedupD (ds ++ [d]) acc else dedupD (ds ++ [d]) (e :: acc) := by
      show dedupD (e :: (ds ++ [d])) acc = _
      conv => lhs; unfold dedupD
    have e2 : dedupD (e :: ds) acc = if acc.any (fun z => PyData.eqv z e) = true then dedupD ds acc else dedupD ds (e :: acc) := by
      conv => lhs; unfold dedupD
    rw [e1, e2]
    by_cases k : acc.any (fun z => PyData.eqv z e) = true
    · rw [if_pos k, if_pos k]
      exact dedup_snoc ds d acc
    · rw [if_neg k, if_neg k]
      exact dedup_snoc ds d (e :: acc)
theorem dedup_len (ds : List D) : (dedupD ds []).length ≤ ds.length := by
  have h : ∀ (ds acc : List D), (dedupD ds acc).length ≤ ds.length + acc.length := by
    intro ds
    induction ds with
    | nil =>
      intro acc
      unfold dedupD
      simp
    | cons d ds ih =>
      intro acc
      unfold dedupD
      by_cases k : acc.any (fun z => PyData.eqv z d) = true
      · rw [if_pos k]
        have := ih acc
        simp only [List.length_cons]
        omega
      · rw [if_neg k]
        have := ih (d :: acc)
        simp only [List.length_cons] at this ⊢
        omega
  have := h ds []
  simpa using this
def atomK : D → Key
  | .int i => .inl i
  | .str x => .inr x
  | _ => .inl 0
theorem atomK_eq {d : D} (h : isAtom d = true) : keyD (atomK d) = d := by
  cases d <;> first | rfl | cases h
theorem keyD_inj {a b : Key} (h : keyD a = keyD b) : a = b := by
  cases a <;> cases b <;> cases h <;> rfl
theorem keyD_atom (k : Key) : isAtom (keyD k) = true := by cases k <;> rfl
theorem eqv_key (a b : Key) : PyData.eqv (keyD a) (keyD b) = decide (a = b) := by
  cases a with
  | inl i =>
    cases b with
    | inl j =>
      show PyData.eqv (.int i) (.int j) = _
      by_cases h : i = j
      · subst h; simp [PyData.eqv]
      · simp [PyData.eqv, h]
    | inr y => simp [keyD, PyData.eqv]
  | inr x =>
    cases b with
    | inl j => simp [keyD, PyData.eqv]
    | inr y =>
      show PyData.eqv (.str x) (.str y) = _
      by_cases h : x = y
      · subst h; simp [PyData.eqv]
      · simp [PyData.eqv, h]
def hasK (ks : List Key) (c : Key) : Bool := ks.any fun k => decide (k = c)
theorem hasK_app {ks : List Key} {l c : Key} : hasK (ks ++ [l]) c = (hasK ks c || decide (l = c)) := by
  unfold hasK
  simp [List.any_append]
/-- the set's members, its size, by the items met -/
structure SetAt (ks : List Key) (S : Key → Bool) (n : Nat) : Prop where
  mem : ∀ j, S j = hasK ks j
  len : n = (dedupD (ks.map keyD) []).length
theorem snoc_of {α : Type} : ∀ {l : List α} {n : Nat}, l.length = n + 1 → ∃ a b, l = a ++ [b] ∧ a.length = n
  | [x], n, h => ⟨[], x, rfl, by have : 1 = n + 1 := h; show 0 = n; omega⟩
  | x :: y :: r, n, h => by
    cases n with
    | zero => simp at h
    | succ n =>
      obtain ⟨a, b, e, hl⟩ := snoc_of (l := y :: r) (n := n) (by simpa using h)
      exact ⟨x :: a, b, by rw [e]; rfl, by simp [hl]⟩
theorem dedup_mem (ks : List Key) (c : Key) : (dedupD (ks.map keyD) []).any (fun z => PyData.eqv z (keyD c)) = hasK ks c := by
  -- from the back
  have key : ∀ n (ks : List Key), ks.length = n → ∀ c, (dedupD (ks.map keyD) []).any (fun z => PyData.eqv z (keyD c)) = hasK ks c := by
    intro n
    induction n with
    | zero =>
      intro ks h c
      have e : ks = [] := List.eq_nil_of_length_eq_zero h
      subst e
      have e0 : dedupD (([] : List Key).map keyD) [] = [] := by
        show dedupD [] [] = []
        unfold dedupD
        rfl
      rw [e0]
      rfl
    | succ n ih =>
      intro ks h c
      obtain ⟨ls, l, rfl, hl⟩ := snoc_of h
      have i1 := ih ls hl c
      have j1 := ih ls hl l
      rw [List.map_append, List.map_singleton, dedup_snoc, j1, hasK_app]
      cases m : hasK ls l with
      | true =>
        rw [if_pos rfl, i1]
        by_cases e : l = c
        · subst e
          rw [m]
          rfl
        · simp [e]
      | false =>
        rw [if_neg Bool.false_ne_true, List.any_append, i1]
        simp only [List.any_cons, List.any_nil, Bool.or_false, eqv_key]
  exact key _ ks rfl c
theorem SetAt.nil : SetAt [] (fun _ => false) 0 := ⟨fun j => rfl, by show 0 = (dedupD [] []).length; unfold dedupD; rfl⟩
theorem SetAt.add {ks : List Key} {S : Key → Bool} {n : Nat} (h : SetAt ks S n) (c : Key) : SetAt (ks ++ [c]) (fun j => S j || decide (j = c)) (if S c = true then n else n + 1) := by
  refine ⟨fun j => ?_, ?_⟩
  · show (S j || decide (j = c)) = _
    rw [hasK_app, h.mem]
    congr 1
    rw [decide_eq_decide]
    exact eq_comm
  · rw [List.map_append, List.map_singleton, dedup_snoc, dedup_mem, h.mem]
    cases m : hasK ks c with
    | true => rw [if_pos rfl, if_pos rfl]; exact h.len
    | false => rw [if_neg Bool.false_ne_true, if_neg Bool.false_ne_true, List.length_append, h.len]; rfl
/-! ### len -/
def rLenSk (P : Program) (wo : World) : List V → Hp → VK → Prop := fun xs H Q => ∃ (a : Addr) (S : Key → Bool) (n : Nat), xs = [.ref a] ∧ H a = some (SetK P wo a S n) ∧ Q (.int n) H
theorem cr_lenSk {X : Cx} : CallR X (.builtin "len") (rLenSk X.prog X.w) := by
  intro pins s σ H xs us Q I rv h
  obtain ⟨a, S, n, rfl, ha, q⟩ := h
  cases rv with
  | cons r rt =>
    cases rt
    have r : _ = Value.ref a := r
    subst r
    obtain ⟨o, es, ep, t, ho, hex, hd, _, _, hsz, hf, hn⟩ := setK_get I ha
    refine call_len_set ho hex hd hf (by unfold scanBound at hsz; omega) ⟨.int n, H, I.tok _, ⟨_, by rw [hn]⟩, q⟩
/-! ### the comprehension's run -/
structure SAcc (P : Program) (wo : World) (s : Sto) (ρ : Rho) (Hf H : Hp) (D : Addr) (ds : List PyData) : Prop where
  ex : ∃ ks S n, ds = ks.map keyD ∧ SetAt ks S n ∧ H D = some (SetK P wo D S n)
  own : Hf D = none
  nl : ∀ k d, live s k d → ρ[k]? ≠ some D
theorem SAcc.ext {P : Program} {wo : World} {s s' : Sto} {ρ ρ' : Rho} {Hf H Hf' H' : Hp} {D : Addr} {ds : List PyData} (h : SAcc P wo s ρ Hf H D ds) (x : Ext s ρ Hf H s' ρ' Hf' H') : SAcc P wo s' ρ' Hf' H' D ds := by
  obtain ⟨ks, S, n, h1, h2, h3⟩ := h.ex
  obtain ⟨g1, g2, g3⟩ := x.keep D _ h3 h.nl
  exact ⟨⟨ks, S, n, h1, h2, g1⟩, g2 h.own, g3⟩
theorem keys_of : ∀ {ds : List PyData}, ds.all isAtom = true → ds = (ds.map atomK).map keyD
  | [], _ => rfl
  | d :: ds, h => by
    rw [List.all_cons, Bool.and_eq_true] at h
    rw [List.map_cons, List.map_cons, atomK_eq h.1, ← keys_of h.2]
theorem rep_atom {K : PySem.W.Frag} {H : Hp} {x : V} {d : PyData} (r : Rep K H x d) (h : isAtom d = true) : ∃ c, x = kV c ∧ d = keyD c := by
  cases r <;> first | (cases h; done) | skip
  · rename_i i
    exact ⟨.inl i, rfl, rfl⟩
  · rename_i z
    exact ⟨.inr z, rfl, rfl⟩
section
variable {C : Cfg} {w : Wk} {g : Tg} {ts : List Co} {c : Co}
theorem lenSet_ok {es : List PyData} {r : R} (h : biD .lenSet [.list es] = some r) : es.all isAtom = true ∧ es.length < 2000 ∧ r = .v (.int (dedupD es []).length) := by
  have h : (if atomsOk es = true then some (R.v (.int (dedupD es []).length)) else none) = some r := h
  by_cases k : atomsOk es = true
  · rw [if_pos k] at h
    unfold atomsOk at k
    rw [Bool.and_eq_true, decide_eq_true_eq] at k
    exact ⟨k.1, k.2, (Option.some.inj h).symm⟩
  · rw [if_neg k] at h
    cases h
theorem sk_run {K : PySem.W.Frag} {P : Program} {wo : World} {env : Env} {s : Sto} {σ : L2.St} {H : Hp} {Q : VK} {vs : List Nat} (hv1 : ∀ i ∈ vs, i ∈ slots [g]) (hv2 : ∀ i ∈ slots [g], i ∈ vs) (h : TEv K env s (evE C (.sc .lenSet g w ts c) env s) σ H Q) :
    tSk P wo (Rdg K (ReI K) env s (evI C w env s)) (tgOf K g) (ttX K C ts) (teX K C c) vs σ H fun x H1 => rLenSk P wo [x] H1 Q := by
  unfold evE at h
  obtain ⟨ρ, Hf, w0, eo, h⟩ := h
  obtain ⟨q, s1, e1, h1⟩ := h.bind
  clear h
  refine ⟨ρ, Hf, w0, eo, ?_⟩
  rw [e1]
  intro J ρ1 Hf1 H1 w1 x1 sr D hD
  have h1 : Post K s ρ Hf H (ReR K) (bind (mapS q.1 (itemF C g ts c env) q.2 0) (fun ds => ofO (biD .lenSet [.list ds])) s1) Q := h1
  have n0 : H D = none := x1.grow D hD
  refine ⟨fun i m H' => ∃ s' ρ' Hf' ds, WOk K s' ρ' Hf' H' ∧ Ext s ρ Hf H s' ρ' Hf' H' ∧ Evo ρ1 Hf1 ρ' Hf' ∧ SAcc P wo s' ρ' Hf' H' D ds ∧ Post K s ρ Hf H (ReR K) (bind (mapS q.1 (itemF C g ts c env) m i) (fun l => ofO (biD .lenSet [.list (ds ++ l)])) s') Q, ?_, ?_⟩
  · have wn := w1.out (o := SetK P wo D (fun _ => false) 0) (D := D) (w1.fnone hD) (fun k d l => w1.ne hD l)
    exact ⟨q.2, s1, ρ1, Hf1, [], wn, x1.out n0, .refl, ⟨⟨[], _, 0, rfl, SetAt.nil, upd_same⟩, w1.fnone hD, fun k d l => w1.ne hD l⟩, h1⟩
  · rintro i m H2 ⟨s2, ρ2, Hf2, ds, w2, x02, x12, ac, p⟩
    cases m with
    | zero =>
      left
      obtain ⟨l, s3, e3, p1⟩ := p.bind
      unfold mapS at e3
      obtain ⟨n, s4, e4, e5⟩ := bind_ok e3
      obtain ⟨z, st⟩ := sr.stop _ _ _ _ _ _ x12 w2 e4
      subst z
      by_cases k : n = i
      · rw [if_pos k] at e5
        cases e5
        subst k
        rw [List.append_nil] at p1
        obtain ⟨r, e6, p2⟩ := post_o' p1
        obtain ⟨_, _, er⟩ := lenSet_ok e6
        subst er
        obtain ⟨ks, S, n, k1, k2, k3⟩ := ac.ex
        refine ⟨st, D, S, n, rfl, k3, ?_⟩
        rw [k2.len, ← k1]
        exact p2 _ ρ2 Hf2 H2 w2 x02 ⟨.v (.int _), trivial⟩
      · rw [if_neg k] at e5
        cases e5
    | succ m =>
      right
      have p : Post K s ρ Hf H (ReR K) (bind (bind (itemS q.1 i) fun d => bind (itemF C g ts c env d) fun a => bind (mapS q.1 (itemF C g ts c env) m (i + 1)) fun b => ret (a ++ b)) (fun l => ofO (biD .lenSet [.list (ds ++ l)])) s2) Q := p
      rw [bind_assoc] at p
      obtain ⟨d, s3, e3, p1⟩ := p.bind
      clear p
      obtain ⟨z, go, yl⟩ := sr.item _ _ _ _ _ _ _ x12 w2 e3
      subst z
      refine ⟨go, _, fun H' q' => ⟨m, Nat.lt_succ_self m, q'⟩, fun x H3 y => ?_⟩
      obtain ⟨Hf3, w3, x3, rx⟩ := yl x H3 y
      rw [bind_assoc] at p1
      unfold itemF at p1
      rw [bind_assoc] at p1
      obtain ⟨e', s4, e4, p2⟩ := p1.bind
      clear p1
      obtain ⟨eb, z⟩ := ofO_ok e4
      subst z
      refine tg_run (bindN_wipe eb hv1) w3 rx (((eo.ext x02).ext x3).wipe vs) fun σ' eo' hw => ⟨?_, ?_⟩
      · rw [hw vs hv2, wipe_wipe fun i hi => hi]
      · obtain ⟨l, s9, e9, p3⟩ := p2.bind
        clear p2
        obtain ⟨k, s5, e5, h5⟩ := bind_ok e9
        refine ⟨(e', _), ρ2, Hf3, w3, eo', ?_⟩
        show Post K _ ρ2 Hf3 H3 ReB (evAll C ts e' _) _
        rw [e5]
        intro b ρ5 Hf5 H5 w5 x5 ebk
        have ebk : k = b := ebk
        subst ebk
        have ac5 := (ac.ext x3).ext x5
        have x05 := (x02.trans x3).trans x5
        have v15 := x12.trans (x3.trans x5).evo
        -- the turn's rest, from what was met
        have again : ∀ fs s6, Post K s ρ Hf H (ReR K) (bind (bind (mapS q.1 (itemF C g ts c env) m (i + 1)) fun b => ret (fs ++ b)) (fun l => ofO (biD .lenSet [.list (ds ++ l)])) s6) Q → Post K s ρ Hf H (ReR K) (bind (mapS q.1 (itemF C g ts c env) m (i + 1)) (fun l => ofO (biD .lenSet [.list (ds ++ fs ++ l)])) s6) Q := fun fs s6 p6 => by
          rw [bind_assoc] at p6
          have e : (fun a => bind (ret (fs ++ a)) fun l => ofO (biD .lenSet [.list (ds ++ l)])) = fun l => ofO (biD .lenSet [.list (ds ++ fs ++ l)]) := by
            funext a s
            rw [List.append_assoc]
            rfl
          rw [e] at p6
          exact p6
        cases k with
        | false =>
          have h5 : Out.ok [] s5 = .ok l s9 := h5
          cases h5
          rw [if_neg Bool.false_ne_true]
          have p4 := again [] _ p3
          rw [List.append_nil] at p4
          exact ⟨_, ρ5, Hf5, ds, w5, x05, v15, ac5, p4⟩
        | true =>
          rw [if_pos rfl]
          have h5 : bind (evE C c e') (fun r => bind (take r) fun d => ret [d]) s5 = .ok l s9 := h5
          obtain ⟨r, s6, e6, h6⟩ := bind_ok h5
          obtain ⟨d2, s7, e7, h7⟩ := bind_ok h6
          cases h7
          have p4 := again [d2] _ p3
          -- what was met is of ints and texts
          obtain ⟨l8, s8, e8, p8⟩ := p4.bind
          obtain ⟨r9, e10, _⟩ := post_o' p8
          obtain ⟨at1, at2, _⟩ := lenSet_ok e10
          have ad : isAtom d2 = true := List.all_eq_true.mp at1 d2 (by simp)
          have hlen : ds.length < 2000 := by
            rw [List.length_append, List.length_append] at at2
            omega
          refine ⟨(e', s5), ρ5, Hf5, w5, eo'.ext x5, ?_⟩
          show Post K s5 ρ5 Hf5 H5 (ReR K) (evE C c e' s5) _
          rw [e6]
          intro y ρ6 Hf6 H6 w6 x6 ry
          obtain ⟨Hf7, w7, x7, rd⟩ := take_ok w6 x6 ry.2 ry.1 e7
          obtain ⟨cc, ey, ed⟩ := rep_atom rd ad
          have ac7 := ac5.ext x7
          obtain ⟨ks, S, n, k1, k2, k3⟩ := ac7.ex
          have hn : n + 1 < scanBound := by
            have := dedup_len (ks.map keyD)
            rw [← k2.len, ← k1] at this
            unfold scanBound
            omega
          refine ⟨cc, S, n, ey, k3, hn, _, ρ6, Hf7, ds ++ [d2], w7.out ac7.own ac7.nl, (x05.trans x7).out n0, v15.trans x7.evo, ⟨⟨ks ++ [cc], _, _, ?_, k2.add cc, upd_same⟩, ac7.own, ac7.nl⟩, p4⟩
          rw [List.map_append, ← k1, ed]
          rfl
end
section
variable {X : Cx} {C : Cfg} {w : Wk} {g : Tg} {ts : List Co} {c : Co} {elt tg it : Expr} {ifs : List Expr} {scope : Scope} {own : List (PySem.Str × Nat)} {p pos pc : Pos}
theorem se_lenSc (hgl : Gl X "len") (hml : X.mg "len" = none) (hc : X.calm = true) (hN : X.N.Nodup) (hit : SI X C tg it w) (ok : BlkOk X.N X.env.scope scope own)
    (hv1 : ∀ i ∈ own.map (·.2), i ∈ slots [g]) (hv2 : ∀ i ∈ slots [g], i ∈ own.map (·.2))
    (hg : ∀ (s : Shared) (H : Hp) (C : Addr) (cl : List (PySem.Str × Addr)) (fp : List Addr), PG (X.blk s H scope (compEnvC scope cl C X.env) fp) tg (tgOf X.K g))
    (ht : ∀ (s : Shared) (H : Hp) (D : Addr) (cl : List (PySem.Str × Addr)) (fp : List Addr), SQ (X.blk s H scope (compEnvC scope cl D X.env) fp) C ifs ts)
    (he : ∀ (s : Shared) (H : Hp) (D : Addr) (cl' : List (PySem.Str × Addr)) (fp : List Addr), SE (X.blk s H scope (compEnvC scope cl' D X.env) fp) C elt c) (hs : ∀ x, foldedSetIterable it X.env x = pure x) :
    SE X C (.Call (.Name "len" p) [.SetComp elt [⟨tg, it, ifs, 0⟩] scope pc] [] pos) (.sc .lenSet g w ts c) := fun env s =>
  PE.conseq (pe_callB cr_lenSk hgl hml rfl (pa_cons (pe_sk hc hN (hit env s) ok hg (fun s H D cl' fp => PTs.ex fun p : Env × Sto => ht s H D cl' fp p.1 p.2) (fun s H D cl' fp => PE.ex fun p : Env × Sto => he s H D cl' fp p.1 p.2) hs) pa_nil (star_cons rfl)) (by decide) (by decide) (star_cons rfl) (star_plain rfl)) fun σ H Q h => sk_run hv1 hv2 h
end
end Vm

set_option Elab.async false
set_option linter.all false
set_option maxRecDepth 100000
set_option maxHeartbeats 8000000
/-! Vm: len(set(..)) of a tuple of ints and texts. -/
namespace Vm
open PySem PySem.Spec PyProof.Rows L2
section
variable {prog : Program} {w : World} {A : Around} {E : Value → Shared → Prop} {s : Shared} {R : Result → Shared → Prop}
theorem range_snoc {α : Type} (f : Nat → α) (i : Nat) : (List.range (i + 1)).map f = (List.range i).map f ++ [f i] := by
  rw [List.range_succ, List.map_append, List.map_singleton]
/-- the loop that fills a set -/
theorem fill_loop {it D : Addr} {fp wr : List Addr} {Gs : Array GenState → Array GenState → Prop} {n : Nat} {P : Nat → Value → Prop} {St : Nat → Shared → Prop} (W : WalksS prog w A.in1 it fp wr Gs n P St) (far : D ∉ fp) (val : Nat → Key) (hval : ∀ i v, P i v → RelV (kV (val i)) v) (room : n + 1 < scanBound) :
    ∀ (k i : Nat) (sh : Shared) (S : Key → Bool) (c : Nat), n - i = k → i ≤ n → St i sh → SetAt ((List.range i).map val) S c → sh.heap.SetOf (mixKind prog w) D S c →
      (∀ sh' S' c', Moved (D :: wr) Gs sh sh' → SetAt ((List.range n).map val) S' c' → sh'.heap.SetOf (mixKind prog w) D S' c' → R (.ok (.ret .none)) sh') →
      codeAny (model prog w) A (.builtin "set.update.loop" ⟨[.ref D, .ref it], []⟩) R sh := by
  have out : D ∉ wr := fun z => far (W.sub _ z)
  have incl : ∀ b ∈ wr, b ∈ D :: wr := fun b hb => List.mem_cons_of_mem _ hb
  have keepS : ∀ {x y : Shared} {S : Key → Bool} {c : Nat}, Moved wr Gs x y → x.heap.SetOf (mixKind prog w) D S c → y.heap.SetOf (mixKind prog w) D S c := fun {x y S c} m h => by
    obtain ⟨o, es, ep, t, ho, rest⟩ := h
    exact ⟨o, es, ep, t, m.heap D _ out ho, rest⟩
  intro k
  induction k with
  | zero =>
    intro i sh S c hk hi st sa so fin
    have e : i = n := by omega
    subst e
    refine codeAny_builtin PyProof.Rows.F.entry_set_update_loop ?_
    rw [Around.under_plainId PyProof.Rows.F.plain_set_update_loop _]
    show wpAny _ A.in1 (pyNext (.ref it) >>= _) _ _ sh
    refine wpAny_bind (W.done sh _ _ st fun sh' m => ?_)
    show wpAny _ A.in1 (PySem.ret Value.none) _ _ sh'
    exact wpAny_pure (fin sh' S c (m.mono incl) sa (keepS m so))
  | succ k ih =>
    intro i sh S c hk hi st sa so fin
    have lt : i < n := by omega
    refine codeAny_builtin PyProof.Rows.F.entry_set_update_loop ?_
    rw [Around.under_plainId PyProof.Rows.F.plain_set_update_loop _]
    show wpAny _ A.in1 (pyNext (.ref it) >>= _) _ _ sh
    refine wpAny_bind (W.item i sh _ _ lt st fun v sh' hP st' m => ?_)
    have rv := hval i v hP
    have so' := keepS m so
    show wpAny _ A.in1 (holding [v] (setAdd D v) >>= _) _ _ sh'
    refine wpAny_bind (wpAny_holding ?_)
    unfold setAdd
    refine wpAny_holding ?_
    refine wpAny_bind ((mixKind prog w).pyHash (k := val i) (kV_is rv) ?_)
    have few : c + 1 < scanBound := by
      have := dedup_len (((List.range i).map val).map keyD)
      rw [← sa.len, List.length_map, List.length_map, List.length_range] at this
      omega
    refine wpAny_setAddHashed_of (knd := mixKind prog w) (s := { sh' with toks := sh'.toks + 1 }) (kV_is rv) (key_scan rv) so' few fun h' sb so2 => ?_
    have sa2 := sa.add (val i)
    rw [← range_snoc] at sa2
    refine wpAny_pure ⟨plainId_quiet PyProof.Rows.F.plain_set_update_loop _, ih (i + 1) _ _ _ (by omega) lt (W.frame _ sh' _ _ st' (Nat.le_succ _) fun b hb o e => ?_) sa2 so2 fun sh2 S2 c2 m2 sa3 so3 => ?_⟩
    · rw [sb.2 b (fun z : b = D => far (by rw [← z]; exact hb))]
      exact e
    · refine fin sh2 S2 c2 (Moved.trans W.gtrans ((m.mono incl).then_heap (Nat.le_succ _) fun b o hb e => ?_) m2) sa3 so3
      rw [sb.2 b (fun z : b = D => hb (by rw [z]; exact List.mem_cons_self))]
      exact e
abbrev setOb (led : Bool) : Obj := { cls := .type "set", dict := none, data := .set #[] 0 (.fresh 0 0 led) }
theorem call_set_tup {l : Addr} {items : Array Value} {val : Nat → Key} {Q : Value → Shared → Prop} (hh : A.handled = none) (hl : s.heap.IsTuple l items) (hval : ∀ (i : Nat) (v : Value), items[i]? = some v → RelV (kV (val i)) v) (room : items.size + 1 < scanBound)
    (h : ∀ (h' : Heap) (tk : Nat) S c, SetAt ((List.range items.size).map val) S c → h'.SetOf (mixKind prog w) s.heap.objs.size S c → (∀ b o, b < s.heap.objs.size → s.heap.get? b = some o → h'.get? b = some o) → Q (.ref s.heap.objs.size) { s with heap := h', toks := tk }) :
    wpAny (model prog w) A (call (.type "set") [.ref l]) Q E s := by
  obtain ⟨c0, tl, hmro⟩ := PySem.F.called_set.mro
  have made := PySem.F.called_set.made
  have sub := PySem.F.called_set.sub
  refine wpAny_call (codeAny_of_tree (show wpAny _ _ (callAny (.type "set") _) _ _ _ from wpAny_pure ⟨Code.quiet_builtin _ (by decide +kernel), codeAny_builtin PySem.F.entry_type_call ?_⟩))
  rw [Around.under_plain (weight_type_call_type "set" [.ref l] []) rfl]
  have n1 := PySem.F.called_set.notType
  have n2 := PySem.F.called_set.canCreate
  have n3 := PySem.F.typeCall_set_1 (.ref l)
  repeat (any_goals (first | assumption | wp_step))
  refine codeAny_mono (code_set_new_1 (.ref l) (E := E) (Q₁ := fun ob t => ∃ led : Bool, ob = .ref s.heap.objs.size ∧ t = { s with heap := s.heap.push { cls := .type "set", dict := none, data := .set #[] 0 (.fresh 0 0 led) } }) fun led => ⟨led, rfl, rfl⟩) fun r t hr => ?_
  cases r with
  | error e => exact hr
  | ok fl =>
    cases fl with
    | next => exact hr.elim
    | brk => exact hr.elim
    | cont => exact hr.elim
    | ret ob =>
      obtain ⟨led, rfl, rfl⟩ := hr
      have hS : (s.heap.push { cls := .type "set", dict := none, data := .set #[] 0 (.fresh 0 0 led) }).get? s.heap.objs.size = some { cls := .type "set", dict := none, data := .set #[] 0 (.fresh 0 0 led) } := Heap.get?_push_size _ rfl
      have hT : Shared.TypeIs { s with heap := s.heap.push (setOb led) } (.ref s.heap.objs.size) "set" := ⟨_, hS, rfl⟩
      have i1 := PySem.F.called_set.init.lookup
      have i2 := PySem.F.called_set.init.bind (.ref s.heap.objs.size)
      repeat (any_goals (first | assumption | wp_step))
      refine codeAny_mono (codeAny_call_builtin (R := wants (fun r t => r = .none ∧ ∃ h' tk S c, t = { s with heap := h', toks := tk } ∧ SetAt ((List.range items.size).map val) S c ∧ h'.SetOf (mixKind prog w) s.heap.objs.size S c ∧
        (∀ b o, b < s.heap.objs.size → s.heap.get? b = some o → h'.get? b = some o)) E) PySem.F.called_set.init.plain PySem.F.entry_set_init (check_set_init_1 hT ?_)) fun r2 t2 hr2 => ?_
      · obtain ⟨⟨oc, od, dt, os⟩, hol, hcl, nl, hdl⟩ := hl
        replace hcl : oc = .type "tuple" := hcl
        replace hdl : dt = .seq items nl := hdl
        subst hcl hdl
        have hol2 : (s.heap.push (setOb led)).get? l = some { cls := .type "tuple", dict := od, data := .seq items nl, slots := os } := Heap.get?_push_of_some _ hol
        have y1 := PySem.F.sub_tuple_set
        have y2 := PySem.F.sub_tuple_frozenset
        have y3 : (Value.type "tuple" == Value.type "dict") = false := by decide
        have hl1 : (s.heap.push (setOb led)).IsTuple l items := ⟨_, hol2, rfl, nl, rfl⟩
        unfold Builtin.«set.__init__» noKeywords Builtin.Frozenset.updateFrom
        generalize hPI : pyIter = PI
        wp_walk
        subst hPI
        refine wpAny_pyIter_tuple (s := { s with heap := s.heap.push (setOb led) }) hl1 ?_
        refine wpAny_bind (wpAny_runValue ?_)
        have ls : l < s.heap.objs.size := Heap.lt_size hol
        have hz : (s.heap.push (setOb led)).objs.size = s.heap.objs.size + 1 := Heap.size_push ..
        have calm3 : A.in1.in1.in1.handled = none := by simp [hh]
        have nI : l ≠ (s.heap.push (setOb led)).objs.size := by
          rw [hz]
          exact Nat.ne_of_lt (Nat.lt_succ_of_lt ls)
        have far : s.heap.objs.size ∉ [(s.heap.push (setOb led)).objs.size, l] := by
          rw [hz]
          simp only [List.mem_cons, List.not_mem_nil, or_false, not_or]
          exact ⟨Nat.ne_of_lt (Nat.lt_succ_self _), Nat.ne_of_gt ls⟩
        have emp : ((s.heap.push (setOb led)).push { cls := .type "tuple_iterator", data := .fields #[.ref l, .int 0 0] }).SetOf (mixKind prog w) s.heap.objs.size (fun _ => false) 0 := by
          have q : ((s.heap.push (setOb led)).push { cls := .type "tuple_iterator", data := .fields #[.ref l, .int 0 0] }).get? s.heap.objs.size = some (setOb led) := Heap.get?_push_of_some _ hS
          exact ⟨_, #[], 0, _, q, ⟨rfl, rfl, rfl⟩, rfl, (fun e he => by simp at he), (fun k => by simp), (by decide), (by cases led <;> rfl), rfl⟩
        refine fill_loop ((Walks.tuple calm3 _ l nI items).toS) far val hval room (items.size - 0) 0 _ _ _ (by omega) (Nat.zero_le _) ⟨⟨_, Heap.get?_push_size _ rfl, rfl, rfl⟩, (hl1.push _)⟩ SetAt.nil emp fun sh' S c mv sa so => ?_
        obtain ⟨h', g', d', tk', os'⟩ := sh'
        have eg : g' = s.gens := mv.gens
        have ed : d' = s.drawn := mv.drawn
        have eo : os' = s.os := mv.os
        subst eg ed eo
        show wpAny _ _ _ _ _ _
        refine wpAny_pure ?_
        show wpAny _ _ (PySem.ret Value.none) _ _ _
        refine wpAny_pure ⟨rfl, h', tk', S, c, rfl, sa, so, fun b o hb e => ?_⟩
        refine mv.heap b o ?_ (Heap.get?_push_of_some _ (Heap.get?_push_of_some _ e))
        simp only [List.mem_cons, List.not_mem_nil, or_false, not_or]
        exact ⟨Nat.ne_of_lt hb, by rw [hz]; exact Nat.ne_of_lt (Nat.lt_succ_of_lt hb)⟩
      · cases r2 with
        | error e => exact hr2
        | ok fl2 =>
          cases fl2 with
          | ret r =>
            obtain ⟨rfl, h', tk, S, c, rfl, sa, so, hk'⟩ := hr2
            repeat (any_goals (first | assumption | wp_step))
            exact h _ _ S c sa so hk'
          | next => exact hr2.elim
          | brk => exact hr2.elim
          | cont => exact hr2.elim
end
end Vm

set_option Elab.async false
set_option linter.all false
set_option maxRecDepth 100000
set_option maxHeartbeats 8000000
/-! Vm: len(set(..)) of a list; the rules. -/
namespace Vm
open PySem PySem.Spec PyProof.Rows L2
section
variable {prog : Program} {w : World} {A : Around} {E : Value → Shared → Prop} {s : Shared} {R : Result → Shared → Prop}
theorem call_set_lst {l : Addr} {items : Array Value} {val : Nat → Key} {Q : Value → Shared → Prop} (hh : A.handled = none) (hl : s.heap.IsList l items) (hval : ∀ (i : Nat) (v : Value), items[i]? = some v → RelV (kV (val i)) v) (room : items.size + 1 < scanBound)
    (h : ∀ (h' : Heap) (tk : Nat) S c, SetAt ((List.range items.size).map val) S c → h'.SetOf (mixKind prog w) s.heap.objs.size S c → (∀ b o, b < s.heap.objs.size → s.heap.get? b = some o → h'.get? b = some o) → Q (.ref s.heap.objs.size) { s with heap := h', toks := tk }) :
    wpAny (model prog w) A (call (.type "set") [.ref l]) Q E s := by
  obtain ⟨c0, tl, hmro⟩ := PySem.F.called_set.mro
  have made := PySem.F.called_set.made
  have sub := PySem.F.called_set.sub
  refine wpAny_call (codeAny_of_tree (show wpAny _ _ (callAny (.type "set") _) _ _ _ from wpAny_pure ⟨Code.quiet_builtin _ (by decide +kernel), codeAny_builtin PySem.F.entry_type_call ?_⟩))
  rw [Around.under_plain (weight_type_call_type "set" [.ref l] []) rfl]
  have n1 := PySem.F.called_set.notType
  have n2 := PySem.F.called_set.canCreate
  have n3 := PySem.F.typeCall_set_1 (.ref l)
  repeat (any_goals (first | assumption | wp_step))
  refine codeAny_mono (code_set_new_1 (.ref l) (E := E) (Q₁ := fun ob t => ∃ led : Bool, ob = .ref s.heap.objs.size ∧ t = { s with heap := s.heap.push { cls := .type "set", dict := none, data := .set #[] 0 (.fresh 0 0 led) } }) fun led => ⟨led, rfl, rfl⟩) fun r t hr => ?_
  cases r with
  | error e => exact hr
  | ok fl =>
    cases fl with
    | next => exact hr.elim
    | brk => exact hr.elim
    | cont => exact hr.elim
    | ret ob =>
      obtain ⟨led, rfl, rfl⟩ := hr
      have hS : (s.heap.push { cls := .type "set", dict := none, data := .set #[] 0 (.fresh 0 0 led) }).get? s.heap.objs.size = some { cls := .type "set", dict := none, data := .set #[] 0 (.fresh 0 0 led) } := Heap.get?_push_size _ rfl
      have hT : Shared.TypeIs { s with heap := s.heap.push (setOb led) } (.ref s.heap.objs.size) "set" := ⟨_, hS, rfl⟩
      have i1 := PySem.F.called_set.init.lookup
      have i2 := PySem.F.called_set.init.bind (.ref s.heap.objs.size)
      repeat (any_goals (first | assumption | wp_step))
      refine codeAny_mono (codeAny_call_builtin (R := wants (fun r t => r = .none ∧ ∃ h' tk S c, t = { s with heap := h', toks := tk } ∧ SetAt ((List.range items.size).map val) S c ∧ h'.SetOf (mixKind prog w) s.heap.objs.size S c ∧
        (∀ b o, b < s.heap.objs.size → s.heap.get? b = some o → h'.get? b = some o)) E) PySem.F.called_set.init.plain PySem.F.entry_set_init (check_set_init_1 hT ?_)) fun r2 t2 hr2 => ?_
      · obtain ⟨⟨oc, od, dt, os⟩, hol, hcl, nl, hdl⟩ := hl
        replace hcl : oc = .type "list" := hcl
        replace hdl : dt = .seq items nl := hdl
        subst hcl hdl
        have hol2 : (s.heap.push (setOb led)).get? l = some { cls := .type "list", dict := od, data := .seq items nl, slots := os } := Heap.get?_push_of_some _ hol
        have y1 := PySem.F.sub_list_set
        have y2 := PySem.F.sub_list_frozenset
        have y3 : (Value.type "list" == Value.type "dict") = false := by decide
        have hl1 : (s.heap.push (setOb led)).IsList l items := ⟨_, hol2, rfl, nl, rfl⟩
        unfold Builtin.«set.__init__» noKeywords Builtin.Frozenset.updateFrom
        generalize hPI : pyIter = PI
        wp_walk
        subst hPI
        refine wpAny_pyIter_list (s := { s with heap := s.heap.push (setOb led) }) hl1 ?_
        refine wpAny_bind (wpAny_runValue ?_)
        have ls : l < s.heap.objs.size := Heap.lt_size hol
        have hz : (s.heap.push (setOb led)).objs.size = s.heap.objs.size + 1 := Heap.size_push ..
        have calm3 : A.in1.in1.in1.handled = none := by simp [hh]
        have nI : l ≠ (s.heap.push (setOb led)).objs.size := by
          rw [hz]
          exact Nat.ne_of_lt (Nat.lt_succ_of_lt ls)
        have far : s.heap.objs.size ∉ [(s.heap.push (setOb led)).objs.size, l] := by
          rw [hz]
          simp only [List.mem_cons, List.not_mem_nil, or_false, not_or]
          exact ⟨Nat.ne_of_lt (Nat.lt_succ_self _), Nat.ne_of_gt ls⟩
        have emp : ((s.heap.push (setOb led)).push { cls := .type "list_iterator", data := .fields #[.ref l, .int 0 0] }).SetOf (mixKind prog w) s.heap.objs.size (fun _ => false) 0 := by
          have q : ((s.heap.push (setOb led)).push { cls := .type "list_iterator", data := .fields #[.ref l, .int 0 0] }).get? s.heap.objs.size = some (setOb led) := Heap.get?_push_of_some _ hS
          exact ⟨_, #[], 0, _, q, ⟨rfl, rfl, rfl⟩, rfl, (fun e he => by simp at he), (fun k => by simp), (by decide), (by cases led <;> rfl), rfl⟩
        refine fill_loop ((Walks.list calm3 _ l nI items).toS) far val hval room (items.size - 0) 0 _ _ _ (by omega) (Nat.zero_le _) ⟨⟨_, Heap.get?_push_size _ rfl, rfl, rfl⟩, (hl1.push _)⟩ SetAt.nil emp fun sh' S c mv sa so => ?_
        obtain ⟨h', g', d', tk', os'⟩ := sh'
        have eg : g' = s.gens := mv.gens
        have ed : d' = s.drawn := mv.drawn
        have eo : os' = s.os := mv.os
        subst eg ed eo
        show wpAny _ _ _ _ _ _
        refine wpAny_pure ?_
        show wpAny _ _ (PySem.ret Value.none) _ _ _
        refine wpAny_pure ⟨rfl, h', tk', S, c, rfl, sa, so, fun b o hb e => ?_⟩
        refine mv.heap b o ?_ (Heap.get?_push_of_some _ (Heap.get?_push_of_some _ e))
        simp only [List.mem_cons, List.not_mem_nil, or_false, not_or]
        exact ⟨Nat.ne_of_lt hb, by rw [hz]; exact Nat.ne_of_lt (Nat.lt_succ_of_lt hb)⟩
      · cases r2 with
        | error e => exact hr2
        | ok fl2 =>
          cases fl2 with
          | ret r =>
            obtain ⟨rfl, h', tk, S, c, rfl, sa, so, hk'⟩ := hr2
            repeat (any_goals (first | assumption | wp_step))
            exact h _ _ S c sa so hk'
          | next => exact hr2.elim
          | brk => exact hr2.elim
          | cont => exact hr2.elim
end
theorem reps_keys {K : PySem.W.Frag} {H : Hp} : ∀ {xs : List V} {ds : List D}, Reps K H xs ds → ds.all isAtom = true → ∃ ks : List Key, ds = ks.map keyD ∧ xs = ks.map kV
  | _, _, .nil, _ => ⟨[], rfl, rfl⟩
  | _, _, .cons r t, h => by
    rw [List.all_cons, Bool.and_eq_true] at h
    obtain ⟨ks, h1, h2⟩ := reps_keys t h.2
    obtain ⟨c, h3, h4⟩ := rep_atom r h.1
    exact ⟨c :: ks, by rw [h4, h1]; rfl, by rw [h3, h2]; rfl⟩
theorem keys_range {ks : List Key} : (List.range ks.length).map (fun i => ks.getD i (.inl 0)) = ks := by
  refine List.ext_getElem? fun i => ?_
  by_cases h : i < ks.length
  · simp [h]
  · simp [h]
/-- set(x) whose length alone is asked -/
def rSetK (K : PySem.W.Frag) (P : Program) (wo : World) : List V → Hp → VK → Prop := fun xs H Q => ∃ (a : Addr) (ks : List Key), xs = [.ref a] ∧ (SqL K H a (ks.map kV) ∨ SqT K H a (ks.map kV)) ∧ ks.length < 2000 ∧ ∀ p S n, H p = none → SetAt ks S n → Q (.ref p) (upd H p (SetK P wo p S n))
theorem val_at {ks : List Key} {us : List Value} (r : Vals (ks.map kV) us) {i : Nat} {v : Value} (e : us.toArray[i]? = some v) : RelV (kV (ks.getD i (.inl 0))) v := by
  have e : us[i]? = some v := by simpa using e
  have hi : i < us.length := (List.getElem?_eq_some_iff.mp e).1
  have hl := r.length
  rw [List.length_map] at hl
  obtain ⟨u, h1, h2⟩ := r.get (i := i) (x := kV (ks.getD i (.inl 0))) (by
    rw [List.getElem?_map, List.getElem?_eq_getElem (by omega), List.getD_eq_getElem?_getD, List.getElem?_eq_getElem (by omega)]
    rfl)
  rw [e] at h1
  cases h1
  exact h2
theorem cr_setK {X : Cx} (hc : X.calm = true) : CallR X (.type "set") (rSetK X.K X.prog X.w) := by
  intro pins s σ H xs us Q I rv h
  obtain ⟨a, ks, rfl, hs, hl, q⟩ := h
  cases rv with
  | cons r rt =>
    cases rt
    have r : _ = Value.ref a := r
    subst r
    have fin : ∀ (h' : Heap) (tk : Nat) (S : Key → Bool) (c : Nat), SetAt ks S c → h'.SetOf (mixKind X.prog X.w) s.heap.objs.size S c → (∀ b o, b < s.heap.objs.size → s.heap.get? b = some o → h'.get? b = some o) → EP X pins σ Q (.ref s.heap.objs.size) { s with heap := h', toks := tk } := fun h' tk S c sa so hk =>
      ⟨.ref s.heap.objs.size, _, I.laid (t' := tk) (fun b o e => hk b o (Heap.lt_size e) e) (Nat.le_refl _) (setK_new so), rfl, q _ S c (I.hok.fresh (Nat.le_refl _)) sa⟩
    rcases hs with hs | hs
    · obtain ⟨its, rvs, pl, hz⟩ := I.list hs
      have hn : its.toArray.size = ks.length := by rw [List.size_toArray, ← rvs.length, List.length_map]
      refine call_set_lst (I.ok.hd hc) pl.isList (val := fun i => ks.getD i (.inl 0)) (fun i v e => val_at rvs e) (by rw [hn]; unfold scanBound; omega) fun h' tk S c sa so hk => fin h' tk S c ?_ so hk
      rw [hn, keys_range] at sa
      exact sa
    · obtain ⟨its, rvs, pl, hz⟩ := I.tuple hs
      have hn : its.toArray.size = ks.length := by rw [List.size_toArray, ← rvs.length, List.length_map]
      refine call_set_tup (I.ok.hd hc) (show s.heap.IsTuple a its.toArray from pl) (val := fun i => ks.getD i (.inl 0)) (fun i v e => val_at rvs e) (by rw [hn]; unfold scanBound; omega) fun h' tk S c sa so hk => fin h' tk S c ?_ so hk
      rw [hn, keys_range] at sa
      exact sa
section
variable {X : Cx} {C : Cfg} {a : Expr} {ca : Co} {p q pos pos' : Pos}
theorem se_lenSet (hc : X.calm = true) (hg : Gl X "len") (hm : X.mg "len" = none) (hgs : Gl X "set") (hms : X.mg "set" = none) (hs : noStar a = true) (ha : SE X C a ca) : SE X C (.Call (.Name "len" p) [.Call (.Name "set" q) [a] [] pos] [] pos') (.bi .lenSet [ca]) := fun env s =>
  PE.conseq (pe_callB cr_lenSk hg hm rfl (pa_cons (pe_callTy (cr_setK hc) hgs hms rfl (pa_cons (ha env s) pa_nil (star_cons hs)) (by decide) (by decide) (star_cons hs) (star_plain rfl)) pa_nil (star_cons rfl)) (by decide) (by decide) (star_cons rfl) (star_plain rfl)) fun σ H Q h => by
    unfold evE at h
    obtain ⟨ρ, Hf, w, eo, h⟩ := h
    obtain ⟨rs, s1, e1, h1⟩ := h.bind
    clear h
    unfold evRs at e1
    obtain ⟨r, s2, e2, e3⟩ := bind_ok e1
    clear e1
    unfold evRs at e3
    cases e3
    refine ⟨ρ, Hf, w, eo, ?_⟩
    rw [e2]
    intro v ρ1 Hf1 H1 w1 x1 rr
    obtain ⟨ds, s3, e4, h2⟩ := h1.bind
    clear h1
    obtain ⟨z, vv⟩ := looks_ok e4
    subst z
    cases vv with
    | @cons _ d _ _ v1 vt =>
      cases vt
      obtain ⟨r9, e5, h3⟩ := post_o' h2
      clear h2
      have go : ∀ (b : Addr) (ks : List Key), v = .ref b → (SqL X.K H1 b (ks.map kV) ∨ SqT X.K H1 b (ks.map kV)) → ks.length < 2000 → r9 = .v (.int (dedupD (ks.map keyD) []).length) → ∃ (a : Addr) (ks : List Key), [v] = [V.ref a] ∧ (SqL X.K H1 a (ks.map kV) ∨ SqT X.K H1 a (ks.map kV)) ∧ ks.length < 2000 ∧ ∀ p S n, H1 p = none → SetAt ks S n →
          rLenSk X.prog X.w [.ref p] (upd H1 p (SetK X.prog X.w p S n)) Q := fun b ks e1 e2 e3 e4 => by
        subst e1 e4
        refine ⟨b, ks, rfl, e2, e3, fun p S n hp sa => ⟨p, S, n, rfl, upd_same, ?_⟩⟩
        rw [sa.len]
        exact h3 _ ρ1 Hf1 _ (w1.new hp) (x1.trans (.new w1 hp)) ⟨.v (.int _), trivial⟩
      cases d <;> first | (cases e5; done) | skip
      · rename_i ds
        obtain ⟨g1, g2, g3⟩ := lenSet_ok e5
        obtain ⟨b, ys, e6, q1, q2⟩ := rr.1.lst w1 v1
        obtain ⟨ks, k1, k2⟩ := reps_keys q2 g1
        rw [k2] at q1
        rw [k1] at g3 g2
        exact go b ks e6 (.inl q1) (by simpa using g2) g3
      · rename_i ds
        have e7 : (if atomsOk ds = true then some (R.v (.int (dedupD ds []).length)) else none) = some r9 := e5
        obtain ⟨g1, g2, g3⟩ := lenSet_ok (es := ds) e7
        obtain ⟨b, ys, e6, q1, q2⟩ := rr.1.tup w1 v1
        obtain ⟨ks, k1, k2⟩ := reps_keys q2 g1
        rw [k2] at q1
        rw [k1] at g3 g2
        exact go b ks e6 (.inr q1) (by simpa using g2) g3
end
end Vm

set_option Elab.async false
set_option linter.all false
set_option maxRecDepth 100000
set_option maxHeartbeats 4000000
/-! Vm: zip of any two iterators, as an argument of dict. -/
namespace Vm
open PySem PySem.Spec PyProof.Rows L2
open PySem.Sem (wp)
/-- an iterator, as zip asks it; fp: what it reads -/
structure Nx (prog : Program) (w : World) (i : Addr) (fp : List Addr) (xs : Array Value) (St : Nat → Heap → Prop) : Prop where
  item : ∀ (A : Around) (E : Value → Shared → Prop) (s : Shared) (k : Nat) (x : Value) (Q : Value → Shared → Prop), St k s.heap → xs[k]? = some x → (∀ g, St (k + 1) g → Heap.SameBut i s.heap g → Q x { s with heap := g }) →
    wpAny (model prog w) A (Builtin.SmallTypes.nextOf (.ref i)) Q E s
  fin : ∀ (A : Around) (E : Value → Shared → Prop) (s : Shared) (k : Nat) (Q : Value → Shared → Prop), A.handled = none → St k s.heap → xs[k]? = none →
    (∀ g e, Heap.ExtBut i s.heap g → (∃ o, g.get? e = some o ∧ o.cls = .type "StopIteration") → E (.ref e) { s with heap := g }) → wpAny (model prog w) A (Builtin.SmallTypes.nextOf (.ref i)) Q E s
  keep : ∀ k h g, St k h → (∀ b, b ∈ fp → ∀ o, h.get? b = some o → g.get? b = some o) → St k g
  there : ∀ k h, St k h → ∀ b, b ∈ fp → ∃ o, h.get? b = some o
theorem nx_list {prog : Program} {w : World} (i l : Addr) (ne : l ≠ i) (xs : Array Value) : Nx prog w i [i, l] xs fun k h => h.IsListIter i l k ∧ h.IsList l xs where
  item := fun A E s k x Q st ex q => wpAny_nextOf_list_item st.1 st.2 ex fun g a sb => q g ⟨a, st.2.extBut sb.extBut ne⟩ sb
  fin := fun A E s k Q hd st ex q => wpAny_nextOf_list_end hd st.1 st.2 ex q
  keep := fun k h g st kp => ⟨st.1.at fun o e => kp i (by simp) o e, st.2.at fun o e => kp l (by simp) o e⟩
  there := fun k h st b hb => by
    obtain ⟨⟨o1, e1, _⟩, ⟨o2, e2, _⟩⟩ := st
    rcases List.mem_cons.mp hb with rfl | hb
    · exact ⟨o1, e1⟩
    · rw [List.mem_singleton.mp hb]
      exact ⟨o2, e2⟩
theorem nx_tup {prog : Program} {w : World} (i l : Addr) (ne : l ≠ i) (xs : Array Value) : Nx prog w i [i, l] xs fun k h => h.IsTupleIter i l k ∧ h.IsTuple l xs where
  item := fun A E s k x Q st ex q => RZ.nextOf_tuple_item st.1 st.2 ex fun g a sb => q g ⟨a, st.2.extBut sb.extBut ne⟩ sb
  fin := fun A E s k Q hd st ex q => RZ.nextOf_tuple_end hd st.1 st.2 ex q
  keep := fun k h g st kp => ⟨st.1.at fun o e => kp i (by simp) o e, st.2.at fun o e => kp l (by simp) o e⟩
  there := fun k h st b hb => by
    obtain ⟨⟨o1, e1, _⟩, ⟨o2, e2, _⟩⟩ := st
    rcases List.mem_cons.mp hb with rfl | hb
    · exact ⟨o1, e1⟩
    · rw [List.mem_singleton.mp hb]
      exact ⟨o2, e2⟩
/-- what keeps apart -/
structure Zx (zp ti to j1 j2 : Addr) (f1 f2 : List Addr) : Prop where
  z1 : zp ∉ f1
  z2 : zp ∉ f2
  t1 : to ∉ f1
  t2 : to ∉ f2
  m1 : j1 ∈ f1
  m2 : j2 ∈ f2
  x1 : j1 ∉ f2
  x2 : j2 ∉ f1
  iz : ti ≠ zp
  io : ti ≠ to
  i1 : ti ≠ j1
  i2 : ti ≠ j2
  oz : to ≠ zp
section
variable {prog : Program} {w : World} {A : Around} {E : Value → Shared → Prop} {s : Shared} {zp ti to j1 j2 : Addr} {f1 f2 : List Addr} {xs ys : Array Value} {S1 S2 : Nat → Heap → Prop} {k m : Nat} {x y a b : Value}
theorem Nx.but {i : Addr} {fp : List Addr} {h g : Heap} {c : Addr} {St : Nat → Heap → Prop} (N : Nx prog w i fp xs St) (st : St k h) (sb : Heap.ExtBut c h g) (n : c ∉ fp) : St k g := N.keep k h g st fun b hb o e => sb b o (fun q => n (q ▸ hb)) e
theorem Zx.jz1 (D : Zx zp ti to j1 j2 f1 f2) : zp ≠ j1 := fun q => D.z1 (q ▸ D.m1)
theorem Zx.jz2 (D : Zx zp ti to j1 j2 f1 f2) : zp ≠ j2 := fun q => D.z2 (q ▸ D.m2)
theorem Zx.jt1 (D : Zx zp ti to j1 j2 f1 f2) : to ≠ j1 := fun q => D.t1 (q ▸ D.m1)
theorem Zx.jt2 (D : Zx zp ti to j1 j2 f1 f2) : to ≠ j2 := fun q => D.t2 (q ▸ D.m2)
theorem zx_item {Q : Value → Shared → Prop} (N1 : Nx prog w j1 f1 xs S1) (N2 : Nx prog w j2 f2 ys S2) (D : Zx zp ti to j1 j2 f1 f2) (zz : IsZip s.heap zp ti to .none) (pi : IsPair s.heap ti (.ref j1) (.ref j2)) (po : IsPair s.heap to a b)
    (p1 : S1 k s.heap) (p2 : S2 m s.heap) (ex : xs[k]? = some x) (ey : ys[m]? = some y)
    (q : ∀ g, IsZip g zp ti to (rawInt s.heap.objs.size) → S1 (k + 1) g → S2 (m + 1) g → IsPair g s.heap.objs.size x y → g.objs.size = s.heap.objs.size + 1 →
      (∀ c o, c ≠ zp → c ≠ to → c ≠ j1 → c ≠ j2 → s.heap.get? c = some o → g.get? c = some o) → Q (.ref s.heap.objs.size) { s with heap := g }) :
    wpAny (model prog w) A (Builtin.«zip.__next__» ⟨[.ref zp], []⟩) (fun fin t => ∃ v, fin = .done (.ret v) ∧ Q v t) E s := by
  show wpAny _ _ (field (.ref zp) 2 >>= _) _ _ _
  refine wpAny_bind (wpAny_field zz rfl (x := .bool false) rfl ?_)
  show wpAny _ _ (field (.ref zp) 3 >>= _) _ _ _
  refine wpAny_bind (wpAny_field zz rfl (x := .ref ti) rfl ?_)
  refine wpAny_bind (wpAny_seqItems pi rfl ?_)
  show wpAny _ _ (Builtin.SmallTypes.ownedTupleIsFree (.ref zp) >>= _) _ _ _
  refine wpAny_bind ?_
  (unfold Builtin.SmallTypes.ownedTupleIsFree)
  refine wpAny_bind (wpAny_field zz rfl (x := .none) rfl (wpAny_pure ?_))
  simp only [if_true]
  refine wpAny_bind (wpAny_rule (wpAny_bind (wpAny_field zz rfl (x := .ref to) rfl ?_)))
  refine wpAny_bind (wpAny_setField_rec zz (by simp) fun g1 zz1 b1 => ?_)
  replace zz1 : IsZip g1 zp ti to .ellipsis := zz1
  refine wpAny_bind ?_
  simp only [List.zipIdx_nil, List.zipIdx_cons, List.forIn_nil, List.forIn_cons]
  refine wpAny_bind (wpAny_bind (wpAny_onRaise ?_))
  show wpAny _ _ (Builtin.SmallTypes.nextOf (.ref j1) >>= _) _ _ _
  refine wpAny_bind (N1.item _ _ { s with heap := g1 } k x _ (N1.but p1 b1.extBut D.z1) ex fun g2 a1 b2 => wpAny_pure ?_)
  have o2 : IsPair g2 to a b := b2.extBut _ _ D.jt1 (b1.extBut _ _ D.oz po)
  refine wpAny_bind (wpAny_seqItems o2 rfl (wpAny_bind (wpAny_updateSeq_pair o2 fun g3 o3 b3 => ?_)))
  replace o3 : IsPair g3 to x b := o3
  refine wpAny_bind (wpAny_letGo (wpAny_pure (wpAny_bind (wpAny_bind (wpAny_onRaise ?_)))))
  show wpAny _ _ (Builtin.SmallTypes.nextOf (.ref j2) >>= _) _ _ _
  refine wpAny_bind (N2.item _ _ { s with heap := g3 } m y _ (N2.but (N2.but (N2.but p2 b1.extBut D.z2) b2.extBut D.x1) b3.extBut D.t2) ey fun g4 a2 b4 => wpAny_pure ?_)
  have o4 : IsPair g4 to x b := b4.extBut _ _ D.jt2 o3
  refine wpAny_bind (wpAny_seqItems o4 rfl (wpAny_bind (wpAny_updateSeq_pair o4 fun g5 o5 b5 => ?_)))
  replace o5 : IsPair g5 to x y := o5
  refine wpAny_bind (wpAny_letGo (wpAny_pure (wpAny_pure (wpAny_bind (wpAny_seqItems o5 rfl (wpAny_bind (wpAny_newTuple ?_)))))))
  have sz : g5.objs.size = s.heap.objs.size := by rw [b5.1, b4.1, b3.1, b2.1, b1.1]
  have zz5 : IsZip g5 zp ti to .ellipsis := b5.extBut _ _ D.oz.symm (b4.extBut _ _ D.jz2 (b3.extBut _ _ D.oz.symm (b2.extBut _ _ D.jz1 zz1)))
  have kp5 : ∀ c o, c ≠ zp → c ≠ to → c ≠ j1 → c ≠ j2 → s.heap.get? c = some o → g5.get? c = some o := fun c o n1 n2 n3 n4 e => b5.extBut _ _ n2 (b4.extBut _ _ n4 (b3.extBut _ _ n2 (b2.extBut _ _ n3 (b1.extBut _ _ n1 e))))
  have s1 : S1 (k + 1) g5 := N1.but (N1.but (N1.but a1 b3.extBut D.t1) b4.extBut D.x2) b5.extBut D.t1
  have s2 : S2 (m + 1) g5 := N2.but a2 b5.extBut D.t2
  have zl : zp < g5.objs.size := Heap.lt_size zz5
  show wpAny _ _ (Builtin.SmallTypes.ownedTupleHandOut (.ref zp) (.ref g5.objs.size) >>= _) _ _ _
  refine wpAny_bind ?_
  (unfold Builtin.SmallTypes.ownedTupleHandOut)
  have zz6 : IsZip (g5.push { cls := .type "tuple", data := .seq #[x, y] }) zp ti to .ellipsis := Heap.get?_push_of_some _ zz5
  refine wpAny_bind (wpAny_setField_rec zz6 (by simp) fun g7 zz7 b7 => ?_)
  replace zz7 : IsZip g7 zp ti to (rawInt g5.objs.size) := zz7
  refine wpAny_setField_rec zz7 (by simp) fun g8 zz8 b8 => ?_
  replace zz8 : IsZip g8 zp ti to (rawInt g5.objs.size) := zz8
  have up : ∀ c o, c ≠ zp → g5.get? c = some o → g8.get? c = some o := fun c o n e => b8.extBut _ _ n (b7.extBut _ _ n (Heap.get?_push_of_some _ e))
  have t8 : IsPair g8 g5.objs.size x y := b8.extBut _ _ (Nat.ne_of_gt zl) (b7.extBut _ _ (Nat.ne_of_gt zl) (Heap.get?_push_size _ rfl))
  have sz8 : g8.objs.size = g5.objs.size + 1 := by rw [b8.1, b7.1, Heap.size_push]
  rw [sz] at zz8 t8 sz8
  refine wpAny_pure ⟨_, rfl, ?_⟩
  show Q (.ref g5.objs.size) _
  rw [sz]
  exact q g8 zz8 (N1.keep _ _ _ s1 fun c hc o e => up c o (fun z => D.z1 (z ▸ hc)) e) (N2.keep _ _ _ s2 fun c hc o e => up c o (fun z => D.z2 (z ▸ hc)) e) t8 sz8 fun c o n1 n2 n3 n4 e => up c o n1 (kp5 c o n1 n2 n3 n4 e)
theorem zx_end {Q : Fin → Shared → Prop} (hd : A.handled = none) (N1 : Nx prog w j1 f1 xs S1) (N2 : Nx prog w j2 f2 ys S2) (D : Zx zp ti to j1 j2 f1 f2) (zz : IsZip s.heap zp ti to .none) (pi : IsPair s.heap ti (.ref j1) (.ref j2)) (po : IsPair s.heap to a b)
    (p1 : S1 k s.heap) (p2 : S2 m s.heap) (en : xs[k]? = none ∨ ys[m]? = none)
    (q : ∀ g e, (∀ c o, c ≠ zp → c ≠ to → c ≠ j1 → c ≠ j2 → s.heap.get? c = some o → g.get? c = some o) → (∃ o, g.get? e = some o ∧ o.cls = .type "StopIteration") → E (.ref e) { s with heap := g }) :
    wpAny (model prog w) A (Builtin.«zip.__next__» ⟨[.ref zp], []⟩) Q E s := by
  show wpAny _ _ (field (.ref zp) 2 >>= _) _ _ _
  refine wpAny_bind (wpAny_field zz rfl (x := .bool false) rfl ?_)
  show wpAny _ _ (field (.ref zp) 3 >>= _) _ _ _
  refine wpAny_bind (wpAny_field zz rfl (x := .ref ti) rfl ?_)
  refine wpAny_bind (wpAny_seqItems pi rfl ?_)
  show wpAny _ _ (Builtin.SmallTypes.ownedTupleIsFree (.ref zp) >>= _) _ _ _
  refine wpAny_bind ?_
  (unfold Builtin.SmallTypes.ownedTupleIsFree)
  refine wpAny_bind (wpAny_field zz rfl (x := .none) rfl (wpAny_pure ?_))
  simp only [if_true]
  refine wpAny_bind (wpAny_rule (wpAny_bind (wpAny_field zz rfl (x := .ref to) rfl ?_)))
  refine wpAny_bind (wpAny_setField_rec zz (by simp) fun g1 zz1 b1 => ?_)
  replace zz1 : IsZip g1 zp ti to .ellipsis := zz1
  refine wpAny_bind ?_
  simp only [List.zipIdx_nil, List.zipIdx_cons, List.forIn_nil, List.forIn_cons]
  refine wpAny_bind (wpAny_bind (wpAny_onRaise ?_))
  show wpAny _ _ (Builtin.SmallTypes.nextOf (.ref j1) >>= _) _ _ _
  cases ex : xs[k]? with
  | none =>
    refine wpAny_bind (N1.fin _ _ { s with heap := g1 } k _ hd (N1.but p1 b1.extBut D.z1) ex fun g2 e b2 he => ?_)
    obtain ⟨oe, h1, h2⟩ := he
    have zz2 : IsZip g2 zp ti to .ellipsis := b2 _ _ D.jz1 zz1
    have ne : e ≠ zp := fun z => by subst z; rw [zz2] at h1; cases h1; simp at h2
    refine wpAny_setField_rec zz2 (by simp) fun g3 _ b3 => ?_
    exact q g3 e (fun c o n1 _ n3 _ z => b3.extBut _ _ n1 (b2 _ _ n3 (b1.extBut _ _ n1 z))) ⟨oe, b3.extBut _ _ ne h1, h2⟩
  | some x =>
    have ey : ys[m]? = none := by
      rcases en with z | z
      · rw [ex] at z; cases z
      · exact z
    refine wpAny_bind (N1.item _ _ { s with heap := g1 } k x _ (N1.but p1 b1.extBut D.z1) ex fun g2 a1 b2 => wpAny_pure ?_)
    have o2 : IsPair g2 to a b := b2.extBut _ _ D.jt1 (b1.extBut _ _ D.oz po)
    refine wpAny_bind (wpAny_seqItems o2 rfl (wpAny_bind (wpAny_updateSeq_pair o2 fun g3 o3 b3 => ?_)))
    refine wpAny_bind (wpAny_letGo (wpAny_pure (wpAny_bind (wpAny_bind (wpAny_onRaise ?_)))))
    show wpAny _ _ (Builtin.SmallTypes.nextOf (.ref j2) >>= _) _ _ _
    refine wpAny_bind (N2.fin _ _ { s with heap := g3 } m _ hd (N2.but (N2.but (N2.but p2 b1.extBut D.z2) b2.extBut D.x1) b3.extBut D.t2) ey fun g4 e b4 he => ?_)
    obtain ⟨oe, h1, h2⟩ := he
    have zz4 : IsZip g4 zp ti to .ellipsis := b4 _ _ D.jz2 (b3.extBut _ _ D.oz.symm (b2.extBut _ _ D.jz1 zz1))
    have ne : e ≠ zp := fun z => by subst z; rw [zz4] at h1; cases h1; simp at h2
    refine wpAny_setField_rec zz4 (by simp) fun g5 _ b5 => ?_
    exact q g5 e (fun c o n1 n2 n3 n4 z => b5.extBut _ _ n1 (b4 _ _ n4 (b3.extBut _ _ n2 (b2.extBut _ _ n3 (b1.extBut _ _ n1 z))))) ⟨oe, b5.extBut _ _ ne h1, h2⟩
theorem zx_item2 {T : Addr} {f : Bool} {oT : Obj} {Q : Value → Shared → Prop} (N1 : Nx prog w j1 f1 xs S1) (N2 : Nx prog w j2 f2 ys S2) (D : Zx zp ti to j1 j2 f1 f2) (zz : IsZipHeld s.heap zp ti to T f) (pt : s.heap.get? T = some oT) (pi : IsPair s.heap ti (.ref j1) (.ref j2))
    (p1 : S1 k s.heap) (p2 : S2 m s.heap) (ex : xs[k]? = some x) (ey : ys[m]? = some y)
    (q : ∀ g, IsZipHeld g zp ti to T true → S1 (k + 1) g → S2 (m + 1) g → IsPair g s.heap.objs.size x y → g.objs.size = s.heap.objs.size + 1 →
      (∀ c o, c ≠ zp → c ≠ j1 → c ≠ j2 → s.heap.get? c = some o → g.get? c = some o) → Q (.ref s.heap.objs.size) { s with heap := g }) :
    wpAny (model prog w) A (Builtin.«zip.__next__» ⟨[.ref zp], []⟩) (fun fin t => ∃ v, fin = .done (.ret v) ∧ Q v t) E s := by
  show wpAny _ _ (field (.ref zp) 2 >>= _) _ _ _
  refine wpAny_bind (wpAny_field zz rfl (x := .bool false) rfl ?_)
  show wpAny _ _ (field (.ref zp) 3 >>= _) _ _ _
  refine wpAny_bind (wpAny_field zz rfl (x := .ref ti) rfl ?_)
  refine wpAny_bind (wpAny_seqItems pi rfl ?_)
  show wpAny _ _ (Builtin.SmallTypes.ownedTupleIsFree (.ref zp) >>= _) _ _ _
  refine wpAny_bind (wpAny_tupleHeld_zip zz pt fun g1 zz1 b1 => ?_)
  simp only [if_false, Bool.false_eq_true]
  refine wpAny_bind ?_
  rw [← Array.forIn_toList]
  simp only [List.forIn_nil, List.forIn_cons]
  refine wpAny_bind (wpAny_bind (wpAny_holding ?_))
  show wpAny _ _ (Builtin.SmallTypes.nextOf (.ref j1) >>= _) _ _ _
  refine wpAny_bind (N1.item _ _ { s with heap := g1 } k x _ (N1.but p1 b1.extBut D.z1) ex fun g2 a1 b2 => wpAny_pure (wpAny_pure ?_))
  refine wpAny_bind (wpAny_bind (wpAny_holding ?_))
  show wpAny _ _ (Builtin.SmallTypes.nextOf (.ref j2) >>= _) _ _ _
  refine wpAny_bind (N2.item _ _ { s with heap := g2 } m y _ (N2.but (N2.but p2 b1.extBut D.z2) b2.extBut D.x1) ey fun g3 a2 b3 => wpAny_pure (wpAny_pure (wpAny_pure ?_)))
  show wpAny _ _ (newTuple [x, y] >>= _) _ _ _
  refine wpAny_bind (wpAny_newTuple (wpAny_pure ⟨_, rfl, ?_⟩))
  have sz : g3.objs.size = s.heap.objs.size := by rw [b3.1, b2.1, b1.1]
  have zz3 : IsZipHeld g3 zp ti to T true := b3.extBut _ _ D.jz2 (b2.extBut _ _ D.jz1 zz1)
  have kp : ∀ c o, c ≠ zp → c ≠ j1 → c ≠ j2 → s.heap.get? c = some o → g3.get? c = some o := fun c o n1 n2 n3 e => b3.extBut _ _ n3 (b2.extBut _ _ n2 (b1.extBut _ _ n1 e))
  have s1 : S1 (k + 1) g3 := N1.but a1 b3.extBut D.x2
  show Q (.ref g3.objs.size) _
  have tp : IsPair (g3.push { cls := .type "tuple", data := .seq #[x, y] }) g3.objs.size x y := Heap.get?_push_size _ rfl
  have z4 : (g3.push { cls := .type "tuple", data := .seq #[x, y] }).objs.size = g3.objs.size + 1 := Heap.size_push ..
  rw [sz] at tp z4 ⊢
  exact q _ (Heap.get?_push_of_some _ zz3) (N1.keep _ _ _ s1 fun c _ o e => Heap.get?_push_of_some _ e) (N2.keep _ _ _ a2 fun c _ o e => Heap.get?_push_of_some _ e) tp z4 fun c o n1 n2 n3 e => Heap.get?_push_of_some _ (kp c o n1 n2 n3 e)
theorem zx_end2 {T : Addr} {f : Bool} {oT : Obj} {Q : Fin → Shared → Prop} (hd : A.handled = none) (N1 : Nx prog w j1 f1 xs S1) (N2 : Nx prog w j2 f2 ys S2) (D : Zx zp ti to j1 j2 f1 f2) (zz : IsZipHeld s.heap zp ti to T f) (pt : s.heap.get? T = some oT) (pi : IsPair s.heap ti (.ref j1) (.ref j2))
    (p1 : S1 k s.heap) (p2 : S2 m s.heap) (en : xs[k]? = none ∨ ys[m]? = none)
    (q : ∀ g e, (∀ c o, c ≠ zp → c ≠ j1 → c ≠ j2 → s.heap.get? c = some o → g.get? c = some o) → (∃ o, g.get? e = some o ∧ o.cls = .type "StopIteration") → E (.ref e) { s with heap := g }) :
    wpAny (model prog w) A (Builtin.«zip.__next__» ⟨[.ref zp], []⟩) Q E s := by
  show wpAny _ _ (field (.ref zp) 2 >>= _) _ _ _
  refine wpAny_bind (wpAny_field zz rfl (x := .bool false) rfl ?_)
  show wpAny _ _ (field (.ref zp) 3 >>= _) _ _ _
  refine wpAny_bind (wpAny_field zz rfl (x := .ref ti) rfl ?_)
  refine wpAny_bind (wpAny_seqItems pi rfl ?_)
  show wpAny _ _ (Builtin.SmallTypes.ownedTupleIsFree (.ref zp) >>= _) _ _ _
  refine wpAny_bind (wpAny_tupleHeld_zip zz pt fun g1 zz1 b1 => ?_)
  simp only [if_false, Bool.false_eq_true]
  refine wpAny_bind ?_
  rw [← Array.forIn_toList]
  simp only [List.forIn_nil, List.forIn_cons]
  refine wpAny_bind (wpAny_bind (wpAny_holding ?_))
  show wpAny _ _ (Builtin.SmallTypes.nextOf (.ref j1) >>= _) _ _ _
  cases ex : xs[k]? with
  | none =>
    refine wpAny_bind (N1.fin _ _ { s with heap := g1 } k _ hd (N1.but p1 b1.extBut D.z1) ex fun g2 e b2 he => ?_)
    exact q g2 e (fun c o n1 n2 _ z => b2 _ _ n2 (b1.extBut _ _ n1 z)) he
  | some x =>
    have ey : ys[m]? = none := by
      rcases en with z | z
      · rw [ex] at z; cases z
      · exact z
    refine wpAny_bind (N1.item _ _ { s with heap := g1 } k x _ (N1.but p1 b1.extBut D.z1) ex fun g2 a1 b2 => wpAny_pure (wpAny_pure ?_))
    refine wpAny_bind (wpAny_bind (wpAny_holding ?_))
    show wpAny _ _ (Builtin.SmallTypes.nextOf (.ref j2) >>= _) _ _ _
    refine wpAny_bind (N2.fin _ _ { s with heap := g2 } m _ hd (N2.but (N2.but p2 b1.extBut D.z2) b2.extBut D.x1) ey fun g3 e b3 he => ?_)
    exact q g3 e (fun c o n1 n2 n3 z => b3 _ _ n3 (b2.extBut _ _ n2 (b1.extBut _ _ n1 z))) he
theorem nx_item {Q : Option Value → Shared → Prop} (N1 : Nx prog w j1 f1 xs S1) (N2 : Nx prog w j2 f2 ys S2) (D : Zx zp ti to j1 j2 f1 f2) (zz : IsZip s.heap zp ti to .none) (pi : IsPair s.heap ti (.ref j1) (.ref j2)) (po : IsPair s.heap to a b)
    (p1 : S1 k s.heap) (p2 : S2 m s.heap) (ex : xs[k]? = some x) (ey : ys[m]? = some y)
    (q : ∀ g, IsZip g zp ti to (rawInt s.heap.objs.size) → S1 (k + 1) g → S2 (m + 1) g → IsPair g s.heap.objs.size x y → g.objs.size = s.heap.objs.size + 1 →
      (∀ c o, c ≠ zp → c ≠ to → c ≠ j1 → c ≠ j2 → s.heap.get? c = some o → g.get? c = some o) → Q (some (.ref s.heap.objs.size)) { s with heap := g }) : wpAny (model prog w) A (pyNext (.ref zp)) Q E s := by
  have ty : s.TypeIs (.ref zp) "zip" := ⟨_, zz, rfl⟩
  unfold pyNext
  refine wpAny_bind (wpAny_attempt (wpAny_callSpecial?_slot (name := Str.ofString "__next__") ty F.slot_zip_next (wpAny_call_entry F.slot_zip_next ty F.entry_zip_next ?_ (F.args_zip_next_1 _))))
  exact zx_item N1 N2 D zz pi po p1 p2 ex ey fun g a1 a2 a3 a4 a5 a6 => wpAny_pure (q g a1 a2 a3 a4 a5 a6)
theorem nx_item2 {T : Addr} {f : Bool} {oT : Obj} {Q : Option Value → Shared → Prop} (N1 : Nx prog w j1 f1 xs S1) (N2 : Nx prog w j2 f2 ys S2) (D : Zx zp ti to j1 j2 f1 f2) (zz : IsZipHeld s.heap zp ti to T f) (pt : s.heap.get? T = some oT) (pi : IsPair s.heap ti (.ref j1) (.ref j2))
    (p1 : S1 k s.heap) (p2 : S2 m s.heap) (ex : xs[k]? = some x) (ey : ys[m]? = some y)
    (q : ∀ g, IsZipHeld g zp ti to T true → S1 (k + 1) g → S2 (m + 1) g → IsPair g s.heap.objs.size x y → g.objs.size = s.heap.objs.size + 1 →
      (∀ c o, c ≠ zp → c ≠ j1 → c ≠ j2 → s.heap.get? c = some o → g.get? c = some o) → Q (some (.ref s.heap.objs.size)) { s with heap := g }) : wpAny (model prog w) A (pyNext (.ref zp)) Q E s := by
  have ty : s.TypeIs (.ref zp) "zip" := ⟨_, zz, rfl⟩
  unfold pyNext
  refine wpAny_bind (wpAny_attempt (wpAny_callSpecial?_slot (name := Str.ofString "__next__") ty F.slot_zip_next (wpAny_call_entry F.slot_zip_next ty F.entry_zip_next ?_ (F.args_zip_next_1 _))))
  exact zx_item2 N1 N2 D zz pt pi p1 p2 ex ey fun g a1 a2 a3 a4 a5 a6 => wpAny_pure (q g a1 a2 a3 a4 a5 a6)
theorem nx_end {Q : Option Value → Shared → Prop} (hd : A.handled = none) (N1 : Nx prog w j1 f1 xs S1) (N2 : Nx prog w j2 f2 ys S2) (D : Zx zp ti to j1 j2 f1 f2) (zz : IsZip s.heap zp ti to .none) (pi : IsPair s.heap ti (.ref j1) (.ref j2)) (po : IsPair s.heap to a b)
    (p1 : S1 k s.heap) (p2 : S2 m s.heap) (en : xs[k]? = none ∨ ys[m]? = none)
    (q : ∀ g, (∀ c o, c ≠ zp → c ≠ to → c ≠ j1 → c ≠ j2 → s.heap.get? c = some o → g.get? c = some o) → Q none { s with heap := g }) : wpAny (model prog w) A (pyNext (.ref zp)) Q E s := by
  have ty : s.TypeIs (.ref zp) "zip" := ⟨_, zz, rfl⟩
  unfold pyNext
  refine wpAny_bind (wpAny_attempt (wpAny_callSpecial?_slot (name := Str.ofString "__next__") ty F.slot_zip_next (wpAny_call_entry F.slot_zip_next ty F.entry_zip_next ?_ (F.args_zip_next_1 _))))
  refine zx_end hd N1 N2 D zz pi po p1 p2 en fun g e kp he => ?_
  obtain ⟨o, h1, h2⟩ := he
  exact wpAny_bind (wpAny_isInstance (T := "StopIteration") (b := true) ⟨o, h1, h2⟩ isSubtype_stop (wpAny_pure (q _ kp)))
theorem nx_end2 {T : Addr} {f : Bool} {oT : Obj} {Q : Option Value → Shared → Prop} (hd : A.handled = none) (N1 : Nx prog w j1 f1 xs S1) (N2 : Nx prog w j2 f2 ys S2) (D : Zx zp ti to j1 j2 f1 f2) (zz : IsZipHeld s.heap zp ti to T f) (pt : s.heap.get? T = some oT) (pi : IsPair s.heap ti (.ref j1) (.ref j2))
    (p1 : S1 k s.heap) (p2 : S2 m s.heap) (en : xs[k]? = none ∨ ys[m]? = none)
    (q : ∀ g, (∀ c o, c ≠ zp → c ≠ j1 → c ≠ j2 → s.heap.get? c = some o → g.get? c = some o) → Q none { s with heap := g }) : wpAny (model prog w) A (pyNext (.ref zp)) Q E s := by
  have ty : s.TypeIs (.ref zp) "zip" := ⟨_, zz, rfl⟩
  unfold pyNext
  refine wpAny_bind (wpAny_attempt (wpAny_callSpecial?_slot (name := Str.ofString "__next__") ty F.slot_zip_next (wpAny_call_entry F.slot_zip_next ty F.entry_zip_next ?_ (F.args_zip_next_1 _))))
  refine zx_end2 hd N1 N2 D zz pt pi p1 p2 en fun g e kp he => ?_
  obtain ⟨o, h1, h2⟩ := he
  exact wpAny_bind (wpAny_isInstance (T := "StopIteration") (b := true) ⟨o, h1, h2⟩ isSubtype_stop (wpAny_pure (q _ kp)))
end
/-- a zip as an argument of dict -/
theorem arg_zip {prog : Program} {w : World} {zp ti to j1 j2 : Addr} {f1 f2 : List Addr} {xs ys : Array Value} {S1 S2 : Nat → Heap → Prop} (N1 : Nx prog w j1 f1 xs S1) (N2 : Nx prog w j2 f2 ys S2) (D : Zx zp ti to j1 j2 f1 f2) :
    PairArg prog w "zip" zp ([zp, ti, to] ++ f1 ++ f2) [zp, to, j1, j2] (min xs.size ys.size) (fun i u v => xs[i]? = some u ∧ ys[i]? = some v)
      (fun h => IsZip h zp ti to .none ∧ IsPair h ti (.ref j1) (.ref j2) ∧ (∃ a b, IsPair h to a b) ∧ S1 0 h ∧ S2 0 h) where
  type := fun s ok => ⟨_, ok.1, rfl⟩
  notDict := by decide
  keep := fun h g ok kp => ⟨kp _ _ ok.1, kp _ _ ok.2.1, (let ⟨a, b, e⟩ := ok.2.2.1; ⟨a, b, kp _ _ e⟩), N1.keep _ _ _ ok.2.2.2.1 fun c _ o e => kp c o e, N2.keep _ _ _ ok.2.2.2.2 fun c _ o e => kp c o e⟩
  there := fun h ok b hb => by
    obtain ⟨e1, e2, ⟨a, c, e3⟩, st1, st2⟩ := ok
    rw [List.mem_append, List.mem_append] at hb
    rcases hb with (hb | hb) | hb
    · simp only [List.mem_cons, List.not_mem_nil, or_false] at hb
      rcases hb with rfl | rfl | rfl
      · exact ⟨_, e1⟩
      · exact ⟨_, e2⟩
      · exact ⟨_, e3⟩
    · exact N1.there _ _ st1 b hb
    · exact N2.there _ _ st2 b hb
  sub := fun b hb => by
    simp only [List.mem_cons, List.not_mem_nil, or_false] at hb
    rw [List.mem_append, List.mem_append]
    rcases hb with rfl | rfl | rfl | rfl
    · exact .inl (.inl (by simp))
    · exact .inl (.inl (by simp))
    · exact .inl (.inr D.m1)
    · exact .inr D.m2
  noKeys := fun A s Q E hd ok h => getAttrOr_miss_zip ok.1 rfl rfl rfl zip_no_keys (by decide +kernel) hd h
  iter := fun A s d Q E hd ok hl hf h => by
    obtain ⟨zz, pi, ⟨a, b, po⟩, p1, p2⟩ := ok
    rw [List.mem_append, List.mem_append] at hf
    have dz : d ≠ zp := fun z => hf (.inl (.inl (by simp [z])))
    have dti : d ≠ ti := fun z => hf (.inl (.inl (by simp [z])))
    have dto : d ≠ to := fun z => hf (.inl (.inl (by simp [z])))
    have d1 : d ∉ f1 := fun z => hf (.inl (.inr z))
    have d2 : d ∉ f2 := fun z => hf (.inr z)
    refine wpAny_pyIter_zip zz (h zp [zp, to, j1, j2] (fun i g => IsPair g ti (.ref j1) (.ref j2) ∧ S1 i g ∧ S2 i g ∧
      ((IsZip g zp ti to .none ∧ ∃ a b, IsPair g to a b) ∨ ∃ T f oT, IsZipHeld g zp ti to T f ∧ g.get? T = some oT ∧ T ≠ zp ∧ T ≠ j1 ∧ T ≠ j2 ∧ T ≠ d)) s.heap s.toks ?_
      ⟨pi, p1, p2, .inl ⟨zz, a, b, po⟩⟩ (fun _ _ e => e) fun b hb => .inl hb)
    refine ⟨?_, ?_, ?_, ?_⟩
    · intro hm
      simp only [List.mem_cons, List.not_mem_nil, or_false] at hm
      rcases hm with e | e | e | e
      · exact dz e
      · exact dto e
      · exact d1 (e ▸ D.m1)
      · exact d2 (e ▸ D.m2)
    · intro i h1 h2 st kp
      obtain ⟨pi, p1, p2, zz⟩ := st
      refine ⟨kp _ _ dti.symm pi, N1.keep _ _ _ p1 fun c hc o e => kp c o (fun z => d1 (z ▸ hc)) e, N2.keep _ _ _ p2 fun c hc o e => kp c o (fun z => d2 (z ▸ hc)) e, ?_⟩
      rcases zz with ⟨zz, a, b, po⟩ | ⟨T, f, oT, zz, pt, r1, r2, r3, r4⟩
      · exact .inl ⟨kp _ _ dz.symm zz, a, b, kp _ _ dto.symm po⟩
      · exact .inr ⟨T, f, oT, kp _ _ dz.symm zz, kp _ _ r4 pt, r1, r2, r3, r4⟩
    · intro i s1 Q1 E1 hi st hds q
      obtain ⟨pi, p1, p2, zz⟩ := st
      have ex := Array.getElem?_eq_getElem (Nat.lt_of_lt_of_le hi (Nat.min_le_left xs.size ys.size))
      have ey := Array.getElem?_eq_getElem (Nat.lt_of_lt_of_le hi (Nat.min_le_right xs.size ys.size))
      have lt : ∀ {c o}, s1.heap.get? c = some o → s1.heap.objs.size ≠ c := fun e => Nat.ne_of_gt (Heap.lt_size e)
      have n1 : s1.heap.objs.size ≠ j1 := let ⟨_, e⟩ := N1.there _ _ p1 j1 D.m1; lt e
      have n2 : s1.heap.objs.size ≠ j2 := let ⟨_, e⟩ := N2.there _ _ p2 j2 D.m2; lt e
      rcases zz with ⟨zz, a, b, po⟩ | ⟨T, f, oT, zz, pt, r1, r2, r3, r4⟩
      · refine nx_item N1 N2 D zz pi po p1 p2 ex ey fun g a1 a2 a3 a4 a5 kp => ?_
        exact q s1.heap.objs.size _ _ g s1.toks ⟨ex, ey⟩ (.inl ⟨_, a4, rfl, _, rfl⟩) ⟨kp _ _ D.iz D.io D.i1 D.i2 pi, a2, a3, .inr ⟨s1.heap.objs.size, false, _, a1, a4, lt zz, n1, n2, Nat.ne_of_gt hds⟩⟩
          fun c o hc e => kp c o (fun z => hc (by simp [z])) (fun z => hc (by simp [z])) (fun z => hc (by simp [z])) (fun z => hc (by simp [z])) e
      · refine nx_item2 N1 N2 D zz pt pi p1 p2 ex ey fun g a1 a2 a3 a4 a5 kp => ?_
        exact q s1.heap.objs.size _ _ g s1.toks ⟨ex, ey⟩ (.inl ⟨_, a4, rfl, _, rfl⟩) ⟨kp _ _ D.iz D.i1 D.i2 pi, a2, a3, .inr ⟨T, true, oT, a1, kp _ _ r1 r2 r3 pt, r1, r2, r3, r4⟩⟩
          fun c o hc e => kp c o (fun z => hc (by simp [z])) (fun z => hc (by simp [z])) (fun z => hc (by simp [z])) e
    · intro s1 Q1 E1 st q
      obtain ⟨pi, p1, p2, zz⟩ := st
      have en : xs[min xs.size ys.size]? = none ∨ ys[min xs.size ys.size]? = none := by
        rcases Nat.le_total xs.size ys.size with z | z
        · exact .inl (Array.getElem?_eq_none (by rw [Nat.min_eq_left z]; exact Nat.le_refl _))
        · exact .inr (Array.getElem?_eq_none (by rw [Nat.min_eq_right z]; exact Nat.le_refl _))
      rcases zz with ⟨zz, a, b, po⟩ | ⟨T, f, oT, zz, pt, r1, r2, r3, r4⟩
      · exact nx_end hd N1 N2 D zz pi po p1 p2 en fun g kp => q g s1.toks fun c o hc e => kp c o (fun z => hc (by simp [z])) (fun z => hc (by simp [z])) (fun z => hc (by simp [z])) (fun z => hc (by simp [z])) e
      · exact nx_end2 hd N1 N2 D zz pt pi p1 p2 en fun g kp => q g s1.toks fun c o hc e => kp c o (fun z => hc (by simp [z])) (fun z => hc (by simp [z])) (fun z => hc (by simp [z])) e
/-! ### zip(list, tuple) made -/
abbrev zm1 (h : Heap) (u : Addr) : Heap := h.push { cls := .type "list_iterator", data := .fields #[.ref u, .int 0 0] }
abbrev zm2 (h : Heap) (u v : Addr) : Heap := (zm1 h u).push { cls := .type "tuple_iterator", data := .fields #[.ref v, .int 0 0] }
abbrev zm3 (h : Heap) (u v : Addr) : Heap := (zm2 h u v).push { cls := .type "tuple", data := .seq #[.ref h.objs.size, .ref (zm1 h u).objs.size] }
abbrev zm4 (h : Heap) (u v : Addr) : Heap := (zm3 h u v).push { cls := .type "tuple", data := .seq #[.none, .none] }
abbrev zm5 (h : Heap) (u v : Addr) : Heap := (zm4 h u v).push { cls := .type "zip", data := .fields #[.none, .bool false, .bool false, .ref (zm2 h u v).objs.size, .ref (zm3 h u v).objs.size] }
theorem zm_new (u v : Addr) (xs ys : Array Value) : Meets (Builtin.«zip.__new__» ⟨[.type "zip", .ref u, .ref v], []⟩) (fun _ R s => s.heap.IsList u xs ∧ s.heap.IsTuple v ys ∧ R (.ok (.ret (.ref (zm4 s.heap u v).objs.size))) { s with heap := zm5 s.heap u v }) :=
  .of_wp fun prog w A R s h => by
    obtain ⟨hp, g, d, tk, os⟩ := s
    obtain ⟨k1, k2, h⟩ := h
    have hsub := sub_zip
    have K1 : Heap.IsList (Shared.heap ⟨hp, g, d, tk, os⟩) u xs := k1
    have K2 : Heap.IsTuple (Shared.heap ⟨hp.push { cls := .type "list_iterator", data := .fields #[.ref u, .int 0 0] }, g, d, tk, os⟩) v ys := Heap.IsTuple.push k2 _
    wp_walk using wpAny_pyIter_list K1, wpAny_pyIter_tuple K2
    exact ⟨_, rfl, h⟩
theorem call_zm {prog : Program} {w : World} {A : Around} {E : Value → Shared → Prop} {s : Shared} {u v : Addr} {xs ys : Array Value} {Q : Value → Shared → Prop} (k1 : s.heap.IsList u xs) (k2 : s.heap.IsTuple v ys)
    (q : ∀ g, IsZip g (s.heap.objs.size + 4) (s.heap.objs.size + 2) (s.heap.objs.size + 3) .none → IsPair g (s.heap.objs.size + 2) (.ref s.heap.objs.size) (.ref (s.heap.objs.size + 1)) → IsPair g (s.heap.objs.size + 3) .none .none →
      g.IsListIter s.heap.objs.size u 0 → g.IsTupleIter (s.heap.objs.size + 1) v 0 → g.objs.size = s.heap.objs.size + 5 → (∀ c o, s.heap.get? c = some o → g.get? c = some o) → Q (.ref (s.heap.objs.size + 4)) { s with heap := g }) :
    wpAny (model prog w) A (call (.type "zip") [.ref u, .ref v]) Q E s := by
  refine callType_new F.called_zip (by decide) (F.typeCall_zip_2 _ _) (F.newCall_zip_2 _ _) (fun ob => F.args_object_init_3 ob _ _) F.entry_zip_new (zm_new u v xs ys) ⟨k1, k2, ?_⟩
  have z1 : (zm1 s.heap u).objs.size = s.heap.objs.size + 1 := Heap.size_push ..
  have z2 : (zm2 s.heap u v).objs.size = s.heap.objs.size + 2 := by rw [Heap.size_push, z1]
  have z3 : (zm3 s.heap u v).objs.size = s.heap.objs.size + 3 := by rw [Heap.size_push, z2]
  have z4 : (zm4 s.heap u v).objs.size = s.heap.objs.size + 4 := by rw [Heap.size_push, z3]
  have z5 : (zm5 s.heap u v).objs.size = s.heap.objs.size + 5 := by rw [Heap.size_push, z4]
  have up : ∀ (h : Heap) (o : Obj) {c : Addr} {q : Obj}, h.get? c = some q → (h.push o).get? c = some q := fun h o c q e => Heap.get?_push_of_some o e
  have g5 : (zm5 s.heap u v).get? (zm4 s.heap u v).objs.size = some _ := Heap.get?_push_size _ rfl
  have g4 : (zm5 s.heap u v).get? (zm3 s.heap u v).objs.size = some _ := up _ _ (Heap.get?_push_size _ rfl)
  have g3 : (zm5 s.heap u v).get? (zm2 s.heap u v).objs.size = some _ := up _ _ (up _ _ (Heap.get?_push_size _ rfl))
  have g2 : (zm5 s.heap u v).get? (zm1 s.heap u).objs.size = some _ := up _ _ (up _ _ (up _ _ (Heap.get?_push_size _ rfl)))
  have g1 : (zm5 s.heap u v).get? s.heap.objs.size = some _ := up _ _ (up _ _ (up _ _ (up _ _ (Heap.get?_push_size _ rfl))))
  show _ ∧ _
  rw [z2, z3, z4] at g5
  rw [z1, z2] at g3
  rw [z3] at g4
  rw [z1] at g2
  rw [z4]
  exact ⟨⟨_, g5, rfl⟩, q _ g5 g3 g4 ⟨_, g1, rfl, rfl⟩ ⟨_, g2, rfl, rfl⟩ z5 fun c o e => up _ _ (up _ _ (up _ _ (up _ _ (up _ _ e))))⟩
end Vm

set_option Elab.async false
set_option linter.all false
set_option maxRecDepth 100000
set_option maxHeartbeats 4000000
/-! Vm: dict(zip(list of tuples, tuple)). -/
namespace Vm
open PySem PySem.Spec PyProof.Rows L2
open PySem.Sem (wp)
def mergeT (kvs more : List (List Key × V)) : List (List Key × V) := more.foldl (fun acc q => L2.putK acc q.1 q.2) kvs
theorem kt_merge {H : Hp} : ∀ {ks : List (List Key)} {bs : List Addr} {vs : List V} {us : List Value} {kvs : List (List Key × V)} {xs : List (List Key × Addr × Value)}, bs.length = ks.length → vs.length = ks.length →
    (∀ (i : Nat) (k : List Key) (b : Addr), ks[i]? = some k → bs[i]? = some b → H b = some (.tup (k.map kV))) → Vals vs us → KT H kvs xs → KT H (mergeT kvs (ks.zip vs)) (storedAllH xs (ks.zip (bs.zip us)))
  | [], _, _, _, _, _, _, _, _, _, r => by
    simp only [List.zip_nil_left]
    exact r
  | k :: ks, b :: bs, v :: vs, us, kvs, xs, e1, e2, hk, hv, r => by
    cases hv with
    | cons h t =>
      have r2 := r.put k (hk 0 k b rfl rfl) h
      exact kt_merge (ks := ks) (bs := bs) (vs := vs) (by simpa using e1) (by simpa using e2) (fun i k' b' h1 h2 => hk (i + 1) k' b' (by rw [List.getElem?_cons_succ]; exact h1) (by rw [List.getElem?_cons_succ]; exact h2)) t r2
theorem mergeT_len : ∀ (more kvs : List (List Key × V)), (mergeT kvs more).length ≤ kvs.length + more.length
  | [], _ => Nat.le_refl _
  | q :: more, kvs => by
    have h1 := mergeT_len more (L2.putK kvs q.1 q.2)
    have h2 := length_putK kvs q.1 q.2
    have e : mergeT kvs (q :: more) = mergeT (L2.putK kvs q.1 q.2) more := rfl
    rw [e, List.length_cons]
    omega
def tDictZip (K : PySem.W.Frag) (ta : TA) : TE := fun σ H Q => ta σ H fun ws H1 => ∃ (l t : Addr) (ks : List (List Key)) (bs : List Addr) (vs : List V), ws = [.ref l, .ref t] ∧ SqL K H1 l (bs.map V.ref) ∧ SqT K H1 t vs ∧ bs.length = ks.length ∧ vs.length = ks.length ∧
  (∀ (i : Nat) (k : List Key) (b : Addr), ks[i]? = some k → bs[i]? = some b → H1 b = some (.tup (k.map kV))) ∧ ∀ d, H1 d = none → Q (.ref d) (upd H1 d (.dT (mergeT [] (ks.zip vs))))
theorem vals_get : ∀ {vs : List V} {us : List Value} {i : Nat} {v : V}, Vals vs us → vs[i]? = some v → ∃ u, us[i]? = some u ∧ RelV v u := fun r h => r.get h
theorem pe_dictZip {X : Cx} {e e2 : Expr} {ta : TA} {p p2 pos pos2 : Pos} (hc : X.calm = true) (hu : X.A.units + 64 < cLine) (hg : Gl X "zip") (hm : X.mg "zip" = none) (hgd : Gl X "dict") (hmd : X.mg "dict" = none) (ha : PA X [e, e2] ta)
    (hs : starEach [e, e2] X.env = (false, eval e X.env) :: starEach [e2] X.env := by rfl) (hpl : (backTo pos2 (starEach [e2] X.env)).any (·.1) = false := by rfl) :
    PE X (.Call (.Name "dict" p) [.Call (.Name "zip" p2) [e, e2] [] pos2] [] pos) (tDictZip X.K ta) := by
  refine ⟨fun pins s σ H Q I h => ?_⟩
  refine Call_ (ld_blt I hgd hmd PyProof.Rows.boot_dict (PyProof.Rows.callWith_type1 ?_ rfl rfl))
  refine Calls.spliced_cons (Call_ (ld_blt I hg hm PyProof.Rows.boot_zip (PyProof.Rows.callWith_type1 (thn (ha.run pos2 pins s σ H _ I h) fun us s1 ⟨ws, H1, I1, r1, q1⟩ => ?_) hs hpl)))
  obtain ⟨l, t, ks, bs, vs, ex, hl, ht, e1, e2, hk, q⟩ := q1
  subst ex
  cases r1 with
  | cons r rr =>
    cases rr with
    | cons r' rr =>
      cases rr
      cases r
      cases r'
      obtain ⟨its, rv, p1, z1⟩ := I1.list hl
      obtain ⟨its2, rv2, p2, _⟩ := I1.tuple ht
      have ei := refs_at rv
      subst ei
      have lt1 : l < s1.heap.objs.size := p1.lt
      have lt2 : t < s1.heap.objs.size := by
        obtain ⟨_, ho, _⟩ := id p2
        exact Heap.lt_size ho
      refine call_zm p1.isList (show s1.heap.IsTuple t its2.toArray from p2) fun g a1 a2 a3 a4 a5 a6 kp => Calls.spliced_nil ?_
      have D : Zx (s1.heap.objs.size + 4) (s1.heap.objs.size + 2) (s1.heap.objs.size + 3) s1.heap.objs.size (s1.heap.objs.size + 1) [s1.heap.objs.size, l] [s1.heap.objs.size + 1, t] := by
        have fl : ∀ c : Nat, l ≠ s1.heap.objs.size + c := fun c => Nat.ne_of_lt (Nat.lt_of_lt_of_le lt1 (Nat.le_add_right _ _))
        have ft : ∀ c : Nat, t ≠ s1.heap.objs.size + c := fun c => Nat.ne_of_lt (Nat.lt_of_lt_of_le lt2 (Nat.le_add_right _ _))
        have nn : ∀ b c : Nat, b ≠ c → s1.heap.objs.size + b ≠ s1.heap.objs.size + c := fun b c n z => n (Nat.add_left_cancel z)
        have n0 : ∀ c : Nat, c ≠ 0 → s1.heap.objs.size + c ≠ s1.heap.objs.size := fun c n z => nn c 0 n z
        refine ⟨?_, ?_, ?_, ?_, ?_, ?_, ?_, ?_, ?_, ?_, ?_, ?_, ?_⟩
        · simp [n0 4 (by decide), (fl 4).symm]
        · simp [nn 4 1 (by decide), (ft 4).symm]
        · simp [n0 3 (by decide), (fl 3).symm]
        · simp [nn 3 1 (by decide), (ft 3).symm]
        · simp
        · simp
        · simp [(n0 1 (by decide)).symm, (ft 0).symm]
          exact fun z => ft 0 z.symm
        · simp [n0 1 (by decide), (fl 1).symm]
        · exact nn 2 4 (by decide)
        · exact nn 2 3 (by decide)
        · exact n0 2 (by decide)
        · exact nn 2 1 (by decide)
        · exact nn 3 4 (by decide)
      have N1 := nx_list (prog := X.prog) (w := X.w) s1.heap.objs.size l (Nat.ne_of_lt lt1) ((bs.map Value.ref).toArray)
      have N2 := nx_tup (prog := X.prog) (w := X.w) (s1.heap.objs.size + 1) t (Nat.ne_of_lt (Nat.lt_of_lt_of_le lt2 (Nat.le_add_right _ _))) its2.toArray
      have l2 := rv2.length
      have I2 : Inv X pins σ H1 { s1 with heap := g } := I1.kept (t' := s1.toks) kp
      refine call_dict_pairsH (knd := tupleKind (mixKind X.prog X.w)) (ps := ks.zip (bs.zip its2)) (arg_zip N1 N2 D) (I1.ok.hd hc) (show X.A.units + 1 + 1 < cLine by omega)
        ⟨a1, a2, ⟨_, _, a3⟩, ⟨a4, p1.isList.at fun o e => kp _ o e⟩, ⟨a5, (show s1.heap.IsTuple t its2.toArray from p2).at fun o e => kp _ o e⟩⟩ ?_ ?_ ?_ fun h' tk hd keep => ?_
      · refine ⟨?_, fun i u v z => ?_⟩
        · simp
          omega
        · obtain ⟨z1, z2⟩ := z
          have z1 : (bs.map Value.ref)[i]? = some u := by simpa using z1
          rw [List.getElem?_map] at z1
          cases hb : bs[i]? with
          | none => rw [hb] at z1; cases z1
          | some b =>
            rw [hb] at z1
            cases z1
            have hi : i < ks.length := by
              have := (List.getElem?_eq_some_iff.mp hb).1
              omega
            refine ⟨ks[i], b, ?_, rfl⟩
            rw [List.getElem?_zip_eq_some]
            refine ⟨List.getElem?_eq_getElem hi, ?_⟩
            rw [List.getElem?_zip_eq_some]
            exact ⟨hb, by simpa using z2⟩
      · intro h' keep x hx
        obtain ⟨i, hi, ei⟩ := List.getElem_of_mem hx
        rw [List.length_zip, List.length_zip] at hi
        have hi1 : i < ks.length := by omega
        have hi2 : i < bs.length := by omega
        rw [List.getElem_zip, List.getElem_zip] at ei
        subst ei
        obtain ⟨o, it, n, ho, hcl, hdt, hit⟩ := key_of I1.hok (hk i ks[i] bs[i] (List.getElem?_eq_getElem hi1) (List.getElem?_eq_getElem hi2))
        have lb : bs[i] < s1.heap.objs.size := Heap.lt_size ho
        have nb : ∀ c : Nat, bs[i] ≠ s1.heap.objs.size + c := fun c => Nat.ne_of_lt (Nat.lt_of_lt_of_le lb (Nat.le_add_right _ _))
        refine ⟨o, it, n, keep _ o ?_ ?_ (kp _ o ho), hcl, hdt, hit⟩
        · show bs[i] ≠ g.objs.size
          rw [a6]
          exact nb 5
        · simp [nb 4, nb 3, nb 1]
          exact nb 0
      · simp
        rw [List.length_map] at z1
        omega
      · have gs : g.objs.size = s1.heap.objs.size + 5 := a6
        have fr : H1 g.objs.size = none := I1.hok.fresh (by rw [gs]; exact Nat.le_add_right _ _)
        have new : ObjOk X.prog X.w (upd H1 g.objs.size (.dT (mergeT [] (ks.zip vs)))) h' g.objs.size (.dT (mergeT [] (ks.zip vs))) := by
          obtain ⟨o, es, ep, h1, h2, h3, h4, _, h5⟩ := hd
          refine ⟨?_, beq_eq_false_iff_ne.mpr (Nat.ne_of_gt (Nat.lt_of_lt_of_le I1.big (by rw [gs]; exact Nat.le_add_right _ _))), _, (kt_merge (kvs := []) (xs := []) e1 e2 hk rv2 .nil).keeps fun b ys hb => ?_, o, es, ep, h1, h2, h3, h4, h5⟩
          · refine Nat.le_trans (mergeT_len _ _) ?_
            rw [List.length_map] at z1
            simp
            omega
          · rw [upd_ne fun z => by rw [z, fr] at hb; cases hb]
            exact hb
        refine ⟨.ref g.objs.size, _, I1.laid (t' := tk) (fun b u e => keep b u ?_ (kp b u e)) (by rw [gs]; exact Nat.le_add_right _ _) new, rfl, q _ fr⟩
        have lb : b < s1.heap.objs.size := Heap.lt_size e
        have nb : ∀ c : Nat, b ≠ s1.heap.objs.size + c := fun c => Nat.ne_of_lt (Nat.lt_of_lt_of_le lb (Nat.le_add_right _ _))
        simp [nb 4, nb 3, nb 1]
        exact nb 0
theorem pairsT_of {X : Cx} {pins : List (Addr × Obj)} {σ : L2.St} {H : Hp} {s : Shared} (I : Inv X pins σ H s) : ∀ {ps bs : List Addr} {vs : List V}, bs.length = ps.length → vs.length = ps.length →
    (∀ (i : Nat) (p b : Addr) (v : V), ps[i]? = some p → bs[i]? = some b → vs[i]? = some v → SqT X.K H p [.ref b, v]) →
    ∃ us : List Value, Vals vs us ∧ ∀ (i : Nat) (p b : Addr) (u : Value), ps[i]? = some p → bs[i]? = some b → us[i]? = some u → IsTup s.heap p #[.ref b, u]
  | [], [], [], _, _, _ => ⟨[], .nil, fun i p b u h => by cases h⟩
  | p :: ps, b :: bs, v :: vs, e1, e2, h => by
    obtain ⟨us, r, q⟩ := pairsT_of I (ps := ps) (bs := bs) (vs := vs) (by simpa using e1) (by simpa using e2) fun i p' b' v' h1 h2 h3 => h (i + 1) p' b' v' (by rw [List.getElem?_cons_succ]; exact h1) (by rw [List.getElem?_cons_succ]; exact h2) (by rw [List.getElem?_cons_succ]; exact h3)
    obtain ⟨its, rv, ht, _⟩ := I.tuple (h 0 p b v rfl rfl rfl)
    obtain ⟨u, y, ei, ru, ry⟩ := vals2 rv
    subst ei
    cases ru
    refine ⟨y :: us, .cons ry r, fun i p' b' u' h1 h2 h3 => ?_⟩
    cases i with
    | zero =>
      cases h1
      cases h2
      cases h3
      exact ht
    | succ i => exact q i p' b' u' (by rw [List.getElem?_cons_succ] at h1; exact h1) (by rw [List.getElem?_cons_succ] at h2; exact h2) (by rw [List.getElem?_cons_succ] at h3; exact h3)
/-- dict(xs) of a list of pairs (tuple, value) -/
theorem call_dictPT {X : Cx} (hc : X.calm = true) (hu : X.A.units + 64 < cLine) : CallR X (.type "dict") (fun xs H Q => ∃ (a : Addr) (ps bs : List Addr) (ks : List (List Key)) (vs : List V), xs = [.ref a] ∧ SqL X.K H a (ps.map V.ref) ∧ ps.length = ks.length ∧ bs.length = ks.length ∧ vs.length = ks.length ∧
    (∀ (i : Nat) (p b : Addr) (v : V), ps[i]? = some p → bs[i]? = some b → vs[i]? = some v → SqT X.K H p [.ref b, v]) ∧ (∀ (i : Nat) (k : List Key) (b : Addr), ks[i]? = some k → bs[i]? = some b → H b = some (.tup (k.map kV))) ∧
    ∀ d, H d = none → Q (.ref d) (upd H d (.dT (mergeT [] (ks.zip vs))))) := by
  intro pins s σ H xs us0 Q I r q
  obtain ⟨a, ps, bs, ks, vs, ex, hl, e0, e1, e2, hp, hk, q⟩ := q
  subst ex
  obtain ⟨u, eu, rx⟩ := vals1 r
  subst eu
  cases rx
  obtain ⟨its, rv, pl, hz⟩ := I.list hl
  have ei := refs_at rv
  subst ei
  rw [List.length_map] at hz
  obtain ⟨us, rus, hus⟩ := pairsT_of I (ps := ps) (bs := bs) (vs := vs) (by omega) (by omega) hp
  have lu := rus.length
  obtain ⟨o, n, ho, hcl, hd, hdat⟩ := pl
  have sz : ((bs.map Value.ref).zip us).length = ks.length := by
    rw [List.length_zip, List.length_map]
    omega
  refine call_dict_pairsH (knd := tupleKind (mixKind X.prog X.w)) (ps := ks.zip (bs.zip us)) (PairArg.list a ((ps.map Value.ref).toArray) (fun j => ps.getD j 0) ((bs.map Value.ref).zip us)) (I.ok.hd hc) (show X.A.units + 1 + 1 < cLine by omega)
    ⟨⟨o, n, ho, hcl, hd, hdat⟩, ?_, ?_⟩ ?_ ?_ ?_ fun h' tk hd keep => ?_
  · simp
    omega
  · intro i u v z
    rw [List.getElem?_zip_eq_some, List.getElem?_map] at z
    obtain ⟨z1, z2⟩ := z
    cases hb : bs[i]? with
    | none => rw [hb] at z1; cases z1
    | some b =>
      rw [hb] at z1
      cases z1
      have hi : i < ps.length := by
        have := (List.getElem?_eq_some_iff.mp hb).1
        omega
      have hpi : ps[i]? = some ps[i] := List.getElem?_eq_getElem hi
      refine ⟨?_, .inl ?_⟩
      · simp [hpi]
      · show s.heap.IsTuple (ps.getD i 0) _
        rw [show ps.getD i 0 = ps[i] by simp [hi]]
        exact hus i ps[i] b v hpi hb z2
  · refine ⟨?_, fun i u v z => ?_⟩
    · rw [List.length_zip, List.length_zip]
      omega
    · have z : ((bs.map Value.ref).zip us)[i]? = some (u, v) := z
      rw [List.getElem?_zip_eq_some, List.getElem?_map] at z
      obtain ⟨z1, z2⟩ := z
      cases hb : bs[i]? with
      | none => rw [hb] at z1; cases z1
      | some b =>
        rw [hb] at z1
        cases z1
        have hi : i < ks.length := by
          have := (List.getElem?_eq_some_iff.mp hb).1
          omega
        refine ⟨ks[i], b, ?_, rfl⟩
        rw [List.getElem?_zip_eq_some]
        refine ⟨List.getElem?_eq_getElem hi, ?_⟩
        rw [List.getElem?_zip_eq_some]
        exact ⟨hb, z2⟩
  · intro h' keep x hx
    obtain ⟨i, hi, ei⟩ := List.getElem_of_mem hx
    rw [List.length_zip, List.length_zip] at hi
    have hi1 : i < ks.length := by omega
    have hi2 : i < bs.length := by omega
    rw [List.getElem_zip, List.getElem_zip] at ei
    subst ei
    obtain ⟨o, it, n, ho, hcl, hdt, hit⟩ := key_of I.hok (hk i ks[i] bs[i] (List.getElem?_eq_getElem hi1) (List.getElem?_eq_getElem hi2))
    exact ⟨o, it, n, keep _ o (Nat.ne_of_lt (Heap.lt_size ho)) (by simp) ho, hcl, hdt, hit⟩
  · omega
  · have fr : H s.heap.objs.size = none := I.hok.fresh (Nat.le_refl _)
    have new : ObjOk X.prog X.w (upd H s.heap.objs.size (.dT (mergeT [] (ks.zip vs)))) h' s.heap.objs.size (.dT (mergeT [] (ks.zip vs))) := by
      obtain ⟨o, es, ep, h1, h2, h3, h4, _, h5⟩ := hd
      refine ⟨?_, beq_eq_false_iff_ne.mpr (Nat.ne_of_gt I.big), _, (kt_merge (kvs := []) (xs := []) e1 e2 hk rus .nil).keeps fun b ys hb => ?_, o, es, ep, h1, h2, h3, h4, h5⟩
      · refine Nat.le_trans (mergeT_len _ _) ?_
        simp
        omega
      · rw [upd_ne fun z => by rw [z, fr] at hb; cases hb]
        exact hb
    exact ⟨.ref s.heap.objs.size, _, I.laid (t' := tk) (fun b u e => keep b u (by simp) e) (Nat.le_refl _) new, rfl, q _ fr⟩
end Vm

set_option Elab.async false
set_option linter.all false
set_option maxRecDepth 100000
set_option maxHeartbeats 4000000
/-! Vm: list.index, dicts made of pairs. -/
namespace Vm
open PySem PySem.Spec PyProof.Rows L2
theorem findD_ok (d : D) : ∀ {ds : List D} {i : Nat}, findD d ds = some i → ∃ z, ds[i]? = some z ∧ PyData.eqv z d = true ∧ ∀ (m : Nat) (z' : D), m < i → ds[m]? = some z' → PyData.eqv z' d = false
  | [], _, h => by cases h
  | e :: es, i, h => by
    have h : (if PyData.eqv e d = true then some 0 else (findD d es).map (· + 1)) = some i := h
    by_cases q : PyData.eqv e d = true
    · rw [if_pos q] at h
      cases h
      exact ⟨e, rfl, q, fun m z' hm => absurd hm (Nat.not_lt_zero m)⟩
    · rw [if_neg q] at h
      obtain ⟨j, h1, h2⟩ := Option.map_eq_some_iff.mp h
      subst h2
      obtain ⟨z, z1, z2, z3⟩ := findD_ok d h1
      refine ⟨z, by rw [List.getElem?_cons_succ]; exact z1, z2, fun m z' hm hz => ?_⟩
      cases m with
      | zero =>
        cases hz
        simpa using q
      | succ m => exact z3 m z' (by omega) (by rw [List.getElem?_cons_succ] at hz; exact hz)
section
variable {X : Cx}
theorem mtr_index (hu : X.A.units + 65 < cLine) : MtR X "list.index" (rMt X.K .index) := by
  intro pins s σ H x xs v us Q I rx rv h
  obtain ⟨s0, ρ0, Hf0, H0, st, ρ, Hf, r, q, y, rfl, w, x0, rr, rq, fr, p⟩ := h
  obtain ⟨d, s1, e1, p1⟩ := p.bind
  clear p
  obtain ⟨v1, z⟩ := look_ok e1
  subst z
  obtain ⟨e, s2, e2, p2⟩ := p1.bind
  clear p1
  obtain ⟨v2, z⟩ := look_ok e2
  subst z
  cases d <;> first | exact p2.elim | skip
  rename_i ds
  have p2 : Post X.K s0 ρ0 Hf0 H0 (ReR X.K) ((if (shp (.list ds) && shp e) = true then (match findD e ds with
      | some i => ret (R.v (.int (i : Nat)))
      | none => stuck) else stuck) s2) Q := p2
  by_cases hz : (shp (.list ds) && shp e) = true
  · rw [if_pos hz] at p2
    obtain ⟨h1, h2⟩ := Bool.and_eq_true_iff.mp hz
    cases hf : findD e ds with
    | none =>
      rw [hf] at p2
      exact p2.elim
    | some i =>
      rw [hf] at p2
      obtain ⟨z, z1, z2, z3⟩ := findD_ok e hf
      obtain ⟨a, ys, rfl, _, _⟩ := rr.lst w v1
      exact mt_indexD hu pins s σ H _ _ v us Q I rx rv ⟨a, y, e, ds, i, z, rfl, rfl, rr.dp w v1 h1, rq.dp w v2 h2, h1, h2, z1, z2, z3, p2 _ ρ Hf _ w x0 ⟨.v (.int _), trivial⟩⟩
  · rw [if_neg hz] at p2
    exact p2.elim
end
/-! ### dicts made of pairs -/
section
variable {κ : Type} [DecidableEq κ] {K : PySem.W.Frag} {Hf : Hp}
/-- keys, none twice: in data, in the heap -/
theorem dist_nodup (kd : κ → D) (hk : ∀ a b, eqK (kd a) (kd b) = decide (a = b)) : ∀ {ks : List κ} {ds : List D}, ds.length = ks.length → distK ((ks.map kd).zip ds) = true → ks.Nodup
  | [], _, _, _ => List.nodup_nil
  | k :: ks, d :: ds, e, h => by
    have h : ((getK (kd k) ((ks.map kd).zip ds)).isNone && distK ((ks.map kd).zip ds)) = true := h
    rw [Bool.and_eq_true] at h
    refine List.nodup_cons.mpr ⟨fun hm => ?_, dist_nodup kd hk (by simpa using e) h.2⟩
    have go : ∀ {ks : List κ} {ds : List D}, ds.length = ks.length → k ∈ ks → getK (kd k) ((ks.map kd).zip ds) ≠ none := by
      intro ks
      induction ks with
      | nil => intro ds _ hm; cases hm
      | cons j ks ih =>
        intro ds e hm
        cases ds with
        | nil => cases e
        | cons d ds =>
          have e1 : getK (kd k) (((j :: ks).map kd).zip (d :: ds)) = if eqK (kd j) (kd k) = true then some d else getK (kd k) ((ks.map kd).zip ds) := rfl
          rw [e1, hk]
          by_cases z : j = k
          · rw [if_pos (decide_eq_true z)]
            exact fun q => by cases q
          · rw [if_neg (by simp [z])]
            refine ih (by simpa using e) ?_
            rcases List.mem_cons.mp hm with q | q
            · exact absurd q.symm z
            · exact q
    exact go (by simpa using e) hm (by simpa using h.1)
theorem valV_none : ∀ {kvs : List (κ × V)} {k : κ}, k ∉ kvs.map (·.1) → valV kvs k = none
  | [], _, _ => rfl
  | q :: kvs, k, h => by
    rw [valV_neg fun z => h (by rw [List.map_cons, z]; exact .head _)]
    exact valV_none fun z => h (by rw [List.map_cons]; exact .tail _ z)
theorem fold_new : ∀ (more acc : List (κ × V)), (acc.map (·.1) ++ more.map (·.1)).Nodup → more.foldl (fun acc q => L2.putK acc q.1 q.2) acc = acc ++ more
  | [], acc, _ => (List.append_nil acc).symm
  | q :: more, acc, h => by
    have hn : q.1 ∉ acc.map (·.1) := fun z => (List.nodup_append.mp h).2.2 q.1 z q.1 (by rw [List.map_cons]; exact .head _) rfl
    show more.foldl _ (L2.putK acc q.1 q.2) = _
    rw [putK_new q.2 (valV_none hn), fold_new more (acc ++ [(q.1, q.2)]) (by
      rw [List.map_append, List.append_assoc]
      exact h), List.append_assoc]
    rfl
end
theorem zip_keys {κ : Type} (kd : κ → D) : ∀ {ks : List κ} {vs : List V} {ds : List D}, vs.length = ks.length → ((ks.zip vs).map fun q => kd q.1).zip ds = (ks.map kd).zip ds
  | [], _, _, _ => by simp
  | k :: ks, v :: vs, [], _ => by simp
  | k :: ks, v :: vs, d :: ds, e => by
    simp only [List.zip_cons_cons, List.map_cons]
    rw [zip_keys kd (by simpa using e)]
theorem zip_vals {κ : Type} : ∀ {ks : List κ} {vs : List V}, vs.length = ks.length → (ks.zip vs).map (·.2) = vs
  | [], [], _ => rfl
  | k :: ks, v :: vs, e => by
    simp only [List.zip_cons_cons, List.map_cons]
    rw [zip_vals (by simpa using e)]
theorem mergeT_new {ks : List (List Key)} {vs : List V} (e : vs.length = ks.length) (h : ks.Nodup) : mergeT [] (ks.zip vs) = ks.zip vs := by
  unfold mergeT
  rw [fold_new _ _ (by
    show (([] : List (List Key × V)).map (·.1) ++ (ks.zip vs).map (·.1)).Nodup
    rw [List.map_fst_zip (by omega)]
    exact h)]
  rfl
/-- items that are tuples of keys -/
theorem reps_refs {K : PySem.W.Frag} {Hf : Hp} : ∀ {ds : List D} {xs : List V}, (ds.all fun d => isKey d && kindK d == 2) = true → Reps K Hf xs ds →
    ∃ (ks : List (List Key)) (bs : List Addr), ds = ks.map keysD ∧ xs = bs.map V.ref ∧ bs.length = ks.length ∧ ∀ (i : Nat) (k : List Key) (b : Addr), ks[i]? = some k → bs[i]? = some b → Hf b = some (.tup (k.map kV))
  | [], _, _, .nil => ⟨[], [], rfl, rfl, rfl, fun i k b h => by cases h⟩
  | d :: ds, _, h, .cons r t => by
    rw [List.all_cons, Bool.and_eq_true, Bool.and_eq_true] at h
    obtain ⟨ks, bs, e1, e2, e3, q⟩ := reps_refs h.2 t
    rcases key_cases h.1.1 with ⟨kk, rfl, z⟩ | ⟨kk, rfl, _⟩
    · have := eq_of_beq h.1.2
      rw [z] at this
      cases this
    · have r : Rep K Hf _ (.tuple (kk.map keyD)) := r
      cases r with
      | @tup b ys _ hb rr =>
        refine ⟨kk :: ks, b :: bs, by rw [e1]; rfl, by rw [e2]; rfl, by simp [e3], fun i k b' h1 h2 => ?_⟩
        cases i with
        | zero =>
          cases h1
          cases h2
          rw [hb, reps_keyT rr]
        | succ i => exact q i k b' (by rw [List.getElem?_cons_succ] at h1; exact h1) (by rw [List.getElem?_cons_succ] at h2; exact h2)
section
variable {X : Cx} {C : Cfg} {a b : Expr} {ca cb : Co} {p q pos pos' : Pos}
theorem evRs_two {env : Env} {s : Sto} : evRs C [ca, cb] env s = bind (evE C ca env) (fun r => bind (evE C cb env) fun q => ret [r, q]) s := by
  have e1 : evRs C [ca, cb] env = bind (evE C ca env) fun r => bind (evRs C [cb] env) fun rs => ret (r :: rs) := by
    conv => lhs; unfold evRs
  have e2 : evRs C [cb] env = bind (evE C cb env) fun r => bind (evRs C [] env) fun rs => ret (r :: rs) := by
    conv => lhs; unfold evRs
  have e3 : evRs C [] env = ret [] := by
    unfold evRs
    rfl
  rw [e1, e2, e3]
  unfold bind
  cases evE C ca env s with
  | no => rfl
  | ok r s1 =>
    dsimp only
    cases evE C cb env s1 <;> rfl
theorem se_dictZip (hc : X.calm = true) (hu : X.A.units + 64 < cLine) (hg : Gl X "zip") (hm : X.mg "zip" = none) (hgd : Gl X "dict") (hmd : X.mg "dict" = none) (hs : noStar a = true) (hs2 : noStar b = true) (ha : SE X C a ca) (hb : SE X C b cb) :
    SE X C (.Call (.Name "dict" p) [.Call (.Name "zip" q) [a, b] [] pos] [] pos') (.bi .dictZip [ca, cb]) := fun env s =>
  PE.conseq (pe_dictZip hc hu hg hm hgd hmd (srn_two hs hs2 ha hb env s) (star_cons hs) (star_plain (by simp [hs2]))) fun σ H Q h => by
    unfold evE at h
    obtain ⟨ρ, Hf, w, eo, h⟩ := h
    obtain ⟨rs, s1, e1, h1⟩ := h.bind
    clear h
    rw [evRs_two] at e1
    refine ⟨ρ, Hf, w, eo, ?_⟩
    rw [e1]
    intro v ρ1 Hf1 H1 w1 x1 rr
    obtain ⟨ds, s3, e4, h2⟩ := h1.bind
    clear h1
    obtain ⟨z, vv⟩ := looks_ok e4
    subst z
    obtain ⟨r9, e5, h3⟩ := post_o' h2
    clear h2
    obtain ⟨r0, s5, _, e6⟩ := bind_ok e1
    obtain ⟨q0, s6, _, e7⟩ := bind_ok e6
    cases e7
    cases vv with
    | @cons _ d _ _ v1 vt =>
      cases vt with
      | @cons _ d2 _ _ v2 vt2 =>
        cases vt2
        have rr0 : Paired (Set1 X.K _ ρ1 Hf1 H1) [r0, q0] v := rr
        clear rr
        cases rr0 with
        | cons rr rrr =>
          cases rrr with
          | cons rq rrr2 =>
            cases rrr2
            obtain ⟨r', rr2, hn, hsq, hv⟩ := rr
            obtain ⟨q', rq2, hn', hsq', hv'⟩ := rq
            cases d <;> first | (cases e5; done) | skip
            cases d2 <;> first | (cases e5; done) | skip
            rename_i ks es
            have e5 : (if (decide (ks.length = es.length) && keysT (ks.zip es) && distK (ks.zip es)) = true then some (R.n (.dict (ks.zip es))) else none) = some r9 := e5
            by_cases hz : (decide (ks.length = es.length) && keysT (ks.zip es) && distK (ks.zip es)) = true
            · rw [if_pos hz] at e5
              cases e5
              rw [Bool.and_eq_true, Bool.and_eq_true, decide_eq_true_eq] at hz
              obtain ⟨⟨hl, hk⟩, hd⟩ := hz
              obtain ⟨l, xs, rfl, q1, q2⟩ := rr2.lst w1 ((hv _).trans v1)
              obtain ⟨t, ys, rfl, q3, q4⟩ := rq2.tup w1 ((hv' _).trans v2)
              have ka : (ks.all fun d => isKey d && kindK d == 2) = true := by
                rw [List.all_eq_true]
                intro d hd
                unfold keysT at hk
                rw [List.all_eq_true] at hk
                obtain ⟨i, hi, ei⟩ := List.getElem_of_mem hd
                have := hk (ks[i], es[i]'(by omega)) (by
                  rw [List.mem_iff_getElem]
                  exact ⟨i, by rw [List.length_zip]; omega, by rw [List.getElem_zip]⟩)
                rw [← ei]
                exact this
              obtain ⟨kks, bs, rfl, rfl, lb, hb⟩ := reps_refs ka q2
              have ly : ys.length = kks.length := by
                have := q4.length
                rw [List.length_map] at hl
                omega
              have nd := dist_nodup keysD eqK_t (by rw [List.length_map] at hl; exact hl.symm) hd
              refine ⟨l, t, kks, bs, ys, rfl, q1, q3, lb, ly, fun i k b h1 h2 => w1.sub _ _ (hb i k b h1 h2), fun dd hp => ?_⟩
              rw [mergeT_new ly nd]
              refine h3 _ ρ1 Hf1 _ (w1.new hp) (x1.trans (.new w1 hp)) ⟨.new w1 hp ?_, dd, rfl, x1.grow dd hp⟩
              have o := OR.dT (K := X.K) (H := Hf1) (kvs := kks.zip ys) (ds := es) (by rw [zip_vals ly]; exact q4)
              rw [zip_keys keysD ly] at o
              exact o
            · rw [if_neg hz] at e5
              cases e5
end
theorem reps_pairs {K : PySem.W.Frag} {Hf : Hp} : ∀ {ps : List D} {xs : List V} {qs : List (D × D)}, Reps K Hf xs ps → pairsD ps = some qs →
    ∃ (pa : List Addr) (kx vx : List V), xs = pa.map V.ref ∧ Paired (fun p (e : V × V) => Hf p = some (.tup [e.1, e.2])) pa (kx.zip vx) ∧ kx.length = vx.length ∧ Reps K Hf kx (qs.map (·.1)) ∧ Reps K Hf vx (qs.map (·.2))
  | [], _, qs, .nil, h => by
    cases h
    exact ⟨[], [], [], rfl, .nil, rfl, .nil, .nil⟩
  | d :: ps, _, qs, .cons r t, h => by
    cases d <;> first | (cases h; done) | skip
    rename_i ds
    match ds, r, h with
    | [k, v], r, h =>
      have h : (pairsD ps).map ((k, v) :: ·) = some qs := h
      obtain ⟨qs', h1, rfl⟩ := Option.map_eq_some_iff.mp h
      obtain ⟨pa, kx, vx, e1, e2, e3, r1, r2⟩ := reps_pairs t h1
      cases r with
      | tup hb rr =>
        cases rr with
        | cons rk rr =>
          cases rr with
          | cons rv rr =>
            cases rr
            exact ⟨_ :: pa, _ :: kx, _ :: vx, by rw [e1]; rfl, .cons hb e2, by simp [e3], .cons rk r1, .cons rv r2⟩
theorem zip_split : ∀ qs : List (D × D), (qs.map (·.1)).zip (qs.map (·.2)) = qs
  | [] => rfl
  | q :: qs => by
    simp only [List.map_cons, List.zip_cons_cons]
    rw [zip_split qs]
theorem paired_at {α β : Type} {P : α → β → Prop} : ∀ {as : List α} {bs : List β}, Paired P as bs → ∀ (i : Nat) (a : α) (b : β), as[i]? = some a → bs[i]? = some b → P a b
  | _, _, .nil, i, a, b, h, _ => by cases h
  | _, _, .cons p t, 0, a, b, h1, h2 => by
    cases h1
    cases h2
    exact p
  | _, _, .cons p t, i + 1, a, b, h1, h2 => by
    rw [List.getElem?_cons_succ] at h1 h2
    exact paired_at t i a b h1 h2
theorem paired_len {α β : Type} {P : α → β → Prop} : ∀ {as : List α} {bs : List β}, Paired P as bs → as.length = bs.length
  | _, _, .nil => rfl
  | _, _, .cons _ t => by simp [paired_len t]
def rDictP (K : PySem.W.Frag) : List V → Hp → VK → Prop := fun xs H Q => (∃ (a : Addr) (ps bs : List Addr) (ks : List (List Key)) (vs : List V), xs = [.ref a] ∧ SqL K H a (ps.map V.ref) ∧ ps.length = ks.length ∧ bs.length = ks.length ∧ vs.length = ks.length ∧
    (∀ (i : Nat) (p b : Addr) (v : V), ps[i]? = some p → bs[i]? = some b → vs[i]? = some v → SqT K H p [.ref b, v]) ∧ (∀ (i : Nat) (k : List Key) (b : Addr), ks[i]? = some k → bs[i]? = some b → H b = some (.tup (k.map kV))) ∧
    ∀ d, H d = none → Q (.ref d) (upd H d (.dT (mergeT [] (ks.zip vs))))) ∨
  ∃ (a : Addr) (ps : List Addr) (kvs : List (Key × V)), xs = [.ref a] ∧ SqL K H a (ps.map V.ref) ∧ Paired (fun p kv => SqT K H p [kV kv.1, kv.2]) ps kvs ∧ ∀ p, H p = none → Q (.ref p) (upd H p (.dK (mergeK [] kvs)))
theorem cr_dictP {X : Cx} (hc : X.calm = true) (hu : X.A.units + 64 < cLine) : CallR X (.type "dict") (rDictP X.K) := by
  intro pins s σ H xs us Q I r q
  rcases q with q | q
  · exact call_dictPT hc hu pins s σ H xs us Q I r q
  · exact call_dictP hc pins s σ H xs us Q I r q
section
variable {X : Cx} {C : Cfg} {a : Expr} {ca : Co} {p pos : Pos}
theorem se_dictP (hc : X.calm = true) (hu : X.A.units + 64 < cLine) (hg : Gl X "dict") (hm : X.mg "dict" = none) (hs : noStar a = true) (ha : SE X C a ca) : SE X C (.Call (.Name "dict" p) [a] [] pos) (.bi .dict [ca]) := fun env s =>
  PE.conseq (pe_callTy (cr_dictP hc hu) hg hm rfl (pa_cons (ha env s) pa_nil (star_cons hs)) (by decide) (by decide) (star_cons hs) (star_plain rfl)) fun σ H Q h => by
    unfold evE at h
    obtain ⟨ρ, Hf, w, eo, h⟩ := h
    obtain ⟨rs, s1, e1, h1⟩ := h.bind
    clear h
    unfold evRs at e1
    obtain ⟨r, s2, e2, e3⟩ := bind_ok e1
    clear e1
    unfold evRs at e3
    cases e3
    refine ⟨ρ, Hf, w, eo, ?_⟩
    rw [e2]
    intro v ρ1 Hf1 H1 w1 x1 rr
    obtain ⟨ds, s3, e4, h2⟩ := h1.bind
    clear h1
    obtain ⟨z, vv⟩ := looks_ok e4
    subst z
    cases vv with
    | @cons _ d _ _ v1 vt =>
      cases vt
      obtain ⟨r9, e5, h3⟩ := post_o' h2
      clear h2
      cases d <;> first | (cases e5; done) | skip
      rename_i ps
      have e5 : ((pairsD ps).bind fun qs => if ((keysT qs || keysN qs) && distK qs) = true then some (R.n (.dict qs)) else none) = some r9 := e5
      obtain ⟨qs, g1, g2⟩ := Option.bind_eq_some_iff.mp e5
      by_cases hz : ((keysT qs || keysN qs) && distK qs) = true
      · rw [if_pos hz] at g2
        cases g2
        rw [Bool.and_eq_true] at hz
        obtain ⟨hk, hd⟩ := hz
        obtain ⟨l, xs, rfl, q1, q2⟩ := rr.1.lst w1 v1
        obtain ⟨pa, kx, vx, rfl, hp, le, rk, rv⟩ := reps_pairs q2 g1
        have lp := paired_len hp
        rw [List.length_zip] at lp
        have lk := rk.length
        have lv := rv.length
        rw [List.length_map] at lk lv
        have hzs := zip_split qs
        by_cases hT : keysT qs = true
        · have ka : ((qs.map (·.1)).all fun d => isKey d && kindK d == 2) = true := by
            rw [List.all_map]
            exact hT
          obtain ⟨kks, bs, ek, rfl, lb, hb⟩ := reps_refs ka rk
          have lkk : kks.length = qs.length := by
            have := congrArg List.length ek
            rw [List.length_map, List.length_map] at this
            omega
          rw [List.length_map] at lk le lp
          rw [ek] at hzs
          have nd := dist_nodup keysD eqK_t (ks := kks) (ds := qs.map (·.2)) (by rw [List.length_map]; omega) (by rw [hzs]; exact hd)
          refine .inl ⟨l, pa, bs, kks, vx, rfl, q1, by omega, by omega, by omega, fun i p b v h1 h2 h3 => ?_, fun i k b h1 h2 => w1.sub _ _ (hb i k b h1 h2), fun dd hdd => ?_⟩
          · have e := paired_at hp i p (.ref b, v) h1 (by
              rw [List.getElem?_zip_eq_some, List.getElem?_map, h2]
              exact ⟨rfl, h3⟩)
            exact .of (w1.sub _ _ e)
          · rw [mergeT_new (by omega) nd]
            refine h3 _ ρ1 Hf1 _ (w1.new hdd) (x1.trans (.new w1 hdd)) ⟨.new w1 hdd ?_, dd, rfl, x1.grow dd hdd⟩
            have o := OR.dT (K := X.K) (H := Hf1) (kvs := kks.zip vx) (ds := qs.map (·.2)) (by rw [zip_vals (by omega)]; exact rv)
            rw [zip_keys keysD (by omega), hzs] at o
            exact o
        · have hN : keysN qs = true := by
            rw [Bool.or_eq_true] at hk
            exact hk.resolve_left hT
          have kn : ∀ {ds : List D} {xs : List V}, (ds.all fun d => isKey d && kindK d == 1) = true → Reps X.K Hf1 xs ds → ∃ kk : List Key, ds = kk.map keyD ∧ xs = kk.map kV := by
            intro ds
            induction ds with
            | nil => intro xs _ r; cases r; exact ⟨[], rfl, rfl⟩
            | cons d ds ih =>
              intro xs h r
              rw [List.all_cons, Bool.and_eq_true, Bool.and_eq_true] at h
              cases r with
              | cons r t =>
                obtain ⟨kk, e1, e2⟩ := ih h.2 t
                rcases key_cases h.1.1 with ⟨k, rfl, _⟩ | ⟨k, rfl, z⟩
                · refine ⟨k :: kk, by rw [e1]; rfl, ?_⟩
                  rw [e2]
                  cases k with
                  | inl i => cases r; rfl
                  | inr x => cases r; rfl
                · have := eq_of_beq h.1.2
                  rw [z] at this
                  cases this
          obtain ⟨kk, ek, rfl⟩ := kn (by rw [List.all_map]; exact hN) rk
          have lkk : kk.length = qs.length := by
            have := congrArg List.length ek
            rw [List.length_map, List.length_map] at this
            omega
          rw [List.length_map] at lk le lp
          rw [ek] at hzs
          have nd := dist_nodup keyD eqK_k (ks := kk) (ds := qs.map (·.2)) (by rw [List.length_map]; omega) (by rw [hzs]; exact hd)
          have pr : ∀ {kk : List Key} {vx : List V} {pa : List Addr}, Paired (fun p (e : V × V) => Hf1 p = some (.tup [e.1, e.2])) pa ((kk.map kV).zip vx) → Paired (fun p kv => SqT X.K H1 p [kV kv.1, kv.2]) pa (kk.zip vx) := by
            intro kk
            induction kk with
            | nil => intro vx pa h; cases h; exact .nil
            | cons k kk ih =>
              intro vx pa h
              cases vx with
              | nil => cases h; exact .nil
              | cons v vx =>
                cases h with
                | cons h t => exact .cons (.of (w1.sub _ _ h)) (ih t)
          refine .inr ⟨l, pa, kk.zip vx, rfl, q1, pr hp, fun dd hdd => ?_⟩
          have mk : mergeK [] (kk.zip vx) = kk.zip vx := by
            unfold mergeK
            rw [fold_new _ _ (by
              show (([] : List (Key × V)).map (·.1) ++ (kk.zip vx).map (·.1)).Nodup
              rw [List.map_fst_zip (by omega)]
              exact nd)]
            rfl
          rw [mk]
          refine h3 _ ρ1 Hf1 _ (w1.new hdd) (x1.trans (.new w1 hdd)) ⟨.new w1 hdd ?_, dd, rfl, x1.grow dd hdd⟩
          have o := OR.dK (K := X.K) (H := Hf1) (kvs := kk.zip vx) (ds := qs.map (·.2)) (by rw [zip_vals (by omega)]; exact rv)
          rw [zip_keys keyD (by omega), hzs] at o
          exact o
      · rw [if_neg hz] at g2
        cases g2
end
end Vm

set_option Elab.async false
set_option linter.all false
set_option maxRecDepth 100000
set_option maxHeartbeats 4000000
/-! Vm: {"a": x, ..}[k]. -/
namespace Vm
open PySem PySem.Spec PyProof.Rows L2
section
variable {K : PySem.W.Frag} {s s1 : Sto} {ρ ρ1 : Rho} {Hf H Hf1 H1 : Hp} {p : Addr} {o o1 o2 : HO}
/-- an object that is nobody's, written over -/
theorem WOk.over (w : WOk K s ρ Hf H) (n : Hf p = none) (nl : ∀ k d, live s k d → ρ[k]? ≠ some p) : WOk K s ρ Hf (upd H p o) where
  sub := fun a u e => by
    have : a ≠ p := fun z => by rw [z, n] at e; cases e
    rw [upd_ne this]
    exact w.sub _ _ e
  len := w.len
  at_ := fun k d l => by
    obtain ⟨a, u, h1, h2, h3, h4⟩ := w.at_ k d l
    have : a ≠ p := fun z => nl k d l (by rw [h1, z])
    exact ⟨a, u, h1, by rw [upd_ne this]; exact h2, h3, h4⟩
  inj := w.inj
  ded := w.ded
theorem Ext.over (h : H p = none) (x : Ext s ρ Hf (upd H p o1) s1 ρ1 Hf1 H1) : Ext s ρ Hf H s1 ρ1 Hf1 (upd H1 p o2) where
  pre := x.pre
  fz := x.fz
  keep := fun a u e n => by
    have ne : a ≠ p := fun z => by rw [z, h] at e; cases e
    obtain ⟨h1, h2, h3⟩ := x.keep a u (by rw [upd_ne ne]; exact e) n
    exact ⟨by rw [upd_ne ne]; exact h1, h2, h3⟩
  grow := fun a e => by
    have ne : a ≠ p := fun z => by rw [z, upd_same] at e; cases e
    rw [upd_ne ne] at e
    have := x.grow a e
    rw [upd_ne ne] at this
    exact this
end
inductive KeyEs : List (Option Expr) → List Str → Prop
  | nil : KeyEs [] []
  | cons {k : Str} {kd : Nat} {p : Pos} {es : List (Option Expr)} {ks : List Str} : KeyEs es ks → KeyEs (some (.Constant (.str k) kd p) :: es) (k :: ks)
inductive SVs (X : Cx) (C : Cfg) : List Expr → List Co → Prop
  | nil : SVs X C [] []
  | cons {e : Expr} {c : Co} {es : List Expr} {cs : List Co} : SE X C e c → SVs X C es cs → SVs X C (e :: es) (c :: cs)
theorem KeyEs.len : ∀ {es : List (Option Expr)} {ks : List Str}, KeyEs es ks → es.length = ks.length ∧ es.all (·.isSome) = true
  | _, _, .nil => ⟨rfl, rfl⟩
  | _, _, .cons t => by
    obtain ⟨h1, h2⟩ := t.len
    exact ⟨by simp [h1], by simpa using h2⟩
theorem SVs.len {X : Cx} {C : Cfg} : ∀ {es : List Expr} {cs : List Co}, SVs X C es cs → es.length = cs.length
  | _, _, .nil => rfl
  | _, _, .cons _ t => by simp [t.len]
theorem sps {X : Cx} {C : Cfg} {pos : Pos} : ∀ {es : List (Option Expr)} {ks : List Str} {values : List Expr} {cs : List Co}, KeyEs es ks → SVs X C values cs → ks.length = cs.length → ∀ env s, ∃ trs, PPs X pos es values trs ∧
    ∀ σ H (Q : List (V × V) → Hp → Prop), Rdg X.K (ReTs X.K) env s (evTs C cs env s) σ H (fun ys H' => Q ((ks.map V.str).zip ys) H') → tPairs trs σ H Q
  | _, _, _, _, .nil, .nil, _, env, s => ⟨[], pps_nil, fun σ H Q h => by
    obtain ⟨ρ, Hf, w, eo, h⟩ := h
    exact h [] ρ Hf H w .refl .nil⟩
  | _, _, _, _, .cons (k := k) (kd := kd) (p := kp) (es := es) (ks := ks) t, .cons (e := e0) (c := c) (es := vs) (cs := cs) ha r, hl, env, s => by
    have hl2 := hl
    rw [List.length_cons, List.length_cons] at hl2
    have vac : (∀ σ H (Q : List V → Hp → Prop), ¬ Rdg X.K (ReTs X.K) env s (evTs C (c :: cs) env s) σ H Q) → ∃ trs, PPs X pos (some (.Constant (.str k) kd kp) :: es) (e0 :: vs) trs ∧ ∀ σ H (Q : List (V × V) → Hp → Prop), Rdg X.K (ReTs X.K) env s (evTs C (c :: cs) env s) σ H (fun ys H' => Q (((k :: ks).map V.str).zip ys) H') → tPairs trs σ H Q := fun no => by
      obtain ⟨trs, h1, h2⟩ := sps (pos := pos) t r (by omega) env s
      exact ⟨(tC (.str k), TEv X.K env s (evE C c env s)) :: trs, pps_cons pe_str (ha env s) h1, fun σ H Q h => (no σ H _ h).elim⟩
    cases ea : evE C c env s with
    | no =>
      refine vac fun σ H Q h => ?_
      obtain ⟨a, s1, e⟩ := Rdg.ok_of h
      rw [ea] at e
      cases e
    | ok ra s1 =>
      cases et : take ra s1 with
      | no =>
        refine vac fun σ H Q h => ?_
        obtain ⟨ρ, Hf, w, eo, h⟩ := h
        obtain ⟨ra', s1', ea', h⟩ := h.bind
        rw [ea] at ea'
        cases ea'
        obtain ⟨d, s2, e, h⟩ := h.bind
        rw [et] at e
        cases e
      | ok d s2 =>
        obtain ⟨trs, h1, h2⟩ := sps (pos := pos) t r (by omega) env s2
        refine ⟨(tC (.str k), TEv X.K env s (evE C c env s)) :: trs, pps_cons pe_str (ha env s) h1, fun σ H Q h => ?_⟩
        obtain ⟨ρ, Hf, w, eo, h⟩ := h
        obtain ⟨ra', s1', ea', h⟩ := h.bind
        rw [ea] at ea'
        cases ea'
        obtain ⟨d', s2', et', h⟩ := h.bind
        rw [et] at et'
        cases et'
        obtain ⟨rs, s3, er, h⟩ := h.bind
        show TEv X.K env s (evE C c env s) σ H fun y H2 => tPairs trs σ H2 fun ps H3 => Q ((.str k, y) :: ps) H3
        refine ⟨ρ, Hf, w, eo, ?_⟩
        rw [ea]
        intro x ρ1 Hf1 H1 w1 x1 rx
        obtain ⟨Hf1', w1', x1', rd⟩ := take_ok w1 x1 rx.2 rx.1 et
        refine h2 σ H1 _ ⟨ρ1, Hf1', w1', eo.ext x1', ?_⟩
        rw [er]
        intro xs ρ2 Hf2 H2 w2 x2 rxs
        exact h (x :: xs) ρ2 Hf2 H2 w2 (x1'.trans x2) (.cons (rd.mono x2.fz) rxs)
theorem look_val {K : PySem.W.Frag} {Hf : Hp} {x : Str} : ∀ {ks : List Str} {ds : List D} {ys : List V} {d : D}, Reps K Hf ys ds → (ks.zip ds).lookup x = some d → ∃ v, valV ((ks.map Sum.inr : List Key).zip ys) (.inr x) = some v ∧ Rep K Hf v d
  | [], _, _, _, _, h => by simp at h
  | k :: ks, _, _, _, .nil, h => by simp at h
  | k :: ks, _, _, d, .cons (v := y) (vs := ys) (d := d0) (ds := ds) r t, h => by
    rw [List.zip_cons_cons, List.lookup_cons] at h
    rw [List.map_cons, List.zip_cons_cons]
    by_cases z : k = x
    · subst z
      rw [beq_self_eq_true] at h
      cases h
      exact ⟨y, valV_pos rfl, r⟩
    · have e : (x == k) = false := beq_eq_false_iff_ne.mpr fun q => z q.symm
      rw [e] at h
      rw [valV_neg fun q => z (Sum.inr.inj q)]
      exact look_val t h
theorem se_ixs {X : Cx} {C : Cfg} {es : List (Option Expr)} {ks : List Str} {values : List Expr} {cs : List Co} {k : Expr} {ck : Co} {p1 p2 : Pos} (hu : X.A.units + 64 < cLine) (kE : KeyEs es ks) (hv : SVs X C values cs) (nd : ks.Nodup) (hl : ks.length = cs.length) (h0 : ks ≠ []) (h15 : ks.length ≤ 15)
    (hk : SE X C k ck) (hs : NoSl k) : SE X C (.Subscript (.Dict es values p1) k p2) (.ixs ks cs ck) := fun env s => by
  cases ev : evTs C cs env s with
  | no =>
    refine PE.ff fun σ H Q h => ?_
    unfold evE at h
    obtain ⟨a, s1, e⟩ := Rdg.ok_of h
    rw [ev] at e
    cases e
  | ok ds s1 =>
    obtain ⟨trs, hp, hq⟩ := sps (pos := p1) kE hv hl env s
    obtain ⟨l1, l2⟩ := kE.len
    refine PE.conseq (pe_dget (by omega) (pe_disp hp l2 (by rw [l1, hl, hv.len]) (fun z => h0 (by rw [z] at l1; exact List.eq_nil_of_length_eq_zero l1.symm)) (by omega)) (hk env s1) hs) fun σ H Q h => ?_
    unfold evE at h
    obtain ⟨ρ, Hf, w, eo, h⟩ := h
    obtain ⟨ds', s1', ev', h⟩ := h.bind
    rw [ev] at ev'
    cases ev'
    intro p hp0
    refine hq σ _ _ ⟨ρ, Hf, w.new hp0, eo, ?_⟩
    rw [ev]
    intro ys ρ1 Hf1 H1 w1 x1 rx
    have rx : Reps X.K Hf1 ys ds := rx
    obtain ⟨k1, k2, k3⟩ := x1.keep p _ upd_same fun j d l => w.ne hp0 l
    have ly : ys.length = ks.length := by rw [rx.length, evTs_len ev, hl]
    have mk : mergeK [] ((ks.map Sum.inr : List Key).zip ys) = (ks.map Sum.inr : List Key).zip ys := by
      unfold mergeK
      rw [fold_new _ _ (by
        show (([] : List (Key × V)).map (·.1) ++ ((ks.map Sum.inr : List Key).zip ys).map (·.1)).Nodup
        rw [List.map_fst_zip (by rw [List.length_map]; omega)]
        show (ks.map Sum.inr : List Key).Nodup
        unfold List.Nodup at nd ⊢
        rw [List.pairwise_map]
        exact nd.imp fun h z => h (Sum.inr.inj z))]
      rfl
    refine ⟨k1, (ks.map Sum.inr : List Key).zip ys, ?_, by rw [List.length_zip, List.length_map]; omega, ?_⟩
    · have go : ∀ {ks : List Str} {ys : List V}, (ks.map V.str).zip ys = ((ks.map Sum.inr : List Key).zip ys).map fun kv => (kV kv.1, kv.2) := by
        intro ks
        induction ks with
        | nil => intro ys; simp
        | cons k ks ih =>
          intro ys
          cases ys with
          | nil => simp
          | cons y ys =>
            simp only [List.map_cons, List.zip_cons_cons]
            rw [ih]
            rfl
      exact go
    · rw [mk]
      have w1' := w1.over (o := .dK ((ks.map Sum.inr : List Key).zip ys)) (k2 (w.fnone hp0)) k3
      have x1' := Ext.over (o2 := .dK ((ks.map Sum.inr : List Key).zip ys)) hp0 x1
      refine ⟨ρ1, Hf1, w1', eo.ext x1', ?_⟩
      obtain ⟨r, s2, e2, h⟩ := h.bind
      rw [e2]
      intro y ρ2 Hf2 H2 w2 x2 ry
      obtain ⟨d, s3, e3, h⟩ := h.bind
      obtain ⟨v3, z⟩ := look_ok e3
      subst z
      cases d <;> first | exact h.elim | skip
      rename_i x
      have h : Post X.K s ρ Hf H (ReR X.K) (bind (ofO ((ks.zip ds).lookup x)) (fun d => ret (.v d)) s3) Q := h
      obtain ⟨d, s4, e4, h⟩ := h.bind
      have e4 : ofO ((ks.zip ds).lookup x) s3 = .ok d s4 := e4
      cases hlk : (ks.zip ds).lookup x with
      | none => rw [hlk] at e4; cases e4
      | some d0 =>
        rw [hlk] at e4
        cases e4
        obtain ⟨v, v1, v2⟩ := look_val rx hlk
        have ey := ry.1.str w2 v3
        obtain ⟨g1, _, _⟩ := x2.keep p _ upd_same k3
        refine ⟨p, v, rfl, ?_, h v ρ2 Hf2 H2 w2 (x1'.trans x2) ⟨.v (v2.mono x2.fz), trivial⟩⟩
        rw [ey, ← v1]
        exact DGet.k (k := .inr x) g1
end Vm

set_option Elab.async false
set_option linter.all false
set_option maxRecDepth 100000
set_option maxHeartbeats 4000000
/-! Vm: defs and their calls. -/
namespace Vm
open PySem PySem.Spec PyProof.Rows L2
/-! ### the end of a def -/
theorem live_cut {s : Sto} {n k : Nat} {d : D} (l : live (s.take n) k d) : live s k d ∧ k < n := by
  obtain ⟨o, h1, h2⟩ := l
  have hk : k < n := by
    have := (List.getElem?_eq_some_iff.mp h1).1
    rw [List.length_take] at this
    omega
  rw [List.getElem?_take_of_lt hk] at h1
  exact ⟨⟨o, h1, h2⟩, hk⟩
theorem get_cut {α : Type} {l : List α} {n k : Nat} {a : α} (h : (l.take n)[k]? = some a) : l[k]? = some a := by
  have hk : k < n := by
    have := (List.getElem?_eq_some_iff.mp h).1
    rw [List.length_take] at this
    omega
  rw [List.getElem?_take_of_lt hk] at h
  exact h
section
variable {K : PySem.W.Frag} {s s1 : Sto} {ρ ρ1 : Rho} {Hf H Hf1 H1 : Hp}
theorem WOk.cut (w : WOk K s1 ρ1 Hf1 H1) (n : Nat) : WOk K (s1.take n) (ρ1.take n) Hf1 H1 where
  sub := w.sub
  len := by rw [List.length_take, List.length_take, w.len]
  at_ := fun k d l => by
    obtain ⟨l2, hk⟩ := live_cut l
    obtain ⟨a, u, h1, h2⟩ := w.at_ k d l2
    exact ⟨a, u, by rw [List.getElem?_take_of_lt hk]; exact h1, h2⟩
  inj := fun j k d e a lj lk hj hk => w.inj j k d e a (live_cut lj).1 (live_cut lk).1 (get_cut hj) (get_cut hk)
  ded := fun k a h1 h2 => w.ded k a (get_cut h1) (get_cut h2)
theorem Ext.cut (x : Ext s ρ Hf H s1 ρ1 Hf1 H1) {n : Nat} (hn : ρ.length = n) : Ext s ρ Hf H (s1.take n) (ρ1.take n) Hf1 H1 :=
  ⟨by obtain ⟨t, e⟩ := x.pre; subst hn; rw [← e, List.take_left]; exact List.prefix_refl _, x.fz, fun a u e nl => by
    obtain ⟨h1, h2, h3⟩ := x.keep a u e nl
    exact ⟨h1, h2, fun k d l z => h3 k d (live_cut l).1 (get_cut z)⟩, x.grow⟩
theorem leave_run {x : M Fl} {Q : VK} (w : WOk K s ρ Hf H) (h : Post K s ρ Hf H (ReR K) (bind x (leave s.length) s) Q) : PostS K s ρ Hf H (x s) { nx := fun _ H' => Q .non H', rt := Q } := by
  obtain ⟨f, s2, e, p⟩ := h.bind
  clear h
  rw [e]
  cases f with
  | nx e' => exact fun σ ρ' Hf' H' w' x' eo => p .non _ Hf' H' (w'.cut s.length) (x'.cut w.len) ⟨.v .non, trivial⟩
  | bk e' => exact p.elim
  | ct e' => exact p.elim
  | rt r =>
    refine fun v ρ' Hf' H' w' x' rr fr => ?_
    cases rr with
    | v rd => exact p v _ Hf' H' (w'.cut s.length) (x'.cut w.len) ⟨.v rd, trivial⟩
    | g gr => exact p.elim
    | n h1 h2 h3 h4 => exact p _ _ Hf' H' (w'.cut s.length) (x'.cut w.len) ⟨.n h1 h2 (fun k d l z => h3 k d (live_cut l).1 (get_cut z)) h4, fr⟩
    | @p k a ha =>
      have p' : Post K s ρ Hf H (ReR K) (if k < s.length then Out.ok (.p k) (s2.take s.length) else (match s2[k]? with
        | some (.fl d) => .ok (.n d) (s2.take s.length)
        | _ => .no)) Q := p
      clear p
      by_cases hk : k < s.length
      · rw [if_pos hk] at p'
        exact p' _ _ Hf' H' (w'.cut s.length) (x'.cut w.len) ⟨.p (by rw [List.getElem?_take_of_lt hk]; exact ha), trivial⟩
      · rw [if_neg hk] at p'
        cases q : s2[k]? with
        | none => rw [q] at p'; exact p'.elim
        | some ob =>
          cases ob with
          | dead => rw [q] at p'; exact p'.elim
          | lk d => rw [q] at p'; exact p'.elim
          | fl d =>
            rw [q] at p'
            have l : live s2 k d := ⟨_, q, rfl⟩
            obtain ⟨a', u, g1, g2, g3, g4⟩ := w'.at_ k d l
            rw [ha] at g1
            cases g1
            have nl : ∀ j e, live (s2.take s.length) j e → (ρ'.take s.length)[j]? ≠ some a := fun j e lj z => by
              obtain ⟨lj2, hj⟩ := live_cut lj
              have := w'.inj j k e d a lj2 l (get_cut z) ha
              omega
            refine p' _ _ Hf' H' (w'.cut s.length) (x'.cut w.len) ⟨.n g2 g3 nl g4, a, rfl, ?_⟩
            cases qa : H a with
            | none => rfl
            | some u0 =>
              exfalso
              by_cases hl : ∃ j e, live s j e ∧ ρ[j]? = some a
              · obtain ⟨j, e, lj, ej⟩ := hl
                have hj : j < s.length := by
                  obtain ⟨o, h1, _⟩ := lj
                  exact (List.getElem?_eq_some_iff.mp h1).1
                have ej' := pre_get x'.pre ej
                have hj2 : j < s2.length := by
                  rw [← w'.len]
                  exact (List.getElem?_eq_some_iff.mp ej').1
                cases qj : s2[j]? with
                | none =>
                  rw [List.getElem?_eq_none_iff] at qj
                  omega
                | some oj =>
                  cases oj with
                  | dead => exact w'.ded j a qj ej' g3
                  | fl dj =>
                    have := w'.inj j k dj d a ⟨_, qj, rfl⟩ l ej' ha
                    omega
                  | lk dj =>
                    have := w'.inj j k dj d a ⟨_, qj, rfl⟩ l ej' ha
                    omega
              · have nl2 : ∀ j e, live s j e → ρ[j]? ≠ some a := fun j e lj z => hl ⟨j, e, lj, z⟩
                exact (x'.keep a u0 qa nl2).2.2 k d l ha
end
/-! ### defs -/
section
variable {P : Program} {w : World} {K : PySem.W.Frag} {mg : Str → Option Value} {base : Heap}
structure FnG (P : Program) (w : World) (K : PySem.W.Frag) (mg : Str → Option Value) (base : Heap) (k : Nat) (f : Addr) (fd : FuncData) (ps : List Str) (call : List Vl → M R) : Prop where
  len : ∀ ls st r st', call ls st = .ok r st' → ls.length = ps.length
  run : ∀ {A : Around} {outer : List PySem.Env} {sh : Shared} {H : Hp} {args : Args} {us : List Value} {vs : List V} {ls : List Vl} {st : Sto} {ρ : Rho} {Hf : Hp} {Q : VK}, Room k A → A.guards = some [] → Env0 P w K mg base A outer sh H →
    BindsTo sh fd args (ps.zip us) → Vals vs us → WOk K st ρ Hf H → Paired (VRep K ρ Hf) ls vs → Post K st ρ Hf H (ReR K) (call ls st) Q →
    codeAny (model P w) A (.call (.ref f) args) (fun r sh' => ∃ u, r = .ok (.ret u) ∧ CE outer P w H sh Q u sh') sh
theorem FnG.mono {j k : Nat} {f : Addr} {fd : FuncData} {ps : List Str} {call : List Vl → M R} (F : FnG P w K mg base j f fd ps call) (h : j ≤ k) : FnG P w K mg base k f fd ps call :=
  ⟨F.len, fun hr => F.run (hr.mono h)⟩
def CXn : CXT := fun _ _ _ _ _ _ => False
theorem start_env {ρ : Rho} {Hf : Hp} {N : List Str} {ls : List Vl} {vs : List V} {np : Nat} (h : Paired (VRep K ρ Hf) ls vs) (hn : ls.length = np) : EnvOk K ρ Hf (ls.map some ++ List.replicate (N.length - np) none) (L2.start N vs) := by
  have hl := Paired.length h
  unfold L2.start
  rw [← hl, hn]
  clear hn hl
  induction h with
  | nil =>
    rw [List.map_nil, List.map_nil, List.nil_append, List.nil_append]
    generalize N.length - np = m
    induction m with
    | zero => exact .nil
    | succ m ih => exact .cons (by trivial) ih
  | @cons l v ls vs r t ih => exact .cons (show OV K ρ Hf (some l) (some v) from r) ih
/-- a def by its code -/
theorem FunD.fnG {k : Nat} {f : Addr} {fd : FuncData} {x qual : Str} {params : Arguments} {body : List Stmt} {scope : Scope} {dvs : List V} {kws : List (Str × V)} {N ps : List Str} {C : Cfg} {cs : List Sm} (F : FunD K x qual params body scope dvs kws f fd) (S : FnScope N ps scope)
    (hbody : ∀ (cdv : Value) (A : Around) (outer : List PySem.Env) (sh : Shared) (H : Hp), Room k (A.deeper (envOfC qual scope sh.heap.objs.size f cdv)) → A.guards = some [] → SSs (cxOf CXn P w K mg base N qual scope f cdv A outer sh H fun _ _ _ => False).nox C body cs) :
    FnG P w K mg base (k + 1) f fd ps (runF C ⟨ps.length, N.length, cs⟩) := by
  refine ⟨fun ls st r st' e => ?_, fun {A outer sh H args us vs ls st ρ Hf Q} hr hg e0 hb rv wk pr po => ?_⟩
  · unfold runF at e
    by_cases q : ls.length = ps.length
    · exact q
    · rw [if_neg q] at e
      cases e
  · obtain ⟨oc, od, dV, kV, doc, pm, an, cdv, ct, osl, rfl, lk, hcd, _, _⟩ := F.ex
    unfold runF at po
    by_cases q : ls.length = ps.length
    · rw [if_pos q] at po
      have lv : vs.length = ps.length := by rw [← Paired.length pr]; exact q
      have inK : K.In sh.heap := e0.mod.kin.keeps fun b o z => (e0.bs b o z).1
      have free : sh.heap.NoLimit := e0.mod.nolimit.keeps fun b o z => (e0.bs b o z).1
      have kinds : ∀ y ∈ ps.zip us, scope.names.lookup y.1 = some .local ∨ (scope.names.lookup y.1 = some .cell ∧ ((cellsFrom (sh.heap.objs.size + 1) scope.names []).lookup y.1).isSome = true) := fun y hy =>
        (S.par y.1 (List.of_mem_zip hy).1).imp id fun z => ⟨z, PySem.W.cellsFrom_some _ _ _ (.inl z)⟩
      refine codeAny_call_function hr.depth (inK _ _ lk) rfl S.co S.gen rfl (PySem.W.codeRec_of inK hcd) (hb _ _ _ _ (wpAny_newFunctionEnv_cells S.kind kinds fun ev hev sh1 xc => ?_))
      subst hev
      refine ⟨free.keeps xc.toInCall.keep, codeAny_func ?_⟩
      have I := inv_start (CX := CXn) (E := fun _ _ _ => False) S hr.hd e0 lv rv xc
      have rd := leave_run wk (show Post K st ρ Hf H (ReR K) (bind (evSs C cs (ls.map some ++ List.replicate (N.length - ps.length) none)) (leave st.length) st) Q from po)
      have bd := (hbody cdv A outer sh H (hr.deeper _) hg (ls.map some ++ List.replicate (N.length - ps.length) none) st).nox.run [] sh1 (L2.start N vs) H _ I ⟨ρ, Hf, wk, start_env pr q, rd⟩
      refine wpAny_mono bd (fun fl sh' hs => ?_) fun e sh' hs => ?_
      · have fin : ∀ {σ' : L2.St} {H' : Hp} {v : V} {u : Value}, Inv (cxOf CXn P w K mg base N qual scope f cdv A outer sh H fun _ _ _ => False) [] σ' H' sh' → RelV v u → Q v H' → CE outer P w H sh Q u sh' :=
          fun {σ' H' v u} J r1 q1 => ⟨v, H', J.os, J.bare, J.base, J.hok, r1, q1⟩
        cases fl with
        | ret u =>
          obtain ⟨v, σ', H', J, r1, q1⟩ := hs
          exact ⟨u, rfl, fin J r1 q1⟩
        | next =>
          obtain ⟨σ', H', J, q1⟩ := hs
          exact ⟨.none, rfl, fin (v := V.non) J rfl q1⟩
        | brk =>
          obtain ⟨_, _, _, q1⟩ := hs
          exact q1.elim
        | cont =>
          obtain ⟨_, _, _, q1⟩ := hs
          exact q1.elim
      · exact wpAny_mono (show wpAny (model P w) (A.deeper (envOfC qual scope sh.heap.objs.size f cdv)) (leaving (envOfC qual scope sh.heap.objs.size f cdv) e) (fun _ _ => False) (fun _ _ => False) sh' from hs) (fun _ _ z => z.elim) fun _ _ z => z.elim
    · rw [if_neg q] at po
      exact po.elim
end
end Vm

set_option Elab.async false
set_option linter.all false
set_option maxRecDepth 100000
set_option maxHeartbeats 4000000
/-! Vm: calls of defs. -/
namespace Vm
open PySem PySem.Spec PyProof.Rows L2
def permL {α : Type} (perm : List Nat) (l : List α) : Option (List α) := perm.mapM fun j => l[j]?
theorem permL_nil {α : Type} {l : List α} : permL [] l = some [] := rfl
theorem permL_cons {α : Type} {l : List α} {j : Nat} {js : List Nat} {r : List α} (h : permL (j :: js) l = some r) : ∃ a t, r = a :: t ∧ l[j]? = some a ∧ permL js l = some t := by
  unfold permL at h
  rw [List.mapM_cons] at h
  cases e : l[j]? with
  | none => rw [e] at h; cases h
  | some a =>
    rw [e] at h
    cases e2 : js.mapM (fun j => l[j]?) with
    | none => rw [e2] at h; cases h
    | some t =>
      rw [e2] at h
      cases h
      exact ⟨a, t, rfl, rfl, e2⟩
theorem permL_mk {α : Type} {l : List α} {j : Nat} {js : List Nat} {a : α} {t : List α} (h : l[j]? = some a) (k : permL js l = some t) : permL (j :: js) l = some (a :: t) := by
  unfold permL at k ⊢
  rw [List.mapM_cons, h, k]
  rfl
theorem permL_paired {α β : Type} {F : α → β → Prop} {xs : List α} {ys : List β} (h : Paired F xs ys) : ∀ {js : List Nat} {r : List α}, permL js xs = some r → ∃ t, permL js ys = some t ∧ Paired F r t
  | [], r, e => by
    rw [permL_nil] at e
    cases e
    exact ⟨[], rfl, .nil⟩
  | j :: js, r, e => by
    obtain ⟨a, t, e1, e2, e3⟩ := permL_cons e
    subst e1
    obtain ⟨b, h1, h2⟩ := Paired.get h e2
    obtain ⟨u, h3, h4⟩ := permL_paired h e3
    exact ⟨b :: u, permL_mk h1 h3, .cons h2 h4⟩
theorem paired_app {α β : Type} {F : α → β → Prop} : ∀ {as cs : List α} {bs ds : List β}, Paired F as bs → Paired F cs ds → Paired F (as ++ cs) (bs ++ ds)
  | _, _, _, _, .nil, t => t
  | _, _, _, _, .cons r t, u => .cons r (paired_app t u)
/-- how a call binds: n positional values, keywords ks, in the parameters' order -/
def BindOk (K : PySem.W.Frag) (fd : FuncData) (ps : List Str) (n : Nat) (ks : List Str) (perm : List Nat) : Prop :=
  ∀ (sh : Shared) (us ws all : List Value), K.In sh.heap → us.length = n → ws.length = ks.length → permL perm (us ++ ws) = some all → BindsTo sh fd ⟨us, ks.zip ws⟩ (ps.zip all)
def rCall (K : PySem.W.Frag) (C : Cfg) (i : Nat) (perm : List Nat) : List V → Hp → VK → Prop := fun vs H Q => ∃ s ρ Hf ls, WOk K s ρ Hf H ∧ Paired (VRep K ρ Hf) ls vs ∧ Post K s ρ Hf H (ReR K) (bind (ofO (permL perm ls)) (C.call i) s) Q
section
variable {X : Cx} {C : Cfg} {k i n : Nat} {f : Addr} {fd : FuncData} {ps ks : List Str} {perm : List Nat}
theorem run_call {pins : List (Addr × Obj)} {σ : L2.St} {H : Hp} {sh : Shared} {Q : VK} {us ws : List Value} {vs zs : List V} (F : FnG X.prog X.w X.K X.mg X.base k f fd ps (C.call i)) (hr : Room k X.A) (hg : X.A.guards = some []) (hb : BindOk X.K fd ps n ks perm)
    (I : Inv X pins σ H sh) (r : Vals vs us) (rz : Vals zs ws) (l1 : vs.length = n) (l2 : zs.length = ks.length) (h : rCall X.K C i perm (vs ++ zs) H Q) : wpAny (model X.prog X.w) X.A (call (.ref f) us (ks.zip ws)) (EP X pins σ Q) X.xe sh := by
  obtain ⟨s, ρ, Hf, ls, w, pr, p⟩ := h
  obtain ⟨ls2, s2, e2, p2⟩ := p.bind
  clear p
  obtain ⟨e3, z⟩ := ofO_ok e2
  subst z
  obtain ⟨vs2, e4, pr2⟩ := permL_paired pr e3
  have rv : Vals (vs ++ zs) (us ++ ws) := r.append rz
  obtain ⟨us2, e5, rv2⟩ := permL_paired rv e4
  refine wpAny_call (codeAny_mono (F.run hr hg I.env0 (hb sh us ws us2 I.kIn (r.length.symm.trans l1) (rz.length.symm.trans l2) e5) rv2 w pr2 p2) fun q sh' hq => ?_)
  obtain ⟨u, rfl, ce⟩ := hq
  exact I.after ce
/-! ### keywords -/
def SKs (X : Cx) (C : Cfg) (kws : List Keyword) (cs : List Co) : Prop := ∀ env s, PK X kws (Rdg X.K (ReAs X.K) env s (evAs C cs [] env s))
theorem PK.conseq {kws : List Keyword} {t t' : TA} (h : PK X kws t) (k : ∀ σ H Q, t' σ H Q → t σ H Q) : PK X kws t' := ⟨fun pos pins s σ H Q I q => h.run pos pins s σ H Q I (k σ H Q q)⟩
theorem PK.ff {kws : List Keyword} {t : TA} (k : ∀ σ H Q, ¬ t σ H Q) : PK X kws t := ⟨fun _ _ _ σ H Q _ q => (k σ H Q q).elim⟩
theorem sks_nil : SKs X C [] [] := fun env s => PK.conseq pk_nil fun σ H Q h => by
  obtain ⟨ρ, Hf, w, eo, h⟩ := h
  exact h [] ρ Hf H w .refl .nil
theorem sks_cons {nm : Option Str} {e : Expr} {kpos : Pos} {kws : List Keyword} {c : Co} {cs : List Co} (ha : SE X C e c) (hr : SKs X C kws cs) : SKs X C (⟨nm, e, kpos⟩ :: kws) (c :: cs) := fun env s => by
  cases ea : evE C c env s with
  | no =>
    refine PK.ff fun σ H Q h => ?_
    obtain ⟨a, s1, e⟩ := Rdg.ok_of h
    rw [ea] at e
    cases e
  | ok ra s1 =>
    cases et : hold false ra s1 with
    | no =>
      refine PK.ff fun σ H Q h => ?_
      obtain ⟨ρ, Hf, w, eo, h⟩ := h
      obtain ⟨ra', s1', ea', h1⟩ := h.bind
      rw [ea] at ea'
      cases ea'
      obtain ⟨d, s2, e, h2⟩ := h1.bind
      have e : hold false ra s1 = .ok d s2 := e
      rw [et] at e
      cases e
    | ok d s2 =>
      refine PK.conseq (pk_cons (ha env s) (hr env s2)) fun σ H Q h => ?_
      obtain ⟨ρ, Hf, w, eo, h⟩ := h
      obtain ⟨ra', s1', ea', h1⟩ := h.bind
      rw [ea] at ea'
      cases ea'
      obtain ⟨d', s2', et', h2⟩ := h1.bind
      have et' : hold false ra s1 = .ok d' s2' := et'
      rw [et] at et'
      cases et'
      obtain ⟨rs, s3, er, h3⟩ := h2.bind
      refine ⟨ρ, Hf, w, eo, ?_⟩
      rw [ea]
      intro x ρ1 Hf1 H1 w1 x1 rx
      obtain ⟨ρ1', Hf1', w1', x1', rd⟩ := hold_ok w1 x1 rx.2 rx.1 et
      refine ⟨ρ1', Hf1', w1', eo.ext x1', ?_⟩
      have er : evAs C cs [] env s2 = .ok rs s3 := er
      rw [er]
      intro xs ρ2 Hf2 H2 w2 x2 rxs
      exact h3 (x :: xs) ρ2 Hf2 H2 w2 (x1'.trans x2) (.cons (rd.ext x2) rxs)
theorem evAs_nil {ms : List Bool} {env : Env} : evAs C [] ms env = ret [] := by
  unfold evAs
  rfl
theorem evAs_cons {c : Co} {cs : List Co} {ms : List Bool} {env : Env} : evAs C (c :: cs) ms env = bind (evE C c env) fun r => bind (hold (ms.headD false) r) fun v => bind (evAs C cs ms.tail env) fun vs => ret (v :: vs) := by
  conv => lhs; unfold evAs
theorem bind_ret {α β : Type} {a : α} {f : α → M β} {s : Sto} : bind (ret a) f s = f a s := rfl
theorem bind_congr {α β : Type} {x : M α} {f g : α → M β} {s : Sto} (h : ∀ a s, f a s = g a s) : bind x f s = bind x g s := by
  unfold bind
  cases x s with
  | no => rfl
  | ok a s1 => exact h a s1
theorem evAs_app : ∀ {cs ds : List Co} {env : Env} {s : Sto}, evAs C (cs ++ ds) [] env s = bind (evAs C cs [] env) (fun a => bind (evAs C ds [] env) fun b => ret (a ++ b)) s
  | [], ds, env, s => by
    rw [evAs_nil, bind_ret, List.nil_append]
    unfold bind
    cases evAs C ds [] env s <;> rfl
  | c :: cs, ds, env, s => by
    rw [List.cons_append, evAs_cons, evAs_cons, bind_assoc]
    refine bind_congr fun r s1 => ?_
    rw [bind_assoc]
    refine bind_congr fun v s2 => ?_
    have ih := evAs_app (cs := cs) (ds := ds) (env := env) (s := s2)
    have e : bind (evAs C (cs ++ ds) [].tail env) (fun vs => ret (v :: vs)) s2 = bind (bind (evAs C cs [] env) (fun a => bind (evAs C ds [] env) fun b => ret (a ++ b))) (fun vs => ret (v :: vs)) s2 := by
      rw [List.tail_nil]
      unfold bind at ih ⊢
      rw [ih]
    rw [e, bind_assoc, bind_assoc]
    refine bind_congr fun a s3 => ?_
    rw [bind_assoc, bind_ret]
    refine bind_congr fun b s4 => ?_
    rfl
theorem evAs_len : ∀ {cs : List Co} {ms : List Bool} {env : Env} {s s' : Sto} {ds : List Vl}, evAs C cs ms env s = .ok ds s' → ds.length = cs.length
  | [], _, _, _, _, _, h => by
    simp only [evAs, ret] at h
    cases h
    rfl
  | c :: cs, ms, env, s, s', ds, h => by
    unfold evAs at h
    obtain ⟨r, s1, _, h1⟩ := bind_ok h
    obtain ⟨d, s2, _, h2⟩ := bind_ok h1
    obtain ⟨es, s3, e3, h3⟩ := bind_ok h2
    cases h3
    rw [List.length_cons, List.length_cons, evAs_len e3]
/-! ### the calls -/
variable {x : Str} {p pos : Pos} {e : Expr} {es : List Expr} {kws : List Keyword} {cs ds : List Co}
theorem call_read {env : Env} {s : Sto} {σ : L2.St} {H : Hp} {Q : VK} (h : TEv X.K env s (evE C (.call i cs perm) env s) σ H Q) : Rdg X.K (ReAs X.K) env s (evAs C cs [] env s) σ H fun vs H1 => vs.length = cs.length ∧ rCall X.K C i perm vs H1 Q := by
  unfold evE at h
  obtain ⟨ρ, Hf, w, eo, h⟩ := h
  obtain ⟨ls, s1, e1, h1⟩ := h.bind
  refine ⟨ρ, Hf, w, eo, ?_⟩
  rw [e1]
  intro vs ρ1 Hf1 H1 w1 x1 pr
  refine ⟨by rw [← Paired.length pr]; exact evAs_len e1, s1, ρ1, Hf1, ls, w1, pr, ?_⟩
  have h2 : Post X.K s ρ Hf H (ReR X.K) (bind (ofO (permL perm ls)) (C.call i) s1) Q := h1
  exact h2.at x1 (ReR.back x1)
/-- f(e, ..) -/
theorem se_call (F : FnG X.prog X.w X.K X.mg X.base k f fd ps (C.call i)) (hr : Room k X.A) (hgu : X.A.guards = some []) (hg : Gl X x) (hm : X.mg x = some (.ref f)) (hk : PySem.W.keepIn X.K (.ref f) = true) (hb : BindOk X.K fd ps cs.length [] perm) (hdb : (x == ("__debug__" : Str)) = false)
    (hs : (e :: es).all noStar = true) (ha : SAs X C (e :: es) cs) : SE X C (.Call (.Name x p) (e :: es) [] pos) (.call i cs perm) := fun env s => by
  rw [List.all_cons, Bool.and_eq_true] at hs
  refine ⟨fun pins sh σ H Q I h => ?_⟩
  refine wpAny_Call_Name_kw (ld_glob I hg hm ?_ hdb)
  refine PySem.W.callWith_K (h₀ := X.base) I.ok.mod.kin hk (thn ((ha [] env s).run pos pins sh σ H _ I (call_read h)) fun us sh1 ⟨vs, H1, I1, r, l, q⟩ => ⟨I1.kIn, ?_⟩) (star_cons hs.1) (star_plain hs.2)
  exact run_call (ws := []) (zs := []) F hr hgu hb I1 r .nil l rfl (by rw [List.append_nil]; exact q)
/-- f() -/
theorem se_call0 (F : FnG X.prog X.w X.K X.mg X.base k f fd ps (C.call i)) (hr : Room k X.A) (hgu : X.A.guards = some []) (hg : Gl X x) (hm : X.mg x = some (.ref f)) (hk : PySem.W.keepIn X.K (.ref f) = true) (hb : BindOk X.K fd ps 0 [] perm) (hdb : (x == ("__debug__" : Str)) = false) : SE X C (.Call (.Name x p) [] [] pos) (.call i [] perm) := fun env s => by
  refine ⟨fun pins sh σ H Q I h => ?_⟩
  refine wpAny_Call_Name_kw (ld_glob I hg hm ?_ hdb)
  obtain ⟨ρ, Hf, w, eo, q⟩ := call_read h
  unfold evAs at q
  have q := q [] ρ Hf H w .refl .nil
  exact PySem.W.callWith_K0 I.kIn hk (run_call (us := []) (ws := []) (zs := []) F hr hgu hb I .nil .nil rfl rfl q.2)
/-- a call with keywords: both lists, one behind another -/
theorem callK_read {env : Env} {s : Sto} {σ : L2.St} {H : Hp} {Q : VK} {s1 : Sto} {ls : List Vl} (e1 : evAs C cs [] env s = .ok ls s1) (h : TEv X.K env s (evE C (.call i (cs ++ ds) perm) env s) σ H Q) :
    Rdg X.K (ReAs X.K) env s (evAs C cs [] env s) σ H fun vs H1 => Rdg X.K (ReAs X.K) env s1 (evAs C ds [] env s1) σ H1 fun zs H2 => vs.length = cs.length ∧ zs.length = ds.length ∧ rCall X.K C i perm (vs ++ zs) H2 Q := by
  unfold evE at h
  obtain ⟨ρ, Hf, w, eo, h⟩ := h
  obtain ⟨all, s2, e2, h1⟩ := h.bind
  rw [evAs_app, bind_at e1] at e2
  obtain ⟨ls2, s3, e3, e4⟩ := bind_ok e2
  cases e4
  refine ⟨ρ, Hf, w, eo, ?_⟩
  rw [e1]
  intro vs ρ1 Hf1 H1 w1 x1 pr
  refine ⟨ρ1, Hf1, w1, eo.ext x1, ?_⟩
  rw [e3]
  intro zs ρ2 Hf2 H2 w2 x2 pz
  have pr : Paired (VRep X.K ρ1 Hf1) ls vs := pr
  have pr2 : Paired (VRep X.K ρ2 Hf2) ls vs := Paired.mapP pr fun a b q => VRep.ext q x2
  refine ⟨by rw [← Paired.length pr]; exact evAs_len e1, by rw [← Paired.length pz]; exact evAs_len e3, _, ρ2, Hf2, ls ++ ls2, w2, paired_app pr2 pz, ?_⟩
  · have h2 : Post X.K s ρ Hf H (ReR X.K) (bind (ofO (permL perm (ls ++ ls2))) (C.call i) _) Q := h1
    exact h2.at (x1.trans x2) (ReR.back (x1.trans x2))
/-- f(e, .., k = v, ..) -/
theorem se_callK (F : FnG X.prog X.w X.K X.mg X.base k f fd ps (C.call i)) (hr : Room k X.A) (hgu : X.A.guards = some []) (hg : Gl X x) (hm : X.mg x = some (.ref f)) (hk : PySem.W.keepIn X.K (.ref f) = true) (hb : BindOk X.K fd ps cs.length ks perm) (hdb : (x == ("__debug__" : Str)) = false)
    (hl : ds.length = ks.length) (hs : (e :: es).all noStar = true) (ha : SAs X C (e :: es) cs) (hkw : SKs X C kws ds) (hall : (backToKw pos (keywordEach kws X.env)).all (·.1.isSome) = true) (hks : (backToKw pos (keywordEach kws X.env)).filterMap (·.1) = ks)
    (hpl : ((backTo pos (starEach (e :: es) X.env)).any (·.1) || (backToKw pos (keywordEach kws X.env)).any (·.1.isNone)) = false) : SE X C (.Call (.Name x p) (e :: es) kws pos) (.call i (cs ++ ds) perm) := fun env s => by
  rw [List.all_cons, Bool.and_eq_true] at hs
  cases e1 : evAs C cs [] env s with
  | no =>
    refine PE.ff fun σ H Q h => ?_
    unfold evE at h
    obtain ⟨ρ, Hf, w, eo, h⟩ := h
    obtain ⟨all, s2, e2, h1⟩ := h.bind
    rw [evAs_app] at e2
    unfold bind at e2
    rw [e1] at e2
    cases e2
  | ok ls s1 =>
    refine ⟨fun pins sh σ H Q I h => ?_⟩
    refine wpAny_Call_Name_kw (ld_glob I hg hm ?_ hdb)
    refine PySem.W.callWith_KW (h₀ := X.base) I.ok.mod.kin hk hall (thn ((ha [] env s).run pos pins sh σ H _ I (callK_read e1 h)) fun us sh1 ⟨vs, H1, I1, r, q⟩ => ?_) hpl (star_cons hs.1)
    refine thn ((hkw env s1).run pos pins sh1 σ H1 _ I1 q) fun ws sh2 ⟨zs, H2, I2, rz, q2⟩ => ⟨I2.kIn, ?_⟩
    rw [hks]
    exact run_call F hr hgu hb I2 r rz q2.1 (q2.2.1.trans hl) q2.2.2
/-- f(k = v, ..) -/
theorem se_callK0 (F : FnG X.prog X.w X.K X.mg X.base k f fd ps (C.call i)) (hr : Room k X.A) (hgu : X.A.guards = some []) (hg : Gl X x) (hm : X.mg x = some (.ref f)) (hk : PySem.W.keepIn X.K (.ref f) = true) (hb : BindOk X.K fd ps 0 ks perm) (hdb : (x == ("__debug__" : Str)) = false)
    (hl : ds.length = ks.length) (hkw : SKs X C kws ds) (hall : (backToKw pos (keywordEach kws X.env)).all (·.1.isSome) = true) (hks : (backToKw pos (keywordEach kws X.env)).filterMap (·.1) = ks)
    (hpl : ((backTo pos (starEach [] X.env)).any (·.1) || (backToKw pos (keywordEach kws X.env)).any (·.1.isNone)) = false) : SE X C (.Call (.Name x p) [] kws pos) (.call i ds perm) := fun env s => by
  refine ⟨fun pins sh σ H Q I h => ?_⟩
  refine wpAny_Call_Name_kw (ld_glob I hg hm ?_ hdb)
  refine PySem.W.callWith_KW0 (h₀ := X.base) I.ok.mod.kin hk hall (thn ((hkw env s).run pos pins sh σ H _ I (call_read h)) fun ws sh2 ⟨zs, H2, I2, rz, q2⟩ => ⟨I2.kIn, ?_⟩) hpl
  rw [hks]
  exact run_call (us := []) (vs := []) F hr hgu hb I2 .nil rz rfl (q2.1.trans hl) q2.2
end
end Vm

set_option Elab.async false
set_option linter.all false
set_option maxRecDepth 100000
set_option maxHeartbeats 4000000
/-! Vm: what is known of a context, told ahead. -/
namespace Vm
open PySem PySem.Spec PyProof.Rows L2
/-- constants, tuples of constants, free built-in names, functions with how they are called -/
structure Gc where
  con : List (Str × D)
  tup : List (Str × List D)
  free : List Str
  fns : List (Str × Nat × List (Nat × List Str × List Nat))
/-- what runs under it -/
structure GOk (G : Gc) (X : Cx) (C : Cfg) : Prop where
  con : ∀ x d, G.con.lookup x = some d → ∃ v u, X.mg x = some u ∧ RelV v u ∧ ∀ H, Rep X.K H v d
  tup : ∀ x ds, G.tup.lookup x = some ds → ∃ a xs, X.mg x = some (.ref a) ∧ (∀ H, SqT X.K H a xs) ∧ ∀ H, Reps X.K H xs ds
  free : ∀ x, G.free.contains x = true → X.mg x = none
  fns : ∀ x i shs, G.fns.lookup x = some (i, shs) → ∃ k f fd ps, X.mg x = some (.ref f) ∧ PySem.W.keepIn X.K (.ref f) = true ∧ Room k X.A ∧ FnG X.prog X.w X.K X.mg X.base k f fd ps (C.call i) ∧ ∀ sh, sh ∈ shs → BindOk X.K fd ps sh.1 sh.2.1 sh.2.2
structure XOk (G : Gc) (X : Cx) (C : Cfg) (N : List Str) (sc : Scope) : Prop where
  g : GOk G X C
  N : X.N = N
  nd : X.N.Nodup
  calm : X.calm = true
  gu : X.A.guards = some []
  un : X.A.units + 200 < cLine
  sce : ∀ x k, sc.names.lookup x = some k → X.env.scope.names.lookup x = some k ∨ (k = .free ∧ X.env.scope.names.lookup x = some .cell)
  fnc : ∀ x, sc.names.lookup x = some .cell → X.fn x = true
section
variable {G : Gc} {X : Cx} {C : Cfg} {N : List Str} {sc : Scope} {x : Str}
theorem XOk.kind (o : XOk G X C N sc) {k : NameKind} (h : sc.names.lookup x = some k) (n : k ≠ .free) : X.env.scope.names.lookup x = some k := (o.sce x k h).resolve_right fun z => n z.1
theorem XOk.vis (o : XOk G X C N sc) {k : NameKind} (h : sc.names.lookup x = some k) (n : k = .local ∨ k = .cell ∨ k = .free) : Vis X.env.scope x := by
  rcases o.sce x k h with q | ⟨_, q⟩
  · rcases n with rfl | rfl | rfl
    · exact .inl q
    · exact .inr (.inl q)
    · exact .inr (.inr q)
  · exact .inr (.inl q)
theorem XOk.gl (o : XOk G X C N sc) (h : sc.names.lookup x = some .globalImplicit) : Gl X x := o.kind h (fun z => by cases z)
theorem XOk.loc (o : XOk G X C N sc) {k : NameKind} (h : sc.names.lookup x = some k) (n : k = .local ∨ k = .cell) : Loc X.env.scope x := by
  rcases n with rfl | rfl
  · exact .inl (o.kind h fun z => by cases z)
  · exact .inr (o.kind h fun z => by cases z)
theorem XOk.fnl (o : XOk G X C N sc) {k : NameKind} (h : sc.names.lookup x = some k) (n : k = .local ∨ k = .cell) : X.fn x = true ∨ X.env.scope.names.lookup x = some .local := by
  rcases n with rfl | rfl
  · exact .inr (o.kind h fun z => by cases z)
  · exact .inl (o.fnc x h)
theorem lookup_map2 {f : Str → NameKind → NameKind} : ∀ {names : List (Str × NameKind)}, (names.map fun p => (p.1, f p.1 p.2)).lookup x = (names.lookup x).map (f x)
  | [] => rfl
  | (n, k) :: r => by
    rw [List.map_cons, List.lookup_cons, List.lookup_cons]
    cases e : x == n with
    | true =>
      have e2 : x = n := by simpa using e
      subst e2
      rfl
    | false => exact lookup_map2
theorem relS_names {scope sc : Scope} : (relS scope sc).names.lookup x = (scope.names.lookup x).map fun k => if (k == .free && sc.kind == .function && sc.names.lookup x == some .cell) = true then .cell else k := by
  have e : (relS scope sc).names = scope.names.map fun p => (p.1, if (p.2 == .free && sc.kind == .function && sc.names.lookup p.1 == some .cell) = true then .cell else p.2) := by
    unfold relS
    refine List.map_congr_left fun p _ => ?_
    obtain ⟨n, k⟩ := p
    by_cases q : (k == .free && sc.kind == .function && sc.names.lookup n == some .cell) = true
    · simp only [q, if_true]
    · simp only [q, if_false]
      rfl
  rw [e]
  exact lookup_map2 (f := fun n k => if (k == .free && sc.kind == .function && sc.names.lookup n == some .cell) = true then .cell else k)
/-- a comprehension's block -/
theorem XOk.blk (o : XOk G X C N sc) {scope : Scope} (s : Shared) (H : Hp) (D : Addr) (cl : List (Str × Addr)) (fp : List Addr) : XOk G (X.blk s H scope (compEnvC scope cl D X.env) fp) C N scope where
  g := ⟨o.g.con, o.g.tup, o.g.free, o.g.fns⟩
  N := o.N
  nd := o.nd
  calm := o.calm
  gu := o.gu
  un := o.un
  sce := fun x k h => by
    show (relS scope X.env.scope).names.lookup x = some k ∨ (k = .free ∧ (relS scope X.env.scope).names.lookup x = some .cell)
    rw [relS_names, h]
    show some (if _ then _ else _) = _ ∨ _
    by_cases q : (k == .free && X.env.scope.kind == .function && X.env.scope.names.lookup x == some .cell) = true
    · right
      simp only [Bool.and_eq_true, beq_iff_eq] at q
      exact ⟨q.1.1, by
        show some (if (k == .free && X.env.scope.kind == .function && X.env.scope.names.lookup x == some .cell) = true then NameKind.cell else k) = some .cell
        rw [if_pos (by simp [q.1.1, q.1.2, q.2])]⟩
    · left
      rw [if_neg q]
  fnc := fun x h => by
    show (scope.names.lookup x == some .cell) = true
    rw [h]
    rfl
theorem XOk.blkOk (o : XOk G X C N sc) {scope : Scope} {own : List (Str × Nat)} (h : blkC N sc scope own = true) : BlkOk X.N X.env.scope scope own := by
  have b := blkOk_by h
  rw [o.N]
  refine ⟨b.kind, b.uniq, b.ix, fun y hy e => ?_, b.own⟩
  rcases b.free y hy e with q | q
  · exact .inl (o.kind q fun z => by cases z)
  · rcases o.sce _ _ q with z | ⟨_, z⟩
    · exact .inr z
    · exact .inl z
end
/-! ### small looks -/
def notCall : Expr → Bool
  | .Call _ _ _ _ => false
  | _ => true
theorem base_of {o : Expr} {name : Str} {env : PySem.Env} (h : notCall o = true) : attributeBase o name env (eval o env) = eval o env := by
  cases o <;> first | rfl | cases h
def notSet : Expr → Bool
  | .Set _ _ _ => false
  | _ => true
theorem noFold {it : Expr} {env : PySem.Env} {x : Value} (h : notSet it = true) : foldedSetIterable it env x = pure x := by
  cases it <;> first | rfl | cases h
def notSlice : Expr → Bool
  | .Slice _ _ _ _ => false
  | _ => true
theorem plainIx {b : Expr} (h : notSlice b = true) : PlainIx b := fun o i => by
  cases b <;> first | rfl | cases h
theorem itemAsg {X : Cx} {o i : Expr} {po : Pos} (h : notSlice i = true) : ItemAsg X o i po := fun v => by
  cases i <;> first | rfl | cases h
theorem marks_of {op : CmpOp} {b : Expr} (h : notSet b = true) : behindInMarks op b = false := by
  cases b <;> first | rfl | cases h
def notComp : Expr → Bool
  | .ListComp _ _ _ _ => false
  | .SetComp _ _ _ _ => false
  | .DictComp _ _ _ _ _ => false
  | _ => true
theorem noSwap {e : Expr} {t : Option Expr} {l : Nat} {env : PySem.Env} (h : notComp e = true) : swapsWith e t l env = pure false := by
  cases e <;> first | rfl | cases h
def notTup : Expr → Bool
  | .Tuple _ _ _ => false
  | _ => true
theorem noPar {tg e : Expr} {env : PySem.Env} (h : notTup e = true) : swappedStores [tg] e env = pure none := by
  cases e <;> first | (cases tg <;> rfl) | cases h
theorem noParT {tg e : Expr} {env : PySem.Env} (h : (match tg with | .Tuple _ _ _ => false | .List _ _ => false | _ => true) = true) : swappedStores [tg] e env = pure none := by
  cases tg <;> first | rfl | cases h
theorem each_len {env : PySem.Env} : ∀ {es : List Expr}, (assignEach es env).length = es.length
  | [] => rfl
  | e :: es => by
    have ih := each_len (env := env) (es := es)
    cases e <;> exact congrArg (· + 1) ih
theorem each_plain {env : PySem.Env} : ∀ {es : List Expr}, es.all noStar = true → (assignEach es env).findIdx? (·.1) = none
  | [], _ => rfl
  | e :: es, h => by
    rw [List.all_cons, Bool.and_eq_true] at h
    have ih := each_plain (env := env) (es := es) h.2
    have k : assignEach (e :: es) env = (false, assign e env) :: assignEach es env := by
      cases e <;> first | rfl | cases h.1
    rw [k, List.findIdx?_cons, ih]
    rfl
theorem each_cons {e : Expr} {es : List Expr} {env : PySem.Env} (h : noStar e = true) : (assignEach (e :: es) env).map (·.2) = assign e env :: (assignEach es env).map (·.2) := by
  cases e <;> first | rfl | cases h
end Vm

set_option Elab.async false
set_option linter.all false
set_option maxRecDepth 100000
set_option maxHeartbeats 4000000
/-! Vm: pairs stored from the right, or through a tuple. -/
namespace Vm
open PySem PySem.Spec PyProof.Rows L2
def namesOf (sc : Scope) (ts : List Expr) : List Str := ts.filterMap fun t => match t with
  | .Name id pos => if sc.names.lookup id == some .local && pos.line == (ts.head?.map (·.pos.line)).getD 0 then some id else none
  | _ => none
def swK (sc : Scope) : ScopeKind := if sc.kind.isAnnotationScope then .function else sc.kind
def starOf : Expr → Bool
  | .Starred .. => true
  | _ => false
def swPre (sc : Scope) (ts vs : List Expr) : Bool := (ts.length == 2 || ts.length == 3) && vs.length == ts.length && swK sc == .function && !(vs.any starOf)
def swC (sc : Scope) (ts vs : List Expr) : Bool := swPre sc ts vs && (namesOf sc ts).length == ts.length && (namesOf sc ts).eraseDups.length == (namesOf sc ts).length && !(vs.all (foldedForSure 8)) && !(vs.all (constantsAlone 8))
def swN (sc : Scope) (ts vs : List Expr) : Bool := swPre sc ts vs && ((namesOf sc ts).length != ts.length || ((namesOf sc ts).eraseDups.length == (namesOf sc ts).length && vs.all (foldedForSure 8)))
def swX (env : PySem.Env) (ts vs : List Expr) : Sem (Option (List Str)) :=
  if (!(ts.length == 2 || ts.length == 3) || vs.length != ts.length || env.blockKind != .function) = true then pure none
  else if vs.any starOf = true then pure none
  else if ((namesOf env.scope ts).length != ts.length || (namesOf env.scope ts).eraseDups.length != (namesOf env.scope ts).length) = true then pure none
  else if vs.all (foldedForSure 8) = true then pure none
  else if vs.all (constantsAlone 8) = true then (do let r ← (unsupported "assign.tuple-of-constant-expressions:order-of-the-stores" : Sem Unit); pure (some (namesOf env.scope ts)))
  else pure (some (namesOf env.scope ts))
theorem swX_eq {ts vs : List Expr} {k k2 : Nat} {p p2 : Pos} {env : PySem.Env} : swappedStores [.Tuple ts k p] (.Tuple vs k2 p2) env = swX env ts vs := by
  kernel_rfl
theorem swPre_ok {ts vs : List Expr} {env : PySem.Env} {sc : Scope} (hs : env.scope = sc) (h : swPre sc ts vs = true) : (!(ts.length == 2 || ts.length == 3) || vs.length != ts.length || env.blockKind != .function) = false ∧ vs.any starOf = false := by
  unfold swPre at h
  simp only [Bool.and_eq_true, Bool.not_eq_true', beq_iff_eq] at h
  obtain ⟨⟨⟨h1, h2⟩, h3⟩, h4⟩ := h
  have q3 : env.blockKind = .function := by
    unfold Env.blockKind
    rw [hs]
    exact h3
  exact ⟨by rw [h1, h2, q3]; simp, h4⟩
theorem swapped_yes {ts vs : List Expr} {k k2 : Nat} {p p2 : Pos} {env : PySem.Env} {sc : Scope} (hs : env.scope = sc) (h : swC sc ts vs = true) : swappedStores [.Tuple ts k p] (.Tuple vs k2 p2) env = pure (some (namesOf sc ts)) := by
  unfold swC at h
  simp only [Bool.and_eq_true, Bool.not_eq_true', beq_iff_eq] at h
  obtain ⟨⟨⟨⟨h0, h5⟩, h6⟩, h7⟩, h8⟩ := h
  obtain ⟨e1, e2⟩ := swPre_ok hs h0
  rw [swX_eq]
  unfold swX
  rw [hs, e1, e2, h7, h8, h6, h5]
  simp
theorem swapped_no {ts vs : List Expr} {k k2 : Nat} {p p2 : Pos} {env : PySem.Env} {sc : Scope} (hs : env.scope = sc) (h : swN sc ts vs = true) : swappedStores [.Tuple ts k p] (.Tuple vs k2 p2) env = pure none := by
  unfold swN at h
  rw [Bool.and_eq_true] at h
  obtain ⟨e1, e2⟩ := swPre_ok hs h.1
  rw [swX_eq]
  unfold swX
  rw [hs, e1, e2]
  simp only [Bool.false_eq_true, if_false]
  by_cases q : ((namesOf sc ts).length != ts.length || (namesOf sc ts).eraseDups.length != (namesOf sc ts).length) = true
  · rw [if_pos q]
  · rw [if_neg q]
    have q2 : vs.all (foldedForSure 8) = true := by
      rcases Bool.or_eq_true_iff.mp h.2 with z | z
      · exfalso
        apply q
        rw [z]
        rfl
      · exact (Bool.and_eq_true_iff.mp z).2
    rw [if_pos q2]
end Vm

set_option Elab.async false
set_option linter.all false
set_option maxRecDepth 100000
set_option maxHeartbeats 4000000
/-! Vm: from the text to the code; each step with its proof. -/
namespace Vm
open PySem PySem.Spec PyProof.Rows L2
def boOf : Operator → Option Bo
  | .Add => some .add
  | .Sub => some .sub
  | .Mult => some .mul
  | .FloorDiv => some .fdiv
  | .Mod => some .mod
  | .Pow => some .pow
  | .LShift => some .shl
  | .RShift => some .shr
  | .BitAnd => some .band
  | .BitOr => some .bor
  | .BitXor => some .bxor
  | _ => none
theorem bo_ok {X : Cx} {op : Operator} {o : Bo} (h : boOf op = some o) : OpR X (binaryOp op) (rBP X.K fun d d2 => ofO (binD o d d2)) := by
  cases op <;> first | (cases h; done) | skip
  · cases h; exact ob_add
  · cases h; exact ob_sub
  · cases h; exact ob_mul
  · cases h; exact ob_mod
  · cases h; exact ob_pow
  · cases h; exact ob_shl
  · cases h; exact ob_shr
  · cases h; exact ob_or
  · cases h; exact ob_xor
  · cases h; exact ob_and
  · cases h; exact ob_fdiv
def cpOf : CmpOp → Option Cp
  | .Eq => some .eq
  | .NotEq => some .ne
  | .Lt => some .lt
  | .LtE => some .le
  | .Gt => some .gt
  | .GtE => some .ge
  | .In => some .isin
  | .NotIn => some .notin
  | .Is => some .is
  | .IsNot => some .isnot
theorem cp_ok {X : Cx} {op : CmpOp} {o : Cp} (hu : X.A.units + 200 < cLine) (h : cpOf op = some o) : OpR X (compareOp op) (rCmp X o) := by
  cases op
  · cases h; exact oc_eq (by omega)
  · cases h; exact oc_ne (by omega)
  · cases h; exact oc_lt
  · cases h; exact oc_le
  · cases h; exact oc_gt
  · cases h; exact oc_ge
  · cases h; exact oc_is
  · cases h; exact oc_isnot
  · cases h; exact oc_in (by omega)
  · cases h; exact oc_notin (by omega)
structure BiR (x : Str) where
  f : Bf
  ok : ∀ X : Cx, X.calm = true → X.A.units + 200 < cLine → X.A.guards = some [] → (∃ id, bootBuiltins x = some (.builtin id) ∧ CallR X (.builtin id) (rC X.K (biD f))) ∨ ∃ id, bootBuiltins x = some (.type id) ∧ CallR X (.type id) (rC X.K (biD f))
  nn : x ≠ "__name__"
  nd : (x == ("__debug__" : Str)) = false
def biOf (x : Str) : Option (BiR x) :=
  if h : x = "len" then some ⟨.len, fun X _ _ _ => .inl ⟨"len", by rw [h]; rfl, cb_len⟩, by rw [h]; decide, by rw [h]; decide⟩
  else if h : x = "abs" then some ⟨.abs, fun X _ _ _ => .inl ⟨"abs", by rw [h]; rfl, cb_abs⟩, by rw [h]; decide, by rw [h]; decide⟩
  else if h : x = "all" then some ⟨.all, fun X c _ _ => .inl ⟨"all", by rw [h]; rfl, cb_all c⟩, by rw [h]; decide, by rw [h]; decide⟩
  else if h : x = "any" then some ⟨.any, fun X c _ _ => .inl ⟨"any", by rw [h]; rfl, cb_any c⟩, by rw [h]; decide, by rw [h]; decide⟩
  else if h : x = "int" then some ⟨.int, fun X c _ _ => .inr ⟨"int", by rw [h]; rfl, cb_int⟩, by rw [h]; decide, by rw [h]; decide⟩
  else if h : x = "list" then some ⟨.list, fun X c _ _ => .inr ⟨"list", by rw [h]; rfl, cb_list⟩, by rw [h]; decide, by rw [h]; decide⟩
  else if h : x = "tuple" then some ⟨.tuple, fun X c _ _ => .inr ⟨"tuple", by rw [h]; rfl, cb_tuple⟩, by rw [h]; decide, by rw [h]; decide⟩
  else if h : x = "max" then some ⟨.max, fun X c _ _ => .inl ⟨"max", by rw [h]; rfl, cb_max c⟩, by rw [h]; decide, by rw [h]; decide⟩
  else if h : x = "min" then some ⟨.min, fun X c _ _ => .inl ⟨"min", by rw [h]; rfl, cb_min c⟩, by rw [h]; decide, by rw [h]; decide⟩
  else if h : x = "sum" then some ⟨.sum, fun X c _ _ => .inl ⟨"sum", by rw [h]; rfl, cb_sum c⟩, by rw [h]; decide, by rw [h]; decide⟩
  else if h : x = "repr" then some ⟨.repr, fun X c u g => .inl ⟨"repr", by rw [h]; rfl, cb_repr u g⟩, by rw [h]; decide, by rw [h]; decide⟩
  else if h : x = "sorted" then some ⟨.sorted, fun X c _ _ => .inl ⟨"sorted", by rw [h]; rfl, cb_sorted⟩, by rw [h]; decide, by rw [h]; decide⟩
  else if h : x = "divmod" then some ⟨.divmod, fun X c _ _ => .inl ⟨"divmod", by rw [h]; rfl, cb_divmod⟩, by rw [h]; decide, by rw [h]; decide⟩
  else none
/-! ### results with their proofs -/
section
variable (G : Gc) (N : List Str) (sc : Scope)
abbrev RE (e : Expr) := {c : Co // ∀ X C, XOk G X C N sc → SE X C e c}
abbrev RT (e : Expr) := {c : Co // ∀ X C, XOk G X C N sc → ST X C e c}
abbrev RW (e : Expr) := {c : Co // ∀ X C, XOk G X C N sc → STw X C e c}
abbrev RL (es : List Expr) := {cs : List Co // ∀ X C, XOk G X C N sc → SAs X C es cs ∧ STs X C es cs ∧ SRs X C es cs}
abbrev RO (o : Option Expr) := {cs : List Co // ∀ X C, XOk G X C N sc → SPo X C o cs}
abbrev RQ (es : List Expr) := {cs : List Co // ∀ X C, XOk G X C N sc → SQ X C es cs}
abbrev RI (tg it : Expr) := {w : Wk // ∀ X C, XOk G X C N sc → SI X C tg it w}
abbrev RK (kws : List Keyword) := {cs : List Co // ∀ X C, XOk G X C N sc → SKs X C kws cs}
abbrev RG (tg : Expr) := {g : Tg // ∀ X C, XOk G X C N sc → PG X tg (tgOf X.K g)}
abbrev RGs (es : List Expr) := {gs : List Tg // ∀ X C, XOk G X C N sc → PGs X es (tgsOf X.K gs)}
end
section
variable (G : Gc) (N : List Str)
def ixOf (x : Str) : Nat := N.findIdx (· == x)
def isLoc (sc : Scope) (x : Str) : Bool := sc.names.lookup x == some .local || sc.names.lookup x == some .cell
theorem isLoc_ok {sc : Scope} {x : Str} (h : isLoc sc x = true) : ∃ k, sc.names.lookup x = some k ∧ (k = .local ∨ k = .cell) := by
  unfold isLoc at h
  rw [Bool.or_eq_true, beq_iff_eq, beq_iff_eq] at h
  rcases h with h | h
  · exact ⟨_, h, .inl rfl⟩
  · exact ⟨_, h, .inr rfl⟩
def isVis (sc : Scope) (x : Str) : Bool := isLoc sc x || sc.names.lookup x == some .free
theorem isVis_ok {sc : Scope} {x : Str} (h : isVis sc x = true) : ∃ k, sc.names.lookup x = some k ∧ (k = .local ∨ k = .cell ∨ k = .free) := by
  unfold isVis at h
  rw [Bool.or_eq_true, beq_iff_eq] at h
  rcases h with h | h
  · obtain ⟨k, h1, h2⟩ := isLoc_ok h
    exact ⟨k, h1, h2.imp id .inl⟩
  · exact ⟨_, h, .inr (.inr rfl)⟩
/-! targets of names -/
mutual
def cG : Nat → (sc : Scope) → (tg : Expr) → Option (RG G N sc tg)
  | 0, _, _ => none
  | n + 1, sc, .Name x p => if h : isLoc sc x = true ∧ N[ixOf N x]? = some x then some ⟨.s (ixOf N x) false, fun X C o => by
      obtain ⟨k, h1, h2⟩ := isLoc_ok h.1
      exact pg_name o.nd (by rw [o.N]; exact h.2) (o.loc h1 h2) (o.fnl h1 h2)⟩ else none
  | n + 1, sc, .Tuple es k p => (cGs n sc es).bind fun gs => if h : es.all noStar = true ∧ es.length = gs.1.length then some ⟨.t gs.1, fun X C o => by
      exact pg_tup o.calm (gs.2 X C o) (each_len.trans h.2) (each_plain h.1)⟩ else none
  | _ + 1, _, _ => none
def cGs : Nat → (sc : Scope) → (es : List Expr) → Option (RGs G N sc es)
  | 0, _, _ => none
  | n + 1, sc, [] => some ⟨[], fun X C o => by unfold tgsOf; exact pgs_nil⟩
  | n + 1, sc, e :: es => if h : noStar e = true then (cG n sc e).bind fun g => (cGs n sc es).bind fun gs => some ⟨g.1 :: gs.1, fun X C o => by
      have q := pgs_cons (g.2 X C o) (gs.2 X C o) (each_cons h)
      obtain ⟨g, hg⟩ := g
      cases g with
      | s i m => unfold tgsOf; exact q
      | t hs => unfold tgsOf; exact q
      | x a b =>
        unfold tgsOf
        refine PGs.conseq q fun xs σ H Q z => z.elim⟩ else none
end
def ownOf (scope : Scope) : List (Str × Nat) := scope.names.filterMap fun y => match y.2 with
  | .local => if N.contains y.1 then some (y.1, ixOf N y.1) else none
  | .cell => if N.contains y.1 then some (y.1, ixOf N y.1) else none
  | _ => none
def subsB (a b : List Nat) : Bool := a.all fun i => b.contains i
theorem subsB_ok {a b : List Nat} (h : subsB a b = true) : ∀ i ∈ a, i ∈ b := fun i hi => by
  have := List.all_eq_true.mp h i hi
  simpa using this
def lookFn (x : Str) (n : Nat) (ks : List Str) : Option {q : Nat × List Nat // ∃ shs, G.fns.lookup x = some (q.1, shs) ∧ (n, ks, q.2) ∈ shs} :=
  match h : G.fns.lookup x with
  | none => none
  | some (i, shs) => match h2 : shs.find? fun s => s.1 == n && s.2.1 == ks with
    | none => none
    | some s => some ⟨(i, s.2.2), shs, rfl, by
        have m := List.mem_of_find?_eq_some h2
        have p := List.find?_some h2
        rw [Bool.and_eq_true, beq_iff_eq, beq_iff_eq] at p
        obtain ⟨a, b, c⟩ := s
        obtain ⟨p1, p2⟩ := p
        cases p1
        cases p2
        exact m⟩
def cConst (sc : Scope) (c : PySem.Const) (k : Nat) (p : Pos) : Option (RE G N sc (.Constant c k p)) := match c with
  | .none => some ⟨.lit .none, fun X C o => se_con pe_non fun _ => .non⟩
  | .bool b => some ⟨.lit (.bool b), fun X C o => se_con pe_bl fun _ => .bl b⟩
  | .int i => some ⟨.lit (.int i), fun X C o => se_con pe_int fun _ => .int i⟩
  | .str s => some ⟨.lit (.str s), fun X C o => se_con pe_str fun _ => .str s⟩
  | _ => none
theorem se_glb {X : Cx} {C : Cfg} {e : Expr} {v : V} {d : PyData} (hp : PE X e (tC v)) (r : ∀ Hf, GRep X.K Hf d v) : SE X C e (.glb d) := fun env s =>
  PE.conseq hp fun σ H Q h => by
    obtain ⟨ρ, Hf, w, eo, h⟩ := h
    exact Post.fin w h (.g (r Hf)) trivial
def cName (sc : Scope) (x : Str) (p : Pos) : Option (RE G N sc (.Name x p)) :=
  if h : (x == ("__debug__" : Str)) = false ∧ (x == ("__classdict__" : Str)) = false then
    if h1 : isVis sc x = true then
      if h2 : N[ixOf N x]? = some x then some ⟨.var (ixOf N x), fun X C o => by
        obtain ⟨k, h3, h4⟩ := isVis_ok h1
        exact se_var (by rw [o.N]; exact h2) (o.vis h3 h4) h.1 h.2⟩ else none
    else if h1 : sc.names.lookup x = some .globalImplicit then
      match h2 : G.con.lookup x with
      | some d => some ⟨.lit d, fun X C o => by
        obtain ⟨v, u, h3, h4, h5⟩ := o.g.con x d h2
        exact se_con (pe_glob (o.gl h1) h3 h4 h.1) h5⟩
      | none => match h2 : G.tup.lookup x with
        | some ds => some ⟨.glb (.tuple ds), fun X C o => by
          obtain ⟨a, xs, h3, h4, h5⟩ := o.g.tup x ds h2
          exact se_glb (pe_glob (v := V.ref a) (o.gl h1) h3 rfl h.1) fun Hf => .t h4 h5⟩
        | none => none
    else none
  else none
def cBi (sc : Scope) (x : Str) (p : Pos) (e : Expr) (es : List Expr) (pos : Pos) (cs : RL G N sc (e :: es)) : Option (RE G N sc (.Call (.Name x p) (e :: es) [] pos)) :=
  if h : G.free.contains x = true ∧ sc.names.lookup x = some .globalImplicit ∧ (e :: es).all noStar = true then
    (biOf x).bind fun b => some ⟨.bi b.f cs.1, fun X C o => by
      rcases b.ok X o.calm o.un o.gu with ⟨id, h1, h2⟩ | ⟨id, h1, h2⟩
      · exact se_bi h2 (o.gl h.2.1) (o.g.free x h.1) h1 b.nn b.nd h.2.2 (cs.2 X C o).2.2
      · exact se_ty h2 (o.gl h.2.1) (o.g.free x h.1) h1 b.nn b.nd h.2.2 (cs.2 X C o).2.2⟩
  else none
end
end Vm

set_option Elab.async false
set_option linter.all false
set_option maxRecDepth 100000
set_option maxHeartbeats 8000000
/-! Vm: from the text to the code: expressions. -/
namespace Vm
open PySem PySem.Spec PyProof.Rows L2
section
variable (G : Gc) (N : List Str)
/-- what the code does not cover: stuck -/
theorem se_dead {X : Cx} {C : Cfg} {e : Expr} : SE X C e (.dsp []) := fun env s => PE.ff fun σ H Q h => by
  obtain ⟨ρ, Hf, w, eo, h⟩ := h
  unfold evE at h
  exact h
theorem st_dead {X : Cx} {C : Cfg} {e : Expr} : ST X C e (.dsp []) := fun env s => PT.ff fun σ H Q h => by
  obtain ⟨ρ, Hf, w, eo, h⟩ := h
  unfold evT at h
  exact h
/-- the steps, each from its parts -/
def kTup {sc : Scope} {es : List Expr} (k : Nat) (p : Pos) (cs : RL G N sc es) : Option (RE G N sc (.Tuple es k p)) :=
  if h : cs.1.length ≤ 1000 then some ⟨.tup cs.1, fun X C o => se_tup (Nat.le_trans h (by decide)) (cs.2 X C o).2.1⟩ else none
def kLst {sc : Scope} {es : List Expr} (p : Pos) (cs : RL G N sc es) : Option (RE G N sc (.List es p)) :=
  if h : cs.1.length ≤ 1000 then some ⟨.lst cs.1, fun X C o => se_lst (Nat.le_trans h (by decide)) (cs.2 X C o).2.1⟩ else none
def kBin {sc : Scope} {a b : Expr} (op : Operator) (p : Pos) (ca : RE G N sc a) (cb : RE G N sc b) : Option (RE G N sc (.BinOp a op b p)) :=
  match h : boOf op with
  | some o => some ⟨.bin o ca.1 cb.1, fun X C k => se_bin (bo_ok h) (ca.2 X C k) (cb.2 X C k)⟩
  | none => none
def kCmp {sc : Scope} {a b : Expr} (op : CmpOp) (p : Pos) (ca : RE G N sc a) (cb : RE G N sc b) : Option (RE G N sc (.Compare a [op] [b] p)) :=
  match h : cpOf op with
  | some o => if h2 : notSet b = true then some ⟨.cmp o ca.1 cb.1, fun X C k => se_cmp (cp_ok k.un h) (marks_of h2) (ca.2 X C k) (cb.2 X C k)⟩ else none
  | none => none
def kCmpT {sc : Scope} {a b : Expr} (op : CmpOp) (p : Pos) (ca : RE G N sc a) (cb : RE G N sc b) : Option (RT G N sc (.Compare a [op] [b] p)) :=
  match h : cpOf op with
  | some o => if h2 : notSet b = true then some ⟨.cmp o ca.1 cb.1, fun X C k => st_cmp (cp_ok k.un h) (marks_of h2) (ca.2 X C k) (cb.2 X C k)⟩ else none
  | none => none
def kChn {sc : Scope} {a b c : Expr} (op op2 : CmpOp) (p : Pos) (ca : RE G N sc a) (cb : RE G N sc b) (cc : RE G N sc c) : Option (RE G N sc (.Compare a [op, op2] [b, c] p)) :=
  match h : cpOf op, h2 : cpOf op2 with
  | some o, some o2 => if h3 : notSet c = true then some ⟨.chn o o2 ca.1 cb.1 cc.1, fun X C k => se_chn (cp_ok k.un h) (cp_ok k.un h2) (marks_of h3) (ca.2 X C k) (cb.2 X C k) (cc.2 X C k)⟩ else none
  | _, _ => none
def kChnT {sc : Scope} {a b c : Expr} (op op2 : CmpOp) (p : Pos) (ca : RE G N sc a) (cb : RE G N sc b) (cc : RE G N sc c) : Option (RT G N sc (.Compare a [op, op2] [b, c] p)) :=
  match h : cpOf op, h2 : cpOf op2 with
  | some o, some o2 => if h3 : notSet c = true then some ⟨.chn o o2 ca.1 cb.1 cc.1, fun X C k => st_chn (cp_ok k.un h) (cp_ok k.un h2) (marks_of h3) (ca.2 X C k) (cb.2 X C k) (cc.2 X C k)⟩ else none
  | _, _ => none
def kIx {sc : Scope} {a b : Expr} (p : Pos) (ca : RE G N sc a) (cb : RE G N sc b) : Option (RE G N sc (.Subscript a b p)) :=
  if h : notSlice b = true then some ⟨.ix ca.1 cb.1, fun X C k => se_ix (ox_ix (by have := k.un; omega)) (plainIx h) (ca.2 X C k) (cb.2 X C k)⟩ else none
def kCall {sc : Scope} {e : Expr} {es : List Expr} (x : Str) (p pos : Pos) (cs : RL G N sc (e :: es)) : Option (RE G N sc (.Call (.Name x p) (e :: es) [] pos)) :=
  if h : sc.names.lookup x = some .globalImplicit ∧ (e :: es).all noStar = true ∧ (x == ("__debug__" : Str)) = false then
    (lookFn G x cs.1.length []).bind fun q => some ⟨.call q.1.1 cs.1 q.1.2, fun X C o => by
      obtain ⟨shs, h1, h2⟩ := q.2
      obtain ⟨k, f, fd, ps, h3, h4, h5, h6, h7⟩ := o.g.fns x _ _ h1
      exact se_call h6 h5 o.gu (o.gl h.1) h3 h4 (h7 _ h2) h.2.2 h.2.1 (cs.2 X C o).1⟩
  else none
def kCall0 {sc : Scope} (x : Str) (p pos : Pos) : Option (RE G N sc (.Call (.Name x p) [] [] pos)) :=
  if h : sc.names.lookup x = some .globalImplicit ∧ (x == ("__debug__" : Str)) = false then
    (lookFn G x 0 []).bind fun q => some ⟨.call q.1.1 [] q.1.2, fun X C o => by
      obtain ⟨shs, h1, h2⟩ := q.2
      obtain ⟨k, f, fd, ps, h3, h4, h5, h6, h7⟩ := o.g.fns x _ _ h1
      exact se_call0 h6 h5 o.gu (o.gl h.1) h3 h4 (h7 _ h2) h.2⟩
  else none
def kwNames (kws : List Keyword) : List Str := kws.filterMap (·.arg)
def kwOk (kws : List Keyword) : Bool := kws.all (·.arg.isSome)
theorem kw_some {pos : Pos} {env : PySem.Env} : ∀ {kws : List Keyword}, kwOk kws = true → (backToKw pos (keywordEach kws env)).all (·.1.isSome) = true ∧ (backToKw pos (keywordEach kws env)).filterMap (·.1) = kwNames kws ∧ (backToKw pos (keywordEach kws env)).any (·.1.isNone) = false
  | [], _ => ⟨rfl, rfl, rfl⟩
  | ⟨a, v, q⟩ :: kws, h => by
    unfold kwOk at h
    rw [List.all_cons, Bool.and_eq_true] at h
    obtain ⟨h1, h2, h3⟩ := kw_some (pos := pos) (env := env) (kws := kws) h.2
    cases a with
    | none => cases h.1
    | some x =>
      refine ⟨h1, ?_, h3⟩
      show x :: (backToKw pos (keywordEach kws env)).filterMap (·.1) = x :: kwNames kws
      rw [h2]
theorem star_plain2 {e : Expr} {es : List Expr} {env : PySem.Env} {pos : Pos} (h : (e :: es).all noStar = true) : (backTo pos (starEach (e :: es) env)).any (·.1) = false := star_plain h
def kCallK {sc : Scope} {e : Expr} {es : List Expr} {kws : List Keyword} (x : Str) (p pos : Pos) (cs : RL G N sc (e :: es)) (ds : RK G N sc kws) : Option (RE G N sc (.Call (.Name x p) (e :: es) kws pos)) :=
  if h : sc.names.lookup x = some .globalImplicit ∧ (e :: es).all noStar = true ∧ (x == ("__debug__" : Str)) = false ∧ kwOk kws = true ∧ ds.1.length = (kwNames kws).length then
    (lookFn G x cs.1.length (kwNames kws)).bind fun q => some ⟨.call q.1.1 (cs.1 ++ ds.1) q.1.2, fun X C o => by
      obtain ⟨shs, h1, h2⟩ := q.2
      obtain ⟨k, f, fd, ps, h3, h4, h5, h6, h7⟩ := o.g.fns x _ _ h1
      obtain ⟨k1, k2, k3⟩ := kw_some (pos := pos) (env := X.env) h.2.2.2.1
      exact se_callK h6 h5 o.gu (o.gl h.1) h3 h4 (h7 _ h2) h.2.2.1 h.2.2.2.2 h.2.1 (cs.2 X C o).1 (ds.2 X C o) k1 k2 (by rw [star_plain2 h.2.1, k3]; rfl)⟩
  else none
def kCallK0 {sc : Scope} {kws : List Keyword} (x : Str) (p pos : Pos) (ds : RK G N sc kws) : Option (RE G N sc (.Call (.Name x p) [] kws pos)) :=
  if h : sc.names.lookup x = some .globalImplicit ∧ (x == ("__debug__" : Str)) = false ∧ kwOk kws = true ∧ ds.1.length = (kwNames kws).length then
    (lookFn G x 0 (kwNames kws)).bind fun q => some ⟨.call q.1.1 ds.1 q.1.2, fun X C o => by
      obtain ⟨shs, h1, h2⟩ := q.2
      obtain ⟨k, f, fd, ps, h3, h4, h5, h6, h7⟩ := o.g.fns x _ _ h1
      obtain ⟨k1, k2, k3⟩ := kw_some (pos := pos) (env := X.env) h.2.2.1
      exact se_callK0 h6 h5 o.gu (o.gl h.1) h3 h4 (h7 _ h2) h.2.1 h.2.2.2 (ds.2 X C o) k1 k2 (by rw [k3]; rfl)⟩
  else none
def kMt1 {sc : Scope} {b a : Expr} (name : Str) (apos cpos : Pos) (co : RE G N sc b) (ca : RE G N sc a) : Option (RE G N sc (.Call (.Attribute b name apos) [a] [] cpos)) :=
  if h : notCall b = true ∧ (apos.endLine == cpos.line) = true ∧ noStar a = true then
    if h1 : name = "append" then some ⟨.mt .append co.1 [ca.1], fun X C o => by
      subst h1
      exact se_mt1 PySem.F.plainAttrs_list PySem.F.slot_list_append rfl mtr_append (co.2 X C o) (ca.2 X C o) (base_of h.1) (by rw [star_cons h.2.2]; rfl) h.2.1 h.2.2⟩
    else if h1 : name = "extend" then some ⟨.mt .extend co.1 [ca.1], fun X C o => by
      subst h1
      exact se_mt1 PySem.F.plainAttrs_list PySem.F.slot_list_extend rfl mtr_extend (co.2 X C o) (ca.2 X C o) (base_of h.1) (by rw [star_cons h.2.2]; rfl) h.2.1 h.2.2⟩
    else if h1 : name = "pop" then some ⟨.mt .pop co.1 [ca.1], fun X C o => by
      subst h1
      exact se_mt1 PySem.F.plainAttrs_list PySem.F.slot_list_pop rfl mtr_pop1 (co.2 X C o) (ca.2 X C o) (base_of h.1) (by rw [star_cons h.2.2]; rfl) h.2.1 h.2.2⟩
    else if h1 : name = "index" then some ⟨.mt .index co.1 [ca.1], fun X C o => by
      subst h1
      exact se_mt1 PySem.F.plainAttrs_list PySem.F.slot_list_index rfl (mtr_index (by have := o.un; omega)) (co.2 X C o) (ca.2 X C o) (base_of h.1) (by rw [star_cons h.2.2]; rfl) h.2.1 h.2.2⟩
    else none
  else none
def kMt0 {sc : Scope} {b : Expr} (name : Str) (apos cpos : Pos) (co : RE G N sc b) : Option (RE G N sc (.Call (.Attribute b name apos) [] [] cpos)) :=
  if h : notCall b = true ∧ (apos.endLine == cpos.line) = true ∧ name = "pop" then some ⟨.mt .pop co.1 [], fun X C o => by
    obtain ⟨h1, h2, h3⟩ := h
    subst h3
    exact se_mt0 PySem.F.plainAttrs_list PySem.F.slot_list_pop rfl mtr_pop0 (co.2 X C o) (base_of h1) h2⟩
  else none
def tyOf (y : Str) : Option {T : Ty // bootBuiltins y = some (.type (tyName T)) ∧ y ≠ "__name__" ∧ (y == ("__debug__" : Str)) = false} :=
  if h : y = "int" then some ⟨.int, by rw [h]; rfl, by rw [h]; decide, by rw [h]; decide⟩
  else if h : y = "bool" then some ⟨.bool, by rw [h]; rfl, by rw [h]; decide, by rw [h]; decide⟩
  else if h : y = "str" then some ⟨.str, by rw [h]; rfl, by rw [h]; decide, by rw [h]; decide⟩
  else if h : y = "tuple" then some ⟨.tuple, by rw [h]; rfl, by rw [h]; decide, by rw [h]; decide⟩
  else if h : y = "list" then some ⟨.list, by rw [h]; rfl, by rw [h]; decide, by rw [h]; decide⟩
  else if h : y = "dict" then some ⟨.dict, by rw [h]; rfl, by rw [h]; decide, by rw [h]; decide⟩
  else none
/-- a built-in name that is free -/
def glB (sc : Scope) (x : Str) : Bool := G.free.contains x && sc.names.lookup x == some .globalImplicit
theorem glB_ok {sc : Scope} {x : Str} {X : Cx} {C : Cfg} (h : glB G sc x = true) (o : XOk G X C N sc) : Gl X x ∧ X.mg x = none := by
  unfold glB at h
  rw [Bool.and_eq_true, beq_iff_eq] at h
  exact ⟨o.gl h.2, o.g.free x h.1⟩
def kIsi {sc : Scope} {a : Expr} (y : Str) (p q pos : Pos) (ca : RE G N sc a) : Option (RE G N sc (.Call (.Name "isinstance" p) [a, .Name y q] [] pos)) :=
  if h : glB G sc "isinstance" = true ∧ glB G sc y = true ∧ noStar a = true then (tyOf y).bind fun T => some ⟨.bi (.isinst [T.1]) [ca.1], fun X C o => by
    have h1 := glB_ok G N h.1 o
    have h2 := glB_ok G N h.2.1 o
    exact se_isi h1.1 h1.2 h2.1 h2.2 T.2.1 T.2.2.1 T.2.2.2 h.2.2 (ca.2 X C o)⟩ else none
def kLrg {sc : Scope} {a : Expr} (p q pos pos' : Pos) (ca : RE G N sc a) : Option (RE G N sc (.Call (.Name "list" p) [.Call (.Name "range" q) [a] [] pos] [] pos')) :=
  if h : glB G sc "list" = true ∧ glB G sc "range" = true ∧ noStar a = true then some ⟨.bi .listRng [ca.1], fun X C o => by
    have h1 := glB_ok G N h.1 o
    have h2 := glB_ok G N h.2.1 o
    exact se_lrg1 o.calm h1.1 h1.2 h2.1 h2.2 h.2.2 (ca.2 X C o)⟩ else none
def kLenSet {sc : Scope} {a : Expr} (p q pos pos' : Pos) (ca : RE G N sc a) : Option (RE G N sc (.Call (.Name "len" p) [.Call (.Name "set" q) [a] [] pos] [] pos')) :=
  if h : glB G sc "len" = true ∧ glB G sc "set" = true ∧ noStar a = true then some ⟨.bi .lenSet [ca.1], fun X C o => by
    have h1 := glB_ok G N h.1 o
    have h2 := glB_ok G N h.2.1 o
    exact se_lenSet o.calm h1.1 h1.2 h2.1 h2.2 h.2.2 (ca.2 X C o)⟩ else none
def kDictZip {sc : Scope} {a b : Expr} (p q pos pos' : Pos) (ca : RE G N sc a) (cb : RE G N sc b) : Option (RE G N sc (.Call (.Name "dict" p) [.Call (.Name "zip" q) [a, b] [] pos] [] pos')) :=
  if h : glB G sc "dict" = true ∧ glB G sc "zip" = true ∧ noStar a = true ∧ noStar b = true then some ⟨.bi .dictZip [ca.1, cb.1], fun X C o => by
    have h1 := glB_ok G N h.1 o
    have h2 := glB_ok G N h.2.1 o
    exact se_dictZip o.calm (by have := o.un; omega) h2.1 h2.2 h1.1 h1.2 h.2.2.1 h.2.2.2 (ca.2 X C o) (cb.2 X C o)⟩ else none
def kDictP {sc : Scope} {a : Expr} (p pos : Pos) (ca : RE G N sc a) : Option (RE G N sc (.Call (.Name "dict" p) [a] [] pos)) :=
  if h : glB G sc "dict" = true ∧ noStar a = true then some ⟨.bi .dict [ca.1], fun X C o => by
    have h1 := glB_ok G N h.1 o
    exact se_dictP o.calm (by have := o.un; omega) h1.1 h1.2 h.2 (ca.2 X C o)⟩ else none
def keyEs : (es : List (Option Expr)) → Option {ks : List Str // KeyEs es ks}
  | [] => some ⟨[], .nil⟩
  | some (.Constant (.str k) kd p) :: es => (keyEs es).map fun r => ⟨k :: r.1, .cons r.2⟩
  | _ => none
abbrev RV (sc : Scope) (es : List Expr) := {cs : List Co // ∀ X C, XOk G X C N sc → SVs X C es cs}
def kIxs {sc : Scope} {es : List (Option Expr)} {values : List Expr} {k : Expr} (p1 p2 : Pos) (cs : RV G N sc values) (ck : RE G N sc k) : Option (RE G N sc (.Subscript (.Dict es values p1) k p2)) :=
  (keyEs es).bind fun ks => if h : ks.1.Nodup ∧ ks.1.length = cs.1.length ∧ (1 ≤ ks.1.length ∧ ks.1.length ≤ 15) ∧ notSlice k = true then
    some ⟨.ixs ks.1 cs.1 ck.1, fun X C o => se_ixs (by have := o.un; omega) ks.2 (cs.2 X C o) h.1 h.2.1 (fun z => by rw [z] at h; exact absurd h.2.2.1.1 (by simp)) h.2.2.1.2 (ck.2 X C o) (plainIx h.2.2.2)⟩ else none
/-- the names of targets, found by turns that are counted -/
def slF : Nat → List Tg → Option (List Nat)
  | 0, _ => none
  | n + 1, [] => some []
  | n + 1, .s i _ :: gs => (slF n gs).map (i :: ·)
  | n + 1, .t hs :: gs => (slF n hs).bind fun a => (slF n gs).map (a ++ ·)
  | n + 1, .x _ _ :: gs => slF n gs
theorem slF_ok : ∀ {n : Nat} {gs : List Tg} {l : List Nat}, slF n gs = some l → slots gs = l
  | 0, _, _, h => by cases h
  | n + 1, [], _, h => by
    cases h
    simp only [slots]
  | n + 1, .s i m :: gs, _, h => by
    unfold slF at h
    obtain ⟨a, h1, rfl⟩ := Option.map_eq_some_iff.mp h
    simp only [slots, slF_ok h1]
  | n + 1, .t hs :: gs, _, h => by
    unfold slF at h
    obtain ⟨a, h1, h2⟩ := Option.bind_eq_some_iff.mp h
    obtain ⟨b, h3, rfl⟩ := Option.map_eq_some_iff.mp h2
    simp only [slots, slF_ok h1, slF_ok h3]
  | n + 1, .x o i :: gs, _, h => by
    unfold slF at h
    simp only [slots, slF_ok h]
def subL (a : List Nat) (gs : List Tg) : Bool := match slF 30 gs with
  | some l => subsB a l
  | none => false
def subR (gs : List Tg) (b : List Nat) : Bool := match slF 30 gs with
  | some l => subsB l b
  | none => false
theorem subL_ok {a : List Nat} {gs : List Tg} (h : subL a gs = true) : ∀ i ∈ a, i ∈ slots gs := by
  unfold subL at h
  cases e : slF 30 gs with
  | none => rw [e] at h; cases h
  | some l =>
    rw [e] at h
    rw [slF_ok e]
    exact subsB_ok h
theorem subR_ok {b : List Nat} {gs : List Tg} (h : subR gs b = true) : ∀ i ∈ slots gs, i ∈ b := by
  unfold subR at h
  cases e : slF 30 gs with
  | none => rw [e] at h; cases h
  | some l =>
    rw [e] at h
    rw [slF_ok e]
    exact subsB_ok h
theorem slots_two {g h : Tg} : slots [g, h] = slots [g] ++ slots [h] := by
  cases g <;> simp [slots]
def kLenSc {sc scope : Scope} {elt tg it : Expr} {ifs : List Expr} (p pc pos : Pos) (w : RI G N sc tg it) (g : RG G N scope tg) (ts : RQ G N scope ifs) (c : RE G N scope elt) : Option (RE G N sc (.Call (.Name "len" p) [.SetComp elt [⟨tg, it, ifs, 0⟩] scope pc] [] pos)) :=
  if h : (blkC N sc scope (ownOf N scope) = true ∧ subL ((ownOf N scope).map (·.2)) [g.1] = true ∧ subR [g.1] ((ownOf N scope).map (·.2)) = true ∧ notSet it = true) ∧ glB G sc "len" = true then
    some ⟨.sc .lenSet g.1 w.1 ts.1 c.1, fun X C o => by
      have h1 := glB_ok G N h.2 o
      exact se_lenSc h1.1 h1.2 o.calm o.nd (w.2 X C o) (o.blkOk h.1.1) (subL_ok h.1.2.1) (subR_ok h.1.2.2.1) (fun s H D cl fp => g.2 _ C (o.blk s H D cl fp)) (fun s H D cl fp => ts.2 _ C (o.blk s H D cl fp))
        (fun s H D cl fp => c.2 _ C (o.blk s H D cl fp)) fun x => noFold h.1.2.2.2⟩
  else none
/-- a comprehension of one clause: how it lies in its block -/
def kLc {sc scope : Scope} {elt tg it : Expr} {ifs : List Expr} (pc : Pos) (w : RI G N sc tg it) (g : RG G N scope tg) (ts : RQ G N scope ifs) (c : RE G N scope elt) : Option (RE G N sc (.ListComp elt [⟨tg, it, ifs, 0⟩] scope pc)) :=
  if h : blkC N sc scope (ownOf N scope) = true ∧ subL ((ownOf N scope).map (·.2)) [g.1] = true ∧ subR [g.1] ((ownOf N scope).map (·.2)) = true ∧ notSet it = true then
    some ⟨.lc g.1 w.1 ts.1 c.1, fun X C o => se_lc o.calm o.nd (w.2 X C o) (o.blkOk h.1) (subL_ok h.2.1) (subR_ok h.2.2.1) (fun s H D cl fp => g.2 _ C (o.blk s H D cl fp)) (fun s H D cl fp => ts.2 _ C (o.blk s H D cl fp))
      (fun s H D cl fp => c.2 _ C (o.blk s H D cl fp)) fun x => noFold h.2.2.2⟩
  else none
def kLc2 {sc scope : Scope} {elt tg it tg1 it1 : Expr} {ifs ifs1 : List Expr} (pc : Pos) (w : RI G N sc tg it) (g : RG G N scope tg) (ts : RQ G N scope ifs) (w1 : RI G N scope tg1 it1) (g1 : RG G N scope tg1) (ts1 : RQ G N scope ifs1) (c : RE G N scope elt) :
    Option (RE G N sc (.ListComp elt [⟨tg, it, ifs, 0⟩, ⟨tg1, it1, ifs1, 0⟩] scope pc)) :=
  if h : blkC N sc scope (ownOf N scope) = true ∧ subL ((ownOf N scope).map (·.2)) [g.1, g1.1] = true ∧ subR [g.1] ((ownOf N scope).map (·.2)) = true ∧ subR [g1.1] ((ownOf N scope).map (·.2)) = true ∧ notSet it = true ∧ notSet it1 = true then
    some ⟨.lc2 g.1 w.1 ts.1 g1.1 w1.1 ts1.1 c.1, fun X C o => se_lc2 o.calm o.nd (w.2 X C o) (o.blkOk h.1) (fun i hi => List.mem_append.mp (slots_two ▸ subL_ok h.2.1 i hi)) (subR_ok h.2.2.1) (subR_ok h.2.2.2.1)
      (fun s H D cl fp => g.2 _ C (o.blk s H D cl fp)) (fun s H D cl fp => ts.2 _ C (o.blk s H D cl fp)) (fun s H D cl fp => w1.2 _ C (o.blk s H D cl fp)) (fun s H D cl fp => g1.2 _ C (o.blk s H D cl fp)) (fun s H D cl fp => ts1.2 _ C (o.blk s H D cl fp))
      (fun s H D cl fp => c.2 _ C (o.blk s H D cl fp)) (fun x => noFold h.2.2.2.2.1) fun env x => noFold h.2.2.2.2.2⟩
  else none
def kTru {sc : Scope} {e : Expr} (ce : RE G N sc e) (he : ∀ env whole, isTrue e env whole = (do let v ← whole; standAt e.pos; holding [v] (truthy v))) (hc : ∀ C env, evT C ce.1 env = bind (evE C ce.1 env) fun r => bind (look r) fun d => ofO (truD d)) : RT G N sc e :=
  ⟨ce.1, fun X C o => st_tru (he X.env) (ce.2 X C o) (hc C)⟩
/-- of which codes the test is the truth of the value -/
def truC : Co → Bool
  | .var _ => true
  | .lit _ => true
  | .call _ _ _ => true
  | .bi _ _ => true
  | .ix _ _ => true
  | _ => false
theorem bind_assocF {α β γ : Type} {x : M α} {f : α → M β} {g : β → M γ} : bind (bind x f) g = bind x (fun a => bind (f a) g) := funext fun _ => bind_assoc
theorem bind_retF {α β : Type} {a : α} {f : α → M β} : bind (ret a) f = f a := rfl
theorem look_v {β : Type} {d : PyData} {f : PyData → M β} : bind (look (.v d)) f = f d := rfl
theorem truC_ok {c : Co} (h : truC c = true) (C : Cfg) (env : Env) : evT C c env = bind (evE C c env) fun r => bind (look r) fun d => ofO (truD d) := by
  cases c <;> first | (cases h; done) | skip
  · conv => lhs; unfold evT
    conv => rhs; unfold evE
  · conv => lhs; unfold evT
    conv => rhs; unfold evE
    rfl
  · conv => lhs; unfold evT
    conv => rhs; unfold evE
    simp only [bind_assocF, bind_retF, look_v]
  · conv => lhs; unfold evT
    conv => rhs; unfold evE
  · conv => lhs; unfold evT
    conv => rhs; unfold evE
def rngOk (x : Str) : Bool := x == "range"
mutual
def cE : Nat → (sc : Scope) → (e : Expr) → Option (RE G N sc e)
  | 0, _, _ => none
  | n + 1, sc, .Name x p => cName G N sc x p
  | n + 1, sc, .Constant c k p => cConst G N sc c k p
  | n + 1, sc, .Tuple es k p => (cL n sc es).bind fun cs => kTup G N k p cs
  | n + 1, sc, .List es p => (cL n sc es).bind fun cs => kLst G N p cs
  | n + 1, sc, .BinOp a op b p => (cE n sc a).bind fun ca => (cE n sc b).bind fun cb => kBin G N op p ca cb
  | n + 1, sc, .UnaryOp .USub a p => (cE n sc a).bind fun ca => some ⟨.neg ca.1, fun X C o => se_neg (ca.2 X C o)⟩
  | n + 1, sc, .UnaryOp .Not a p => (cE n sc a).bind fun ca => some ⟨.noT ca.1, fun X C o => se_not (ca.2 X C o)⟩
  | n + 1, sc, .BoolOp op [a] p => (cE n sc a).bind fun ca => some ⟨ca.1, fun X C o => se_one (ca.2 X C o)⟩
  | n + 1, sc, .BoolOp .And (a :: b :: rest) p => (cE n sc a).bind fun ca => (cE n sc (.BoolOp .And (b :: rest) p)).bind fun cb => some ⟨.and ca.1 cb.1, fun X C o => se_and (ca.2 X C o) (cb.2 X C o)⟩
  | n + 1, sc, .BoolOp .Or (a :: b :: rest) p => (cE n sc a).bind fun ca => (cE n sc (.BoolOp .Or (b :: rest) p)).bind fun cb => some ⟨.or ca.1 cb.1, fun X C o => se_or (ca.2 X C o) (cb.2 X C o)⟩
  | n + 1, sc, .Compare a [op] [b] p => (cE n sc a).bind fun ca => (cE n sc b).bind fun cb => kCmp G N op p ca cb
  | n + 1, sc, .Compare a [op, op2] [b, c] p => (cE n sc a).bind fun ca => (cE n sc b).bind fun cb => (cE n sc c).bind fun cc => kChn G N op op2 p ca cb cc
  | n + 1, sc, .IfExp t a b p => (cT n sc t).bind fun ct => (cE n sc a).bind fun ca => (cE n sc b).bind fun cb => some ⟨.ite ct.1 ca.1 cb.1, fun X C o => se_ite (ct.2 X C o) (ca.2 X C o) (cb.2 X C o)⟩
  | n + 1, sc, .Subscript a (.Slice lo hi none p2) p => (cE n sc a).bind fun ca => (cO n sc lo).bind fun cl => (cO n sc hi).bind fun ch => some ⟨.sl ca.1 cl.1 ch.1, fun X C o => se_sl (ca.2 X C o) (cl.2 X C o) (ch.2 X C o)⟩
  | n + 1, sc, .Subscript (.Dict es vs p1) b p => (cV n sc vs).bind fun cs => (cE n sc b).bind fun cb => kIxs G N p1 p cs cb
  | n + 1, sc, .Subscript a b p => (cE n sc a).bind fun ca => (cE n sc b).bind fun cb => kIx G N p ca cb
  | n + 1, sc, .Call (.Name x p) [] [] pos => kCall0 G N x p pos
  | n + 1, sc, .Call (.Name x p) [.SetComp elt [⟨tg, it, ifs, 0⟩] scope pc] [] pos => if h : x = ("len" : Str) then (cI n sc tg it).bind fun w => (cG G N 8 scope tg).bind fun g => (cQ n scope ifs).bind fun ts => (cE n scope elt).bind fun c => (kLenSc G N p pc pos w g ts c).map fun r => ⟨r.1, by rw [h]; exact r.2⟩ else none
  | n + 1, sc, .Call (.Name x p) [.Call (.Name y q) [a] [] pi] [] pos =>
      if h : x = ("list" : Str) ∧ y = ("range" : Str) then (cE n sc a).bind fun c => (kLrg G N p q pi pos c).map fun r => ⟨r.1, by rw [h.1, h.2]; exact r.2⟩
      else if h : x = ("len" : Str) ∧ y = ("set" : Str) then (cE n sc a).bind fun c => (kLenSet G N p q pi pos c).map fun r => ⟨r.1, by rw [h.1, h.2]; exact r.2⟩
      else (cL n sc [.Call (.Name y q) [a] [] pi]).bind fun cs => if G.free.contains x = true then cBi G N sc x p _ [] pos cs else kCall G N x p pos cs
  | n + 1, sc, .Call (.Name x p) [.Call (.Name y q) [a, b] [] pi] [] pos =>
      if h : x = ("dict" : Str) ∧ y = ("zip" : Str) then (cE n sc a).bind fun c => (cE n sc b).bind fun d => (kDictZip G N p q pi pos c d).map fun r => ⟨r.1, by rw [h.1, h.2]; exact r.2⟩
      else (cL n sc [.Call (.Name y q) [a, b] [] pi]).bind fun cs => if G.free.contains x = true then cBi G N sc x p _ [] pos cs else kCall G N x p pos cs
  | n + 1, sc, .Call (.Name x p) [.ListComp elt gs scope pc] [] pos =>
      if h : x = ("dict" : Str) then (cE n sc (.ListComp elt gs scope pc)).bind fun c => (kDictP G N p pos c).map fun r => ⟨r.1, by rw [h]; exact r.2⟩
      else (cL n sc [.ListComp elt gs scope pc]).bind fun cs => if G.free.contains x = true then cBi G N sc x p _ [] pos cs else kCall G N x p pos cs
  | n + 1, sc, .Call (.Name x p) [a, .Name y q] [] pos => if h : x = ("isinstance" : Str) then (cE n sc a).bind fun c => (kIsi G N y p q pos c).map fun r => ⟨r.1, by rw [h]; exact r.2⟩
      else (cL n sc [a, .Name y q]).bind fun cs => if G.free.contains x = true then cBi G N sc x p _ _ pos cs else kCall G N x p pos cs
  | n + 1, sc, .Call (.Name x p) (e :: es) [] pos => (cL n sc (e :: es)).bind fun cs => if G.free.contains x = true then cBi G N sc x p e es pos cs else kCall G N x p pos cs
  | n + 1, sc, .Call (.Name x p) [] kws pos => (cK n sc kws).bind fun ds => kCallK0 G N x p pos ds
  | n + 1, sc, .Call (.Name x p) (e :: es) kws pos => (cL n sc (e :: es)).bind fun cs => (cK n sc kws).bind fun ds => kCallK G N x p pos cs ds
  | n + 1, sc, .Call (.Attribute b name apos) [a] [] pos => (cE n sc b).bind fun cb => (cE n sc a).bind fun ca => kMt1 G N name apos pos cb ca
  | n + 1, sc, .Call (.Attribute b name apos) [] [] pos => (cE n sc b).bind fun cb => kMt0 G N name apos pos cb
  | n + 1, sc, .ListComp elt [⟨tg, it, ifs, 0⟩] scope pc => (cI n sc tg it).bind fun w => (cG G N 8 scope tg).bind fun g => (cQ n scope ifs).bind fun ts => (cE n scope elt).bind fun c => kLc G N pc w g ts c
  | n + 1, sc, .ListComp elt [⟨tg, it, ifs, 0⟩, ⟨tg1, it1, ifs1, 0⟩] scope pc => (cI n sc tg it).bind fun w => (cG G N 8 scope tg).bind fun g => (cQ n scope ifs).bind fun ts =>
      (cI n scope tg1 it1).bind fun w1 => (cG G N 8 scope tg1).bind fun g1 => (cQ n scope ifs1).bind fun ts1 => (cE n scope elt).bind fun c => kLc2 G N pc w g ts w1 g1 ts1 c
  | _ + 1, sc, _ => some ⟨.dsp [], fun X C o => se_dead⟩
def cL : Nat → (sc : Scope) → (es : List Expr) → Option (RL G N sc es)
  | 0, _, _ => none
  | n + 1, sc, [] => some ⟨[], fun X C o => ⟨sas_nil, sts_nil, srs_nil⟩⟩
  | n + 1, sc, e :: es => if h : noStar e = true then (cE n sc e).bind fun c => (cL n sc es).bind fun cs => some ⟨c.1 :: cs.1, fun X C o => ⟨sas_cons h (c.2 X C o) (cs.2 X C o).1, sts_cons h (c.2 X C o) (cs.2 X C o).2.1, srs_cons h (c.2 X C o) (cs.2 X C o).2.2⟩⟩ else none
def cV : Nat → (sc : Scope) → (es : List Expr) → Option (RV G N sc es)
  | 0, _, _ => none
  | n + 1, sc, [] => some ⟨[], fun X C o => .nil⟩
  | n + 1, sc, e :: es => (cE n sc e).bind fun c => (cV n sc es).bind fun cs => some ⟨c.1 :: cs.1, fun X C o => .cons (c.2 X C o) (cs.2 X C o)⟩
def cO : Nat → (sc : Scope) → (e : Option Expr) → Option (RO G N sc e)
  | 0, _, _ => none
  | n + 1, sc, none => some ⟨[], fun X C o => spo_none⟩
  | n + 1, sc, some e => (cE n sc e).bind fun c => some ⟨[c.1], fun X C o => spo_some (c.2 X C o)⟩
def cQ : Nat → (sc : Scope) → (es : List Expr) → Option (RQ G N sc es)
  | 0, _, _ => none
  | n + 1, sc, [] => some ⟨[], fun X C o => sq_nil⟩
  | n + 1, sc, [e] => (cT n sc e).bind fun c => some ⟨[c.1], fun X C o => sq_one (c.2 X C o)⟩
  | _ + 1, _, _ => none
def cK : Nat → (sc : Scope) → (kws : List Keyword) → Option (RK G N sc kws)
  | 0, _, _ => none
  | n + 1, sc, [] => some ⟨[], fun X C o => sks_nil⟩
  | n + 1, sc, ⟨nm, e, kp⟩ :: kws => (cE n sc e).bind fun c => (cK n sc kws).bind fun cs => some ⟨c.1 :: cs.1, fun X C o => sks_cons (c.2 X C o) (cs.2 X C o)⟩
def cT : Nat → (sc : Scope) → (e : Expr) → Option (RT G N sc e)
  | 0, _, _ => none
  | n + 1, sc, .UnaryOp .Not a p => (cT n sc a).bind fun ca => some ⟨.noT ca.1, fun X C o => st_not (ca.2 X C o)⟩
  | n + 1, sc, .BoolOp op vs p => (cW n sc (.BoolOp op vs p)).bind fun c => some ⟨c.1, fun X C o => (c.2 X C o).st⟩
  | n + 1, sc, .Compare a [op] [b] p => (cE n sc a).bind fun ca => (cE n sc b).bind fun cb => kCmpT G N op p ca cb
  | n + 1, sc, .Compare a [op, op2] [b, c] p => (cE n sc a).bind fun ca => (cE n sc b).bind fun cb => (cE n sc c).bind fun cc => kChnT G N op op2 p ca cb cc
  | n + 1, sc, .Name x p => (cE n sc (.Name x p)).bind fun c => if h : truC c.1 = true then some (kTru G N c (fun _ _ => rfl) (truC_ok h)) else none
  | n + 1, sc, .Constant x k p => (cE n sc (.Constant x k p)).bind fun c => if h : truC c.1 = true then some (kTru G N c (fun _ _ => rfl) (truC_ok h)) else none
  | n + 1, sc, .Call f es ks p => (cE n sc (.Call f es ks p)).bind fun c => if h : truC c.1 = true then some (kTru G N c (fun _ _ => rfl) (truC_ok h)) else none
  | n + 1, sc, .Subscript a b p => (cE n sc (.Subscript a b p)).bind fun c => if h : truC c.1 = true then some (kTru G N c (fun _ _ => rfl) (truC_ok h)) else none
  | _ + 1, sc, _ => some ⟨.dsp [], fun X C o => st_dead⟩
def cW : Nat → (sc : Scope) → (e : Expr) → Option (RW G N sc e)
  | 0, _, _ => none
  | n + 1, sc, .BoolOp .And [a] p => (cT n sc a).bind fun ca => some ⟨ca.1, fun X C o => stw_and1 (ca.2 X C o)⟩
  | n + 1, sc, .BoolOp .Or [a] p => (cT n sc a).bind fun ca => some ⟨ca.1, fun X C o => stw_or1 (ca.2 X C o)⟩
  | n + 1, sc, .BoolOp .And (a :: b :: rest) p => (cT n sc a).bind fun ca => (cW n sc (.BoolOp .And (b :: rest) p)).bind fun cb => some ⟨.and ca.1 cb.1, fun X C o => stw_and (ca.2 X C o) (cb.2 X C o)⟩
  | n + 1, sc, .BoolOp .Or (a :: b :: rest) p => (cT n sc a).bind fun ca => (cW n sc (.BoolOp .Or (b :: rest) p)).bind fun cb => some ⟨.or ca.1 cb.1, fun X C o => stw_or (ca.2 X C o) (cb.2 X C o)⟩
  | _ + 1, _, _ => none
def cI : Nat → (sc : Scope) → (tg it : Expr) → Option (RI G N sc tg it)
  | 0, _, _, _ => none
  | n + 1, sc, tg, .Call (.Name x p) [a] [] pos =>
      if h : x = ("range" : Str) ∧ G.free.contains ("range" : Str) = true ∧ sc.names.lookup ("range" : Str) = some .globalImplicit ∧ noStar a = true then (cL n sc [a]).bind fun cs => match cs with
        | ⟨[c], hc⟩ => some ⟨.rng [c], fun X C o => by
          obtain ⟨h1, h2, h3, h4⟩ := h
          subst h1
          exact si_rng1 (o.gl h3) (o.g.free _ h2) h4 (hc X C o).2.2⟩
        | _ => none
      else if h : x = ("enumerate" : Str) ∧ G.free.contains ("enumerate" : Str) = true ∧ sc.names.lookup ("enumerate" : Str) = some .globalImplicit ∧ noStar a = true then (cE n sc a).bind fun c => match tg with
        | .Tuple es k tp => some ⟨.enum c.1, fun X C o => by
          obtain ⟨h1, h2, h3, h4⟩ := h
          subst h1
          exact si_enum (o.gl h3) (o.g.free _ h2) h4 (c.2 X C o)⟩
        | _ => none
      else (cE n sc (.Call (.Name x p) [a] [] pos)).bind fun c => some ⟨.seq c.1, fun X C o => si_seq (c.2 X C o)⟩
  | n + 1, sc, tg, .Call (.Name x p) [a, b] [] pos =>
      if h : x = ("range" : Str) ∧ G.free.contains ("range" : Str) = true ∧ sc.names.lookup ("range" : Str) = some .globalImplicit ∧ noStar a = true ∧ noStar b = true then (cL n sc [a, b]).bind fun cs => match cs with
        | ⟨[c, d], hc⟩ => some ⟨.rng [c, d], fun X C o => by
          obtain ⟨h1, h2, h3, h4, h5⟩ := h
          subst h1
          exact si_rng2 (o.gl h3) (o.g.free _ h2) h4 h5 (hc X C o).2.2⟩
        | _ => none
      else if h : x = ("zip" : Str) ∧ G.free.contains ("zip" : Str) = true ∧ sc.names.lookup ("zip" : Str) = some .globalImplicit ∧ noStar a = true ∧ noStar b = true then (cE n sc a).bind fun c => (cE n sc b).bind fun d => match tg with
        | .Tuple es k tp => some ⟨.zip c.1 d.1, fun X C o => by
          obtain ⟨h1, h2, h3, h4, h5⟩ := h
          subst h1
          exact si_zip (o.gl h3) (o.g.free _ h2) h4 h5 (c.2 X C o) (d.2 X C o)⟩
        | _ => none
      else (cE n sc (.Call (.Name x p) [a, b] [] pos)).bind fun c => some ⟨.seq c.1, fun X C o => si_seq (c.2 X C o)⟩
  | n + 1, sc, tg, it => (cE n sc it).bind fun c => some ⟨.seq c.1, fun X C o => si_seq (c.2 X C o)⟩
end
end
end Vm

set_option Elab.async false
set_option linter.all false
set_option maxRecDepth 100000
set_option maxHeartbeats 8000000
/-! Vm: from the text to the code: statements. -/
namespace Vm
open PySem PySem.Spec PyProof.Rows L2
structure DOk (G : Gc) (X : Cx) (C : Cfg) (N : List Str) (sc : Scope) : Prop where
  x : XOk G X C N sc
  es : X.env.scope = sc
  po : PassesOwn (model X.prog X.w) X.A X.env X.xe
theorem ss_dead {X : Cx} {C : Cfg} {st : Stmt} : SS X C st .rse := fun env s => PS.ff fun D σ H h => by
  obtain ⟨ρ, Hf, w, eo, h⟩ := h
  unfold evS at h
  exact h
/-- whether a comprehension is stored as it is made -/
def swL (sc scope : Scope) (x : Str) (px pc : Pos) : Bool := swK sc == .function && sc.names.lookup x == some .local && px.line == pc.line && !(scope.names.any fun p => p.1 == x && (p.2 == .local || p.2 == .cell))
theorem swapL {elt : Expr} {gs : List Comprehension} {scope sc : Scope} {pc px : Pos} {x : Str} {l : Nat} {env : PySem.Env} (hs : env.scope = sc) : swapsWith (.ListComp elt gs scope pc) (some (.Name x px)) l env = pure (swL sc scope x px pc) := by
  subst hs
  kernel_rfl
theorem noSwapS {tg e : Expr} {l : Nat} {env : PySem.Env} (h : notComp e = true) : swapsWithSole [tg] e l env = pure false := noSwap (t := some tg) h
theorem fm_two {α β : Type} {f : α → Option β} {a b : α} (h : f a = none) : ((List.filterMap f [a, b]).length != [a, b].length) = true := by
  rw [List.filterMap_cons, h]
  show ((List.filterMap f [b]).length != 2) = true
  rw [List.filterMap_cons]
  cases f b <;> rfl
/-- a tuple among the targets: through a real tuple -/
theorem noParN {es1 : List Expr} {t2 e : Expr} {k k1 : Nat} {p p1 : Pos} {env : PySem.Env} : swappedStores [.Tuple [.Tuple es1 k1 p1, t2] k p] e env = pure none := by
  cases e <;> first | rfl | skip
  rename_i vs k3 p3
  unfold swappedStores
  dsimp only
  split
  · rfl
  · split
    · rfl
    · rw [if_pos]
      rw [Bool.or_eq_true]
      exact .inl (fm_two rfl)
section
variable (G : Gc) (N : List Str) (mu : List Str)
section
variable (sc : Scope)
abbrev RS (st : Stmt) := {c : Sm // ∀ X C, DOk G X C N sc → SS X C st c}
abbrev RSs (st : List Stmt) := {c : List Sm // ∀ X C, DOk G X C N sc → SSs X C st c}
abbrev RU (es : List Expr) := {gs : List Tg // ∀ X C, XOk G X C N sc → PGs X es (gRun X.K C gs)}
end
def nmOk (sc : Scope) (x : Str) : Bool := isLoc sc x && N[ixOf N x]? == some x
theorem nmOk_ok {sc : Scope} {x : Str} (h : nmOk N sc x = true) : isLoc sc x = true ∧ N[ixOf N x]? = some x := by
  unfold nmOk at h
  rw [Bool.and_eq_true, beq_iff_eq] at h
  exact h
def kSet {sc : Scope} {e : Expr} (x : Str) (px pos : Pos) (c : RE G N sc e) : Option (RS G N sc (.Assign [.Name x px] e pos)) :=
  if h : nmOk N sc x = true ∧ notComp e = true then some ⟨.set (.s (ixOf N x) (mu.contains x)) c.1, fun X C o => by
    obtain ⟨h1, h2⟩ := nmOk_ok N h.1
    obtain ⟨k, h3, h4⟩ := isLoc_ok h1
    exact ss_set o.x.nd (by rw [o.x.N]; exact h2) (o.x.loc h3 h4) (c.2 X C o.x) (noSwap h.2) (o.x.fnl h3 h4)⟩ else none
/-- a comprehension that is a value ahead -/
def kSetV {sc scope : Scope} {elt : Expr} {gs : List Comprehension} {pc : Pos} (x : Str) (px pos : Pos) (c : RE G N sc (.ListComp elt gs scope pc)) : Option (RS G N sc (.Assign [.Name x px] (.ListComp elt gs scope pc) pos)) :=
  if h : nmOk N sc x = true ∧ swL sc scope x px pc = false then some ⟨.set (.s (ixOf N x) (mu.contains x)) c.1, fun X C o => by
    obtain ⟨h1, h2⟩ := nmOk_ok N h.1
    obtain ⟨k, h3, h4⟩ := isLoc_ok h1
    exact ss_set o.x.nd (by rw [o.x.N]; exact h2) (o.x.loc h3 h4) (c.2 X C o.x) (by rw [swapL o.es, h.2]) (o.x.fnl h3 h4)⟩ else none
def kSetLc {sc scope : Scope} {elt tg it : Expr} {ifs : List Expr} (x : Str) (px pos pc : Pos) (w : RI G N sc tg it) (g : RG G N scope tg) (ts : RQ G N scope ifs) (c : RE G N scope elt) : Option (RS G N sc (.Assign [.Name x px] (.ListComp elt [⟨tg, it, ifs, 0⟩] scope pc) pos)) :=
  if h : blkC N sc scope (ownOf N scope) = true ∧ subL ((ownOf N scope).map (·.2)) [g.1] = true ∧ subR [g.1] ((ownOf N scope).map (·.2)) = true ∧ notSet it = true ∧ N[ixOf N x]? = some x ∧ sc.names.lookup x = some .local ∧ swL sc scope x px pc = true then
    some ⟨.set (.s (ixOf N x) (mu.contains x)) (.lc g.1 w.1 ts.1 c.1), fun X C o => ss_setLc o.x.calm o.x.nd (by rw [o.x.N]; exact h.2.2.2.2.1) (o.x.kind h.2.2.2.2.2.1 fun z => by cases z) (by rw [swapL o.es, h.2.2.2.2.2.2]) (w.2 X C o.x) (o.x.blkOk h.1) (subL_ok h.2.1) (subR_ok h.2.2.1)
      (fun s H D cl fp => g.2 _ C (o.x.blk s H D cl fp)) (fun s H D cl fp => ts.2 _ C (o.x.blk s H D cl fp)) (fun s H D cl fp => c.2 _ C (o.x.blk s H D cl fp)) fun x => noFold h.2.2.2.1⟩
  else none
def kSetLc2 {sc scope : Scope} {elt tg it tg1 it1 : Expr} {ifs ifs1 : List Expr} (x : Str) (px pos pc : Pos) (w : RI G N sc tg it) (g : RG G N scope tg) (ts : RQ G N scope ifs) (w1 : RI G N scope tg1 it1) (g1 : RG G N scope tg1) (ts1 : RQ G N scope ifs1) (c : RE G N scope elt) :
    Option (RS G N sc (.Assign [.Name x px] (.ListComp elt [⟨tg, it, ifs, 0⟩, ⟨tg1, it1, ifs1, 0⟩] scope pc) pos)) :=
  if h : (blkC N sc scope (ownOf N scope) = true ∧ subL ((ownOf N scope).map (·.2)) [g.1, g1.1] = true ∧ subR [g.1] ((ownOf N scope).map (·.2)) = true ∧ subR [g1.1] ((ownOf N scope).map (·.2)) = true ∧ notSet it = true ∧ notSet it1 = true) ∧ N[ixOf N x]? = some x ∧ sc.names.lookup x = some .local ∧ swL sc scope x px pc = true then
    some ⟨.set (.s (ixOf N x) (mu.contains x)) (.lc2 g.1 w.1 ts.1 g1.1 w1.1 ts1.1 c.1), fun X C o => ss_setLc2 o.x.calm o.x.nd (by rw [o.x.N]; exact h.2.1) (o.x.kind h.2.2.1 fun z => by cases z) (by rw [swapL o.es, h.2.2.2]) (w.2 X C o.x) (o.x.blkOk h.1.1)
      (fun i hi => List.mem_append.mp (slots_two ▸ subL_ok h.1.2.1 i hi)) (subR_ok h.1.2.2.1) (subR_ok h.1.2.2.2.1)
      (fun s H D cl fp => g.2 _ C (o.x.blk s H D cl fp)) (fun s H D cl fp => ts.2 _ C (o.x.blk s H D cl fp)) (fun s H D cl fp => w1.2 _ C (o.x.blk s H D cl fp)) (fun s H D cl fp => g1.2 _ C (o.x.blk s H D cl fp)) (fun s H D cl fp => ts1.2 _ C (o.x.blk s H D cl fp))
      (fun s H D cl fp => c.2 _ C (o.x.blk s H D cl fp)) (fun x => noFold h.1.2.2.2.2.1) fun env x => noFold h.1.2.2.2.2.2⟩
  else none
def kItem {sc : Scope} {e a i : Expr} (po pos : Pos) (c : RE G N sc e) (ca : RE G N sc a) (ci : RE G N sc i) : Option (RS G N sc (.Assign [.Subscript a i po] e pos)) :=
  if h : notComp e = true ∧ notSlice i = true then some ⟨.set (.x ca.1 ci.1) c.1, fun X C o => ss_item (c.2 X C o.x) (ca.2 X C o.x) (ci.2 X C o.x) (noSwapS h.1) (noParT rfl) rfl (itemAsg h.2)⟩ else none
def kTupA {sc : Scope} {e : Expr} {es : List Expr} {k : Nat} {p : Pos} (pos : Pos) (c : RE G N sc e) (g : RG G N sc (.Tuple es k p)) : Option (RS G N sc (.Assign [.Tuple es k p] e pos)) :=
  match h2 : g.1 with
  | .t gs => if h : notComp e = true ∧ notTup e = true then some ⟨.set (.t gs) c.1, fun X C o => ss_tup (c.2 X C o.x) (by have q := g.2 X C o.x; rw [h2] at q; exact q) (noSwapS h.1) (noPar h.2) rfl⟩ else none
  | _ => none
def kTupN {sc : Scope} {vs es1 : List Expr} {t2 : Expr} {k k1 k3 : Nat} {p p1 p3 : Pos} (pos : Pos) (c : RE G N sc (.Tuple vs k3 p3)) (g : RG G N sc (.Tuple [.Tuple es1 k1 p1, t2] k p)) : Option (RS G N sc (.Assign [.Tuple [.Tuple es1 k1 p1, t2] k p] (.Tuple vs k3 p3) pos)) :=
  match h2 : g.1 with
  | .t gs => some ⟨.set (.t gs) c.1, fun X C o => ss_tup (c.2 X C o.x) (by have q := g.2 X C o.x; rw [h2] at q; exact q) (noSwapS rfl) noParN rfl⟩
  | _ => none
def kUnp {sc : Scope} {e : Expr} {es : List Expr} {k : Nat} {p : Pos} (pos : Pos) (c : RE G N sc e) (g : RU G N sc es) : Option (RS G N sc (.Assign [.Tuple es k p] e pos)) :=
  if h : notComp e = true ∧ notTup e = true ∧ es.all noStar = true ∧ es.length = g.1.length then some ⟨.unp g.1 c.1, fun X C o => ss_unp (c.2 X C o.x) o.x.calm (g.2 X C o.x) (each_len.trans h.2.2.2) (each_plain h.2.2.1) (noSwapS h.1) (noPar h.2.1) rfl⟩ else none
def kPar2 {sc : Scope} {a b : Expr} (x y : Str) (px py pt pt2 pos : Pos) (kt k2 : Nat) (cs : RL G N sc [a, b]) : Option (RS G N sc (.Assign [.Tuple [.Name x px, .Name y py] kt pt] (.Tuple [a, b] k2 pt2) pos)) :=
  if h : nmOk N sc x = true ∧ nmOk N sc y = true ∧ ixOf N x ≠ ixOf N y then
    if h1 : swC sc [.Name x px, .Name y py] [a, b] = true ∧ namesOf sc [.Name x px, .Name y py] = [x, y] ∧ sc.names.lookup x = some .local ∧ sc.names.lookup y = some .local then
      some ⟨.par [(ixOf N x, mu.contains x), (ixOf N y, mu.contains y)] cs.1, fun X C o => by
        have nx := nmOk_ok N h.1
        have ny := nmOk_ok N h.2.1
        exact ss_par2 o.x.calm o.x.nd (by rw [o.x.N]; exact nx.2) (by rw [o.x.N]; exact ny.2) h.2.2 (o.x.kind h1.2.2.1 fun z => by cases z) (o.x.kind h1.2.2.2 fun z => by cases z) (cs.2 X C o.x).1 (by rw [swapped_yes o.es h1.1, h1.2.1])⟩
    else if h1 : swN sc [.Name x px, .Name y py] [a, b] = true then
      some ⟨.par [(ixOf N x, mu.contains x), (ixOf N y, mu.contains y)] cs.1, fun X C o => by
        have nx := nmOk_ok N h.1
        have ny := nmOk_ok N h.2.1
        obtain ⟨kx, x3, x4⟩ := isLoc_ok nx.1
        obtain ⟨ky, y3, y4⟩ := isLoc_ok ny.1
        have gx : PG X (.Name x px) (gName (ixOf N x)) := pg_name o.x.nd (by rw [o.x.N]; exact nx.2) (o.x.loc x3 x4) (o.x.fnl x3 x4)
        have gy : PG X (.Name y py) (gName (ixOf N y)) := pg_name o.x.nd (by rw [o.x.N]; exact ny.2) (o.x.loc y3 y4) (o.x.fnl y3 y4)
        exact ss_par2T (pg_tup o.x.calm (pgs_cons gx (pgs_cons gy pgs_nil))) (cs.2 X C o.x).1 (noSwapS rfl) (swapped_no o.es h1) rfl⟩
    else none
  else none
def kPar3 {sc : Scope} {a b e : Expr} (x y z : Str) (px py pz pt pt2 pos : Pos) (kt k2 : Nat) (cs : RL G N sc [a, b, e]) : Option (RS G N sc (.Assign [.Tuple [.Name x px, .Name y py, .Name z pz] kt pt] (.Tuple [a, b, e] k2 pt2) pos)) :=
  if h : nmOk N sc x = true ∧ nmOk N sc y = true ∧ nmOk N sc z = true ∧ ixOf N x ≠ ixOf N y ∧ ixOf N x ≠ ixOf N z ∧ ixOf N y ≠ ixOf N z then
    if h1 : swC sc [.Name x px, .Name y py, .Name z pz] [a, b, e] = true ∧ namesOf sc [.Name x px, .Name y py, .Name z pz] = [x, y, z] ∧ sc.names.lookup x = some .local ∧ sc.names.lookup y = some .local ∧ sc.names.lookup z = some .local then
      some ⟨.par [(ixOf N x, mu.contains x), (ixOf N y, mu.contains y), (ixOf N z, mu.contains z)] cs.1, fun X C o => by
        have nx := nmOk_ok N h.1
        have ny := nmOk_ok N h.2.1
        have nz := nmOk_ok N h.2.2.1
        exact ss_par3 o.x.calm o.x.nd (by rw [o.x.N]; exact nx.2) (by rw [o.x.N]; exact ny.2) (by rw [o.x.N]; exact nz.2) h.2.2.2.1 h.2.2.2.2.1 h.2.2.2.2.2 (o.x.kind h1.2.2.1 fun z => by cases z) (o.x.kind h1.2.2.2.1 fun z => by cases z) (o.x.kind h1.2.2.2.2 fun z => by cases z) (cs.2 X C o.x).1 (by rw [swapped_yes o.es h1.1, h1.2.1])⟩
    else if h1 : swN sc [.Name x px, .Name y py, .Name z pz] [a, b, e] = true then
      some ⟨.par [(ixOf N x, mu.contains x), (ixOf N y, mu.contains y), (ixOf N z, mu.contains z)] cs.1, fun X C o => by
        have nx := nmOk_ok N h.1
        have ny := nmOk_ok N h.2.1
        have nz := nmOk_ok N h.2.2.1
        obtain ⟨kx, x3, x4⟩ := isLoc_ok nx.1
        obtain ⟨ky, y3, y4⟩ := isLoc_ok ny.1
        obtain ⟨kz, z3, z4⟩ := isLoc_ok nz.1
        have gx : PG X (.Name x px) (gName (ixOf N x)) := pg_name o.x.nd (by rw [o.x.N]; exact nx.2) (o.x.loc x3 x4) (o.x.fnl x3 x4)
        have gy : PG X (.Name y py) (gName (ixOf N y)) := pg_name o.x.nd (by rw [o.x.N]; exact ny.2) (o.x.loc y3 y4) (o.x.fnl y3 y4)
        have gz : PG X (.Name z pz) (gName (ixOf N z)) := pg_name o.x.nd (by rw [o.x.N]; exact nz.2) (o.x.loc z3 z4) (o.x.fnl z3 z4)
        exact ss_par3T (pg_tup o.x.calm (pgs_cons gx (pgs_cons gy (pgs_cons gz pgs_nil)))) (cs.2 X C o.x).1 (noSwapS rfl) (swapped_no o.es h1) rfl⟩
    else none
  else none
def kAug {sc : Scope} {e : Expr} (x : Str) (px pos : Pos) (op : Operator) (c : RE G N sc e) : Option (RS G N sc (.AugAssign (.Name x px) op e pos)) :=
  if h : nmOk N sc x = true then match op with
    | .Add => some ⟨.aug (ixOf N x) .add c.1, fun X C o => by
      obtain ⟨h1, h2⟩ := nmOk_ok N h
      obtain ⟨k, h3, h4⟩ := isLoc_ok h1
      exact ss_aug o.x.nd (by rw [o.x.N]; exact h2) (o.x.loc h3 h4) ip_add (fun _ _ => rfl) (c.2 X C o.x) (o.x.fnl h3 h4)⟩
    | .Sub => some ⟨.aug (ixOf N x) .sub c.1, fun X C o => by
      obtain ⟨h1, h2⟩ := nmOk_ok N h
      obtain ⟨k, h3, h4⟩ := isLoc_ok h1
      exact ss_aug o.x.nd (by rw [o.x.N]; exact h2) (o.x.loc h3 h4) ip_sub (fun _ _ => rfl) (c.2 X C o.x) (o.x.fnl h3 h4)⟩
    | _ => none
  else none
/-- targets one behind another -/
def cU : Nat → (sc : Scope) → (es : List Expr) → Option (RU G N sc es)
  | 0, _, _ => none
  | n + 1, sc, [] => some ⟨[], fun X C o => gs_nil⟩
  | n + 1, sc, .Name x p :: es => if h : nmOk N sc x = true then (cU n sc es).bind fun gs => some ⟨.s (ixOf N x) false :: gs.1, fun X C o => by
      obtain ⟨h1, h2⟩ := nmOk_ok N h
      obtain ⟨k, h3, h4⟩ := isLoc_ok h1
      exact gs_name (pg_name o.nd (by rw [o.N]; exact h2) (o.loc h3 h4) (o.fnl h3 h4)) (gs.2 X C o) (each_cons rfl)⟩ else none
  | n + 1, sc, .Subscript a i p :: es => if h : notSlice i = true then (cE G N n sc a).bind fun ca => (cE G N n sc i).bind fun ci => (cU n sc es).bind fun gs => some ⟨.x ca.1 ci.1 :: gs.1, fun X C o =>
      gs_item (ca.2 X C o) (ci.2 X C o) (itemAsg h) (gs.2 X C o) (each_cons rfl)⟩ else none
  | _ + 1, _, _ => none
mutual
def cS : Nat → (sc : Scope) → (st : Stmt) → Option (RS G N sc st)
  | 0, _, _ => none
  | n + 1, sc, .Pass p => some ⟨.pas, fun X C o => ss_pass⟩
  | n + 1, sc, .Break p => some ⟨.brk, fun X C o => ss_break⟩
  | n + 1, sc, .Continue p => some ⟨.cnt, fun X C o => ss_cont⟩
  | n + 1, sc, .Expr (.Constant (.str x) k p) p2 => some ⟨.pas, fun X C o => ss_doc⟩
  | n + 1, sc, .Expr e p => if h : notComp e = true then (cE G N n sc e).bind fun c => some ⟨.ex c.1, fun X C o => ss_expr (c.2 X C o.x) (noSwap h)⟩ else none
  | n + 1, sc, .Return none p => some ⟨.retN, fun X C o => ss_retN⟩
  | n + 1, sc, .Return (some e) p => (cE G N n sc e).bind fun c => some ⟨.ret c.1, fun X C o => ss_ret (c.2 X C o.x)⟩
  | n + 1, sc, .If t a b p => (cT G N n sc t).bind fun c => (cSs n sc a).bind fun ca => (cSs n sc b).bind fun cb => some ⟨.ife c.1 ca.1 cb.1, fun X C o => ss_if (c.2 X C o.x) (ca.2 X C o) (cb.2 X C o)⟩
  | n + 1, sc, .While t a [] p => (cT G N n sc t).bind fun c => (cSs n sc a).bind fun ca => some ⟨.whl c.1 ca.1, fun X C o => ss_while o.po (c.2 X C o.x) (ca.2 X C o)⟩
  | n + 1, sc, .For tg it a [] p => if h : notSet it = true then (cI G N n sc tg it).bind fun w => (cG G N n sc tg).bind fun g => (cSs n sc a).bind fun ca => some ⟨.forr g.1 w.1 ca.1, fun X C o => ss_for o.po o.x.calm (w.2 X C o.x) (g.2 X C o.x) (ca.2 X C o) fun x => noFold h⟩ else none
  | n + 1, sc, .AugAssign (.Name x px) op e p => (cE G N n sc e).bind fun c => kAug G N x px p op c
  | n + 1, sc, .Assign [.Name x px] (.ListComp elt [⟨tg, it, ifs, 0⟩] scope pc) pos => if swL sc scope x px pc = true then
      (cI G N n sc tg it).bind fun w => (cG G N 8 scope tg).bind fun g => (cQ G N n scope ifs).bind fun ts => (cE G N n scope elt).bind fun c => kSetLc G N mu x px pos pc w g ts c
      else (cE G N n sc (.ListComp elt [⟨tg, it, ifs, 0⟩] scope pc)).bind fun c => kSetV G N mu x px pos c
  | n + 1, sc, .Assign [.Name x px] (.ListComp elt [⟨tg, it, ifs, 0⟩, ⟨tg1, it1, ifs1, 0⟩] scope pc) pos => if swL sc scope x px pc = true then
      (cI G N n sc tg it).bind fun w => (cG G N 8 scope tg).bind fun g => (cQ G N n scope ifs).bind fun ts => (cI G N n scope tg1 it1).bind fun w1 => (cG G N 8 scope tg1).bind fun g1 => (cQ G N n scope ifs1).bind fun ts1 => (cE G N n scope elt).bind fun c => kSetLc2 G N mu x px pos pc w g ts w1 g1 ts1 c
      else (cE G N n sc (.ListComp elt [⟨tg, it, ifs, 0⟩, ⟨tg1, it1, ifs1, 0⟩] scope pc)).bind fun c => kSetV G N mu x px pos c
  | n + 1, sc, .Assign [.Name x px] e pos => (cE G N n sc e).bind fun c => kSet G N mu x px pos c
  | n + 1, sc, .Assign [.Subscript a i po] e pos => (cE G N n sc e).bind fun c => (cE G N n sc a).bind fun ca => (cE G N n sc i).bind fun ci => kItem G N po pos c ca ci
  | n + 1, sc, .Assign [.Tuple [.Name x px, .Name y py] kt pt] (.Tuple [a, b] k2 pt2) pos => (cL G N n sc [a, b]).bind fun cs => kPar2 G N mu x y px py pt pt2 pos kt k2 cs
  | n + 1, sc, .Assign [.Tuple [.Name x px, .Name y py, .Name z pz] kt pt] (.Tuple [a, b, e] k2 pt2) pos => (cL G N n sc [a, b, e]).bind fun cs => kPar3 G N mu x y z px py pz pt pt2 pos kt k2 cs
  | n + 1, sc, .Assign [.Tuple [.Tuple es1 k1 p1, t2] k p] (.Tuple vs k3 p3) pos => (cE G N n sc (.Tuple vs k3 p3)).bind fun c => (cG G N n sc (.Tuple [.Tuple es1 k1 p1, t2] k p)).bind fun g => kTupN G N pos c g
  | n + 1, sc, .Assign [.Tuple es k p] e pos => (cE G N n sc e).bind fun c => match cG G N n sc (.Tuple es k p) with
    | some g => kTupA G N pos c g
    | none => (cU G N n sc es).bind fun g => kUnp G N pos c g
  | _ + 1, sc, _ => some ⟨.rse, fun X C o => ss_dead⟩
def cSs : Nat → (sc : Scope) → (st : List Stmt) → Option (RSs G N sc st)
  | 0, _, _ => none
  | n + 1, sc, [] => some ⟨[], fun X C o => sss_nil⟩
  | n + 1, sc, s :: ss => (cSs n sc ss).bind fun cs => match cS n sc s with
    | some c => some ⟨c.1 :: cs.1, fun X C o => sss_cons (c.2 X C o) (cs.2 X C o)⟩
    | none => some ⟨.rse :: cs.1, fun X C o => sss_cons ss_dead (cs.2 X C o)⟩
end
end
end Vm

set_option Elab.async false
set_option linter.all false
set_option maxRecDepth 100000
set_option maxHeartbeats 4000000
/-! Vm: all defs of a text. -/
namespace Vm
open PySem PySem.Spec PyProof.Rows L2
/-- a def: its name, what the text has, its names, its code, how it is called -/
structure Dn where
  x : Str
  params : Arguments
  body : List Stmt
  scope : Scope
  ps : List Str
  N : List Str
  mu : List Str
  code : List Sm
  shs : List (Nat × List Str × List Nat)
def Dn.fd (d : Dn) : Fd := ⟨d.ps.length, d.N.length, d.code⟩
def fnsOf (tb : List Dn) : List (Str × Nat × List (Nat × List Str × List Nat)) := tb.zipIdx.map fun p => (p.1.x, p.2, p.1.shs)
/-- what binds, whatever stands behind the parameters -/
def BindP (params : Arguments) (ps : List Str) (sh : Nat × List Str × List Nat) : Prop := ∀ (x : Str) (body : List Stmt) (scope : Scope) (kV doc pm cdv ct : Value) (an : Option Addr) (us ws all : List Value), us.length = sh.1 → ws.length = sh.2.1.length → permL sh.2.2 (us ++ ws) = some all →
  bindArgs (PySem.W.fnOf x x params body scope .none kV doc pm an cdv ct) ⟨us, sh.2.1.zip ws⟩ = pure (ps.zip all)
/-- the text's own looks -/
structure Dn.Ok (G : Gc) (d : Dn) : Prop where
  sc : C8.scC d.N d.ps d.scope = true
  co : (cSs G d.N d.mu 60 d.scope d.body).map (·.1) = some d.code
  bi : ∀ sh, sh ∈ d.shs → BindP d.params d.ps sh
section
variable {P : Program} {w : World} {K : PySem.W.Frag} {mg : Str → Option Value} {base : Heap}
/-- what the module has of it -/
def Dn.At (K : PySem.W.Frag) (mg : Str → Option Value) (d : Dn) : Prop := ∃ f fd, mg d.x = some (.ref f) ∧ FunD K d.x d.x d.params d.body d.scope [] [] f fd
theorem lookup_fns : ∀ {tb : List Dn} {x : Str} {i : Nat} {shs : List (Nat × List Str × List Nat)}, (fnsOf tb).lookup x = some (i, shs) → ∃ d, tb[i]? = some d ∧ d.x = x ∧ d.shs = shs := by
  intro tb x i shs h
  have m : ∀ (l : List (Dn × Nat)), (l.map fun p => (p.1.x, p.2, p.1.shs)).lookup x = some (i, shs) → ∃ d, (d, i) ∈ l ∧ d.x = x ∧ d.shs = shs := by
    intro l
    induction l with
    | nil => intro h; cases h
    | cons p l ih =>
      intro h
      rw [List.map_cons, List.lookup_cons] at h
      cases e : x == p.1.x with
      | true =>
        rw [e] at h
        have h : some (p.2, p.1.shs) = some (i, shs) := h
        cases h
        exact ⟨p.1, List.mem_cons_self, (eq_of_beq e).symm, rfl⟩
      | false =>
        rw [e] at h
        obtain ⟨d, h1, h2⟩ := ih h
        exact ⟨d, List.mem_cons_of_mem _ h1, h2⟩
  obtain ⟨d, h1, h2, h3⟩ := m _ h
  exact ⟨d, List.mem_zipIdx_iff_getElem?.mp h1, h2, h3⟩
/-- the rest of what a context knows -/
structure MOk (G : Gc) (K : PySem.W.Frag) (mg : Str → Option Value) : Prop where
  con : ∀ x d, G.con.lookup x = some d → ∃ v u, mg x = some u ∧ RelV v u ∧ ∀ H, Rep K H v d
  tup : ∀ x ds, G.tup.lookup x = some ds → ∃ a xs, mg x = some (.ref a) ∧ (∀ H, SqT K H a xs) ∧ ∀ H, Reps K H xs ds
  free : ∀ x, G.free.contains x = true → mg x = none
theorem bind_of {d : Dn} {f : Addr} {fd : FuncData} {sh : Nat × List Str × List Nat} (h2 : FunD K d.x d.x d.params d.body d.scope [] [] f fd) (hb : BindP d.params d.ps sh) : BindOk K fd d.ps sh.1 sh.2.1 sh.2.2 := by
  obtain ⟨oc, od, dV, kV, doc, pm, an, cdv, ct, osl, rfl, lk, hcd, hD, hK⟩ := h2.ex
  rcases hD with ⟨_, rfl⟩ | ⟨e, _⟩
  · exact fun s us ws all inK l1 l2 e => .of_eq (hb _ _ _ _ _ _ _ _ _ us ws all l1 l2 e)
  · exact absurd rfl e
theorem all_fn {G : Gc} {tb : List Dn} {wh : Nat} (hG : G.fns = fnsOf tb) (ok : ∀ d, d ∈ tb → d.Ok G) (at_ : ∀ d, d ∈ tb → d.At K mg) (m : MOk G K mg) :
    ∀ n i d, tb[i]? = some d → ∃ f fd, mg d.x = some (.ref f) ∧ FunD K d.x d.x d.params d.body d.scope [] [] f fd ∧ PySem.W.keepIn K (.ref f) = true ∧ FnG P w K mg base n f fd d.ps (evC (tb.map Dn.fd) wh n i) ∧ ∀ sh, sh ∈ d.shs → BindOk K fd d.ps sh.1 sh.2.1 sh.2.2 := by
  intro n
  induction n with
  | zero =>
    intro i d hd
    have hm : d ∈ tb := List.mem_of_getElem? hd
    obtain ⟨f, fd, h1, h2⟩ := at_ d hm
    exact ⟨f, fd, h1, h2, h2.kp, ⟨(fun ls st r st' e => by cases e), fun _ _ _ _ _ _ _ p => p.elim⟩, fun sh hs => bind_of h2 ((ok d hm).bi sh hs)⟩
  | succ n ih =>
    intro i d hd
    have hm : d ∈ tb := List.mem_of_getElem? hd
    have od := ok d hm
    obtain ⟨f, fd, h1, h2⟩ := at_ d hm
    have S := C8.fnScope_by od.sc
    refine ⟨f, fd, h1, h2, h2.kp, ?_, ?_⟩
    · have e : evC (tb.map Dn.fd) wh (n + 1) i = runF ⟨evC (tb.map Dn.fd) wh n, wh⟩ d.fd := by
        funext ls
        show (match (tb.map Dn.fd)[i]? with
          | some fd => runF ⟨evC (tb.map Dn.fd) wh n, wh⟩ fd ls
          | none => stuck) = _
        rw [List.getElem?_map, hd]
        rfl
      rw [e]
      have co := od.co
      cases q : cSs G d.N d.mu 60 d.scope d.body with
      | none => rw [q] at co; cases co
      | some r =>
        rw [q] at co
        have co : r.1 = d.code := Option.some.inj co
        refine FunD.fnG h2 S fun cdv A outer sh H hr hg => ?_
        have x := r.2 _ ⟨evC (tb.map Dn.fd) wh n, wh⟩ (show DOk G (cxOf CXn P w K mg base d.N d.x d.scope f cdv A outer sh H fun _ _ _ => False).nox ⟨evC (tb.map Dn.fd) wh n, wh⟩ d.N d.scope from ?_)
        · rw [co] at x
          exact x
        · refine ⟨⟨⟨m.con, m.tup, m.free, fun x i shs e => ?_⟩, rfl, S.nd, rfl, hg, ?_, fun x k e => .inl e, fun _ _ => rfl⟩, rfl, PassesOwn.never⟩
          · rw [hG] at e
            obtain ⟨d2, e1, e2, e3⟩ := lookup_fns e
            obtain ⟨f2, fd2, k1, _, k2, k3, k4⟩ := ih i d2 e1
            rw [e2] at k1
            rw [e3] at k4
            exact ⟨n, f2, fd2, d2.ps, k1, k2, hr, k3, k4⟩
          · have := hr.un
            show (A.deeper (envOfC d.x d.scope sh.heap.objs.size f cdv)).units + 200 < cLine
            omega
    · exact fun sh hs => bind_of h2 (od.bi sh hs)
end
end Vm

set_option Elab.async false
set_option linter.all false
set_option maxRecDepth 100000
set_option maxHeartbeats 4000000
/-! Vm: the end: the law's own call. -/
namespace Vm
open PySem PySem.Spec PyProof.Rows L2
section
variable {P : Program} {wo : World} {K : PySem.W.Frag} {mg mb : Str → Option Value} {fa l : Addr} {fd : FuncData} {x : Str} {sh : Shared} {vs : List Value} {ns : List Int} {k : Nat} {call : List Vl → M R}
/-- the law, called with its script: G tells nothing but the script -/
theorem law_from (inK : K.In sh.heap) (hmg : sh.heap.Ns mainGlobals mg) (hmb : sh.heap.Ns builtinsNs mb) (hbl : ∀ x : Str, x ≠ "__name__" → mb x = bootBuiltins x) (free : sh.heap.NoLimit) (hgen : sh.gens = #[]) (hob : sh.heap.get? l = some { cls := .type "list", data := .seq vs.toArray }) (room : Room k callerA)
    (F : ∀ base : Heap, FnG P wo K mg base k fa fd [x] call) (hb : ∀ (s : Shared) (u : Value), BindsTo s fd ⟨[u], []⟩ [(x, u)]) (run : ∀ st, call [.g (.list (ns.map .int))] st = .ok (.v (.bool true)) st)
    (G : Hp) (hG : Only G) (hS : SqL K G l (ns.map V.int)) (hok : HOk P wo G sh.heap) (alone : ∀ b, G b ≠ none → b = l) (hK : G l ≠ none → K.lookup l = none) :
    codeAny (model P wo) callerA (.call (.ref fa) ⟨[.ref l], []⟩) (fun r t => r = .ok (.ret (.bool true)) ∧ OldK sh.heap t.heap ∧ t.os = sh.os ∧ AllBare t.gens) sh := by
  have told : ∀ {b : Addr}, G b ≠ none → sh.heap.get? b = some { cls := .type "list", data := .seq vs.toArray } := fun {b} n => by rw [alone b n]; exact hob
  have noDict : ∀ {b : Addr} {o : Obj} {es : Array DictEntry} {ep : Nat}, sh.heap.get? b = some o → o.data = .dict es ep → G b = none := fun {b o es ep} e d => by
    by_cases n : G b = none
    · exact n
    · rw [told n] at e
      cases e
      exact nomatch (show Data.seq vs.toArray _ = Data.dict es ep from d)
  have ns2 : ∀ {b : Addr} {m : Str → Option Value}, sh.heap.Ns b m → (hidT sh.heap G).Ns b m := fun {b m} ⟨o, es, ep, e, d, r⟩ => ⟨o, es, ep, hidT_get e (noDict e d), d, r⟩
  have inB : K.In (hidT sh.heap G) := fun b o e => hidT_get (inK b o e) (by
    by_cases n : G b = none
    · exact n
    · have z := alone b n
      subst z
      rw [hK n] at e
      cases e)
  obtain ⟨mc, q1, q2⟩ := id free
  have md : Mod K mg (hidT sh.heap G) := ⟨inB, ns2 hmg, ⟨mb, ns2 hmb, hbl⟩, mc, ns2 q1, q2⟩
  have e0 : Env0 P wo K mg (hidT sh.heap G) callerA [] sh G := ⟨rfl, md, fun b o e => of_hidT e, Nat.le_of_eq (hidT_size _ _), trivial, (fun b hb => by cases hb), hok, .of_eq hgen⟩
  -- the machine's state: nothing held, all that is tracked is there for good
  have wk : WOk K [] [] G G := ⟨Same.refl _, rfl, (fun k d lv => by obtain ⟨o, e, _⟩ := lv; cases e), (fun j k d e a lj => by obtain ⟨o, e, _⟩ := lj; cases e), fun k a e => by cases e⟩
  have reps : Reps K G (ns.map V.int) (ns.map PyData.int) := Reps.ofInts ns
  have arg : Paired (VRep K [] G) [.g (.list (ns.map .int))] [V.ref l] := .cons (.g (.l hS reps)) .nil
  refine codeAny_mono ((F _).run (A := callerA) (us := [.ref l]) (vs := [V.ref l]) (st := []) (ρ := []) (Hf := G) (Q := fun v _ => v = .bl true) room rfl e0 (hb sh (.ref l)) (.cons rfl .nil) wk arg ?_) fun r t hr => ?_
  · rw [run]
    intro v ρ' Hf' H' w' x' rr
    cases rr.1 with
    | v z => exact z.bool_of
  · obtain ⟨u, rfl, v, H', os, bare, un, hok', ru, q⟩ := hr
    have q : v = .bl true := q
    subst q
    have ru : u = Value.bool true := ru
    subst ru
    refine ⟨rfl, OldK.of_keep fun b o e => ?_, os, bare⟩
    by_cases n : G b = none
    · exact un.keep b o e n (fun z => by cases z) (by simp)
    · rcases hG b with z | ⟨ob, xs, z⟩
      · exact absurd z n
      · obtain ⟨e1, _⟩ := hok b _ z
        obtain ⟨e2, _⟩ := hok' b _ (un.frzs b ob _ z)
        rw [e] at e1
        cases e1
        exact e2
theorem law_call (inK : K.In sh.heap) (hmg : sh.heap.Ns mainGlobals mg) (hmb : sh.heap.Ns builtinsNs mb) (hbl : ∀ x : Str, x ≠ "__name__" → mb x = bootBuiltins x) (free : sh.heap.NoLimit) (hgen : sh.gens = #[]) (hob : sh.heap.get? l = some { cls := .type "list", data := .seq vs.toArray }) (hi : IntsAre vs ns) (hz : ns.length ≤ sizeLine) (room : Room k callerA)
    (F : ∀ base : Heap, FnG P wo K mg base k fa fd [x] call) (hb : ∀ (s : Shared) (u : Value), BindsTo s fd ⟨[u], []⟩ [(x, u)]) (run : ∀ st, call [.g (.list (ns.map .int))] st = .ok (.v (.bool true)) st) :
    codeAny (model P wo) callerA (.call (.ref fa) ⟨[.ref l], []⟩) (fun r t => r = .ok (.ret (.bool true)) ∧ OldK sh.heap t.heap ∧ t.os = sh.os ∧ AllBare t.gens) sh := by
  have rv := vals_ints hi
  have len := hi.length
  cases hk : K.lookup l with
  | some o =>
    have e := inK l o hk
    rw [hob] at e
    cases e
    exact law_from inK hmg hmb hbl free hgen hob room F hb run (fun _ => none) (fun _ => .inl rfl) (.inr ⟨_, vs.toArray, _, hk, rfl, rfl, rfl, by rw [List.size_toArray, len]; exact hz, by simpa using rv⟩) (fun b u z => by cases z) (fun b z => absurd rfl z) fun z => absurd rfl z
  | none =>
    have gl : ∀ b, (if b = l then some (HO.frz { cls := .type "list", data := .seq vs.toArray } (.lst (ns.map V.int))) else none) ≠ none → b = l := fun b n => by
      by_cases e : b = l
      · exact e
      · exact absurd (if_neg e) n
    refine law_from inK hmg hmb hbl free hgen hob room F hb run (fun b => if b = l then some (.frz { cls := .type "list", data := .seq vs.toArray } (.lst (ns.map V.int))) else none) (fun b => ?_) (.inl (.inr ⟨{ cls := .type "list", data := .seq vs.toArray }, if_pos rfl⟩)) (fun b u z => ?_) gl fun _ => hk
    · by_cases e : b = l
      · exact .inr ⟨_, _, if_pos e⟩
      · exact .inl (if_neg e)
    · have e := gl b (by show _ ≠ none; rw [show (if b = l then some (HO.frz { cls := .type "list", data := .seq vs.toArray } (.lst (ns.map V.int))) else none) = some u from z]; exact fun q => by cases q)
      subst e
      have z : (if b = b then some (HO.frz { cls := .type "list", data := .seq vs.toArray } (.lst (ns.map V.int))) else none) = some u := z
      rw [if_pos rfl] at z
      cases z
      exact ⟨hob, by rw [List.length_map]; exact hz, vs, _, rv, hob⟩
end
end Vm

set_option Elab.async false
set_option linter.all false
set_option maxRecDepth 100000
set_option maxHeartbeats 4000000
/-! Vm: from the head's facts to the machine's run. -/
namespace Vm
open PySem PySem.Spec PyProof.Rows L2
def fnD (tb : List Dn) : List He.DefD := tb.map fun d => ⟨(d.x, none), d.x, d.x, d.params, d.body, d.scope, [], []⟩
/-- the facts asked of the head: defs, classes, built-in names, whole numbers, texts -/
def faD (tb : List Dn) (cls free : List Str) (is : List (Str × Int)) (ss : List (Str × Str)) : List He.Fa :=
  tb.map (fun d => .glo d.x) ++ (cls.map .glo ++ (free.map .free ++ (is.map (fun p => .int p.1 p.2) ++ ss.map fun p => .str p.1 p.2)))
def gcD (tb : List Dn) (free : List Str) (is : List (Str × Int)) (ss : List (Str × Str)) : Gc := ⟨is.map (fun p => (p.1, .int p.2)) ++ ss.map (fun p => (p.1, .str p.2)), [], free, fnsOf tb⟩
theorem mem_of_lookup2 {β : Type} : ∀ {l : List (Str × β)} {x : Str} {b : β}, l.lookup x = some b → (x, b) ∈ l
  | (y, c) :: l, x, b, h => by
    rw [List.lookup_cons] at h
    cases e : x == y with
    | true =>
      rw [e] at h
      have h : some c = some b := h
      cases h
      have q := eq_of_beq e
      subst q
      exact List.mem_cons_self
    | false =>
      rw [e] at h
      exact List.mem_cons_of_mem _ (mem_of_lookup2 h)
section
variable {K : PySem.W.Frag} {mg : Str → Option Value} {h : Heap} {tb : List Dn} {cls free : List Str} {is : List (Str × Int)} {ss : List (Str × Str)}
theorem at_of (says : He.SaysD (faD tb cls free is ss) (fnD tb) K) (KX : K.In h) (hn : h.Ns mainGlobals mg) {d : Dn} (hd : d ∈ tb) : d.At K mg := by
  obtain ⟨i, hi, e⟩ := List.getElem_of_mem hd
  have e2 : (fnD tb)[i]? = some ⟨(d.x, none), d.x, d.x, d.params, d.body, d.scope, [], []⟩ := by
    unfold fnD
    rw [List.getElem?_map, List.getElem?_eq_getElem hi, e]
    rfl
  obtain ⟨fd, F⟩ := says.def_ i e2
  have g := He.glo_ok KX hn (says.facts (f := .glo d.x) (by unfold faD; exact List.mem_append_left _ (List.mem_map.mpr ⟨d, hd, rfl⟩)))
  exact ⟨_, fd, g, F⟩
theorem mok_of (says : He.SaysD (faD tb cls free is ss) (fnD tb) K) (KX : K.In h) (hn : h.Ns mainGlobals mg) : MOk (gcD tb free is ss) K mg := by
  refine ⟨fun x d e => ?_, (fun x ds e => by cases e), fun x e => ?_⟩
  · have m := mem_of_lookup2 e
    rcases List.mem_append.mp m with m | m
    · obtain ⟨p, hp, e1⟩ := List.mem_map.mp m
      cases e1
      obtain ⟨t, g⟩ := He.int_ok KX hn (says.facts (f := .int p.1 p.2) (by unfold faD; exact List.mem_append_right _ (List.mem_append_right _ (List.mem_append_right _ (List.mem_append_left _ (List.mem_map.mpr ⟨p, hp, rfl⟩))))))
      exact ⟨.int p.2, _, g, ⟨t, rfl⟩, fun H => .int _⟩
    · obtain ⟨p, hp, e1⟩ := List.mem_map.mp m
      cases e1
      obtain ⟨t, g⟩ := He.str_ok KX hn (says.facts (f := .str p.1 p.2) (by unfold faD; exact List.mem_append_right _ (List.mem_append_right _ (List.mem_append_right _ (List.mem_append_right _ (List.mem_map.mpr ⟨p, hp, rfl⟩))))))
      exact ⟨.str p.2, _, g, ⟨t, rfl⟩, fun H => .str _⟩
  · have m : x ∈ free := by simpa [gcD] using e
    exact He.free_ok KX hn (says.facts (f := .free x) (by unfold faD; exact List.mem_append_right _ (List.mem_append_right _ (List.mem_append_left _ (List.mem_map.mpr ⟨x, m, rfl⟩)))))
end
theorem bind_any {K : PySem.W.Frag} {d : Dn} {f : Addr} {fd : FuncData} {x : Str} (h2 : FunD K d.x d.x d.params d.body d.scope [] [] f fd) (hb : BindP d.params d.ps (1, [], [0])) (hp : d.ps = [x]) : ∀ (s : Shared) (u : Value), BindsTo s fd ⟨[u], []⟩ [(x, u)] := by
  obtain ⟨oc, od, dV, kV, doc, pm, an, cdv, ct, osl, rfl, lk, hcd, hD, hK⟩ := h2.ex
  rcases hD with ⟨_, rfl⟩ | ⟨e, _⟩
  · intro s u
    have q := hb d.x d.body d.scope kV doc pm cdv ct an [u] [] [u] rfl rfl rfl
    rw [hp] at q
    exact .of_eq q
  · exact absurd rfl e
/-- the machine's run is all that is left -/
theorem walk_vm {l : PySem.W.OpenLaw} {n k wh iL : Nat} {q : Program} {loose : List Str} {XP : (Str → Option Value) → Heap → Prop} {dr : DefRec} {tb : List Dn} {cls free : List Str} {is : List (Str × Int)} {ss : List (Str × Str)} {dL : Dn} {x : Str}
    (hn : l.most = some n) (hn2 : n ≤ sizeLine) (hdf : dr.params.defaults = []) (room : Room k callerA) (ok : ∀ d, d ∈ tb → d.Ok (gcD tb free is ss)) (hL : tb[iL]? = some dL) (hx : dL.x = dr.name) (hp : dL.ps = [x]) (hs : (1, [], [0]) ∈ dL.shs)
    (run : ∀ ns : List Int, ns.length ≤ n → ∀ st, evC (tb.map Dn.fd) wh k iL [.g (.list (ns.map .int))] st = .ok (.v (.bool true)) st) :
    PySem.W.WalkO q loose XP (He.hookD 4 (faD tb cls free is ss) (fnD tb)).says l.row.toRowW dr [] (fun f vs => PySem.call f vs) := by
  refine Att.attach_call hn hdf fun w s₀ s₁ mg mb fa o pm cd doc a vs ns G Y ho hd hcd hmg hobj hints hlen hg => ?_
  obtain ⟨K, KX, says⟩ := Y
  have ats : ∀ d, d ∈ tb → d.At K mg := fun d hd => at_of says KX G.T.g hd
  have mok := mok_of says KX G.T.g
  have hm : dL ∈ tb := List.mem_of_getElem? hL
  have all := fun base => all_fn (P := l.prog) (w := w) (base := base) (wh := wh) (G := gcD tb free is ss) rfl ok ats mok k iL dL hL
  obtain ⟨f, fd, h1, h2, _⟩ := all s₁.heap
  have ef : f = fa := by
    rw [hx, hmg] at h1
    cases h1
    rfl
  subst ef
  refine law_call (k := k) (x := x) (fd := fd) KX G.T.g G.T.b G.T.builtins G.T.nolimit hg hobj hints (Nat.le_trans hlen hn2) room (call := evC (tb.map Dn.fd) wh k iL) (fun base => ?_) (bind_any h2 ((ok dL hm).bi _ hs) hp) fun st => run ns hlen st
  obtain ⟨f2, fd2, k1, k2, _, k3, _⟩ := all base
  rw [h1] at k1
  cases k1
  rw [hp] at k3
  have efd : fd2 = fd := by
    obtain ⟨oc, od, dV, kV, doc, pm, an, cdv, ct, osl, _, lk, _⟩ := h2.ex
    obtain ⟨oc2, od2, dV2, kV2, doc2, pm2, an2, cdv2, ct2, osl2, _, lk2, _⟩ := k2.ex
    rw [lk] at lk2
    cases lk2
    rfl
  rw [efd] at k3
  exact k3
end Vm

set_option Elab.async false
set_option linter.all false
set_option maxRecDepth 100000
set_option maxHeartbeats 0
namespace Lw
open PySem PySem.Spec PyProof.Rows L2 Vm
def top (i : Nat) : Stmt := PySem.Challenge.pw_maskedwires_k13_whole_affine_wires.main.body.getD i (.Pass ⟨0, 0, 0, 0⟩)
def dn_is_integer : Dn := ⟨"is_integer", defArgs (top 7), defBody (top 7), defScope (top 7), ["value"], ["value"], [], [.ret (.and (.bi (.isinst [.int]) [(.var 0)]) (.noT (.bi (.isinst [.bool]) [(.var 0)])))], [(1, [], [0])]⟩
def dn_is_count : Dn := ⟨"is_count", defArgs (top 8), defBody (top 8), defScope (top 8), ["value"], ["value"], [], [.ret (.and (.call 0 [(.var 0)] [0]) (.cmp .ge (.var 0) (.lit (.int 0))))], [(1, [], [0])]⟩
def dn_is_row : Dn := ⟨"is_row", defArgs (top 9), defBody (top 9), defScope (top 9), ["value", "many"], ["value", "many"], [], [.ret (.and (.bi (.isinst [.tuple]) [(.var 0)]) (.cmp .eq (.bi .len [(.var 0)]) (.var 1)))], [(2, [], [0, 1])]⟩
def dn_is_word : Dn := ⟨"is_word", defArgs (top 10), defBody (top 10), defScope (top 10), ["value"], ["value", "sign"], [], [.ife (.or (.noT (.bi (.isinst [.str]) [(.var 0)])) (.noT (.chn .le .le (.lit (.int 1)) (.bi .len [(.var 0)]) (.lit (.int 8))))) [.ret (.lit (.bool false))] [], .ret (.bi .all [(.lc (.s 1 false) (.seq (.var 0)) [] (.cmp .isin (.var 1) (.lit (.str "abcdefghijklmnopqrstuvwxyz"))))])], [(1, [], [0])]⟩
def dn_is_below : Dn := ⟨"is_below", defArgs (top 11), defBody (top 11), defScope (top 11), ["value", "many"], ["value", "many"], [], [.ret (.and (.call 1 [(.var 0)] [0]) (.cmp .lt (.var 0) (.var 1)))], [(2, [], [0, 1])]⟩
def dn_are_inputs : Dn := ⟨"are_inputs", defArgs (top 26), defBody (top 26), defScope (top 26), ["value"], ["value", "one", "word", "shares"], [], [.ife (.or (.noT (.bi (.isinst [.tuple]) [(.var 0)])) (.or (.noT (.chn .le .le (.lit (.int 1)) (.bi .len [(.var 0)]) (.lit (.int 3)))) (.noT (.bi .all [(.lc (.s 1 false) (.seq (.var 0)) [] (.call 2 [(.var 1), (.lit (.int 2))] [0, 1]))])))) [.ret (.lit (.bool false))] [], .ife (.noT (.bi .all [(.lc (.t [(.s 2 false), (.s 3 false)]) (.seq (.var 0)) [] (.and (.call 3 [(.var 2)] [0]) (.and (.call 0 [(.var 3)] [0]) (.chn .le .le (.lit (.int 1)) (.var 3) (.lit (.int 4))))))])) [.ret (.lit (.bool false))] [], .ret (.cmp .eq (.sc .lenSet (.t [(.s 2 false), (.s 3 false)]) (.seq (.var 0)) [] (.var 2)) (.bi .len [(.var 0)]))], [(1, [], [0])]⟩
def dn_is_wire_of : Dn := ⟨"is_wire_of", defArgs (top 27), defBody (top 27), defScope (top 27), ["value", "inputs", "coins", "at"], ["value", "inputs", "coins", "at"], [], [.ife (.or (.noT (.bi (.isinst [.tuple]) [(.var 0)])) (.or (.cmp .eq (.var 0) (.tup [])) (.noT (.bi (.isinst [.str]) [(.ix (.var 0) (.lit (.int 0)))])))) [.ret (.lit (.bool false))] [], .ife (.cmp .eq (.ix (.var 0) (.lit (.int 0))) (.lit (.str "share"))) [.ret (.and (.cmp .eq (.bi .len [(.var 0)]) (.lit (.int 3))) (.and (.call 4 [(.ix (.var 0) (.lit (.int 1))), (.bi .len [(.var 1)])] [0, 1]) (.call 4 [(.ix (.var 0) (.lit (.int 2))), (.ix (.ix (.var 1) (.ix (.var 0) (.lit (.int 1)))) (.lit (.int 1)))] [0, 1])))] [], .ife (.cmp .eq (.ix (.var 0) (.lit (.int 0))) (.lit (.str "coin"))) [.ret (.and (.cmp .eq (.bi .len [(.var 0)]) (.lit (.int 2))) (.call 4 [(.ix (.var 0) (.lit (.int 1))), (.var 2)] [0, 1]))] [], .ife (.cmp .isin (.ix (.var 0) (.lit (.int 0))) (.tup [(.lit (.str "not")), (.lit (.str "reg"))])) [.ret (.and (.cmp .eq (.bi .len [(.var 0)]) (.lit (.int 2))) (.call 4 [(.ix (.var 0) (.lit (.int 1))), (.var 3)] [0, 1]))] [], .ret (.and (.cmp .isin (.ix (.var 0) (.lit (.int 0))) (.tup [(.lit (.str "xor")), (.lit (.str "and"))])) (.and (.cmp .eq (.bi .len [(.var 0)]) (.lit (.int 3))) (.and (.call 4 [(.ix (.var 0) (.lit (.int 1))), (.var 3)] [0, 1]) (.call 4 [(.ix (.var 0) (.lit (.int 2))), (.var 3)] [0, 1]))))], [(4, [], [0, 1, 2, 3])]⟩
def dn_is_out_of : Dn := ⟨"is_out_of", defArgs (top 28), defBody (top 28), defScope (top 28), ["value", "many"], ["value", "many", "at"], [], [.ife (.or (.noT (.call 2 [(.var 0), (.lit (.int 2))] [0, 1])) (.or (.noT (.call 3 [(.ix (.var 0) (.lit (.int 0)))] [0])) (.noT (.bi (.isinst [.tuple]) [(.ix (.var 0) (.lit (.int 1)))])))) [.ret (.lit (.bool false))] [], .ife (.or (.noT (.chn .le .le (.lit (.int 1)) (.bi .len [(.ix (.var 0) (.lit (.int 1)))]) (.lit (.int 4)))) (.noT (.bi .all [(.lc (.s 2 false) (.seq (.ix (.var 0) (.lit (.int 1)))) [] (.call 4 [(.var 2), (.var 1)] [0, 1]))]))) [.ret (.lit (.bool false))] [], .ret (.cmp .eq (.bi .lenSet [(.ix (.var 0) (.lit (.int 1)))]) (.bi .len [(.ix (.var 0) (.lit (.int 1)))]))], [(2, [], [0, 1])]⟩
def dn_are_outs : Dn := ⟨"are_outs", defArgs (top 29), defBody (top 29), defScope (top 29), ["value", "many"], ["value", "many", "one", "word", "places"], [], [.ife (.or (.noT (.bi (.isinst [.tuple]) [(.var 0)])) (.or (.cmp .gt (.bi .len [(.var 0)]) (.lit (.int 3))) (.noT (.bi .all [(.lc (.s 2 false) (.seq (.var 0)) [] (.call 7 [(.var 2), (.var 1)] [0, 1]))])))) [.ret (.lit (.bool false))] [], .ret (.cmp .eq (.sc .lenSet (.t [(.s 3 false), (.s 4 false)]) (.seq (.var 0)) [] (.var 3)) (.bi .len [(.var 0)]))], [(2, [], [0, 1])]⟩
def dn_is_circuit_of : Dn := ⟨"is_circuit_of", defArgs (top 30), defBody (top 30), defScope (top 30), ["value"], ["value", "inputs", "coins", "wires", "at", "wire", "word", "shares"], [], [.ife (.or (.noT (.call 2 [(.var 0), (.lit (.int 5))] [0, 1])) (.or (.noT (.bi (.isinst [.str]) [(.ix (.var 0) (.lit (.int 0)))])) (.or (.cmp .ne (.ix (.var 0) (.lit (.int 0))) (.lit (.str "circuit"))) (.noT (.call 5 [(.ix (.var 0) (.lit (.int 1)))] [0]))))) [.ret (.lit (.bool false))] [], .set (.t [(.s 1 false), (.s 2 false), (.s 3 false)]) (.sl (.var 0) [(.lit (.int 1))] [(.lit (.int 4))]), .ife (.or (.noT (.call 1 [(.var 2)] [0])) (.or (.cmp .gt (.var 2) (.lit (.int 8))) (.cmp .gt (.bin .add (.var 2) (.bi .sum [(.lc (.t [(.s 6 false), (.s 7 false)]) (.seq (.var 1)) [] (.var 7))])) (.lit (.int 10))))) [.ret (.lit (.bool false))] [], .ife (.or (.noT (.bi (.isinst [.tuple]) [(.var 3)])) (.noT (.chn .le .le (.lit (.int 1)) (.bi .len [(.var 3)]) (.lit (.int 32))))) [.ret (.lit (.bool false))] [], .ife (.noT (.bi .all [(.lc (.t [(.s 4 false), (.s 5 false)]) (.enum (.var 3)) [] (.call 6 [(.var 5), (.var 1), (.var 2), (.var 4)] [0, 1, 2, 3]))])) [.ret (.lit (.bool false))] [], .ret (.call 8 [(.ix (.var 0) (.lit (.int 4))), (.bi .len [(.var 3)])] [0, 1])], [(1, [], [0])]⟩
def dn_shares_of : Dn := ⟨"shares_of", defArgs (top 31), defBody (top 31), defScope (top 31), ["circuit"], ["circuit", "found", "at", "word", "shares", "share"], ["found"], [.set (.s 1 true) (.lst []), .forr (.t [(.s 2 false), (.t [(.s 3 false), (.s 4 false)])]) (.enum (.ix (.var 0) (.lit (.int 1)))) [.ex (.mt .extend (.var 1) [(.lc (.s 5 false) (.rng [(.var 4)]) [] (.tup [(.var 2), (.var 5)]))])], .ret (.var 1)], [(1, [], [0])]⟩
def dn_sources_of : Dn := ⟨"sources_of", defArgs (top 32), defBody (top 32), defScope (top 32), ["circuit"], ["circuit", "share", "at"], [], [.ret (.bin .add (.lc (.s 1 false) (.seq (.call 10 [(.var 0)] [0])) [] (.bin .add (.tup [(.lit (.str "share"))]) (.var 1))) (.lc (.s 2 false) (.rng [(.ix (.var 0) (.lit (.int 2)))]) [] (.tup [(.lit (.str "coin")), (.var 2)])))], [(1, [], [0])]⟩
def dn_want_circuit : Dn := ⟨"want_circuit", defArgs (top 33), defBody (top 33), defScope (top 33), ["value"], ["value"], [], [.ife (.noT (.call 9 [(.var 0)] [0])) [.rse] [], .ret (.var 0)], [(1, [], [0])]⟩
def dn_want_wire : Dn := ⟨"want_wire", defArgs (top 34), defBody (top 34), defScope (top 34), ["circuit", "value"], ["circuit", "value"], [], [.ife (.noT (.call 4 [(.var 1), (.bi .len [(.ix (.var 0) (.lit (.int 3)))])] [0, 1])) [.rse] [], .ret (.var 1)], [(2, [], [0, 1])]⟩
def dn_tuples_of : Dn := ⟨"tuples_of", defArgs (top 36), defBody (top 36), defScope (top 36), ["many"], ["many", "found", "turn", "bits", "bit"], [], [.set (.s 1 false) (.lst [(.tup [])]), .forr (.s 2 false) (.rng [(.var 0)]) [.set (.s 1 false) (.lc2 (.s 3 false) (.seq (.var 1)) [] (.s 4 false) (.seq (.tup [(.lit (.int 0)), (.lit (.int 1))])) [] (.bin .add (.var 3) (.tup [(.var 4)])))], .ret (.var 1)], [(1, [], [0])]⟩
def dn_points_of : Dn := ⟨"points_of", defArgs (top 37), defBody (top 37), defScope (top 37), ["circuit"], ["circuit"], [], [.ret (.call 14 [(.bi .len [(.call 11 [(.var 0)] [0])])] [0])], [(1, [], [0])]⟩
def dn_twos : Dn := ⟨"twos", defArgs (top 38), defBody (top 38), defScope (top 38), ["many"], ["many", "found", "turn"], [], [.set (.s 1 false) (.lit (.int 1)), .forr (.s 2 false) (.rng [(.var 0)]) [.set (.s 1 false) (.bin .mul (.lit (.int 2)) (.var 1))], .ret (.var 1)], [(1, [], [0])]⟩
def dn_value_by : Dn := ⟨"value_by", defArgs (top 39), defBody (top 39), defScope (top 39), ["wire", "values"], ["wire", "values"], [], [.ife (.cmp .eq (.ix (.var 0) (.lit (.int 0))) (.lit (.str "not"))) [.ret (.bin .sub (.lit (.int 1)) (.ix (.var 1) (.ix (.var 0) (.lit (.int 1)))))] [], .ife (.cmp .eq (.ix (.var 0) (.lit (.int 0))) (.lit (.str "reg"))) [.ret (.ix (.var 1) (.ix (.var 0) (.lit (.int 1))))] [], .ife (.cmp .eq (.ix (.var 0) (.lit (.int 0))) (.lit (.str "xor"))) [.ret (.bi .int [(.cmp .ne (.ix (.var 1) (.ix (.var 0) (.lit (.int 1)))) (.ix (.var 1) (.ix (.var 0) (.lit (.int 2)))))])] [], .ret (.bi .int [(.and (.cmp .eq (.ix (.var 1) (.ix (.var 0) (.lit (.int 1)))) (.lit (.int 1))) (.cmp .eq (.ix (.var 1) (.ix (.var 0) (.lit (.int 2)))) (.lit (.int 1))))])], [(2, [], [0, 1])]⟩
def dn_values_at_of : Dn := ⟨"values_at_of", defArgs (top 40), defBody (top 40), defScope (top 40), ["circuit", "point"], ["circuit", "point", "wire", "bits", "found"], ["found"], [.par [(3, false), (4, true)] [(.bi .dictZip [(.call 11 [(.var 0)] [0]), (.var 1)]), (.lst [])], .forr (.s 2 false) (.seq (.ix (.var 0) (.lit (.int 3)))) [.ex (.mt .append (.var 4) [(.ite (.cmp .isin (.var 2) (.var 3)) (.ix (.var 3) (.var 2)) (.call 17 [(.var 2), (.var 4)] [0, 1]))])], .ret (.var 4)], [(2, [], [0, 1])]⟩
def dn_values_of : Dn := ⟨"values_of", defArgs (top 41), defBody (top 41), defScope (top 41), ["circuit"], ["circuit", "columns", "point", "at", "values"], [], [.set (.s 1 false) (.lc (.s 2 false) (.seq (.call 15 [(.var 0)] [0])) [] (.call 18 [(.var 0), (.var 2)] [0, 1])), .ret (.lc (.s 3 false) (.rng [(.bi .len [(.ix (.var 0) (.lit (.int 3)))])]) [] (.lc (.s 4 false) (.seq (.var 1)) [] (.ix (.var 4) (.var 3))))], [(1, [], [0])]⟩
def dn_flip_of : Dn := ⟨"flip_of", defArgs (top 42), defBody (top 42), defScope (top 42), ["row", "step"], ["row", "step", "changes", "at", "change"], [], [.set (.s 2 false) (.lc (.s 3 false) (.rng [(.bi .len [(.var 0)])]) [(.cmp .eq (.bin .mul (.bin .fdiv (.bin .fdiv (.var 3) (.var 1)) (.lit (.int 2))) (.lit (.int 2))) (.bin .fdiv (.var 3) (.var 1)))] (.bi .int [(.cmp .ne (.ix (.var 0) (.var 3)) (.ix (.var 0) (.bin .add (.var 3) (.var 1))))])), .ret (.ite (.bi .all [(.lc (.s 4 false) (.seq (.var 2)) [] (.cmp .eq (.var 4) (.ix (.var 2) (.lit (.int 0)))))]) (.ix (.var 2) (.lit (.int 0))) (.lit .none))], [(2, [], [0, 1])]⟩
def dn_affine_of : Dn := ⟨"affine_of", defArgs (top 43), defBody (top 43), defScope (top 43), ["row", "many"], ["row", "many", "flips", "at", "flip"], [], [.set (.s 2 false) (.lc (.s 3 false) (.rng [(.var 1)]) [] (.call 20 [(.var 0), (.call 16 [(.bin .sub (.bin .sub (.var 1) (.lit (.int 1))) (.var 3))] [0])] [0, 1])), .ret (.ite (.cmp .isin (.lit .none) (.var 2)) (.lit .none) (.tup [(.ix (.var 0) (.lit (.int 0))), (.lc (.t [(.s 3 false), (.s 4 false)]) (.enum (.var 2)) [(.cmp .eq (.var 4) (.lit (.int 1)))] (.var 3))]))], [(2, [], [0, 1])]⟩
def dn_affine : Dn := ⟨"affine", defArgs (top 44), defBody (top 44), defScope (top 44), ["circuit", "wire"], ["circuit", "wire", "row"], [], [.set (.s 2 false) (.ix (.call 19 [(.call 12 [(.var 0)] [0])] [0]) (.call 13 [(.var 0), (.var 1)] [0, 1])), .ret (.call 21 [(.var 2), (.bi .len [(.call 11 [(.var 0)] [0])])] [0, 1])], [(0, ["wire", "circuit"], [1, 0]), (2, [], [0, 1])]⟩
def dn__law_pot : Dn := ⟨"_law_pot", defArgs (top 46), defBody (top 46), defScope (top 46), ["script", "k"], ["script", "k", "cell"], [], [.set (.s 2 false) (.ite (.cmp .lt (.var 1) (.bi .len [(.var 0)])) (.bi .abs [(.ix (.var 0) (.var 1))]) (.bin .add (.bin .mul (.lit (.int 18013)) (.var 1)) (.lit (.int 18307)))), .ret (.lst [(.bi .max [(.lit (.int 0)), (.bin .sub (.var 2) (.bin .pow (.lit (.int 10)) (.lit (.int 18))))]), (.bin .add (.bin .mod (.bi .int [(.bin .add (.bin .add (.bin .mul (.bin .mod (.bi .int [(.var 2)]) (.lit (.int 2147483549))) (.lit (.int 16703))) (.bin .mul (.lit (.int 17117)) (.var 1))) (.lit (.int 907)))]) (.lit (.int 2147483563))) (.lit (.int 1)))])], [(2, [], [0, 1])]⟩
def dn__law_draw : Dn := ⟨"_law_draw", defArgs (top 47), defBody (top 47), defScope (top 47), ["pot", "size"], ["pot", "size", "digit"], [], [.ife (.cmp .gt (.ix (.var 0) (.lit (.int 0))) (.lit (.int 0))) [.unp [(.x (.var 0) (.lit (.int 0))), (.s 2 false)] (.bi .divmod [(.ix (.var 0) (.lit (.int 0))), (.var 1)]), .ret (.var 2)] [], .set (.x (.var 0) (.lit (.int 1))) (.bin .mod (.bi .int [(.bin .add (.bin .mul (.ix (.var 0) (.lit (.int 1))) (.lit (.int 40692))) (.lit (.int 17117)))]) (.lit (.int 2147483399))), .ret (.bin .mod (.bi .int [(.bin .fdiv (.bin .mod (.bi .int [(.bin .mul (.ix (.var 0) (.lit (.int 1))) (.ix (.var 0) (.lit (.int 1))))]) (.lit (.int 2147483323))) (.lit (.int 19)))]) (.var 1))], [(2, [], [0, 1])]⟩
def dn__law_pick : Dn := ⟨"_law_pick", defArgs (top 48), defBody (top 48), defScope (top 48), ["pot", "some"], ["pot", "some"], [], [.ret (.ix (.var 1) (.call 24 [(.var 0), (.bi .len [(.var 1)])] [0, 1]))], [(2, [], [0, 1])]⟩
def dn__law_sources : Dn := ⟨"_law_sources", defArgs (top 49), defBody (top 49), defScope (top 49), ["circuit"], ["circuit", "found", "at", "share"], ["found"], [.set (.s 1 true) (.lst []), .forr (.s 2 false) (.rng [(.bi .len [(.ix (.var 0) (.lit (.int 1)))])]) [.ex (.mt .extend (.var 1) [(.lc (.s 3 false) (.rng [(.ix (.ix (.ix (.var 0) (.lit (.int 1))) (.var 2)) (.lit (.int 1)))]) [] (.tup [(.lit (.str "share")), (.var 2), (.var 3)]))])], .ret (.bin .add (.var 1) (.lc (.s 2 false) (.rng [(.ix (.var 0) (.lit (.int 2)))]) [] (.tup [(.lit (.str "coin")), (.var 2)])))], [(1, [], [0])]⟩
def dn__law_tuples : Dn := ⟨"_law_tuples", defArgs (top 50), defBody (top 50), defScope (top 50), ["many"], ["many", "found", "turn", "bits"], [], [.set (.s 1 false) (.lst [(.tup [])]), .forr (.s 2 false) (.rng [(.var 0)]) [.set (.s 1 false) (.bin .add (.lc (.s 3 false) (.seq (.var 1)) [] (.bin .add (.var 3) (.tup [(.lit (.int 0))]))) (.lc (.s 3 false) (.seq (.var 1)) [] (.bin .add (.var 3) (.tup [(.lit (.int 1))]))))], .ret (.bi .sorted [(.var 1)])], [(1, [], [0])]⟩
def dn__law_points : Dn := ⟨"_law_points", defArgs (top 51), defBody (top 51), defScope (top 51), ["circuit"], ["circuit"], [], [.ret (.call 27 [(.bi .len [(.call 26 [(.var 0)] [0])])] [0])], [(1, [], [0])]⟩
def dn__law_values : Dn := ⟨"_law_values", defArgs (top 52), defBody (top 52), defScope (top 52), ["circuit", "point"], ["circuit", "point", "wire", "sources", "found", "ones", "one"], ["found"], [.par [(3, false), (4, true)] [(.call 26 [(.var 0)] [0]), (.lst [])], .forr (.s 2 false) (.seq (.ix (.var 0) (.lit (.int 3)))) [.ife (.cmp .isin (.var 2) (.var 3)) [.ex (.mt .append (.var 4) [(.ix (.var 1) (.mt .index (.var 3) [(.var 2)]))])] [.set (.s 5 false) (.lc (.s 6 false) (.seq (.sl (.var 2) [(.lit (.int 1))] [])) [] (.ix (.var 4) (.var 6))), .ex (.mt .append (.var 4) [(.ixs ["not", "reg", "xor", "and"] [(.bin .sub (.lit (.int 1)) (.ix (.var 5) (.lit (.int 0)))), (.ix (.var 5) (.lit (.int 0))), (.ite (.cmp .eq (.bi .sum [(.var 5)]) (.lit (.int 1))) (.lit (.int 1)) (.lit (.int 0))), (.bi .min [(.var 5)])] (.ix (.var 2) (.lit (.int 0))))])]], .ret (.bi .tuple [(.var 4)])], [(2, [], [0, 1])]⟩
def dn__law_xor : Dn := ⟨"_law_xor", defArgs (top 53), defBody (top 53), defScope (top 53), ["bits"], ["bits", "bit"], [], [.ret (.ite (.cmp .ne (.bin .mul (.bin .fdiv (.bi .len [(.lc (.s 1 false) (.seq (.var 0)) [(.cmp .eq (.var 1) (.lit (.int 1)))] (.var 1))]) (.lit (.int 2))) (.lit (.int 2))) (.bi .len [(.lc (.s 1 false) (.seq (.var 0)) [(.cmp .eq (.var 1) (.lit (.int 1)))] (.var 1))])) (.lit (.int 1)) (.lit (.int 0)))], [(1, [], [0])]⟩
def dn__law_circuit : Dn := ⟨"_law_circuit", defArgs (top 54), defBody (top 54), defScope (top 54), ["pot", "most", "sources"], ["pot", "most", "sources", "inputs", "coins", "circuit", "wires", "turn", "outs", "kind", "one", "other", "places", "left", "wire", "word", "shares"], ["inputs", "left", "outs", "places", "wires"], [.set (.s 3 true) (.lst [(.tup [(.lit (.str "key")), (.bin .add (.lit (.int 1)) (.call 24 [(.var 0), (.lit (.int 3))] [0, 1]))])]), .ife (.cmp .eq (.call 24 [(.var 0), (.lit (.int 2))] [0, 1]) (.lit (.int 0))) [.ex (.mt .append (.var 3) [(.tup [(.lit (.str "text")), (.bin .add (.lit (.int 1)) (.call 24 [(.var 0), (.lit (.int 2))] [0, 1]))])])] [], .set (.s 4 false) (.call 24 [(.var 0), (.bin .add (.bin .sub (.var 2) (.bi .sum [(.lc (.t [(.s 15 false), (.s 16 false)]) (.seq (.var 3)) [] (.var 16))])) (.lit (.int 1)))] [0, 1]), .set (.s 5 false) (.tup [(.lit (.str "circuit")), (.bi .tuple [(.var 3)]), (.var 4), (.tup []), (.tup [])]), .set (.s 6 true) (.bi .list [(.call 26 [(.var 5)] [0])]), .ife (.cmp .eq (.call 24 [(.var 0), (.lit (.int 3))] [0, 1]) (.lit (.int 0))) [.set (.s 6 true) (.lc (.s 14 false) (.seq (.var 6)) [(.or (.cmp .gt (.call 24 [(.var 0), (.lit (.int 4))] [0, 1]) (.lit (.int 0))) (.cmp .eq (.var 14) (.ix (.var 6) (.lit (.int 0)))))] (.var 14))] [], .forr (.s 7 false) (.rng [(.call 24 [(.var 0), (.bin .add (.var 1) (.lit (.int 1)))] [0, 1])]) [.par [(9, false), (10, false), (11, false)] [(.call 25 [(.var 0), (.lst [(.lit (.str "xor")), (.lit (.str "xor")), (.lit (.str "xor")), (.lit (.str "and")), (.lit (.str "and")), (.lit (.str "not")), (.lit (.str "reg"))])] [0, 1]), (.call 24 [(.var 0), (.bi .len [(.var 6)])] [0, 1]), (.call 24 [(.var 0), (.bi .len [(.var 6)])] [0, 1])], .ex (.mt .append (.var 6) [(.ite (.cmp .isin (.var 9) (.lst [(.lit (.str "not")), (.lit (.str "reg"))])) (.tup [(.var 9), (.var 10)]) (.tup [(.var 9), (.var 10), (.var 11)]))])], .set (.s 8 true) (.lst []), .ife (.cmp .eq (.call 24 [(.var 0), (.lit (.int 2))] [0, 1]) (.lit (.int 0))) [.par [(12, true), (13, true)] [(.lst []), (.bi .listRng [(.bi .len [(.var 6)])])], .forr (.s 7 false) (.rng [(.bin .add (.lit (.int 1)) (.call 24 [(.var 0), (.lit (.int 2))] [0, 1]))]) [.ife (.cmp .ne (.var 13) (.lst [])) [.ex (.mt .append (.var 12) [(.mt .pop (.var 13) [(.call 24 [(.var 0), (.bi .len [(.var 13)])] [0, 1])])])] []], .ex (.mt .append (.var 8) [(.tup [(.lit (.str "sum")), (.bi .tuple [(.var 12)])])])] [], .ret (.tup [(.lit (.str "circuit")), (.bi .tuple [(.var 3)]), (.var 4), (.bi .tuple [(.var 6)]), (.bi .tuple [(.var 8)])])], [(3, [], [0, 1, 2])]⟩
def dn__law_affine : Dn := ⟨"_law_affine", defArgs (top 55), defBody (top 55), defScope (top 55), ["circuit", "wire"], ["circuit", "wire", "every", "rows", "taken", "first", "many", "at", "point", "place"], [], [.set (.s 2 false) (.call 28 [(.var 0)] [0]), .set (.s 3 false) (.bi .dict [(.lc (.s 8 false) (.seq (.var 2)) [] (.tup [(.var 8), (.ix (.call 29 [(.var 0), (.var 8)] [0, 1]) (.var 1))]))]), .par [(5, false), (6, false)] [(.ix (.var 3) (.ix (.var 2) (.lit (.int 0)))), (.bi .len [(.ix (.var 2) (.lit (.int 0)))])], .set (.s 4 false) (.lc (.s 7 false) (.rng [(.var 6)]) [(.cmp .ne (.ix (.var 3) (.bi .tuple [(.lc (.s 9 false) (.rng [(.var 6)]) [] (.ite (.cmp .eq (.var 9) (.var 7)) (.lit (.int 1)) (.lit (.int 0))))])) (.var 5))] (.var 7)), .ife (.cmp .ne (.lc (.s 8 false) (.seq (.var 2)) [(.cmp .ne (.ix (.var 3) (.var 8)) (.call 30 [(.bin .add (.lst [(.var 5)]) (.lc (.s 7 false) (.seq (.var 4)) [] (.ix (.var 8) (.var 7))))] [0]))] (.var 8)) (.lst [])) [.ret (.lit .none)] [], .ret (.tup [(.var 5), (.var 4)])], [(2, [], [0, 1])]⟩
def dn__law_right : Dn := ⟨"_law_right", defArgs (top 56), defBody (top 56), defScope (top 56), ["circuit"], ["circuit", "wire", "due"], [], [.forr (.s 1 false) (.rng [(.bi .len [(.ix (.var 0) (.lit (.int 3)))])]) [.set (.s 2 false) (.call 32 [(.var 0), (.var 1)] [0, 1]), .ife (.cmp .ne (.bi .repr [(.lst [(.call 22 [(.var 0), (.var 1)] [0, 1]), (.call 22 [(.var 1), (.var 0)] [1, 0])])]) (.bi .repr [(.lst [(.var 2), (.var 2)])])) [.ret (.lit (.bool false))] []], .ret (.lit (.bool true))], [(1, [], [0])]⟩
def dn__law_sums_right : Dn := ⟨"_law_sums_right", defArgs (top 57), defBody (top 57), defScope (top 57), ["pot", "circuit"], ["pot", "circuit", "wires", "late", "wire", "sources", "told", "at", "one", "near", "other", "far"], ["told"], [.par [(5, false), (6, true)] [(.call 26 [(.var 1)] [0]), (.lst [])], .set (.s 2 false) (.lc (.s 4 false) (.seq (.ix (.var 1) (.lit (.int 3)))) [] (.ite (.cmp .ne (.ix (.var 4) (.lit (.int 0))) (.lit (.str "and"))) (.var 4) (.bin .add (.tup [(.lit (.str "xor"))]) (.sl (.var 4) [(.lit (.int 1))] [])))), .set (.s 3 false) (.bin .add (.sl (.var 1) [] [(.lit (.int 3))]) (.tup [(.bi .tuple [(.var 2)]), (.tup [])])), .forr (.s 4 false) (.seq (.var 2)) [.ife (.cmp .isin (.var 4) (.var 5)) [.ex (.mt .append (.var 6) [(.tup [(.lit (.int 0)), (.lst [(.mt .index (.var 5) [(.var 4)])])])])] [.ife (.cmp .eq (.ix (.var 4) (.lit (.int 0))) (.lit (.str "xor"))) [.set (.t [(.t [(.s 8 false), (.s 9 false)]), (.t [(.s 10 false), (.s 11 false)])]) (.tup [(.ix (.var 6) (.ix (.var 4) (.lit (.int 1)))), (.ix (.var 6) (.ix (.var 4) (.lit (.int 2))))]), .ex (.mt .append (.var 6) [(.tup [(.call 30 [(.lst [(.var 8), (.var 10)])] [0]), (.lc (.s 7 false) (.rng [(.bi .len [(.var 5)])]) [(.cmp .ne (.cmp .isin (.var 7) (.var 9)) (.cmp .isin (.var 7) (.var 11)))] (.var 7))])])] [.ex (.mt .append (.var 6) [(.tup [(.ite (.cmp .eq (.ix (.var 4) (.lit (.int 0))) (.lit (.str "not"))) (.bin .sub (.lit (.int 1)) (.ix (.ix (.var 6) (.ix (.var 4) (.lit (.int 1)))) (.lit (.int 0)))) (.ix (.ix (.var 6) (.ix (.var 4) (.lit (.int 1)))) (.lit (.int 0)))), (.bi .list [(.ix (.ix (.var 6) (.ix (.var 4) (.lit (.int 1)))) (.lit (.int 1)))])])])]]], .ret (.cmp .eq (.lc (.s 7 false) (.rng [(.bi .len [(.var 2)])]) [(.cmp .ne (.call 22 [(.var 3), (.var 7)] [0, 1]) (.ix (.var 6) (.var 7)))] (.var 7)) (.lst []))], [(2, [], [0, 1])]⟩
def dn_law : Dn := ⟨"law", defArgs (top 58), defBody (top 58), defScope (top 58), ["script"], ["script", "pot", "turn", "circuit", "late", "one", "many"], ["pot"], [.set (.s 1 true) (.call 23 [(.var 0), (.lit (.int 0))] [0, 1]), .forr (.s 2 false) (.rng [(.lit (.int 3))]) [.set (.s 3 false) (.call 31 [(.var 1), (.lit (.int 9)), (.lit (.int 6))] [0, 1, 2]), .ife (.or (.noT (.call 33 [(.var 3)] [0])) (.noT (.call 34 [(.var 1), (.var 3)] [0, 1]))) [.ret (.lit (.bool false))] [], .par [(5, false), (6, false)] [(.call 24 [(.var 1), (.bi .len [(.ix (.var 3) (.lit (.int 3)))])] [0, 1]), (.bi .len [(.ix (.var 3) (.lit (.int 3)))])], .set (.s 4 false) (.bin .add (.sl (.var 3) [] [(.lit (.int 3))]) (.tup [(.bin .add (.ix (.var 3) (.lit (.int 3))) (.tup [(.tup [(.lit (.str "not")), (.var 5)]), (.tup [(.lit (.str "and")), (.var 5), (.var 6)]), (.tup [(.lit (.str "not")), (.bin .add (.var 6) (.lit (.int 1)))]), (.tup [(.lit (.str "and")), (.var 5), (.bin .add (.var 6) (.lit (.int 2)))])])), (.tup [])])), .ife (.or (.cmp .ne (.call 22 [(.var 4), (.bin .add (.var 6) (.lit (.int 1)))] [0, 1]) (.tup [(.lit (.int 0)), (.lst [])])) (.or (.cmp .ne (.call 22 [(.var 4), (.bin .add (.var 6) (.lit (.int 2)))] [0, 1]) (.tup [(.lit (.int 1)), (.lst [])])) (.cmp .ne (.call 22 [(.var 4), (.bin .add (.var 6) (.lit (.int 3)))] [0, 1]) (.call 22 [(.var 4), (.var 5)] [0, 1])))) [.ret (.lit (.bool false))] []], .ret (.lit (.bool true))], [(1, [], [0])]⟩
def tb : List Dn := [dn_is_integer, dn_is_count, dn_is_row, dn_is_word, dn_is_below, dn_are_inputs, dn_is_wire_of, dn_is_out_of, dn_are_outs, dn_is_circuit_of, dn_shares_of, dn_sources_of, dn_want_circuit, dn_want_wire, dn_tuples_of, dn_points_of, dn_twos, dn_value_by, dn_values_at_of, dn_values_of, dn_flip_of, dn_affine_of, dn_affine, dn__law_pot, dn__law_draw, dn__law_pick, dn__law_sources, dn__law_tuples, dn__law_points, dn__law_values, dn__law_xor, dn__law_circuit, dn__law_affine, dn__law_right, dn__law_sums_right, dn_law]
def cls : List Str := ["WireError", "InvalidCircuit", "InvalidWire"]
def free : List Str := ["ValueError", "abs", "all", "bool", "dict", "divmod", "enumerate", "int", "isinstance", "len", "list", "max", "min", "range", "repr", "set", "sorted", "str", "sum", "tuple", "zip"]
def cInts : List (Str × Int) := [("MOST_WORD", 8), ("MOST_INPUTS", 3), ("MOST_SHARES", 4), ("MOST_COINS", 8), ("MOST_SOURCES", 10), ("MOST_WIRES", 32), ("MOST_OUTS", 3)]
def cStrs : List (Str × Str) := [("SIGNS", "abcdefghijklmnopqrstuvwxyz"), ("CIRCUIT", "circuit"), ("SHARE", "share"), ("COIN", "coin"), ("NOT", "not"), ("REG", "reg"), ("XOR", "xor"), ("AND", "and")]
def gc : Gc := gcD tb free cInts cStrs
theorem co_is_integer : (cSs gc dn_is_integer.N dn_is_integer.mu 60 dn_is_integer.scope dn_is_integer.body).map (·.1) = some dn_is_integer.code := by kernel_rfl
theorem bp_is_integer_0 : BindP dn_is_integer.params dn_is_integer.ps (1, [], [0]) := by
  intro x body scope kV doc pm cdv ct an us ws all h1 h2 e
  match us, ws, h1, h2 with
  | [u0], [], _, _ =>
    cases e
    kernel_rfl
theorem ok_is_integer : dn_is_integer.Ok gc := ⟨by decide +kernel, co_is_integer, fun s hs => by
  have hs : s ∈ ([(1, [], [0])] : List (Nat × List Str × List Nat)) := hs
  simp only [List.mem_cons, List.not_mem_nil, or_false] at hs
  rcases hs with rfl
  · exact bp_is_integer_0⟩
theorem co_is_count : (cSs gc dn_is_count.N dn_is_count.mu 60 dn_is_count.scope dn_is_count.body).map (·.1) = some dn_is_count.code := by kernel_rfl
theorem bp_is_count_0 : BindP dn_is_count.params dn_is_count.ps (1, [], [0]) := by
  intro x body scope kV doc pm cdv ct an us ws all h1 h2 e
  match us, ws, h1, h2 with
  | [u0], [], _, _ =>
    cases e
    kernel_rfl
theorem ok_is_count : dn_is_count.Ok gc := ⟨by decide +kernel, co_is_count, fun s hs => by
  have hs : s ∈ ([(1, [], [0])] : List (Nat × List Str × List Nat)) := hs
  simp only [List.mem_cons, List.not_mem_nil, or_false] at hs
  rcases hs with rfl
  · exact bp_is_count_0⟩
theorem co_is_row : (cSs gc dn_is_row.N dn_is_row.mu 60 dn_is_row.scope dn_is_row.body).map (·.1) = some dn_is_row.code := by kernel_rfl
theorem bp_is_row_0 : BindP dn_is_row.params dn_is_row.ps (2, [], [0, 1]) := by
  intro x body scope kV doc pm cdv ct an us ws all h1 h2 e
  match us, ws, h1, h2 with
  | [u0, u1], [], _, _ =>
    cases e
    kernel_rfl
theorem ok_is_row : dn_is_row.Ok gc := ⟨by decide +kernel, co_is_row, fun s hs => by
  have hs : s ∈ ([(2, [], [0, 1])] : List (Nat × List Str × List Nat)) := hs
  simp only [List.mem_cons, List.not_mem_nil, or_false] at hs
  rcases hs with rfl
  · exact bp_is_row_0⟩
theorem co_is_word : (cSs gc dn_is_word.N dn_is_word.mu 60 dn_is_word.scope dn_is_word.body).map (·.1) = some dn_is_word.code := by kernel_rfl
theorem bp_is_word_0 : BindP dn_is_word.params dn_is_word.ps (1, [], [0]) := by
  intro x body scope kV doc pm cdv ct an us ws all h1 h2 e
  match us, ws, h1, h2 with
  | [u0], [], _, _ =>
    cases e
    kernel_rfl
theorem ok_is_word : dn_is_word.Ok gc := ⟨by decide +kernel, co_is_word, fun s hs => by
  have hs : s ∈ ([(1, [], [0])] : List (Nat × List Str × List Nat)) := hs
  simp only [List.mem_cons, List.not_mem_nil, or_false] at hs
  rcases hs with rfl
  · exact bp_is_word_0⟩
theorem co_is_below : (cSs gc dn_is_below.N dn_is_below.mu 60 dn_is_below.scope dn_is_below.body).map (·.1) = some dn_is_below.code := by kernel_rfl
theorem bp_is_below_0 : BindP dn_is_below.params dn_is_below.ps (2, [], [0, 1]) := by
  intro x body scope kV doc pm cdv ct an us ws all h1 h2 e
  match us, ws, h1, h2 with
  | [u0, u1], [], _, _ =>
    cases e
    kernel_rfl
theorem ok_is_below : dn_is_below.Ok gc := ⟨by decide +kernel, co_is_below, fun s hs => by
  have hs : s ∈ ([(2, [], [0, 1])] : List (Nat × List Str × List Nat)) := hs
  simp only [List.mem_cons, List.not_mem_nil, or_false] at hs
  rcases hs with rfl
  · exact bp_is_below_0⟩
theorem co_are_inputs : (cSs gc dn_are_inputs.N dn_are_inputs.mu 60 dn_are_inputs.scope dn_are_inputs.body).map (·.1) = some dn_are_inputs.code := by kernel_rfl
theorem bp_are_inputs_0 : BindP dn_are_inputs.params dn_are_inputs.ps (1, [], [0]) := by
  intro x body scope kV doc pm cdv ct an us ws all h1 h2 e
  match us, ws, h1, h2 with
  | [u0], [], _, _ =>
    cases e
    kernel_rfl
theorem ok_are_inputs : dn_are_inputs.Ok gc := ⟨by decide +kernel, co_are_inputs, fun s hs => by
  have hs : s ∈ ([(1, [], [0])] : List (Nat × List Str × List Nat)) := hs
  simp only [List.mem_cons, List.not_mem_nil, or_false] at hs
  rcases hs with rfl
  · exact bp_are_inputs_0⟩
theorem co_is_wire_of : (cSs gc dn_is_wire_of.N dn_is_wire_of.mu 60 dn_is_wire_of.scope dn_is_wire_of.body).map (·.1) = some dn_is_wire_of.code := by kernel_rfl
theorem bp_is_wire_of_0 : BindP dn_is_wire_of.params dn_is_wire_of.ps (4, [], [0, 1, 2, 3]) := by
  intro x body scope kV doc pm cdv ct an us ws all h1 h2 e
  match us, ws, h1, h2 with
  | [u0, u1, u2, u3], [], _, _ =>
    cases e
    kernel_rfl
theorem ok_is_wire_of : dn_is_wire_of.Ok gc := ⟨by decide +kernel, co_is_wire_of, fun s hs => by
  have hs : s ∈ ([(4, [], [0, 1, 2, 3])] : List (Nat × List Str × List Nat)) := hs
  simp only [List.mem_cons, List.not_mem_nil, or_false] at hs
  rcases hs with rfl
  · exact bp_is_wire_of_0⟩
theorem co_is_out_of : (cSs gc dn_is_out_of.N dn_is_out_of.mu 60 dn_is_out_of.scope dn_is_out_of.body).map (·.1) = some dn_is_out_of.code := by kernel_rfl
theorem bp_is_out_of_0 : BindP dn_is_out_of.params dn_is_out_of.ps (2, [], [0, 1]) := by
  intro x body scope kV doc pm cdv ct an us ws all h1 h2 e
  match us, ws, h1, h2 with
  | [u0, u1], [], _, _ =>
    cases e
    kernel_rfl
theorem ok_is_out_of : dn_is_out_of.Ok gc := ⟨by decide +kernel, co_is_out_of, fun s hs => by
  have hs : s ∈ ([(2, [], [0, 1])] : List (Nat × List Str × List Nat)) := hs
  simp only [List.mem_cons, List.not_mem_nil, or_false] at hs
  rcases hs with rfl
  · exact bp_is_out_of_0⟩
theorem co_are_outs : (cSs gc dn_are_outs.N dn_are_outs.mu 60 dn_are_outs.scope dn_are_outs.body).map (·.1) = some dn_are_outs.code := by kernel_rfl
theorem bp_are_outs_0 : BindP dn_are_outs.params dn_are_outs.ps (2, [], [0, 1]) := by
  intro x body scope kV doc pm cdv ct an us ws all h1 h2 e
  match us, ws, h1, h2 with
  | [u0, u1], [], _, _ =>
    cases e
    kernel_rfl
theorem ok_are_outs : dn_are_outs.Ok gc := ⟨by decide +kernel, co_are_outs, fun s hs => by
  have hs : s ∈ ([(2, [], [0, 1])] : List (Nat × List Str × List Nat)) := hs
  simp only [List.mem_cons, List.not_mem_nil, or_false] at hs
  rcases hs with rfl
  · exact bp_are_outs_0⟩
theorem co_is_circuit_of : (cSs gc dn_is_circuit_of.N dn_is_circuit_of.mu 60 dn_is_circuit_of.scope dn_is_circuit_of.body).map (·.1) = some dn_is_circuit_of.code := by kernel_rfl
theorem bp_is_circuit_of_0 : BindP dn_is_circuit_of.params dn_is_circuit_of.ps (1, [], [0]) := by
  intro x body scope kV doc pm cdv ct an us ws all h1 h2 e
  match us, ws, h1, h2 with
  | [u0], [], _, _ =>
    cases e
    kernel_rfl
theorem ok_is_circuit_of : dn_is_circuit_of.Ok gc := ⟨by decide +kernel, co_is_circuit_of, fun s hs => by
  have hs : s ∈ ([(1, [], [0])] : List (Nat × List Str × List Nat)) := hs
  simp only [List.mem_cons, List.not_mem_nil, or_false] at hs
  rcases hs with rfl
  · exact bp_is_circuit_of_0⟩
theorem co_shares_of : (cSs gc dn_shares_of.N dn_shares_of.mu 60 dn_shares_of.scope dn_shares_of.body).map (·.1) = some dn_shares_of.code := by kernel_rfl
theorem bp_shares_of_0 : BindP dn_shares_of.params dn_shares_of.ps (1, [], [0]) := by
  intro x body scope kV doc pm cdv ct an us ws all h1 h2 e
  match us, ws, h1, h2 with
  | [u0], [], _, _ =>
    cases e
    kernel_rfl
theorem ok_shares_of : dn_shares_of.Ok gc := ⟨by decide +kernel, co_shares_of, fun s hs => by
  have hs : s ∈ ([(1, [], [0])] : List (Nat × List Str × List Nat)) := hs
  simp only [List.mem_cons, List.not_mem_nil, or_false] at hs
  rcases hs with rfl
  · exact bp_shares_of_0⟩
theorem co_sources_of : (cSs gc dn_sources_of.N dn_sources_of.mu 60 dn_sources_of.scope dn_sources_of.body).map (·.1) = some dn_sources_of.code := by kernel_rfl
theorem bp_sources_of_0 : BindP dn_sources_of.params dn_sources_of.ps (1, [], [0]) := by
  intro x body scope kV doc pm cdv ct an us ws all h1 h2 e
  match us, ws, h1, h2 with
  | [u0], [], _, _ =>
    cases e
    kernel_rfl
theorem ok_sources_of : dn_sources_of.Ok gc := ⟨by decide +kernel, co_sources_of, fun s hs => by
  have hs : s ∈ ([(1, [], [0])] : List (Nat × List Str × List Nat)) := hs
  simp only [List.mem_cons, List.not_mem_nil, or_false] at hs
  rcases hs with rfl
  · exact bp_sources_of_0⟩
theorem co_want_circuit : (cSs gc dn_want_circuit.N dn_want_circuit.mu 60 dn_want_circuit.scope dn_want_circuit.body).map (·.1) = some dn_want_circuit.code := by kernel_rfl
theorem bp_want_circuit_0 : BindP dn_want_circuit.params dn_want_circuit.ps (1, [], [0]) := by
  intro x body scope kV doc pm cdv ct an us ws all h1 h2 e
  match us, ws, h1, h2 with
  | [u0], [], _, _ =>
    cases e
    kernel_rfl
theorem ok_want_circuit : dn_want_circuit.Ok gc := ⟨by decide +kernel, co_want_circuit, fun s hs => by
  have hs : s ∈ ([(1, [], [0])] : List (Nat × List Str × List Nat)) := hs
  simp only [List.mem_cons, List.not_mem_nil, or_false] at hs
  rcases hs with rfl
  · exact bp_want_circuit_0⟩
theorem co_want_wire : (cSs gc dn_want_wire.N dn_want_wire.mu 60 dn_want_wire.scope dn_want_wire.body).map (·.1) = some dn_want_wire.code := by kernel_rfl
theorem bp_want_wire_0 : BindP dn_want_wire.params dn_want_wire.ps (2, [], [0, 1]) := by
  intro x body scope kV doc pm cdv ct an us ws all h1 h2 e
  match us, ws, h1, h2 with
  | [u0, u1], [], _, _ =>
    cases e
    kernel_rfl
theorem ok_want_wire : dn_want_wire.Ok gc := ⟨by decide +kernel, co_want_wire, fun s hs => by
  have hs : s ∈ ([(2, [], [0, 1])] : List (Nat × List Str × List Nat)) := hs
  simp only [List.mem_cons, List.not_mem_nil, or_false] at hs
  rcases hs with rfl
  · exact bp_want_wire_0⟩
theorem co_tuples_of : (cSs gc dn_tuples_of.N dn_tuples_of.mu 60 dn_tuples_of.scope dn_tuples_of.body).map (·.1) = some dn_tuples_of.code := by kernel_rfl
theorem bp_tuples_of_0 : BindP dn_tuples_of.params dn_tuples_of.ps (1, [], [0]) := by
  intro x body scope kV doc pm cdv ct an us ws all h1 h2 e
  match us, ws, h1, h2 with
  | [u0], [], _, _ =>
    cases e
    kernel_rfl
theorem ok_tuples_of : dn_tuples_of.Ok gc := ⟨by decide +kernel, co_tuples_of, fun s hs => by
  have hs : s ∈ ([(1, [], [0])] : List (Nat × List Str × List Nat)) := hs
  simp only [List.mem_cons, List.not_mem_nil, or_false] at hs
  rcases hs with rfl
  · exact bp_tuples_of_0⟩
theorem co_points_of : (cSs gc dn_points_of.N dn_points_of.mu 60 dn_points_of.scope dn_points_of.body).map (·.1) = some dn_points_of.code := by kernel_rfl
theorem bp_points_of_0 : BindP dn_points_of.params dn_points_of.ps (1, [], [0]) := by
  intro x body scope kV doc pm cdv ct an us ws all h1 h2 e
  match us, ws, h1, h2 with
  | [u0], [], _, _ =>
    cases e
    kernel_rfl
theorem ok_points_of : dn_points_of.Ok gc := ⟨by decide +kernel, co_points_of, fun s hs => by
  have hs : s ∈ ([(1, [], [0])] : List (Nat × List Str × List Nat)) := hs
  simp only [List.mem_cons, List.not_mem_nil, or_false] at hs
  rcases hs with rfl
  · exact bp_points_of_0⟩
theorem co_twos : (cSs gc dn_twos.N dn_twos.mu 60 dn_twos.scope dn_twos.body).map (·.1) = some dn_twos.code := by kernel_rfl
theorem bp_twos_0 : BindP dn_twos.params dn_twos.ps (1, [], [0]) := by
  intro x body scope kV doc pm cdv ct an us ws all h1 h2 e
  match us, ws, h1, h2 with
  | [u0], [], _, _ =>
    cases e
    kernel_rfl
theorem ok_twos : dn_twos.Ok gc := ⟨by decide +kernel, co_twos, fun s hs => by
  have hs : s ∈ ([(1, [], [0])] : List (Nat × List Str × List Nat)) := hs
  simp only [List.mem_cons, List.not_mem_nil, or_false] at hs
  rcases hs with rfl
  · exact bp_twos_0⟩
theorem co_value_by : (cSs gc dn_value_by.N dn_value_by.mu 60 dn_value_by.scope dn_value_by.body).map (·.1) = some dn_value_by.code := by kernel_rfl
theorem bp_value_by_0 : BindP dn_value_by.params dn_value_by.ps (2, [], [0, 1]) := by
  intro x body scope kV doc pm cdv ct an us ws all h1 h2 e
  match us, ws, h1, h2 with
  | [u0, u1], [], _, _ =>
    cases e
    kernel_rfl
theorem ok_value_by : dn_value_by.Ok gc := ⟨by decide +kernel, co_value_by, fun s hs => by
  have hs : s ∈ ([(2, [], [0, 1])] : List (Nat × List Str × List Nat)) := hs
  simp only [List.mem_cons, List.not_mem_nil, or_false] at hs
  rcases hs with rfl
  · exact bp_value_by_0⟩
theorem co_values_at_of : (cSs gc dn_values_at_of.N dn_values_at_of.mu 60 dn_values_at_of.scope dn_values_at_of.body).map (·.1) = some dn_values_at_of.code := by kernel_rfl
theorem bp_values_at_of_0 : BindP dn_values_at_of.params dn_values_at_of.ps (2, [], [0, 1]) := by
  intro x body scope kV doc pm cdv ct an us ws all h1 h2 e
  match us, ws, h1, h2 with
  | [u0, u1], [], _, _ =>
    cases e
    kernel_rfl
theorem ok_values_at_of : dn_values_at_of.Ok gc := ⟨by decide +kernel, co_values_at_of, fun s hs => by
  have hs : s ∈ ([(2, [], [0, 1])] : List (Nat × List Str × List Nat)) := hs
  simp only [List.mem_cons, List.not_mem_nil, or_false] at hs
  rcases hs with rfl
  · exact bp_values_at_of_0⟩
theorem co_values_of : (cSs gc dn_values_of.N dn_values_of.mu 60 dn_values_of.scope dn_values_of.body).map (·.1) = some dn_values_of.code := by kernel_rfl
theorem bp_values_of_0 : BindP dn_values_of.params dn_values_of.ps (1, [], [0]) := by
  intro x body scope kV doc pm cdv ct an us ws all h1 h2 e
  match us, ws, h1, h2 with
  | [u0], [], _, _ =>
    cases e
    kernel_rfl
theorem ok_values_of : dn_values_of.Ok gc := ⟨by decide +kernel, co_values_of, fun s hs => by
  have hs : s ∈ ([(1, [], [0])] : List (Nat × List Str × List Nat)) := hs
  simp only [List.mem_cons, List.not_mem_nil, or_false] at hs
  rcases hs with rfl
  · exact bp_values_of_0⟩
theorem co_flip_of : (cSs gc dn_flip_of.N dn_flip_of.mu 60 dn_flip_of.scope dn_flip_of.body).map (·.1) = some dn_flip_of.code := by kernel_rfl
theorem bp_flip_of_0 : BindP dn_flip_of.params dn_flip_of.ps (2, [], [0, 1]) := by
  intro x body scope kV doc pm cdv ct an us ws all h1 h2 e
  match us, ws, h1, h2 with
  | [u0, u1], [], _, _ =>
    cases e
    kernel_rfl
theorem ok_flip_of : dn_flip_of.Ok gc := ⟨by decide +kernel, co_flip_of, fun s hs => by
  have hs : s ∈ ([(2, [], [0, 1])] : List (Nat × List Str × List Nat)) := hs
  simp only [List.mem_cons, List.not_mem_nil, or_false] at hs
  rcases hs with rfl
  · exact bp_flip_of_0⟩
theorem co_affine_of : (cSs gc dn_affine_of.N dn_affine_of.mu 60 dn_affine_of.scope dn_affine_of.body).map (·.1) = some dn_affine_of.code := by kernel_rfl
theorem bp_affine_of_0 : BindP dn_affine_of.params dn_affine_of.ps (2, [], [0, 1]) := by
  intro x body scope kV doc pm cdv ct an us ws all h1 h2 e
  match us, ws, h1, h2 with
  | [u0, u1], [], _, _ =>
    cases e
    kernel_rfl
theorem ok_affine_of : dn_affine_of.Ok gc := ⟨by decide +kernel, co_affine_of, fun s hs => by
  have hs : s ∈ ([(2, [], [0, 1])] : List (Nat × List Str × List Nat)) := hs
  simp only [List.mem_cons, List.not_mem_nil, or_false] at hs
  rcases hs with rfl
  · exact bp_affine_of_0⟩
theorem co_affine : (cSs gc dn_affine.N dn_affine.mu 60 dn_affine.scope dn_affine.body).map (·.1) = some dn_affine.code := by kernel_rfl
theorem bp_affine_0 : BindP dn_affine.params dn_affine.ps (0, ["wire", "circuit"], [1, 0]) := by
  intro x body scope kV doc pm cdv ct an us ws all h1 h2 e
  match us, ws, h1, h2 with
  | [], [w0, w1], _, _ =>
    cases e
    kernel_rfl
theorem bp_affine_1 : BindP dn_affine.params dn_affine.ps (2, [], [0, 1]) := by
  intro x body scope kV doc pm cdv ct an us ws all h1 h2 e
  match us, ws, h1, h2 with
  | [u0, u1], [], _, _ =>
    cases e
    kernel_rfl
theorem ok_affine : dn_affine.Ok gc := ⟨by decide +kernel, co_affine, fun s hs => by
  have hs : s ∈ ([(0, ["wire", "circuit"], [1, 0]), (2, [], [0, 1])] : List (Nat × List Str × List Nat)) := hs
  simp only [List.mem_cons, List.not_mem_nil, or_false] at hs
  rcases hs with rfl | rfl
  · exact bp_affine_0
  · exact bp_affine_1⟩
theorem co__law_pot : (cSs gc dn__law_pot.N dn__law_pot.mu 60 dn__law_pot.scope dn__law_pot.body).map (·.1) = some dn__law_pot.code := by kernel_rfl
theorem bp__law_pot_0 : BindP dn__law_pot.params dn__law_pot.ps (2, [], [0, 1]) := by
  intro x body scope kV doc pm cdv ct an us ws all h1 h2 e
  match us, ws, h1, h2 with
  | [u0, u1], [], _, _ =>
    cases e
    kernel_rfl
theorem ok__law_pot : dn__law_pot.Ok gc := ⟨by decide +kernel, co__law_pot, fun s hs => by
  have hs : s ∈ ([(2, [], [0, 1])] : List (Nat × List Str × List Nat)) := hs
  simp only [List.mem_cons, List.not_mem_nil, or_false] at hs
  rcases hs with rfl
  · exact bp__law_pot_0⟩
theorem co__law_draw : (cSs gc dn__law_draw.N dn__law_draw.mu 60 dn__law_draw.scope dn__law_draw.body).map (·.1) = some dn__law_draw.code := by kernel_rfl
theorem bp__law_draw_0 : BindP dn__law_draw.params dn__law_draw.ps (2, [], [0, 1]) := by
  intro x body scope kV doc pm cdv ct an us ws all h1 h2 e
  match us, ws, h1, h2 with
  | [u0, u1], [], _, _ =>
    cases e
    kernel_rfl
theorem ok__law_draw : dn__law_draw.Ok gc := ⟨by decide +kernel, co__law_draw, fun s hs => by
  have hs : s ∈ ([(2, [], [0, 1])] : List (Nat × List Str × List Nat)) := hs
  simp only [List.mem_cons, List.not_mem_nil, or_false] at hs
  rcases hs with rfl
  · exact bp__law_draw_0⟩
theorem co__law_pick : (cSs gc dn__law_pick.N dn__law_pick.mu 60 dn__law_pick.scope dn__law_pick.body).map (·.1) = some dn__law_pick.code := by kernel_rfl
theorem bp__law_pick_0 : BindP dn__law_pick.params dn__law_pick.ps (2, [], [0, 1]) := by
  intro x body scope kV doc pm cdv ct an us ws all h1 h2 e
  match us, ws, h1, h2 with
  | [u0, u1], [], _, _ =>
    cases e
    kernel_rfl
theorem ok__law_pick : dn__law_pick.Ok gc := ⟨by decide +kernel, co__law_pick, fun s hs => by
  have hs : s ∈ ([(2, [], [0, 1])] : List (Nat × List Str × List Nat)) := hs
  simp only [List.mem_cons, List.not_mem_nil, or_false] at hs
  rcases hs with rfl
  · exact bp__law_pick_0⟩
theorem co__law_sources : (cSs gc dn__law_sources.N dn__law_sources.mu 60 dn__law_sources.scope dn__law_sources.body).map (·.1) = some dn__law_sources.code := by kernel_rfl
theorem bp__law_sources_0 : BindP dn__law_sources.params dn__law_sources.ps (1, [], [0]) := by
  intro x body scope kV doc pm cdv ct an us ws all h1 h2 e
  match us, ws, h1, h2 with
  | [u0], [], _, _ =>
    cases e
    kernel_rfl
theorem ok__law_sources : dn__law_sources.Ok gc := ⟨by decide +kernel, co__law_sources, fun s hs => by
  have hs : s ∈ ([(1, [], [0])] : List (Nat × List Str × List Nat)) := hs
  simp only [List.mem_cons, List.not_mem_nil, or_false] at hs
  rcases hs with rfl
  · exact bp__law_sources_0⟩
theorem co__law_tuples : (cSs gc dn__law_tuples.N dn__law_tuples.mu 60 dn__law_tuples.scope dn__law_tuples.body).map (·.1) = some dn__law_tuples.code := by kernel_rfl
theorem bp__law_tuples_0 : BindP dn__law_tuples.params dn__law_tuples.ps (1, [], [0]) := by
  intro x body scope kV doc pm cdv ct an us ws all h1 h2 e
  match us, ws, h1, h2 with
  | [u0], [], _, _ =>
    cases e
    kernel_rfl
theorem ok__law_tuples : dn__law_tuples.Ok gc := ⟨by decide +kernel, co__law_tuples, fun s hs => by
  have hs : s ∈ ([(1, [], [0])] : List (Nat × List Str × List Nat)) := hs
  simp only [List.mem_cons, List.not_mem_nil, or_false] at hs
  rcases hs with rfl
  · exact bp__law_tuples_0⟩
theorem co__law_points : (cSs gc dn__law_points.N dn__law_points.mu 60 dn__law_points.scope dn__law_points.body).map (·.1) = some dn__law_points.code := by kernel_rfl
theorem bp__law_points_0 : BindP dn__law_points.params dn__law_points.ps (1, [], [0]) := by
  intro x body scope kV doc pm cdv ct an us ws all h1 h2 e
  match us, ws, h1, h2 with
  | [u0], [], _, _ =>
    cases e
    kernel_rfl
theorem ok__law_points : dn__law_points.Ok gc := ⟨by decide +kernel, co__law_points, fun s hs => by
  have hs : s ∈ ([(1, [], [0])] : List (Nat × List Str × List Nat)) := hs
  simp only [List.mem_cons, List.not_mem_nil, or_false] at hs
  rcases hs with rfl
  · exact bp__law_points_0⟩
theorem co__law_values : (cSs gc dn__law_values.N dn__law_values.mu 60 dn__law_values.scope dn__law_values.body).map (·.1) = some dn__law_values.code := by kernel_rfl
theorem bp__law_values_0 : BindP dn__law_values.params dn__law_values.ps (2, [], [0, 1]) := by
  intro x body scope kV doc pm cdv ct an us ws all h1 h2 e
  match us, ws, h1, h2 with
  | [u0, u1], [], _, _ =>
    cases e
    kernel_rfl
theorem ok__law_values : dn__law_values.Ok gc := ⟨by decide +kernel, co__law_values, fun s hs => by
  have hs : s ∈ ([(2, [], [0, 1])] : List (Nat × List Str × List Nat)) := hs
  simp only [List.mem_cons, List.not_mem_nil, or_false] at hs
  rcases hs with rfl
  · exact bp__law_values_0⟩
theorem co__law_xor : (cSs gc dn__law_xor.N dn__law_xor.mu 60 dn__law_xor.scope dn__law_xor.body).map (·.1) = some dn__law_xor.code := by kernel_rfl
theorem bp__law_xor_0 : BindP dn__law_xor.params dn__law_xor.ps (1, [], [0]) := by
  intro x body scope kV doc pm cdv ct an us ws all h1 h2 e
  match us, ws, h1, h2 with
  | [u0], [], _, _ =>
    cases e
    kernel_rfl
theorem ok__law_xor : dn__law_xor.Ok gc := ⟨by decide +kernel, co__law_xor, fun s hs => by
  have hs : s ∈ ([(1, [], [0])] : List (Nat × List Str × List Nat)) := hs
  simp only [List.mem_cons, List.not_mem_nil, or_false] at hs
  rcases hs with rfl
  · exact bp__law_xor_0⟩
theorem co__law_circuit : (cSs gc dn__law_circuit.N dn__law_circuit.mu 60 dn__law_circuit.scope dn__law_circuit.body).map (·.1) = some dn__law_circuit.code := by kernel_rfl
theorem bp__law_circuit_0 : BindP dn__law_circuit.params dn__law_circuit.ps (3, [], [0, 1, 2]) := by
  intro x body scope kV doc pm cdv ct an us ws all h1 h2 e
  match us, ws, h1, h2 with
  | [u0, u1, u2], [], _, _ =>
    cases e
    kernel_rfl
theorem ok__law_circuit : dn__law_circuit.Ok gc := ⟨by decide +kernel, co__law_circuit, fun s hs => by
  have hs : s ∈ ([(3, [], [0, 1, 2])] : List (Nat × List Str × List Nat)) := hs
  simp only [List.mem_cons, List.not_mem_nil, or_false] at hs
  rcases hs with rfl
  · exact bp__law_circuit_0⟩
theorem co__law_affine : (cSs gc dn__law_affine.N dn__law_affine.mu 60 dn__law_affine.scope dn__law_affine.body).map (·.1) = some dn__law_affine.code := by kernel_rfl
theorem bp__law_affine_0 : BindP dn__law_affine.params dn__law_affine.ps (2, [], [0, 1]) := by
  intro x body scope kV doc pm cdv ct an us ws all h1 h2 e
  match us, ws, h1, h2 with
  | [u0, u1], [], _, _ =>
    cases e
    kernel_rfl
theorem ok__law_affine : dn__law_affine.Ok gc := ⟨by decide +kernel, co__law_affine, fun s hs => by
  have hs : s ∈ ([(2, [], [0, 1])] : List (Nat × List Str × List Nat)) := hs
  simp only [List.mem_cons, List.not_mem_nil, or_false] at hs
  rcases hs with rfl
  · exact bp__law_affine_0⟩
theorem co__law_right : (cSs gc dn__law_right.N dn__law_right.mu 60 dn__law_right.scope dn__law_right.body).map (·.1) = some dn__law_right.code := by kernel_rfl
theorem bp__law_right_0 : BindP dn__law_right.params dn__law_right.ps (1, [], [0]) := by
  intro x body scope kV doc pm cdv ct an us ws all h1 h2 e
  match us, ws, h1, h2 with
  | [u0], [], _, _ =>
    cases e
    kernel_rfl
theorem ok__law_right : dn__law_right.Ok gc := ⟨by decide +kernel, co__law_right, fun s hs => by
  have hs : s ∈ ([(1, [], [0])] : List (Nat × List Str × List Nat)) := hs
  simp only [List.mem_cons, List.not_mem_nil, or_false] at hs
  rcases hs with rfl
  · exact bp__law_right_0⟩
theorem co__law_sums_right : (cSs gc dn__law_sums_right.N dn__law_sums_right.mu 60 dn__law_sums_right.scope dn__law_sums_right.body).map (·.1) = some dn__law_sums_right.code := by kernel_rfl
theorem bp__law_sums_right_0 : BindP dn__law_sums_right.params dn__law_sums_right.ps (2, [], [0, 1]) := by
  intro x body scope kV doc pm cdv ct an us ws all h1 h2 e
  match us, ws, h1, h2 with
  | [u0, u1], [], _, _ =>
    cases e
    kernel_rfl
theorem ok__law_sums_right : dn__law_sums_right.Ok gc := ⟨by decide +kernel, co__law_sums_right, fun s hs => by
  have hs : s ∈ ([(2, [], [0, 1])] : List (Nat × List Str × List Nat)) := hs
  simp only [List.mem_cons, List.not_mem_nil, or_false] at hs
  rcases hs with rfl
  · exact bp__law_sums_right_0⟩
theorem co_law : (cSs gc dn_law.N dn_law.mu 60 dn_law.scope dn_law.body).map (·.1) = some dn_law.code := by kernel_rfl
theorem bp_law_0 : BindP dn_law.params dn_law.ps (1, [], [0]) := by
  intro x body scope kV doc pm cdv ct an us ws all h1 h2 e
  match us, ws, h1, h2 with
  | [u0], [], _, _ =>
    cases e
    kernel_rfl
theorem ok_law : dn_law.Ok gc := ⟨by decide +kernel, co_law, fun s hs => by
  have hs : s ∈ ([(1, [], [0])] : List (Nat × List Str × List Nat)) := hs
  simp only [List.mem_cons, List.not_mem_nil, or_false] at hs
  rcases hs with rfl
  · exact bp_law_0⟩
theorem ok_all : ∀ d, d ∈ tb → d.Ok gc := fun d hd => by
  have hd : d ∈ [dn_is_integer, dn_is_count, dn_is_row, dn_is_word, dn_is_below, dn_are_inputs, dn_is_wire_of, dn_is_out_of, dn_are_outs, dn_is_circuit_of, dn_shares_of, dn_sources_of, dn_want_circuit, dn_want_wire, dn_tuples_of, dn_points_of, dn_twos, dn_value_by, dn_values_at_of, dn_values_of, dn_flip_of, dn_affine_of, dn_affine, dn__law_pot, dn__law_draw, dn__law_pick, dn__law_sources, dn__law_tuples, dn__law_points, dn__law_values, dn__law_xor, dn__law_circuit, dn__law_affine, dn__law_right, dn__law_sums_right, dn_law] := hd
  simp only [List.mem_cons, List.not_mem_nil, or_false] at hd
  rcases hd with rfl | rfl | rfl | rfl | rfl | rfl | rfl | rfl | rfl | rfl | rfl | rfl | rfl | rfl | rfl | rfl | rfl | rfl | rfl | rfl | rfl | rfl | rfl | rfl | rfl | rfl | rfl | rfl | rfl | rfl | rfl | rfl | rfl | rfl | rfl | rfl
  · exact ok_is_integer
  · exact ok_is_count
  · exact ok_is_row
  · exact ok_is_word
  · exact ok_is_below
  · exact ok_are_inputs
  · exact ok_is_wire_of
  · exact ok_is_out_of
  · exact ok_are_outs
  · exact ok_is_circuit_of
  · exact ok_shares_of
  · exact ok_sources_of
  · exact ok_want_circuit
  · exact ok_want_wire
  · exact ok_tuples_of
  · exact ok_points_of
  · exact ok_twos
  · exact ok_value_by
  · exact ok_values_at_of
  · exact ok_values_of
  · exact ok_flip_of
  · exact ok_affine_of
  · exact ok_affine
  · exact ok__law_pot
  · exact ok__law_draw
  · exact ok__law_pick
  · exact ok__law_sources
  · exact ok__law_tuples
  · exact ok__law_points
  · exact ok__law_values
  · exact ok__law_xor
  · exact ok__law_circuit
  · exact ok__law_affine
  · exact ok__law_right
  · exact ok__law_sums_right
  · exact ok_law
end Lw

set_option Elab.async false
set_option linter.all false
set_option maxRecDepth 100000
set_option maxHeartbeats 4000000
/-! Vm: how its runs are told in plain Lean. -/
namespace Vm
open PySem PySem.Spec PyProof.Rows L2
section
variable {α β γ : Type}
theorem r_bind {a : α} {f : α → M β} : bind (ret a) f = f a := rfl
theorem r_assoc {x : M α} {f : α → M β} {g : β → M γ} : bind (bind x f) g = bind x fun a => bind (f a) g := funext fun s => by
  unfold bind
  cases x s <;> rfl
theorem r_look_v {d : D} : look (.v d) = ret d := rfl
theorem r_look_n {d : D} : look (.n d) = ret d := rfl
theorem r_look_g {d : D} : look (.g d) = ret d := rfl
theorem r_lookP_v {d : D} : lookP (.v d) = ret d := rfl
theorem r_lookP_n {d : D} : lookP (.n d) = ret d := rfl
theorem r_take_v {d : D} : take (.v d) = ret d := rfl
theorem r_take_n {d : D} : take (.n d) = ret d := rfl
theorem r_some {a : α} : ofO (some a) = ret a := rfl
theorem r_hold_v {mu : Bool} {d : D} : hold mu (.v d) = ret (.v d) := rfl
theorem r_hold_n {d : D} : hold false (.n d) = ret (.v d) := rfl
theorem r_hold_g {mu : Bool} {d : D} : hold mu (.g d) = ret (.g d) := rfl
theorem r_hold_p {mu : Bool} {k : Nat} : hold mu (.p k) = ret (.p k) := rfl
theorem r_getV {i : Nat} {e : Env} {d : D} (h : e[i]? = some (some (.v d))) : getV i e = ret (.v d) := funext fun s => by
  unfold getV
  rw [h]
  rfl
theorem r_getP {i : Nat} {e : Env} {k : Nat} (h : e[i]? = some (some (.p k))) : getV i e = ret (.p k) := funext fun s => by
  unfold getV
  rw [h]
  rfl
theorem r_getG {i : Nat} {e : Env} {d : D} (h : e[i]? = some (some (.g d))) : getV i e = ret (.g d) := funext fun s => by
  unfold getV
  rw [h]
  rfl
theorem r_ok {x : M α} {f : α → M β} {s s1 : Sto} {a : α} (h : x s = .ok a s1) : bind x f s = f a s1 := by
  unfold bind
  rw [h]
theorem r_newL {ds : List D} (h : ds.length ≤ sizeLine) : newL ds = ret (.n (.list ds)) := funext fun s => by
  have g : guard (lenOk ds.length) = ret () := funext fun s => by
    unfold guard lenOk
    rw [if_pos (decide_eq_true h)]
    rfl
  unfold newL
  rw [g]
  rfl
end
/-- what is walked, told ahead -/
structure SrcIs (src : Src) (ds : List D) : Prop where
  len : lenS src = ret ds.length
  at_ : ∀ i (h : i < ds.length), itemS src i = ret ds[i]
theorem is_seqL {ds : List D} : SrcIs (.seq (.v (.list ds))) ds := ⟨rfl, fun i h => by
  show ofO ds[i]? = _
  rw [List.getElem?_eq_getElem h]
  rfl⟩
theorem is_seqN {ds : List D} : SrcIs (.seq (.n (.list ds))) ds := ⟨rfl, fun i h => by
  show ofO ds[i]? = _
  rw [List.getElem?_eq_getElem h]
  rfl⟩
theorem is_seqG {ds : List D} : SrcIs (.seq (.g (.list ds))) ds := ⟨rfl, fun i h => by
  show ofO ds[i]? = _
  rw [List.getElem?_eq_getElem h]
  rfl⟩
theorem is_seqT {ds : List D} : SrcIs (.seq (.v (.tuple ds))) ds := ⟨rfl, fun i h => by
  show ofO ds[i]? = _
  rw [List.getElem?_eq_getElem h]
  rfl⟩
def enumD (ds : List D) : List D := ds.zipIdx.map fun p => .tuple [.int p.2, p.1]
theorem is_enumT {ds : List D} : SrcIs (.enum (.v (.tuple ds))) (enumD ds) := ⟨by
  unfold enumD
  rw [List.length_map, List.length_zipIdx]
  rfl, fun i h => by
  unfold enumD at h
  rw [List.length_map, List.length_zipIdx] at h
  show bind (ofO ds[i]?) _ = _
  rw [List.getElem?_eq_getElem h]
  unfold enumD
  rw [List.getElem_map, List.getElem_zipIdx]
  simp only [Nat.zero_add]
  rfl⟩
theorem is_rng {lo : Int} {n : Nat} : SrcIs (.rng lo n) ((List.range n).map fun (i : Nat) => .int (lo + (i : Int))) := ⟨by
  rw [List.length_map, List.length_range]
  rfl, fun i h => by
  rw [List.length_map, List.length_range] at h
  show (if i < n then _ else _) = _
  rw [if_pos h, List.getElem_map, List.getElem_range]⟩
theorem mapS_from {src : Src} {ds : List D} (k : SrcIs src ds) {f : D → M (List D)} {g : D → List D} (h : ∀ d ∈ ds, f d = ret (g d)) : ∀ m i, i + m = ds.length → mapS src f m i = ret ((ds.drop i).flatMap g)
  | 0, i, e => by
    unfold mapS
    rw [k.len, r_bind, if_pos (by omega), List.drop_of_length_le (by omega)]
    rfl
  | m + 1, i, e => by
    unfold mapS
    have hi : i < ds.length := by omega
    rw [k.at_ i hi, r_bind, h _ (List.getElem_mem hi), r_bind, mapS_from k h m (i + 1) (by omega), r_bind, List.drop_eq_getElem_cons hi, List.flatMap_cons]
/-- a comprehension over what is told ahead -/
theorem mapS_is {src : Src} {ds : List D} {n : Nat} (k : SrcIs src ds) (hn : n = ds.length) {f : D → M (List D)} {g : D → List D} (h : ∀ d ∈ ds, f d = ret (g d)) : mapS src f n 0 = ret (ds.flatMap g) := by
  subst hn
  rw [mapS_from k h ds.length 0 (by omega)]
  rfl
theorem loopS_from {src : Src} {ds : List D} (k : SrcIs src ds) {body : D → Env → M Fl} {I : Nat → Env → Sto → Prop} {P : R → Sto → Prop}
    (h : ∀ i (hi : i < ds.length) e s, I i e s → (∃ e' s', (body ds[i] e s = .ok (.nx e') s' ∨ body ds[i] e s = .ok (.ct e') s') ∧ I (i + 1) e' s') ∨ ∃ r s', body ds[i] e s = .ok (.rt r) s' ∧ P r s') :
    ∀ m i, i + m = ds.length → ∀ e s, I i e s → (∃ e' s', loopS src body m i e s = .ok (.nx e') s' ∧ I ds.length e' s') ∨ ∃ r s', loopS src body m i e s = .ok (.rt r) s' ∧ P r s'
  | 0, i, q, e, s, z => by
    left
    refine ⟨e, s, ?_, ?_⟩
    · unfold loopS
      rw [k.len, r_bind, if_pos (by omega)]
      rfl
    · have : i = ds.length := by omega
      rw [← this]
      exact z
  | m + 1, i, q, e, s, z => by
    have hi : i < ds.length := by omega
    unfold loopS
    rw [k.at_ i hi, r_bind]
    rcases h i hi e s z with ⟨e', s', b, z'⟩ | ⟨r, s', b, p⟩
    · have ih := loopS_from k h m (i + 1) (by omega) e' s' z'
      rcases b with b | b
      · rw [r_ok b]
        exact ih
      · rw [r_ok b]
        exact ih
    · right
      exact ⟨r, s', by rw [r_ok b]; rfl, p⟩
/-- a loop that runs to its end -/
theorem loopS_is {src : Src} {ds : List D} {n : Nat} (k : SrcIs src ds) (hn : n = ds.length) {body : D → Env → M Fl} (I : Nat → Env → Sto → Prop)
    (h : ∀ i (hi : i < ds.length) e s, I i e s → ∃ e' s', body ds[i] e s = .ok (.nx e') s' ∧ I (i + 1) e' s') {e : Env} {s : Sto} (z : I 0 e s) :
    ∃ e' s', loopS src body n 0 e s = .ok (.nx e') s' ∧ I ds.length e' s' := by
  subst hn
  rcases loopS_from (P := fun _ _ => False) k (fun i hi e s z => by
    obtain ⟨e', s', b, z'⟩ := h i hi e s z
    exact .inl ⟨e', s', .inl b, z'⟩) ds.length 0 (by omega) e s z with q | ⟨_, _, _, f⟩
  · exact q
  · exact f.elim
theorem leave_v {base : Nat} {d : D} {s : Sto} : leave base (.rt (.v d)) s = .ok (.v d) (s.take base) := rfl
theorem leave_n {base : Nat} {d : D} {s : Sto} : leave base (.rt (.n d)) s = .ok (.n d) (s.take base) := rfl
theorem g_v {d : D} {e : Env} : getV 0 (some (.v d) :: e) = ret (.v d) := rfl
theorem g_p {k : Nat} {e : Env} : getV 0 (some (.p k) :: e) = ret (.p k) := rfl
theorem g_g {d : D} {e : Env} : getV 0 (some (.g d) :: e) = ret (.g d) := rfl
theorem g_s {i : Nat} {x : Option Vl} {e : Env} : getV (i + 1) (x :: e) = getV i e := rfl
theorem ev_fn {T : List Fd} {wh n i : Nat} {fd : Fd} {vs : List Vl} (h : T[i]? = some fd) : evC T wh (n + 1) i vs = runF ⟨evC T wh n, wh⟩ fd vs := by
  conv => lhs; unfold evC
  rw [h]
theorem take_len {s : Sto} : s.take s.length = s := List.take_length
/-- a run of a def that changes nothing: from its body's -/
theorem run_ret {C : Cfg} {fd : Fd} {vs : List Vl} {d : D} (h : vs.length = fd.np) (b : evSs C fd.body (vs.map some ++ List.replicate (fd.nn - fd.np) none) = ret (.rt (.v d))) : runF C fd vs = ret (.v d) := funext fun s => by
  unfold runF
  rw [if_pos h, b, r_bind, leave_v, take_len]
  rfl
theorem run_retN {C : Cfg} {fd : Fd} {vs : List Vl} {d : D} (h : vs.length = fd.np) (b : evSs C fd.body (vs.map some ++ List.replicate (fd.nn - fd.np) none) = ret (.rt (.n d))) : runF C fd vs = ret (.n d) := funext fun s => by
  unfold runF
  rw [if_pos h, b, r_bind, leave_n, take_len]
  rfl
end Vm

set_option Elab.async false
set_option linter.all false
set_option maxRecDepth 100000
set_option maxHeartbeats 4000000
/-! Vm: its runs by what they end in. -/
namespace Vm
open PySem PySem.Spec PyProof.Rows L2
section
variable {α β : Type} {s : Sto}
def wp (x : M α) (s : Sto) (Q : α → Sto → Prop) : Prop := ∃ a s', x s = .ok a s' ∧ Q a s'
@[simp] theorem wp_ret {a : α} {Q : α → Sto → Prop} : wp (ret a) s Q ↔ Q a s := ⟨fun ⟨_, _, e, q⟩ => by cases e; exact q, fun q => ⟨_, _, rfl, q⟩⟩
@[simp] theorem wp_bind {x : M α} {f : α → M β} {Q : β → Sto → Prop} : wp (bind x f) s Q ↔ wp x s fun a s' => wp (f a) s' Q := by
  constructor
  · rintro ⟨b, s2, e, q⟩
    obtain ⟨a, s1, e1, e2⟩ := bind_ok e
    exact ⟨a, s1, e1, b, s2, e2, q⟩
  · rintro ⟨a, s1, e1, b, s2, e2, q⟩
    exact ⟨b, s2, by unfold bind; rw [e1]; exact e2, q⟩
@[simp] theorem wp_stuck {Q : α → Sto → Prop} : wp stuck s Q ↔ False := ⟨(fun ⟨_, _, e, _⟩ => by cases e), False.elim⟩
theorem wp_mono {x : M α} {Q P : α → Sto → Prop} (h : wp x s P) (q : ∀ a s', P a s' → Q a s') : wp x s Q := by
  obtain ⟨a, s', e, p⟩ := h
  exact ⟨a, s', e, q _ _ p⟩
@[simp] theorem wp_if {c : Prop} [Decidable c] {x y : M α} {Q : α → Sto → Prop} : wp (if c then x else y) s Q ↔ if c then wp x s Q else wp y s Q := by
  by_cases h : c
  · rw [if_pos h, if_pos h]
  · rw [if_neg h, if_neg h]
@[simp] theorem wp_some {a : α} {Q : α → Sto → Prop} : wp (ofO (some a)) s Q ↔ Q a s := wp_ret
@[simp] theorem wp_ofif {c : Prop} [Decidable c] {a : α} {Q : α → Sto → Prop} : wp (ofO (if c then some a else none)) s Q ↔ c ∧ Q a s := by
  by_cases h : c
  · rw [if_pos h]
    exact wp_some.trans (by simp [h])
  · rw [if_neg h]
    constructor
    · rintro ⟨_, _, e, _⟩
      cases e
    · exact fun z => (h z.1).elim
theorem ret_of {x : M α} {a : α} (h : ∀ s, wp x s fun b s' => b = a ∧ s' = s) : x = ret a := funext fun s => by
  obtain ⟨b, s', e, rfl, rfl⟩ := h s
  exact e
theorem of_ret {x : M α} {a : α} {Q : α → Sto → Prop} (h : x = ret a) (q : Q a s) : wp x s Q := by
  rw [h]
  exact wp_ret.mpr q
@[simp] theorem w_look_v {d : D} : look (.v d) = ret d := (rfl)
@[simp] theorem look_n {d : D} : look (.n d) = ret d := (rfl)
@[simp] theorem look_g {d : D} : look (.g d) = ret d := (rfl)
@[simp] theorem lookP_v {d : D} : lookP (.v d) = ret d := (rfl)
@[simp] theorem lookP_n {d : D} : lookP (.n d) = ret d := (rfl)
@[simp] theorem take_v {d : D} : take (.v d) = ret d := (rfl)
@[simp] theorem take_n {d : D} : take (.n d) = ret d := (rfl)
@[simp] theorem hold_v {mu : Bool} {d : D} : hold mu (.v d) = ret (.v d) := (rfl)
@[simp] theorem hold_nf {d : D} : hold false (.n d) = ret (.v d) := (rfl)
@[simp] theorem hold_g {mu : Bool} {d : D} : hold mu (.g d) = ret (.g d) := (rfl)
@[simp] theorem hold_p {mu : Bool} {k : Nat} : hold mu (.p k) = ret (.p k) := (rfl)
@[simp] theorem w_bind_ret {a : α} {f : α → M β} : bind (ret a) f = f a := (rfl)
@[simp] theorem wp_hold_n {d : D} {Q : Vl → Sto → Prop} : wp (hold true (.n d)) s Q ↔ Q (.p s.length) (s ++ [.fl d]) := by
  show wp (bind (alloc d) fun k => ret (.p k)) s Q ↔ _
  constructor
  · rintro ⟨_, _, e, q⟩
    cases e
    exact q
  · exact fun q => ⟨_, _, rfl, q⟩
theorem wp_look_p {k : Nat} {d : D} {Q : D → Sto → Prop} (h : s[k]? = some (.fl d)) : wp (look (.p k)) s Q ↔ Q d s := by
  have e : look (.p k) s = .ok d s := by
    unfold look view
    show (match (s[k]?).bind Ob.data? with | some d => Out.ok d s | none => Out.no) = _
    rw [h]
    rfl
  constructor
  · rintro ⟨_, _, e2, q⟩
    rw [e] at e2
    cases e2
    exact q
  · exact fun q => ⟨_, _, e, q⟩
theorem wp_lookP_p {k : Nat} {d : D} {Q : D → Sto → Prop} (h : s[k]? = some (.fl d)) : wp (lookP (.p k)) s Q ↔ Q d s := wp_look_p h
theorem wp_take_p {k : Nat} {d : D} {Q : D → Sto → Prop} (h : s[k]? = some (.fl d)) : wp (take (.p k)) s Q ↔ Q d (s.set k .dead) := by
  have e : take (.p k) s = .ok d (s.set k .dead) := by
    unfold take
    simp only [h]
  constructor
  · rintro ⟨_, _, e2, q⟩
    rw [e] at e2
    cases e2
    exact q
  · exact fun q => ⟨_, _, e, q⟩
theorem wp_modify {k : Nat} {d e : D} {f : D → Option D} {Q : Unit → Sto → Prop} (h : s[k]? = some (.fl d)) (hf : f d = some e) : wp (modify (.p k) f) s Q ↔ Q () (s.set k (.fl e)) := by
  have z : modify (.p k) f s = .ok () (s.set k (.fl e)) := by
    unfold modify
    simp only [h, hf]
  constructor
  · rintro ⟨_, _, e2, q⟩
    rw [z] at e2
    cases e2
    exact q
  · exact fun q => ⟨_, _, z, q⟩
theorem wp_pop {k : Nat} {d e y : D} {f : D → Option (D × D)} {Q : R → Sto → Prop} (h : s[k]? = some (.fl d)) (hf : f d = some (y, e)) : wp (popM (.p k) f) s Q ↔ Q (.v y) (s.set k (.fl e)) := by
  have z : popM (.p k) f s = .ok (.v y) (s.set k (.fl e)) := by
    unfold popM
    simp only [h, hf]
  constructor
  · rintro ⟨_, _, e2, q⟩
    rw [z] at e2
    cases e2
    exact q
  · exact fun q => ⟨_, _, z, q⟩
theorem wp_appD {k : Nat} {ds : List D} {d : D} {Q : Unit → Sto → Prop} (h : s[k]? = some (.fl (.list ds))) (hl : ds.length < sizeLine) : wp (modify (.p k) (appD d)) s Q ↔ Q () (s.set k (.fl (.list (ds ++ [d])))) :=
  wp_modify h (by show (if decide (ds.length < sizeLine) then _ else _) = _; rw [if_pos (decide_eq_true hl)])
theorem wp_extD {k : Nat} {ds es : List D} {Q : Unit → Sto → Prop} (h : s[k]? = some (.fl (.list ds))) (hl : ds.length + es.length ≤ sizeLine) : wp (modify (.p k) (extD es)) s Q ↔ Q () (s.set k (.fl (.list (ds ++ es)))) :=
  wp_modify h (by show (if lenOk (ds.length + es.length) then _ else _) = _; rw [if_pos (show lenOk _ = true from decide_eq_true hl)])
theorem wp_newL {ds : List D} {Q : R → Sto → Prop} (h : ds.length ≤ sizeLine) : wp (newL ds) s Q ↔ Q (.n (.list ds)) s := by
  rw [r_newL h]
  exact wp_ret
/-! ### the store's end -/
theorem st_get {pre t : Sto} {n i : Nat} (h : pre.length = n) : (pre ++ t)[n + i]? = t[i]? := by
  subst h
  rw [List.getElem?_append_right (by omega)]
  congr 1
  omega
theorem st_get0 {pre t : Sto} {n : Nat} (h : pre.length = n) : (pre ++ t)[n]? = t[0]? := st_get (i := 0) h
theorem st_set {pre t : Sto} {n i : Nat} {o : Ob} (h : pre.length = n) : (pre ++ t).set (n + i) o = pre ++ t.set i o := by
  subst h
  have e := List.set_append_right (s := pre) (t := t) (pre.length + i) o (by omega)
  rw [show pre.length + i - pre.length = i by omega] at e
  exact e
theorem st_set0 {pre t : Sto} {n : Nat} {o : Ob} (h : pre.length = n) : (pre ++ t).set n o = pre ++ t.set 0 o := st_set (i := 0) h
theorem st_len {pre t : Sto} {n : Nat} (h : pre.length = n) : (pre ++ t).length = n + t.length := by
  rw [List.length_append, h]
theorem st_take {pre t : Sto} {n : Nat} (h : pre.length = n) : (pre ++ t).take n = pre := by
  subst h
  exact List.take_left
/-! ### loops -/
/-- what is walked, told as the state is -/
def SrcAt (src : Src) (ds : List D) (s : Sto) : Prop := lenS src s = .ok ds.length s ∧ ∀ i (h : i < ds.length), itemS src i s = .ok ds[i] s
theorem SrcIs.at {src : Src} {ds : List D} (k : SrcIs src ds) : SrcAt src ds s := ⟨by rw [k.len]; rfl, fun i h => by rw [k.at_ i h]; rfl⟩
theorem at_p {k : Nat} {ds : List D} (h : s[k]? = some (.fl (.list ds))) : SrcAt (.seq (.p k)) ds s := by
  have e : look (.p k) s = .ok (.list ds) s := by
    unfold look view
    show (match (s[k]?).bind Ob.data? with | some d => Out.ok d s | none => Out.no) = _
    rw [h]
    rfl
  constructor
  · show bind (bind (look (.p k)) _) _ s = _
    unfold bind
    rw [e]
    rfl
  · intro i hi
    show bind (bind (look (.p k)) _) _ s = _
    unfold bind
    rw [e]
    show ofO ds[i]? s = _
    rw [List.getElem?_eq_getElem hi]
    rfl
theorem at_lk {k : Nat} {ds : List D} (h : s[k]? = some (.lk (.list ds))) : SrcAt (.seq (.p k)) ds s := by
  have e : look (.p k) s = .ok (.list ds) s := by
    unfold look view
    show (match (s[k]?).bind Ob.data? with | some d => Out.ok d s | none => Out.no) = _
    rw [h]
    rfl
  constructor
  · show bind (bind (look (.p k)) _) _ s = _
    unfold bind
    rw [e]
    rfl
  · intro i hi
    show bind (bind (look (.p k)) _) _ s = _
    unfold bind
    rw [e]
    show ofO ds[i]? s = _
    rw [List.getElem?_eq_getElem hi]
    rfl
/-- a loop: goes on, or hands back -/
theorem wp_loop {src : Src} {ds : List D} {n : Nat} (hn : n = ds.length) {body : D → Env → M Fl} {e : Env} {Q : Fl → Sto → Prop} (I : Nat → Env → Sto → Prop)
    (hs : ∀ i e s, I i e s → SrcAt src ds s) (z : I 0 e s)
    (h : ∀ i (hi : i < ds.length) e s, I i e s → wp (body ds[i] e) s fun f s' => match f with
      | .nx e' => I (i + 1) e' s'
      | .ct e' => I (i + 1) e' s'
      | .bk e' => Q (.nx e') s'
      | .rt r => Q (.rt r) s')
    (q : ∀ e s, I ds.length e s → Q (.nx e) s) : wp (loopS src body n 0 e) s Q := by
  subst hn
  have go : ∀ m i, i + m = ds.length → ∀ e s, I i e s → wp (loopS src body m i e) s Q := by
    intro m
    induction m with
    | zero =>
      intro i hi e s z
      have hi : i = ds.length := by omega
      subst hi
      unfold loopS
      rw [wp_bind]
      refine ⟨_, _, (hs _ _ _ z).1, ?_⟩
      show wp (if ds.length = ds.length then _ else _) s _
      rw [if_pos rfl]
      exact wp_ret.mpr (q _ _ z)
    | succ m ih =>
      intro i hi e s z
      have hi' : i < ds.length := by omega
      unfold loopS
      rw [wp_bind]
      refine ⟨_, _, (hs _ _ _ z).2 i hi', ?_⟩
      refine wp_bind.mpr ?_
      refine wp_mono (h i hi' e s z) fun f s' w => ?_
      cases f with
      | nx e' => exact ih (i + 1) (by omega) e' s' w
      | ct e' => exact ih (i + 1) (by omega) e' s' w
      | bk e' => exact wp_ret.mpr w
      | rt r => exact wp_ret.mpr w
  exact go ds.length 0 (by omega) e s z
/-- a comprehension whose items change the store -/
theorem wp_map {src : Src} {ds : List D} {n : Nat} (hn : n = ds.length) {f : D → M (List D)} {Q : List D → Sto → Prop} (I : Nat → List D → Sto → Prop)
    (hs : ∀ i acc s, I i acc s → SrcAt src ds s) (z : I 0 [] s)
    (h : ∀ i (hi : i < ds.length) acc s, I i acc s → wp (f ds[i]) s fun a s' => I (i + 1) (acc ++ a) s')
    (q : ∀ acc s, I ds.length acc s → Q acc s) : wp (mapS src f n 0) s Q := by
  subst hn
  have go : ∀ m i, i + m = ds.length → ∀ acc s (Q : List D → Sto → Prop), I i acc s → (∀ a s, I ds.length (acc ++ a) s → Q a s) → wp (mapS src f m i) s Q := by
    intro m
    induction m with
    | zero =>
      intro i hi acc s Q z q
      have hi : i = ds.length := by omega
      subst hi
      unfold mapS
      rw [wp_bind]
      refine ⟨_, _, (hs _ _ _ z).1, ?_⟩
      show wp (if ds.length = ds.length then _ else _) s _
      rw [if_pos rfl]
      exact wp_ret.mpr (q [] s (by rw [List.append_nil]; exact z))
    | succ m ih =>
      intro i hi acc s Q z q
      have hi' : i < ds.length := by omega
      unfold mapS
      rw [wp_bind]
      refine ⟨_, _, (hs _ _ _ z).2 i hi', ?_⟩
      refine wp_bind.mpr ?_
      refine wp_mono (h i hi' acc s z) fun a s' w => ?_
      refine wp_bind.mpr ?_
      refine ih (i + 1) (by omega) (acc ++ a) s' _ w fun b s'' w2 => ?_
      exact wp_ret.mpr (q (a ++ b) s'' (by rw [← List.append_assoc]; exact w2))
  exact go ds.length 0 (by omega) [] s Q z fun a s w => q a s w
/-- a comprehension whose items change nothing -/
theorem map_is {src : Src} {ds : List D} {n : Nat} (k : SrcIs src ds) (hn : n = ds.length) {f : D → M (List D)} (g : D → List D) (h : ∀ d ∈ ds, f d = ret (g d)) : mapS src f n 0 = ret (ds.flatMap g) := mapS_is k hn h
theorem wp_map_is {src : Src} {ds : List D} {n : Nat} {Q : List D → Sto → Prop} (k : SrcIs src ds) (hn : n = ds.length) {f : D → M (List D)} (g : D → List D) (h : ∀ d ∈ ds, f d = ret (g d)) (q : Q (ds.flatMap g) s) : wp (mapS src f n 0) s Q := of_ret (mapS_is k hn h) q
theorem map1_is {γ : Type} (l : List γ) (c : γ → D) (k : γ → D) {src : Src} {n : Nat} (hs : SrcIs src (l.map c)) (hn : n = l.length) {f : D → M (List D)} (h : ∀ x ∈ l, f (c x) = ret [k x]) : mapS src f n 0 = ret (l.map k) := by
  have e : ∀ l : List γ, ((l.map c).zip l).length = l.length := fun l => by simp
  have go : ∀ m i, i + m = l.length → mapS src f m i = ret ((l.drop i).map k) := by
    intro m
    induction m with
    | zero =>
      intro i hi
      unfold mapS
      rw [hs.len, r_bind, List.length_map, if_pos (by omega), List.drop_of_length_le (by omega)]
      rfl
    | succ m ih =>
      intro i hi
      have hi' : i < l.length := by omega
      unfold mapS
      rw [hs.at_ i (by rw [List.length_map]; exact hi'), r_bind, List.getElem_map, h _ (List.getElem_mem hi'), r_bind, ih (i + 1) (by omega), r_bind, List.drop_eq_getElem_cons hi']
      rfl
  subst hn
  exact go _ 0 (by omega)
theorem wp_map1 {γ : Type} (l : List γ) (c : γ → D) (k : γ → D) {src : Src} {n : Nat} {Q : List D → Sto → Prop} (hs : SrcIs src (l.map c)) (hn : n = l.length) {f : D → M (List D)} (h : ∀ x ∈ l, f (c x) = ret [k x]) (q : Q (l.map k) s) : wp (mapS src f n 0) s Q := of_ret (map1_is l c k hs hn h) q
theorem mapSel_is {γ : Type} (l : List γ) (c : γ → D) (t : γ → Bool) (k : γ → D) {src : Src} {n : Nat} (hs : SrcIs src (l.map c)) (hn : n = l.length) {f : D → M (List D)} (h : ∀ x ∈ l, f (c x) = ret (if t x = true then [k x] else [])) : mapS src f n 0 = ret ((l.filter t).map k) := by
  have go : ∀ m i, i + m = l.length → mapS src f m i = ret (((l.drop i).filter t).map k) := by
    intro m
    induction m with
    | zero =>
      intro i hi
      unfold mapS
      rw [hs.len, r_bind, List.length_map, if_pos (by omega), List.drop_of_length_le (by omega)]
      rfl
    | succ m ih =>
      intro i hi
      have hi' : i < l.length := by omega
      unfold mapS
      rw [hs.at_ i (by rw [List.length_map]; exact hi'), r_bind, List.getElem_map, h _ (List.getElem_mem hi'), r_bind, ih (i + 1) (by omega), r_bind, List.drop_eq_getElem_cons hi']
      by_cases z : t l[i] = true
      · rw [if_pos z, List.filter_cons_of_pos z]
        rfl
      · rw [if_neg z, List.filter_cons_of_neg z]
        rfl
  subst hn
  exact go _ 0 (by omega)
theorem wp_mapSel {γ : Type} (l : List γ) (c : γ → D) (t : γ → Bool) (k : γ → D) {src : Src} {n : Nat} {Q : List D → Sto → Prop} (hs : SrcIs src (l.map c)) (hn : n = l.length) {f : D → M (List D)} (h : ∀ x ∈ l, f (c x) = ret (if t x = true then [k x] else [])) (q : Q ((l.filter t).map k) s) : wp (mapS src f n 0) s Q := of_ret (mapSel_is l c t k hs hn h) q
theorem wp_map2 {γ : Type} (l : List γ) (c : γ → D) (g : γ → List D) {src : Src} {n : Nat} {Q : List D → Sto → Prop} (hs : SrcIs src (l.map c)) (hn : n = l.length) {f : D → M (List D)} (h : ∀ x ∈ l, f (c x) = ret (g x)) (q : Q (l.flatMap g) s) : wp (mapS src f n 0) s Q := by
  have go : ∀ m i, i + m = l.length → mapS src f m i = ret ((l.drop i).flatMap g) := by
    intro m
    induction m with
    | zero =>
      intro i hi
      unfold mapS
      rw [hs.len, r_bind, List.length_map, if_pos (by omega), List.drop_of_length_le (by omega)]
      rfl
    | succ m ih =>
      intro i hi
      have hi' : i < l.length := by omega
      unfold mapS
      rw [hs.at_ i (by rw [List.length_map]; exact hi'), r_bind, List.getElem_map, h _ (List.getElem_mem hi'), r_bind, ih (i + 1) (by omega), r_bind, List.drop_eq_getElem_cons hi', List.flatMap_cons]
  subst hn
  exact of_ret (go _ 0 (by omega)) q
/-- a loop over what stays, told item by item -/
theorem wp_for {γ : Type} (l : List γ) (c : γ → D) {src : Src} {n : Nat} (hs : SrcIs src (l.map c)) (hn : n = l.length) {body : D → Env → M Fl} {e : Env} {Q : Fl → Sto → Prop} (I : Nat → Env → Sto → Prop) (z : I 0 e s)
    (h : ∀ i (hi : i < l.length) e s, I i e s → wp (body (c l[i]) e) s fun f s' => match f with
      | .nx e' => I (i + 1) e' s'
      | .ct e' => I (i + 1) e' s'
      | .bk e' => Q (.nx e') s'
      | .rt r => Q (.rt r) s')
    (q : ∀ e s, I l.length e s → Q (.nx e) s) : wp (loopS src body n 0 e) s Q :=
  wp_loop (ds := l.map c) (by rw [List.length_map]; exact hn) I (fun _ _ _ _ => hs.at) z (fun i hi e s w => by
    rw [List.length_map] at hi
    rw [List.getElem_map]
    exact h i hi e s w) (by rw [List.length_map]; exact q)
/-! ### defs -/
/-- a run of a def, from its body's -/
theorem wp_fn {T : List Fd} {wh n i : Nat} {fd : Fd} {vs : List Vl} {Q : R → Sto → Prop} (h : T[i]? = some fd) (hv : vs.length = fd.np)
    (b : wp (evSs ⟨evC T wh n, wh⟩ fd.body (vs.map some ++ List.replicate (fd.nn - fd.np) none)) s fun f s' => wp (leave s.length f) s' Q) : wp (evC T wh (n + 1) i vs) s Q := by
  rw [ev_fn h]
  show ∃ a s', runF _ _ _ s = _ ∧ _
  unfold runF
  rw [if_pos hv]
  exact wp_bind.mpr b
@[simp] theorem wp_leave_v {base : Nat} {d : D} {Q : R → Sto → Prop} : wp (leave base (.rt (.v d))) s Q ↔ Q (.v d) (s.take base) := ⟨fun ⟨_, _, e, q⟩ => by cases e; exact q, fun q => ⟨_, _, rfl, q⟩⟩
@[simp] theorem wp_leave_n {base : Nat} {d : D} {Q : R → Sto → Prop} : wp (leave base (.rt (.n d))) s Q ↔ Q (.n d) (s.take base) := ⟨fun ⟨_, _, e, q⟩ => by cases e; exact q, fun q => ⟨_, _, rfl, q⟩⟩
@[simp] theorem wp_leave_nx {base : Nat} {e : Env} {Q : R → Sto → Prop} : wp (leave base (.nx e)) s Q ↔ Q (.v .none) (s.take base) := ⟨fun ⟨_, _, e, q⟩ => by cases e; exact q, fun q => ⟨_, _, rfl, q⟩⟩
theorem wp_leave_p {base k : Nat} {d : D} {Q : R → Sto → Prop} (h : ¬ k < base) (hk : s[k]? = some (.fl d)) : wp (leave base (.rt (.p k))) s Q ↔ Q (.n d) (s.take base) := by
  have e : leave base (.rt (.p k)) s = .ok (.n d) (s.take base) := by
    unfold leave
    simp only [if_neg h, hk]
  constructor
  · rintro ⟨_, _, e2, q⟩
    rw [e] at e2
    cases e2
    exact q
  · exact fun q => ⟨_, _, e, q⟩
@[simp] theorem take_all {s : Sto} : s.take s.length = s := List.take_length
@[simp] theorem take_one {s : Sto} {t : Sto} : (s ++ t).take s.length = s := List.take_left
theorem perm1 {v : Vl} : ofO ([0].mapM fun j => [v][j]?) = ret [v] := rfl
theorem perm2 {v u : Vl} : ofO ([0, 1].mapM fun j => [v, u][j]?) = ret [v, u] := rfl
theorem perm2r {v u : Vl} : ofO ([1, 0].mapM fun j => [v, u][j]?) = ret [u, v] := rfl
theorem perm3 {v u w : Vl} : ofO ([0, 1, 2].mapM fun j => [v, u, w][j]?) = ret [v, u, w] := rfl
theorem perm4 {v u w x : Vl} : ofO ([0, 1, 2, 3].mapM fun j => [v, u, w, x][j]?) = ret [v, u, w, x] := rfl
end
/-! ### data that may be shown -/
def Fit (n w : Nat) (d : D) : Prop := d.canLay0 = true ∧ d.depth ≤ n ∧ d.weight ≤ w ∧ d.showable = true ∧ d.intsShort 13 = true
def FitL (n w : Nat) (ds : List D) : Prop := PyData.canLayAll0 ds = true ∧ PyData.depthAll ds ≤ n ∧ PyData.weightAll ds ≤ w ∧ PyData.showableAll ds = true ∧ PyData.intsShortAll 13 ds = true
theorem Fit.mono {n w m v : Nat} {d : D} (h : Fit n w d) (h1 : n ≤ m) (h2 : w ≤ v) : Fit m v d := ⟨h.1, Nat.le_trans h.2.1 h1, Nat.le_trans h.2.2.1 h2, h.2.2.2.1, h.2.2.2.2⟩
theorem FitL.mono {n w m v : Nat} {d : List D} (h : FitL n w d) (h1 : n ≤ m) (h2 : w ≤ v) : FitL m v d := ⟨h.1, Nat.le_trans h.2.1 h1, Nat.le_trans h.2.2.1 h2, h.2.2.2.1, h.2.2.2.2⟩
theorem fit_nil {n w : Nat} : FitL n w [] := ⟨by unfold PyData.canLayAll0; rfl, by unfold PyData.depthAll; omega, by unfold PyData.weightAll; omega, by unfold PyData.showableAll; rfl, by unfold PyData.intsShortAll; rfl⟩
theorem fit_cons {n w v : Nat} {d : D} {ds : List D} (h : Fit n w d) (t : FitL n v ds) : FitL n (w + 1 + v) (d :: ds) := by
  obtain ⟨h1, h2, h3, h4, h5⟩ := h
  obtain ⟨t1, t2, t3, t4, t5⟩ := t
  refine ⟨?_, ?_, ?_, ?_, ?_⟩
  · unfold PyData.canLayAll0; rw [h1, t1]; rfl
  · unfold PyData.depthAll; omega
  · unfold PyData.weightAll; omega
  · unfold PyData.showableAll; rw [h4, t4]; rfl
  · unfold PyData.intsShortAll; rw [h5, t5]; rfl
theorem fit_all {n w : Nat} : ∀ {ds : List D}, (∀ d ∈ ds, Fit n w d) → FitL n ((w + 1) * ds.length) ds
  | [], _ => fit_nil
  | d :: ds, h => by
    have := fit_cons (h d (.head _)) (fit_all fun x hx => h x (.tail _ hx))
    refine this.mono (Nat.le_refl _) ?_
    rw [List.length_cons, Nat.mul_add, Nat.mul_one]
    omega
theorem fit_list {n w : Nat} {ds : List D} (h : FitL n w ds) : Fit (n + 1) w (.list ds) := by
  obtain ⟨h1, h2, h3, h4, h5⟩ := h
  refine ⟨?_, ?_, ?_, ?_, ?_⟩
  · unfold PyData.canLay0; exact h1
  · unfold PyData.depth; omega
  · unfold PyData.weight; exact h3
  · unfold PyData.showable; exact h4
  · unfold PyData.intsShort; exact h5
theorem fit_tuple {n w : Nat} {ds : List D} (h : FitL n w ds) : Fit (n + 1) w (.tuple ds) := by
  obtain ⟨h1, h2, h3, h4, h5⟩ := h
  refine ⟨?_, ?_, ?_, ?_, ?_⟩
  · unfold PyData.canLay0; exact h1
  · unfold PyData.depth; omega
  · unfold PyData.weight; exact h3
  · unfold PyData.showable; exact h4
  · unfold PyData.intsShort; exact h5
theorem fit_int {i : Int} (h : i.natAbs < 10 ^ 12) : Fit 0 40 (.int i) := by
  have g : i.natAbs.log2 < 40 := by
    by_cases z : i.natAbs = 0
    · rw [z]; decide
    · rw [Nat.log2_lt z]
      exact Nat.lt_of_lt_of_le h (by decide)
  refine ⟨?_, ?_, ?_, ?_, ?_⟩
  · unfold PyData.canLay0; rfl
  · unfold PyData.depth; omega
  · unfold PyData.weight
    split <;> omega
  · unfold PyData.showable; exact decide_eq_true (by omega)
  · unfold PyData.intsShort; exact decide_eq_true (PyData.shown_int_le2 (by omega) (by omega))
theorem fit_reprOk {d : D} (h : Fit 64 (2 ^ 20) d) : reprOk d = true := by
  obtain ⟨h1, h2, h3, h4, h5⟩ := h
  have l : PyData.layable0 d = true := by
    unfold PyData.layable0
    rw [h1, decide_eq_true h2, decide_eq_true h3]
    rfl
  have e := shown_le13 l h5
  unfold reprOk lenOk
  rw [h4, decide_eq_true h2, PyData.hasDict_of_canLay d h1, decide_eq_true (show d.shown.length ≤ sizeLine from Nat.le_trans e (by decide))]
  rfl
theorem fit_shp {n w : Nat} {d : D} (h : Fit n w d) (hn : n ≤ 64) : shp d = true := by
  unfold shp SeqAt.shaped
  rw [h.1, decide_eq_true (Nat.le_trans h.2.1 hn)]
  rfl
theorem shp_int {i : Int} : shp (.int i) = true := by
  unfold shp SeqAt.shaped PyData.canLay0 PyData.depth
  rfl
theorem eqv_int {i j : Int} : PyData.eqv (.int i) (.int j) = decide (i = j) := by
  unfold PyData.eqv
  rfl
theorem eqvAll_ints : ∀ a b : List Int, PyData.eqvAll (a.map .int) (b.map .int) = decide (a = b)
  | [], [] => by unfold PyData.eqvAll; rfl
  | [], _ :: _ => by rw [List.map_cons, List.map_nil]; unfold PyData.eqvAll; rfl
  | _ :: _, [] => by rw [List.map_cons, List.map_nil]; unfold PyData.eqvAll; rfl
  | i :: a, j :: b => by
    rw [List.map_cons, List.map_cons]
    unfold PyData.eqvAll
    rw [eqvAll_ints a b, eqv_int]
    by_cases h : i = j
    · by_cases g : a = b <;> simp [h, g]
    · simp [h]
theorem eqv_tups {a b : List Int} : PyData.eqv (.tuple (a.map .int)) (.tuple (b.map .int)) = decide (a = b) := by
  unfold PyData.eqv
  exact eqvAll_ints a b
theorem eqv_self {n w : Nat} {d : D} (h : Fit n w d) : PyData.eqv d d = true := SeqAt.eqv_refl d h.1
/-! ### single operations -/
theorem w_atI {α : Type} {xs : List α} {j : Nat} : atI xs (j : Int) = xs[j]? := by
  unfold atI ixN
  rw [if_pos (by omega)]
  by_cases h : (j : Int) < xs.length
  · rw [if_pos h]
    rfl
  · rw [if_neg h]
    exact (List.getElem?_eq_none (by omega)).symm
@[simp] theorem atI_c0 {α : Type} {a : α} {xs : List α} : atI (a :: xs) 0 = some a := w_atI (j := 0)
@[simp] theorem atI_c1 {α : Type} {a b : α} {xs : List α} : atI (a :: b :: xs) 1 = some b := w_atI (j := 1)
@[simp] theorem atI_c2 {α : Type} {a b c : α} {xs : List α} : atI (a :: b :: c :: xs) 2 = some c := w_atI (j := 2)
@[simp] theorem atI_c3 {α : Type} {a b c d : α} {xs : List α} : atI (a :: b :: c :: d :: xs) 3 = some d := w_atI (j := 3)
@[simp] theorem atI_c4 {α : Type} {a b c d e : α} {xs : List α} : atI (a :: b :: c :: d :: e :: xs) 4 = some e := w_atI (j := 4)
@[simp] theorem ixD_list {ds : List D} {i : Int} : ixD (.list ds) (.int i) = atI ds i := (rfl)
@[simp] theorem ixD_tuple {ds : List D} {i : Int} : ixD (.tuple ds) (.int i) = atI ds i := (rfl)
@[simp] theorem cmp_eq_int {i j : Int} : cmpD .eq (.int i) (.int j) = some (decide (i = j)) := by
  show (if shp (.int i) && shp (.int j) then some (PyData.eqv (.int i) (.int j)) else none) = _
  rw [shp_int, shp_int, eqv_int]
  rfl
@[simp] theorem cmp_ne_int {i j : Int} : cmpD .ne (.int i) (.int j) = some (!decide (i = j)) := by
  show (if shp (.int i) && shp (.int j) then some (!PyData.eqv (.int i) (.int j)) else none) = _
  rw [shp_int, shp_int, eqv_int]
  rfl
@[simp] theorem cmp_lt_int {i j : Int} : cmpD .lt (.int i) (.int j) = some (decide (i < j)) := (rfl)
@[simp] theorem cmp_le_int {i j : Int} : cmpD .le (.int i) (.int j) = some (decide (i ≤ j)) := (rfl)
@[simp] theorem cmp_gt_int {i j : Int} : cmpD .gt (.int i) (.int j) = some (decide (j < i)) := (rfl)
@[simp] theorem cmp_ge_int {i j : Int} : cmpD .ge (.int i) (.int j) = some (decide (j ≤ i)) := (rfl)
theorem shp_str {x : Str} (h : PyData.strOk x = true) : shp (.str x) = true := by
  unfold shp SeqAt.shaped PyData.canLay0 PyData.depth
  rw [h]
  rfl
theorem cmp_eq_str {x y : Str} (h : PyData.strOk x = true) (g : PyData.strOk y = true) : cmpD .eq (.str x) (.str y) = some (decide (x = y)) := by
  show (if shp (.str x) && shp (.str y) then some (PyData.eqv (.str x) (.str y)) else _) = _
  rw [shp_str h, shp_str g, if_pos (show (true && true) = true from rfl)]
  unfold PyData.eqv
  rfl
theorem cmp_ne_str {x y : Str} (h : PyData.strOk x = true) (g : PyData.strOk y = true) : cmpD .ne (.str x) (.str y) = some (!decide (x = y)) := by
  show (if shp (.str x) && shp (.str y) then some (!PyData.eqv (.str x) (.str y)) else _) = _
  rw [shp_str h, shp_str g, if_pos (show (true && true) = true from rfl)]
  unfold PyData.eqv
  rfl
theorem cmp_eq_of {a b : D} (h : shp a = true) (g : shp b = true) : cmpD .eq a b = some (PyData.eqv a b) := by
  show (if shp a && shp b then some (PyData.eqv a b) else none) = _
  rw [h, g]
  rfl
theorem cmp_ne_of {a b : D} (h : shp a = true) (g : shp b = true) : cmpD .ne a b = some (!PyData.eqv a b) := by
  show (if shp a && shp b then some (!PyData.eqv a b) else none) = _
  rw [h, g]
  rfl
@[simp] theorem add_int {i j : Int} : binD .add (.int i) (.int j) = some (.v (.int (i + j))) := (rfl)
@[simp] theorem sub_int {i j : Int} : binD .sub (.int i) (.int j) = some (.v (.int (i - j))) := (rfl)
theorem w_mul {i j : Int} (h : smallI i = true ∨ smallI j = true) : binD .mul (.int i) (.int j) = some (.v (.int (i * j))) := by
  show (if smallI i || smallI j then _ else _) = _
  rw [if_pos (by rcases h with h | h <;> simp [h])]
theorem w_div {i j : Int} (h0 : 0 < j) (h : j < 1073741824) : binD .fdiv (.int i) (.int j) = some (.v (.int (i / j))) := by
  show (if decide (0 < j) && decide (j < 1073741824) then _ else _) = _
  rw [if_pos (by simp [h0, h])]
theorem w_mod {i j : Int} (h0 : 0 < j) : binD .mod (.int i) (.int j) = some (.v (.int (i % j))) := by
  show (if decide (0 < j) then _ else _) = _
  rw [if_pos (by simp [h0])]
theorem add_list {a b : List D} (h : a.length + b.length ≤ sizeLine) : binD .add (.list a) (.list b) = some (.n (.list (a ++ b))) := by
  show (if lenOk (a.length + b.length) then _ else _) = _
  rw [if_pos (show lenOk _ = true from decide_eq_true h)]
theorem add_tuple {a b : List D} (h : a.length + b.length ≤ sizeLine) : binD .add (.tuple a) (.tuple b) = some (.v (.tuple (a ++ b))) := by
  show (if lenOk (a.length + b.length) then _ else _) = _
  rw [if_pos (show lenOk _ = true from decide_eq_true h)]
theorem smallI_of {i : Int} (h : -(2 ^ 64) < i) (g : i < 2 ^ 64) : smallI i = true := by
  unfold smallI
  rw [decide_eq_true h, decide_eq_true g]
  rfl
theorem w_smallR_of {i : Int} (h : -(2 ^ 62) ≤ i) (g : i < 2 ^ 62) : smallR i = true := by
  unfold smallR
  rw [decide_eq_true h, decide_eq_true g]
  rfl
theorem smallR_nat {i : Nat} (g : i < 2 ^ 62) : smallR (i : Int) = true := w_smallR_of (by omega) (by omega)
@[simp] theorem w_bools {γ : Type} (c : γ → Bool) : ∀ l : List γ, boolsD (l.map fun x => .bool (c x)) = some (l.map c)
  | [] => rfl
  | a :: l => by
    show (boolsD (l.map fun x => .bool (c x))).map (c a :: ·) = _
    rw [w_bools c l]
    rfl
@[simp] theorem w_ints {γ : Type} (c : γ → Int) : ∀ l : List γ, intsD (l.map fun x => .int (c x)) = some (l.map c)
  | [] => rfl
  | a :: l => by
    show (intsD (l.map fun x => .int (c x))).map (c a :: ·) = _
    rw [w_ints c l]
    rfl
@[simp] theorem slD_list {ds : List D} {lo hi : Option Int} : slD (.list ds) lo hi = some (.n (.list (cutL ds lo hi))) := (rfl)
@[simp] theorem slD_tuple {ds : List D} {lo hi : Option Int} : slD (.tuple ds) lo hi = some (.v (.tuple (cutL ds lo hi))) := (rfl)
theorem cut_nat {α : Type} {xs : List α} {a b : Nat} (h : b ≤ xs.length) : cutL xs (some (a : Int)) (some (b : Int)) = (xs.drop a).take (b - a) := by
  unfold cutL
  rw [HT.sIx_nat, HT.sIx_nat, Nat.min_eq_left h]
  by_cases g : a ≤ xs.length
  · rw [Nat.min_eq_left g]
  · rw [Nat.min_eq_right (by omega), List.drop_of_length_le (Nat.le_refl _), List.drop_of_length_le (by omega), List.take_nil, List.take_nil]
theorem cut_to {α : Type} {xs : List α} {b : Nat} (h : b ≤ xs.length) : cutL xs none (some (b : Int)) = xs.take b := by
  unfold cutL
  rw [HT.sIx_nat, HT.sIx_none, Nat.min_eq_left h]
  rfl
theorem cut_from {α : Type} {xs : List α} {a : Nat} (h : a ≤ xs.length) : cutL xs (some (a : Int)) none = xs.drop a := by
  unfold cutL
  rw [HT.sIx_nat, HT.sIx_none, Nat.min_eq_left h, List.take_of_length_le]
  rw [List.length_drop]
  omega
theorem is_strC {z : Str} : SrcIs (.str z) (z.cps.toList.map fun c => .str ⟨#[c]⟩) := ⟨by simp [lenS], fun i h => by
  rw [List.length_map] at h
  have h : i < z.cps.size := by simpa using h
  show bind (ofO z.cps[i]?) _ = _
  rw [Array.getElem?_eq_getElem h]
  simp [r_some]⟩
theorem dedup_all : ∀ (ds acc : List D), (∀ d ∈ ds, ∀ z ∈ acc, PyData.eqv z d = false) → ds.Pairwise (fun a b => PyData.eqv a b = false) → dedupD ds acc = acc.reverse ++ ds
  | [], acc, _, _ => by simp [dedupD]
  | d :: ds, acc, h, p => by
    have hd : ¬ acc.any (fun z => PyData.eqv z d) = true := by
      intro z
      rw [List.any_eq_true] at z
      obtain ⟨z, hz, e⟩ := z
      rw [h d (.head _) z hz] at e
      cases e
    rw [List.pairwise_cons] at p
    unfold dedupD
    rw [if_neg hd, dedup_all ds (d :: acc) (fun x hx z hz => by
      rcases List.mem_cons.mp hz with rfl | hz
      · exact p.1 x hx
      · exact h x (.tail _ hx) z hz) p.2]
    simp
theorem lenSet_of {ds : List D} (h : ds.all isAtom = true) (hl : ds.length < 2000) (p : ds.Pairwise (fun a b => PyData.eqv a b = false)) : biLenSet [.list ds] = some (.v (.int ds.length)) := by
  show (if atomsOk ds then _ else _) = _
  unfold atomsOk
  rw [h, decide_eq_true hl, if_pos (show (true && true) = true from rfl), dedup_all ds [] (fun _ _ z hz => by cases hz) p]
  rfl
theorem lenSet_tup {ds : List D} (h : ds.all isAtom = true) (hl : ds.length < 2000) (p : ds.Pairwise (fun a b => PyData.eqv a b = false)) : biLenSet [.tuple ds] = some (.v (.int ds.length)) := by
  show (if atomsOk ds then _ else _) = _
  unfold atomsOk
  rw [h, decide_eq_true hl, if_pos (show (true && true) = true from rfl), dedup_all ds [] (fun _ _ z hz => by cases hz) p]
  rfl
@[simp] theorem q1_evE {C : Cfg} {i} {e} : evE C (.var i) e = (getV i e) := (rfl)
@[simp] theorem q2_evE {C : Cfg} {d} {u1} : evE C (.lit d) u1 = (ret (.v d)) := (rfl)
@[simp] theorem q3_evE {C : Cfg} {d} {u1} : evE C (.glb d) u1 = (ret (.g d)) := (rfl)
@[simp] theorem q4_evE {C : Cfg} {es} {e} : evE C (.tup es) e = (bind (evTs C es e) fun ds => ret (.v (.tuple ds))) := (rfl)
@[simp] theorem q5_evE {C : Cfg} {es} {e} : evE C (.lst es) e = (bind (evTs C es e) fun ds => ret (.n (.list ds))) := (rfl)
@[simp] theorem q6_evE {C : Cfg} {o} {a} {b} {e} : evE C (.bin o a b) e = (bind (evE C a e) fun x => bind (evE C b e) fun y => bind (lookP x) fun d => bind (lookP y) fun d2 => ofO (binD o d d2)) := (rfl)
@[simp] theorem q7_evE {C : Cfg} {a} {e} : evE C (.neg a) e = (bind (evE C a e) fun x => bind (look x) fun d => match d with
    | .int i => ret (.v (.int (-i)))
    | _ => stuck) := (rfl)
@[simp] theorem q8_evE {C : Cfg} {a} {e} : evE C (.noT a) e = (bind (evE C a e) fun x => bind (look x) fun d => match d with
    | .bool b => ret (.v (.bool (!b)))
    | _ => stuck) := (rfl)
@[simp] theorem q9_evE {C : Cfg} {o} {a} {b} {e} : evE C (.cmp o a b) e = (bind (evE C a e) fun x => bind (evE C b e) fun y => bind (look x) fun d => bind (look y) fun d2 => bind (ofO (cmpD o d d2)) fun c => ret (.v (.bool c))) := (rfl)
@[simp] theorem q10_evE {C : Cfg} {o} {o2} {a} {b} {c} {e} : evE C (.chn o o2 a b c) e = (bind (evE C a e) fun x => bind (evE C b e) fun y => bind (look x) fun d => bind (look y) fun d2 => bind (ofO (cmpD o d d2)) fun k =>
      if k = true then bind (evE C c e) fun z => bind (look y) fun d2 => bind (look z) fun d3 => bind (ofO (cmpD o2 d2 d3)) fun k => ret (.v (.bool k)) else ret (.v (.bool false))) := (rfl)
@[simp] theorem q11_evE {C : Cfg} {a} {b} {e} : evE C (.and a b) e = (bind (evE C a e) fun x => bind (look x) fun d => match d with
    | .bool true => evE C b e
    | .bool false => ret (.v (.bool false))
    | _ => stuck) := (rfl)
@[simp] theorem q12_evE {C : Cfg} {a} {b} {e} : evE C (.or a b) e = (bind (evE C a e) fun x => bind (look x) fun d => match d with
    | .bool true => ret (.v (.bool true))
    | .bool false => evE C b e
    | _ => stuck) := (rfl)
@[simp] theorem q13_evE {C : Cfg} {t} {a} {b} {e} : evE C (.ite t a b) e = (bind (evT C t e) fun c => if c = true then evE C a e else evE C b e) := (rfl)
@[simp] theorem q14_evE {C : Cfg} {a} {b} {e} : evE C (.ix a b) e = (bind (evE C a e) fun x => bind (evE C b e) fun y => bind (look x) fun d => bind (look y) fun d2 => bind (ofO (ixD d d2)) fun r => ret (.v r)) := (rfl)
@[simp] theorem q15_evE {C : Cfg} {a} {lo} {hi} {e} : evE C (.sl a lo hi) e = (bind (evE C a e) fun x => bind (evP C lo e) fun l => bind (evP C hi e) fun h => bind (lookP x) fun d => ofO (slD d l h)) := (rfl)
@[simp] theorem q16_evE {C : Cfg} {f} {es} {perm} {e} : evE C (.call f es perm) e = (bind (evAs C es [] e) fun vs => bind (ofO (perm.mapM fun j => vs[j]?)) fun ws => C.call f ws) := (rfl)
@[simp] theorem q17_evE {C : Cfg} {f} {es} {e} : evE C (.bi f es) e = (bind (evRs C es e) fun rs => bind (looks rs) fun ds => ofO (biD f ds)) := (rfl)
@[simp] theorem q18_evE {C : Cfg} {m} {o} {es} {e} : evE C (.mt m o es) e = (bind (evE C o e) fun r => bind (look r) fun d => if isL d = true then bind (evRs C es e) fun rs => mutM m r rs else stuck) := (rfl)
@[simp] theorem q19_evE {C : Cfg} {g} {it} {ts} {x} {e} : evE C (.lc g it ts x) e = (bind (evI C it e) fun q => bind (mapS q.1 (fun d => bind (bind1 g d e) fun e' => bind (evAll C ts e') fun c => if c = true then bind (evE C x e') fun r => bind (take r) fun d => ret [d] else ret []) q.2 0) newL) := (rfl)
@[simp] theorem q20_evE {C : Cfg} {g} {it} {ts} {g2} {it2} {ts2} {x} {e} : evE C (.lc2 g it ts g2 it2 ts2 x) e = (bind (evI C it e) fun q => bind (mapS q.1 (fun d => bind (bind1 g d (wipeE e (slots [g2]))) fun e' => bind (evAll C ts e') fun c => if c = true then
        (bind (evI C it2 e') fun q2 => mapS q2.1 (fun d => bind (bind1 g2 d e') fun e2 => bind (evAll C ts2 e2) fun c => if c = true then bind (evE C x e2) fun r => bind (take r) fun d => ret [d] else ret []) q2.2 0) else ret []) q.2 0) newL) := (rfl)
@[simp] theorem q21_evE {C : Cfg} {es} {e} : evE C (.dsp es) e = (stuck) := (rfl)
@[simp] theorem q22_evE {C : Cfg} {f} {g} {it} {ts} {x} {e} : evE C (.sc f g it ts x) e = (bind (evI C it e) fun q => bind (mapS q.1 (fun d => bind (bind1 g d e) fun e' => bind (evAll C ts e') fun c => if c = true then bind (evE C x e') fun r => bind (take r) fun d => ret [d] else ret []) q.2 0) fun ds => ofO (biD f [.list ds])) := (rfl)
@[simp] theorem q23_evE {C : Cfg} {g} {it} {ts} {k} {v} {e} : evE C (.dc g it ts k v) e = (stuck) := (rfl)
@[simp] theorem q24_evRs {C : Cfg} {u1} : evRs C [] u1 = (ret []) := (rfl)
@[simp] theorem q25_evRs {C : Cfg} {a} {as} {e} : evRs C (a :: as) e = (bind (evE C a e) fun r => bind (evRs C as e) fun rs => ret (r :: rs)) := (rfl)
@[simp] theorem q26_evTs {C : Cfg} {u1} : evTs C [] u1 = (ret []) := (rfl)
@[simp] theorem q27_evTs {C : Cfg} {a} {as} {e} : evTs C (a :: as) e = (bind (evE C a e) fun r => bind (take r) fun d => bind (evTs C as e) fun ds => ret (d :: ds)) := (rfl)
@[simp] theorem q28_evAs {C : Cfg} {u1} {u2} : evAs C [] u1 u2 = (ret []) := (rfl)
@[simp] theorem q29_evAs {C : Cfg} {a} {as} {ms} {e} : evAs C (a :: as) ms e = (bind (evE C a e) fun r => bind (hold (ms.headD false) r) fun v => bind (evAs C as ms.tail e) fun vs => ret (v :: vs)) := (rfl)
@[simp] theorem q30_evP {C : Cfg} {u1} : evP C [] u1 = (ret none) := (rfl)
@[simp] theorem q31_evP {C : Cfg} {a} {e} : evP C [a] e = (bind (evE C a e) fun r => bind (look r) fun d => match d with
    | .int i => ret (some i)
    | _ => stuck) := (rfl)
@[simp] theorem q32_evT {C : Cfg} {a} {b} {e} : evT C (.and a b) e = (bind (evT C a e) fun c => if c = true then evT C b e else ret false) := (rfl)
@[simp] theorem q33_evT {C : Cfg} {a} {b} {e} : evT C (.or a b) e = (bind (evT C a e) fun c => if c = true then ret true else evT C b e) := (rfl)
@[simp] theorem q34_evT {C : Cfg} {a} {e} : evT C (.noT a) e = (bind (evT C a e) fun c => ret (!c)) := (rfl)
@[simp] theorem q35_evT {C : Cfg} {i} {e} : evT C (.var i) e = (bind (getV i e) fun r => bind (look r) fun d => ofO (truD d)) := (rfl)
@[simp] theorem q36_evT {C : Cfg} {d} {u1} : evT C (.lit d) u1 = (ofO (truD d)) := (rfl)
@[simp] theorem q37_evT {C : Cfg} {o} {a} {b} {e} : evT C (.cmp o a b) e = (bind (evE C a e) fun x => bind (evE C b e) fun y => bind (look x) fun d => bind (look y) fun d2 => ofO (cmpD o d d2)) := (rfl)
@[simp] theorem q38_evT {C : Cfg} {o} {o2} {a} {b} {c} {e} : evT C (.chn o o2 a b c) e = (bind (evE C a e) fun x => bind (evE C b e) fun y => bind (look x) fun d => bind (look y) fun d2 => bind (ofO (cmpD o d d2)) fun k =>
      if k = true then bind (evE C c e) fun z => bind (look y) fun d2 => bind (look z) fun d3 => ofO (cmpD o2 d2 d3) else ret false) := (rfl)
@[simp] theorem q39_evT {C : Cfg} {f} {es} {perm} {e} : evT C (.call f es perm) e = (bind (bind (evAs C es [] e) fun vs => bind (ofO (perm.mapM fun j => vs[j]?)) fun ws => C.call f ws) fun r => bind (look r) fun d => ofO (truD d)) := (rfl)
@[simp] theorem q40_evT {C : Cfg} {f} {es} {e} : evT C (.bi f es) e = (bind (bind (evRs C es e) fun rs => bind (looks rs) fun ds => ofO (biD f ds)) fun r => bind (look r) fun d => ofO (truD d)) := (rfl)
@[simp] theorem q41_evT {C : Cfg} {a} {b} {e} : evT C (.ix a b) e = (bind (evE C a e) fun x => bind (evE C b e) fun y => bind (look x) fun d => bind (look y) fun d2 => bind (ofO (ixD d d2)) fun r => ofO (truD r)) := (rfl)
@[simp] theorem q42_evAll {C : Cfg} {u1} : evAll C [] u1 = (ret true) := (rfl)
@[simp] theorem q43_evAll {C : Cfg} {t} {e} : evAll C [t] e = (evT C t e) := (rfl)
@[simp] theorem q44_evI {C : Cfg} {a} {e} : evI C (.seq a) e = (bind (evE C a e) fun r => bind (look r) fun d => match d with
    | .list ds => ret (.seq r, ds.length)
    | .tuple ds => ret (.seq r, ds.length)
    | .str z => ret (.str z, z.cps.size)
    | _ => stuck) := (rfl)
def rngOf (ds : List D) : M (Src × Nat) := match ds with
    | [.int j] => if smallR j = true then ret (.rng 0 j.toNat, j.toNat) else stuck
    | [.int i, .int j] => if (smallR i && smallR j) = true then ret (.rng i (j - i).toNat, (j - i).toNat) else stuck
    | _ => stuck
@[simp] theorem q_evI_rng {C : Cfg} {es e} : evI C (.rng es) e = bind (evRs C es e) fun rs => bind (looks rs) rngOf := (rfl)
theorem rngOf1 {m : Nat} (h : m < 2 ^ 62) : rngOf [.int (m : Int)] = ret (.rng 0 m, m) := by
  have e := smallR_nat h
  have g : rngOf [.int (m : Int)] = if smallR (m : Int) = true then ret (.rng 0 (m : Int).toNat, (m : Int).toNat) else stuck := rfl
  rw [g, e, if_pos rfl, Int.toNat_natCast]
@[simp] theorem q46_evI {C : Cfg} {a} {e} : evI C (.enum a) e = (bind (evE C a e) fun r => bind (look r) fun d => match d with
    | .list ds => ret (.enum r, ds.length)
    | .tuple ds => ret (.enum r, ds.length)
    | _ => stuck) := (rfl)
@[simp] theorem q47_evI {C : Cfg} {a} {b} {e} : evI C (.zip a b) e = (bind (evE C a e) fun r => bind (evE C b e) fun q => bind (look r) fun d => bind (look q) fun d2 => match d, d2 with
    | .list as, .list bs => ret (.zip r q, min as.length bs.length)
    | .tuple as, .tuple bs => ret (.zip r q, min as.length bs.length)
    | _, _ => stuck) := (rfl)
@[simp] theorem q48_evI {C : Cfg} {a} {e} : evI C (.rev a) e = (stuck) := (rfl)
@[simp] theorem q49_evI {C : Cfg} {a} {e} : evI C (.items a) e = (stuck) := (rfl)
@[simp] theorem q50_evS {C : Cfg} {g} {a} {e} : evS C (.set g a) e = (bind (evE C a e) fun r => bind (setT C g r e) fun e' => ret (.nx e')) := (rfl)
@[simp] theorem q51_evS {C : Cfg} {is} {es} {e} : evS C (.par is es) e = (bind (evAs C es (is.map (·.2)) e) fun vs => bind (ofO (setAll is vs e)) fun e' => ret (.nx e')) := (rfl)
@[simp] theorem q52_evS {C : Cfg} {gs} {a} {e} : evS C (.unp gs a) e = (bind (evE C a e) fun r => bind (lookP r) fun d => match d with
    | .tuple ds => bind (setTs C gs ds e) fun e' => ret (.nx e')
    | _ => stuck) := (rfl)
@[simp] theorem q53_evS {C : Cfg} {i} {o} {a} {e} : evS C (.aug i o a) e = (bind (getV i e) fun x => bind (evE C a e) fun y => bind (look x) fun d => bind (look y) fun d2 => match d, d2 with
    | .int _, .int _ => bind (ofO (binD o d d2)) fun r => match r with
      | .v d => ret (.nx (e.set i (some (.v d))))
      | _ => stuck
    | _, _ => stuck) := (rfl)
@[simp] theorem q54_evS {C : Cfg} {a} {e} : evS C (.ex a) e = (bind (evE C a e) fun _ => ret (.nx e)) := (rfl)
@[simp] theorem q55_evS {C : Cfg} {a} {e} : evS C (.ret a) e = (bind (evE C a e) fun r => ret (.rt r)) := (rfl)
@[simp] theorem q56_evS {C : Cfg} {u1} : evS C (.retN) u1 = (ret (.rt (.v .none))) := (rfl)
@[simp] theorem q57_evS {C : Cfg} {t} {a} {b} {e} : evS C (.ife t a b) e = (bind (evT C t e) fun c => if c = true then evSs C a e else evSs C b e) := (rfl)
@[simp] theorem q58_evS {C : Cfg} {g} {it} {body} {e} : evS C (.forr g it body) e = (bind (evI C it e) fun q => loopS q.1 (fun d e => bind (bind1 g d e) fun e' => evSs C body e') q.2 0 e) := (rfl)
@[simp] theorem q59_evS {C : Cfg} {t} {body} {e} : evS C (.whl t body) e = (loopW (fun e => evT C t e) (fun e => evSs C body e) C.wh e) := (rfl)
@[simp] theorem q60_evS {C : Cfg} {e} : evS C (.brk) e = (ret (.bk e)) := (rfl)
@[simp] theorem q61_evS {C : Cfg} {e} : evS C (.cnt) e = (ret (.ct e)) := (rfl)
@[simp] theorem q62_evS {C : Cfg} {e} : evS C (.pas) e = (ret (.nx e)) := (rfl)
@[simp] theorem q63_evS {C : Cfg} {u1} : evS C (.rse) u1 = (stuck) := (rfl)
@[simp] theorem q64_evSs {C : Cfg} {e} : evSs C [] e = (ret (.nx e)) := (rfl)
@[simp] theorem q65_evSs {C : Cfg} {a} {as} {e} : evSs C (a :: as) e = (bind (evS C a e) fun f => match f with
    | .nx e' => evSs C as e'
    | f => ret f) := (rfl)
@[simp] theorem q_ixs {C : Cfg} {ks es k e} : evE C (.ixs ks es k) e = bind (evTs C es e) fun ds => bind (evE C k e) fun r => bind (look r) fun d => (match d with
    | .str x => bind (ofO ((ks.zip ds).lookup x)) fun d => ret (.v d)
    | _ => stuck) := (rfl)
@[simp] theorem q_bi_dict : biD .dict = biDict := (rfl)
@[simp] theorem q_bi_dictZip : biD .dictZip = biDictZip := (rfl)
@[simp] theorem q_setT_s {C : Cfg} {i m r e} : setT C (.s i m) r e = bind (hold m r) fun v => ret (e.set i (some v)) := (rfl)
@[simp] theorem q_setT_x {C : Cfg} {o i r e} : setT C (.x o i) r e = bind (take r) fun d => bind (setX C o i d e) fun _ => ret e := (rfl)
@[simp] theorem q_setT_t {C : Cfg} {gs r e} : setT C (.t gs) r e = bind (lookP r) fun d => bind1 (.t gs) d e := (rfl)
@[simp] theorem q_setTs_n {C : Cfg} {e} : setTs C [] [] e = ret e := by unfold setTs; rfl
@[simp] theorem q_setTs_s {C : Cfg} {i m gs d ds e} : setTs C (.s i m :: gs) (d :: ds) e = setTs C gs ds (e.set i (some (.v d))) := by conv => lhs; unfold setTs
@[simp] theorem q_setTs_x {C : Cfg} {o i gs d ds e} : setTs C (.x o i :: gs) (d :: ds) e = bind (setX C o i d e) fun _ => setTs C gs ds e := by conv => lhs; unfold setTs
@[simp] theorem q_looks_n : looks [] = ret [] := (rfl)
@[simp] theorem q_looks_c {r rs} : looks (r :: rs) = bind (look r) fun d => bind (looks rs) fun ds => ret (d :: ds) := (rfl)
@[simp] theorem q_bind1 {g d e} : bind1 g d e = ofO (bindN [g] [d] e) := (rfl)
@[simp] theorem q_bindN_n {e} : bindN [] [] e = some e := by unfold bindN; rfl
@[simp] theorem q_bindN_s {i m gs d ds e} : bindN (.s i m :: gs) (d :: ds) e = bindN gs ds (e.set i (some (.v d))) := by conv => lhs; unfold bindN
@[simp] theorem q_bindN_t {hs gs cs ds e} : bindN (.t hs :: gs) (.tuple cs :: ds) e = (match bindN hs cs e with
    | some e' => bindN gs ds e'
    | none => none) := by
  conv => lhs; unfold bindN
  all_goals (cases bindN hs cs e <;> rfl)
@[simp] theorem q_tru_b {b : Bool} : truD (.bool b) = some b := (rfl)
@[simp] theorem q_tru_i {b : Int} : truD (.int b) = some (b != 0) := (rfl)
@[simp] theorem q_tru_l {b : List D} : truD (.list b) = some (!b.isEmpty) := (rfl)
@[simp] theorem q_tru_t {b : List D} : truD (.tuple b) = some (!b.isEmpty) := (rfl)
@[simp] theorem q_setAll_n {e} : setAll [] [] e = some e := by unfold setAll; rfl
@[simp] theorem q_setAll_c {i m is v vs e} : setAll ((i, m) :: is) (v :: vs) e = setAll is vs (e.set i (some v)) := by conv => lhs; unfold setAll
@[simp] theorem q_bi_abs : biD .abs = biAbs := (rfl)
@[simp] theorem q_bi_all : biD .all = biAll := (rfl)
@[simp] theorem q_bi_any : biD .any = biAny := (rfl)
@[simp] theorem q_bi_int : biD .int = biInt := (rfl)
@[simp] theorem q_bi_len : biD .len = biLen := (rfl)
@[simp] theorem q_bi_list : biD .list = biList := (rfl)
@[simp] theorem q_bi_max : biD .max = biMax := (rfl)
@[simp] theorem q_bi_min : biD .min = biMin := (rfl)
@[simp] theorem q_bi_sorted : biD .sorted = biSorted := (rfl)
@[simp] theorem q_bi_sum : biD .sum = biSum := (rfl)
@[simp] theorem q_bi_tuple : biD .tuple = biTuple := (rfl)
@[simp] theorem q_bi_repr : biD .repr = biRepr := (rfl)
@[simp] theorem q_bi_divmod : biD .divmod = biDivmod := (rfl)
@[simp] theorem q_bi_sortSet : biD .sortSet = biSortSet := (rfl)
@[simp] theorem q_bi_lenSet : biD .lenSet = biLenSet := (rfl)
@[simp] theorem q_bi_listRng : biD .listRng = biListRng := (rfl)
@[simp] theorem q_bi_isinst {ts} : biD (.isinst ts) = biIsinst ts := (rfl)
@[simp] theorem q_isinst {ts d} : biIsinst ts [d] = some (.v (.bool ((tysOf d).any fun t => ts.contains t))) := (rfl)
@[simp] theorem q_ty_i {i} : tysOf (.int i) = [.int] := (rfl)
@[simp] theorem q_ty_b {i} : tysOf (.bool i) = [.bool, .int] := (rfl)
@[simp] theorem q_ty_s {i} : tysOf (.str i) = [.str] := (rfl)
@[simp] theorem q_ty_t {i} : tysOf (.tuple i) = [.tuple] := (rfl)
@[simp] theorem q_ty_l {i} : tysOf (.list i) = [.list] := (rfl)
@[simp] theorem q_len_l {ds} : biLen [.list ds] = some (.v (.int ds.length)) := (rfl)
@[simp] theorem q_len_t {ds} : biLen [.tuple ds] = some (.v (.int ds.length)) := (rfl)
@[simp] theorem q_list_l {ds} : biList [.list ds] = some (.n (.list ds)) := (rfl)
@[simp] theorem q_list_t {ds} : biList [.tuple ds] = some (.n (.list ds)) := (rfl)
@[simp] theorem q_tuple_l {ds} : biTuple [.list ds] = some (.v (.tuple ds)) := (rfl)
@[simp] theorem q_all {ds} : biAll [.list ds] = (boolsD ds).map fun bs => .v (.bool (bs.all id)) := (rfl)
@[simp] theorem q_sum {ds} : biSum [.list ds] = (intsD ds).map fun is => .v (.int is.sum) := (rfl)
@[simp] theorem q_abs {i} : biAbs [.int i] = some (.v (.int (if i < 0 then -i else i))) := (rfl)
@[simp] theorem q_int {i} : biInt [.int i] = some (.v (.int i)) := (rfl)
@[simp] theorem q_int_b {b} : biInt [.bool b] = some (.v (.int (if b then 1 else 0))) := (rfl)
@[simp] theorem q_max {i j} : biMax [.int i, .int j] = some (.v (.int (if j > i then j else i))) := (rfl)
@[simp] theorem q_p1 {v : Vl} : ofO ([0].mapM fun j => [v][j]?) = ret [v] := (rfl)
@[simp] theorem q_p2 {v u : Vl} : ofO ([0, 1].mapM fun j => [v, u][j]?) = ret [v, u] := (rfl)
@[simp] theorem q_p2r {v u : Vl} : ofO ([1, 0].mapM fun j => [v, u][j]?) = ret [u, v] := (rfl)
@[simp] theorem q_p3 {v u w : Vl} : ofO ([0, 1, 2].mapM fun j => [v, u, w][j]?) = ret [v, u, w] := (rfl)
@[simp] theorem q_p4 {v u w x : Vl} : ofO ([0, 1, 2, 3].mapM fun j => [v, u, w, x][j]?) = ret [v, u, w, x] := (rfl)
@[simp] theorem q_gv {d : D} {e : Env} : getV 0 (some (.v d) :: e) = ret (.v d) := (rfl)
@[simp] theorem q_gp {k : Nat} {e : Env} : getV 0 (some (.p k) :: e) = ret (.p k) := (rfl)
@[simp] theorem q_gg {d : D} {e : Env} : getV 0 (some (.g d) :: e) = ret (.g d) := (rfl)
@[simp] theorem q_gs {i : Nat} {x : Option Vl} {e : Env} : getV (i + 1) (x :: e) = getV i e := (rfl)
@[simp] theorem q_some {α : Type} {a : α} : ofO (some a) = ret a := (rfl)
@[simp] theorem w_look_p {s : Sto} {k : Nat} {Q : D → Sto → Prop} : wp (look (.p k)) s Q ↔ ∃ d, (s[k]?).bind Ob.data? = some d ∧ Q d s := by
  constructor
  · rintro ⟨d, s', e, q⟩
    obtain ⟨e, rfl⟩ := look_ok e
    exact ⟨d, e, q⟩
  · rintro ⟨d, e, q⟩
    refine ⟨d, s, ?_, q⟩
    unfold look view
    show (match (s[k]?).bind Ob.data? with | some d => Out.ok d s | none => Out.no) = _
    rw [e]
@[simp] theorem w_lookP_p {s : Sto} {k : Nat} {Q : D → Sto → Prop} : wp (lookP (.p k)) s Q ↔ ∃ d, (s[k]?).bind Ob.data? = some d ∧ Q d s := w_look_p
@[simp] theorem w_take_p {s : Sto} {k : Nat} {Q : D → Sto → Prop} : wp (take (.p k)) s Q ↔ ∃ d, s[k]? = some (.fl d) ∧ Q d (s.set k .dead) := by
  constructor
  · rintro ⟨d, s', e, q⟩
    unfold take at e
    dsimp only at e
    cases h : s[k]? with
    | none => rw [h] at e; cases e
    | some o =>
      rw [h] at e
      cases o with
      | fl d2 => cases e; exact ⟨_, rfl, q⟩
      | dead => cases e
      | lk d2 => cases e
  · rintro ⟨d, e, q⟩
    exact (wp_take_p e).mpr q
@[simp] theorem w_modify {s : Sto} {k : Nat} {f : D → Option D} {Q : Unit → Sto → Prop} : wp (modify (.p k) f) s Q ↔ ∃ d e, s[k]? = some (.fl d) ∧ f d = some e ∧ Q () (s.set k (.fl e)) := by
  constructor
  · rintro ⟨u, s', e, q⟩
    unfold modify at e
    dsimp only at e
    cases h : s[k]? with
    | none => rw [h] at e; cases e
    | some o =>
      rw [h] at e
      cases o with
      | fl d2 =>
        dsimp only at e
        cases g : f d2 with
        | none => rw [g] at e; cases e
        | some z => rw [g] at e; cases e; exact ⟨d2, z, rfl, g, q⟩
      | dead => cases e
      | lk d2 => cases e
  · rintro ⟨d, e, h1, h2, q⟩
    exact (wp_modify h1 h2).mpr q
@[simp] theorem w_pop {s : Sto} {k : Nat} {f : D → Option (D × D)} {Q : R → Sto → Prop} : wp (popM (.p k) f) s Q ↔ ∃ d y e, s[k]? = some (.fl d) ∧ f d = some (y, e) ∧ Q (.v y) (s.set k (.fl e)) := by
  constructor
  · rintro ⟨u, s', e, q⟩
    unfold popM at e
    dsimp only at e
    cases h : s[k]? with
    | none => rw [h] at e; cases e
    | some o =>
      rw [h] at e
      cases o with
      | fl d2 =>
        dsimp only at e
        cases g : f d2 with
        | none => rw [g] at e; cases e
        | some z => rw [g] at e; cases e; exact ⟨d2, z.1, z.2, rfl, g, q⟩
      | dead => cases e
      | lk d2 => cases e
  · rintro ⟨d, y, e, h1, h2, q⟩
    exact (wp_pop h1 h2).mpr q
@[simp] theorem w_leave_p {s : Sto} {base k : Nat} {Q : R → Sto → Prop} : wp (leave base (.rt (.p k))) s Q ↔ if k < base then Q (.p k) (s.take base) else ∃ d, s[k]? = some (.fl d) ∧ Q (.n d) (s.take base) := by
  by_cases h : k < base
  · rw [if_pos h]
    have e : leave base (.rt (.p k)) s = .ok (.p k) (s.take base) := by
      unfold leave
      simp only [if_pos h]
    constructor
    · rintro ⟨_, _, e2, q⟩
      rw [e] at e2
      cases e2
      exact q
    · exact fun q => ⟨_, _, e, q⟩
  · rw [if_neg h]
    constructor
    · rintro ⟨u, s', e, q⟩
      unfold leave at e
      simp only [if_neg h] at e
      cases g : s[k]? with
      | none => rw [g] at e; cases e
      | some o =>
        rw [g] at e
        cases o with
        | fl d2 => cases e; exact ⟨_, rfl, q⟩
        | dead => cases e
        | lk d2 => cases e
    · rintro ⟨d, e, q⟩
      exact (wp_leave_p h e).mpr q
@[simp] theorem w_newL {s : Sto} {ds : List D} {Q : R → Sto → Prop} : wp (newL ds) s Q ↔ ds.length ≤ 16777216 ∧ Q (.n (.list ds)) s := by
  constructor
  · rintro ⟨u, s', e, q⟩
    unfold newL at e
    obtain ⟨a, s1, e1, e2⟩ := bind_ok e
    obtain ⟨g, rfl⟩ := guard_ok e1
    cases e2
    exact ⟨of_decide_eq_true g, q⟩
  · rintro ⟨h, q⟩
    exact (wp_newL h).mpr q
@[simp] theorem w_data_fl {d : D} : Ob.data? (.fl d) = some d := (rfl)
@[simp] theorem w_data_lk {d : D} : Ob.data? (.lk d) = some d := (rfl)
@[simp] theorem w_extD {es xs : List D} {e : D} : extD es (.list xs) = some e ↔ xs.length + es.length ≤ 16777216 ∧ .list (xs ++ es) = e := by
  show (if lenOk (xs.length + es.length) then some (PyData.list (xs ++ es)) else none) = some e ↔ _
  by_cases h : xs.length + es.length ≤ sizeLine
  · rw [if_pos (show lenOk _ = true from decide_eq_true h), Option.some_inj]
    exact ⟨fun z => ⟨h, z⟩, fun z => z.2⟩
  · rw [if_neg (fun z : lenOk _ = true => h (of_decide_eq_true z))]
    exact ⟨(fun z => by cases z), fun z => (h z.1).elim⟩
@[simp] theorem w_appD {d : D} {xs : List D} {e : D} : appD d (.list xs) = some e ↔ xs.length < 16777216 ∧ .list (xs ++ [d]) = e := by
  show (if decide (xs.length < sizeLine) then some (PyData.list (xs ++ [d])) else none) = some e ↔ _
  by_cases h : xs.length < sizeLine
  · rw [if_pos (decide_eq_true h), Option.some_inj]
    exact ⟨fun z => ⟨h, z⟩, fun z => z.2⟩
  · rw [if_neg (fun z => h (of_decide_eq_true z))]
    exact ⟨(fun z => by cases z), fun z => (h z.1).elim⟩
@[simp] theorem w_add_list {a b : List D} : binD .add (.list a) (.list b) = if a.length + b.length ≤ 16777216 then some (.n (.list (a ++ b))) else none := by
  by_cases h : a.length + b.length ≤ 16777216
  · rw [add_list h, if_pos h]
  · rw [if_neg h]
    show (if lenOk (a.length + b.length) then _ else _) = _
    rw [if_neg (fun z : lenOk _ = true => h (of_decide_eq_true z))]
@[simp] theorem w_add_tuple {a b : List D} : binD .add (.tuple a) (.tuple b) = if a.length + b.length ≤ 16777216 then some (.v (.tuple (a ++ b))) else none := by
  by_cases h : a.length + b.length ≤ 16777216
  · rw [add_tuple h, if_pos h]
  · rw [if_neg h]
    show (if lenOk (a.length + b.length) then _ else _) = _
    rw [if_neg (fun z : lenOk _ = true => h (of_decide_eq_true z))]
@[simp] theorem w_app_v {r : R} {d : D} : mutM .append r [.v d] = bind (modify r (appD d)) fun _ => ret (.v .none) := (rfl)
@[simp] theorem w_app_n {r : R} {d : D} : mutM .append r [.n d] = bind (modify r (appD d)) fun _ => ret (.v .none) := (rfl)
@[simp] theorem w_ext_v {r : R} {ds : List D} : mutM .extend r [.v (.list ds)] = bind (modify r (extD ds)) fun _ => ret (.v .none) := (rfl)
@[simp] theorem w_ext_n {r : R} {ds : List D} : mutM .extend r [.n (.list ds)] = bind (modify r (extD ds)) fun _ => ret (.v .none) := (rfl)
@[simp] theorem w_pop_n {r : R} {i : Int} : mutM .pop r [.v (.int i)] = popM r (popD (some i)) := (rfl)
@[simp] theorem w_isL {ds : List D} : isL (.list ds) = true := (rfl)
@[simp] theorem w_get0 {s t : List Ob} : (s ++ t)[s.length]? = t[0]? := st_get0 rfl
@[simp] theorem w_get {s t : List Ob} {i : Nat} : (s ++ t)[s.length + i]? = t[i]? := st_get rfl
@[simp] theorem w_set0 {s t : List Ob} {o : Ob} : (s ++ t).set s.length o = s ++ t.set 0 o := st_set0 rfl
@[simp] theorem w_set {s t : List Ob} {i : Nat} {o : Ob} : (s ++ t).set (s.length + i) o = s ++ t.set i o := st_set rfl
theorem le_sz {k : Nat} (h : k ≤ 16777216) : k ≤ sizeLine := h
theorem lt_sz {k : Nat} (h : k < 16777216) : k < sizeLine := h
end Vm

set_option Elab.async false
set_option linter.all false
set_option maxRecDepth 100000
set_option maxHeartbeats 400000
/-! Vm: texts of data that are compared. -/
namespace Vm
open PySem PySem.Spec PyProof.Rows L2
def ShS (d : D) : Prop := ∀ c ∈ d.shown.cps.toList, c < 0x110000
theorem sgn_ofString (z : String) : ∀ c ∈ (Str.ofString z).cps.toList, c < 0x110000 := fun c hc => by
  rw [signs_ofString, List.mem_map] at hc
  obtain ⟨ch, _, rfl⟩ := hc
  have := ch.valid
  have e : ch.val.toNat = ch.toNat := rfl
  unfold UInt32.isValidChar Nat.isValidChar at this
  omega
theorem shS_int {i : Int} : ShS (.int i) := fun c hc => by
  rw [PyData.shown_int] at hc
  exact sgn_ofString _ c hc
theorem shS_all : ∀ {ds : List D}, (∀ d ∈ ds, ShS d) → ∀ t ∈ PyData.shownAll ds, ∀ c ∈ t.cps.toList, c < 0x110000
  | [], _, t, ht => by cases ht
  | d :: ds, h, t, ht => by
    rcases List.mem_cons.mp ht with rfl | ht
    · exact h d (.head _)
    · exact shS_all (fun x hx => h x (.tail _ hx)) t ht
theorem shS_list {ds : List D} (h : ∀ d ∈ ds, ShS d) : ShS (.list ds) := fun c hc => by
  rw [PyData.shown_list, mem_cps_append, mem_cps_append, mem_join] at hc
  rcases hc with (hc | ⟨t, ht, hc⟩ | ⟨_, hc⟩) | hc
  · exact sgn_ofString _ c hc
  · exact shS_all h t ht c hc
  · exact sgn_ofString _ c hc
  · exact sgn_ofString _ c hc
theorem shS_tuple {ds : List D} (h : ∀ d ∈ ds, ShS d) : ShS (.tuple ds) := fun c hc => by
  rw [PyData.shown_tuple, mem_cps_append, mem_cps_append, mem_join] at hc
  rcases hc with (hc | ⟨t, ht, hc⟩ | ⟨_, hc⟩) | hc
  · exact sgn_ofString _ c hc
  · exact shS_all h t ht c hc
  · exact sgn_ofString _ c hc
  · exact sgn_ofString _ c hc
theorem strOk_of {x : Str} (h : ∀ c ∈ x.cps.toList, c < 0x110000) : PyData.strOk x = true := by
  unfold PyData.strOk
  rw [Array.all_eq_true_iff_forall_mem]
  intro c hc
  exact decide_eq_true (h c (Array.mem_toList_iff.mpr hc))
theorem strOk_lit (z : String) : PyData.strOk (Str.ofString z) = true := strOk_of (sgn_ofString z)
theorem cmp_lit (x y : String) : cmpD .eq (.str (Str.ofString x)) (.str (Str.ofString y)) = some (decide (Str.ofString x = Str.ofString y)) := cmp_eq_str (strOk_lit x) (strOk_lit y)
theorem cmp_litn (x y : String) : cmpD .ne (.str (Str.ofString x)) (.str (Str.ofString y)) = some (!decide (Str.ofString x = Str.ofString y)) := cmp_ne_str (strOk_lit x) (strOk_lit y)
/-- the text of a list, compared with itself -/
theorem repr_same {ds : List D} (h : Fit 64 (2 ^ 20) (.list ds)) (g : ∀ d ∈ ds, ShS d) : ∃ X, biRepr [.list ds] = some (.v (.str X)) ∧ cmpD .ne (.str X) (.str X) = some false := by
  refine ⟨(PyData.list ds).shown, ?_, ?_⟩
  · show (if reprOk (.list ds) then _ else _) = _
    rw [if_pos (fit_reprOk h)]
  · have e := strOk_of (shS_list g)
    rw [cmp_ne_str e e]
    simp
theorem w_mulL2 {d : D} : binD .mul (.list [d]) (.int 2) = some (.n (.list [d, d])) := by
  rfl
theorem rngOf_sub {a b : Nat} (h : b ≤ a) (g : a < 2 ^ 62) : rngOf [.int ((a : Int) - (b : Int))] = ret (.rng 0 (a - b), a - b) := by
  rw [show (a : Int) - (b : Int) = ((a - b : Nat) : Int) by omega, rngOf1 (by omega)]
theorem rngOf_lit3 : rngOf [.int 3] = ret (.rng 0 3, 3) := rngOf1 (m := 3) (by decide)
theorem rngOf_lit4 : rngOf [.int 4] = ret (.rng 0 4, 4) := rngOf1 (m := 4) (by decide)
/-! ### statement by statement -/
theorem wp_cut {C : Cfg} {a : Sm} {as : List Sm} {e : Env} {s : Sto} {Q : Fl → Sto → Prop} (P : Env → Sto → Prop) (h1 : wp (evS C a e) s fun f s' => ∃ e', f = .nx e' ∧ P e' s') (h2 : ∀ e' s', P e' s' → wp (evSs C as e') s' Q) : wp (evSs C (a :: as) e) s Q := by
  have e1 : evSs C (a :: as) e = bind (evS C a e) fun f => match f with
    | .nx e' => evSs C as e'
    | f => ret f := by
    conv => lhs; unfold evSs
    all_goals rfl
  rw [e1, wp_bind]
  refine wp_mono h1 fun f s' h => ?_
  obtain ⟨e', rfl, p⟩ := h
  exact h2 e' s' p
theorem wp_ife {C : Cfg} {t : Co} {a b : List Sm} {e : Env} {s : Sto} {Q : Fl → Sto → Prop} (P : Bool → Sto → Prop) (h1 : wp (evT C t e) s P) (h2 : ∀ s', P true s' → wp (evSs C a e) s' Q) (h3 : ∀ s', P false s' → wp (evSs C b e) s' Q) : wp (evS C (.ife t a b) e) s Q := by
  have e1 : evS C (.ife t a b) e = bind (evT C t e) fun c => if c = true then evSs C a e else evSs C b e := by
    conv => lhs; unfold evS
  rw [e1, wp_bind]
  refine wp_mono h1 fun c s' h => ?_
  cases c
  · exact h3 s' h
  · exact h2 s' h
/-- a comprehension over an object of the store, whose items change nothing -/
theorem wp_map1p {γ : Type} {s : Sto} (l : List γ) (c : γ → D) (k : γ → D) {j n : Nat} {Q : List D → Sto → Prop} (hs : s[j]? = some (.fl (.list (l.map c)))) (hn : n = l.length) {f : D → M (List D)} (h : ∀ x ∈ l, f (c x) = ret [k x]) (q : Q (l.map k) s) : wp (mapS (.seq (.p j)) f n 0) s Q := by
  refine wp_map (ds := l.map c) (by rw [List.length_map]; exact hn) (fun i acc t => t = s ∧ acc = (l.take i).map k) (fun i acc t z => by rw [z.1]; exact at_p hs) ⟨rfl, by simp⟩ ?_ ?_
  · rintro i hi acc t ⟨rfl, rfl⟩
    have hi : i < l.length := by rw [List.length_map] at hi; exact hi
    rw [List.getElem_map, h _ (List.getElem_mem hi), wp_ret, ← List.take_append_getElem hi, List.map_append]
    exact ⟨rfl, rfl⟩
  · rintro acc t ⟨rfl, rfl⟩
    rw [List.length_map, List.take_length]
    exact q
theorem cmp_ne_nil {l : List Int} (h : ∀ i ∈ l, i.natAbs < 10 ^ 12) : cmpD .ne (.list (l.map .int)) (.list []) = some (!l.isEmpty) := by
  have f1 : Fit 1 (41 * (l.map PyData.int).length) (.list (l.map PyData.int)) := fit_list (fit_all fun d hd => by
    rw [List.mem_map] at hd
    obtain ⟨i, hi, rfl⟩ := hd
    exact fit_int (h i hi))
  rw [cmp_ne_of (fit_shp f1 (by decide)) (fit_shp (n := 1) (w := 0) (fit_list fit_nil) (by decide))]
  cases l <;> simp [PyData.eqv, PyData.eqvAll]
theorem pop_nat {xs : List D} {k : Nat} (h : k < xs.length) (h2 : k < 1000000) : popD (some (k : Int)) (.list xs) = some (xs[k], .list (xs.eraseIdx k)) := by
  have g0 : popD (some (k : Int)) (.list xs) = if decide (-(2 ^ 63) ≤ (k : Int)) && decide ((k : Int) < 2 ^ 63) then (match seqIndex? (k : Int) xs.length with
    | some k => xs[k]?.map fun y => (y, PyData.list (xs.eraseIdx k))
    | none => none) else none := rfl
  have e : seqIndex? (k : Int) xs.length = some k := by
    have g : ¬ (k : Int) < 0 := by omega
    unfold seqIndex?
    simp [g, h]
  rw [g0, decide_eq_true (show -(2 ^ 63) ≤ (k : Int) by omega), decide_eq_true (show (k : Int) < 2 ^ 63 by omega), if_pos (show (true && true) = true from rfl), e]
  simp [h]
theorem q_listRng {n : Nat} (h : n < 16777216) : biListRng [.int (n : Int)] = some (.n (.list ((List.range n).map fun i : Nat => .int (i : Int)))) := by
  have g0 : biListRng [.int (n : Int)] = if smallR (n : Int) && decide (((n : Int) - 0).toNat ≤ 2 ^ 24) then some (R.n (PyData.list (rngD 0 (n : Int)))) else none := rfl
  rw [g0, smallR_nat (by omega), decide_eq_true (show ((n : Int) - 0).toNat ≤ 2 ^ 24 by omega), if_pos (show (true && true) = true from rfl)]
  unfold rngD
  simp
end Vm

set_option Elab.async false
set_option linter.all false
set_option maxRecDepth 100000
set_option maxHeartbeats 4000000
/-! k11 in plain Lean: tuples of bits, parities, secrets. -/
namespace Lw
open PySem PySem.Spec PyProof.Rows L2 Vm
def bI (b : Bool) : Int := if b then 1 else 0
/-- all tuples of n bits, in their order -/
def tup : Nat → List (List Bool)
  | 0 => [[]]
  | n + 1 => (tup n).map (false :: ·) ++ (tup n).map (true :: ·)
theorem tup_snoc : ∀ n, tup (n + 1) = (tup n).flatMap fun p => [p ++ [false], p ++ [true]]
  | 0 => rfl
  | n + 1 => by
    have ih := tup_snoc n
    have e : tup (n + 1 + 1) = (tup (n + 1)).map (false :: ·) ++ (tup (n + 1)).map (true :: ·) := rfl
    have e1 : tup (n + 1) = (tup n).map (false :: ·) ++ (tup n).map (true :: ·) := rfl
    rw [e]
    conv => lhs; rw [ih]
    rw [e1, List.flatMap_append, List.map_flatMap, List.map_flatMap, List.flatMap_map, List.flatMap_map]
    rfl
theorem tup_len : ∀ {n : Nat} {p : List Bool}, p ∈ tup n → p.length = n
  | 0, p, h => by
    cases h with
    | head => rfl
    | tail _ h => cases h
  | n + 1, p, h => by
    have h : p ∈ (tup n).map (false :: ·) ++ (tup n).map (true :: ·) := h
    rw [List.mem_append, List.mem_map, List.mem_map] at h
    rcases h with ⟨q, h, e⟩ | ⟨q, h, e⟩ <;> rw [← e, List.length_cons, tup_len h]
theorem mem_tup : ∀ {n : Nat} {p : List Bool}, p.length = n → p ∈ tup n
  | 0, [], _ => .head _
  | n + 1, b :: p, h => by
    show b :: p ∈ (tup n).map (false :: ·) ++ (tup n).map (true :: ·)
    have ih := mem_tup (n := n) (p := p) (by simpa using h)
    rw [List.mem_append, List.mem_map, List.mem_map]
    cases b
    · exact .inl ⟨p, ih, rfl⟩
    · exact .inr ⟨p, ih, rfl⟩
theorem tup_length : ∀ n, (tup n).length = 2 ^ n
  | 0 => rfl
  | n + 1 => by
    show ((tup n).map (false :: ·) ++ (tup n).map (true :: ·)).length = _
    rw [List.length_append, List.length_map, List.length_map, tup_length n, Nat.pow_succ]
    omega
theorem tup_nodup : ∀ n, (tup n).Nodup
  | 0 => by simp [tup]
  | n + 1 => by
    have ih := tup_nodup n
    show ((tup n).map (false :: ·) ++ (tup n).map (true :: ·)).Nodup
    unfold List.Nodup at *
    rw [List.pairwise_append, List.pairwise_map, List.pairwise_map]
    refine ⟨ih.imp fun h e => h (List.cons.inj e).2, ih.imp fun h e => h (List.cons.inj e).2, fun a ha b hb => ?_⟩
    rw [List.mem_map] at ha hb
    obtain ⟨x, _, rfl⟩ := ha
    obtain ⟨y, _, rfl⟩ := hb
    intro e
    cases e
theorem tup_sorted : ∀ n, (tup n).Pairwise fun p q => leInts (p.map bI) (q.map bI) = true
  | 0 => by simp [tup]
  | n + 1 => by
    have ih := tup_sorted n
    show ((tup n).map (false :: ·) ++ (tup n).map (true :: ·)).Pairwise _
    rw [List.pairwise_append, List.pairwise_map, List.pairwise_map]
    refine ⟨ih.imp fun {a b} h => ?_, ih.imp fun {a b} h => ?_, fun a ha b hb => ?_⟩
    · rw [List.map_cons, List.map_cons, leInts_cons]
      exact .inr ⟨rfl, h⟩
    · rw [List.map_cons, List.map_cons, leInts_cons]
      exact .inr ⟨rfl, h⟩
    · rw [List.mem_map] at ha hb
      obtain ⟨x, _, rfl⟩ := ha
      obtain ⟨y, _, rfl⟩ := hb
      rw [List.map_cons, List.map_cons, leInts_cons]
      exact .inl (by decide)
def par : List Bool → Bool
  | [] => false
  | b :: r => xor b (par r)
theorem par_snoc : ∀ (p : List Bool) (b : Bool), par (p ++ [b]) = xor (par p) b
  | [], b => by cases b <;> rfl
  | a :: p, b => by
    show xor a (par (p ++ [b])) = xor (xor a (par p)) b
    rw [par_snoc p b, Bool.xor_assoc]
theorem par_count : ∀ p : List Bool, par p = decide (p.countP id % 2 = 1)
  | [] => rfl
  | a :: p => by
    show xor a (par p) = _
    rw [par_count p, List.countP_cons]
    cases a
    · simp
    · by_cases h : p.countP id % 2 = 1
      · have : ¬ (p.countP id + 1) % 2 = 1 := by omega
        simp [h, this]
      · have : (p.countP id + 1) % 2 = 1 := by omega
        simp [h, this]
def sec : List Nat → List Bool → List Bool
  | [], _ => []
  | k :: ks, p => par (p.take k) :: sec ks (p.drop k)
theorem sec_len : ∀ (ks : List Nat) (p : List Bool), (sec ks p).length = ks.length
  | [], _ => rfl
  | k :: ks, p => by
    show (sec ks (p.drop k)).length + 1 = _
    rw [sec_len]
    rfl
theorem cnt_split (m : Nat) (Q : List Bool → Bool) : ∀ (k : Nat) (b : Bool), (tup (k + m)).countP (fun p => (par (p.take k) == b) && Q (p.drop k)) = if k = 0 then (if b then 0 else (tup m).countP Q) else 2 ^ (k - 1) * (tup m).countP Q
  | 0, b => by
    rw [if_pos rfl, Nat.zero_add]
    cases b
    · simp [par]
    · simp [par]
  | k + 1, b => by
    rw [if_neg (by omega), show k + 1 + m = (k + m) + 1 by omega]
    show ((tup (k + m)).map (false :: ·) ++ (tup (k + m)).map (true :: ·)).countP _ = _
    rw [List.countP_append, List.countP_map, List.countP_map]
    have e1 : ((fun p : List Bool => (par (p.take (k + 1)) == b) && Q (p.drop (k + 1))) ∘ (false :: ·)) = fun p => (par (p.take k) == b) && Q (p.drop k) := funext fun p => by
      simp [par]
    have e2 : ((fun p : List Bool => (par (p.take (k + 1)) == b) && Q (p.drop (k + 1))) ∘ (true :: ·)) = fun p => (par (p.take k) == !b) && Q (p.drop k) := funext fun p => by
      simp only [Function.comp_apply, List.take_succ_cons, par, List.drop_succ_cons]
      cases par (p.take k) <;> cases b <;> rfl
    rw [e1, e2, cnt_split m Q k b, cnt_split m Q k (!b)]
    by_cases h : k = 0
    · subst h
      cases b <;> simp
    · rw [if_neg h, if_neg h, show k + 1 - 1 = (k - 1) + 1 by omega, Nat.pow_succ, Nat.mul_right_comm]
      omega
theorem sum_ge : ∀ {ks : List Nat}, (∀ k ∈ ks, 1 ≤ k) → ks.length ≤ ks.sum
  | [], _ => Nat.le_refl _
  | k :: ks, h => by
    have h1 := h k (.head _)
    have h2 := sum_ge (ks := ks) fun x hx => h x (.tail _ hx)
    rw [List.length_cons, List.sum_cons]
    omega
theorem sec_count (c : Nat) : ∀ (ks : List Nat) (s : List Bool), (∀ k ∈ ks, 1 ≤ k) → s.length = ks.length → (tup (ks.sum + c)).countP (fun p => sec ks p == s) = 2 ^ (ks.sum + c - ks.length)
  | [], s, _, h => by
    have : s = [] := List.eq_nil_of_length_eq_zero h
    subst this
    simp [sec, tup_length]
  | k :: ks, [], _, h => by cases h
  | k :: ks, b :: s, hk, h => by
    have h1 := hk k (.head _)
    have hk' : ∀ k ∈ ks, 1 ≤ k := fun x hx => hk x (.tail _ hx)
    have ih := sec_count c ks s hk' (by simpa using h)
    have g := sum_ge hk'
    have e : (fun p : List Bool => sec (k :: ks) p == b :: s) = fun p => (par (p.take k) == b) && (fun q => sec ks q == s) (p.drop k) := rfl
    rw [List.sum_cons, Nat.add_assoc, e, cnt_split (ks.sum + c) (fun q => sec ks q == s) k b, if_neg (by omega), ih, ← Nat.pow_add, List.length_cons]
    congr 1
    omega
theorem part_perm {α β : Type} [BEq β] [LawfulBEq β] (f : α → β) : ∀ (ks : List β), ks.Nodup → ∀ (x : α) (l : List α), f x ∈ ks → (ks.flatMap fun k => (x :: l).filter fun x => f x == k).Perm (x :: ks.flatMap fun k => l.filter fun x => f x == k)
  | [], _, _, _, h => by cases h
  | k :: ks, nd, x, l, h => by
    have nd : k ∉ ks ∧ ks.Nodup := List.nodup_cons.mp nd
    rw [List.flatMap_cons, List.flatMap_cons]
    by_cases e : f x = k
    · have e1 : ∀ ks : List β, k ∉ ks → (ks.flatMap fun k => (x :: l).filter fun x => f x == k) = ks.flatMap fun k => l.filter fun x => f x == k := fun ks => by
        induction ks with
        | nil => exact fun _ => rfl
        | cons j js ih =>
          intro hn
          rw [List.flatMap_cons, List.flatMap_cons, ih fun z => hn (.tail _ z)]
          have : ¬ f x = j := fun z => hn (by rw [← e, z]; exact .head _)
          rw [List.filter_cons_of_neg (by simpa using this)]
      rw [e1 ks nd.1, List.filter_cons_of_pos (by simpa using e)]
      exact .refl _
    · have h2 : f x ∈ ks := by
        rcases List.mem_cons.mp h with h | h
        · exact (e h).elim
        · exact h
      rw [List.filter_cons_of_neg (by simpa using e)]
      exact ((part_perm f ks nd.2 x l h2).append_left _).trans List.perm_middle
theorem parts_perm {α β : Type} [BEq β] [LawfulBEq β] (f : α → β) {ks : List β} (nd : ks.Nodup) : ∀ l : List α, (∀ x ∈ l, f x ∈ ks) → (ks.flatMap fun k => l.filter fun x => f x == k).Perm l
  | [], _ => by
    have : (ks.flatMap fun k => ([] : List α).filter fun x => f x == k) = [] := by simp
    rw [this]
  | x :: l, h => (part_perm f ks nd x l (h x (.head _))).trans ((parts_perm f nd l fun y hy => h y (.tail _ hy)).cons x)
def flip : List Bool → Nat → List Bool
  | [], _ => []
  | b :: p, 0 => (!b) :: p
  | b :: p, n + 1 => b :: flip p n
theorem flip_len : ∀ (p : List Bool) (n : Nat), (flip p n).length = p.length
  | [], _ => rfl
  | _ :: _, 0 => rfl
  | _ :: p, n + 1 => congrArg (· + 1) (flip_len p n)
theorem flip_cut : ∀ {p : List Bool} {n : Nat} (h : n < p.length), flip p n = p.take n ++ [!p[n]] ++ p.drop (n + 1)
  | b :: p, 0, _ => rfl
  | b :: p, n + 1, h => by
    show b :: flip p n = _
    rw [flip_cut (p := p) (n := n) (by simpa using h)]
    rfl
theorem flip_get : ∀ {p : List Bool} {n j : Nat} (h : j < p.length), (flip p n)[j]'(by rw [flip_len]; exact h) = xor p[j] (decide (j = n))
  | b :: p, 0, 0, _ => by show (!b) = xor b _; cases b <;> rfl
  | b :: p, 0, j + 1, _ => by
    show (p[j]'_) = xor (p[j]'_) _
    simp
  | b :: p, n + 1, 0, _ => by show b = xor b _; cases b <;> rfl
  | b :: p, n + 1, j + 1, h => by
    show (flip p n)[j]'_ = xor (p[j]'_) _
    rw [flip_get (p := p) (n := n) (j := j) (by simpa using h)]
    congr 1
    simp
theorem par_flip : ∀ {p : List Bool} {n : Nat}, n < p.length → par (flip p n) = !par p
  | b :: p, 0, _ => by
    show xor (!b) (par p) = !xor b (par p)
    cases b <;> simp
  | b :: p, n + 1, h => by
    show xor b (par (flip p n)) = !xor b (par p)
    rw [par_flip (p := p) (n := n) (by simpa using h)]
    cases b <;> simp
theorem take_flip : ∀ {p : List Bool} {n k : Nat}, (flip p n).take k = if n < k then flip (p.take k) n else p.take k
  | [], n, k => by simp [flip]
  | b :: p, n, 0 => by simp
  | b :: p, 0, k + 1 => by simp [flip]
  | b :: p, n + 1, k + 1 => by
    show b :: (flip p n).take k = _
    rw [take_flip (p := p) (n := n) (k := k)]
    by_cases h : n < k
    · rw [if_pos h, if_pos (by omega)]
      rfl
    · rw [if_neg h, if_neg (by omega)]
      rfl
theorem drop_flip : ∀ {p : List Bool} {n k : Nat}, (flip p n).drop k = if n < k then p.drop k else flip (p.drop k) (n - k)
  | [], n, k => by simp [flip]
  | b :: p, n, 0 => by simp
  | b :: p, 0, k + 1 => by simp [flip]
  | b :: p, n + 1, k + 1 => by
    show (flip p n).drop k = _
    rw [drop_flip (p := p) (n := n) (k := k), show n + 1 - (k + 1) = n - k by omega]
    by_cases h : n < k
    · rw [if_pos h, if_pos (by omega)]
      rfl
    · rw [if_neg h, if_neg (by omega)]
      rfl
/-- which input a source is of -/
def own : List Nat → Nat → Option Nat
  | [], _ => none
  | k :: ks, n => if n < k then some 0 else (own ks (n - k)).map (· + 1)
theorem sec_flip : ∀ (ks : List Nat) (p : List Bool) (n : Nat), ks.sum ≤ p.length → n < p.length → sec ks (flip p n) = match own ks n with
    | none => sec ks p
    | some i => flip (sec ks p) i
  | [], _, _, _, _ => rfl
  | k :: ks, p, n, h, hn => by
    rw [List.sum_cons] at h
    show par ((flip p n).take k) :: sec ks ((flip p n).drop k) = _
    rw [take_flip, drop_flip]
    unfold own
    by_cases hk : n < k
    · rw [if_pos hk, if_pos hk, if_pos hk, par_flip (by rw [List.length_take]; omega)]
      rfl
    · rw [if_neg hk, if_neg hk, if_neg hk, sec_flip ks (p.drop k) (n - k) (by rw [List.length_drop]; omega) (by rw [List.length_drop]; omega)]
      cases own ks (n - k) <;> rfl
theorem own_lt : ∀ {ks : List Nat} {n i : Nat}, own ks n = some i → i < ks.length
  | k :: ks, n, i, h => by
    unfold own at h
    by_cases hk : n < k
    · rw [if_pos hk] at h
      cases h
      simp
    · rw [if_neg hk] at h
      cases e : own ks (n - k) with
      | none => rw [e] at h; cases h
      | some j =>
        rw [e] at h
        cases h
        have := own_lt e
        simpa using this
/-- the shares, input by input -/
def shF : Nat → List Nat → List (Nat × Nat)
  | _, [] => []
  | o, k :: ks => (List.range k).map (fun j => (o, j)) ++ shF (o + 1) ks
theorem shF_len : ∀ (o : Nat) (ks : List Nat), (shF o ks).length = ks.sum
  | _, [] => rfl
  | o, k :: ks => by
    show ((List.range k).map (fun j => (o, j)) ++ shF (o + 1) ks).length = _
    rw [List.length_append, List.length_map, List.length_range, shF_len, List.sum_cons]
theorem shF_own : ∀ (o : Nat) (ks : List Nat) (n : Nat) (h : n < (shF o ks).length), ∃ i, own ks n = some i ∧ ((shF o ks)[n]).1 = o + i
  | o, [], n, h => by simp [shF] at h
  | o, k :: ks, n, h => by
    have e : shF o (k :: ks) = (List.range k).map (fun j => (o, j)) ++ shF (o + 1) ks := rfl
    unfold own
    by_cases hk : n < k
    · rw [if_pos hk]
      refine ⟨0, rfl, ?_⟩
      simp only [e]
      rw [List.getElem_append_left (by simpa using hk)]
      simp
    · rw [if_neg hk]
      have hl : n - k < (shF (o + 1) ks).length := by
        rw [shF_len] at h ⊢
        rw [List.sum_cons] at h
        omega
      obtain ⟨i, h1, h2⟩ := shF_own (o + 1) ks (n - k) hl
      refine ⟨i + 1, by rw [h1]; rfl, ?_⟩
      simp only [e]
      rw [List.getElem_append_right (by simpa using hk)]
      simp only [List.length_map, List.length_range]
      rw [h2]
      omega
theorem own_none : ∀ {ks : List Nat} {n : Nat}, ks.sum ≤ n → own ks n = none
  | [], _, _ => rfl
  | k :: ks, n, h => by
    rw [List.sum_cons] at h
    unfold own
    rw [if_neg (by omega), own_none (by omega)]
    rfl
theorem filter_one {m i : Nat} (h : i < m) : (List.range m).filter (fun j => decide (j = i)) = [i] := by
  induction m with
  | zero => omega
  | succ m ih =>
    rw [List.range_succ, List.filter_append]
    by_cases e : i = m
    · subst e
      have : (List.range i).filter (fun j => decide (j = i)) = [] := by
        rw [List.filter_eq_nil_iff]
        intro a ha
        have := List.mem_range.mp ha
        simp
        omega
      rw [this]
      simp
    · rw [ih (by omega)]
      have : ¬ m = i := fun z => e z.symm
      simp [this]
end Lw

set_option Elab.async false
set_option linter.all false
set_option maxRecDepth 100000
set_option maxHeartbeats 400000
/-! circuits in plain Lean: wires, their values; look-ups by keys. -/
namespace Lw
open PySem PySem.Spec PyProof.Rows L2 Vm
inductive Wi where
  | src (n : Nat)
  | nt (x : Nat)
  | rg (x : Nat)
  | xr (x y : Nat)
  | an (x y : Nat)
/-- a wire's value, those of the wires ahead known -/
def wv (p f : List Bool) : Wi → Bool
  | .src n => p.getD n false
  | .nt x => !(f.getD x false)
  | .rg x => f.getD x false
  | .xr x y => xor (f.getD x false) (f.getD y false)
  | .an x y => f.getD x false && f.getD y false
def vals (p : List Bool) : List Wi → List Bool → List Bool
  | [], acc => acc
  | w :: ws, acc => vals p ws (acc ++ [wv p acc w])
def WiOk (N i : Nat) : Wi → Prop
  | .src n => n < N
  | .nt x => x < i
  | .rg x => x < i
  | .xr x y => x < i ∧ y < i
  | .an x y => x < i ∧ y < i
theorem vals_snoc (p : List Bool) (w : Wi) : ∀ (ws : List Wi) (acc : List Bool), vals p (ws ++ [w]) acc = vals p ws acc ++ [wv p (vals p ws acc) w]
  | [], acc => rfl
  | u :: ws, acc => vals_snoc p w ws (acc ++ [wv p acc u])
theorem vals_len (p : List Bool) : ∀ (ws : List Wi) (acc : List Bool), (vals p ws acc).length = acc.length + ws.length
  | [], acc => rfl
  | u :: ws, acc => by
    show (vals p ws (acc ++ [wv p acc u])).length = _
    rw [vals_len p ws, List.length_append, List.length_cons]
    simp
    omega
theorem vals_take {p : List Bool} {ws : List Wi} {i : Nat} (h : i < ws.length) : vals p (ws.take (i + 1)) [] = vals p (ws.take i) [] ++ [wv p (vals p (ws.take i) []) ws[i]] := by
  rw [← List.take_append_getElem h, vals_snoc]
theorem vals_pre (p : List Bool) (us : List Wi) : ∀ (ws : List Wi) (acc : List Bool), ∃ t, vals p (ws ++ us) acc = vals p ws acc ++ t
  | [], acc => by
    have go : ∀ (us : List Wi) (acc : List Bool), ∃ t, vals p us acc = acc ++ t := by
      intro us
      induction us with
      | nil => exact fun acc => ⟨[], by simp [vals]⟩
      | cons u us ih =>
        intro acc
        obtain ⟨t, e⟩ := ih (acc ++ [wv p acc u])
        exact ⟨wv p acc u :: t, by show vals p us (acc ++ [wv p acc u]) = _; rw [e, List.append_assoc]; rfl⟩
    exact go us acc
  | u :: ws, acc => vals_pre p us ws (acc ++ [wv p acc u])
/-- a wire's value does not hang on later wires -/
theorem vals_at {p : List Bool} {ws us : List Wi} {i : Nat} (h : i < ws.length) : (vals p (ws ++ us) []).getD i false = (vals p ws []).getD i false := by
  obtain ⟨t, e⟩ := vals_pre p us ws []
  have hl : i < (vals p ws []).length := by rw [vals_len]; simpa using h
  rw [e, List.getD_eq_getElem?_getD, List.getD_eq_getElem?_getD, List.getElem?_append_left hl]
/-! ### look-ups -/
section
variable {κ : Type} [DecidableEq κ] (kd : κ → D) (hk : ∀ a b, eqK (kd a) (kd b) = decide (a = b))
include hk
theorem getK_none {k : κ} : ∀ {ks : List κ} {ds : List D}, k ∉ ks → getK (kd k) ((ks.map kd).zip ds) = none
  | [], ds, _ => by simp [getK]
  | j :: ks, [], _ => by simp [getK]
  | j :: ks, d :: ds, h => by
    have e1 : getK (kd k) (((j :: ks).map kd).zip (d :: ds)) = if eqK (kd j) (kd k) = true then some d else getK (kd k) ((ks.map kd).zip ds) := rfl
    rw [e1, hk, if_neg (by simp; exact fun z => h (by rw [z]; exact .head _))]
    exact getK_none fun z => h (.tail _ z)
theorem getK_at : ∀ {ks : List κ} {ds : List D} {n : Nat} (h : n < ks.length) (h2 : n < ds.length), ks.Nodup → getK (kd ks[n]) ((ks.map kd).zip ds) = some ds[n]
  | j :: ks, d :: ds, n, h, h2, nd => by
    have e1 : ∀ k, getK (kd k) (((j :: ks).map kd).zip (d :: ds)) = if eqK (kd j) (kd k) = true then some d else getK (kd k) ((ks.map kd).zip ds) := fun _ => rfl
    have nd' := List.nodup_cons.mp nd
    rw [e1, hk]
    cases n with
    | zero =>
      rw [if_pos (by simp)]
      rfl
    | succ n =>
      have h' : n < ks.length := by simpa using h
      rw [if_neg (by
        simp
        intro z
        exact nd'.1 (by rw [z]; exact List.getElem_mem h'))]
      exact getK_at h' (by simpa using h2) nd'.2
theorem dist_of : ∀ {ks : List κ} {ds : List D}, ks.Nodup → distK ((ks.map kd).zip ds) = true
  | [], ds, _ => by simp [distK]
  | j :: ks, [], _ => by simp [distK]
  | j :: ks, d :: ds, nd => by
    have nd' := List.nodup_cons.mp nd
    show ((getK (kd j) ((ks.map kd).zip ds)).isNone && distK ((ks.map kd).zip ds)) = true
    rw [getK_none kd hk nd'.1, dist_of nd'.2]
    rfl
end
theorem keysT_of : ∀ {ks : List (List Key)} {ds : List D}, keysT ((ks.map keysD).zip ds) = true
  | [], ds => by simp [keysT]
  | j :: ks, [] => by simp [keysT]
  | j :: ks, d :: ds => by
    show ((isKey (keysD j) && kindK (keysD j) == 2) && keysT ((ks.map keysD).zip ds)) = true
    rw [keysT_of]
    have e : isKey (keysD j) = true := by
      show (j.map keyD).all _ = true
      rw [List.all_map, List.all_eq_true]
      intro x _
      cases x <;> rfl
    rw [e]
    rfl
theorem keysOk_of {ks : List (List Key)} {ds : List D} {k : List Key} : keysOk ((ks.map keysD).zip ds) (keysD k) = true := by
  have h := keysT_of (ks := [k]) (ds := [.none])
  have g := keysT_of (ks := ks) (ds := ds)
  unfold keysT at h g
  unfold keysOk
  rw [Bool.and_eq_true]
  refine ⟨?_, ?_⟩
  · have := h
    simp at this
    exact this.1
  · rw [List.all_eq_true] at g ⊢
    intro q hq
    have := g q hq
    rw [Bool.and_eq_true] at this ⊢
    refine ⟨this.1, ?_⟩
    rw [eq_of_beq this.2]
    rfl
end Lw

set_option Elab.async false
set_option linter.all false
set_option maxRecDepth 100000
set_option maxHeartbeats 400000
/-! rows over all points; wires that are xors. -/
namespace Lw
open PySem PySem.Spec PyProof.Rows L2 Vm
def pt : Nat → Nat → List Bool
  | 0, _ => []
  | n + 1, i => i.testBit n :: pt n i
theorem pt_len : ∀ (n i : Nat), (pt n i).length = n
  | 0, _ => rfl
  | n + 1, i => congrArg (· + 1) (pt_len n i)
theorem pt_high : ∀ {m n : Nat} (i : Nat), m ≤ n → pt m (2 ^ n + i) = pt m i
  | 0, n, i, _ => rfl
  | m + 1, n, i, h => by
    show (2 ^ n + i).testBit m :: pt m (2 ^ n + i) = i.testBit m :: pt m i
    rw [pt_high i (by omega), Nat.testBit_two_pow_add_gt (by omega)]
theorem tup_pt : ∀ n, tup n = (List.range (2 ^ n)).map (pt n)
  | 0 => rfl
  | n + 1 => by
    show (tup n).map (false :: ·) ++ (tup n).map (true :: ·) = _
    rw [Nat.pow_succ, show 2 ^ n * 2 = 2 ^ n + 2 ^ n by omega, List.range_add, List.map_append, tup_pt n, List.map_map, List.map_map, List.map_map]
    congr 1
    · refine List.map_congr_left fun i hi => ?_
      have hi := List.mem_range.mp hi
      show false :: pt n i = i.testBit n :: pt n i
      rw [Nat.testBit_lt_two_pow hi]
    · refine List.map_congr_left fun i hi => ?_
      have hi := List.mem_range.mp hi
      show true :: pt n i = (2 ^ n + i).testBit n :: pt n (2 ^ n + i)
      rw [Nat.testBit_two_pow_add_eq, Nat.testBit_lt_two_pow hi, pt_high i (Nat.le_refl _)]
      rfl
theorem pt_get : ∀ {n k : Nat} (i : Nat), k < n → (pt n i).getD k false = i.testBit (n - 1 - k)
  | n + 1, 0, i, _ => rfl
  | n + 1, k + 1, i, h => by
    show (pt n i).getD k false = _
    rw [pt_get i (by omega)]
    congr 1
    omega
theorem bit_off {i m : Nat} : i.testBit m = false ↔ i / 2 ^ m % 2 = 0 := by
  rw [Nat.testBit_eq_decide_div_mod_eq]
  simp
theorem bit_up {i m n : Nat} (h : i.testBit m = false) (hn : m < n) : (i + 2 ^ m).testBit n = i.testBit n := by
  rw [bit_off] at h
  have e : ∀ x, x / 2 ^ n = x / 2 ^ m / 2 / 2 ^ (n - m - 1) := fun x => by
    rw [Nat.div_div_eq_div_mul, Nat.div_div_eq_div_mul, ← Nat.pow_succ', ← Nat.pow_add]
    congr 2
    omega
  have p : 0 < 2 ^ m := Nat.two_pow_pos m
  rw [Nat.testBit_eq_decide_div_mod_eq, Nat.testBit_eq_decide_div_mod_eq, e, e i, Nat.add_div_right _ p]
  rw [show (i / 2 ^ m).succ / 2 = i / 2 ^ m / 2 by omega]
theorem pt_flip : ∀ {n m i : Nat}, m < n → i.testBit m = false → pt n (i + 2 ^ m) = flip (pt n i) (n - 1 - m)
  | n + 1, m, i, h, hb => by
    by_cases z : m = n
    · subst z
      show (i + 2 ^ m).testBit m :: pt m (i + 2 ^ m) = flip (i.testBit m :: pt m i) (m + 1 - 1 - m)
      rw [show m + 1 - 1 - m = 0 by omega, Nat.add_comm, pt_high i (Nat.le_refl _), Nat.testBit_two_pow_add_eq]
      rfl
    · show (i + 2 ^ m).testBit n :: pt n (i + 2 ^ m) = flip (i.testBit n :: pt n i) (n + 1 - 1 - m)
      rw [show n + 1 - 1 - m = (n - 1 - m) + 1 by omega, bit_up hb (by omega), pt_flip (by omega) hb]
      rfl
theorem pt_lt {n m i : Nat} (h : i < 2 ^ n) (hm : m < n) (hb : i.testBit m = false) : i + 2 ^ m < 2 ^ n := by
  rw [bit_off] at hb
  have p : 0 < 2 ^ m := Nat.two_pow_pos m
  have e : 2 ^ n = 2 ^ m * (2 * 2 ^ (n - m - 1)) := by
    rw [← Nat.pow_succ', ← Nat.pow_add]
    congr 1
    omega
  have l : i / 2 ^ m < 2 * 2 ^ (n - m - 1) := Nat.div_lt_of_lt_mul (by omega)
  have l2 : (i + 2 ^ m) / 2 ^ m < 2 * 2 ^ (n - m - 1) := by
    rw [Nat.add_div_right _ p]
    omega
  have := (Nat.div_lt_iff_lt_mul p).mp l2
  rw [e, Nat.mul_comm]
  exact this
/-- the xor of some of a point's bits -/
def lin (φ : Nat → Bool) : Nat → List Bool → Bool
  | 0, _ => false
  | k + 1, p => xor (lin φ k p) (φ k && p.getD k false)
theorem lin_par {φ : Nat → Bool} {p : List Bool} : ∀ k, par (((List.range k).filter φ).map fun i => p.getD i false) = lin φ k p
  | 0 => rfl
  | k + 1 => by
    rw [List.range_succ, List.filter_append, List.map_append]
    show _ = xor (lin φ k p) (φ k && p.getD k false)
    rw [← lin_par k]
    cases h : φ k
    · simp [h]
    · simp only [List.filter_cons, h, if_true, List.filter_nil, List.map_cons, List.map_nil]
      rw [par_snoc]
      simp
theorem flip_getD {p : List Bool} {n j : Nat} (h : j < p.length) : (flip p n).getD j false = xor (p.getD j false) (decide (j = n)) := by
  have := flip_get (p := p) (n := n) h
  rw [List.getD_eq_getElem?_getD, List.getD_eq_getElem?_getD, List.getElem?_eq_getElem h, List.getElem?_eq_getElem (by rw [flip_len]; exact h), this]
  rfl
theorem lin_flip {φ : Nat → Bool} {p : List Bool} {n : Nat} : ∀ {k}, k ≤ p.length → lin φ k (flip p n) = if n < k then xor (lin φ k p) (φ n) else lin φ k p
  | 0, _ => by simp [lin]
  | k + 1, h => by
    show xor (lin φ k (flip p n)) (φ k && (flip p n).getD k false) = if n < k + 1 then xor (xor (lin φ k p) (φ k && p.getD k false)) (φ n) else xor (lin φ k p) (φ k && p.getD k false)
    rw [lin_flip (by omega), flip_getD (by omega)]
    by_cases z : k = n
    · subst z
      simp
      cases φ k <;> cases lin φ k p <;> cases p[k]?.getD false <;> rfl
    · by_cases y : n < k
      · rw [if_pos y, if_pos (by omega), decide_eq_false z]
        simp
        cases φ k <;> cases φ n <;> cases lin φ k p <;> cases p[k]?.getD false <;> rfl
      · rw [if_neg y, if_neg (by omega), decide_eq_false z]
        simp
theorem flip_mid : ∀ (l : List Bool) (b : Bool) (r : List Bool), flip (l ++ b :: r) l.length = l ++ (!b) :: r
  | [], _, _ => rfl
  | a :: l, b, r => congrArg (a :: ·) (flip_mid l b r)
def zer (n : Nat) : List Bool := List.replicate n false
def uni (n k : Nat) : List Bool := flip (zer n) k
theorem zer_len {n : Nat} : (zer n).length = n := List.length_replicate
theorem lin_zer {φ : Nat → Bool} {n : Nat} : ∀ k, lin φ k (zer n) = false
  | 0 => rfl
  | k + 1 => by
    show xor (lin φ k (zer n)) (φ k && (zer n).getD k false) = false
    rw [lin_zer k]
    have : (zer n).getD k false = false := by
      unfold zer
      rw [List.getD_eq_getElem?_getD, List.getElem?_replicate]
      split <;> rfl
    rw [this]
    simp
theorem pt_zer : ∀ n, pt n 0 = zer n
  | 0 => rfl
  | n + 1 => by
    show (0 : Nat).testBit n :: pt n 0 = false :: List.replicate n false
    rw [pt_zer n, Nat.zero_testBit]
    rfl
/-- which sources a wire's value hangs on, if it is an xor -/
def phi (g : List Bool → Bool) (n k : Nat) : Bool := g (zer n) != g (uni n k)
def isAff (g : List Bool → Bool) (n : Nat) : Prop := ∀ p : List Bool, p.length = n → g p = xor (g (zer n)) (lin (phi g n) n p)
def chg (g : List Bool → Bool) (n m i : Nat) : Bool := g (pt n i) != g (pt n (i + 2 ^ m))
def flat (g : List Bool → Bool) (n m : Nat) : Prop := ∀ i, i < 2 ^ n → i.testBit m = false → chg g n m i = chg g n m 0
theorem chg0 {g : List Bool → Bool} {n m : Nat} (h : m < n) : chg g n m 0 = phi g n (n - 1 - m) := by
  unfold chg phi uni
  rw [pt_flip h (Nat.zero_testBit m), pt_zer]
theorem pt_of {n : Nat} {p : List Bool} (h : p.length = n) : ∃ i, i < 2 ^ n ∧ pt n i = p := by
  have m := mem_tup h
  rw [tup_pt, List.mem_map] at m
  obtain ⟨i, hi, e⟩ := m
  exact ⟨i, List.mem_range.mp hi, e⟩
theorem flat_flip {g : List Bool → Bool} {n k : Nat} (hk : k < n) : flat g n (n - 1 - k) ↔ ∀ p : List Bool, p.length = n → p.getD k false = false → (g p != g (flip p k)) = phi g n k := by
  have e0 := chg0 (g := g) (n := n) (m := n - 1 - k) (by omega)
  have ek : n - 1 - (n - 1 - k) = k := by omega
  rw [ek] at e0
  have eb : ∀ i, (pt n i).getD k false = i.testBit (n - 1 - k) := fun i => pt_get i hk
  constructor
  · intro h p hp hb
    obtain ⟨i, hi, rfl⟩ := pt_of hp
    rw [eb] at hb
    have := h i hi hb
    rw [e0] at this
    rw [← this]
    unfold chg
    rw [pt_flip (by omega) hb, ek]
  · intro h i hi hb
    rw [e0, ← h (pt n i) (pt_len n i) (by rw [eb]; exact hb)]
    unfold chg
    rw [pt_flip (by omega) hb, ek]
theorem aff_flat {g : List Bool → Bool} {n : Nat} : (∀ k, k < n → flat g n (n - 1 - k)) ↔ isAff g n := by
  constructor
  · intro h p hp
    have go : ∀ k, k ≤ n → g (p.take k ++ zer (n - k)) = xor (g (zer n)) (lin (phi g n) k p) := by
      intro k
      induction k with
      | zero =>
        intro _
        show g (zer n) = xor (g (zer n)) false
        simp
      | succ k ih =>
        intro hk
        have ih := ih (by omega)
        have f := (flat_flip (by omega)).mp (h k (by omega)) (p.take k ++ zer (n - k)) (by simp [zer]; omega) (by
          rw [List.getD_eq_getElem?_getD, List.getElem?_append_right (by simp; omega)]
          unfold zer
          rw [List.getElem?_replicate]
          split <;> rfl)
        have tk : p.take (k + 1) = p.take k ++ [p[k]'(by omega)] := (List.take_append_getElem (by omega)).symm
        have eg : p.getD k false = p[k]'(by omega) := by
          rw [List.getD_eq_getElem?_getD, List.getElem?_eq_getElem (by omega)]
          rfl
        have z : zer (n - k) = false :: zer (n - (k + 1)) := by
          unfold zer
          rw [show n - k = (n - (k + 1)) + 1 by omega]
          rfl
        have ef : flip (p.take k ++ zer (n - k)) k = p.take k ++ true :: zer (n - (k + 1)) := by
          have l : (p.take k).length = k := by simp; omega
          have := flip_mid (p.take k) false (zer (n - (k + 1)))
          rw [l] at this
          rw [z, this]
          rfl
        show _ = xor (g (zer n)) (xor (lin (phi g n) k p) (phi g n k && p.getD k false))
        rw [tk, List.append_assoc, eg]
        rw [ef] at f
        cases hb : p[k]'(by omega)
        · have : [false] ++ zer (n - (k + 1)) = zer (n - k) := z.symm
          rw [this, ih]
          simp
        · show g (p.take k ++ true :: zer (n - (k + 1))) = _
          rw [ih] at f
          rw [← f]
          generalize g (p.take k ++ true :: zer (n - (k + 1))) = x
          generalize g (zer n) = y
          generalize lin (phi g n) k p = v
          cases x <;> cases y <;> cases v <;> rfl
    have := go n (Nat.le_refl _)
    rw [← hp, List.take_length, Nat.sub_self, hp] at this
    show g p = _
    rw [← this]
    show _ = g (p ++ [])
    rw [List.append_nil]
  · intro h k hk
    rw [flat_flip hk]
    intro p hp _
    rw [h p hp, h (flip p k) (by rw [flip_len]; exact hp), lin_flip (by omega), if_pos hk]
    generalize g (zer n) = y
    generalize lin (phi g n) n p = v
    cases y <;> cases v <;> simp
/-- if a wire's value is an xor of sources, they are told so -/
theorem aff_of {g : List Bool → Bool} {n : Nat} {c : Bool} {φ : Nat → Bool} (h : ∀ p : List Bool, p.length = n → g p = xor c (lin φ n p)) : isAff g n ∧ g (zer n) = c ∧ ∀ k, k < n → phi g n k = φ k := by
  have z : g (zer n) = c := by
    rw [h _ zer_len, lin_zer]
    simp
  have f : ∀ k, k < n → phi g n k = φ k := fun k hk => by
    unfold phi uni
    rw [h (flip (zer n) k) (by rw [flip_len]; exact zer_len), z, lin_flip (by rw [zer_len]; omega), if_pos hk, lin_zer]
    cases c <;> simp
  refine ⟨fun p hp => ?_, z, f⟩
  rw [h p hp, z]
  congr 1
  have go : ∀ k, k ≤ n → lin φ k p = lin (phi g n) k p := by
    intro k
    induction k with
    | zero => exact fun _ => rfl
    | succ k ih =>
      intro hk
      show xor (lin φ k p) (φ k && _) = xor (lin (phi g n) k p) (phi g n k && _)
      rw [ih (by omega), f k (by omega)]
  exact go n (Nat.le_refl _)
end Lw

set_option Elab.async false
set_option linter.all false
set_option maxRecDepth 100000
set_option maxHeartbeats 400000
/-! sums of sources, wire by wire; circuits with wires behind. -/
namespace Lw
open PySem PySem.Spec PyProof.Rows L2 Vm
abbrev Af := Bool × (Nat → Bool)
def af0 : Af := (false, fun _ => false)
def af (f : List Af) : Wi → Af
  | .src n => (false, fun k => decide (k = n))
  | .nt x => (!(f.getD x af0).1, (f.getD x af0).2)
  | .rg x => f.getD x af0
  | .xr x y => (xor (f.getD x af0).1 (f.getD y af0).1, fun k => xor ((f.getD x af0).2 k) ((f.getD y af0).2 k))
  | .an x y => (xor (f.getD x af0).1 (f.getD y af0).1, fun k => xor ((f.getD x af0).2 k) ((f.getD y af0).2 k))
def afs : List Wi → List Af → List Af
  | [], acc => acc
  | w :: ws, acc => afs ws (acc ++ [af acc w])
def noA : Wi → Wi
  | .an x y => .xr x y
  | w => w
def noAn : Wi → Prop
  | .an _ _ => False
  | _ => True
theorem noAn_of : ∀ w, noAn (noA w)
  | .src _ => trivial
  | .nt _ => trivial
  | .rg _ => trivial
  | .xr _ _ => trivial
  | .an _ _ => trivial
theorem noA_ok {N i : Nat} : ∀ {w : Wi}, WiOk N i w → WiOk N i (noA w)
  | .src _, h => h
  | .nt _, h => h
  | .rg _, h => h
  | .xr _ _, h => h
  | .an _ _, h => h
theorem afs_snoc (w : Wi) : ∀ (ws : List Wi) (acc : List Af), afs (ws ++ [w]) acc = afs ws acc ++ [af (afs ws acc) w]
  | [], acc => rfl
  | u :: ws, acc => afs_snoc w ws (acc ++ [af acc u])
theorem afs_len : ∀ (ws : List Wi) (acc : List Af), (afs ws acc).length = acc.length + ws.length
  | [], acc => rfl
  | u :: ws, acc => by
    show (afs ws (acc ++ [af acc u])).length = _
    rw [afs_len ws, List.length_append, List.length_cons]
    simp
    omega
theorem afs_take {ws : List Wi} {i : Nat} (h : i < ws.length) : afs (ws.take (i + 1)) [] = afs (ws.take i) [] ++ [af (afs (ws.take i) []) ws[i]] := by
  rw [← List.take_append_getElem h, afs_snoc]
theorem lin_one {n : Nat} {p : List Bool} : ∀ k, lin (fun k => decide (k = n)) k p = (decide (n < k) && p.getD n false)
  | 0 => by simp [lin]
  | k + 1 => by
    show xor (lin _ k p) (decide (k = n) && p.getD k false) = _
    rw [lin_one k]
    by_cases z : k = n
    · subst z
      simp
    · by_cases y : n < k
      · have : n < k + 1 := by omega
        simp [z, y, this]
      · have : ¬ n < k + 1 := by omega
        simp [z, y, this]
theorem lin_xor {φ ψ : Nat → Bool} {p : List Bool} : ∀ k, lin (fun k => xor (φ k) (ψ k)) k p = xor (lin φ k p) (lin ψ k p)
  | 0 => rfl
  | k + 1 => by
    show xor (lin _ k p) ((xor (φ k) (ψ k)) && p.getD k false) = xor (xor (lin φ k p) (φ k && p.getD k false)) (xor (lin ψ k p) (ψ k && p.getD k false))
    rw [lin_xor k]
    generalize lin φ k p = a
    generalize lin ψ k p = b
    generalize p.getD k false = c
    cases a <;> cases b <;> cases c <;> cases φ k <;> cases ψ k <;> rfl
/-- what the sums say of the values -/
theorem afs_vals {N : Nat} {p : List Bool} (hp : p.length = N) {ws : List Wi} (hw : ∀ i (hi : i < ws.length), WiOk N i ws[i]) (hn : ∀ w ∈ ws, noAn w) : ∀ m, m ≤ ws.length → ∀ i, i < m → (vals p (ws.take m) []).getD i false = xor ((afs (ws.take m) []).getD i af0).1 (lin ((afs (ws.take m) []).getD i af0).2 N p) := by
  intro m
  induction m with
  | zero => intro _ i hi; omega
  | succ m ih =>
    intro hm i hi
    have ih := ih (by omega)
    have wo := hw m (by omega)
    have no := hn ws[m] (List.getElem_mem _)
    rw [vals_take (by omega), afs_take (by omega)]
    have lv : (vals p (ws.take m) []).length = m := by rw [vals_len]; simp; omega
    have la : (afs (ws.take m) []).length = m := by rw [afs_len]; simp; omega
    generalize vals p (ws.take m) [] = f at lv ih
    generalize afs (ws.take m) [] = F at la ih
    by_cases z : i < m
    · rw [List.getD_eq_getElem?_getD, List.getElem?_append_left (by omega), List.getD_eq_getElem?_getD, List.getElem?_append_left (by omega)]
      have := ih i z
      rw [List.getD_eq_getElem?_getD, List.getD_eq_getElem?_getD] at this
      exact this
    · have : i = m := by omega
      subst this
      rw [List.getD_eq_getElem?_getD, List.getElem?_append_right (by omega), List.getD_eq_getElem?_getD, List.getElem?_append_right (by omega), lv, la, Nat.sub_self]
      show wv p f ws[i] = xor (af F ws[i]).1 (lin (af F ws[i]).2 N p)
      generalize ws[i] = w at wo no
      cases w with
      | src n =>
        show p.getD n false = xor false (lin (fun k => decide (k = n)) N p)
        have : n < N := wo
        rw [lin_one]
        simp [this]
      | nt x =>
        show (!(f.getD x false)) = xor (!(F.getD x af0).1) (lin (F.getD x af0).2 N p)
        rw [ih x wo]
        simp
      | rg x => exact ih x wo
      | xr x y =>
        show xor (f.getD x false) (f.getD y false) = xor (xor (F.getD x af0).1 (F.getD y af0).1) (lin (fun k => xor ((F.getD x af0).2 k) ((F.getD y af0).2 k)) N p)
        rw [ih x wo.1, ih y wo.2, lin_xor]
        generalize lin (F.getD x af0).2 N p = a
        generalize lin (F.getD y af0).2 N p = b
        cases a <;> cases b <;> cases (F.getD x af0).1 <;> cases (F.getD y af0).1 <;> rfl
      | an x y => exact absurd no (fun h => h)
/-- the last wires of a circuit that is written on -/
theorem vals_late {p : List Bool} {ws : List Wi} {o : Nat} (h : o < ws.length) :
    (vals p (ws ++ [.nt o, .an o ws.length, .nt (ws.length + 1), .an o (ws.length + 2)]) []).getD (ws.length + 1) false = false ∧
    (vals p (ws ++ [.nt o, .an o ws.length, .nt (ws.length + 1), .an o (ws.length + 2)]) []).getD (ws.length + 2) false = true ∧
    (vals p (ws ++ [.nt o, .an o ws.length, .nt (ws.length + 1), .an o (ws.length + 2)]) []).getD (ws.length + 3) false = (vals p (ws ++ [.nt o, .an o ws.length, .nt (ws.length + 1), .an o (ws.length + 2)]) []).getD o false := by
  have app : ∀ (ws us : List Wi) (acc : List Bool), vals p (ws ++ us) acc = vals p us (vals p ws acc) := by
    intro ws us
    induction ws with
    | nil => exact fun _ => rfl
    | cons w ws ih => exact fun acc => ih _
  have lv : (vals p ws []).length = ws.length := by rw [vals_len]; simp
  rw [app]
  generalize vals p ws [] = f at lv
  generalize ws.length = m at lv h
  subst lv
  have g : ∀ (t : List Bool) (x : Nat), (f ++ t).getD (f.length + x) false = t.getD x false := fun t x => by
    rw [List.getD_eq_getElem?_getD, List.getD_eq_getElem?_getD, List.getElem?_append_right (by omega), Nat.add_sub_cancel_left]
  have g0 : ∀ (t : List Bool), (f ++ t).getD f.length false = t.getD 0 false := fun t => g t 0
  have go : ∀ (t : List Bool), (f ++ t).getD o false = f.getD o false := fun t => by
    rw [List.getD_eq_getElem?_getD, List.getD_eq_getElem?_getD, List.getElem?_append_left h]
  generalize hb : f.getD o false = b at go
  have e1 : vals p [.nt o, .an o f.length, .nt (f.length + 1), .an o (f.length + 2)] f = f ++ [!b, false, true, b] := by
    show vals p [.an o f.length, .nt (f.length + 1), .an o (f.length + 2)] (f ++ [!(f.getD o false)]) = _
    rw [hb]
    show vals p [.nt (f.length + 1), .an o (f.length + 2)] (f ++ [!b] ++ [(f ++ [!b]).getD o false && (f ++ [!b]).getD f.length false]) = _
    rw [go, g0]
    have : (b && [!b].getD 0 false) = false := by cases b <;> rfl
    rw [this, List.append_assoc]
    show vals p [.an o (f.length + 2)] (f ++ ([!b] ++ [false]) ++ [!((f ++ ([!b] ++ [false])).getD (f.length + 1) false)]) = _
    rw [g, List.append_assoc]
    show f ++ ([!b] ++ [false] ++ [true]) ++ [(f ++ ([!b] ++ [false] ++ [true])).getD o false && (f ++ ([!b] ++ [false] ++ [true])).getD (f.length + 2) false] = _
    rw [go, g, List.append_assoc]
    cases b <;> rfl
  rw [e1, g, g, g, go]
  exact ⟨rfl, rfl, rfl⟩
end Lw

set_option Elab.async false
set_option linter.all false
set_option maxRecDepth 100000
set_option maxHeartbeats 400000
namespace Lw
open PySem PySem.Spec PyProof.Rows L2 Vm
abbrev Tb : List Fd := tb.map Dn.fd
section
variable {wh n : Nat}
theorem f_is_integer {i : Int} : evC Tb wh (n + 1) 0 [.v (.int i)] = ret (.v (.bool true)) := ret_of fun s => wp_fn (fd := dn_is_integer.fd) rfl rfl (by
  simp [dn_is_integer, Dn.fd, biIsinst, tysOf])
theorem f_is_count {i : Int} : evC Tb wh (n + 2) 1 [.v (.int i)] = ret (.v (.bool (decide (0 ≤ i)))) := ret_of fun s => wp_fn (fd := dn_is_count.fd) rfl rfl (by
  simp [dn_is_count, Dn.fd, f_is_integer])
theorem f_is_row {ds : List D} {m : Int} : evC Tb wh (n + 1) 2 [.v (.tuple ds), .v (.int m)] = ret (.v (.bool (decide ((ds.length : Int) = m)))) := ret_of fun s => wp_fn (fd := dn_is_row.fd) rfl rfl (by
  simp [dn_is_row, Dn.fd, biIsinst, tysOf, biLen])
theorem f_is_below {i m : Int} : evC Tb wh (n + 3) 4 [.v (.int i), .v (.int m)] = ret (.v (.bool (decide (0 ≤ i) && decide (i < m)))) := ret_of fun s => wp_fn (fd := dn_is_below.fd) rfl rfl (by
  simp [dn_is_below, Dn.fd, f_is_count]
  by_cases h : 0 ≤ i <;> simp [h])
def pD (p : List Bool) : D := .tuple (p.map fun b => .int (bI b))
theorem par_take {p : List Bool} {i : Nat} (h : i < p.length) : par (p.take (i + 1)) = xor (par (p.take i)) p[i] := by
  rw [← List.take_append_getElem h, par_snoc]
theorem two_le {m k : Nat} (h : m ≤ k) : 2 ^ m ≤ 2 ^ k := Nat.pow_le_pow_right (by decide) h
theorem f_tuples_of {m : Nat} (hm : m ≤ 20) : evC Tb wh (n + 1) 14 [.v (.int m)] = ret (.v (.list ((tup m).map pD))) := ret_of fun s => wp_fn (fd := dn_tuples_of.fd) rfl rfl (by
  simp [dn_tuples_of, Dn.fd, rngOf1 (m := m) (by omega)]
  refine wp_for (List.range m) (fun i => .int (0 + (i : Int))) is_rng (by simp) (fun i e t => (∃ x y z w, e = [x, some (.v (.list ((tup i).map pD))), y, z, w]) ∧ t = s) ⟨⟨_, _, _, _, rfl⟩, rfl⟩ ?_ ?_
  · rintro i hi e t ⟨⟨x, y, z, w, rfl⟩, rfl⟩
    rw [List.length_range] at hi
    simp [slots, wipeE, -w_newL]
    refine wp_map2 (tup i) pD (fun p => [pD (p ++ [false]), pD (p ++ [true])]) is_seqL (by simp) (fun p hp => ?_) ?_
    · have hl := tup_len hp
      refine map1_is [false, true] (fun b => .int (bI b)) (fun b => pD (p ++ [b])) is_seqT rfl (fun b _ => ?_)
      simp [pD, show p.length + 1 ≤ 16777216 by omega]
    · have e1 : (tup i).flatMap (fun p => [pD (p ++ [false]), pD (p ++ [true])]) = (tup (i + 1)).map pD := by
        rw [tup_snoc, List.map_flatMap]
        rfl
      rw [e1, wp_newL (le_sz (by rw [List.length_map, tup_length]; exact two_le (k := 24) (by omega)))]
      simp
  · rintro e t ⟨⟨x, y, z, w, rfl⟩, rfl⟩
    simp)
theorem f_twos {m : Nat} (hm : m ≤ 20) : evC Tb wh (n + 1) 16 [.v (.int m)] = ret (.v (.int ((2 ^ m : Nat) : Int))) := ret_of fun s => wp_fn (fd := dn_twos.fd) rfl rfl (by
  simp [dn_twos, Dn.fd, rngOf1 (m := m) (by omega)]
  refine wp_for (List.range m) (fun i => .int (0 + (i : Int))) is_rng (by simp) (fun i e t => (∃ x y, e = [x, some (.v (.int ((2 ^ i : Nat) : Int))), y]) ∧ t = s) ⟨⟨_, _, rfl⟩, rfl⟩ ?_ ?_
  · rintro i hi e t ⟨⟨x, y, rfl⟩, rfl⟩
    simp [w_mul (i := 2) (.inl (show smallI 2 = true from by decide))]
    rw [Int.pow_succ, Int.mul_comm]
  · rintro e t ⟨⟨x, y, rfl⟩, rfl⟩
    simp)
def inD (p : Str × Nat) : D := .tuple [.str p.1, .int (p.2 : Int)]
def cD (ins : List (Str × Nat)) (coins : Nat) (wires outs : List D) : D := .tuple [.str "circuit", .tuple (ins.map inD), .int (coins : Int), .tuple wires, .tuple outs]
abbrev ks (ins : List (Str × Nat)) : List Nat := ins.map (·.2)
theorem shF_snoc : ∀ (o : Nat) (l : List Nat) (k : Nat), shF o (l ++ [k]) = shF o l ++ (List.range k).map fun j => (o + l.length, j)
  | o, [], k => by simp [shF]
  | o, a :: l, k => by
    show (List.range a).map (fun j => (o, j)) ++ shF (o + 1) (l ++ [k]) = ((List.range a).map (fun j => (o, j)) ++ shF (o + 1) l) ++ _
    rw [shF_snoc (o + 1) l k, List.append_assoc, List.length_cons, show o + 1 + l.length = o + (l.length + 1) by omega]
def ijD (p : Nat × Nat) : D := .tuple [.int (p.1 : Int), .int (p.2 : Int)]
@[simp] theorem ix_c0 {ins coins wires outs} : ixD (cD ins coins wires outs) (.int 0) = some (.str "circuit") := (rfl)
@[simp] theorem ix_c1 {ins coins wires outs} : ixD (cD ins coins wires outs) (.int 1) = some (.tuple (ins.map inD)) := (rfl)
@[simp] theorem ix_c2 {ins coins wires outs} : ixD (cD ins coins wires outs) (.int 2) = some (.int (coins : Nat)) := (rfl)
@[simp] theorem ix_c4 {ins coins wires outs} : ixD (cD ins coins wires outs) (.int 4) = some (.tuple outs) := (rfl)
theorem mem_le_sum : ∀ {l : List Nat} {k : Nat}, k ∈ l → k ≤ l.sum
  | a :: l, k, h => by
    rw [List.sum_cons]
    rcases List.mem_cons.mp h with rfl | h
    · omega
    · have := mem_le_sum h
      omega
theorem take_sum_le : ∀ {l : List Nat} {i : Nat}, (l.take i).sum ≤ l.sum
  | [], i => by simp
  | a :: l, 0 => by simp
  | a :: l, i + 1 => by
    have := take_sum_le (l := l) (i := i)
    simp
    omega
theorem shF_take {l : List Nat} {i : Nat} (h : i < l.length) : shF 0 (l.take (i + 1)) = shF 0 (l.take i) ++ (List.range l[i]).map fun j => (i, j) := by
  rw [← List.take_append_getElem h, shF_snoc, List.length_take, Nat.min_eq_left (by omega), Nat.zero_add]
theorem f_shares_of {ins : List (Str × Nat)} {coins : Nat} {wires outs : List D} (h : (ks ins).sum ≤ 100) : evC Tb wh (n + 1) 10 [.v (cD ins coins wires outs)] = ret (.n (.list ((shF 0 (ks ins)).map ijD))) := ret_of fun s => wp_fn (fd := dn_shares_of.fd) rfl rfl (by
  simp [dn_shares_of, Dn.fd]
  refine wp_for (ins.map inD).zipIdx (fun p => .tuple [.int p.2, p.1]) is_enumT (by simp) (fun i e t => (∃ x y z w u, e = [x, some (.p s.length), y, z, w, u]) ∧ t = s ++ [.fl (.list ((shF 0 ((ks ins).take i)).map ijD))]) ⟨⟨_, _, _, _, _, rfl⟩, rfl⟩ ?_ ?_
  · rintro i hi e t ⟨⟨x, y, z, w, u, rfl⟩, rfl⟩
    have hi : i < ins.length := by simpa using hi
    have hi2 : i < (ks ins).length := by simpa using hi
    have hm : (ks ins)[i] ≤ 100 := Nat.le_trans (mem_le_sum (List.getElem_mem _)) h
    have hm2 : ins[i].2 ≤ 100 := by simpa using hm
    have hs : (shF 0 ((ks ins).take i)).length ≤ 100 := by rw [shF_len]; exact Nat.le_trans take_sum_le h
    simp [inD, rngOf1 (m := ins[i].2) (by omega), -List.map_take]
    refine wp_map1 (List.range ins[i].2) (fun j => .int (0 + (j : Int))) (fun j => ijD (i, j)) is_rng (by simp) (fun j hj => ?_) ?_
    · simp [ijD]
    · have e := shF_take hi2
      simp [-List.map_take]
      refine ⟨by omega, by omega, ?_⟩
      rw [e]
      simp [-List.map_take]
  · rintro e t ⟨⟨x, y, z, w, u, rfl⟩, rfl⟩
    simp
    rw [List.take_of_length_le (by simp)])
def shD (p : Nat × Nat) : D := .tuple [.str "share", .int (p.1 : Int), .int (p.2 : Int)]
def coD (j : Nat) : D := .tuple [.str "coin", .int (j : Int)]
def srcD (ins : List (Str × Nat)) (coins : Nat) : List D := (shF 0 (ks ins)).map shD ++ (List.range coins).map coD
theorem srcD_len {ins coins} : (srcD ins coins).length = (ks ins).sum + coins := by
  unfold srcD
  rw [List.length_append, List.length_map, List.length_map, List.length_range, shF_len]
theorem f_sources_of {ins : List (Str × Nat)} {coins : Nat} {wires outs : List D} (h : (ks ins).sum ≤ 100) (hc : coins ≤ 100) : evC Tb wh (n + 2) 11 [.v (cD ins coins wires outs)] = ret (.n (.list (srcD ins coins))) := ret_of fun s => wp_fn (fd := dn_sources_of.fd) rfl rfl (by
  simp [dn_sources_of, Dn.fd, f_shares_of h]
  have hl : (shF 0 (ks ins)).length ≤ 100 := by rw [shF_len]; exact h
  refine wp_map1 (shF 0 (ks ins)) ijD shD is_seqN rfl (fun p hp => ?_) ?_
  · simp [ijD, shD]
  · simp [rngOf1 (m := coins) (by omega)]
    refine ⟨by omega, ?_⟩
    refine wp_map1 (List.range coins) (fun j => .int (0 + (j : Int))) coD is_rng (by simp) (fun j hj => ?_) ?_
    · simp [coD]
    · simp [srcD]
      omega)
theorem f_points_of {ins : List (Str × Nat)} {coins : Nat} {wires outs : List D} (h : (ks ins).sum + coins ≤ 10) : evC Tb wh (n + 3) 15 [.v (cD ins coins wires outs)] = ret (.v (.list ((tup ((ks ins).sum + coins)).map pD))) := ret_of fun s => wp_fn (fd := dn_points_of.fd) rfl rfl (by
  have e := f_tuples_of (wh := wh) (n := n + 1) (m := (ks ins).sum + coins) (by omega)
  simp [dn_points_of, Dn.fd, f_sources_of (ins := ins) (coins := coins) (wires := wires) (outs := outs) (by omega) (by omega), srcD_len] at e ⊢
  rw [e]
  simp)
theorem sec_snoc : ∀ (l : List Nat) (k : Nat) (p : List Bool), sec (l ++ [k]) p = sec l p ++ [par ((p.drop l.sum).take k)]
  | [], k, p => rfl
  | a :: l, k, p => by
    show par (p.take a) :: sec (l ++ [k]) (p.drop a) = par (p.take a) :: sec l (p.drop a) ++ [_]
    rw [sec_snoc l k (p.drop a), List.drop_drop, List.sum_cons]
    rfl
theorem sec_take {l : List Nat} {i : Nat} {p : List Bool} (h : i < l.length) : sec (l.take (i + 1)) p = sec (l.take i) p ++ [par ((p.drop (l.take i).sum).take l[i])] := by
  rw [← List.take_append_getElem h, sec_snoc]
theorem sum_take {l : List Nat} {i : Nat} (h : i < l.length) : (l.take (i + 1)).sum = (l.take i).sum + l[i] := by
  rw [← List.take_append_getElem h, List.sum_append]
  simp
theorem sl_pD {p : List Bool} {a k : Nat} (h : a + k ≤ p.length) : slD (pD p) (some (a : Int)) (some ((a : Int) + (k : Int))) = some (.v (pD ((p.drop a).take k))) := by
  unfold pD
  rw [slD_tuple, show ((a : Int) + (k : Int)) = ((a + k : Nat) : Int) by omega, cut_nat (by rw [List.length_map]; exact h), show a + k - a = k by omega, List.map_take, List.map_drop]
theorem shp_pD {p : List Bool} : shp (pD p) = true := by
  refine fit_shp (n := 1) (w := 41 * (p.map fun b => PyData.int (bI b)).length) (fit_tuple (fit_all fun d hd => ?_)) (by decide)
  rw [List.mem_map] at hd
  obtain ⟨b, _, rfl⟩ := hd
  exact fit_int (by cases b <;> decide)
theorem bI_inj : ∀ {a b : List Bool}, a.map bI = b.map bI → a = b
  | [], [], _ => rfl
  | x :: a, y :: b, h => by
    rw [List.map_cons, List.map_cons] at h
    have h1 := (List.cons.inj h).1
    have h2 := bI_inj (List.cons.inj h).2
    rw [h2]
    cases x <;> cases y <;> first | rfl | cases h1
theorem eqv_pD {a b : List Bool} : PyData.eqv (pD a) (pD b) = decide (a = b) := by
  have e := eqv_tups (a := a.map bI) (b := b.map bI)
  rw [List.map_map, List.map_map] at e
  show PyData.eqv (.tuple (a.map (PyData.int ∘ bI))) (.tuple (b.map (PyData.int ∘ bI))) = _
  rw [e]
  by_cases h : a = b
  · rw [h]
    simp
  · rw [decide_eq_false h, decide_eq_false (fun z => h (bI_inj z))]
@[simp] theorem cmp_eq_pD {a b : List Bool} : cmpD .eq (pD a) (pD b) = some (decide (a = b)) := by
  rw [cmp_eq_of shp_pD shp_pD, eqv_pD]
/-! ### the law's own -/
theorem f_law_xor {p : List Bool} (hp : p.length ≤ 1000) : evC Tb wh (n + 1) 30 [.v (pD p)] = ret (.v (.int (bI (par p)))) := ret_of fun s => wp_fn (fd := dn__law_xor.fd) rfl rfl (by
  simp [dn__law_xor, Dn.fd, pD]
  have hc : ∀ b : Bool, (Vm.bind (ofO (cmpD Cp.eq (.int (bI b)) (PyData.int 1))) fun c => if c = true then Vm.ret [PyData.int (bI b)] else Vm.ret []) = ret (if id b = true then [.int (bI b)] else []) := fun b => by cases b <;> simp [bI]
  have hl : (p.filter id).length ≤ p.length := List.length_filter_le _ _
  have e : par p = decide ((p.filter id).length % 2 = 1) := by rw [par_count, List.countP_eq_length_filter]
  refine wp_mapSel p (fun b => .int (bI b)) id (fun b => .int (bI b)) is_seqT rfl (fun b _ => hc b) ?_
  simp [w_div]
  refine ⟨by omega, ?_⟩
  rw [w_mul (.inr (show smallI 2 = true from by decide))]
  simp
  refine wp_mapSel p (fun b => .int (bI b)) id (fun b => .int (bI b)) is_seqT rfl (fun b _ => hc b) ?_
  simp
  refine ⟨by omega, ?_⟩
  rw [e]
  by_cases z : (p.filter id).length % 2 = 1
  · have z2 : ¬ ((p.filter id).length : Int) / 2 * 2 = (p.filter id).length := by omega
    simp [z, z2, bI]
  · have z2 : ((p.filter id).length : Int) / 2 * 2 = (p.filter id).length := by omega
    simp [z, z2, bI])
theorem f_law_sources {ins : List (Str × Nat)} {coins : Nat} {wires outs : List D} (h : (ks ins).sum ≤ 100) (hn : ins.length ≤ 100) (hc : coins ≤ 100) : evC Tb wh (n + 1) 26 [.v (cD ins coins wires outs)] = ret (.n (.list (srcD ins coins))) := ret_of fun s => wp_fn (fd := dn__law_sources.fd) rfl rfl (by
  simp [dn__law_sources, Dn.fd, rngOf1 (m := ins.length) (by omega)]
  refine wp_for (List.range ins.length) (fun i => .int (0 + (i : Int))) is_rng (by simp) (fun i e t => (∃ z w, e = [some (.v (cD ins coins wires outs)), some (.p s.length), z, w]) ∧ t = s ++ [.fl (.list ((shF 0 ((ks ins).take i)).map shD))]) ⟨⟨_, _, rfl⟩, rfl⟩ ?_ ?_
  · rintro i hi e t ⟨⟨z, w, rfl⟩, rfl⟩
    have hi : i < ins.length := by simpa using hi
    have hi2 : i < (ks ins).length := by simpa using hi
    have hm : (ks ins)[i] ≤ 100 := Nat.le_trans (mem_le_sum (List.getElem_mem _)) h
    have hm2 : ins[i].2 ≤ 100 := by simpa using hm
    have hs : (shF 0 ((ks ins).take i)).length ≤ 100 := by rw [shF_len]; exact Nat.le_trans take_sum_le h
    simp [w_atI, hi, inD, rngOf1 (m := ins[i].2) (by omega), -List.map_take]
    refine wp_map1 (List.range ins[i].2) (fun j => .int (0 + (j : Int))) (fun j => shD (i, j)) is_rng (by simp) (fun j hj => ?_) ?_
    · simp [shD]
    · have e := shF_take hi2
      simp [-List.map_take]
      refine ⟨by omega, by omega, ?_⟩
      rw [e]
      simp [-List.map_take]
  · rintro e t ⟨⟨z, w, rfl⟩, rfl⟩
    have hs : (shF 0 (ks ins)).length ≤ 100 := by rw [shF_len]; exact h
    simp [rngOf1 (m := coins) (by omega)]
    refine wp_map1 (List.range coins) (fun j => .int (0 + (j : Int))) coD is_rng (by simp) (fun j hj => ?_) ?_
    · simp [coD]
    · simp [srcD]
      rw [List.take_of_length_le (by simp)]
      simp
      omega)
theorem sort_pD {m : Nat} (hm : 1 ≤ m) {l : List (List Bool)} (h : l.Perm (tup m)) : sortD (l.map pD) = some ((tup m).map pD) := by
  have hne : ∀ p ∈ l, p ≠ [] := fun p hp e => by
    have := tup_len (h.mem_iff.mp hp)
    rw [e] at this
    simp at this
    omega
  have e1 : ∀ l : List (List Bool), (∀ p ∈ l, p ≠ []) → intsD (l.map pD) = none ∨ l = [] := fun l => by
    cases l with
    | nil => exact fun _ => .inr rfl
    | cons a l => exact fun _ => .inl rfl
  have e2 : ∀ l : List (List Bool), tupsD (l.map pD) = some (l.map fun p => p.map bI) := fun l => by
    induction l with
    | nil => rfl
    | cons a l ih =>
      show (intsD (a.map fun b => .int (bI b))).bind (fun is => (tupsD (l.map pD)).map (is :: ·)) = _
      rw [ih, w_ints]
      rfl
  have hl : l ≠ [] := by
    intro z
    have := h.length_eq
    rw [z, tup_length] at this
    have := Nat.one_le_two_pow (n := m)
    simp at *
    omega
  have e3 : intsD (l.map pD) = none := (e1 l hne).resolve_right hl
  have e4 : (l.map fun p => p.map bI).all (fun t => !t.isEmpty) = true := by
    rw [List.all_eq_true]
    intro t ht
    rw [List.mem_map] at ht
    obtain ⟨p, hp, rfl⟩ := ht
    cases p with
    | nil => exact (hne [] hp rfl).elim
    | cons a p => rfl
  have e5 : (tup m).map (fun p => p.map bI) = sortT (l.map fun p => p.map bI) := sortT_of (h.symm.map _) (by
    rw [List.pairwise_map]
    exact tup_sorted m)
  unfold sortD
  rw [e3]
  show (match tupsD (l.map pD) with
    | some ts => if ts.all (fun t => !t.isEmpty) then some ((sortT ts).map fun t : List Int => PyData.tuple (t.map .int)) else none
    | none => none) = _
  rw [e2]
  show (if (l.map fun p => p.map bI).all (fun t => !t.isEmpty) then _ else _) = _
  rw [if_pos e4, ← e5, List.map_map]
  congr 1
  refine List.map_congr_left fun p _ => ?_
  show PyData.tuple ((p.map bI).map .int) = _
  rw [List.map_map]
  rfl
@[simp] theorem sorted_of {ds : List D} : biSorted [.list ds] = (sortD ds).map fun es => .n (.list es) := (rfl)
theorem tup_perm {m : Nat} {l : List (List Bool)} (h : l.Perm (tup m)) : (l.map (· ++ [false]) ++ l.map (· ++ [true])).Perm (tup (m + 1)) := by
  rw [tup_snoc]
  have e : ∀ l : List (List Bool), (l.map (· ++ [false]) ++ l.map (· ++ [true])).Perm (l.flatMap fun p => [p ++ [false], p ++ [true]]) := fun l => by
    induction l with
    | nil => exact .refl _
    | cons a l ih =>
      rw [List.flatMap_cons, List.map_cons, List.map_cons]
      show (_ :: (l.map (· ++ [false]) ++ _ :: l.map (· ++ [true]))).Perm (_ :: _ :: _)
      exact (List.perm_middle.trans (ih.cons _)).cons _
  exact (e l).trans (h.flatMap_right _)
theorem f_law_tuples {m : Nat} (h1 : 1 ≤ m) (hm : m ≤ 20) : evC Tb wh (n + 1) 27 [.v (.int m)] = ret (.n (.list ((tup m).map pD))) := ret_of fun s => wp_fn (fd := dn__law_tuples.fd) rfl rfl (by
  simp [dn__law_tuples, Dn.fd, rngOf1 (m := m) (by omega)]
  refine wp_for (List.range m) (fun i => .int (0 + (i : Int))) is_rng (by simp) (fun i e t => (∃ x y z, ∃ l : List (List Bool), l.Perm (tup i) ∧ e = [x, some (.v (.list (l.map pD))), y, z]) ∧ t = s) ⟨⟨_, _, _, [[]], .refl _, rfl⟩, rfl⟩ ?_ ?_
  · rintro i hi e t ⟨⟨x, y, z, l, hl, rfl⟩, rfl⟩
    rw [List.length_range] at hi
    have hlen : l.length ≤ 1048576 := by
      rw [hl.length_eq, tup_length]
      exact two_le (k := 20) (by omega)
    simp
    refine wp_map1 l pD (fun p => pD (p ++ [false])) is_seqL (by simp) (fun p hp => ?_) ?_
    · have := tup_len (hl.mem_iff.mp hp)
      simp [pD, bI, show p.length + 1 ≤ 16777216 by omega]
    · simp
      refine ⟨by omega, ?_⟩
      refine wp_map1 l pD (fun p => pD (p ++ [true])) is_seqL (by simp) (fun p hp => ?_) ?_
      · have := tup_len (hl.mem_iff.mp hp)
        simp [pD, bI, show p.length + 1 ≤ 16777216 by omega]
      · simp
        refine ⟨by omega, by omega, ?_⟩
        exact ⟨_, _, _, _, tup_perm hl, rfl, by simp; rfl, rfl, rfl⟩
  · rintro e t ⟨⟨x, y, z, l, hl, rfl⟩, rfl⟩
    rw [List.length_range] at hl
    simp [sort_pD h1 hl])
theorem f_law_points {ins : List (Str × Nat)} {coins : Nat} {wires outs : List D} (h : (ks ins).sum + coins ≤ 10) (h1 : 1 ≤ (ks ins).sum + coins) (hn : ins.length ≤ 100) : evC Tb wh (n + 2) 28 [.v (cD ins coins wires outs)] = ret (.n (.list ((tup ((ks ins).sum + coins)).map pD))) := ret_of fun s => wp_fn (fd := dn__law_points.fd) rfl rfl (by
  have e := f_law_tuples (wh := wh) (n := n) (m := (ks ins).sum + coins) h1 (by omega)
  simp [dn__law_points, Dn.fd, f_law_sources (ins := ins) (coins := coins) (wires := wires) (outs := outs) (by omega) hn (by omega), srcD_len] at e ⊢
  rw [e]
  simp)
/-! ### what is asked of the package, where the circuit is one -/
section
variable {ins : List (Str × Nat)} {coins : Nat} {wires outs : List D}
/-- the circuit is taken -/
def Taken (wh : Nat) (c : D) : Prop := ∀ n, evC Tb wh (n + 7) 12 [.v c] = ret (.v c)
end
end
end Lw

set_option Elab.async false
set_option linter.all false
set_option maxRecDepth 100000
set_option maxHeartbeats 400000
namespace Lw
open PySem PySem.Spec PyProof.Rows L2 Vm
section
variable {wh n : Nat}
/-! ### the pot -/
theorem f_law_pot {is : List Int} : ∃ a b : Int, 0 ≤ a ∧ 0 ≤ b ∧ evC Tb wh (n + 1) 23 [.g (.list (is.map .int)), .v (.int 0)] = ret (.n (.list [.int a, .int b])) := by
  have pw : binD .pow (.int 10) (.int 18) = some (.v (.int 1000000000000000000)) := by rfl
  have ml : ∀ i : Int, binD .mul (.int i) (.int 16703) = some (.v (.int (i * 16703))) := fun i => w_mul (.inr (by decide))
  have ml2 : ∀ i : Int, binD .mul (.int 17117) (.int i) = some (.v (.int (17117 * i))) := fun i => w_mul (.inl (by decide))
  have ml3 : ∀ i : Int, binD .mul (.int 18013) (.int i) = some (.v (.int (18013 * i))) := fun i => w_mul (.inl (by decide))
  have go : ∀ c : Int, 0 ≤ c → 0 ≤ (if c - 1000000000000000000 > 0 then c - 1000000000000000000 else 0) ∧ 0 ≤ (c % 2147483549 * 16703 + 17117 * 0 + 907) % 2147483563 + 1 := fun c hc => by
    refine ⟨by split <;> omega, by omega⟩
  cases is with
  | nil =>
    refine ⟨_, _, (go 18307 (by omega)).1, (go 18307 (by omega)).2, ret_of fun s => wp_fn (fd := dn__law_pot.fd) rfl rfl ?_⟩
    simp [dn__law_pot, Dn.fd, pw, ml, ml2, ml3, w_mod]
  | cons i is =>
    have hc : 0 ≤ (if i < 0 then -i else i) := by split <;> omega
    refine ⟨_, _, (go _ hc).1, (go _ hc).2, ret_of fun s => wp_fn (fd := dn__law_pot.fd) rfl rfl ?_⟩
    simp [dn__law_pot, Dn.fd, pw, ml, ml2, ml3, w_mod]
/-- the store with the pot at j -/
def PS (pre : Sto) (j : Nat) (a b : Int) : Sto := pre.set j (.fl (.list [.int a, .int b]))
@[simp] theorem PS_len {pre : Sto} {j : Nat} {a b : Int} : List.length (PS pre j a b) = List.length pre := by
  unfold PS
  exact List.length_set
theorem f_draw0 {s : Sto} {j size : Nat} {a b : Int} (h : s[j]? = some (.fl (.list [.int a, .int b]))) (ha : 0 ≤ a) (hb : 0 ≤ b) (h1 : 1 ≤ size) (h2 : size < 1073741824) {Q : R → Sto → Prop}
    (q : ∀ (d : Nat) (a' b' : Int), d < size → 0 ≤ a' → 0 ≤ b' → Q (.v (.int (d : Int))) (s.set j (.fl (.list [.int a', .int b'])))) : Vm.wp (evC Tb wh (n + 1) 24 [.p j, .v (.int (size : Int))]) s Q := wp_fn (fd := dn__law_draw.fd) rfl rfl (by
  have ml : ∀ i : Int, binD .mul (.int i) (.int 40692) = some (.v (.int (i * 40692))) := fun i => w_mul (.inr (by decide))
  obtain ⟨hl, hg⟩ := List.getElem?_eq_some_iff.mp h
  have dm : biDivmod [.int a, .int (size : Int)] = some (.v (.tuple [.int (a / size), .int (a % size)])) := by
    show (if decide (0 < (size : Int)) && decide ((size : Int) < 1073741824) then _ else _) = _
    rw [if_pos (by simp; omega)]
  have x0 : 0 ≤ (b * 40692 + 17117) % 2147483399 := by omega
  have x1 : (b * 40692 + 17117) % 2147483399 < 2147483399 := by omega
  generalize hx : (b * 40692 + 17117) % 2147483399 = x at x0 x1
  have mm : binD .mul (.int x) (.int x) = some (.v (.int (x * x))) := w_mul (.inl (smallI_of (by omega) (by omega)))
  have xx : 0 ≤ x * x % 2147483323 / 19 := by omega
  have e2 : ((x * x % 2147483323 / 19 % size).toNat : Int) = x * x % 2147483323 / 19 % size := Int.toNat_of_nonneg (Int.emod_nonneg _ (by omega))
  have l2 : x * x % 2147483323 / 19 % (size : Int) < size := Int.emod_lt_of_pos _ (by omega)
  have e1 : ((a % size).toNat : Int) = a % size := Int.toNat_of_nonneg (Int.emod_nonneg _ (by omega))
  have l1 : a % (size : Int) < size := Int.emod_lt_of_pos _ (by omega)
  have tk : ∀ o : Ob, (List.set s j o).take s.length = List.set s j o := fun o => List.take_of_length_le (by simp)
  simp [dn__law_draw, Dn.fd, hl, hg]
  by_cases hp : 0 < a
  · rw [if_pos hp, dm]
    simp [setX, ixN, hg, hl, tk]
    have := q (a % size).toNat (a / size) b (by omega) (Int.ediv_nonneg ha (by omega)) hb
    rw [e1] at this
    exact this
  · rw [if_neg hp]
    simp [setX, ixN, hg, hl, tk, ml, w_mod, hx, mm, w_div]
    rw [w_mod (j := (size : Int)) (by omega)]
    simp [tk]
    have := q (x * x % 2147483323 / 19 % size).toNat a x (by omega) ha x0
    rw [e2] at this
    exact this)
theorem f_draw {pre t : Sto} {j size : Nat} {a b : Int} (hj : j < pre.length) (ha : 0 ≤ a) (hb : 0 ≤ b) (h1 : 1 ≤ size) (h2 : size < 1073741824) {Q : R → Sto → Prop}
    (q : ∀ (d : Nat) (a' b' : Int), d < size → 0 ≤ a' → 0 ≤ b' → Q (.v (.int (d : Int))) (PS pre j a' b' ++ t)) : Vm.wp (evC Tb wh (n + 1) 24 [.p j, .v (.int (size : Int))]) (PS pre j a b ++ t) Q := by
  refine f_draw0 (a := a) (b := b) ?_ ha hb h1 h2 fun d a' b' hd ha' hb' => ?_
  · rw [List.getElem?_append_left (by rw [PS_len]; exact hj)]
    unfold PS
    rw [List.getElem?_set_self hj]
  · have e : List.set (PS pre j a b ++ t) j (.fl (.list [.int a', .int b'])) = PS pre j a' b' ++ t := by
      have e1 := List.set_append_left (s := PS pre j a b) (t := t) j (.fl (.list [.int a', .int b'])) (by rw [PS_len]; exact hj)
      have e2 : (PS pre j a b).set j (.fl (.list [.int a', .int b'])) = PS pre j a' b' := by
        unfold PS
        exact List.set_set ..
      rw [e2] at e1
      exact e1
    rw [e]
    exact q d a' b' hd ha' hb'
theorem f_draw' {pre : Sto} {j size : Nat} {a b : Int} (hj : j < pre.length) (ha : 0 ≤ a) (hb : 0 ≤ b) (h1 : 1 ≤ size) (h2 : size < 1073741824) {Q : R → Sto → Prop}
    (q : ∀ (d : Nat) (a' b' : Int), d < size → 0 ≤ a' → 0 ≤ b' → Q (.v (.int (d : Int))) (PS pre j a' b')) : Vm.wp (evC Tb wh (n + 1) 24 [.p j, .v (.int (size : Int))]) (PS pre j a b) Q := by
  have := f_draw (wh := wh) (n := n) (t := []) hj ha hb h1 h2 (Q := Q) fun d a' b' hd ha' hb' => by
    rw [List.append_nil]
    exact q d a' b' hd ha' hb'
  rw [List.append_nil] at this
  exact this
theorem f_pick {pre t : Sto} {j : Nat} {a b : Int} {ds : List D} (hj : j < pre.length) (ha : 0 ≤ a) (hb : 0 ≤ b) (h1 : 1 ≤ ds.length) (h2 : ds.length < 1073741824) {Q : R → Sto → Prop}
    (q : ∀ (d : Nat) (hd : d < ds.length) (a' b' : Int), 0 ≤ a' → 0 ≤ b' → Q (.v ds[d]) (PS pre j a' b' ++ t)) : Vm.wp (evC Tb wh (n + 2) 25 [.p j, .v (.list ds)]) (PS pre j a b ++ t) Q := wp_fn (fd := dn__law_pick.fd) rfl rfl (by
  simp [dn__law_pick, Dn.fd]
  refine f_draw hj ha hb h1 h2 fun d a' b' hd ha' hb' => ?_
  simp [w_atI, hd]
  have := q d hd a' b' ha' hb'
  have e : List.take (pre.length + t.length) (PS pre j a' b' ++ t) = PS pre j a' b' ++ t := List.take_of_length_le (by simp)
  rw [e]
  exact this)
theorem f_pick' {pre : Sto} {j : Nat} {a b : Int} {ds : List D} (hj : j < pre.length) (ha : 0 ≤ a) (hb : 0 ≤ b) (h1 : 1 ≤ ds.length) (h2 : ds.length < 1073741824) {Q : R → Sto → Prop}
    (q : ∀ (d : Nat) (hd : d < ds.length) (a' b' : Int), 0 ≤ a' → 0 ≤ b' → Q (.v ds[d]) (PS pre j a' b')) : Vm.wp (evC Tb wh (n + 2) 25 [.p j, .v (.list ds)]) (PS pre j a b) Q := by
  have := f_pick (wh := wh) (n := n) (t := []) hj ha hb h1 h2 (Q := Q) fun d hd a' b' ha' hb' => by
    rw [List.append_nil]
    exact q d hd a' b' ha' hb'
  rw [List.append_nil] at this
  exact this
end
end Lw

set_option Elab.async false
set_option linter.all false
set_option maxRecDepth 100000
set_option maxHeartbeats 800000
namespace Lw
open PySem PySem.Spec PyProof.Rows L2 Vm
/-! ### circuits that are taken -/
def wordOk (w : Str) : Bool := decide (1 ≤ w.length) && decide (w.length ≤ 8) && w.cps.toList.all fun c => decide (c ∈ (Str.ofString "abcdefghijklmnopqrstuvwxyz").cps.toList)
theorem cmp_in_char {c : Nat} {y : Str} : cmpD .isin (.str ⟨#[c]⟩) (.str y) = some (decide (c ∈ y.cps.toList)) := (rfl)
theorem len_str {z : Str} (h : z.length ≤ 100) : biLen [.str z] = some (.v (.int (z.length : Int))) := by
  show (if lenOk z.length then _ else _) = _
  rw [if_pos (show lenOk _ = true from decide_eq_true (le_sz (by omega)))]
theorem eqv_str {x y : Str} : PyData.eqv (.str x) (.str y) = decide (x = y) := by
  unfold PyData.eqv
  rfl
theorem sumI : ∀ l : List (Str × Nat), (l.map fun p => (p.2 : Int)).sum = (((ks l).sum : Nat) : Int)
  | [] => rfl
  | a :: l => by
    show (a.2 : Int) + (l.map fun p => (p.2 : Int)).sum = ((a.2 + (ks l).sum : Nat) : Int)
    rw [sumI l]
    omega
inductive WireOk (ins : List (Str × Nat)) (coins a : Nat) : D → Prop
  | share (i j : Nat) (hi : i < ins.length) (hj : j < ins[i].2) : WireOk ins coins a (shD (i, j))
  | coin (j : Nat) (h : j < coins) : WireOk ins coins a (coD j)
  | un (k : String) (hk : k = "not" ∨ k = "reg") (x : Nat) (hx : x < a) : WireOk ins coins a (.tuple [.str k, .int (x : Int)])
  | bi (k : String) (hk : k = "xor" ∨ k = "and") (x y : Nat) (hx : x < a) (hy : y < a) : WireOk ins coins a (.tuple [.str k, .int (x : Int), .int (y : Int)])
def outD (o : Str × List Nat) : D := .tuple [.str o.1, .tuple (o.2.map fun i : Nat => .int (i : Int))]
structure CiOk (ins : List (Str × Nat)) (coins : Nat) (wires : List D) (outs : List (Str × List Nat)) : Prop where
  l1 : 1 ≤ ins.length
  l3 : ins.length ≤ 3
  ws : ∀ p ∈ ins, wordOk p.1 = true
  k1 : ∀ p ∈ ins, 1 ≤ p.2
  k4 : ∀ p ∈ ins, p.2 ≤ 4
  nd : ins.Pairwise fun p q => p.1 ≠ q.1
  c8 : coins ≤ 8
  s10 : (ks ins).sum + coins ≤ 10
  w1 : 1 ≤ wires.length
  w32 : wires.length ≤ 32
  wk : ∀ i (h : i < wires.length), WireOk ins coins i wires[i]
  o3 : outs.length ≤ 3
  ow : ∀ o ∈ outs, wordOk o.1 = true
  o1 : ∀ o ∈ outs, 1 ≤ o.2.length
  o4 : ∀ o ∈ outs, o.2.length ≤ 4
  om : ∀ o ∈ outs, ∀ i ∈ o.2, i < wires.length
  od : ∀ o ∈ outs, o.2.Nodup
  on : outs.Pairwise fun p q => p.1 ≠ q.1
section
variable {wh n : Nat}
theorem f_is_word {w : Str} (h : wordOk w = true) : evC Tb wh (n + 1) 3 [.v (.str w)] = ret (.v (.bool true)) := ret_of fun s => wp_fn (fd := dn_is_word.fd) rfl rfl (by
  unfold wordOk at h
  simp only [Bool.and_eq_true, decide_eq_true_eq, List.all_eq_true] at h
  obtain ⟨⟨h1, h8⟩, hc⟩ := h
  simp [dn_is_word, Dn.fd, len_str (z := w) (by omega)]
  have e1 : (1 : Int) ≤ w.length := by omega
  have e8 : (w.length : Int) ≤ 8 := by omega
  simp [e1, e8]
  refine wp_map1 w.cps.toList (fun c => .str ⟨#[c]⟩) (fun c => .bool true) is_strC (by simp) (fun c hcm => ?_) ?_
  · rw [cmp_in_char, decide_eq_true (hc c hcm)]
    rfl
  · have e : w.cps.toList.length = w.length := by simp; rfl
    rw [w_bools]
    simp
    have e2 : w.cps.size = w.length := rfl
    omega)
theorem f_are_inputs {ins : List (Str × Nat)} (l1 : 1 ≤ ins.length) (l3 : ins.length ≤ 3) (ws : ∀ p ∈ ins, wordOk p.1 = true) (k1 : ∀ p ∈ ins, 1 ≤ p.2) (k4 : ∀ p ∈ ins, p.2 ≤ 4) (nd : ins.Pairwise fun p q => p.1 ≠ q.1) :
    evC Tb wh (n + 2) 5 [.v (.tuple (ins.map inD))] = ret (.v (.bool true)) := ret_of fun s => wp_fn (fd := dn_are_inputs.fd) rfl rfl (by
  have e1 : (1 : Int) ≤ ins.length := by omega
  have e3 : (ins.length : Int) ≤ 3 := by omega
  simp [dn_are_inputs, Dn.fd, l1, l3, e1, e3]
  refine wp_map1 ins inD (fun _ => .bool true) is_seqT (by simp) (fun p hp => ?_) ?_
  · simp [inD, f_is_row]
  rw [w_bools]
  simp
  refine ⟨by omega, ?_⟩
  refine wp_map1 ins inD (fun _ => .bool true) is_seqT (by simp) (fun p hp => ?_) ?_
  · have h1 : (1 : Int) ≤ p.2 := by have := k1 p hp; omega
    have h4 : (p.2 : Int) ≤ 4 := by have := k4 p hp; omega
    simp [inD, f_is_word (ws p hp), f_is_integer, h1, h4]
  rw [w_bools]
  simp
  refine ⟨by omega, ?_⟩
  refine wp_map1 ins inD (fun p => .str p.1) is_seqT (by simp) (fun p hp => ?_) ?_
  · simp [inD]
  have hs := lenSet_of (ds := ins.map fun p => .str p.1) (by rw [List.all_map, List.all_eq_true]; exact fun _ _ => rfl) (by rw [List.length_map]; omega) (by
    rw [List.pairwise_map]
    exact nd.imp fun {p q} z => by rw [eqv_str, decide_eq_false z])
  simp [hs])
theorem f_is_wire_of {ins : List (Str × Nat)} {coins a : Nat} {d : D} (h : WireOk ins coins a d) : evC Tb wh (n + 4) 6 [.v d, .v (.tuple (ins.map inD)), .v (.int (coins : Int)), .v (.int (a : Int))] = ret (.v (.bool true)) := ret_of fun s => wp_fn (fd := dn_is_wire_of.fd) rfl rfl (by
  have s1 : ∀ (k : String) (x : Int), shp (.tuple [.str k, .int x]) = true := fun k x => by
    simp [shp, SeqAt.shaped, PyData.canLay0, PyData.canLayAll0, PyData.depth, PyData.depthAll, strOk_lit]
  have s2 : ∀ (k : String) (x y : Int), shp (.tuple [.str k, .int x, .int y]) = true := fun k x y => by
    simp [shp, SeqAt.shaped, PyData.canLay0, PyData.canLayAll0, PyData.depth, PyData.depthAll, strOk_lit]
  have s0 : shp (.tuple []) = true := by
    simp [shp, SeqAt.shaped, PyData.canLay0, PyData.canLayAll0, PyData.depth, PyData.depthAll]
  have e0 : ∀ (k : String) (x : Int), cmpD .eq (.tuple [.str k, .int x]) (.tuple []) = some false := fun k x => by
    rw [cmp_eq_of (s1 k x) s0]
    simp [PyData.eqv, PyData.eqvAll]
  have e00 : ∀ (k : String) (x y : Int), cmpD .eq (.tuple [.str k, .int x, .int y]) (.tuple []) = some false := fun k x y => by
    rw [cmp_eq_of (s2 k x y) s0]
    simp [PyData.eqv, PyData.eqvAll]
  have n1 : cmpD .isin (.str "not") (.tuple [.str "not", .str "reg"]) = some true := by kernel_rfl
  have n2 : cmpD .isin (.str "reg") (.tuple [.str "not", .str "reg"]) = some true := by kernel_rfl
  have n3 : cmpD .isin (.str "xor") (.tuple [.str "not", .str "reg"]) = some false := by kernel_rfl
  have n4 : cmpD .isin (.str "and") (.tuple [.str "not", .str "reg"]) = some false := by kernel_rfl
  have n5 : cmpD .isin (.str "xor") (.tuple [.str "xor", .str "and"]) = some true := by kernel_rfl
  have n6 : cmpD .isin (.str "and") (.tuple [.str "xor", .str "and"]) = some true := by kernel_rfl
  have q1 : cmpD .eq (.str "share") (.str "share") = some true := by kernel_rfl
  have q2 : cmpD .eq (.str "coin") (.str "share") = some false := by kernel_rfl
  have q3 : cmpD .eq (.str "coin") (.str "coin") = some true := by kernel_rfl
  have q4 : ∀ k, k = "not" ∨ k = "reg" ∨ k = "xor" ∨ k = "and" → cmpD .eq (.str (Str.ofString k)) (.str "share") = some false ∧ cmpD .eq (.str (Str.ofString k)) (.str "coin") = some false := fun k hk => by
    rcases hk with rfl | rfl | rfl | rfl <;> exact ⟨by kernel_rfl, by kernel_rfl⟩
  cases h with
  | share i j hi hj =>
    simp [dn_is_wire_of, Dn.fd, shD, e00, q1, f_is_below]
    rw [decide_eq_true hi]
    simp [w_atI, hi, inD, f_is_below, hj]
  | coin j hj =>
    simp [dn_is_wire_of, Dn.fd, coD, e0, q1, q2, q3, f_is_below, hj]
  | un k hk x hx =>
    have q := q4 k (by rcases hk with rfl | rfl <;> simp)
    rcases hk with rfl | rfl
    · simp [dn_is_wire_of, Dn.fd, e0, q.1, q.2, f_is_below, n1, hx]
    · simp [dn_is_wire_of, Dn.fd, e0, q.1, q.2, f_is_below, n2, hx]
  | bi k hk x y hx hy =>
    have q := q4 k (by rcases hk with rfl | rfl <;> simp)
    rcases hk with rfl | rfl
    · simp [dn_is_wire_of, Dn.fd, e00, q.1, q.2, f_is_below, n3, n5]
      rw [decide_eq_true hx]
      simp [f_is_below, hy]
    · simp [dn_is_wire_of, Dn.fd, e00, q.1, q.2, f_is_below, n4, n6]
      rw [decide_eq_true hx]
      simp [f_is_below, hy])
theorem f_is_out_of {w : Str} {pl : List Nat} {m : Nat} (hw : wordOk w = true) (h1 : 1 ≤ pl.length) (h4 : pl.length ≤ 4) (hm : ∀ i ∈ pl, i < m) (nd : pl.Nodup) : evC Tb wh (n + 4) 7 [.v (outD (w, pl)), .v (.int (m : Int))] = ret (.v (.bool true)) := ret_of fun s => wp_fn (fd := dn_is_out_of.fd) rfl rfl (by
  have e1 : (1 : Int) ≤ pl.length := by omega
  have e4 : (pl.length : Int) ≤ 4 := by omega
  simp [dn_is_out_of, Dn.fd, outD, f_is_row, f_is_word hw, e1, e4]
  refine wp_map1 pl (fun i : Nat => .int (i : Int)) (fun _ => .bool true) is_seqT (by simp) (fun i hi => ?_) ?_
  · simp [f_is_below, hm i hi]
  rw [w_bools]
  have hs := lenSet_tup (ds := pl.map fun i : Nat => .int (i : Int)) (by rw [List.all_map, List.all_eq_true]; exact fun _ _ => rfl) (by rw [List.length_map]; omega) (by
    rw [List.pairwise_map]
    exact nd.imp fun {p q} z => by rw [eqv_int, decide_eq_false (by omega)])
  simp [hs]
  omega)
theorem f_are_outs {outs : List (Str × List Nat)} {m : Nat} (o3 : outs.length ≤ 3) (ow : ∀ o ∈ outs, wordOk o.1 = true) (o1 : ∀ o ∈ outs, 1 ≤ o.2.length) (o4 : ∀ o ∈ outs, o.2.length ≤ 4) (om : ∀ o ∈ outs, ∀ i ∈ o.2, i < m) (od : ∀ o ∈ outs, o.2.Nodup) (on : outs.Pairwise fun p q => p.1 ≠ q.1) :
    evC Tb wh (n + 5) 8 [.v (.tuple (outs.map outD)), .v (.int (m : Int))] = ret (.v (.bool true)) := ret_of fun s => wp_fn (fd := dn_are_outs.fd) rfl rfl (by
  have e3 : ¬ (3 : Int) < outs.length := by omega
  simp [dn_are_outs, Dn.fd, e3]
  refine wp_map1 outs outD (fun _ => .bool true) is_seqT (by simp) (fun o ho => ?_) ?_
  · have := f_is_out_of (wh := wh) (n := n) (ow o ho) (o1 o ho) (o4 o ho) (om o ho) (od o ho)
    simp [this]
  rw [w_bools]
  simp
  refine ⟨by omega, ?_⟩
  refine wp_map1 outs outD (fun p => .str p.1) is_seqT (by simp) (fun p hp => ?_) ?_
  · simp [outD]
  have hs := lenSet_of (ds := outs.map fun p => .str p.1) (by rw [List.all_map, List.all_eq_true]; exact fun _ _ => rfl) (by rw [List.length_map]; omega) (by
    rw [List.pairwise_map]
    exact on.imp fun {p q} z => by rw [eqv_str, decide_eq_false z])
  simp [hs])
theorem f_is_circuit_of {ins : List (Str × Nat)} {coins : Nat} {wires : List D} {outs : List (Str × List Nat)} (k : CiOk ins coins wires outs) : evC Tb wh (n + 6) 9 [.v (cD ins coins wires (outs.map outD))] = ret (.v (.bool true)) := ret_of fun s => wp_fn (fd := dn_is_circuit_of.fd) rfl rfl (by
  have q : cmpD .ne (.str "circuit") (.str "circuit") = some false := by kernel_rfl
  have rw5 : evC Tb wh (n + 5) 2 [.v (cD ins coins wires (outs.map outD)), .v (.int 5)] = ret (.v (.bool true)) := f_is_row (n := n + 4)
  have sl : slD (cD ins coins wires (outs.map outD)) (some 1) (some 4) = some (.v (.tuple [.tuple (ins.map inD), .int (coins : Int), .tuple wires])) := rfl
  have ai := f_are_inputs (wh := wh) (n := n + 3) k.l1 k.l3 k.ws k.k1 k.k4 k.nd
  have ao := f_are_outs (wh := wh) (n := n) (m := wires.length) k.o3 k.ow k.o1 k.o4 k.om k.od k.on
  have c8 : ¬ (8 : Int) < coins := by have := k.c8; omega
  have s10 : ¬ (10 : Int) < coins + ((ks ins).sum : Nat) := by have := k.s10; omega
  have w1 : (1 : Int) ≤ wires.length := by have := k.w1; omega
  have w32 : (wires.length : Int) ≤ 32 := by have := k.w32; omega
  simp [dn_is_circuit_of, Dn.fd, rw5, q, ai, sl, f_is_count, c8]
  refine wp_map1 ins inD (fun p => .int (p.2 : Int)) is_seqT (by simp) (fun p hp => ?_) ?_
  · simp [inD]
  have si := sumI ins
  rw [w_ints]
  simp [si, s10, w1, w32]
  refine ⟨by have := k.l3; omega, ?_⟩
  refine wp_map1 wires.zipIdx (fun p => .tuple [.int p.2, p.1]) (fun _ => .bool true) is_enumT (by simp) (fun p hp => ?_) ?_
  · have hp := List.mem_zipIdx_iff_getElem?.mp hp
    obtain ⟨hl, he⟩ := List.getElem?_eq_some_iff.mp hp
    have wo := k.wk p.2 hl
    rw [he] at wo
    have := f_is_wire_of (wh := wh) (n := n + 1) wo
    simp [this]
  rw [w_bools]
  have := k.w32
  simp [ao]
  omega)
theorem taken {ins : List (Str × Nat)} {coins : Nat} {wires : List D} {outs : List (Str × List Nat)} (k : CiOk ins coins wires outs) : Taken wh (cD ins coins wires (outs.map outD)) := fun n => ret_of fun s => wp_fn (fd := dn_want_circuit.fd) rfl rfl (by
  simp [dn_want_circuit, Dn.fd, f_is_circuit_of k])
end
end Lw

set_option Elab.async false
set_option linter.all false
set_option maxRecDepth 100000
set_option maxHeartbeats 1600000
namespace Lw
open PySem PySem.Spec PyProof.Rows L2 Vm
/-- the drawn inputs -/
def InsOk (ins : List (Str × Nat)) : Prop := (∃ d, d < 3 ∧ ins = [(Str.ofString "key", 1 + d)]) ∨ ∃ d f, d < 3 ∧ f < 2 ∧ ins = [(Str.ofString "key", 1 + d), (Str.ofString "text", 1 + f)]
theorem InsOk.sum {ins} (h : InsOk ins) : (ks ins).sum ≤ 5 ∧ 1 ≤ (ks ins).sum := by
  rcases h with ⟨d, h1, rfl⟩ | ⟨d, f, h1, h2, rfl⟩
  · simp
    omega
  · simp
    omega
theorem InsOk.len {ins} (h : InsOk ins) : 1 ≤ ins.length ∧ ins.length ≤ 2 := by
  rcases h with ⟨d, h1, rfl⟩ | ⟨d, f, h1, h2, rfl⟩
  · simp
  · simp
/-- wires as far as they are drawn -/
structure WL (ins : List (Str × Nat)) (coins i : Nat) (wl : List D) : Prop where
  l1 : 1 ≤ wl.length
  l7 : wl.length ≤ 6 + i
  ok : ∀ i (h : i < wl.length), WireOk ins coins i wl[i]
theorem wire_src {ins : List (Str × Nat)} {coins : Nat} {d : D} (h : d ∈ srcD ins coins) (a : Nat) : WireOk ins coins a d := by
  unfold srcD at h
  rw [List.mem_append, List.mem_map, List.mem_map] at h
  rcases h with ⟨⟨i, jj⟩, h, rfl⟩ | ⟨jj, h, rfl⟩
  · have go : ∀ (o : Nat) (l : List Nat) (i jj : Nat), (i, jj) ∈ shF o l → ∃ x, i = o + x ∧ ∃ h : x < l.length, jj < l[x] := by
      intro o l
      induction l generalizing o with
      | nil => intro i jj h; cases h
      | cons k l ih =>
        intro i jj h
        have h : (i, jj) ∈ (List.range k).map (fun j => (o, j)) ++ shF (o + 1) l := h
        rw [List.mem_append, List.mem_map] at h
        rcases h with ⟨x, hx, e⟩ | h
        · cases e
          exact ⟨0, rfl, by simp, List.mem_range.mp hx⟩
        · obtain ⟨x, e, hx, hj⟩ := ih (o + 1) i jj h
          exact ⟨x + 1, by omega, by simpa using hx, hj⟩
    obtain ⟨x, e, hx, hj⟩ := go 0 (ks ins) i jj h
    rw [Nat.zero_add] at e
    subst e
    have hx' : i < ins.length := by simpa using hx
    exact .share i jj hx' (by simpa using hj)
  · exact .coin jj (List.mem_range.mp h)
theorem WL.src {ins : List (Str × Nat)} {coins : Nat} {wl : List D} (l1 : 1 ≤ wl.length) (l7 : wl.length ≤ 6) (h : ∀ d ∈ wl, d ∈ srcD ins coins) : WL ins coins 0 wl := ⟨l1, l7, fun i hi => wire_src (h _ (List.getElem_mem hi)) i⟩
theorem WL.snoc {ins : List (Str × Nat)} {coins i : Nat} {wl : List D} {d : D} (h : WL ins coins i wl) (w : WireOk ins coins wl.length d) : WL ins coins (i + 1) (wl ++ [d]) := ⟨by simp, by have := h.l7; simp; omega, fun x hx => by
  rw [List.length_append] at hx
  by_cases z : x < wl.length
  · rw [List.getElem_append_left z]
    exact h.ok x z
  · have : x = wl.length := by simp at hx; omega
    subst this
    simp
    exact w⟩
theorem src_canLay {ins coins d} (h : d ∈ srcD ins coins) : PyData.canLay0 d = true ∧ PyData.depth d ≤ 64 := by
  unfold srcD at h
  rw [List.mem_append, List.mem_map, List.mem_map] at h
  rcases h with ⟨⟨i, jj⟩, h, rfl⟩ | ⟨jj, h, rfl⟩
  · simp [shD, PyData.canLay0, PyData.canLayAll0, PyData.depth, PyData.depthAll, strOk_lit]
  · simp [coD, PyData.canLay0, PyData.canLayAll0, PyData.depth, PyData.depthAll, strOk_lit]
theorem src_cmp {ins coins d e} (h : d ∈ srcD ins coins) (g : e ∈ srcD ins coins) : cmpD .eq d e = some (PyData.eqv d e) := by
  have s : ∀ x ∈ srcD ins coins, shp x = true := fun x hx => by
    obtain ⟨h1, h2⟩ := src_canLay hx
    unfold shp SeqAt.shaped
    rw [h1, decide_eq_true h2]
    rfl
  exact cmp_eq_of (s d h) (s e g)
def OutOk (m : Nat) (outs : List (Str × List Nat)) : Prop := outs = [] ∨ ∃ pl : List Nat, outs = [(Str.ofString "sum", pl)] ∧ 1 ≤ pl.length ∧ pl.length ≤ 2 ∧ pl.Nodup ∧ ∀ i ∈ pl, i < m
theorem ci_of {ins coins wl outs} (hi : InsOk ins) (hc : (ks ins).sum + coins ≤ 6) (hw : WL ins coins 9 wl) (ho : OutOk wl.length outs) : CiOk ins coins wl outs := by
  have w1 : wordOk (Str.ofString "key") = true := by kernel_rfl
  have w2 : wordOk (Str.ofString "text") = true := by kernel_rfl
  have w3 : wordOk (Str.ofString "sum") = true := by kernel_rfl
  have ne : Str.ofString "key" ≠ Str.ofString "text" := by decide
  have hl := hi.len
  have hl1 := hw.l1
  have hl7 := hw.l7
  refine ⟨hl.1, by omega, ?_, ?_, ?_, ?_, by omega, by omega, hl1, by omega, hw.ok, ?_, ?_, ?_, ?_, ?_, ?_, ?_⟩
  · rcases hi with ⟨d, h1, rfl⟩ | ⟨d, f, h1, h2, rfl⟩ <;> simp [w1, w2]
  · rcases hi with ⟨d, h1, rfl⟩ | ⟨d, f, h1, h2, rfl⟩ <;> simp
  · rcases hi with ⟨d, h1, rfl⟩ | ⟨d, f, h1, h2, rfl⟩ <;> simp <;> omega
  · rcases hi with ⟨d, h1, rfl⟩ | ⟨d, f, h1, h2, rfl⟩ <;> simp [ne]
  · rcases ho with rfl | ⟨pl, rfl, h1, h2, h3, h4⟩ <;> simp
  · rcases ho with rfl | ⟨pl, rfl, h1, h2, h3, h4⟩ <;> simp [w3]
  · rcases ho with rfl | ⟨pl, rfl, h1, h2, h3, h4⟩
    · simp
    · simpa using h1
  · rcases ho with rfl | ⟨pl, rfl, h1, h2, h3, h4⟩
    · simp
    · simp
      omega
  · rcases ho with rfl | ⟨pl, rfl, h1, h2, h3, h4⟩
    · simp
    · simpa using h4
  · rcases ho with rfl | ⟨pl, rfl, h1, h2, h3, h4⟩
    · simp
    · simpa using h3
  · rcases ho with rfl | ⟨pl, rfl, h1, h2, h3, h4⟩ <;> simp
theorem cmp_ne_nilN {l : List Nat} (h : ∀ i ∈ l, i < 1000) : cmpD .ne (.list (l.map fun i : Nat => .int (i : Int))) (.list []) = some (!l.isEmpty) := by
  have e := cmp_ne_nil (l := l.map fun i : Nat => (i : Int)) (fun i hi => by
    rw [List.mem_map] at hi
    obtain ⟨x, hx, rfl⟩ := hi
    have := h x hx
    rw [Int.natAbs_natCast]
    omega)
  rw [List.map_map] at e
  rw [show (l.map fun i : Nat => PyData.int (i : Int)) = l.map (PyData.int ∘ fun i : Nat => (i : Int)) from rfl, e]
  cases l <;> rfl
theorem perm_erase : ∀ {l : List Nat} {k : Nat} (h : k < l.length), ([l[k]] ++ l.eraseIdx k).Perm l
  | a :: l, 0, _ => .refl _
  | a :: l, k + 1, h => by
    have ih := perm_erase (l := l) (k := k) (by simpa using h)
    show ((l[k]'_) :: a :: l.eraseIdx k).Perm (a :: l)
    exact (List.Perm.swap _ _ _).trans (ih.cons a)
theorem map_erase {γ : Type} (f : Nat → γ) : ∀ (l : List Nat) (k : Nat), (l.eraseIdx k).map f = (l.map f).eraseIdx k
  | [], _ => rfl
  | a :: l, 0 => rfl
  | a :: l, k + 1 => by
    show f a :: (l.eraseIdx k).map f = f a :: (l.map f).eraseIdx k
    rw [map_erase f l k]
section
variable {wh n : Nat}
theorem f_law_circuit {pre : Sto} {j : Nat} {a b : Int} (hj : j < pre.length) (ha : 0 ≤ a) (hb : 0 ≤ b) {Q : R → Sto → Prop}
    (q : ∀ ins coins wires outs a' b', InsOk ins → CiOk ins coins wires outs → wires.length ≤ 15 → 0 ≤ a' → 0 ≤ b' → Q (.v (cD ins coins wires (outs.map outD))) (PS pre j a' b')) : Vm.wp (evC Tb wh (n + 3) 31 [.p j, .v (.int 9), .v (.int 6)]) (PS pre j a b) Q := wp_fn (fd := dn__law_circuit.fd) rfl rfl (by
  show Vm.wp (evSs _ dn__law_circuit.code [some (.p j), some (.v (.int 9)), some (.v (.int 6)), none, none, none, none, none, none, none, none, none, none, none, none, none, none]) _ _
  have fin : ∀ (a b : Int) (t : Sto), List.take pre.length (PS pre j a b ++ t) = PS pre j a b := fun a b t => st_take PS_len
  refine wp_cut (fun e s => ∃ d, d < 3 ∧ ∃ a b, (0 ≤ a ∧ 0 ≤ b) ∧ e = [some (.p j), some (.v (.int 9)), some (.v (.int 6)), some (.p pre.length), none, none, none, none, none, none, none, none, none, none, none, none, none] ∧ s = PS pre j a b ++ [.fl (.list ([(Str.ofString "key", 1 + d)].map inD))]) ?_ ?_
  · simp
    refine f_draw' (size := 3) hj ha hb (by omega) (by omega) fun d a b hd ha hb => ?_
    simp
    exact ⟨d, hd, a, b, ⟨ha, hb⟩, by simp [inD]⟩
  rintro e s ⟨d, hd, a, b, ⟨ha, hb⟩, rfl, rfl⟩
  refine wp_cut (fun e s => ∃ ins, InsOk ins ∧ ∃ a b, (0 ≤ a ∧ 0 ≤ b) ∧ e = [some (.p j), some (.v (.int 9)), some (.v (.int 6)), some (.p pre.length), none, none, none, none, none, none, none, none, none, none, none, none, none] ∧ s = PS pre j a b ++ [.fl (.list (ins.map inD))]) ?_ ?_
  · simp
    refine f_draw (size := 2) hj ha hb (by omega) (by omega) fun d2 a b hd2 ha hb => ?_
    simp
    by_cases z : d2 = 0
    · simp [z]
      refine f_draw (size := 2) hj ha hb (by omega) (by omega) fun d3 a b hd3 ha hb => ?_
      simp
      exact ⟨[(Str.ofString "key", 1 + d), (Str.ofString "text", 1 + d3)], .inr ⟨d, d3, hd, hd3, rfl⟩, a, b, ⟨ha, hb⟩, by simp [inD]⟩
    · simp [z]
      exact ⟨[(Str.ofString "key", 1 + d)], .inl ⟨d, hd, rfl⟩, a, b, ⟨ha, hb⟩, by simp [inD]⟩
  rintro e s ⟨ins, hi, a, b, ⟨ha, hb⟩, rfl, rfl⟩
  have is := hi.sum
  have il := hi.len
  refine wp_cut (fun e s => ∃ coins : Nat, (ks ins).sum + coins ≤ 6 ∧ ∃ a b, (0 ≤ a ∧ 0 ≤ b) ∧ e = [some (.p j), some (.v (.int 9)), some (.v (.int 6)), some (.p pre.length), some (.v (.int (coins : Int))), none, none, none, none, none, none, none, none, none, none, none, none] ∧ s = PS pre j a b ++ [.fl (.list (ins.map inD))]) ?_ ?_
  · have si := sumI ins
    have gp : (PS pre j a b ++ [Ob.fl (PyData.list (ins.map inD))])[pre.length]? = some (.fl (.list (ins.map inD))) := st_get0 PS_len
    simp
    refine wp_map1p ins inD (fun p => .int (p.2 : Int)) gp (by simp) (fun p hp => by simp [inD]) ?_
    have e8 : (6 : Int) - (((ks ins).sum : Nat) : Int) + 1 = ((7 - (ks ins).sum : Nat) : Int) := by omega
    rw [w_ints]
    simp [si, e8]
    refine ⟨by omega, ?_⟩
    refine f_draw (size := 7 - (ks ins).sum) hj ha hb (by omega) (by omega) fun d2 a b hd2 ha hb => ?_
    simp
    exact ⟨d2, by omega, a, b, ⟨ha, hb⟩, rfl, rfl⟩
  rintro e s ⟨coins, hc, a, b, ⟨ha, hb⟩, rfl, rfl⟩
  refine wp_cut (fun e s => e = [some (.p j), some (.v (.int 9)), some (.v (.int 6)), some (.p pre.length), some (.v (.int (coins : Int))), some (.v (cD ins coins [] [])), none, none, none, none, none, none, none, none, none, none, none] ∧ s = PS pre j a b ++ [.fl (.list (ins.map inD))]) ?_ ?_
  · simp
    rfl
  rintro e s ⟨rfl, rfl⟩
  refine wp_cut (fun e s => e = [some (.p j), some (.v (.int 9)), some (.v (.int 6)), some (.p pre.length), some (.v (.int (coins : Int))), some (.v (cD ins coins [] [])), some (.p (pre.length + 1)), none, none, none, none, none, none, none, none, none, none] ∧ s = PS pre j a b ++ [.fl (.list (ins.map inD)), .fl (.list (srcD ins coins))]) ?_ ?_
  · have := f_law_sources (wh := wh) (n := n + 1) (ins := ins) (coins := coins) (wires := []) (outs := []) (by omega) (by omega) (by omega)
    simp [this]
  rintro e s ⟨rfl, rfl⟩
  have sl := srcD_len (ins := ins) (coins := coins)
  refine wp_cut (fun e s => ∃ (t : Sto) (wl : List D), WL ins coins 0 wl ∧ t[0]? = some (.fl (.list (ins.map inD))) ∧ ∃ a b x, (0 ≤ a ∧ 0 ≤ b) ∧ e = [some (.p j), some (.v (.int 9)), some (.v (.int 6)), some (.p pre.length), some (.v (.int (coins : Int))), some (.v (cD ins coins [] [])), some (.p (pre.length + t.length)), none, none, none, none, none, none, none, x, none, none] ∧ s = PS pre j a b ++ (t ++ [.fl (.list wl)])) ?_ ?_
  · simp
    refine f_draw (size := 3) hj ha hb (by omega) (by omega) fun d2 a b hd2 ha hb => ?_
    simp
    have s0 : 0 < (srcD ins coins).length := by omega
    have a0 : atI (srcD ins coins) 0 = some ((srcD ins coins)[0]) := by
      have := w_atI (xs := srcD ins coins) (j := 0)
      rw [List.getElem?_eq_getElem s0] at this
      exact this
    by_cases z : d2 = 0
    · simp [z]
      have G1 : ∀ a b, (PS pre j a b ++ [Ob.fl (PyData.list (ins.map inD)), Ob.fl (PyData.list (srcD ins coins))])[pre.length + 1]? = some (.fl (.list (srcD ins coins))) := fun a b => st_get PS_len
      refine wp_map (ds := srcD ins coins) rfl (fun i acc s => ∃ a b, (0 ≤ a ∧ 0 ≤ b) ∧ s = PS pre j a b ++ [Ob.fl (PyData.list (ins.map inD)), Ob.fl (PyData.list (srcD ins coins))] ∧ (∀ d ∈ acc, d ∈ srcD ins coins) ∧ acc.length ≤ i ∧ (1 ≤ i → 1 ≤ acc.length)) ?_ ⟨a, b, ⟨ha, hb⟩, rfl, by simp, by simp, by simp⟩ ?_ ?_
      · rintro i acc s ⟨a, b, _, rfl, _⟩
        exact at_p (G1 a b)
      · rintro i hi acc s ⟨a, b, ⟨ha, hb⟩, rfl, h1, h2, h3⟩
        have hm := List.getElem_mem hi
        simp
        refine f_draw (size := 4) hj ha hb (by omega) (by omega) fun d4 a b hd4 ha hb => ?_
        simp [G1]
        by_cases z4 : 0 < d4
        · simp [z4]
          exact ⟨a, b, ⟨ha, hb⟩, rfl, fun d hd => hd.elim (h1 d) (fun e => e ▸ hm), h2⟩
        · simp [z4, a0, src_cmp hm (List.getElem_mem s0)]
          by_cases ze : PyData.eqv (srcD ins coins)[i] (srcD ins coins)[0] = true
          · simp [ze]
            exact ⟨a, b, ⟨ha, hb⟩, rfl, fun d hd => hd.elim (h1 d) (fun e => e ▸ hm), h2⟩
          · have i1 : 1 ≤ i := by
              rcases Nat.eq_zero_or_pos i with e | e
              · subst e
                exact (ze (SeqAt.eqv_refl _ (src_canLay hm).1)).elim
              · exact e
            have := h3 i1
            simp [ze]
            refine ⟨a, b, ⟨ha, hb⟩, rfl, h1, by omega, by omega⟩
      · rintro acc s ⟨a, b, ⟨ha, hb⟩, rfl, h1, h2, h3⟩
        have := h3 s0
        simp
        refine ⟨by omega, [Ob.fl (PyData.list (ins.map inD)), Ob.fl (PyData.list (srcD ins coins))], acc, .src this (by omega) h1, rfl, a, b, ⟨ha, hb⟩, rfl, rfl⟩
    · simp [z]
      exact ⟨[Ob.fl (PyData.list (ins.map inD))], srcD ins coins, .src s0 (by omega) (fun d h => h), rfl, a, b, ⟨ha, hb⟩, rfl, by simp⟩
  rintro e s ⟨t, wl, hw, ht, a, b, x, ⟨ha, hb⟩, rfl, rfl⟩
  have GI : ∀ (a b : Int) (u : Sto), (PS pre j a b ++ (t ++ u))[pre.length]? = some (.fl (.list (ins.map inD))) := fun a b u => by
    have hl : 0 < t.length := by
      rcases Nat.eq_zero_or_pos t.length with z | z
      · rw [List.eq_nil_of_length_eq_zero z] at ht
        cases ht
      · exact z
    rw [st_get0 PS_len, List.getElem?_append_left hl, ht]
  have G : ∀ (a b : Int) (u : Sto) (i : Nat), (PS pre j a b ++ (t ++ u))[pre.length + (t.length + i)]? = u[i]? := fun a b u i => by
    rw [st_get PS_len, st_get rfl]
  have G0 : ∀ (a b : Int) (u : Sto), (PS pre j a b ++ (t ++ u))[pre.length + t.length]? = u[0]? := fun a b u => by
    rw [st_get PS_len, st_get0 rfl]
  have S : ∀ (a b : Int) (u : Sto) (i : Nat) (o : Ob), List.set (PS pre j a b ++ (t ++ u)) (pre.length + (t.length + i)) o = PS pre j a b ++ (t ++ u.set i o) := fun a b u i o => by
    rw [st_set PS_len, st_set rfl]
  have S0 : ∀ (a b : Int) (u : Sto) (o : Ob), List.set (PS pre j a b ++ (t ++ u)) (pre.length + t.length) o = PS pre j a b ++ (t ++ u.set 0 o) := fun a b u o => by
    rw [st_set PS_len, st_set0 rfl]
  refine wp_cut (fun e s => ∃ wl, WL ins coins 9 wl ∧ ∃ a b x1 x2 x3 x4 x, (0 ≤ a ∧ 0 ≤ b) ∧ e = [some (.p j), some (.v (.int 9)), some (.v (.int 6)), some (.p pre.length), some (.v (.int (coins : Int))), some (.v (cD ins coins [] [])), some (.p (pre.length + t.length)), x1, none, x2, x3, x4, none, none, x, none, none] ∧ s = PS pre j a b ++ (t ++ [.fl (.list wl)])) ?_ ?_
  · simp
    refine f_draw (size := 10) hj ha hb (by omega) (by omega) fun d4 a b hd4 ha hb => ?_
    simp [rngOf1 (m := d4) (by omega)]
    refine wp_for (List.range d4) (fun i => .int (0 + (i : Int))) is_rng (by simp) (fun i e s => ∃ wl, WL ins coins i wl ∧ ∃ a b x1 x2 x3 x4 x, (0 ≤ a ∧ 0 ≤ b) ∧ e = [some (.p j), some (.v (.int 9)), some (.v (.int 6)), some (.p pre.length), some (.v (.int (coins : Int))), some (.v (cD ins coins [] [])), some (.p (pre.length + t.length)), x1, none, x2, x3, x4, none, none, x, none, none] ∧ s = PS pre j a b ++ (t ++ [.fl (.list wl)])) ⟨wl, hw, a, b, _, _, _, _, _, ⟨ha, hb⟩, rfl, rfl⟩ ?_ ?_
    · rintro i hi e s ⟨wl, hw, a, b, x1, x2, x3, x4, x, ⟨ha, hb⟩, rfl, rfl⟩
      have hl := hw.l7
      have hl1 := hw.l1
      have hi4 : i < d4 := by simpa using hi
      have n1 : cmpD .isin (.str "not") (.list [.str "not", .str "reg"]) = some true := by kernel_rfl
      have n2 : cmpD .isin (.str "reg") (.list [.str "not", .str "reg"]) = some true := by kernel_rfl
      have n3 : cmpD .isin (.str "xor") (.list [.str "not", .str "reg"]) = some false := by kernel_rfl
      have n4 : cmpD .isin (.str "and") (.list [.str "not", .str "reg"]) = some false := by kernel_rfl
      simp
      refine f_pick (n := n) hj ha hb (by simp) (by simp) fun d hd a b ha hb => ?_
      have hk : ∃ k : String, ([PyData.str "xor", .str "xor", .str "xor", .str "and", .str "and", .str "not", .str "reg"] : List D)[d] = .str (Str.ofString k) ∧ (k = "xor" ∨ k = "and" ∨ k = "not" ∨ k = "reg") := by
        have hd : d < 7 := hd
        have : d = 0 ∨ d = 1 ∨ d = 2 ∨ d = 3 ∨ d = 4 ∨ d = 5 ∨ d = 6 := by omega
        rcases this with rfl | rfl | rfl | rfl | rfl | rfl | rfl
        · exact ⟨"xor", rfl, .inl rfl⟩
        · exact ⟨"xor", rfl, .inl rfl⟩
        · exact ⟨"xor", rfl, .inl rfl⟩
        · exact ⟨"and", rfl, .inr (.inl rfl)⟩
        · exact ⟨"and", rfl, .inr (.inl rfl)⟩
        · exact ⟨"not", rfl, .inr (.inr (.inl rfl))⟩
        · exact ⟨"reg", rfl, .inr (.inr (.inr rfl))⟩
      obtain ⟨k, hk1, hk⟩ := hk
      rw [hk1]
      simp [G0]
      refine f_draw (size := wl.length) hj ha hb (by omega) (by omega) fun x a b hx ha hb => ?_
      simp [G0]
      refine f_draw (size := wl.length) hj ha hb (by omega) (by omega) fun y a b hy ha hb => ?_
      simp [G0, S0]
      have w1 : k = "not" ∨ k = "reg" → _ := fun h => hw.snoc (.un k h x hx)
      have w2 : k = "xor" ∨ k = "and" → _ := fun h => hw.snoc (.bi k h x y hx hy)
      rcases hk with rfl | rfl | rfl | rfl
      · simp [n3]
        refine ⟨_, ⟨by omega, rfl⟩, _, w2 (.inl rfl), a, b, ⟨ha, hb⟩, rfl⟩
      · simp [n4]
        refine ⟨_, ⟨by omega, rfl⟩, _, w2 (.inr rfl), a, b, ⟨ha, hb⟩, rfl⟩
      · simp [n1]
        refine ⟨_, ⟨by omega, rfl⟩, _, w1 (.inl rfl), a, b, ⟨ha, hb⟩, rfl⟩
      · simp [n2]
        refine ⟨_, ⟨by omega, rfl⟩, _, w1 (.inr rfl), a, b, ⟨ha, hb⟩, rfl⟩
    · rintro e s ⟨wl, hw, a, b, x1, x2, x3, x4, x, ⟨ha, hb⟩, rfl, rfl⟩
      simp
      rw [List.length_range] at hw
      exact ⟨wl, ⟨hw.l1, by have := hw.l7; omega, hw.ok⟩, a, b, ⟨ha, hb⟩, rfl⟩
  clear hw wl
  rintro e s ⟨wl, hw, a, b, x1, x2, x3, x4, x, ⟨ha, hb⟩, rfl, rfl⟩
  have hl := hw.l7
  have hl1 := hw.l1
  refine wp_cut (fun e s => e = [some (.p j), some (.v (.int 9)), some (.v (.int 6)), some (.p pre.length), some (.v (.int (coins : Int))), some (.v (cD ins coins [] [])), some (.p (pre.length + t.length)), x1, some (.p (pre.length + (t.length + 1))), x2, x3, x4, none, none, x, none, none] ∧ s = PS pre j a b ++ (t ++ [.fl (.list wl), .fl (.list [])])) ?_ ?_
  · simp
  rintro e s ⟨rfl, rfl⟩
  refine wp_cut (fun e s => ∃ outs : List (Str × List Nat), OutOk wl.length outs ∧ ∃ a b, (0 ≤ a ∧ 0 ≤ b) ∧ ∃ u x1 x2 x3 x5 x6, e = [some (.p j), some (.v (.int 9)), some (.v (.int 6)), some (.p pre.length), some (.v (.int (coins : Int))), some (.v (cD ins coins [] [])), some (.p (pre.length + t.length)), x1, some (.p (pre.length + (t.length + 1))), x2, x3, x4, x5, x6, x, none, none] ∧ s = PS pre j a b ++ (t ++ (.fl (.list wl) :: .fl (.list (outs.map outD)) :: u))) ?_ ?_
  · refine wp_ife (fun c s => ∃ a b, (0 ≤ a ∧ 0 ≤ b) ∧ s = PS pre j a b ++ (t ++ [.fl (.list wl), .fl (.list [])])) ?_ ?_ ?_
    · simp
      refine f_draw (size := 2) hj ha hb (by omega) (by omega) fun d4 a b hd4 ha hb => ?_
      simp
      exact ⟨a, b, ⟨ha, hb⟩, rfl⟩
    · clear ha hb a b
      rintro s ⟨a, b, ⟨ha, hb⟩, rfl⟩
      refine wp_cut (fun e s => e = [some (.p j), some (.v (.int 9)), some (.v (.int 6)), some (.p pre.length), some (.v (.int (coins : Int))), some (.v (cD ins coins [] [])), some (.p (pre.length + t.length)), x1, some (.p (pre.length + (t.length + 1))), x2, x3, x4, some (.p (pre.length + (t.length + 2))), some (.p (pre.length + (t.length + 3))), x, none, none] ∧ s = PS pre j a b ++ (t ++ [.fl (.list wl), .fl (.list []), .fl (.list []), .fl (.list ((List.range wl.length).map fun i : Nat => .int (i : Int)))])) ?_ ?_
      · simp [G0, q_listRng (n := wl.length) (by omega)]
      rintro e s ⟨rfl, rfl⟩
      refine wp_cut (fun e s => ∃ pl lf : List Nat, 1 ≤ pl.length ∧ pl.length ≤ 2 ∧ pl.Nodup ∧ (∀ i ∈ pl, i < wl.length) ∧ ∃ a b, (0 ≤ a ∧ 0 ≤ b) ∧ ∃ x1, e = [some (.p j), some (.v (.int 9)), some (.v (.int 6)), some (.p pre.length), some (.v (.int (coins : Int))), some (.v (cD ins coins [] [])), some (.p (pre.length + t.length)), x1, some (.p (pre.length + (t.length + 1))), x2, x3, x4, some (.p (pre.length + (t.length + 2))), some (.p (pre.length + (t.length + 3))), x, none, none] ∧ s = PS pre j a b ++ (t ++ [.fl (.list wl), .fl (.list []), .fl (.list (pl.map fun i : Nat => .int (i : Int))), .fl (.list (lf.map fun i : Nat => .int (i : Int)))])) ?_ ?_
      · simp
        refine f_draw (size := 2) hj ha hb (by omega) (by omega) fun d a b hd ha hb => ?_
        have r1 : rngOf [.int (1 + (d : Int))] = ret (.rng 0 (1 + d), 1 + d) := by
          rw [show 1 + (d : Int) = ((1 + d : Nat) : Int) by omega]
          exact rngOf1 (by omega)
        simp [r1]
        refine wp_for (List.range (1 + d)) (fun i => .int (0 + (i : Int))) is_rng (by simp) (fun i e s => ∃ pl lf : List Nat, pl.length ≤ i ∧ (1 ≤ i → 1 ≤ pl.length) ∧ (pl ++ lf).Nodup ∧ (∀ i ∈ pl ++ lf, i < wl.length) ∧ pl.length + lf.length = wl.length ∧ ∃ a b, (0 ≤ a ∧ 0 ≤ b) ∧ ∃ x1, e = [some (.p j), some (.v (.int 9)), some (.v (.int 6)), some (.p pre.length), some (.v (.int (coins : Int))), some (.v (cD ins coins [] [])), some (.p (pre.length + t.length)), x1, some (.p (pre.length + (t.length + 1))), x2, x3, x4, some (.p (pre.length + (t.length + 2))), some (.p (pre.length + (t.length + 3))), x, none, none] ∧ s = PS pre j a b ++ (t ++ [.fl (.list wl), .fl (.list []), .fl (.list (pl.map fun i : Nat => .int (i : Int))), .fl (.list (lf.map fun i : Nat => .int (i : Int)))])) ⟨[], List.range wl.length, by simp, by simp, by simpa using List.nodup_range, by simp, by simp, a, b, ⟨ha, hb⟩, _, rfl, rfl⟩ ?_ ?_
        · clear ha hb a b
          rintro i hi e s ⟨pl, lf, p1, p2, p3, p4, p5, a, b, ⟨ha, hb⟩, x1, rfl, rfl⟩
          have cn := cmp_ne_nilN (l := lf) (fun i hi => by have := p4 i (List.mem_append_right _ hi); omega)
          simp [G, cn]
          by_cases hlf : lf = []
          · subst hlf
            simp
            have : 1 ≤ pl.length := by simp at p5; omega
            exact ⟨pl, by omega, this, [], p3, by simpa using p4, by simpa using p5, a, b, ⟨ha, hb⟩, by simp⟩
          · have h1 : 1 ≤ lf.length := by
              rcases Nat.eq_zero_or_pos lf.length with z | z
              · exact (hlf (List.eq_nil_of_length_eq_zero z)).elim
              · exact z
            simp [hlf]
            refine f_draw (size := lf.length) hj ha hb h1 (by omega) fun k a b hk ha hb => ?_
            simp [G, S, pop_nat (xs := lf.map fun i : Nat => PyData.int (i : Int)) (k := k) (by rw [List.length_map]; exact hk) (by omega)]
            have pm : (pl ++ [lf[k]] ++ lf.eraseIdx k).Perm (pl ++ lf) := by
              rw [List.append_assoc]
              exact (perm_erase hk).append_left pl
            have le : (lf.eraseIdx k).length + 1 = lf.length := by
              rw [List.length_eraseIdx]
              simp [hk]
              omega
            refine ⟨_, _, ⟨rfl, rfl⟩, _, ⟨by omega, rfl⟩, pl ++ [lf[k]], by simp; omega, by simp, lf.eraseIdx k, pm.nodup_iff.mpr p3, ?_, ?_, a, b, ⟨ha, hb⟩, ?_⟩
            · intro i hi
              refine p4 i (pm.mem_iff.mp ?_)
              rw [List.mem_append]
              exact hi
            · simp
              omega
            · rw [List.map_append, map_erase]
              rfl
        · clear ha hb a b
          rintro e s ⟨pl, lf, p1, p2, p3, p4, p5, a, b, ⟨ha, hb⟩, x1, rfl, rfl⟩
          simp
          rw [List.length_range] at p1 p2
          exact ⟨pl, p2 (by omega), by omega, (List.nodup_append.mp p3).1, fun i hi => p4 i (List.mem_append_left _ hi), lf, a, b, ⟨ha, hb⟩, rfl⟩
      clear ha hb a b
      rintro e s ⟨pl, lf, p1, p2, p3, p4, a, b, ⟨ha, hb⟩, x1, rfl, rfl⟩
      simp [G, S]
      exact ⟨[(Str.ofString "sum", pl)], .inr ⟨pl, rfl, p1, p2, p3, p4⟩, a, b, ⟨ha, hb⟩, _, rfl⟩
    · clear ha hb a b
      rintro s ⟨a, b, ⟨ha, hb⟩, rfl⟩
      simp
      exact ⟨[], .inl rfl, a, b, ⟨ha, hb⟩, [], rfl⟩
  clear ha hb a b
  rintro e s ⟨outs, ho, a, b, ⟨ha, hb⟩, u, x1, x2, x3, x5, x6, rfl, rfl⟩
  simp [G, G0, GI, fin]
  exact q ins coins wl outs a b hi (ci_of hi hc hw ho) (by have := hw.l7; omega) ha hb)
end
end Lw

set_option Elab.async false
set_option linter.all false
set_option maxRecDepth 100000
set_option maxHeartbeats 800000
namespace Lw
open PySem PySem.Spec PyProof.Rows L2 Vm
def wD (S : List D) : Wi → D
  | .src n => S.getD n .none
  | .nt x => .tuple [.str "not", .int (x : Int)]
  | .rg x => .tuple [.str "reg", .int (x : Int)]
  | .xr x y => .tuple [.str "xor", .int (x : Int), .int (y : Int)]
  | .an x y => .tuple [.str "and", .int (x : Int), .int (y : Int)]
def srcK (ins : List (Str × Nat)) (coins : Nat) : List (List Key) := (shF 0 (ks ins)).map (fun p => [.inr "share", .inl (p.1 : Int), .inl (p.2 : Int)]) ++ (List.range coins).map fun j : Nat => [.inr "coin", .inl (j : Int)]
theorem srcK_eq {ins coins} : (srcK ins coins).map keysD = srcD ins coins := by
  unfold srcK srcD
  rw [List.map_append, List.map_map, List.map_map]
  rfl
theorem srcK_len {ins coins} : (srcK ins coins).length = (ks ins).sum + coins := by
  rw [← srcD_len, ← srcK_eq, List.length_map]
theorem shF_ge : ∀ {o : Nat} {l : List Nat} {p : Nat × Nat}, p ∈ shF o l → o ≤ p.1
  | o, [], p, h => by cases h
  | o, k :: l, p, h => by
    have h : p ∈ (List.range k).map (fun j => (o, j)) ++ shF (o + 1) l := h
    rw [List.mem_append, List.mem_map] at h
    rcases h with ⟨j, _, rfl⟩ | h
    · exact Nat.le_refl _
    · exact Nat.le_of_succ_le (shF_ge h)
theorem shF_nodup : ∀ (o : Nat) (l : List Nat), (shF o l).Nodup
  | o, [] => List.nodup_nil
  | o, k :: l => by
    show ((List.range k).map (fun j => (o, j)) ++ shF (o + 1) l).Nodup
    rw [List.nodup_append]
    refine ⟨?_, shF_nodup (o + 1) l, fun a ha b hb e => ?_⟩
    · have := List.nodup_range (n := k)
      unfold List.Nodup at this ⊢
      rw [List.pairwise_map]
      exact this.imp fun h z => h (Prod.mk.inj z).2
    · rw [List.mem_map] at ha
      obtain ⟨j, _, rfl⟩ := ha
      have := shF_ge hb
      rw [← e] at this
      simp at this
      omega
theorem srcK_nodup {ins coins} : (srcK ins coins).Nodup := by
  unfold srcK
  rw [List.nodup_append]
  refine ⟨?_, ?_, fun a ha b hb e => ?_⟩
  · have := shF_nodup 0 (ks ins)
    unfold List.Nodup at this ⊢
    rw [List.pairwise_map]
    refine this.imp fun {a b} h z => h ?_
    simp at z
    exact Prod.ext (by omega) (by omega)
  · have := List.nodup_range (n := coins)
    unfold List.Nodup at this ⊢
    rw [List.pairwise_map]
    refine this.imp fun {a b} h z => h ?_
    simp at z
    omega
  · rw [List.mem_map] at ha hb
    obtain ⟨p, _, rfl⟩ := ha
    obtain ⟨j, _, rfl⟩ := hb
    simp at e
theorem typed {ins : List (Str × Nat)} {coins : Nat} {wires : List D} (h : ∀ i (hi : i < wires.length), WireOk ins coins i wires[i]) : ∃ ws : List Wi, wires = ws.map (wD (srcD ins coins)) ∧ ∀ i (hi : i < ws.length), WiOk ((ks ins).sum + coins) i ws[i] := by
  have at_ : ∀ {i : Nat} {d : D}, WireOk ins coins i d → ∃ w, d = wD (srcD ins coins) w ∧ WiOk ((ks ins).sum + coins) i w := by
    intro i d h
    have src : d ∈ srcD ins coins → ∃ w, d = wD (srcD ins coins) w ∧ WiOk ((ks ins).sum + coins) i w := fun m => by
      obtain ⟨n, hn, e⟩ := List.getElem_of_mem m
      refine ⟨.src n, ?_, by rw [← srcD_len]; exact hn⟩
      show d = (srcD ins coins).getD n .none
      rw [← e]
      simp [hn]
    cases h with
    | share a b ha hb =>
      refine src ?_
      unfold srcD
      rw [List.mem_append, List.mem_map]
      refine .inl ⟨(a, b), ?_, rfl⟩
      have go : ∀ (o : Nat) (l : List Nat) (x : Nat) (hx : x < l.length), b < l[x] → (o + x, b) ∈ shF o l := by
        intro o l
        induction l generalizing o with
        | nil => intro x hx; simp at hx
        | cons k l ih =>
          intro x hx hb
          show (o + x, b) ∈ (List.range k).map (fun j => (o, j)) ++ shF (o + 1) l
          rw [List.mem_append, List.mem_map]
          cases x with
          | zero => exact .inl ⟨b, List.mem_range.mpr hb, rfl⟩
          | succ x =>
            right
            have := ih (o + 1) x (by simpa using hx) hb
            rw [show o + (x + 1) = o + 1 + x by omega]
            exact this
      have := go 0 (ks ins) a (by simpa using ha) (by simpa using hb)
      rw [Nat.zero_add] at this
      exact this
    | coin j hj =>
      refine src ?_
      unfold srcD
      rw [List.mem_append, List.mem_map, List.mem_map]
      exact .inr ⟨j, List.mem_range.mpr hj, rfl⟩
    | un k hk x hx =>
      rcases hk with rfl | rfl
      · exact ⟨.nt x, rfl, hx⟩
      · exact ⟨.rg x, rfl, hx⟩
    | bi k hk x y hx hy =>
      rcases hk with rfl | rfl
      · exact ⟨.xr x y, rfl, hx, hy⟩
      · exact ⟨.an x y, rfl, hx, hy⟩
  have go : ∀ n, n ≤ wires.length → ∃ ws : List Wi, ws.length = n ∧ wires.take n = ws.map (wD (srcD ins coins)) ∧ ∀ i (hi : i < ws.length), WiOk ((ks ins).sum + coins) i ws[i] := by
    intro n
    induction n with
    | zero => exact fun _ => ⟨[], rfl, rfl, fun i hi => by simp at hi⟩
    | succ n ih =>
      intro hn
      obtain ⟨ws, e1, e2, e3⟩ := ih (by omega)
      obtain ⟨w, e4, e5⟩ := at_ (h n (by omega))
      refine ⟨ws ++ [w], by simp [e1], ?_, fun i hi => ?_⟩
      · rw [← List.take_append_getElem (show n < wires.length by omega), e2, List.map_append, e4]
        rfl
      · rw [List.length_append] at hi
        by_cases z : i < ws.length
        · rw [List.getElem_append_left z]
          exact e3 i z
        · have : i = ws.length := by simp at hi; omega
          subst this
          simp
          rw [e1]
          exact e5
  obtain ⟨ws, _, e2, e3⟩ := go wires.length (Nat.le_refl _)
  rw [List.take_length] at e2
  exact ⟨ws, e2, e3⟩
/-- bits as they stand in lists -/
def bD (f : List Bool) : List D := f.map fun b => .int (bI b)
theorem bD_len {f : List Bool} : (bD f).length = f.length := by
  unfold bD
  exact List.length_map _
theorem bD_get {f : List Bool} {i : Nat} (h : i < f.length) : (bD f)[i]? = some (.int (bI (f.getD i false))) := by
  unfold bD
  rw [List.getElem?_map, List.getElem?_eq_getElem h]
  simp [h]
section
variable {wh n : Nat}
theorem f_value_by {S : List D} {w : Wi} {p f : List Bool} {k N : Nat} {s : Sto} (h : s[k]? = some (.fl (.list (bD f)))) (hw : WiOk N f.length w) (hs : ∀ n, w ≠ .src n) {Q : R → Sto → Prop} (q : Q (.v (.int (bI (wv p f w)))) s) :
    Vm.wp (evC Tb wh (n + 1) 17 [.v (wD S w), .p k]) s Q := wp_fn (fd := dn_value_by.fd) rfl rfl (by
  obtain ⟨hl, hg⟩ := List.getElem?_eq_some_iff.mp h
  have c1 : cmpD .eq (.str "not") (.str "not") = some true := by kernel_rfl
  have c2 : cmpD .eq (.str "reg") (.str "not") = some false := by kernel_rfl
  have c3 : cmpD .eq (.str "xor") (.str "not") = some false := by kernel_rfl
  have c4 : cmpD .eq (.str "and") (.str "not") = some false := by kernel_rfl
  have c5 : cmpD .eq (.str "reg") (.str "reg") = some true := by kernel_rfl
  have c6 : cmpD .eq (.str "xor") (.str "reg") = some false := by kernel_rfl
  have c7 : cmpD .eq (.str "and") (.str "reg") = some false := by kernel_rfl
  have c8 : cmpD .eq (.str "xor") (.str "xor") = some true := by kernel_rfl
  have c9 : cmpD .eq (.str "and") (.str "xor") = some false := by kernel_rfl
  cases w with
  | src n => exact absurd rfl (hs n)
  | nt x =>
    have hx : x < f.length := hw
    simp [dn_value_by, Dn.fd, wD, c1, hl, hg, w_atI, bD_get hx]
    simp only [wv, List.getD_eq_getElem?_getD] at q
    generalize f[x]?.getD false = a at q ⊢
    cases a <;> exact q
  | rg x =>
    have hx : x < f.length := hw
    simp [dn_value_by, Dn.fd, wD, c2, c5, hl, hg, w_atI, bD_get hx]
    simp only [wv, List.getD_eq_getElem?_getD] at q
    exact q
  | xr x y =>
    have hx : x < f.length := hw.1
    have hy : y < f.length := hw.2
    simp [dn_value_by, Dn.fd, wD, c3, c6, c8, hl, hg, w_atI, bD_get hx, bD_get hy]
    simp only [wv, List.getD_eq_getElem?_getD] at q
    generalize f[x]?.getD false = a at q ⊢
    generalize f[y]?.getD false = b at q ⊢
    cases a <;> cases b <;> exact q
  | an x y =>
    have hx : x < f.length := hw.1
    have hy : y < f.length := hw.2
    simp [dn_value_by, Dn.fd, wD, c4, c7, c9, hl, hg, w_atI, bD_get hx, bD_get hy]
    simp only [wv, List.getD_eq_getElem?_getD] at q
    generalize hb : f[y]?.getD false = b at q
    generalize f[x]?.getD false = a at q ⊢
    cases a
    · rw [decide_eq_false (by decide)]
      simp
      exact q
    · rw [decide_eq_true (by decide)]
      simp [hl, hg, w_atI, bD_get hy, hb]
      cases b <;> exact q)
theorem ix_c3 {ins coins wires outs} : ixD (cD ins coins wires outs) (.int 3) = some (.tuple wires) := (rfl)
theorem in_dict {kvs : List (D × D)} {d : D} (h : keysOk kvs d = true) (g : kvs ≠ []) : cmpD .isin d (.dict kvs) = some (getK d kvs).isSome := by
  have e : cmpD .isin d (.dict kvs) = if (keysOk kvs d && !kvs.isEmpty) = true then some (getK d kvs).isSome else none := by cases d <;> rfl
  have ne : kvs.isEmpty = false := by cases kvs with
    | nil => exact absurd rfl g
    | cons a l => rfl
  rw [e, h, ne]
  rfl
theorem ix_dictD {kvs : List (D × D)} {d : D} (h : keysOk kvs d = true) (g : kvs ≠ []) : ixD (.dict kvs) d = getK d kvs := by
  have e : ixD (.dict kvs) d = if (keysOk kvs d && !kvs.isEmpty) = true then getK d kvs else none := by cases d <;> rfl
  have ne : kvs.isEmpty = false := by cases kvs with
    | nil => exact absurd rfl g
    | cons a l => rfl
  rw [e, h, ne]
  rfl
theorem src_key {ins : List (Str × Nat)} {coins n : Nat} (h : n < (srcK ins coins).length) : wD (srcD ins coins) (.src n) = keysD (srcK ins coins)[n] := by
  show (srcD ins coins).getD n .none = _
  rw [← srcK_eq]
  simp [h]
/-- the key of what is no source -/
def othK : Wi → List Key
  | .src _ => []
  | .nt x => [.inr "not", .inl (x : Int)]
  | .rg x => [.inr "reg", .inl (x : Int)]
  | .xr x y => [.inr "xor", .inl (x : Int), .inl (y : Int)]
  | .an x y => [.inr "and", .inl (x : Int), .inl (y : Int)]
theorem oth_key {S : List D} {w : Wi} (h : ∀ n, w ≠ .src n) : wD S w = keysD (othK w) := by
  cases w with
  | src n => exact absurd rfl (h n)
  | _ => rfl
theorem oth_not {ins coins} {w : Wi} (h : ∀ n, w ≠ .src n) : othK w ∉ srcK ins coins := by
  have n1 : Str.ofString "not" ≠ Str.ofString "share" ∧ Str.ofString "not" ≠ Str.ofString "coin" := ⟨by decide, by decide⟩
  have n2 : Str.ofString "reg" ≠ Str.ofString "share" ∧ Str.ofString "reg" ≠ Str.ofString "coin" := ⟨by decide, by decide⟩
  have n3 : Str.ofString "xor" ≠ Str.ofString "share" ∧ Str.ofString "xor" ≠ Str.ofString "coin" := ⟨by decide, by decide⟩
  have n4 : Str.ofString "and" ≠ Str.ofString "share" ∧ Str.ofString "and" ≠ Str.ofString "coin" := ⟨by decide, by decide⟩
  unfold srcK
  rw [List.mem_append, List.mem_map, List.mem_map]
  rintro (⟨a, _, e⟩ | ⟨a, _, e⟩)
  · cases w with
    | src n => exact absurd rfl (h n)
    | nt x => exact n1.1 (Sum.inr.inj (List.cons.inj e).1).symm
    | rg x => exact n2.1 (Sum.inr.inj (List.cons.inj e).1).symm
    | xr x y => exact n3.1 (Sum.inr.inj (List.cons.inj e).1).symm
    | an x y => exact n4.1 (Sum.inr.inj (List.cons.inj e).1).symm
  · cases w with
    | src n => exact absurd rfl (h n)
    | nt x => exact n1.2 (Sum.inr.inj (List.cons.inj e).1).symm
    | rg x => exact n2.2 (Sum.inr.inj (List.cons.inj e).1).symm
    | xr x y => exact n3.2 (Sum.inr.inj (List.cons.inj e).1).symm
    | an x y => exact n4.2 (Sum.inr.inj (List.cons.inj e).1).symm
theorem lk_src {ins : List (Str × Nat)} {coins n : Nat} {p : List Bool} (hp : p.length = (ks ins).sum + coins) (h : n < (ks ins).sum + coins) :
    cmpD .isin (wD (srcD ins coins) (.src n)) (.dict ((srcD ins coins).zip (bD p))) = some true ∧ ixD (.dict ((srcD ins coins).zip (bD p))) (wD (srcD ins coins) (.src n)) = some (.int (bI (p.getD n false))) := by
  have hn : n < (srcK ins coins).length := by rw [srcK_len]; exact h
  have hb : n < (bD p).length := by unfold bD; rw [List.length_map]; omega
  have ne : (srcD ins coins).zip (bD p) ≠ [] := fun z => by
    have l := congrArg List.length z
    have lb : (bD p).length = p.length := by
      unfold bD
      rw [List.length_map]
    rw [List.length_zip, srcD_len, lb, List.length_nil] at l
    omega
  have g := getK_at keysD eqK_t (ds := bD p) hn hb srcK_nodup
  have ok := keysOk_of (ks := srcK ins coins) (ds := bD p) (k := (srcK ins coins)[n])
  rw [srcK_eq] at g ok
  rw [src_key hn, in_dict ok ne, ix_dictD ok ne, g]
  refine ⟨rfl, ?_⟩
  have := bD_get (f := p) (i := n) (by omega)
  rw [List.getElem?_eq_getElem hb] at this
  exact this
theorem lk_oth {ins : List (Str × Nat)} {coins : Nat} {p : List Bool} {w : Wi} (hp : p.length = (ks ins).sum + coins) (h1 : 1 ≤ (ks ins).sum + coins) (h : ∀ n, w ≠ .src n) :
    cmpD .isin (wD (srcD ins coins) w) (.dict ((srcD ins coins).zip (bD p))) = some false := by
  have ne : (srcD ins coins).zip (bD p) ≠ [] := fun z => by
    have l := congrArg List.length z
    have lb : (bD p).length = p.length := by
      unfold bD
      rw [List.length_map]
    rw [List.length_zip, srcD_len, lb, List.length_nil] at l
    omega
  have g := getK_none keysD eqK_t (ds := bD p) (oth_not (ins := ins) (coins := coins) h)
  have ok := keysOk_of (ks := srcK ins coins) (ds := bD p) (k := othK w)
  rw [srcK_eq] at g ok
  rw [oth_key h, in_dict ok ne, g]
  rfl
theorem f_values_at_of {ins : List (Str × Nat)} {coins : Nat} {ws : List Wi} {outs : List D} {p : List Bool} (h : (ks ins).sum + coins ≤ 10) (h1 : 1 ≤ (ks ins).sum + coins) (hp : p.length = (ks ins).sum + coins) (hw : ∀ i (hi : i < ws.length), WiOk ((ks ins).sum + coins) i ws[i]) (hl : ws.length ≤ 100) :
    evC Tb wh (n + 3) 18 [.v (cD ins coins (ws.map (wD (srcD ins coins))) outs), .v (pD p)] = ret (.n (.list (bD (vals p ws [])))) := ret_of fun s => wp_fn (fd := dn_values_at_of.fd) rfl rfl (by
  have sl := srcD_len (ins := ins) (coins := coins)
  have dz : biDictZip [.list (srcD ins coins), pD p] = some (.n (.dict ((srcD ins coins).zip (bD p)))) := by
    have e : biDictZip [.list (srcD ins coins), pD p] = if (decide ((srcD ins coins).length = (bD p).length) && keysT ((srcD ins coins).zip (bD p)) && distK ((srcD ins coins).zip (bD p))) = true then some (.n (.dict ((srcD ins coins).zip (bD p)))) else none := rfl
    rw [e, if_pos]
    rw [← srcK_eq, keysT_of, dist_of keysD eqK_t srcK_nodup, srcK_eq]
    simp [bD, sl, hp]
  simp [dn_values_at_of, Dn.fd, f_sources_of (ins := ins) (coins := coins) (wires := ws.map (wD (srcD ins coins))) (outs := outs) (by omega) (by omega), dz, ix_c3]
  refine wp_for ws (wD (srcD ins coins)) is_seqT (by simp) (fun i e t => (∃ x y z, e = [x, y, z, some (.v (.dict ((srcD ins coins).zip (bD p)))), some (.p s.length)]) ∧ t = s ++ [.fl (.list (bD (vals p (ws.take i) [])))]) ⟨⟨_, _, _, rfl⟩, rfl⟩ ?_ ?_
  · rintro i hi e t ⟨⟨x, y, z, rfl⟩, rfl⟩
    have hf : (vals p (ws.take i) []).length = i := by rw [vals_len]; simp; omega
    have wo := hw i hi
    have nx : bD (vals p (ws.take (i + 1)) []) = bD (vals p (ws.take i) []) ++ [.int (bI (wv p (vals p (ws.take i) []) ws[i]))] := by
      rw [vals_take hi]
      unfold bD
      rw [List.map_append]
      rfl
    rw [nx]
    generalize vals p (ws.take i) [] = f at hf
    generalize hwi : ws[i] = w at wo
    by_cases hs : ∃ n, w = .src n
    · obtain ⟨n0, rfl⟩ := hs
      obtain ⟨g1, g2⟩ := lk_src (p := p) hp wo
      have g2 : ixD (.dict ((srcD ins coins).zip (bD p))) (wD (srcD ins coins) (.src n0)) = some (.int (bI (wv p f (.src n0)))) := g2
      simp [g1, g2]
      rw [bD_len]
      omega
    · have hs : ∀ n, w ≠ .src n := fun n e => hs ⟨n, e⟩
      have g1 := lk_oth (p := p) hp h1 hs
      simp [g1]
      refine f_value_by (p := p) (f := f) (N := (ks ins).sum + coins) (by simp) (by rw [hf]; exact wo) hs ?_
      simp
      rw [bD_len]
      omega
  · rintro e t ⟨⟨x, y, z, rfl⟩, rfl⟩
    simp)
end
end Lw

set_option Elab.async false
set_option linter.all false
set_option maxRecDepth 100000
set_option maxHeartbeats 800000
namespace Lw
open PySem PySem.Spec PyProof.Rows L2 Vm
/-- the value of a wire, by the point -/
def gw (ws : List Wi) (a : Nat) (p : List Bool) : Bool := (vals p ws []).getD a false
def rowD (g : List Bool → Bool) (N : Nat) : D := .list ((tup N).map fun p => .int (bI (g p)))
theorem rowD_at {g : List Bool → Bool} {N i : Nat} (h : i < 2 ^ N) : ixD (rowD g N) (.int (i : Int)) = some (.int (bI (g (pt N i)))) := by
  unfold rowD
  rw [ixD_list, w_atI, tup_pt, List.map_map, List.getElem?_map, List.getElem?_range h]
  rfl
section
variable {wh n : Nat}
theorem f_values_of {ins : List (Str × Nat)} {coins : Nat} {ws : List Wi} {outs : List D} (h : (ks ins).sum + coins ≤ 10) (h1 : 1 ≤ (ks ins).sum + coins) (hw : ∀ i (hi : i < ws.length), WiOk ((ks ins).sum + coins) i ws[i]) (hl : ws.length ≤ 100) :
    evC Tb wh (n + 4) 19 [.v (cD ins coins (ws.map (wD (srcD ins coins))) outs)] = ret (.n (.list ((List.range ws.length).map fun a => rowD (gw ws a) ((ks ins).sum + coins)))) := ret_of fun s => wp_fn (fd := dn_values_of.fd) rfl rfl (by
  have vp := fun p hp => f_values_at_of (wh := wh) (n := n) (ins := ins) (coins := coins) (ws := ws) (outs := outs) (p := p) h h1 hp hw hl
  simp [dn_values_of, Dn.fd, f_points_of (ins := ins) (coins := coins) (wires := ws.map (wD (srcD ins coins))) (outs := outs) h, ix_c3]
  have hE : (tup ((ks ins).sum + coins)).length ≤ 1024 := by
    rw [tup_length]
    exact two_le (k := 10) h
  generalize hN : (ks ins).sum + coins = N at *
  refine wp_map1 (tup N) pD (fun p => .list (bD (vals p ws []))) is_seqL (by simp) (fun p hp => ?_) ?_
  · simp [vp p (tup_len hp)]
  · simp [rngOf1 (m := ws.length) (by omega)]
    refine ⟨by omega, ?_⟩
    refine wp_map1 (List.range ws.length) (fun i => .int (0 + (i : Int))) (fun a => rowD (gw ws a) N) is_rng (by simp) (fun i hi => ret_of fun s => ?_) ?_
    · have hi := List.mem_range.mp hi
      simp
      refine wp_map1 (tup N) (fun p => .list (bD (vals p ws []))) (fun p => .int (bI (gw ws i p))) is_seqL (by simp) (fun p hp => ?_) ?_
      · have := bD_get (f := vals p ws []) (i := i) (by rw [vals_len]; simpa using hi)
        simp [w_atI, this, gw]
      · simp [rowD]
        omega
    · simp
      omega)
def flipD (g : List Bool → Bool) (N m : Nat) : D := if ((List.range (2 ^ N)).filter fun i => !i.testBit m).all (fun i => chg g N m i == chg g N m 0) = true then .int (bI (chg g N m 0)) else .none
theorem cmp_eq_bI {a b : Bool} : cmpD .eq (.int (bI a)) (.int (bI b)) = some (a == b) := by
  rw [cmp_eq_int]
  cases a <;> cases b <;> rfl
theorem cmp_ne_bI {a b : Bool} : cmpD .ne (.int (bI a)) (.int (bI b)) = some (a != b) := by
  rw [cmp_ne_int]
  cases a <;> cases b <;> rfl
theorem f_flip_of {g : List Bool → Bool} {N m : Nat} (hN : N ≤ 10) (hm : m < N) :
    evC Tb wh (n + 1) 20 [.v (rowD g N), .v (.int ((2 ^ m : Nat) : Int))] = ret (.v (flipD g N m)) := ret_of fun s => wp_fn (fd := dn_flip_of.fd) rfl rfl (by
  have hE : 2 ^ N ≤ 1024 := two_le (k := 10) hN
  have hM : 2 ^ m ≤ 1024 := two_le (k := 10) (by omega)
  have hM1 : 1 ≤ 2 ^ m := Nat.one_le_two_pow
  have ln : biLen [rowD g N] = some (.v (.int ((2 ^ N : Nat) : Int))) := by
    unfold rowD
    rw [q_len_l, List.length_map, tup_length]
  have ra := fun i => rowD_at (g := g) (N := N) (i := i)
  have fl : ∀ i : Nat, i.testBit m = decide (i / 2 ^ m % 2 = 1) := fun i => Nat.testBit_eq_decide_div_mod_eq
  have up := fun i hi hb => pt_lt (n := N) (m := m) (i := i) hi hm hb
  have zr : (0 : Nat) < 2 ^ N := Nat.two_pow_pos N
  have fd : flipD g N m = if ((List.range (2 ^ N)).filter fun i => !i.testBit m).all (fun i => chg g N m i == chg g N m 0) = true then .int (bI (chg g N m 0)) else .none := rfl
  have cg : ∀ i, chg g N m i = (g (pt N i) != g (pt N (i + 2 ^ m))) := fun _ => rfl
  rw [fd]
  generalize chg g N m = ch at cg ⊢
  clear fd
  generalize hS : 2 ^ m = S at *
  generalize hK : 2 ^ N = K at *
  show Vm.wp (evSs _ dn_flip_of.code [some (.v (rowD g N)), some (.v (.int (S : Int))), none, none, none]) _ _
  generalize hrd : rowD g N = rd at *
  simp [dn_flip_of, ln, rngOf1 (m := K) (by omega)]
  refine wp_mapSel (List.range K) (fun i => .int (0 + (i : Int))) (fun i => !i.testBit m) (fun i => .int (bI (ch i))) is_rng (by simp) (fun i hi => ?_) ?_
  · have hi := List.mem_range.mp hi
    have d1 : binD .fdiv (.int (i : Int)) (.int (S : Int)) = some (.v (.int ((i : Int) / (S : Int)))) := w_div (by omega) (by omega)
    have d2 : ∀ x : Int, binD .fdiv (.int x) (.int 2) = some (.v (.int (x / 2))) := fun x => w_div (by omega) (by omega)
    have d3 : ∀ x : Int, binD .mul (.int x) (.int 2) = some (.v (.int (x * 2))) := fun x => w_mul (.inr (by decide))
    have qe : (i : Int) / (S : Int) = ((i / S : Nat) : Int) := by simp
    generalize (i : Int) / (S : Int) = q at d1 qe
    have a1 : ixD rd (.int (i : Int)) = _ := ra i hi
    simp only [Int.zero_add]
    by_cases hb : i.testBit m = true
    · have := fl i
      rw [hb] at this
      have t := of_decide_eq_true this.symm
      have t : ¬ q / 2 * 2 = q := by omega
      simp [d1, d2, d3, hb, t]
    · have hb : i.testBit m = false := by simpa using hb
      have t : q / 2 * 2 = q := by
        have := fl i
        rw [hb] at this
        have := of_decide_eq_false this.symm
        omega
      have a2 : ixD rd (.int ((i : Int) + (S : Int))) = some (.int (bI (g (pt N (i + S))))) := by
        have := ra (i + S) (up i hi hb)
        rw [← this]
        simp
      simp [d1, d2, d3, t, hb, a1, a2, cg]
      cases g (pt N i) <;> cases g (pt N (i + S)) <;> rfl
  · obtain ⟨L, hL⟩ : ∃ L, (List.range K).filter (fun i => !i.testBit m) = 0 :: L := by
      obtain ⟨K', rfl⟩ : ∃ K', K = K' + 1 := ⟨K - 1, by omega⟩
      rw [List.range_succ_eq_map]
      exact ⟨_, List.filter_cons_of_pos (by simp)⟩
    have hl : L.length < 1024 := by
      have := List.length_filter_le (fun i => !i.testBit m) (List.range K)
      rw [hL, List.length_range, List.length_cons] at this
      omega
    rw [hL]
    simp
    refine ⟨by omega, ?_⟩
    refine wp_map1 (0 :: L) (fun i => .int (bI (ch i))) (fun i => .bool (ch i == ch 0)) is_seqL (by simp) (fun i hi => ?_) ?_
    · simp
      cases ch i <;> cases ch 0 <;> rfl
    · have e : boolsD ((0 :: L).map fun i => .bool (ch i == ch 0)) = some ((0 :: L).map fun i => ch i == ch 0) := w_bools (fun i => ch i == ch 0) (0 :: L)
      rw [e]
      simp
      refine ⟨by omega, ?_⟩
      have mm : ∀ x, (x < K ∧ x.testBit m = false) ↔ (x = 0 ∨ x ∈ L) := fun x => by
        have : x ∈ (List.range K).filter (fun i => !i.testBit m) ↔ x ∈ 0 :: L := by rw [hL]
        simpa using this
      by_cases z : ∀ x ∈ L, ch x = ch 0
      · rw [if_pos z]
        intro x h1 h2
        rcases (mm x).mp ⟨h1, h2⟩ with rfl | h
        · rfl
        · exact z x h
      · rw [if_neg z]
        have : ∃ x, x ∈ L ∧ ch x ≠ ch 0 := by simpa using z
        obtain ⟨x, h1, h2⟩ := this
        exact ⟨x, ((mm x).mpr (.inr h1)).1, ((mm x).mpr (.inr h1)).2, h2⟩)
end
end Lw

set_option Elab.async false
set_option linter.all false
set_option maxRecDepth 100000
set_option maxHeartbeats 800000
namespace Lw
open PySem PySem.Spec PyProof.Rows L2 Vm
theorem is_enumL {ds : List D} : SrcIs (.enum (.v (.list ds))) (enumD ds) := ⟨by
  unfold enumD
  rw [List.length_map, List.length_zipIdx]
  rfl, fun i h => by
  unfold enumD at h
  rw [List.length_map, List.length_zipIdx] at h
  show bind (ofO ds[i]?) _ = _
  rw [List.getElem?_eq_getElem h]
  unfold enumD
  rw [List.getElem_map, List.getElem_zipIdx]
  simp only [Nat.zero_add]
  rfl⟩
theorem fit_none {n w : Nat} : Fit n w .none := by
  refine ⟨?_, ?_, ?_, ?_, ?_⟩
  · unfold PyData.canLay0; rfl
  · unfold PyData.depth; omega
  · unfold PyData.weight; omega
  · unfold PyData.showable; rfl
  · unfold PyData.intsShort; rfl
def natD (l : List Nat) : D := .list (l.map fun i : Nat => .int (i : Int))
def affB (g : List Bool → Bool) (N : Nat) : Bool := (tup N).all fun p => g p == xor (g (zer N)) (lin (phi g N) N p)
theorem bI_small {b : Bool} : (bI b).natAbs < 10 ^ 12 := by cases b <;> decide
theorem affB_iff {g : List Bool → Bool} {N : Nat} : affB g N = true ↔ isAff g N := by
  unfold affB isAff
  rw [List.all_eq_true]
  exact ⟨fun h p hp => by simpa using h p (mem_tup hp), fun h p hp => by simpa using h p (tup_len hp)⟩
def affD (g : List Bool → Bool) (N : Nat) : D := if affB g N = true then .tuple [.int (bI (g (zer N))), natD ((List.range N).filter (phi g N))] else .none
theorem flipD_at {g : List Bool → Bool} {N k : Nat} (hk : k < N) : (flat g N (N - 1 - k) → flipD g N (N - 1 - k) = .int (bI (phi g N k))) ∧ (¬ flat g N (N - 1 - k) → flipD g N (N - 1 - k) = .none) := by
  have e : flat g N (N - 1 - k) ↔ ((List.range (2 ^ N)).filter fun i => !i.testBit (N - 1 - k)).all (fun i => chg g N (N - 1 - k) i == chg g N (N - 1 - k) 0) = true := by
    unfold flat
    simp
    constructor
    · intro h x hx
      cases y : x.testBit (N - 1 - k)
      · exact .inr (h x hx y)
      · exact .inl rfl
    · intro h x hx hb
      rcases h x hx with z | z
      · rw [hb] at z
        cases z
      · exact z
  have c : chg g N (N - 1 - k) 0 = phi g N k := by
    rw [chg0 (by omega), show N - 1 - (N - 1 - k) = k by omega]
  unfold flipD
  constructor
  · intro h
    rw [if_pos (e.mp h), c]
  · intro h
    rw [if_neg fun z => h (e.mpr z)]
section
variable {wh n : Nat}
theorem f_affine_of {g : List Bool → Bool} {N : Nat} (h1 : 1 ≤ N) (hN : N ≤ 10) :
    evC Tb wh (n + 2) 21 [.v (rowD g N), .v (.int (N : Int))] = ret (.v (affD g N)) := ret_of fun s => wp_fn (fd := dn_affine_of.fd) rfl rfl (by
  have fo := fun m hm => f_flip_of (wh := wh) (n := n) (g := g) (N := N) (m := m) hN hm
  have tw := fun m hm => f_twos (wh := wh) (n := n) (m := m) hm
  have r0 : ixD (rowD g N) (.int 0) = some (.int (bI (g (zer N)))) := by
    have := rowD_at (g := g) (N := N) (i := 0) (Nat.two_pow_pos N)
    rw [pt_zer] at this
    exact this
  generalize rowD g N = rd at fo r0
  simp [dn_affine_of, Dn.fd, rngOf1 (m := N) (by omega)]
  refine wp_map1 (List.range N) (fun i => .int (0 + (i : Int))) (fun k => flipD g N (N - 1 - k)) is_rng (by simp) (fun i hi => ?_) ?_
  · have hi := List.mem_range.mp hi
    have e : ((N : Int) - 1 - (0 + (i : Int))) = ((N - 1 - i : Nat) : Int) := by omega
    have t := tw (N - 1 - i) (by omega)
    have f := fo (N - 1 - i) (by omega)
    simp only [Int.zero_add] at e ⊢
    simp at t f
    simp [e, t, f]
  · by_cases z : isAff g N
    · have e : ((List.range N).map fun k => flipD g N (N - 1 - k)) = (List.range N).map fun k => .int (bI (phi g N k)) := List.map_congr_left fun k hk => (flipD_at (List.mem_range.mp hk)).1 (aff_flat.mpr z k (List.mem_range.mp hk))
      have ad : affD g N = .tuple [.int (bI (g (zer N))), natD ((List.range N).filter (phi g N))] := by
        unfold affD
        rw [if_pos (affB_iff.mpr z)]
      have fs : Fit 1 410 (.list ((List.range N).map fun k => .int (bI (phi g N k)))) := (fit_list (fit_all (n := 0) (w := 40) fun d hd => by
        rw [List.mem_map] at hd
        obtain ⟨k, _, rfl⟩ := hd
        exact fit_int bI_small)).mono (Nat.le_refl _) (by simp; omega)
      have nn : cmpD .isin .none (.list ((List.range N).map fun k => .int (bI (phi g N k)))) = some false := by
        have e1 : ∀ es, cmpD .isin .none (.list es) = if (shp .none && shp (.list es)) = true then some (es.any fun z => PyData.eqv z .none) else none := fun _ => rfl
        rw [e1, fit_shp (fit_none (n := 0) (w := 0)) (by decide), fit_shp fs (by decide), if_pos (show (true && true) = true from rfl)]
        congr 1
        rw [List.any_eq_false]
        intro d hd
        rw [List.mem_map] at hd
        obtain ⟨k, _, rfl⟩ := hd
        unfold PyData.eqv
        simp
      rw [e, ad]
      simp [nn, r0]
      refine ⟨by omega, ?_⟩
      refine wp_mapSel (List.range N) (fun k => .tuple [.int (k : Int), .int (bI (phi g N k))]) (phi g N) (fun k => .int (k : Int)) ?_ (by simp) (fun k hk => ?_) ?_
      · have : ((List.range N).map fun k : Nat => PyData.tuple [.int (k : Int), .int (bI (phi g N k))]) = enumD ((List.range N).map fun k => .int (bI (phi g N k))) := by
          unfold enumD
          refine List.ext_getElem (by simp) fun i h1 h2 => ?_
          simp
        rw [this]
        exact is_enumL
      · simp
        cases phi g N k <;> rfl
      · simp [natD]
        have := List.length_filter_le (phi g N) (List.range N)
        simp at this
        omega
    · have ad : affD g N = .none := by
        unfold affD
        rw [if_neg fun y => z (affB_iff.mp y)]
      have : ∃ k, k < N ∧ ¬ flat g N (N - 1 - k) := Classical.byContradiction fun y => z (aff_flat.mp fun k hk => Classical.byContradiction fun w => y ⟨k, hk, w⟩)
      obtain ⟨k, hk, hf⟩ := this
      have fs : Fit 1 410 (.list ((List.range N).map fun k => flipD g N (N - 1 - k))) := (fit_list (fit_all (n := 0) (w := 40) fun d hd => by
        rw [List.mem_map] at hd
        obtain ⟨k, _, rfl⟩ := hd
        unfold flipD
        split
        · exact fit_int bI_small
        · exact fit_none)).mono (Nat.le_refl _) (by simp; omega)
      have nn : cmpD .isin .none (.list ((List.range N).map fun k => flipD g N (N - 1 - k))) = some true := by
        have e1 : ∀ es, cmpD .isin .none (.list es) = if (shp .none && shp (.list es)) = true then some (es.any fun z => PyData.eqv z .none) else none := fun _ => rfl
        rw [e1, fit_shp (fit_none (n := 0) (w := 0)) (by decide), fit_shp fs (by decide), if_pos (show (true && true) = true from rfl)]
        congr 1
        rw [List.any_eq_true]
        refine ⟨.none, ?_, by unfold PyData.eqv; rfl⟩
        rw [List.mem_map]
        exact ⟨k, List.mem_range.mpr hk, (flipD_at hk).2 hf⟩
      rw [ad]
      simp [nn]
      omega)
theorem f_want_wire {ins : List (Str × Nat)} {coins : Nat} {wires outs : List D} {a : Nat} (h : a < wires.length) :
    evC Tb wh (n + 4) 13 [.v (cD ins coins wires outs), .v (.int (a : Int))] = ret (.v (.int (a : Int))) := ret_of fun s => wp_fn (fd := dn_want_wire.fd) rfl rfl (by
  simp [dn_want_wire, Dn.fd, ix_c3, f_is_below]
  omega)
theorem f_affine {ins : List (Str × Nat)} {coins : Nat} {ws : List Wi} {outs : List D} {a : Nat} (w : Taken wh (cD ins coins (ws.map (wD (srcD ins coins))) outs)) (h : (ks ins).sum + coins ≤ 10) (h1 : 1 ≤ (ks ins).sum + coins) (hw : ∀ i (hi : i < ws.length), WiOk ((ks ins).sum + coins) i ws[i]) (hl : ws.length ≤ 100) (ha : a < ws.length) :
    evC Tb wh (n + 8) 22 [.v (cD ins coins (ws.map (wD (srcD ins coins))) outs), .v (.int (a : Int))] = ret (.v (affD (gw ws a) ((ks ins).sum + coins))) := ret_of fun s => wp_fn (fd := dn_affine.fd) rfl rfl (by
  have ww := f_want_wire (wh := wh) (n := n + 3) (ins := ins) (coins := coins) (wires := ws.map (wD (srcD ins coins))) (outs := outs) (a := a) (by simpa using ha)
  have vo := f_values_of (wh := wh) (n := n + 3) (ins := ins) (coins := coins) (ws := ws) (outs := outs) h h1 hw hl
  have so := f_sources_of (wh := wh) (n := n + 5) (ins := ins) (coins := coins) (wires := ws.map (wD (srcD ins coins))) (outs := outs) (by omega) (by omega)
  have ao := f_affine_of (wh := wh) (n := n + 5) (g := gw ws a) (N := (ks ins).sum + coins) h1 h
  have sl := srcD_len (ins := ins) (coins := coins)
  have wt := w n
  generalize cD ins coins (ws.map (wD (srcD ins coins))) outs = c at *
  simp [dn_affine, Dn.fd, wt, vo, ww, w_atI, ha, so, sl]
  simp at ao
  rw [ao]
  simp)
end
end Lw

set_option Elab.async false
set_option linter.all false
set_option maxRecDepth 100000
set_option maxHeartbeats 800000
namespace Lw
open PySem PySem.Spec PyProof.Rows L2 Vm
theorem wp_map1s {γ : Type} {s : Sto} (l : List γ) (c : γ → D) (k : γ → D) {src : Src} {n : Nat} {Q : List D → Sto → Prop} (hs : SrcIs src (l.map c)) (hn : n = l.length) {f : D → M (List D)} (h : ∀ x ∈ l, Vm.wp (f (c x)) s fun a t => t = s ∧ a = [k x]) (q : Q (l.map k) s) : Vm.wp (mapS src f n 0) s Q := by
  refine wp_map (ds := l.map c) (by rw [List.length_map]; exact hn) (fun i acc t => t = s ∧ acc = (l.take i).map k) (fun i acc t z => by rw [z.1]; exact hs.at) ⟨rfl, by simp⟩ ?_ ?_
  · rintro i hi acc t ⟨rfl, rfl⟩
    have hi : i < l.length := by rw [List.length_map] at hi; exact hi
    rw [List.getElem_map]
    refine wp_mono (h _ (List.getElem_mem hi)) ?_
    rintro a t ⟨rfl, rfl⟩
    rw [← List.take_append_getElem hi, List.map_append]
    exact ⟨rfl, rfl⟩
  · rintro acc t ⟨rfl, rfl⟩
    rw [List.length_map, List.take_length]
    exact q
theorem ix_pD {p : List Bool} {d : Nat} (h : d < p.length) : ixD (pD p) (.int (d : Int)) = some (.int (bI p[d])) := by
  unfold pD
  rw [ixD_tuple, w_atI, List.getElem?_eq_getElem (by rw [List.length_map]; exact h), List.getElem_map]
theorem cut1 {a b : D} : cutL [a, b] (some 1) none = [b] := cut_from (xs := [a, b]) (a := 1) (by simp)
theorem cut2 {a b c : D} : cutL [a, b, c] (some 1) none = [b, c] := cut_from (xs := [a, b, c]) (a := 1) (by simp)
theorem mem2 {a b x : Nat} (h : x ∈ [a, b]) : x = a ∨ x = b := by simpa using h
theorem lk2 {a b c d : D} : List.lookup (Str.ofString "reg") [(Str.ofString "not", a), (Str.ofString "reg", b), (Str.ofString "xor", c), (Str.ofString "and", d)] = some b := by kernel_rfl
theorem lk3 {a b c d : D} : List.lookup (Str.ofString "xor") [(Str.ofString "not", a), (Str.ofString "reg", b), (Str.ofString "xor", c), (Str.ofString "and", d)] = some c := by kernel_rfl
theorem lk4 {a b c d : D} : List.lookup (Str.ofString "and") [(Str.ofString "not", a), (Str.ofString "reg", b), (Str.ofString "xor", c), (Str.ofString "and", d)] = some d := by kernel_rfl
theorem ints1 {a : Int} : intsD [.int a] = some [a] := (rfl)
theorem ints2 {a b : Int} : intsD [.int a, .int b] = some [a, b] := (rfl)
theorem min1 {b : Bool} : biMin [.list [.int (bI b)]] = some (.v (.int (bI b))) := (rfl)
theorem min2 {a b : Bool} : biMin [.list [.int (bI a), .int (bI b)]] = some (.v (.int (bI (a && b)))) := by
  cases a <;> cases b <;> rfl
theorem eqv_keys {a b : List Key} : PyData.eqv (keysD a) (keysD b) = decide (a = b) := eqK_t a b
theorem find_key : ∀ {ks : List (List Key)} {n : Nat} (h : n < ks.length), ks.Nodup → findD (keysD ks[n]) (ks.map keysD) = some n
  | j :: ks, n, h, nd => by
    have nd' := List.nodup_cons.mp nd
    have e : ∀ d, findD d ((j :: ks).map keysD) = if PyData.eqv (keysD j) d = true then some 0 else (findD d (ks.map keysD)).map (· + 1) := fun _ => rfl
    rw [e, eqv_keys]
    cases n with
    | zero => rw [if_pos (by simp)]
    | succ n =>
      have h' : n < ks.length := by simpa using h
      rw [if_neg (by
        simp
        intro z
        exact nd'.1 (by rw [z]; exact List.getElem_mem h'))]
      show (findD (keysD ks[n]) (ks.map keysD)).map (· + 1) = _
      rw [find_key h' nd'.2]
      rfl
theorem fit_str {z : String} : PyData.canLay0 (.str (Str.ofString z)) = true := by
  unfold PyData.canLay0
  exact strOk_lit z
theorem shp_S {ins coins} : shp (.list (srcD ins coins)) = true := by
  have h1 : ∀ d ∈ srcD ins coins, PyData.canLay0 d = true ∧ PyData.depth d ≤ 1 := fun d h => by
    unfold srcD at h
    rw [List.mem_append, List.mem_map, List.mem_map] at h
    rcases h with ⟨⟨i, jj⟩, h, rfl⟩ | ⟨jj, h, rfl⟩
    · simp [shD, PyData.canLay0, PyData.canLayAll0, PyData.depth, PyData.depthAll, strOk_lit]
    · simp [coD, PyData.canLay0, PyData.canLayAll0, PyData.depth, PyData.depthAll, strOk_lit]
  have go : ∀ l : List D, (∀ d ∈ l, PyData.canLay0 d = true ∧ PyData.depth d ≤ 1) → PyData.canLayAll0 l = true ∧ PyData.depthAll l ≤ 1 := by
    intro l
    induction l with
    | nil =>
      intro _
      simp [PyData.canLayAll0, PyData.depthAll]
    | cons a l ih =>
      intro h
      obtain ⟨a1, a2⟩ := h a (.head _)
      obtain ⟨b1, b2⟩ := ih fun d hd => h d (.tail _ hd)
      unfold PyData.canLayAll0 PyData.depthAll
      rw [a1, b1]
      exact ⟨rfl, by omega⟩
  obtain ⟨g1, g2⟩ := go _ h1
  unfold shp SeqAt.shaped PyData.canLay0 PyData.depth
  rw [g1]
  simp
  omega
theorem shp_W {ins coins} {N i : Nat} {w : Wi} (h : WiOk N i w) (hN : N = (ks ins).sum + coins) : shp (wD (srcD ins coins) w) = true := by
  cases w with
  | src m =>
    have hm : m < (srcD ins coins).length := by rw [srcD_len, ← hN]; exact h
    have e : wD (srcD ins coins) (.src m) = (srcD ins coins)[m] := by
      show (srcD ins coins).getD m .none = _
      simp [hm]
    rw [e]
    obtain ⟨h1, h2⟩ := src_canLay (List.getElem_mem hm)
    unfold shp SeqAt.shaped
    rw [h1, decide_eq_true h2]
    rfl
  | nt x => simp [wD, shp, SeqAt.shaped, PyData.canLay0, PyData.canLayAll0, PyData.depth, PyData.depthAll, strOk_lit]
  | rg x => simp [wD, shp, SeqAt.shaped, PyData.canLay0, PyData.canLayAll0, PyData.depth, PyData.depthAll, strOk_lit]
  | xr x y => simp [wD, shp, SeqAt.shaped, PyData.canLay0, PyData.canLayAll0, PyData.depth, PyData.depthAll, strOk_lit]
  | an x y => simp [wD, shp, SeqAt.shaped, PyData.canLay0, PyData.canLayAll0, PyData.depth, PyData.depthAll, strOk_lit]
def isSrc : Wi → Bool
  | .src _ => true
  | _ => false
theorem in_srcs {ins : List (Str × Nat)} {coins i : Nat} {w : Wi} (h : WiOk ((ks ins).sum + coins) i w) : cmpD .isin (wD (srcD ins coins) w) (.list (srcD ins coins)) = some (isSrc w) := by
  have e1 : ∀ d es, cmpD .isin d (.list es) = if (shp d && shp (.list es)) = true then some (es.any fun z => PyData.eqv z d) else none := fun d es => by cases d <;> rfl
  rw [e1, shp_W h rfl, shp_S, if_pos (show (true && true) = true from rfl)]
  congr 1
  by_cases hs : ∃ m, w = .src m
  · obtain ⟨m, rfl⟩ := hs
    have hm : m < (srcK ins coins).length := by rw [srcK_len]; exact h
    show _ = true
    rw [List.any_eq_true]
    refine ⟨wD (srcD ins coins) (.src m), ?_, ?_⟩
    · rw [src_key hm, ← srcK_eq]
      exact List.mem_map_of_mem (List.getElem_mem hm)
    · rw [src_key hm, eqv_keys]
      simp
  · have hs : ∀ m, w ≠ .src m := fun m e => hs ⟨m, e⟩
    have : isSrc w = false := by
      cases w with
      | src m => exact absurd rfl (hs m)
      | _ => rfl
    rw [this, List.any_eq_false]
    intro d hd
    rw [← srcK_eq, List.mem_map] at hd
    obtain ⟨k, hk, rfl⟩ := hd
    rw [oth_key hs, eqv_keys]
    simp
    intro e
    exact oth_not (ins := ins) (coins := coins) hs (e ▸ hk)
theorem ix_srcs {ins : List (Str × Nat)} {coins m : Nat} (h : m < (ks ins).sum + coins) : mutM .index (.v (.list (srcD ins coins))) [.v (wD (srcD ins coins) (.src m))] = ret (.v (.int (m : Int))) := by
  have hm : m < (srcK ins coins).length := by rw [srcK_len]; exact h
  have sw : shp (wD (srcD ins coins) (.src m)) = true := shp_W (i := 0) (w := .src m) h rfl
  have e1 : ∀ ds e, mutM .index (.v (.list ds)) [.v e] = if (shp (.list ds) && shp e) = true then (match findD e ds with
      | some i => ret (.v (.int (i : Nat)))
      | none => stuck) else stuck := fun _ _ => rfl
  rw [e1, sw, shp_S, if_pos (show (true && true) = true from rfl), src_key hm]
  conv => lhs; rw [← srcK_eq]
  rw [find_key hm srcK_nodup]
section
variable {wh n : Nat}
theorem f_law_values {ins : List (Str × Nat)} {coins : Nat} {ws : List Wi} {outs : List D} {p : List Bool} (h : (ks ins).sum + coins ≤ 10) (hn : ins.length ≤ 100) (hp : p.length = (ks ins).sum + coins) (hw : ∀ i (hi : i < ws.length), WiOk ((ks ins).sum + coins) i ws[i]) (hl : ws.length ≤ 100) :
    evC Tb wh (n + 2) 29 [.v (cD ins coins (ws.map (wD (srcD ins coins))) outs), .v (pD p)] = ret (.v (.tuple (bD (vals p ws [])))) := ret_of fun s => wp_fn (fd := dn__law_values.fd) rfl rfl (by
  simp [dn__law_values, Dn.fd, f_law_sources (ins := ins) (coins := coins) (wires := ws.map (wD (srcD ins coins))) (outs := outs) (by omega) (by omega) (by omega), ix_c3]
  refine wp_for ws (wD (srcD ins coins)) is_seqT (by simp) (fun i e t => (∃ x y z, e = [x, some (.v (pD p)), y, some (.v (.list (srcD ins coins))), some (.p s.length), z.1, z.2]) ∧ t = s ++ [.fl (.list (bD (vals p (ws.take i) [])))]) ⟨⟨_, _, (_, _), rfl⟩, rfl⟩ ?_ ?_
  · rintro i hi e t ⟨⟨x, y, ⟨z1, z2⟩, rfl⟩, rfl⟩
    have hf : (vals p (ws.take i) []).length = i := by rw [vals_len]; simp; omega
    have wo := hw i hi
    have nx : bD (vals p (ws.take (i + 1)) []) = bD (vals p (ws.take i) []) ++ [.int (bI (wv p (vals p (ws.take i) []) ws[i]))] := by
      rw [vals_take hi]
      unfold bD
      rw [List.map_append]
      rfl
    rw [nx]
    generalize vals p (ws.take i) [] = f at hf
    generalize hwi : ws[i] = w at wo
    have g1 := in_srcs wo
    cases w with
    | src m =>
      have g2 := ix_srcs (ins := ins) (coins := coins) (m := m) wo
      have g3 := ix_pD (p := p) (d := m) (by rw [hp]; exact wo)
      simp only [isSrc] at g1
      simp [g1, g2, g3]
      refine ⟨by rw [bD_len]; omega, ?_⟩
      have hm : m < p.length := by rw [hp]; exact wo
      simp [wv, hm]
    | nt x =>
      simp only [isSrc, wD] at g1
      have hx : x < f.length := by rw [hf]; exact wo
      simp [g1, wD, cut1]
      refine wp_map1s [x] (fun x : Nat => .int (x : Int)) (fun x => .int (bI (f.getD x false))) is_seqT (by simp) (fun x hx2 => ?_) ?_
      · rw [List.mem_singleton.mp hx2]
        simp [w_atI, bD_get hx]
      · simp [min1, ints1]
        refine ⟨by rw [bD_len]; omega, ?_⟩
        simp [wv]
        cases f[x]?.getD false <;> rfl
    | rg x =>
      simp only [isSrc, wD] at g1
      have hx : x < f.length := by rw [hf]; exact wo
      simp [g1, wD, cut1]
      refine wp_map1s [x] (fun x : Nat => .int (x : Int)) (fun x => .int (bI (f.getD x false))) is_seqT (by simp) (fun x hx2 => ?_) ?_
      · rw [List.mem_singleton.mp hx2]
        simp [w_atI, bD_get hx]
      · simp only [wv, List.map_cons, List.map_nil, List.getD_eq_getElem?_getD]
        generalize f[x]?.getD false = a
        cases a <;> (simp [min1, ints1, lk2]; rw [bD_len]; first | omega | exact ⟨by omega, rfl⟩)
    | xr x y =>
      simp only [isSrc, wD] at g1
      have hx : x < f.length := by rw [hf]; exact wo.1
      have hy : y < f.length := by rw [hf]; exact wo.2
      simp [g1, wD, cut2]
      refine wp_map1s [x, y] (fun x : Nat => .int (x : Int)) (fun x => .int (bI (f.getD x false))) is_seqT (by simp) (fun x hx2 => ?_) ?_
      · rcases mem2 hx2 with rfl | rfl
        · simp [w_atI, bD_get hx]
        · simp [w_atI, bD_get hy]
      · simp only [wv, List.map_cons, List.map_nil, List.getD_eq_getElem?_getD]
        generalize f[x]?.getD false = a
        generalize f[y]?.getD false = b
        cases a <;> cases b <;> (simp [min2, ints2, lk3]; rw [bD_len]; first | omega | exact ⟨by omega, rfl⟩)
    | an x y =>
      simp only [isSrc, wD] at g1
      have hx : x < f.length := by rw [hf]; exact wo.1
      have hy : y < f.length := by rw [hf]; exact wo.2
      simp [g1, wD, cut2]
      refine wp_map1s [x, y] (fun x : Nat => .int (x : Int)) (fun x => .int (bI (f.getD x false))) is_seqT (by simp) (fun x hx2 => ?_) ?_
      · rcases mem2 hx2 with rfl | rfl
        · simp [w_atI, bD_get hx]
        · simp [w_atI, bD_get hy]
      · simp only [wv, List.map_cons, List.map_nil, List.getD_eq_getElem?_getD]
        generalize f[x]?.getD false = a
        generalize f[y]?.getD false = b
        cases a <;> cases b <;> (simp [min2, ints2, lk4]; rw [bD_len]; first | omega | exact ⟨by omega, rfl⟩)
  · rintro e t ⟨⟨x, y, z, rfl⟩, rfl⟩
    simp)
end
end Lw

set_option Elab.async false
set_option linter.all false
set_option maxRecDepth 100000
set_option maxHeartbeats 800000
namespace Lw
open PySem PySem.Spec PyProof.Rows L2 Vm
theorem fit_pD {p : List Bool} (h : p.length ≤ 10) : Fit 1 410 (pD p) := by
  refine (fit_tuple (fit_all (n := 0) (w := 40) fun d hd => ?_)).mono (Nat.le_refl _) ?_
  · rw [List.mem_map] at hd
    obtain ⟨b, _, rfl⟩ := hd
    exact fit_int bI_small
  · rw [List.length_map]
    omega
theorem fit_pts {l : List (List Bool)} (h : ∀ p ∈ l, p.length ≤ 10) (hl : l.length ≤ 1024) : Fit 2 420864 (.list (l.map pD)) := by
  refine (fit_list (fit_all (n := 1) (w := 410) fun d hd => ?_)).mono (Nat.le_refl _) ?_
  · rw [List.mem_map] at hd
    obtain ⟨p, hp, rfl⟩ := hd
    exact fit_pD (h p hp)
  · rw [List.length_map]
    omega
theorem ne_nilD {ds : List D} (h : shp (.list ds) = true) : cmpD .ne (.list ds) (.list []) = some (!ds.isEmpty) := by
  rw [cmp_ne_of h (fit_shp (n := 1) (w := 0) (fit_list fit_nil) (by decide))]
  cases ds <;> simp [PyData.eqv, PyData.eqvAll]
@[simp] theorem len_pD {p : List Bool} : biLen [pD p] = some (.v (.int (p.length : Int))) := by
  unfold pD
  rw [q_len_t, List.length_map]
/-- a wire's values, by points -/
def tabK (g : List Bool → Bool) (l : List (List Bool)) : List (D × D) := l.map fun p => (pD p, .int (bI (g p)))
theorem getK_pts {g : List Bool → Bool} {p : List Bool} : ∀ {l : List (List Bool)}, p ∈ l → getK (pD p) (tabK g l) = some (.int (bI (g p)))
  | q :: l, h => by
    have e : getK (pD p) (tabK g (q :: l)) = if eqK (pD q) (pD p) = true then some (.int (bI (g q))) else getK (pD p) (tabK g l) := rfl
    have k : eqK (pD q) (pD p) = decide (q = p) := eqv_pD
    rw [e, k]
    by_cases z : q = p
    · rw [if_pos (by simpa using z), z]
    · rw [if_neg (by simpa using z)]
      rcases List.mem_cons.mp h with y | y
      · exact absurd y.symm z
      · exact getK_pts y
theorem getK_off {g : List Bool → Bool} {p : List Bool} : ∀ {l : List (List Bool)}, p ∉ l → getK (pD p) (tabK g l) = none
  | [], h => rfl
  | q :: l, h => by
    have e : getK (pD p) (tabK g (q :: l)) = if eqK (pD q) (pD p) = true then some (.int (bI (g q))) else getK (pD p) (tabK g l) := rfl
    have k : eqK (pD q) (pD p) = decide (q = p) := eqv_pD
    rw [e, k, if_neg (by
      simp
      intro z
      exact h (by rw [z]; exact .head _))]
    exact getK_off fun y => h (.tail _ y)
theorem isKey_pD {p : List Bool} : isKey (pD p) = true := by
  show (p.map fun b => PyData.int (bI b)).all _ = true
  rw [List.all_map, List.all_eq_true]
  intro b _
  rfl
theorem tab_ok {g : List Bool → Bool} {l : List (List Bool)} {p : List Bool} : keysOk (tabK g l) (pD p) = true := by
  unfold keysOk tabK
  rw [isKey_pD, List.all_map]
  simp [isKey_pD]
  intro q _
  rfl
theorem tab_dist {g : List Bool → Bool} : ∀ {l : List (List Bool)}, l.Nodup → distK (tabK g l) = true
  | [], _ => rfl
  | q :: l, nd => by
    have nd' := List.nodup_cons.mp nd
    show ((getK (pD q) (tabK g l)).isNone && distK (tabK g l)) = true
    rw [getK_off nd'.1, tab_dist nd'.2]
    rfl
theorem tab_ix {g : List Bool → Bool} {l : List (List Bool)} {p : List Bool} (h : p ∈ l) : ixD (.dict (tabK g l)) (pD p) = some (.int (bI (g p))) := by
  have ne : tabK g l ≠ [] := fun z => by
    unfold tabK at z
    rw [List.map_eq_nil_iff] at z
    rw [z] at h
    cases h
  rw [ix_dictD tab_ok ne, getK_pts h]
theorem tab_bi {g : List Bool → Bool} {l : List (List Bool)} (nd : l.Nodup) : biDict [.list (l.map fun p => .tuple [pD p, .int (bI (g p))])] = some (.n (.dict (tabK g l))) := by
  have e : ∀ ps, biDict [.list ps] = (pairsD ps).bind fun qs => if ((keysT qs || keysN qs) && distK qs) = true then some (.n (.dict qs)) else none := fun _ => rfl
  have pr : ∀ l : List (List Bool), pairsD (l.map fun p => .tuple [pD p, .int (bI (g p))]) = some (tabK g l) := by
    intro l
    induction l with
    | nil => rfl
    | cons p l ih =>
      show (pairsD (l.map fun p => PyData.tuple [pD p, .int (bI (g p))])).map ((pD p, PyData.int (bI (g p))) :: ·) = _
      rw [ih]
      rfl
  have kt : keysT (tabK g l) = true := by
    unfold keysT tabK
    rw [List.all_map]
    simp [isKey_pD]
    intro q _
    rfl
  rw [e, pr]
  show (if ((keysT (tabK g l) || keysN (tabK g l)) && distK (tabK g l)) = true then _ else _) = _
  rw [kt, tab_dist nd]
  rfl
theorem uni_rng {n k : Nat} (h : k < n) : uni n k = (List.range n).map fun j => decide (j = k) := by
  refine List.ext_getElem (by unfold uni; rw [flip_len, zer_len]; simp) fun i h1 h2 => ?_
  have hi : i < n := by simpa using h2
  refine (flip_get (p := zer n) (n := k) (j := i) (by rw [zer_len]; exact hi)).trans ?_
  simp [zer]
section
variable {wh n : Nat}
theorem f_law_xorL {p : List Bool} (hp : p.length ≤ 1000) : evC Tb wh (n + 1) 30 [.v (.list (bD p))] = ret (.v (.int (bI (par p)))) := ret_of fun s => wp_fn (fd := dn__law_xor.fd) rfl rfl (by
  simp [dn__law_xor, Dn.fd, bD]
  have hc : ∀ b : Bool, (Vm.bind (ofO (cmpD Cp.eq (.int (bI b)) (PyData.int 1))) fun c => if c = true then Vm.ret [PyData.int (bI b)] else Vm.ret []) = ret (if id b = true then [.int (bI b)] else []) := fun b => by cases b <;> simp [bI]
  have hl : (p.filter id).length ≤ p.length := List.length_filter_le _ _
  have e : par p = decide ((p.filter id).length % 2 = 1) := by rw [par_count, List.countP_eq_length_filter]
  refine wp_mapSel p (fun b => .int (bI b)) id (fun b => .int (bI b)) is_seqL rfl (fun b _ => hc b) ?_
  simp [w_div]
  refine ⟨by omega, ?_⟩
  rw [w_mul (.inr (show smallI 2 = true from by decide))]
  simp
  refine wp_mapSel p (fun b => .int (bI b)) id (fun b => .int (bI b)) is_seqL rfl (fun b _ => hc b) ?_
  simp
  refine ⟨by omega, ?_⟩
  rw [e]
  by_cases z : (p.filter id).length % 2 = 1
  · have z2 : ¬ ((p.filter id).length : Int) / 2 * 2 = (p.filter id).length := by omega
    simp [z, z2, bI]
  · have z2 : ((p.filter id).length : Int) / 2 * 2 = (p.filter id).length := by omega
    simp [z, z2, bI])
theorem f_law_affine {ins : List (Str × Nat)} {coins : Nat} {ws : List Wi} {outs : List D} {a : Nat} (h : (ks ins).sum + coins ≤ 10) (h1 : 1 ≤ (ks ins).sum + coins) (hn : ins.length ≤ 100) (hw : ∀ i (hi : i < ws.length), WiOk ((ks ins).sum + coins) i ws[i]) (hl : ws.length ≤ 100) (ha : a < ws.length) :
    evC Tb wh (n + 3) 32 [.v (cD ins coins (ws.map (wD (srcD ins coins))) outs), .v (.int (a : Int))] = ret (.v (affD (gw ws a) ((ks ins).sum + coins))) := ret_of fun s => wp_fn (fd := dn__law_affine.fd) rfl rfl (by
  have lp := f_law_points (wh := wh) (n := n) (ins := ins) (coins := coins) (wires := ws.map (wD (srcD ins coins))) (outs := outs) h h1 hn
  have lv := fun p hp => f_law_values (wh := wh) (n := n) (ins := ins) (coins := coins) (ws := ws) (outs := outs) (p := p) h hn hp hw hl
  have gv : ∀ p : List Bool, (bD (vals p ws []))[a]? = some (.int (bI (gw ws a p))) := fun p => bD_get (by rw [vals_len]; simpa using ha)
  generalize hN : (ks ins).sum + coins = N at *
  generalize cD ins coins (ws.map (wD (srcD ins coins))) outs = c at *
  have hE : (tup N).length ≤ 1024 := by
    rw [tup_length]
    exact two_le (k := 10) h
  generalize hg : gw ws a = g at *
  simp [dn__law_affine, Dn.fd, lp]
  refine wp_map1 (tup N) pD (fun p => .tuple [pD p, .int (bI (g p))]) is_seqL (by simp) (fun p hp => ?_) ?_
  · simp [lv p (tup_len hp), w_atI, gv]
  have t0 : (tup N)[0]? = some (zer N) := by
    rw [tup_pt, List.getElem?_map, List.getElem?_range (Nat.two_pow_pos N)]
    show some (pt N 0) = _
    rw [pt_zer]
  have a0 : atI ((tup N).map pD) 0 = some (pD (zer N)) := by
    have : atI ((tup N).map pD) ((0 : Nat) : Int) = _ := w_atI
    rw [List.getElem?_map, t0] at this
    exact this
  have i0 : ixD (.dict (tabK g (tup N))) (pD (zer N)) = some (.int (bI (g (zer N)))) := tab_ix (mem_tup zer_len)
  simp [tab_bi (g := g) (tup_nodup N), a0, i0, zer_len, rngOf1 (m := N) (by omega)]
  refine ⟨by omega, ?_⟩
  refine wp_mapSel (List.range N) (fun i => .int (0 + (i : Int))) (phi g N) (fun i => .int (i : Int)) is_rng (by simp) (fun i hi => ret_of fun s => ?_) ?_
  · have hi := List.mem_range.mp hi
    simp
    refine wp_map1 (List.range N) (fun i => .int (0 + (i : Int))) (fun j => .int (bI (decide (j = i)))) is_rng (by simp) (fun j hj => ?_) ?_
    · by_cases z : j = i
      · simp [z, bI]
      · have : ¬ (j : Int) = (i : Int) := by omega
        simp [z, this, bI]
    · have e : PyData.tuple ((List.range N).map fun j => .int (bI (decide (j = i)))) = pD (uni N i) := by
        unfold pD
        rw [uni_rng hi, List.map_map]
        rfl
      have iu : ixD (.dict (tabK g (tup N))) (pD (uni N i)) = some (.int (bI (g (uni N i)))) := tab_ix (mem_tup (by unfold uni; rw [flip_len, zer_len]))
      rw [e]
      simp [iu, phi]
      cases g (zer N) <;> cases g (uni N i) <;> simp [bI]
      all_goals omega
  have hT : ((List.range N).filter (phi g N)).length ≤ 10 := by
    have := List.length_filter_le (phi g N) (List.range N)
    rw [List.length_range] at this
    omega
  have hm : ∀ i ∈ (List.range N).filter (phi g N), i < N := fun i hi => List.mem_range.mp (List.mem_filter.mp hi).1
  have lin := fun p => lin_par (φ := phi g N) (p := p) N
  have ad : affD g N = if ((tup N).filter fun p => g p != xor (g (zer N)) (Lw.lin (phi g N) N p)) = [] then .tuple [.int (bI (g (zer N))), natD ((List.range N).filter (phi g N))] else .none := by
    unfold affD
    have e : affB g N = true ↔ ((tup N).filter fun p => g p != xor (g (zer N)) (Lw.lin (phi g N) N p)) = [] := by
      unfold affB
      rw [List.all_eq_true, List.filter_eq_nil_iff]
      exact ⟨fun z p hp => by have := z p hp; simp at this; simp [this], fun z p hp => by have := z p hp; simp at this; simp [this]⟩
    by_cases z : affB g N = true
    · rw [if_pos z, if_pos (e.mp z)]
    · rw [if_neg z, if_neg fun y => z (e.mpr y)]
  unfold natD at ad
  rw [ad]
  simp
  refine ⟨by omega, ?_⟩
  generalize hTe : (List.range N).filter (phi g N) = T at *
  refine wp_mapSel (tup N) pD (fun p => g p != xor (g (zer N)) (Lw.lin (phi g N) N p)) pD is_seqL (by simp) (fun p hp => ret_of fun s => ?_) ?_
  · have hpl := tup_len hp
    simp [tab_ix (g := g) hp]
    refine wp_map1 T (fun i => .int (i : Int)) (fun i => .int (bI (p.getD i false))) is_seqL (by simp) (fun i hi => ?_) ?_
    · have hi := hm i hi
      have hi2 : i < p.length := by omega
      simp [ix_pD hi2, hi2]
    · have e : PyData.list (.int (bI (g (zer N))) :: T.map fun i => .int (bI (p.getD i false))) = .list (bD (g (zer N) :: T.map fun i => p.getD i false)) := by
        unfold bD
        rw [List.map_cons, List.map_map]
        rfl
      have x := f_law_xorL (wh := wh) (n := n + 1) (p := g (zer N) :: T.map fun i => p.getD i false) (by simp; omega)
      have pe : par (g (zer N) :: T.map fun i => p.getD i false) = xor (g (zer N)) (Lw.lin (phi g N) N p) := by
        show xor (g (zer N)) (par (T.map fun i => p.getD i false)) = _
        rw [lin]
      rw [pe] at x
      rw [← e] at x
      simp at x
      simp [x]
      refine ⟨by omega, by omega, ?_⟩
      generalize g p = u
      generalize (g (zer N) ^^ Lw.lin (phi g N) N p) = v
      cases u <;> cases v <;> simp [bI]
  · have fp := fit_pts (l := (tup N).filter fun p => g p != xor (g (zer N)) (Lw.lin (phi g N) N p)) (fun p hp => by rw [tup_len (List.mem_filter.mp hp).1]; exact h) (Nat.le_trans (List.length_filter_le _ _) hE)
    rw [ne_nilD (fit_shp fp (by decide))]
    have fl := List.length_filter_le (fun p => g p != xor (g (zer N)) (Lw.lin (phi g N) N p)) (tup N)
    refine ⟨by rw [List.length_map]; omega, ?_⟩
    by_cases z : (tup N).filter (fun p => g p != xor (g (zer N)) (Lw.lin (phi g N) N p)) = []
    · rw [z]
      simp
      intro p hp
      have := List.filter_eq_nil_iff.mp z p hp
      simpa using this
    · have z2 : (((tup N).filter (fun p => g p != xor (g (zer N)) (Lw.lin (phi g N) N p))).map pD).isEmpty = false := by
        cases y : (tup N).filter (fun p => g p != xor (g (zer N)) (Lw.lin (phi g N) N p)) with
        | nil => exact absurd y z
        | cons a l => rfl
      rw [z2]
      simp
      obtain ⟨p, hp⟩ := List.exists_mem_of_ne_nil _ z
      have hp := List.mem_filter.mp hp
      exact ⟨p, hp.1, by simpa using hp.2⟩)
end
end Lw

set_option Elab.async false
set_option linter.all false
set_option maxRecDepth 100000
set_option maxHeartbeats 800000
namespace Lw
open PySem PySem.Spec PyProof.Rows L2 Vm
theorem fit_natD {l : List Nat} (h : l.length ≤ 10) (g : ∀ i ∈ l, i < 1000) : Fit 1 410 (natD l) := (fit_list (fit_all (n := 0) (w := 40) fun d hd => by
  rw [List.mem_map] at hd
  obtain ⟨i, hi, rfl⟩ := hd
  have := g i hi
  exact fit_int (by rw [Int.natAbs_natCast]; omega))).mono (Nat.le_refl _) (by rw [List.length_map]; omega)
theorem rng_fil {N : Nat} {φ : Nat → Bool} (h : N ≤ 10) : ((List.range N).filter φ).length ≤ 10 ∧ ∀ i ∈ (List.range N).filter φ, i < 1000 := by
  refine ⟨Nat.le_trans (List.length_filter_le _ _) (by simpa using h), fun i hi => ?_⟩
  have := List.mem_range.mp (List.mem_filter.mp hi).1
  omega
theorem fit_pair {b : Bool} {l : List Nat} (h : l.length ≤ 10) (g : ∀ i ∈ l, i < 1000) : Fit 2 1000 (.tuple [.int (bI b), natD l]) :=
  (fit_tuple (fit_cons ((fit_int bI_small).mono (Nat.zero_le 1) (Nat.le_refl 40)) (fit_cons (fit_natD h g) (fit_nil (w := 0))))).mono (Nat.le_refl _) (by decide)
theorem fit_affD {g : List Bool → Bool} {N : Nat} (h : N ≤ 10) : Fit 2 1000 (affD g N) := by
  unfold affD
  split
  · exact fit_pair (rng_fil h).1 (rng_fil h).2
  · exact fit_none
theorem shS_none : ShS .none := fun c hc => by
  rw [PyData.shown_none] at hc
  exact sgn_ofString _ c hc
theorem shS_affD {g : List Bool → Bool} {N : Nat} : ShS (affD g N) := by
  unfold affD
  split
  · refine shS_tuple fun d hd => ?_
    simp only [List.mem_cons, List.not_mem_nil, or_false] at hd
    rcases hd with rfl | rfl
    · exact shS_int
    · refine shS_list fun d hd => ?_
      rw [List.mem_map] at hd
      obtain ⟨i, _, rfl⟩ := hd
      exact shS_int
  · exact shS_none
section
variable {wh n : Nat}
theorem f_law_right {ins : List (Str × Nat)} {coins : Nat} {ws : List Wi} {outs : List D} (w : Taken wh (cD ins coins (ws.map (wD (srcD ins coins))) outs)) (h : (ks ins).sum + coins ≤ 10) (h1 : 1 ≤ (ks ins).sum + coins) (hn : ins.length ≤ 100) (hw : ∀ i (hi : i < ws.length), WiOk ((ks ins).sum + coins) i ws[i]) (hl : ws.length ≤ 100) :
    evC Tb wh (n + 9) 33 [.v (cD ins coins (ws.map (wD (srcD ins coins))) outs)] = ret (.v (.bool true)) := ret_of fun s => wp_fn (fd := dn__law_right.fd) rfl rfl (by
  have la := fun a ha => f_law_affine (wh := wh) (n := n + 5) (ins := ins) (coins := coins) (ws := ws) (outs := outs) (a := a) h h1 hn hw hl ha
  have pa := fun a ha => f_affine (wh := wh) (n := n) (ins := ins) (coins := coins) (ws := ws) (outs := outs) (a := a) w h h1 hw hl ha
  simp [dn__law_right, Dn.fd, ix_c3, rngOf1 (m := ws.length) (by omega)]
  generalize cD ins coins (ws.map (wD (srcD ins coins))) outs = c at *
  refine wp_for (List.range ws.length) (fun i => .int (0 + (i : Int))) is_rng (by simp) (fun i e t => (∃ x y, e = [some (.v c), x, y]) ∧ t = s) ⟨⟨_, _, rfl⟩, rfl⟩ ?_ ?_
  · rintro i hi e t ⟨⟨x, y, rfl⟩, rfl⟩
    have hi : i < ws.length := by simpa using hi
    have fa := fit_affD (g := gw ws i) h
    obtain ⟨X, hX, hne⟩ := repr_same (ds := [affD (gw ws i) ((ks ins).sum + coins), affD (gw ws i) ((ks ins).sum + coins)])
      ((fit_list (fit_cons fa (fit_cons fa (fit_nil (w := 0))))).mono (by decide) (by decide))
      (fun d hd => by
        simp only [List.mem_cons, List.not_mem_nil, or_false] at hd
        rcases hd with rfl | rfl
        · exact shS_affD
        · exact shS_affD)
    simp [la i hi, pa i hi, hX, hne]
  · rintro e t ⟨⟨x, y, rfl⟩, rfl⟩
    simp)
end
end Lw

set_option Elab.async false
set_option linter.all false
set_option maxRecDepth 100000
set_option maxHeartbeats 1600000
namespace Lw
open PySem PySem.Spec PyProof.Rows L2 Vm
theorem wp_map0s {γ : Type} {s : Sto} (l : List γ) (c : γ → D) {src : Src} {n : Nat} {Q : List D → Sto → Prop} (hs : SrcIs src (l.map c)) (hn : n = l.length) {f : D → M (List D)} (h : ∀ x ∈ l, Vm.wp (f (c x)) s fun a t => t = s ∧ a = []) (q : Q [] s) : Vm.wp (mapS src f n 0) s Q := by
  refine wp_map (ds := l.map c) (by rw [List.length_map]; exact hn) (fun i acc t => t = s ∧ acc = []) (fun i acc t z => by rw [z.1]; exact hs.at) ⟨rfl, rfl⟩ ?_ ?_
  · rintro i hi acc t ⟨rfl, rfl⟩
    have hi : i < l.length := by rw [List.length_map] at hi; exact hi
    rw [List.getElem_map]
    refine wp_mono (h _ (List.getElem_mem hi)) ?_
    rintro a t ⟨rfl, rfl⟩
    exact ⟨rfl, rfl⟩
  · rintro acc t ⟨rfl, rfl⟩
    exact q
def toldD (N : Nat) (F : Af) : D := .tuple [.int (bI F.1), natD ((List.range N).filter F.2)]
theorem in_nat {l : List Nat} {k : Nat} (h : l.length ≤ 10) (g : ∀ i ∈ l, i < 1000) : cmpD .isin (.int (k : Int)) (natD l) = some (decide (k ∈ l)) := by
  have e1 : ∀ i es, cmpD .isin (.int i) (.list es) = if (shp (.int i) && shp (.list es)) = true then some (es.any fun z => PyData.eqv z (.int i)) else none := fun _ _ => rfl
  have fs := fit_shp (fit_natD h g) (by decide)
  unfold natD at fs ⊢
  rw [e1, shp_int, fs, if_pos (show (true && true) = true from rfl)]
  congr 1
  rw [List.any_map]
  have : (fun z => PyData.eqv z (PyData.int (k : Int))) ∘ (fun i : Nat => PyData.int (i : Int)) = fun i : Nat => decide (i = k) := by
    funext i
    show PyData.eqv (.int (i : Int)) (.int (k : Int)) = _
    rw [eqv_int]
    by_cases z : i = k
    · simp [z]
    · simp [z]
      omega
  rw [this]
  by_cases z : k ∈ l
  · rw [decide_eq_true z, List.any_eq_true]
    exact ⟨k, z, by simp⟩
  · rw [decide_eq_false z, List.any_eq_false]
    intro i hi
    simp
    intro y
    exact z (y ▸ hi)
theorem in_fil {N k : Nat} {φ : Nat → Bool} (hN : N ≤ 10) (h : k < N) : cmpD .isin (.int (k : Int)) (natD ((List.range N).filter φ)) = some (φ k) := by
  rw [in_nat (rng_fil hN).1 (rng_fil hN).2]
  congr 1
  cases y : φ k
  · exact decide_eq_false fun z => by
      have := (List.mem_filter.mp z).2
      rw [y] at this
      cases this
  · exact decide_eq_true (List.mem_filter.mpr ⟨List.mem_range.mpr h, y⟩)
theorem cmp_ne_bool {a b : Bool} : cmpD .ne (.bool a) (.bool b) = some (a != b) := by
  cases a <;> cases b <;> kernel_rfl
theorem wire_of {ins : List (Str × Nat)} {coins i : Nat} : ∀ {w : Wi}, WiOk ((ks ins).sum + coins) i w → WireOk ins coins i (wD (srcD ins coins) w)
  | .src m, h => by
    have hm : m < (srcD ins coins).length := by rw [srcD_len]; exact h
    refine wire_src ?_ i
    show (srcD ins coins).getD m .none ∈ _
    have : (srcD ins coins).getD m .none = (srcD ins coins)[m] := by simp [hm]
    rw [this]
    exact List.getElem_mem hm
  | .nt x, h => .un "not" (.inl rfl) x h
  | .rg x, h => .un "reg" (.inr rfl) x h
  | .xr x y, h => .bi "xor" (.inl rfl) x y h.1 h.2
  | .an x y, h => .bi "and" (.inr rfl) x y h.1 h.2
theorem src_head {ins : List (Str × Nat)} {coins m : Nat} (h : m < (ks ins).sum + coins) : ∃ z : String, (z = "share" ∨ z = "coin") ∧ ixD (wD (srcD ins coins) (.src m)) (.int 0) = some (.str (Str.ofString z)) := by
  have hm : m < (srcD ins coins).length := by rw [srcD_len]; exact h
  have e : wD (srcD ins coins) (.src m) = (srcD ins coins)[m] := by
    show (srcD ins coins).getD m .none = _
    simp [hm]
  rw [e]
  have := List.getElem_mem hm
  generalize (srcD ins coins)[m] = d at this
  unfold srcD at this
  rw [List.mem_append, List.mem_map, List.mem_map] at this
  rcases this with ⟨⟨a, b⟩, _, rfl⟩ | ⟨a, _, rfl⟩
  · exact ⟨"share", .inl rfl, rfl⟩
  · exact ⟨"coin", .inr rfl, rfl⟩
theorem ci_late {ins : List (Str × Nat)} {coins : Nat} {wires : List D} {outs : List (Str × List Nat)} (k : CiOk ins coins wires outs) {ws : List Wi} (h1 : 1 ≤ ws.length) (h32 : ws.length ≤ 32) (hw : ∀ i (hi : i < ws.length), WiOk ((ks ins).sum + coins) i ws[i]) : CiOk ins coins (ws.map (wD (srcD ins coins))) [] :=
  ⟨k.l1, k.l3, k.ws, k.k1, k.k4, k.nd, k.c8, k.s10, by simpa using h1, by simpa using h32, fun i hi => by
    rw [List.getElem_map]
    exact wire_of (hw i (by simpa using hi)), by simp, by simp, by simp, by simp, by simp, by simp, by simp⟩
theorem sl3 {ins coins wires outs} : slD (cD ins coins wires outs) none (some 3) = some (.v (.tuple [.str "circuit", .tuple (ins.map inD), .int (coins : Int)])) := (rfl)
section
variable {wh n : Nat}
theorem f_law_sums {ins : List (Str × Nat)} {coins j : Nat} {ws : List Wi} {outs : List D} (w : Taken wh (cD ins coins ((ws.map noA).map (wD (srcD ins coins))) [])) (h : (ks ins).sum + coins ≤ 10) (h1 : 1 ≤ (ks ins).sum + coins) (hn : ins.length ≤ 100) (hw : ∀ i (hi : i < ws.length), WiOk ((ks ins).sum + coins) i ws[i]) (hl : ws.length ≤ 100) :
    evC Tb wh (n + 9) 34 [.p j, .v (cD ins coins (ws.map (wD (srcD ins coins))) outs)] = ret (.v (.bool true)) := ret_of fun s => wp_fn (fd := dn__law_sums_right.fd) rfl rfl (by
  have c1 : cmpD .ne (.str "not") (.str "and") = some true := by kernel_rfl
  have c2 : cmpD .ne (.str "reg") (.str "and") = some true := by kernel_rfl
  have c3 : cmpD .ne (.str "xor") (.str "and") = some true := by kernel_rfl
  have c4 : cmpD .ne (.str "and") (.str "and") = some false := by kernel_rfl
  have c5 : cmpD .ne (.str (Str.ofString "share")) (.str "and") = some true := by kernel_rfl
  have c6 : cmpD .ne (.str (Str.ofString "coin")) (.str "and") = some true := by kernel_rfl
  have c7 : cmpD .eq (.str "not") (.str "xor") = some false := by kernel_rfl
  have c8 : cmpD .eq (.str "reg") (.str "xor") = some false := by kernel_rfl
  have c9 : cmpD .eq (.str "xor") (.str "xor") = some true := by kernel_rfl
  have d1 : cmpD .eq (.str "not") (.str "not") = some true := by kernel_rfl
  have d2 : cmpD .eq (.str "reg") (.str "not") = some false := by kernel_rfl
  have pa := fun a ha => f_affine (wh := wh) (n := n) (ins := ins) (coins := coins) (ws := ws.map noA) (outs := []) (a := a) w h h1 (fun i hi => by
    rw [List.getElem_map]
    exact noA_ok (hw i (by simpa using hi))) (by simpa using hl) ha
  simp [dn__law_sums_right, Dn.fd, f_law_sources (ins := ins) (coins := coins) (wires := ws.map (wD (srcD ins coins))) (outs := outs) (by omega) (by omega) (by omega), ix_c3]
  refine wp_map1 ws (wD (srcD ins coins)) (fun w => wD (srcD ins coins) (noA w)) is_seqT (by simp) (fun w hwm => ?_) ?_
  · obtain ⟨i, hi, rfl⟩ := List.getElem_of_mem hwm
    have wo := hw i hi
    generalize ws[i] = w at wo
    cases w with
    | src m =>
      obtain ⟨z, hz, e⟩ := src_head (ins := ins) (coins := coins) wo
      rcases hz with rfl | rfl
      · simp [e, c5, noA]
      · simp [e, c6, noA]
    | nt x => simp [wD, c1, noA]
    | rg x => simp [wD, c2, noA]
    | xr x y => simp [wD, c3, noA]
    | an x y => simp [wD, c4, noA, cut2]
  have em : (ws.map fun w => wD (srcD ins coins) (noA w)) = (ws.map noA).map (wD (srcD ins coins)) := by rw [List.map_map]; rfl
  have el : ws.length = (ws.map noA).length := by rw [List.length_map]
  have hw' : ∀ i (hi : i < (ws.map noA).length), WiOk ((ks ins).sum + coins) i (ws.map noA)[i] := fun i hi => by
    rw [List.getElem_map]
    exact noA_ok (hw i (by simpa using hi))
  have hn' : ∀ w ∈ ws.map noA, noAn w := fun w hwm => by
    rw [List.mem_map] at hwm
    obtain ⟨v, _, rfl⟩ := hwm
    exact noAn_of v
  have hl' : (ws.map noA).length ≤ 100 := by rw [← el]; exact hl
  rw [em]
  have sc := sl3 (ins := ins) (coins := coins) (wires := ws.map (wD (srcD ins coins))) (outs := outs)
  generalize cD ins coins (ws.map (wD (srcD ins coins))) outs = cc at sc ⊢
  clear hw em el hl
  generalize ws.map noA = us at *
  have e0 : PyData.tuple [.str "circuit", .tuple (ins.map inD), .int (coins : Int), .tuple (us.map (wD (srcD ins coins))), .tuple []] = cD ins coins (us.map (wD (srcD ins coins))) [] := rfl
  have av := fun (p : List Bool) (hp : p.length = (ks ins).sum + coins) => afs_vals hp hw' hn' us.length (Nat.le_refl _)
  rw [List.take_length] at av
  have sl := srcD_len (ins := ins) (coins := coins)
  have sli : ((srcD ins coins).length : Int) = (((ks ins).sum + coins : Nat) : Int) := by rw [sl]
  have inS := fun i w (h : WiOk ((ks ins).sum + coins) i w) => in_srcs h
  have ixS := fun m (h : m < (ks ins).sum + coins) => ix_srcs h
  have lx : ∀ a b, evC Tb wh (n + 8) 30 [.v (.list [.int (bI a), .int (bI b)])] = ret (.v (.int (bI (xor a b)))) := fun a b => by
    have := f_law_xorL (wh := wh) (n := n + 7) (p := [a, b]) (by simp)
    have e : par [a, b] = xor a b := by cases a <;> cases b <;> rfl
    rw [e] at this
    exact this
  have bl : ∀ l, biList [natD l] = some (.n (natD l)) := fun l => (rfl)
  simp [sc]
  refine ⟨by omega, ?_⟩
  rw [e0]
  generalize hlt : cD ins coins (us.map (wD (srcD ins coins))) [] = late at *
  generalize hN : (ks ins).sum + coins = N at *
  refine wp_for us (wD (srcD ins coins)) is_seqL (by simp) (fun i e t => (∃ x1 x2 x3 z1 z2 z3, e = [some (.p j), some (.v cc), some (.v (.list (us.map (wD (srcD ins coins))))), some (.v late), x1, some (.v (.list (srcD ins coins))), some (.p s.length), x2, x3, z1, z2, z3]) ∧ t = s ++ [.fl (.list ((afs (us.take i) []).map (toldD N)))]) ⟨⟨_, _, _, _, _, _, rfl⟩, rfl⟩ ?_ ?_
  · rintro i hi e t ⟨⟨x1, x2, x3, z1, z2, z3, rfl⟩, rfl⟩
    have hf : (afs (us.take i) []).length = i := by rw [afs_len]; simp; omega
    have wo := hw' i hi
    have no := hn' us[i] (List.getElem_mem hi)
    have nx : (afs (us.take (i + 1)) []).map (toldD N) = (afs (us.take i) []).map (toldD N) ++ [toldD N (af (afs (us.take i) []) us[i])] := by
      rw [afs_take hi, List.map_append]
      rfl
    rw [nx]
    generalize afs (us.take i) [] = F at hf
    have tg : ∀ x, x < i → (F.map (toldD N))[x]? = some (toldD N (F.getD x af0)) := fun x hx => by
      rw [List.getElem?_map, List.getElem?_eq_getElem (by omega), List.getD_eq_getElem?_getD, List.getElem?_eq_getElem (by omega)]
      rfl
    have lF : (F.map (toldD N)).length ≤ 100 := by rw [List.length_map]; omega
    generalize hwi : us[i] = w at wo no
    have g1 := inS i w wo
    cases w with
    | src m =>
      have g2 := ixS m wo
      simp only [isSrc] at g1
      simp [g1, g2]
      refine ⟨by omega, ?_⟩
      unfold toldD af natD
      rw [filter_one (show m < N from wo)]
      rfl
    | nt x =>
      simp only [isSrc, wD] at g1
      simp [g1, wD, c7, d1, w_atI, tg x wo, toldD, bl]
      refine ⟨by omega, ?_⟩
      simp [af]
      generalize (F[x]?.getD af0).1 = b
      cases b <;> rfl
    | rg x =>
      simp only [isSrc, wD] at g1
      simp [g1, wD, c8, d2, w_atI, tg x wo, toldD, bl]
      refine ⟨by omega, ?_⟩
      simp [af]
    | xr x y =>
      simp only [isSrc, wD] at g1
      simp [g1, wD, c9, w_atI, tg x wo.1, tg y wo.2, toldD, lx, sl, rngOf1 (m := N) (by omega)]
      refine wp_mapSel (List.range N) (fun i => .int (0 + (i : Int))) (af F (.xr x y)).2 (fun i => .int (i : Int)) is_rng (by simp) (fun k hk => ?_) ?_
      · have hk := List.mem_range.mp hk
        have r1 := in_fil (φ := (F[x]?.getD af0).2) h hk
        have r2 := in_fil (φ := (F[y]?.getD af0).2) h hk
        simp [r1, r2, cmp_ne_bool, af]
        split <;> rfl
      · have fl := List.length_filter_le (af F (.xr x y)).2 (List.range N)
        simp at fl
        simp
        refine ⟨by omega, by omega, ?_⟩
        simp [af, natD]
    | an x y => exact absurd no (fun h => h)
  · rintro e t ⟨⟨x1, x2, x3, z1, z2, z3, rfl⟩, rfl⟩
    rw [List.take_length]
    simp [rngOf1 (m := us.length) (by omega)]
    refine wp_map0s (List.range us.length) (fun i => .int (0 + (i : Int))) is_rng (by simp) (fun a ha => ?_) ?_
    · have ha := List.mem_range.mp ha
      have lA : (afs us []).length = us.length := by rw [afs_len]; simp
      have tA : ((afs us []).map (toldD N))[a]? = some (toldD N ((afs us []).getD a af0)) := by
        rw [List.getElem?_map, List.getElem?_eq_getElem (by omega), List.getD_eq_getElem?_getD, List.getElem?_eq_getElem (by omega)]
        rfl
      have av := fun p hp => av p hp a ha
      generalize (afs us []).getD a af0 = A at tA av
      have eq : affD (gw us a) N = toldD N A := by
        obtain ⟨a1, a2, a3⟩ := aff_of (g := gw us a) (n := N) (c := A.1) (φ := A.2) av
        unfold affD toldD
        rw [if_pos (affB_iff.mpr a1), a2, List.filter_congr fun k hk => a3 k (List.mem_range.mp hk)]
      have ft : Fit 2 1000 (toldD N A) := fit_pair (rng_fil h).1 (rng_fil h).2
      have cn : cmpD .ne (toldD N A) (toldD N A) = some false := by
        rw [cmp_ne_of (fit_shp ft (by decide)) (fit_shp ft (by decide)), eqv_self ft]
        rfl
      simp [pa a ha, eq, w_atI, tA, cn]
    · have ce : cmpD .eq (.list []) (.list []) = some true := by kernel_rfl
      simp [ce])
end
end Lw

set_option Elab.async false
set_option linter.all false
set_option maxRecDepth 100000
set_option maxHeartbeats 1600000
namespace Lw
open PySem PySem.Spec PyProof.Rows L2 Vm
def WH : Nat := 1000
def lateW (ws : List Wi) (o : Nat) : List Wi := ws ++ [.nt o, .an o ws.length, .nt (ws.length + 1), .an o (ws.length + 2)]
theorem lateW_ok {N : Nat} {ws : List Wi} {o : Nat} (h : o < ws.length) (hw : ∀ i (hi : i < ws.length), WiOk N i ws[i]) : ∀ i (hi : i < (lateW ws o).length), WiOk N i (lateW ws o)[i] := by
  intro i hi
  unfold lateW at hi ⊢
  by_cases z : i < ws.length
  · rw [List.getElem_append_left z]
    exact hw i z
  · rw [List.getElem_append_right (by omega)]
    rw [List.length_append] at hi
    have hi : i < ws.length + 4 := hi
    have : i = ws.length ∨ i = ws.length + 1 ∨ i = ws.length + 2 ∨ i = ws.length + 3 := by omega
    rcases this with e | e | e | e
    · simp only [e, Nat.sub_self]
      exact h
    · simp only [e, Nat.add_sub_cancel_left]
      exact ⟨by omega, by omega⟩
    · simp only [e, Nat.add_sub_cancel_left]
      exact (by omega : ws.length + 1 < ws.length + 2)
    · simp only [e, Nat.add_sub_cancel_left]
      exact ⟨by omega, by omega⟩
theorem affD_const {b : Bool} {N : Nat} : affD (fun _ => b) N = .tuple [.int (bI b), .list []] := by
  have ph : ∀ k, phi (fun _ => b) N k = false := fun k => by
    unfold phi
    simp
  have e : affB (fun _ => b) N = true := affB_iff.mpr (aff_of (c := b) (φ := fun _ => false) fun p _ => by
    have : ∀ k, lin (fun _ => false) k p = false := by
      intro k
      induction k with
      | zero => rfl
      | succ k ih =>
        show xor (lin _ k p) (false && _) = false
        rw [ih]
        rfl
    rw [this]
    simp).1
  unfold affD natD
  rw [if_pos e, List.filter_eq_nil_iff.mpr (fun k _ => by simp [ph])]
  rfl
theorem law_true {wh n : Nat} {is : List Int} {st : Sto} : Vm.wp (evC Tb wh (n + 10) 35 [.g (.list (is.map .int))]) st fun r s' => r = .v (.bool true) ∧ s' = st := wp_fn (fd := dn_law.fd) rfl rfl (by
  show Vm.wp (evSs _ dn_law.code [some (.g (.list (is.map .int))), none, none, none, none, none, none]) _ _
  obtain ⟨a, b, ha, hb, hp⟩ := f_law_pot (wh := wh) (n := n + 8) (is := is)
  have hj : st.length < (st ++ [Ob.dead]).length := by simp
  have fin : ∀ (a b : Int) (t : Sto), List.take st.length (PS (st ++ [Ob.dead]) st.length a b ++ t) = st := fun a b t => by
    unfold PS
    rw [st_set0 rfl, List.append_assoc]
    exact List.take_left
  have fin0 : ∀ (a b : Int), List.take st.length (PS (st ++ [Ob.dead]) st.length a b) = st := fun a b => by
    have := fin a b []
    rw [List.append_nil] at this
    exact this
  refine wp_cut (fun e s => ∃ a b, (0 ≤ a ∧ 0 ≤ b) ∧ e = [some (.g (.list (is.map .int))), some (.p st.length), none, none, none, none, none] ∧ s = PS (st ++ [Ob.dead]) st.length a b) ?_ ?_
  · simp [hp]
    refine ⟨a, b, ⟨ha, hb⟩, ?_⟩
    unfold PS
    rw [st_set0 rfl]
    rfl
  clear ha hb a b hp
  rintro e s ⟨a, b, ⟨ha, hb⟩, rfl, rfl⟩
  refine wp_cut (fun e s => ∃ a b, (0 ≤ a ∧ 0 ≤ b) ∧ ∃ x1 x2 x3 x4 x5, e = [some (.g (.list (is.map .int))), some (.p st.length), x1, x2, x3, x4, x5] ∧ s = PS (st ++ [Ob.dead]) st.length a b) ?_ ?_
  · simp [rngOf_lit3]
    refine wp_for (List.range 3) (fun i => .int (0 + (i : Int))) is_rng (by simp) (fun i e s => ∃ a b, (0 ≤ a ∧ 0 ≤ b) ∧ ∃ x1 x2 x3 x4 x5, e = [some (.g (.list (is.map .int))), some (.p st.length), x1, x2, x3, x4, x5] ∧ s = PS (st ++ [Ob.dead]) st.length a b) ⟨a, b, ⟨ha, hb⟩, _, _, _, _, _, rfl, rfl⟩ ?_ ?_
    · clear ha hb a b
      rintro i hi e s ⟨a, b, ⟨ha, hb⟩, x1, x2, x3, x4, x5, rfl, rfl⟩
      simp
      refine f_law_circuit (n := n + 6) hj ha hb fun ins coins wires outs a b hi hk h15 ha hb => ?_
      obtain ⟨ws, rfl, hw⟩ := typed hk.wk
      rw [List.length_map] at h15
      have hs := hi.sum
      have hl := hi.len
      have w1 := hk.w1
      rw [List.length_map] at w1
      have lr := f_law_right (wh := wh) (n := n) (ins := ins) (coins := coins) (ws := ws) (outs := outs.map outD) (taken hk) hk.s10 (by omega) (by omega) hw (by omega)
      have ls := f_law_sums (wh := wh) (n := n) (ins := ins) (coins := coins) (j := st.length) (ws := ws) (outs := outs.map outD) (taken (outs := []) (ci_late hk (ws := ws.map noA) (by simpa using w1) (by simp; omega) (fun i hi => by
        rw [List.getElem_map]
        exact noA_ok (hw i (by simpa using hi))))) hk.s10 (by omega) (by omega) hw (by omega)
      have sc := sl3 (ins := ins) (coins := coins) (wires := ws.map (wD (srcD ins coins))) (outs := outs.map outD)
      have i3 := ix_c3 (ins := ins) (coins := coins) (wires := ws.map (wD (srcD ins coins))) (outs := outs.map outD)
      generalize cD ins coins (ws.map (wD (srcD ins coins))) (outs.map outD) = c at *
      simp [lr, ls, i3]
      refine f_draw' (size := ws.length) hj ha hb (by omega) (by omega) fun o a b ho ha hb => ?_
      simp [i3, sc]
      refine ⟨by omega, ?_⟩
      have eL : PyData.tuple [.str "circuit", .tuple (ins.map inD), .int (coins : Int), .tuple (ws.map (wD (srcD ins coins)) ++ [.tuple [.str "not", .int (o : Int)], .tuple [.str "and", .int (o : Int), .int (ws.length : Int)], .tuple [.str "not", .int ((ws.length : Int) + 1)], .tuple [.str "and", .int (o : Int), .int ((ws.length : Int) + 2)]]), .tuple []] = cD ins coins ((lateW ws o).map (wD (srcD ins coins))) [] := by
        unfold lateW cD
        rw [List.map_append]
        rfl
      rw [eL]
      have ll : (lateW ws o).length = ws.length + 4 := by
        unfold lateW
        rw [List.length_append]
        rfl
      have tk : Taken wh (cD ins coins ((lateW ws o).map (wD (srcD ins coins))) []) := taken (outs := []) (ci_late hk (by omega) (by omega) (lateW_ok ho hw))
      have fa := fun x hx => f_affine (wh := wh) (n := n + 1) (ins := ins) (coins := coins) (ws := lateW ws o) (outs := []) (a := x) tk hk.s10 (by omega) (lateW_ok ho hw) (by omega) hx
      have g1 : gw (lateW ws o) (ws.length + 1) = fun _ => false := funext fun p => (vals_late ho).1
      have g2 : gw (lateW ws o) (ws.length + 2) = fun _ => true := funext fun p => (vals_late ho).2.1
      have g3 : gw (lateW ws o) (ws.length + 3) = gw (lateW ws o) o := funext fun p => (vals_late ho).2.2
      have f1 := fa (ws.length + 1) (by omega)
      have f2 := fa (ws.length + 2) (by omega)
      have f3 := fa (ws.length + 3) (by omega)
      have f4 := fa o (by omega)
      rw [g1, affD_const] at f1
      rw [g2, affD_const] at f2
      rw [g3] at f3
      generalize cD ins coins ((lateW ws o).map (wD (srcD ins coins))) [] = late at *
      have ft : Fit 2 1000 (affD (gw (lateW ws o) o) ((ks ins).sum + coins)) := fit_affD hk.s10
      have cn : cmpD .ne (affD (gw (lateW ws o) o) ((ks ins).sum + coins)) (affD (gw (lateW ws o) o) ((ks ins).sum + coins)) = some false := by
        rw [cmp_ne_of (fit_shp ft (by decide)) (fit_shp ft (by decide)), eqv_self ft]
        rfl
      have k1 : cmpD .ne (.tuple [.int (bI false), .list []]) (.tuple [.int 0, .list []]) = some false := by kernel_rfl
      have k2 : cmpD .ne (.tuple [.int (bI true), .list []]) (.tuple [.int 1, .list []]) = some false := by kernel_rfl
      have e1 : ((ws.length + 1 : Nat) : Int) = (ws.length : Int) + 1 := rfl
      have e2 : ((ws.length + 2 : Nat) : Int) = (ws.length : Int) + 2 := rfl
      have e3 : ((ws.length + 3 : Nat) : Int) = (ws.length : Int) + 3 := rfl
      rw [e1] at f1
      rw [e2] at f2
      rw [e3] at f3
      simp [f1, f2, f3, f4, cn, k1, k2]
      exact ⟨a, b, ⟨ha, hb⟩, rfl⟩
    · clear ha hb a b
      rintro e s ⟨a, b, ⟨ha, hb⟩, x1, x2, x3, x4, x5, rfl, rfl⟩
      simp
      exact ⟨a, b, ⟨ha, hb⟩, rfl⟩
  clear ha hb a b
  rintro e s ⟨a, b, ⟨ha, hb⟩, x1, x2, x3, x4, x5, rfl, rfl⟩
  simp [fin0])
theorem run_law (is : List Int) (h : is.length ≤ (PySem.Challenge.rw_maskedwires_k13_whole_affine_wires.most.getD 0)) (st : Sto) : evC (tb.map Dn.fd) WH 30 35 [.g (.list (is.map .int))] st = .ok (.v (.bool true)) st := by
  obtain ⟨r, s', e, rfl, rfl⟩ := law_true (wh := WH) (n := 20) (is := is) (st := st)
  exact e
end Lw

set_option Elab.async false
set_option linter.all false
set_option maxRecDepth 100000
set_option maxHeartbeats 0
namespace Lw
open PySem PySem.Spec PyProof.Rows L2 Vm
def lo : List Str := (["WireError", "InvalidCircuit", "InvalidWire", "MOST_WORD", "SIGNS", "is_integer", "is_count", "is_row", "is_word", "is_below", "CIRCUIT", "SHARE", "COIN", "NOT", "REG", "XOR", "AND", "MOST_INPUTS", "MOST_SHARES", "MOST_COINS", "MOST_SOURCES", "MOST_WIRES", "MOST_OUTS", "are_inputs", "is_wire_of", "is_out_of", "are_outs", "is_circuit_of", "shares_of", "sources_of"] : List Str) ++ (["want_circuit", "want_wire", "tuples_of", "points_of", "twos", "value_by", "values_at_of", "values_of", "flip_of", "affine_of", "affine", "_law_pot", "_law_draw", "_law_pick", "_law_sources", "_law_tuples", "_law_points", "_law_values", "_law_xor", "_law_circuit", "_law_affine", "_law_right", "_law_sums_right"] : List Str)
abbrev R : PySem.W.OpenRow := PySem.W.OpenLaw.row PySem.Challenge.rw_maskedwires_k13_whole_affine_wires
abbrev hk : PySem.W.Hook := He.hookD 4 (faD tb cls free cInts cStrs) (fnD tb)
def ob (s : PySem.W.SharedT) : He.AlD := He.obsDG 4 (faD tb cls free cInts cStrs) (fnD tb) (HandSHeadRun.getT s)
theorem ob_eq (s : PySem.W.SharedT) : ob s = hk.obs s.abs := He.obsDG_eq (HandSHeadRun.getT_eq s)
theorem run (w : World) : HandSHeadRun.RunEq R (PySem.W.view R.prog [58]) hk ob 4000 lo w := by
  intro os
  kernel_rfl
theorem walk (wh k : Nat) (room : Room k callerA) (h : ∀ ns : List Int, ns.length ≤ (PySem.Challenge.rw_maskedwires_k13_whole_affine_wires.most.getD 0) → ∀ st, evC (tb.map Dn.fd) wh k 35 [.g (.list (ns.map .int))] st = .ok (.v (.bool true)) st) :
    PySem.W.WalkO (PySem.W.view R.prog [58]) lo (PySem.W.XL (PySem.W.view R.prog [58]) []) hk.says R.toRowW (HandSHeadRun.topDef R.prog 58) [] (fun f vs => PySem.call f vs) :=
  walk_vm (l := PySem.Challenge.rw_maskedwires_k13_whole_affine_wires) (n := PySem.Challenge.rw_maskedwires_k13_whole_affine_wires.most.getD 0) (dL := dn_law) (x := "script") rfl (by decide +kernel) rfl room ok_all rfl (by decide +kernel) rfl (by decide +kernel) h
end Lw
open PySem PySem.W PySem.Calls PyProof.Rows
theorem PySem.Challenge.cw_maskedwires_k13_whole_affine_wires_holds : PySem.Challenge.rw_maskedwires_k13_whole_affine_wires.Holds := by
  w_on; o_law
  refine HandSHeadRun.head_any (r := OpenLaw.row PySem.Challenge.rw_maskedwires_k13_whole_affine_wires) (q := view (OpenLaw.row PySem.Challenge.rw_maskedwires_k13_whole_affine_wires).prog [58]) (H := Lw.hk) (ob := Lw.ob) (M := 4000) (loose := Lw.lo) (d := HandSHeadRun.topDef (OpenLaw.row PySem.Challenge.rw_maskedwires_k13_whole_affine_wires).prog 58) (kwd := []) Lw.ob_eq
    (by kernel_rfl) (fun s => by kernel_rfl) Lw.run (by kernel_rfl) (by kernel_rfl) (by kernel_rfl) (by rfl) (by first | assumption | decide +kernel) (by decide +kernel) ⟨rfl, rfl, rfl, rfl, rfl, by decide +kernel⟩ ?hw ?hc
  case hw => w_witness2
  case hc => exact Lw.walk Lw.WH 30 ⟨rfl, by decide +kernel, by decide +kernel⟩ Lw.run_law
