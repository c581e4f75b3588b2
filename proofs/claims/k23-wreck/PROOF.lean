import PyProof.Rows.All
import Wide.All
import OpenK.AllK
import Wide.FinOn
import HandS.ForMost
import HandS.TupAny
import HandS.TupMul
import HandS.WordsExc
import HandS.ExcInit
import HandS.CallSlots
import KE.SortData
import KE.DataFind
import KE.DataIsa
import KE.DataAny
import KE.DatumIndex
import KE.KDictKeyed
import HandS.Wide
import HandS.Style
import HandS.Zip
import HandS.Conv
import HandS.TryOnly
import KE.DataMinMax
import KE.DataEq
import PyProof.SeqIndex
import KE.KTupSum
import KE.KDictPairs
import HandS.TupLen
import KE.KDictDisplayH
import HandS.Dict
import PySem.Challenge.RW_tidestold_k23_whole_looking_for_a_wreck
set_option Elab.async false
set_option linter.all false
set_option autoImplicit false
set_option maxRecDepth 100000
set_option maxHeartbeats 0
/-! A typed layer over the hand layer: values as data, judgements that carry a typed mirror. -/
namespace TT
open PySem PySem.Spec PyProof.Rows L2

/-! ### data held by a value -/
/-- a list that nobody writes any more -/
def FzL (K : PySem.W.Frag) (H : Hp) (a : Addr) (vs : List V) : Prop := ∃ o, H a = some (.frz o (.lst vs))
theorem FzL.sq {K : PySem.W.Frag} {H : Hp} {a : Addr} {vs : List V} (h : FzL K H a vs) : SqL K H a vs := .inl (.inr h)
/-! a key as data -/
mutual
def nkOf : PyData → Option NestedKey
  | .none => some .none
  | .bool b => some (.num (if b = true then 1 else 0))
  | .int i => some (.num i)
  | .str x => some (.text x)
  | .tuple xs => (nksOf xs).map .tup
  | .list _ => none
  | .dict _ => none
def nksOf : List PyData → Option (List NestedKey)
  | [] => some []
  | x :: xs => match nkOf x, nksOf xs with
    | some k, some ks => some (k :: ks)
    | _, _ => none
end
/-- a dict's object, entry by entry -/
def DObj (w : World) (o : Obj) (ents : List (NestedKey × V × V)) : Prop :=
  o.ExactDict ∧ (∃ es n, o.data = .dict es n ∧ Paired (fun (e : DictEntry) (x : NestedKey × V × V) => e.hash = x.1.hash w ∧ RelV x.2.1 e.key ∧ RelV x.2.2 e.val) es.toList ents) ∧ (ents.map (·.1)).Nodup

/-- a dict that may be written: its object -/
def DN (a : Addr) (o : Obj) : HO := .ext fun h => h.get? a = some o

mutual
inductive Rep (K : PySem.W.Frag) (w : World) (H : Hp) : V → PyData → Prop
  | non : Rep K w H .non .none
  | bl (b : Bool) : Rep K w H (.bl b) (.bool b)
  | int (i : Int) : Rep K w H (.int i) (.int i)
  | str (x : Str) : Rep K w H (.str x) (.str x)
  | tup {a vs ds} : SqT K H a vs → Reps K w H vs ds → Rep K w H (.ref a) (.tuple ds)
  | lst {a vs ds} : FzL K H a vs → Reps K w H vs ds → Rep K w H (.ref a) (.list ds)
  | dct {a o u ents kvs} : H a = some (.frz o u) → (a == sysModules) = false → DObj w o ents → ents.length ≤ sizeLine → kvs.map (fun p => nkOf p.1) = ents.map (fun x => some x.1) →
      Reps K w H (ents.map (fun x => x.2.1)) (kvs.map (·.1)) → Reps K w H (ents.map (fun x => x.2.2)) (kvs.map (·.2)) → Rep K w H (.ref a) (.dict kvs)
inductive Reps (K : PySem.W.Frag) (w : World) (H : Hp) : List V → List PyData → Prop
  | nil : Reps K w H [] []
  | cons {v d vs ds} : Rep K w H v d → Reps K w H vs ds → Reps K w H (v :: vs) (d :: ds)
end

/-- what stands for good: tuples and what is locked -/
def Firm : HO → Prop
  | .tup _ => True
  | .frz _ _ => True
  | _ => False
/-- a heap's firm things are in another one -/
def Firms (H H' : Hp) : Prop := ∀ b o, H b = some o → Firm o → H' b = some o
theorem SqT.firm {K : PySem.W.Frag} {H H' : Hp} {a : Addr} {vs : List V} (f : Firms H H') (h : SqT K H a vs) : SqT K H' a vs := by
  rcases h with (h | ⟨o, h⟩) | h
  · exact .inl (.inl (f _ _ h trivial))
  · exact .inl (.inr ⟨o, f _ _ h trivial⟩)
  · exact .inr h
theorem FzL.firm {K : PySem.W.Frag} {H H' : Hp} {a : Addr} {vs : List V} (f : Firms H H') (h : FzL K H a vs) : FzL K H' a vs := by
  obtain ⟨o, h⟩ := h
  exact ⟨o, f _ _ h trivial⟩
section
variable {K : PySem.W.Frag} {w : World} {H H' : Hp}
mutual
theorem Rep.firm (f : Firms H H') : ∀ {v d}, Rep K w H v d → Rep K w H' v d
  | _, _, .non => .non
  | _, _, .bl b => .bl b
  | _, _, .int i => .int i
  | _, _, .str x => .str x
  | _, _, .tup h r => .tup (SqT.firm f h) (Reps.firm f r)
  | _, _, .lst h r => .lst (FzL.firm f h) (Reps.firm f r)
  | _, _, .dct h h1 h2 hz h3 r1 r2 => .dct (f _ _ h trivial) h1 h2 hz h3 (Reps.firm f r1) (Reps.firm f r2)
theorem Reps.firm (f : Firms H H') : ∀ {vs ds}, Reps K w H vs ds → Reps K w H' vs ds
  | _, _, .nil => .nil
  | _, _, .cons r t => .cons (Rep.firm f r) (Reps.firm f t)
end
theorem Reps.length : ∀ {vs ds}, Reps K w H vs ds → vs.length = ds.length
  | _, _, .nil => rfl
  | _, _, .cons _ t => by rw [List.length_cons, List.length_cons, Reps.length t]
theorem Reps.get : ∀ {vs ds} {i : Nat} {d : PyData}, Reps K w H vs ds → ds[i]? = some d → ∃ v, vs[i]? = some v ∧ Rep K w H v d
  | _, _, _, _, .nil, e => by simp at e
  | _, _, 0, _, .cons r _, e => by simp at e; subst e; exact ⟨_, rfl, r⟩
  | _, _, i + 1, _, .cons _ t, e => by
    obtain ⟨v, h1, h2⟩ := Reps.get (i := i) t (by simpa using e)
    exact ⟨v, by simpa using h1, h2⟩
theorem Reps.getV : ∀ {vs ds} {i : Nat} {v : V}, Reps K w H vs ds → vs[i]? = some v → ∃ d, ds[i]? = some d ∧ Rep K w H v d
  | _, _, _, _, .nil, e => by simp at e
  | _, _, 0, _, .cons r _, e => by simp at e; subst e; exact ⟨_, rfl, r⟩
  | _, _, i + 1, _, .cons _ t, e => by
    obtain ⟨d, h1, h2⟩ := Reps.getV (i := i) t (by simpa using e)
    exact ⟨d, by simpa using h1, h2⟩
theorem Reps.append : ∀ {vs ws : List V} {ds es : List PyData}, Reps K w H vs ds → Reps K w H ws es → Reps K w H (vs ++ ws) (ds ++ es)
  | _, _, _, _, .nil, s => s
  | _, _, _, _, .cons r t, s => .cons r (Reps.append t s)
theorem Reps.take : ∀ {vs : List V} {ds : List PyData} (n : Nat), Reps K w H vs ds → Reps K w H (vs.take n) (ds.take n)
  | _, _, 0, _ => .nil
  | _, _, _ + 1, .nil => .nil
  | _, _, n + 1, .cons r t => .cons r (Reps.take n t)
theorem Reps.drop : ∀ {vs : List V} {ds : List PyData} (n : Nat), Reps K w H vs ds → Reps K w H (vs.drop n) (ds.drop n)
  | _, _, 0, r => r
  | _, _, _ + 1, .nil => .nil
  | _, _, n + 1, .cons _ t => Reps.drop n t
theorem Reps.set {v : V} {d : PyData} (r : Rep K w H v d) : ∀ {vs : List V} {ds : List PyData} (i : Nat), Reps K w H vs ds → Reps K w H (vs.set i v) (ds.set i d)
  | _, _, _, .nil => .nil
  | _, _, 0, .cons _ t => .cons r t
  | _, _, i + 1, .cons q t => .cons q (Reps.set r i t)
theorem Reps.reverse : ∀ {vs : List V} {ds : List PyData}, Reps K w H vs ds → Reps K w H vs.reverse ds.reverse
  | _, _, .nil => .nil
  | _, _, .cons r t => by
    rw [List.reverse_cons, List.reverse_cons]
    exact (Reps.reverse t).append (.cons r .nil)
theorem Reps.inv {v : V} {vs : List V} {ds : List PyData} (h : Reps K w H (v :: vs) ds) : ∃ d es, ds = d :: es ∧ Rep K w H v d ∧ Reps K w H vs es := by
  cases h with
  | cons r t => exact ⟨_, _, rfl, r, t⟩
theorem Reps.inv' {d : PyData} {vs : List V} {ds : List PyData} (h : Reps K w H vs (d :: ds)) : ∃ v ws, vs = v :: ws ∧ Rep K w H v d ∧ Reps K w H ws ds := by
  cases h with
  | cons r t => exact ⟨_, _, rfl, r, t⟩
end

/-! ### the heap's own reading -/
section
variable {X : Cx} {pins : List (Addr × Obj)} {σ : L2.St} {H : Hp} {s : Shared}
theorem Inv.fzL (I : Inv X pins σ H s) {a : Addr} {vs : List V} (h : FzL X.K H a vs) : ∃ its : List Value, Vals vs its ∧ PlainL s.heap a its.toArray ∧ vs.length ≤ sizeLine := I.list h.sq
theorem pairedReads {α : Type} {f : α → V} {g : α → Value} : ∀ {es : List DictEntry} {ents : List (NestedKey × V × V)}, Paired (fun (e : DictEntry) (x : NestedKey × V × V) => e.hash = x.1.hash X.w ∧ RelV x.2.1 e.key ∧ RelV x.2.2 e.val) es ents →
    Vals (ents.map (fun x => x.2.1)) (es.map (·.key)) ∧ Vals (ents.map (fun x => x.2.2)) (es.map (·.val))
  | _, _, .nil => ⟨.nil, .nil⟩
  | _, _, .cons r t => by
    obtain ⟨h1, h2⟩ := pairedReads (f := f) (g := g) t
    exact ⟨.cons r.2.1 h1, .cons r.2.2 h2⟩
mutual
theorem Inv.reads (I : Inv X pins σ H s) : ∀ {v : V} {d : PyData} {u : Value}, Rep X.K X.w H v d → RelV v u → ∃ as, Reads s.heap u d as
  | _, _, _, .non, r => by cases r; exact ⟨_, .none⟩
  | _, _, _, .bl b, r => by cases r; exact ⟨_, .bool b⟩
  | _, _, _, .int i, r => by obtain ⟨t, rfl⟩ := r; exact ⟨_, .int i t⟩
  | _, _, _, .str x, r => by obtain ⟨t, rfl⟩ := r; exact ⟨_, .str x t⟩
  | _, _, _, .tup h t, r => by
    cases r
    obtain ⟨its, rv, ⟨o, ho, hc, n, hd⟩, _⟩ := I.tuple h
    obtain ⟨as, ra⟩ := Inv.readsAll I t rv
    exact ⟨_, .tuple ho hc hd (by simpa using ra)⟩
  | _, _, _, .lst h t, r => by
    cases r
    obtain ⟨its, rv, ⟨o, n, ho, hc, hx, hd⟩, _⟩ := Inv.fzL I h
    obtain ⟨as, ra⟩ := Inv.readsAll I t rv
    exact ⟨_, .list ho hc hd (by simpa using ra)⟩
  | _, _, _, .dct h h1 h2 hz h3 t1 t2, r => by
    cases r
    obtain ⟨ho, _⟩ := I.hok _ _ h
    obtain ⟨⟨hc, _, _⟩, ⟨es, n, hd, hp⟩, _⟩ := h2
    obtain ⟨k1, k2⟩ := pairedReads (X := X) (α := Nat) (f := fun _ => .non) (g := fun _ => .none) hp
    obtain ⟨as, ra⟩ := Inv.readsAll I t1 k1
    obtain ⟨bs, rb⟩ := Inv.readsAll I t2 k2
    exact ⟨_, .dict ho hc hd ra rb⟩
theorem Inv.readsAll (I : Inv X pins σ H s) : ∀ {vs : List V} {ds : List PyData} {us : List Value}, Reps X.K X.w H vs ds → Vals vs us → ∃ as, ReadsAll s.heap us ds as
  | _, _, _, .nil, r => by cases r; exact ⟨_, .nil⟩
  | _, _, _, .cons h t, r => by
    cases r with
    | cons r1 r2 =>
      obtain ⟨as, ra⟩ := Inv.reads I h r1
      obtain ⟨bs, rb⟩ := Inv.readsAll I t r2
      exact ⟨_, .cons ra rb⟩
end
end
end TT

namespace TT
open PySem PySem.Spec PyProof.Rows L2

/-! ### the mirror's monads -/
/-- an error of the program's own: its class's name, what it carries -/
structure Exc where
  cls : Str
  arg : PyData
/-- what a run gives: nothing (no promise), or a value or an error, with the state -/
abbrev Res (S α : Type) := Option (Except Exc α × S)
def Res.bind {S α β : Type} (x : Res S α) (f : α → S → Res S β) : Res S β := match x with
  | none => none
  | some (.ok a, s) => f a s
  | some (.error e, s) => some (.error e, s)
class PyM (m : Type → Type) [Monad m] where
  S : Type
  run : {α : Type} → m α → S → Res S α
  run_pure : ∀ {α : Type} (a : α) (s : S), run (pure a) s = some (.ok a, s)
  run_bind : ∀ {α β : Type} (x : m α) (f : α → m β) (s : S), run (x >>= f) s = Res.bind (run x s) fun a s' => run (f a) s'
  fromO : {α : Type} → Option α → m α
  run_fromO : ∀ {α : Type} (o : Option α) (s : S), run (fromO o) s = o.map fun a => (Except.ok a, s)
  sup : {α : Type} → (Nat → m α) → m α
  run_sup : ∀ {α : Type} (f : Nat → m α) (s : S) (r : Except Exc α × S), run (sup f) s = some r → ∃ n, run (f n) s = some r
open PyM (fromO)
open Classical in
/-- the first that is something -/
noncomputable def supO {α : Type} (f : Nat → Option α) : Option α := if h : ∃ n, (f n).isSome = true then f (choose h) else none
theorem supO_some {α : Type} {f : Nat → Option α} {a : α} (h : supO f = some a) : ∃ n, f n = some a := by
  unfold supO at h
  split at h
  · exact ⟨_, h⟩
  · cases h
/-- no error comes of it -/
class NoErr (m : Type → Type) [Monad m] [PyM m] : Prop where
  ok : ∀ {α : Type} (x : m α) (s : PyM.S m) e s', PyM.run x s ≠ some (.error e, s')
noncomputable instance : PyM Option where
  S := Unit
  run x _ := x.map fun a => (.ok a, ())
  run_pure _ _ := rfl
  run_bind x f s := by cases x <;> rfl
  fromO o := o
  run_fromO o s := rfl
  sup f := supO f
  run_sup f s r h := by
    obtain ⟨a, h1, h2⟩ := Option.map_eq_some_iff.mp h
    obtain ⟨n, hn⟩ := supO_some h1
    exact ⟨n, by show Option.map _ (f n) = _; rw [hn, ← h2]; rfl⟩
instance : NoErr Option where
  ok x s e s' := by
    show Option.map _ x ≠ _
    cases x <;> simp
/-- values or errors -/
abbrev EM := ExceptT Exc Option
noncomputable instance : PyM EM where
  S := Unit
  run x _ := Option.map (fun r => (r, ())) x.run
  run_pure _ _ := rfl
  run_bind x f s := by
    show Option.map _ (ExceptT.run (ExceptT.bind x f)) = _
    show Option.map _ (Option.bind x _) = Res.bind (Option.map _ (show Option _ from x)) _
    cases (show Option _ from x) with
    | none => rfl
    | some r => cases r <;> rfl
  fromO o := ExceptT.mk (o.map .ok)
  run_fromO o s := by cases o <;> rfl
  sup f := ExceptT.mk (supO fun n => (f n).run)
  run_sup f s r h := by
    obtain ⟨a, h1, h2⟩ := Option.map_eq_some_iff.mp h
    obtain ⟨n, hn⟩ := supO_some (f := fun n => (f n).run) h1
    exact ⟨n, by show Option.map _ ((f n).run) = _; rw [hn, ← h2]; rfl⟩
/-- a state beside -/
abbrev WM (S : Type) := StateT S Option
noncomputable instance (S : Type) : PyM (WM S) where
  S := S
  run x s := (x.run s).map fun p => (.ok p.1, p.2)
  run_pure _ _ := rfl
  run_bind x f s := by
    show Option.map _ (Option.bind (x s) _) = Res.bind (Option.map _ (x s)) _
    cases x s <;> rfl
  fromO o := StateT.mk fun s => o.map fun a => (a, s)
  run_fromO o s := by cases o <;> rfl
  sup f := StateT.mk fun s => supO fun n => (f n).run s
  run_sup f s r h := by
    obtain ⟨a, h1, h2⟩ := Option.map_eq_some_iff.mp h
    obtain ⟨n, hn⟩ := supO_some (f := fun n => (f n).run s) h1
    exact ⟨n, by show Option.map _ ((f n).run s) = _; rw [hn, ← h2]; rfl⟩
instance (S : Type) : NoErr (WM S) where
  ok x s e s' := by
    show Option.map _ (StateT.run x s) ≠ _
    cases StateT.run x s <;> simp

/-! ### the world beside: objects that callees may write -/
structure Wd (K : PySem.W.Frag) (w : World) (m : Type → Type) [Monad m] [PyM m] where
  rel : PyM.S m → Hp → Prop
  mt : Addr → Prop
  exc : Exc → Value → Option Addr → Hp → Prop
  keep : ∀ s H H', rel s H → (∀ b o, H b = some o → H' b = some o) → rel s H'
  other : ∀ s H b o, rel s H → ¬ mt b → (∀ c u, H c = some u → Firm u → c ≠ b) → rel s (upd H b o)
  there : ∀ s H b, rel s H → mt b → ∃ o, H b = some o ∧ ¬ Firm o
/-- nothing beside -/
def wd0 {K : PySem.W.Frag} {w : World} {m : Type → Type} [Monad m] [PyM m] (ex : Exc → Value → Option Addr → Hp → Prop := fun _ _ _ _ => False) : Wd K w m where
  rel _ _ := True
  mt _ := False
  exc := ex
  keep _ _ _ _ _ := trivial
  other _ _ _ _ _ _ _ := trivial
  there _ _ _ _ h := h.elim

/-- all that was tracked, but what the world may write, is as it was -/
def Ext (mt : Addr → Prop) (H H' : Hp) : Prop := ∀ b o, H b = some o → (¬ mt b ∨ Firm o) → H' b = some o
theorem Ext.refl {mt : Addr → Prop} {H : Hp} : Ext mt H H := fun _ _ h _ => h
theorem Ext.trans {mt : Addr → Prop} {H H1 H2 : Hp} (a : Ext mt H H1) (b : Ext mt H1 H2) : Ext mt H H2 := fun c o h k => b c o (a c o h k) k
theorem Ext.firms {mt : Addr → Prop} {H H' : Hp} (a : Ext mt H H') : Firms H H' := fun b o h f => a b o h (.inr f)
theorem Ext.of_same {mt : Addr → Prop} {H H' : Hp} (a : Same H H') : Ext mt H H' := fun b o h _ => a b o h
theorem firms_upd' {H : Hp} {a : Addr} {u u' : HO} (h : H a = some u) (n : ¬ Firm u) : Firms H (upd H a u') := fun b o e f => by
  by_cases hb : b = a
  · subst hb; rw [h] at e; cases e; exact absurd f n
  · rw [upd_ne hb]; exact e
theorem Same.new {H : Hp} {p : Addr} {o : HO} (h : H p = none) : Same H (upd H p o) := fun b x e => by
  rw [upd_ne (ne_of_none e h)]
  exact e

/-! ### the slots -/
inductive Slot where
  /-- a value that nobody writes -/
  | frz (d : PyData)
  /-- a list of the def's own -/
  | own (ds : List PyData)
  /-- a dict of the def's own -/
  | ownD (kvs : List (PyData × PyData))
  /-- the object at an address -/
  | adr (a : Addr)
  /-- the script -/
  | scr (ns : List Int)
def Slot.Own : Slot → Prop
  | .own _ => True
  | .ownD _ => True
  | _ => False
/-- a dict that may be written, as data -/
inductive DCell (K : PySem.W.Frag) (w : World) (H : Hp) : HO → Addr → List (PyData × PyData) → Prop
  | n {ents a o kvs} : (a == sysModules) = false → DObj w o ents → ents.length ≤ sizeLine → kvs.map (fun p => nkOf p.1) = ents.map (fun x => some x.1) → Reps K w H (ents.map (fun x => x.2.1)) (kvs.map (·.1)) → Reps K w H (ents.map (fun x => x.2.2)) (kvs.map (·.2)) → DCell K w H (DN a o) a kvs
theorem DCell.firm {K : PySem.W.Frag} {w : World} {H H' : Hp} {u : HO} {a : Addr} {kvs : List (PyData × PyData)} (f : Firms H H') (h : DCell K w H u a kvs) : DCell K w H' u a kvs := by
  cases h with
  | n g1 g2 g3 h1 h2 h3 => exact .n g1 g2 g3 h1 (Reps.firm f h2) (Reps.firm f h3)
theorem DCell.soft {K : PySem.W.Frag} {w : World} {H : Hp} {u : HO} {a : Addr} {kvs : List (PyData × PyData)} (h : DCell K w H u a kvs) : ¬ Firm u := by
  cases h <;> exact fun z => z
abbrev Slots := List (Option Slot)

section
variable {K : PySem.W.Frag} {w : World}
def SlotOk (K : PySem.W.Frag) (w : World) (mt : Addr → Prop) (H0 H : Hp) : Slot → V → Prop
  | .frz d, v => Rep K w H v d
  | .own ds, v => ∃ a vs, v = .ref a ∧ H a = some (.lst vs) ∧ Reps K w H vs ds ∧ H0 a = none ∧ ¬ mt a
  | .ownD kvs, v => ∃ a u, v = .ref a ∧ H a = some u ∧ DCell K w H u a kvs ∧ H0 a = none ∧ ¬ mt a
  | .adr a, v => v = .ref a
  | .scr ns, v => ∃ a, v = .ref a ∧ SqL K H a (ns.map V.int) ∧ ((∃ o, H a = some (.frz o (.lst (ns.map V.int)))) ∨ ∃ o its n, K.lookup a = some o ∧ o.cls = .type "list" ∧ o.dict = none ∧ o.data = .seq its n ∧ its.size ≤ sizeLine ∧ Vals (ns.map V.int) its.toList)
theorem SlotOk.ext {mt : Addr → Prop} {H0 H H' : Hp} (e : Ext mt H H') : ∀ {x : Slot} {v : V}, SlotOk K w mt H0 H x v → SlotOk K w mt H0 H' x v
  | .frz _, _, h => Rep.firm e.firms h
  | .own _, _, ⟨a, vs, h1, h2, h3, h4, h5⟩ => ⟨a, vs, h1, e a _ h2 (.inl h5), Reps.firm e.firms h3, h4, h5⟩
  | .ownD _, _, ⟨a, u, h1, h2, h3, h4, h5⟩ => ⟨a, u, h1, e a _ h2 (.inl h5), h3.firm e.firms, h4, h5⟩
  | .adr _, _, h => h
  | .scr _, _, ⟨a, h1, h2, h3⟩ => ⟨a, h1, by
    rcases h3 with ⟨o, h3⟩ | h3
    · exact .inl (.inr ⟨o, e.firms _ _ h3 trivial⟩)
    · exact .inr h3, by
    rcases h3 with ⟨o, h3⟩ | h3
    · exact .inl ⟨o, e.firms _ _ h3 trivial⟩
    · exact .inr h3⟩

structure Cfg {m : Type → Type} [Monad m] [PyM m] (C : Wd K w m) (H0 : Hp) (R : Slots) (s : PyM.S m) (σ : L2.St) (H : Hp) : Prop where
  len : σ.length = R.length
  base : Ext C.mt H0 H
  rel : C.rel s H
  slot : ∀ (i : Nat) (x : Slot), R[i]? = some (some x) → ∃ v, σ[i]? = some (some v) ∧ SlotOk K w C.mt H0 H x v
  apart : ∀ (i j : Nat) (x y : Slot), i ≠ j → R[i]? = some (some x) → R[j]? = some (some y) → x.Own → y.Own → σ[i]? ≠ σ[j]?
section
variable {m : Type → Type} [Monad m] [PyM m] {C : Wd K w m} {H0 : Hp} {R R' : Slots} {s s' : PyM.S m} {σ : L2.St} {H H' : Hp}
theorem Cfg.ext (c : Cfg C H0 R s σ H) (e : Ext C.mt H H') (r : C.rel s' H') : Cfg C H0 R s' σ H' :=
  ⟨c.len, c.base.trans e, r, fun i x h => let ⟨v, h1, h2⟩ := c.slot i x h; ⟨v, h1, SlotOk.ext e h2⟩, c.apart⟩
theorem Cfg.same (c : Cfg C H0 R s σ H) (e : Same H H') : Cfg C H0 R s σ H' := c.ext (.of_same e) (C.keep _ _ _ c.rel e)
/-- fewer slots told -/
def SubS : Slots → Slots → Prop
  | [], [] => True
  | none :: r, _ :: r' => SubS r r'
  | some x :: r, y :: r' => y = some x ∧ SubS r r'
  | none :: _, [] => False
  | some _ :: _, [] => False
  | [], _ :: _ => False
theorem SubS.len : ∀ {R R' : Slots}, SubS R R' → R.length = R'.length
  | [], [], _ => rfl
  | none :: r, y :: r', h => by rw [List.length_cons, List.length_cons, SubS.len (R := r) (R' := r') h]
  | some x :: r, y :: r', h => by rw [List.length_cons, List.length_cons, SubS.len (R := r) (R' := r') h.2]
  | none :: _, [], h => h.elim
  | some _ :: _, [], h => h.elim
  | [], _ :: _, h => h.elim
theorem SubS.at : ∀ {R R' : Slots}, SubS R R' → ∀ (i : Nat) (x : Slot), R[i]? = some (some x) → R'[i]? = some (some x)
  | [], _, _, i, x, h => by simp at h
  | none :: r, y :: r', h, 0, x, e => by simp at e
  | none :: r, y :: r', h, i + 1, x, e => by
    have := SubS.at (R := r) (R' := r') h i x (by simpa using e)
    simpa using this
  | some z :: r, y :: r', h, 0, x, e => by
    simp at e ⊢
    rw [h.1, e]
  | some z :: r, y :: r', h, i + 1, x, e => by
    have := SubS.at (R := r) (R' := r') h.2 i x (by simpa using e)
    simpa using this
  | none :: _, [], h, _, _, _ => h.elim
  | some _ :: _, [], h, _, _, _ => h.elim
theorem Cfg.sub (c : Cfg C H0 R s σ H) (h : SubS R' R) : Cfg C H0 R' s σ H :=
  ⟨c.len.trans h.len.symm, c.base, c.rel, fun i x e => c.slot i x (h.at i x e), fun i j x y n e1 e2 => c.apart i j x y n (h.at i x e1) (h.at j y e2)⟩
theorem SubS.refl : ∀ R : Slots, SubS R R
  | [] => trivial
  | none :: r => SubS.refl r
  | some _ :: r => ⟨rfl, SubS.refl r⟩
/-- a slot gets data -/
theorem Cfg.setF {i : Nat} {v : V} {d : PyData} (c : Cfg C H0 R s σ H) (hi : i < R.length) (r : Rep K w H v d) : Cfg C H0 (R.set i (some (.frz d))) s (σ.set i (some v)) H := by
  have hi' : i < σ.length := by rw [c.len]; exact hi
  refine ⟨by rw [List.length_set, List.length_set]; exact c.len, c.base, c.rel, fun j x h => ?_, fun j l x y n h1 h2 ox oy => ?_⟩
  · by_cases e : i = j
    · subst e
      rw [List.getElem?_set_self hi] at h
      cases h
      exact ⟨v, List.getElem?_set_self hi', r⟩
    · rw [List.getElem?_set_ne e] at h ⊢
      exact c.slot j x h
  · have nj : i ≠ j := fun e => by
      subst e
      rw [List.getElem?_set_self hi] at h1
      cases h1
      exact ox
    have nl : i ≠ l := fun e => by
      subst e
      rw [List.getElem?_set_self hi] at h2
      cases h2
      exact oy
    rw [List.getElem?_set_ne nj] at h1 ⊢
    rw [List.getElem?_set_ne nl] at h2 ⊢
    exact c.apart j l x y n h1 h2 ox oy
/-- a slot gets a list of its own -/
theorem Cfg.setO {i : Nat} {a : Addr} {vs : List V} {ds : List PyData} (c : Cfg C H0 R s σ H) (hi : i < R.length) (h : H a = some (.lst vs)) (r : Reps K w H vs ds) (h0 : H0 a = none) (hm : ¬ C.mt a)
    (new : ∀ (j : Nat) (y : Slot), R[j]? = some (some y) → y.Own → σ[j]? ≠ some (some (.ref a))) : Cfg C H0 (R.set i (some (.own ds))) s (σ.set i (some (.ref a))) H := by
  have hi' : i < σ.length := by rw [c.len]; exact hi
  refine ⟨by rw [List.length_set, List.length_set]; exact c.len, c.base, c.rel, fun j x h => ?_, fun j l x y n h1 h2 ox oy => ?_⟩
  · by_cases e : i = j
    · subst e
      rw [List.getElem?_set_self hi] at h
      cases h
      exact ⟨_, List.getElem?_set_self hi', a, vs, rfl, by assumption, r, h0, hm⟩
    · rw [List.getElem?_set_ne e] at h ⊢
      exact c.slot j x h
  · by_cases e1 : i = j
    · subst e1
      rw [List.getElem?_set_self hi']
      rw [List.getElem?_set_ne n] at h2 ⊢
      exact fun q => new l y h2 oy q.symm
    · rw [List.getElem?_set_ne e1] at h1 ⊢
      by_cases e2 : i = l
      · subst e2
        rw [List.getElem?_set_self hi']
        exact new j x h1 ox
      · rw [List.getElem?_set_ne e2] at h2 ⊢
        exact c.apart j l x y n h1 h2 ox oy
/-- a slot gets a dict of its own -/
theorem Cfg.setD {i : Nat} {a : Addr} {u : HO} {kvs : List (PyData × PyData)} (c : Cfg C H0 R s σ H) (hi : i < R.length) (h : H a = some u) (r : DCell K w H u a kvs) (h0 : H0 a = none) (hm : ¬ C.mt a)
    (new : ∀ (j : Nat) (y : Slot), R[j]? = some (some y) → y.Own → σ[j]? ≠ some (some (.ref a))) : Cfg C H0 (R.set i (some (.ownD kvs))) s (σ.set i (some (.ref a))) H := by
  have hi' : i < σ.length := by rw [c.len]; exact hi
  refine ⟨by rw [List.length_set, List.length_set]; exact c.len, c.base, c.rel, fun j x h => ?_, fun j l x y n h1 h2 ox oy => ?_⟩
  · by_cases e : i = j
    · subst e
      rw [List.getElem?_set_self hi] at h
      cases h
      exact ⟨_, List.getElem?_set_self hi', a, u, rfl, by assumption, r, h0, hm⟩
    · rw [List.getElem?_set_ne e] at h ⊢
      exact c.slot j x h
  · by_cases e1 : i = j
    · subst e1
      rw [List.getElem?_set_self hi']
      rw [List.getElem?_set_ne n] at h2 ⊢
      exact fun q => new l y h2 oy q.symm
    · rw [List.getElem?_set_ne e1] at h1 ⊢
      by_cases e2 : i = l
      · subst e2
        rw [List.getElem?_set_self hi']
        exact new j x h1 ox
      · rw [List.getElem?_set_ne e2] at h2 ⊢
        exact c.apart j l x y n h1 h2 ox oy
/-- a list of its own is changed -/
theorem Cfg.updO {i : Nat} {a : Addr} {vs ws : List V} {ds es : List PyData} (c : Cfg C H0 R s σ H) (hR : R[i]? = some (some (.own ds))) (ha : σ[i]? = some (some (.ref a))) (h : H a = some (.lst vs)) (r : Reps K w H ws es) :
    Cfg C H0 (R.set i (some (.own es))) s σ (upd H a (.lst ws)) := by
  obtain ⟨v, e, a', vs', e1, e2, e3, e4, e5⟩ := c.slot i _ hR
  rw [ha] at e; cases e
  cases e1
  have hi : i < R.length := (List.getElem?_eq_some_iff.mp hR).1
  have nf : ∀ b u, H b = some u → Firm u → b ≠ a := fun b u hu f z => by subst z; rw [h] at hu; cases hu; exact f
  have fm : Firms H (upd H a (.lst ws)) := firms_upd' h (fun z => z)
  refine ⟨by rw [List.length_set]; exact c.len, fun b o hb k => ?_, C.other _ _ _ _ c.rel e5 nf, fun j x h1 => ?_, fun j l x y n h1 h2 ox oy => ?_⟩
  · rw [upd_ne (ne_of_none hb e4)]
    exact c.base b o hb k
  · by_cases e : i = j
    · subst e
      rw [List.getElem?_set_self hi] at h1
      cases h1
      exact ⟨_, ha, a, ws, rfl, upd_same, Reps.firm fm r, e4, e5⟩
    · rw [List.getElem?_set_ne e] at h1
      obtain ⟨v, h2, h3⟩ := c.slot j x h1
      refine ⟨v, h2, ?_⟩
      cases x with
      | frz d => exact Rep.firm fm h3
      | adr b => exact h3
      | scr ns =>
        obtain ⟨b, k1, k2, k3⟩ := h3
        refine ⟨b, k1, ?_, ?_⟩
        · rcases k3 with ⟨o, k3⟩ | k3
          · exact .inl (.inr ⟨o, fm _ _ k3 trivial⟩)
          · exact .inr k3
        · rcases k3 with ⟨o, k3⟩ | k3
          · exact .inl ⟨o, fm _ _ k3 trivial⟩
          · exact .inr k3
      | ownD kvs =>
        obtain ⟨b, u, rfl, k1, k2, k3, k4⟩ := h3
        have ne : b ≠ a := fun z => by
          subst z
          exact c.apart i j _ _ e hR h1 trivial trivial (ha.trans h2.symm)
        exact ⟨b, u, rfl, by rw [upd_ne ne]; exact k1, k2.firm fm, k3, k4⟩
      | own ds' =>
        obtain ⟨b, us, rfl, k1, k2, k3, k4⟩ := h3
        have ne : b ≠ a := fun z => by
          subst z
          exact c.apart i j _ _ e hR h1 trivial trivial (ha.trans h2.symm)
        exact ⟨b, us, rfl, by rw [upd_ne ne]; exact k1, Reps.firm fm k2, k3, k4⟩
  · by_cases e1 : i = j
    · subst e1
      rw [List.getElem?_set_ne n] at h2
      exact c.apart i l _ y n hR h2 trivial oy
    · rw [List.getElem?_set_ne e1] at h1
      by_cases e2 : i = l
      · subst e2
        exact c.apart j i x _ n h1 hR ox trivial
      · rw [List.getElem?_set_ne e2] at h2
        exact c.apart j l x y n h1 h2 ox oy
/-- a dict of its own is changed -/
theorem Cfg.updD {i : Nat} {a : Addr} {u u' : HO} {ds es : List (PyData × PyData)} (c : Cfg C H0 R s σ H) (hR : R[i]? = some (some (.ownD ds))) (ha : σ[i]? = some (some (.ref a))) (h : H a = some u) (n : ¬ Firm u) (r : DCell K w H u' a es) :
    Cfg C H0 (R.set i (some (.ownD es))) s σ (upd H a u') := by
  obtain ⟨v, e, a', u0, e1, e2, e3, e4, e5⟩ := c.slot i _ hR
  rw [ha] at e; cases e
  cases e1
  have hi : i < R.length := (List.getElem?_eq_some_iff.mp hR).1
  have nf : ∀ b u, H b = some u → Firm u → b ≠ a := fun b u hu f z => by subst z; rw [h] at hu; cases hu; exact n f
  have fm : Firms H (upd H a u') := firms_upd' h n
  refine ⟨by rw [List.length_set]; exact c.len, fun b o hb k => ?_, C.other _ _ _ _ c.rel e5 nf, fun j x h1 => ?_, fun j l x y n h1 h2 ox oy => ?_⟩
  · rw [upd_ne (ne_of_none hb e4)]
    exact c.base b o hb k
  · by_cases e : i = j
    · subst e
      rw [List.getElem?_set_self hi] at h1
      cases h1
      exact ⟨_, ha, a, u', rfl, upd_same, r.firm fm, e4, e5⟩
    · rw [List.getElem?_set_ne e] at h1
      obtain ⟨v, h2, h3⟩ := c.slot j x h1
      refine ⟨v, h2, ?_⟩
      cases x with
      | frz d => exact Rep.firm fm h3
      | adr b => exact h3
      | scr ns =>
        obtain ⟨b, k1, k2, k3⟩ := h3
        refine ⟨b, k1, ?_, ?_⟩
        · rcases k3 with ⟨o, k3⟩ | k3
          · exact .inl (.inr ⟨o, fm _ _ k3 trivial⟩)
          · exact .inr k3
        · rcases k3 with ⟨o, k3⟩ | k3
          · exact .inl ⟨o, fm _ _ k3 trivial⟩
          · exact .inr k3
      | ownD kvs =>
        obtain ⟨b, u, rfl, k1, k2, k3, k4⟩ := h3
        have ne : b ≠ a := fun z => by
          subst z
          exact c.apart i j _ _ e hR h1 trivial trivial (ha.trans h2.symm)
        exact ⟨b, u, rfl, by rw [upd_ne ne]; exact k1, k2.firm fm, k3, k4⟩
      | own ds' =>
        obtain ⟨b, us, rfl, k1, k2, k3, k4⟩ := h3
        have ne : b ≠ a := fun z => by
          subst z
          exact c.apart i j _ _ e hR h1 trivial trivial (ha.trans h2.symm)
        exact ⟨b, us, rfl, by rw [upd_ne ne]; exact k1, Reps.firm fm k2, k3, k4⟩
  · by_cases e1 : i = j
    · subst e1
      rw [List.getElem?_set_ne n] at h2
      exact c.apart i l _ y n hR h2 trivial oy
    · rw [List.getElem?_set_ne e1] at h1
      by_cases e2 : i = l
      · subst e2
        exact c.apart j i x _ n h1 hR ox trivial
      · rw [List.getElem?_set_ne e2] at h2
        exact c.apart j l x y n h1 h2 ox oy
end

/-! ### what an expression's value may be -/
/-- the heap ahead, the heap behind, the value, the data -/
abbrev Kd := Hp → Hp → V → PyData → Prop
/-- data that nobody writes -/
def kF (K : PySem.W.Frag) (w : World) (mt : Addr → Prop) : Kd := fun _ H' v d => Rep K w H' v d
/-- such, or a list that is only read here -/
def kB (K : PySem.W.Frag) (w : World) (mt : Addr → Prop) : Kd := fun _ H' v d => Rep K w H' v d ∨ (∃ a vs ds, v = .ref a ∧ d = .list ds ∧ H' a = some (.lst vs) ∧ Reps K w H' vs ds ∧ ¬ mt a) ∨ ∃ a u kvs, v = .ref a ∧ d = .dict kvs ∧ H' a = some u ∧ DCell K w H' u a kvs ∧ ¬ mt a
/-- a new list -/
def kO (K : PySem.W.Frag) (w : World) (mt : Addr → Prop) : Kd := fun H H' v d => ∃ a vs ds, v = .ref a ∧ d = .list ds ∧ H' a = some (.lst vs) ∧ Reps K w H' vs ds ∧ H a = none
/-- a new dict -/
def kOD (K : PySem.W.Frag) (w : World) (mt : Addr → Prop) : Kd := fun H H' v d => ∃ a u kvs, v = .ref a ∧ d = .dict kvs ∧ H' a = some u ∧ DCell K w H' u a kvs ∧ H a = none
structure KdOk (k : Kd) : Prop where
  back : ∀ H H1 H2 v d, (∀ a, H1 a = none → H a = none) → k H1 H2 v d → k H H2 v d
theorem kF_ok {mt : Addr → Prop} : KdOk (kF K w mt) := ⟨fun _ _ _ _ _ _ h => h⟩
theorem kB_ok {mt : Addr → Prop} : KdOk (kB K w mt) := ⟨fun _ _ _ _ _ _ h => h⟩
theorem kO_ok {mt : Addr → Prop} : KdOk (kO K w mt) := ⟨fun H H1 H2 v d h ⟨a, vs, ds, e1, e2, e3, e4, e5⟩ => ⟨a, vs, ds, e1, e2, e3, e4, h a e5⟩⟩
theorem kOD_ok {mt : Addr → Prop} : KdOk (kOD K w mt) := ⟨fun H H1 H2 v d h ⟨a, vs, ds, e1, e2, e3, e4, e5⟩ => ⟨a, vs, ds, e1, e2, e3, e4, h a e5⟩⟩
theorem kB.ext {mt : Addr → Prop} {H H1 H2 : Hp} {v : V} {d : PyData} (e : Ext mt H1 H2) (h : kB K w mt H H1 v d) : kB K w mt H H2 v d := by
  rcases h with h | ⟨a, vs, ds, h1, h2, h3, h4, h5⟩ | ⟨a, u, kvs, h1, h2, h3, h4, h5⟩
  · exact .inl (Rep.firm e.firms h)
  · exact .inr (.inl ⟨a, vs, ds, h1, h2, e a _ h3 (.inl h5), Reps.firm e.firms h4, h5⟩)
  · exact .inr (.inr ⟨a, u, kvs, h1, h2, e a _ h3 (.inl h5), h4.firm e.firms, h5⟩)
theorem kF.ext {mt : Addr → Prop} {H H1 H2 : Hp} {v : V} {d : PyData} (e : Ext mt H1 H2) (h : kF K w mt H H1 v d) : kF K w mt H H2 v d := Rep.firm e.firms h
end

/-! ### the judgement of an expression -/
section
variable {K : PySem.W.Frag} {w : World} {m : Type → Type} [Monad m] [PyM m]
/-- behind a run: the value's wish, or the error's -/
def After (C : Wd K w m) (W : WX) (k : Kd) {α : Type} (e : α → PyData) (σ : L2.St) (H : Hp) (Q : VK) : Res (PyM.S m) α → Prop
  | none => False
  | some (.ok a, s') => ∀ v H', Ext C.mt H H' → C.rel s' H' → k H H' v (e a) → Q v H'
  | some (.error x, s') => ∀ cls d H', Ext C.mt H H' → C.rel s' H' → C.exc x cls d H' → W cls d σ H'
def tR (C : Wd K w m) (W : WX) (H0 : Hp) (R : Slots) (k : Kd) {α : Type} (e : α → PyData) (mm : m α) : TE := fun σ H Q => ∃ s, Cfg C H0 R s σ H ∧ After C W k e σ H Q (PyM.run mm s)
structure SX (X : Cx) (C : Wd X.K X.w m) (W : WX) (H0 : Hp) (R : Slots) (k : Kd) (ex : Expr) {α : Type} (e : α → PyData) (mm : m α) : Prop where
  run : PE X ex (tR C W H0 R k e mm)
abbrev SE (X : Cx) (C : Wd X.K X.w m) (W : WX) (H0 : Hp) (R : Slots) (ex : Expr) {α : Type} (e : α → PyData) (mm : m α) : Prop := SX X C W H0 R (kF X.K X.w C.mt) ex e mm
abbrev SB (X : Cx) (C : Wd X.K X.w m) (W : WX) (H0 : Hp) (R : Slots) (ex : Expr) {α : Type} (e : α → PyData) (mm : m α) : Prop := SX X C W H0 R (kB X.K X.w C.mt) ex e mm
abbrev SD (X : Cx) (C : Wd X.K X.w m) (W : WX) (H0 : Hp) (R : Slots) (ex : Expr) {α : Type} (e : α → PyData) (mm : m α) : Prop := SX X C W H0 R (kOD X.K X.w C.mt) ex e mm
abbrev SO (X : Cx) (C : Wd X.K X.w m) (W : WX) (H0 : Hp) (R : Slots) (ex : Expr) {α : Type} (e : α → PyData) (mm : m α) : Prop := SX X C W H0 R (kO X.K X.w C.mt) ex e mm
theorem _root_.L2.PE.weak {X : Cx} {ex : Expr} {t t' : TE} (h : PE X ex t) (i : ∀ σ H Q, t' σ H Q → t σ H Q) : PE X ex t' := ⟨fun pins s σ H Q I q => h.run pins s σ H Q I (i σ H Q q)⟩
theorem _root_.L2.PT.weak {X : Cx} {ex : Expr} {t t' : TT} (h : PT X ex t) (i : ∀ σ H Q, t' σ H Q → t σ H Q) : PT X ex t' := ⟨fun pins s σ H Q I q => h.run pins s σ H Q I (i σ H Q q)⟩
theorem _root_.L2.PSs.weak {X : Cx} {sts : List Stmt} {t t' : TS} (h : PSs X sts t) (i : ∀ D σ H, t' D σ H → t D σ H) : PSs X sts t' := ⟨fun pins s σ H D I q => h.run pins s σ H D I (i D σ H q)⟩
theorem _root_.L2.PS.weak {X : Cx} {st : Stmt} {t t' : TS} (h : PS X st t) (i : ∀ D σ H, t' D σ H → t D σ H) : PS X st t' := ⟨fun pins s σ H D I q => h.run pins s σ H D I (i D σ H q)⟩

variable {C : Wd K w m} {W : WX} {H0 : Hp} {R : Slots} {k k' : Kd} {α β : Type} {ea : α → PyData} {eb : β → PyData} {σ : L2.St} {H : Hp} {Q : VK}
theorem none_back {mt : Addr → Prop} {H H1 : Hp} (e : Ext mt H H1) (t : ∀ b, mt b → ∃ o, H1 b = some o) : ∀ a, H1 a = none → H a = none := fun a h => by
  cases q : H a with
  | none => rfl
  | some o =>
    by_cases hm : mt a
    · obtain ⟨o', h'⟩ := t a hm
      rw [h] at h'; cases h'
    · rw [e a o q (.inl hm)] at h; cases h
/-- the wish of a run that goes on from H, asked of a run from the older heap -/
theorem After.back (kk : KdOk k) {H1 : Hp} {s1 : PyM.S m} (e : Ext C.mt H H1) (r1 : C.rel s1 H1) {r : Res (PyM.S m) α} (h : After C W k ea σ H Q r) : After C W k ea σ H1 Q r := by
  match r, h with
  | some (.ok a, s'), h => exact fun v H' e' rl kv => h v H' (e.trans e') rl (kk.back _ _ _ _ _ (none_back e fun b hb => let ⟨o, ho, _⟩ := C.there _ _ _ r1 hb; ⟨o, ho⟩) kv)
  | some (.error x, s'), h => exact fun cls d H' e' rl kv => h cls d H' (e.trans e') rl kv
/-- one part is evaluated, then the rest -/
theorem tR_bind (kk' : KdOk k') {ma : m α} {f : α → m β} (h : tR C W H0 R k' eb (ma >>= f) σ H Q) :
    tR C W H0 R k ea ma σ H fun v H1 => ∃ a, Ext C.mt H H1 ∧ k H H1 v (ea a) ∧ tR C W H0 R k' eb (f a) σ H1 Q := by
  obtain ⟨s, c, h⟩ := h
  refine ⟨s, c, ?_⟩
  rw [PyM.run_bind] at h
  cases q : PyM.run ma s with
  | none => rw [q] at h; exact h
  | some p =>
    obtain ⟨r, s1⟩ := p
    rw [q] at h
    cases r with
    | error x => exact h
    | ok a => exact fun v H1 e rl kv => ⟨a, e, kv, s1, c.ext e rl, After.back kk' e rl h⟩
/-- the end: a value without another change than new things -/
theorem tR_done {o : Option α} (h : tR C W H0 R k ea (fromO o) σ H Q) : ∃ a, o = some a ∧ (∃ s, Cfg C H0 R s σ H) ∧ ∀ v H', Same H H' → k H H' v (ea a) → Q v H' := by
  obtain ⟨s, c, h⟩ := h
  rw [PyM.run_fromO] at h
  cases o with
  | none => exact h.elim
  | some a => exact ⟨a, rfl, ⟨s, c⟩, fun v H' e kv => h v H' (.of_same e) (C.keep _ _ _ c.rel e) kv⟩
theorem tR_pure {a : α} (h : tR C W H0 R k ea (pure a) σ H Q) : (∃ s, Cfg C H0 R s σ H) ∧ ∀ v H', Same H H' → k H H' v (ea a) → Q v H' := by
  obtain ⟨s, c, h⟩ := h
  rw [PyM.run_pure] at h
  exact ⟨⟨s, c⟩, fun v H' e kv => h v H' (.of_same e) (C.keep _ _ _ c.rel e) kv⟩
theorem tR_imp {mm : m α} (h : tR C W H0 R k ea mm σ H Q) {Q' : VK} (i : ∀ v H', Q v H' → Q' v H') : tR C W H0 R k ea mm σ H Q' := by
  obtain ⟨s, c, h⟩ := h
  refine ⟨s, c, ?_⟩
  cases q : PyM.run mm s with
  | none => rw [q] at h; exact h
  | some p =>
    obtain ⟨r, s1⟩ := p
    rw [q] at h
    cases r with
    | error x => exact h
    | ok a => exact fun v H1 e rl kv => i _ _ (h v H1 e rl kv)
theorem tR_kind {mm : m α} (h : tR C W H0 R k' ea mm σ H Q) (i : ∀ H' v d, Ext C.mt H H' → (∀ b, H' b = none → H b = none) → (∀ b, C.mt b → ∃ o, H b = some o ∧ ¬ Firm o) → k H H' v d → k' H H' v d) : tR C W H0 R k ea mm σ H Q := by
  obtain ⟨s, c, h⟩ := h
  refine ⟨s, c, ?_⟩
  cases q : PyM.run mm s with
  | none => rw [q] at h; exact h
  | some p =>
    obtain ⟨r, s1⟩ := p
    rw [q] at h
    cases r with
    | error x => exact h
    | ok a => exact fun v H1 e rl kv => h v H1 e rl (i H1 v _ e (none_back e fun b hb => let ⟨o, ho, _⟩ := C.there _ _ _ rl hb; ⟨o, ho⟩) (fun b hb => C.there _ _ _ c.rel hb) kv)
end
section
variable {X : Cx} {m : Type → Type} [Monad m] [PyM m] {C : Wd X.K X.w m} {W : WX} {H0 : Hp} {R : Slots} {ex : Expr} {α : Type} {e : α → PyData} {mm : m α}
/-- frozen data may be read -/
theorem SX.b (h : SE X C W H0 R ex e mm) : SB X C W H0 R ex e mm := ⟨h.run.weak fun σ H Q q => tR_kind q fun _ _ _ _ _ _ k => .inl k⟩
/-- a new list may be read -/
theorem SX.ob (h : SO X C W H0 R ex e mm) : SB X C W H0 R ex e mm := ⟨h.run.weak fun σ H Q q => tR_kind q fun H' v d _ _ th ⟨a, vs, ds, h1, h2, h3, h4, h5⟩ => .inr (.inl ⟨a, vs, ds, h1, h2, h3, h4, fun z => by
  obtain ⟨o, ho, _⟩ := th a z
  rw [h5] at ho; cases ho⟩)⟩
/-- a new dict may be read -/
theorem SX.obd (h : SX X C W H0 R (kOD X.K X.w C.mt) ex e mm) : SB X C W H0 R ex e mm := ⟨h.run.weak fun σ H Q q => tR_kind q fun H' v d _ _ th ⟨a, u, ds, h1, h2, h3, h4, h5⟩ => .inr (.inr ⟨a, u, ds, h1, h2, h3, h4, fun z => by
  obtain ⟨o, ho, _⟩ := th a z
  rw [h5] at ho; cases ho⟩)⟩
end

/-! ### freezing -/
/-- a list is locked for good -/
theorem Inv.freeze {X : Cx} {pins : List (Addr × Obj)} {σ : L2.St} {H : Hp} {s : Shared} {a : Addr} {vs : List V} (I : Inv X pins σ H s) (h : H a = some (.lst vs)) : ∃ o, Inv X pins σ (upd H a (.frz o (.lst vs))) s := by
  obtain ⟨hz, its, n, rv, he⟩ := I.hok a _ h
  refine ⟨_, I.write (o := .frz _ (.lst vs)) (t' := s.toks) (by rw [h]; trivial) (.inl rfl) (fun b u _ q => q) ⟨_, he⟩ ⟨he, hz, its, n, rv, he⟩⟩
/-- a dict is locked for good -/
theorem Inv.freezeD {X : Cx} {pins : List (Addr × Obj)} {σ : L2.St} {H : Hp} {s : Shared} {a : Addr} {kvs : List (PyData × PyData)} {K : PySem.W.Frag} {u : HO} (I : Inv X pins σ H s) (h : H a = some u) (d : DCell X.K X.w H u a kvs) : ∃ o, Inv X pins σ (upd H a (.frz o u)) s ∧ (Firms H (upd H a (.frz o u)) → Rep X.K X.w (upd H a (.frz o u)) (.ref a) (.dict kvs)) := by
  cases d with
  | n hs hd hz h1 h2 h3 =>
    rename_i o
    have hk := I.hok a _ h
    have ho : s.heap.get? a = some o := hk.1
    exact ⟨o, I.write (o := .frz o _) (t' := s.toks) (by rw [h]; trivial) (.inl rfl) (fun b u _ q => q) ⟨_, ho⟩ ⟨ho, hk⟩, fun f => .dct upd_same hs hd hz h1 (Reps.firm f h2) (Reps.firm f h3)⟩
theorem _root_.L2.PE.frozenD {X : Cx} {ex : Expr} {t : TE} (h : PE X ex t) : PE X ex fun σ H Q => t σ H fun v H' => Q v H' ∨ ∃ a u kvs, H' a = some u ∧ DCell X.K X.w H' u a kvs ∧ ∀ o, (Firms H' (upd H' a (.frz o u)) → Rep X.K X.w (upd H' a (.frz o u)) (.ref a) (.dict kvs)) → Q v (upd H' a (.frz o u)) := by
  refine ⟨fun pins s σ H Q I q => thn (h.run pins s σ H _ I q) fun u s' ⟨v, H', I', r, q⟩ => ?_⟩
  rcases q with q | ⟨a, u, kvs, ha, hd, q⟩
  · exact ⟨v, H', I', r, q⟩
  · obtain ⟨o, J, g⟩ := Inv.freezeD (K := X.K) I' ha hd
    exact ⟨v, _, J, r, q o g⟩
theorem _root_.L2.PE.frozen {X : Cx} {ex : Expr} {t : TE} (h : PE X ex t) : PE X ex fun σ H Q => t σ H fun v H' => Q v H' ∨ ∃ a vs, H' a = some (.lst vs) ∧ ∀ o, Q v (upd H' a (.frz o (.lst vs))) := by
  refine ⟨fun pins s σ H Q I q => thn (h.run pins s σ H _ I q) fun u s' ⟨v, H', I', r, q⟩ => ?_⟩
  rcases q with q | ⟨a, vs, ha, q⟩
  · exact ⟨v, H', I', r, q⟩
  · obtain ⟨o, J⟩ := Inv.freeze I' ha
    exact ⟨v, _, J, r, q o⟩
section
variable {K : PySem.W.Frag} {w : World}
theorem firms_freeze {H : Hp} {a : Addr} {u u' : HO} (h : H a = some u) (n : ¬ Firm u) : Firms H (upd H a u') := fun b o e f => by
  by_cases hb : b = a
  · subst hb; rw [h] at e; cases e; exact absurd f n
  · rw [upd_ne hb]; exact e
end
section
variable {X : Cx} {m : Type → Type} [Monad m] [PyM m] {C : Wd X.K X.w m} {W : WX} {H0 : Hp} {R : Slots} {ex : Expr} {α : Type} {e : α → PyData} {mm : m α}
/-- a new list becomes data -/
theorem SX.f (h : SO X C W H0 R ex e mm) : SE X C W H0 R ex e mm := by
  refine ⟨(PE.frozen h.run).weak fun σ H Q q => ?_⟩
  obtain ⟨s, c, q⟩ := q
  refine ⟨s, c, ?_⟩
  cases z : PyM.run mm s with
  | none => rw [z] at q; exact q
  | some p =>
    obtain ⟨r, s1⟩ := p
    rw [z] at q
    cases r with
    | error x => exact q
    | ok a =>
      rintro v H' ex rl ⟨b, vs, ds, rfl, e2, e3, e4, e5⟩
      have nm : ¬ C.mt b := fun z => by
        obtain ⟨o, ho, _⟩ := C.there _ _ _ c.rel z
        rw [e5] at ho; cases ho
      have ne : ∀ b' u, H' b' = some u → Firm u → b' ≠ b := fun b' u hu f z => by subst z; rw [e3] at hu; cases hu; exact f
      refine .inr ⟨b, vs, e3, fun o => q _ _ (fun b' u hu k => ?_) (C.other _ _ _ _ rl nm ne) ?_⟩
      · have h1 := ex b' u hu k
        rw [upd_ne (ne_of_none hu e5)]
        exact h1
      · show Rep _ _ _ _ (e a)
        rw [e2]
        exact .lst ⟨o, upd_same⟩ (Reps.firm (firms_freeze e3 (fun z => z)) e4)
/-- a new dict becomes data -/
theorem SX.fd (h : SX X C W H0 R (kOD X.K X.w C.mt) ex e mm) : SE X C W H0 R ex e mm := by
  refine ⟨(PE.frozenD h.run).weak fun σ H Q q => ?_⟩
  obtain ⟨s, c, q⟩ := q
  refine ⟨s, c, ?_⟩
  cases z : PyM.run mm s with
  | none => rw [z] at q; exact q
  | some p =>
    obtain ⟨r, s1⟩ := p
    rw [z] at q
    cases r with
    | error x => exact q
    | ok a =>
      rintro v H' ex rl ⟨b, u, ds, rfl, e2, e3, e4, e5⟩
      have nm : ¬ C.mt b := fun z => by
        obtain ⟨o, ho, _⟩ := C.there _ _ _ c.rel z
        rw [e5] at ho; cases ho
      have ne : ∀ b' u', H' b' = some u' → Firm u' → b' ≠ b := fun b' u' hu f z => by subst z; rw [e3] at hu; cases hu; exact e4.soft f
      refine .inr ⟨b, u, ds, e3, e4, fun o g => q _ _ (fun b' u' hu k => ?_) (C.other _ _ _ _ rl nm ne) ?_⟩
      · have h1 := ex b' u' hu k
        rw [upd_ne (ne_of_none hu e5)]
        exact h1
      · show Rep _ _ _ _ (e a)
        rw [e2]
        exact g (firms_freeze e3 e4.soft)

end
end TT

namespace TT
open PyM (fromO)
open PySem PySem.Spec PyProof.Rows L2

/-! ### encoders -/
abbrev eInt : Int → PyData := .int
abbrev eBool : Bool → PyData := .bool
abbrev eStr : Str → PyData := .str
abbrev eNon : Unit → PyData := fun _ => .none
abbrev eAny : PyData → PyData := fun d => d
def eOpt {α : Type} (e : α → PyData) : Option α → PyData
  | none => .none
  | some a => e a
def eTup {α : Type} (e : α → PyData) : List α → PyData := fun xs => .tuple (xs.map e)
def eLst {α : Type} (e : α → PyData) : List α → PyData := fun xs => .list (xs.map e)
def eNil : Unit → PyData := fun _ => .tuple []
def eT1 {α : Type} (e : α → PyData) : α → PyData := fun p => .tuple [e p]
def eT2 {α β : Type} (e : α → PyData) (f : β → PyData) : α × β → PyData := fun p => .tuple [e p.1, f p.2]
def eT3 {α β γ : Type} (e : α → PyData) (f : β → PyData) (g : γ → PyData) : α × β × γ → PyData := fun p => .tuple [e p.1, f p.2.1, g p.2.2]
def eT4 {α β γ δ : Type} (e : α → PyData) (f : β → PyData) (g : γ → PyData) (h : δ → PyData) : α × β × γ × δ → PyData := fun p => .tuple [e p.1, f p.2.1, g p.2.2.1, h p.2.2.2]
def eT5 {α β γ δ ε : Type} (e : α → PyData) (f : β → PyData) (g : γ → PyData) (h : δ → PyData) (i : ε → PyData) : α × β × γ × δ × ε → PyData := fun p => .tuple [e p.1, f p.2.1, g p.2.2.1, h p.2.2.2.1, i p.2.2.2.2]

section
variable {K : PySem.W.Frag} {w : World} {mt : Addr → Prop} {H H' : Hp} {v : V}
theorem kB_int {i : Int} (h : kB K w mt H H' v (.int i)) : v = .int i := by
  rcases h with h | ⟨_, _, _, _, e, _⟩ | ⟨_, _, _, _, e, _⟩
  · cases h; rfl
  · cases e
  · cases e
theorem kB_bool {i : Bool} (h : kB K w mt H H' v (.bool i)) : v = .bl i := by
  rcases h with h | ⟨_, _, _, _, e, _⟩ | ⟨_, _, _, _, e, _⟩
  · cases h; rfl
  · cases e
  · cases e
theorem kB_str {i : Str} (h : kB K w mt H H' v (.str i)) : v = .str i := by
  rcases h with h | ⟨_, _, _, _, e, _⟩ | ⟨_, _, _, _, e, _⟩
  · cases h; rfl
  · cases e
  · cases e
theorem kB_non (h : kB K w mt H H' v .none) : v = .non := by
  rcases h with h | ⟨_, _, _, _, e, _⟩ | ⟨_, _, _, _, e, _⟩
  · cases h; rfl
  · cases e
  · cases e
theorem kB_tup {ds : List PyData} (h : kB K w mt H H' v (.tuple ds)) : ∃ a vs, v = .ref a ∧ SqT K H' a vs ∧ Reps K w H' vs ds := by
  rcases h with h | ⟨_, _, _, _, e, _⟩ | ⟨_, _, _, _, e, _⟩
  · cases h with
    | tup h r => exact ⟨_, _, rfl, h, r⟩
  · cases e
  · cases e
theorem kB_rd {ds : List PyData} (h : kB K w mt H H' v (.list ds)) : ∃ a vs, v = .ref a ∧ Rd H' a (.lst vs) ∧ Reps K w H' vs ds := by
  rcases h with h | ⟨a, vs, ds', h1, e, h2, h3, _⟩ | ⟨_, _, _, _, e, _⟩
  · cases h with
    | lst h r => exact ⟨_, _, rfl, .inr h, r⟩
  · cases e
    exact ⟨a, vs, h1, .inl h2, h3⟩
  · cases e
theorem kB_lst {ds : List PyData} (h : kB K w mt H H' v (.list ds)) : ∃ a vs, v = .ref a ∧ SqL K H' a vs ∧ Reps K w H' vs ds :=
  let ⟨a, vs, h1, h2, h3⟩ := kB_rd h; ⟨a, vs, h1, .inl h2, h3⟩
end

section
variable {X : Cx} {m : Type → Type} [Monad m] [PyM m] {C : Wd X.K X.w m} {W : WX} {H0 : Hp} {R : Slots} {k : Kd} {α β γ : Type} {ea : α → PyData} {eb : β → PyData} {ec : γ → PyData}
variable {a b : Expr} {ma : m α} {mb : m β} {pos : Pos}
theorem SX.weak {ex : Expr} {t : TE} {e : α → PyData} {mm : m α} (h : PE X ex t) (i : ∀ σ H Q, tR C W H0 R k e mm σ H Q → t σ H Q) : SX X C W H0 R k ex e mm := ⟨h.weak i⟩
/-- the monad's term may be said otherwise -/
theorem SX.eq {ex : Expr} {e : α → PyData} {mm mm' : m α} (h : SX X C W H0 R k ex e mm) (q : mm' = mm) : SX X C W H0 R k ex e mm' := by rw [q]; exact h
/-- the value may be said otherwise -/
theorem SX.map {ex : Expr} {e : α → PyData} {mm : m α} (h : SX X C W H0 R k ex e mm) (kk : KdOk k) (f : α → β) (q : ∀ a, eb (f a) = e a) : SX X C W H0 R k ex eb (mm >>= fun a => pure (f a)) :=
  .weak h.run fun σ H Q q1 => by
    obtain ⟨s, c, h⟩ := q1
    refine ⟨s, c, ?_⟩
    rw [PyM.run_bind] at h
    cases z : PyM.run mm s with
    | none => rw [z] at h; exact h
    | some p =>
      obtain ⟨r, s1⟩ := p
      rw [z] at h
      cases r with
      | error x => exact h
      | ok a =>
        have h' : After C W k eb σ H Q (PyM.run (pure (f a)) s1) := h
        rw [PyM.run_pure] at h'
        exact fun v H1 e rl kv => h' v H1 e rl (by rw [q]; exact kv)

/-! ### names and constants -/
theorem se_var {i : Nat} {x : Str} {d : α} (hN : X.N[i]? = some x) (hv : Vis X.env.scope x) (hR : R[i]? = some (some (.frz (ea d)))) (hd : (x == ("__debug__" : Str)) = false) (hcd : (x == ("__classdict__" : Str)) = false) :
    SE X C W H0 R (.Name x pos) ea (pure d) := .weak (pe_var hN hv hd hcd) fun σ H Q h => by
  obtain ⟨⟨s, c⟩, q⟩ := tR_pure h
  obtain ⟨v, e, ok⟩ := c.slot i _ hR
  exact ⟨v, e, q v H (.refl H) ok⟩
theorem sb_own {i : Nat} {x : Str} {d : List α} (hN : X.N[i]? = some x) (hv : Vis X.env.scope x) (hR : R[i]? = some (some (.own (d.map ea)))) (hd : (x == ("__debug__" : Str)) = false) (hcd : (x == ("__classdict__" : Str)) = false) :
    SB X C W H0 R (.Name x pos) (eLst ea) (pure d) := .weak (pe_var hN hv hd hcd) fun σ H Q h => by
  obtain ⟨⟨s, c⟩, q⟩ := tR_pure h
  obtain ⟨v, e, a, vs, h1, h2, h3, h4, h5⟩ := c.slot i _ hR
  exact ⟨v, e, q v H (.refl H) (.inr (.inl ⟨a, vs, _, h1, rfl, h2, h3, h5⟩))⟩
theorem se_int {i : Int} {j} : SE X C W H0 R (.Constant (.int i) j pos) eInt (pure i) := .weak pe_int fun σ H Q h => (tR_pure h).2 _ H (.refl H) (.int i)
theorem se_bool {i : Bool} {j} : SE X C W H0 R (.Constant (.bool i) j pos) eBool (pure i) := .weak pe_bl fun σ H Q h => (tR_pure h).2 _ H (.refl H) (.bl i)
theorem se_str {x : Str} {j} : SE X C W H0 R (.Constant (.str x) j pos) eStr (pure x) := .weak pe_str fun σ H Q h => (tR_pure h).2 _ H (.refl H) (.str x)
theorem se_non {j} : SE X C W H0 R (.Constant .none j pos) eNon (pure ()) := .weak pe_non fun σ H Q h => (tR_pure h).2 _ H (.refl H) .non
theorem se_non_any {j} : SE X C W H0 R (.Constant .none j pos) eAny (pure PyData.none) := .weak pe_non fun σ H Q h => (tR_pure h).2 _ H (.refl H) .non
theorem se_non_opt {j} : SE X C W H0 R (.Constant .none j pos) (eOpt ea) (pure none) := .weak pe_non fun σ H Q h => (tR_pure h).2 _ H (.refl H) .non

/-! ### two operands -/
theorem tR_two {tb : TE} (kk : KdOk k) {g : α → β → m γ} {σ : L2.St} {H : Hp} {Q : VK} (h : tR C W H0 R k ec (ma >>= fun i => mb >>= fun j => g i j) σ H Q) {r : V → V → Hp → Prop}
    (i : ∀ x y H i j, kB X.K X.w C.mt H H x (ea i) → kB X.K X.w C.mt H H y (eb j) → tR C W H0 R k ec (g i j) σ H Q → r x y H) :
    tR C W H0 R (kB X.K X.w C.mt) ea ma σ H fun x H1 => tR C W H0 R (kB X.K X.w C.mt) eb mb σ H1 fun y H2 => r x y H2 :=
  tR_imp (tR_bind kk h) fun x H1 ⟨a, e1, k1, h1⟩ => tR_imp (tR_bind kk h1) fun y H2 ⟨b, e2, k2, h2⟩ => i x y H2 a b (kB.ext e2 k1) k2 h2
theorem sx_bin {op : Operator} {r : R2} (kk : KdOk k) (ho : OpR X (binaryOp op) r) (ha : SB X C W H0 R a ea ma) (hb : SB X C W H0 R b eb mb) {g : α → β → m γ}
    (h : ∀ x y σ H Q i j, kB X.K X.w C.mt H H x (ea i) → kB X.K X.w C.mt H H y (eb j) → tR C W H0 R k ec (g i j) σ H Q → r x y H Q) :
    SX X C W H0 R k (.BinOp a op b pos) ec (ma >>= fun i => mb >>= fun j => g i j) :=
  .weak (pe_op ho ha.run hb.run) fun σ H Q q => tR_two (tb := fun _ _ _ => True) kk q fun x y H2 i j k1 k2 q2 => h x y σ H2 Q i j k1 k2 q2
/-- a comparison, as a value or as a test -/
structure SC (X : Cx) (C : Wd X.K X.w m) (W : WX) (H0 : Hp) (R : Slots) (op : CmpOp) (a b : Expr) (mm : m Bool) : Prop where
  run : PC X op a b (tR C W H0 R (kF X.K X.w C.mt) eBool mm)
theorem SC.e {op : CmpOp} {mm : m Bool} (h : SC X C W H0 R op a b mm) (hm : behindInMarks op b = false) : SE X C W H0 R (.Compare a [op] [b] pos) eBool mm := ⟨pe_cmp h.run hm⟩
theorem sc_cmp {op : CmpOp} {r : R2} (ho : OpR X (compareOp op) r) (ha : SB X C W H0 R a ea ma) (hb : SB X C W H0 R b eb mb) {g : α → β → m Bool}
    (h : ∀ x y σ H Q i j, kB X.K X.w C.mt H H x (ea i) → kB X.K X.w C.mt H H y (eb j) → tR C W H0 R (kF X.K X.w C.mt) eBool (g i j) σ H Q → r x y H Q) :
    SC X C W H0 R op a b (ma >>= fun i => mb >>= fun j => g i j) :=
  ⟨⟨fun pins s σ H Q I q => binT ha.run hb.run I (tR_two (tb := fun _ _ _ => True) (r := fun x y H => r x y H Q) kF_ok q fun x y H2 i j k1 k2 q2 => h x y σ H2 Q i j k1 k2 q2) fun v u s2 x y H2 I2 rx ry q => ho pins s2 σ H2 x y v u Q I2 rx ry q⟩⟩
/-- a one-place thing -/
theorem tR_one (kk : KdOk k) {g : α → m γ} {σ : L2.St} {H : Hp} {Q : VK} (h : tR C W H0 R k ec (ma >>= fun i => g i) σ H Q) {r : V → Hp → Prop}
    (i : ∀ x H i, kB X.K X.w C.mt H H x (ea i) → tR C W H0 R k ec (g i) σ H Q → r x H) : tR C W H0 R (kB X.K X.w C.mt) ea ma σ H r :=
  tR_imp (tR_bind kk h) fun x H1 ⟨a, e1, k1, h1⟩ => i x H1 a k1 h1

/-! ### ints -/
variable {mi mj : m Int}
def mulG (i j : Int) : Option Int := if i.natAbs < 2 ^ 4000 ∧ j.natAbs < 2 ^ 4000 then some (i * j) else none
def divG (i j : Int) : Option Int := if (0 < j ∧ j.natAbs < 2 ^ 4000) ∨ (j ≠ 0 ∧ j.natAbs < 1073741824) then some (i.fdiv j) else none
def modG (i j : Int) : Option Int := if j ≠ 0 then some (i.fmod j) else none
def powG (i j : Int) : Option Int := if 0 ≤ j ∧ j ≤ 1000 ∧ i.natAbs < 2 ^ 64 then some (i ^ j.toNat) else none
theorem op_fdivG : OpR X (binaryOp .FloorDiv) (rI (fun _ j => (0 < j ∧ j.natAbs < 2 ^ 4000) ∨ (j ≠ 0 ∧ j.natAbs < 1073741824)) fun i j => .int (i.fdiv j)) := opI fun i j _ _ _ _ _ hc q => by
  rcases hc with ⟨h1, h2⟩ | ⟨h1, h2⟩
  · exact floordiv_int (by omega) q (.inl (PyProof.noPylong_of_log2 (wide_div (i := i) h1 h2 (by decide) (by decide)).2))
  · exact floordiv_int h1 q (.inl (PyProof.noPylong_small h2))
theorem se_add (ha : SB X C W H0 R a eInt mi) (hb : SB X C W H0 R b eInt mj) : SE X C W H0 R (.BinOp a .Add b pos) eInt (mi >>= fun i => mj >>= fun j => pure (i + j)) :=
  sx_bin kF_ok op_add ha hb fun x y σ H Q i j k1 k2 q => ⟨i, j, kB_int k1, kB_int k2, (tR_pure q).2 _ H (.refl H) (.int _)⟩
theorem se_sub (ha : SB X C W H0 R a eInt mi) (hb : SB X C W H0 R b eInt mj) : SE X C W H0 R (.BinOp a .Sub b pos) eInt (mi >>= fun i => mj >>= fun j => pure (i - j)) :=
  sx_bin kF_ok op_sub ha hb fun x y σ H Q i j k1 k2 q => ⟨i, j, kB_int k1, kB_int k2, (tR_pure q).2 _ H (.refl H) (.int _)⟩
theorem se_mul (ha : SB X C W H0 R a eInt mi) (hb : SB X C W H0 R b eInt mj) : SE X C W H0 R (.BinOp a .Mult b pos) eInt (mi >>= fun i => mj >>= fun j => fromO (mulG i j)) :=
  sx_bin kF_ok op_mulW ha hb fun x y σ H Q i j k1 k2 q => by
    obtain ⟨c, e, _, q⟩ := tR_done q
    unfold mulG at e
    split at e
    · rename_i g
      cases e
      exact ⟨i, j, kB_int k1, kB_int k2, wide_mul g.1 g.2 (by decide) (by decide) (by decide), q _ H (.refl H) (.int _)⟩
    · cases e
theorem se_fdiv (ha : SB X C W H0 R a eInt mi) (hb : SB X C W H0 R b eInt mj) : SE X C W H0 R (.BinOp a .FloorDiv b pos) eInt (mi >>= fun i => mj >>= fun j => fromO (divG i j)) :=
  sx_bin kF_ok op_fdivG ha hb fun x y σ H Q i j k1 k2 q => by
    obtain ⟨c, e, _, q⟩ := tR_done q
    unfold divG at e
    split at e
    · rename_i g
      cases e
      exact ⟨i, j, kB_int k1, kB_int k2, g, q _ H (.refl H) (.int _)⟩
    · cases e
theorem se_mod (ha : SB X C W H0 R a eInt mi) (hb : SB X C W H0 R b eInt mj) : SE X C W H0 R (.BinOp a .Mod b pos) eInt (mi >>= fun i => mj >>= fun j => fromO (modG i j)) :=
  sx_bin kF_ok op_modN ha hb fun x y σ H Q i j k1 k2 q => by
    obtain ⟨c, e, _, q⟩ := tR_done q
    unfold modG at e
    split at e
    · rename_i g
      cases e
      exact ⟨i, j, kB_int k1, kB_int k2, g, q _ H (.refl H) (.int _)⟩
    · cases e
theorem se_pow (ha : SB X C W H0 R a eInt mi) (hb : SB X C W H0 R b eInt mj) : SE X C W H0 R (.BinOp a .Pow b pos) eInt (mi >>= fun i => mj >>= fun j => fromO (powG i j)) :=
  sx_bin kF_ok op_pow ha hb fun x y σ H Q i j k1 k2 q => by
    obtain ⟨c, e, _, q⟩ := tR_done q
    unfold powG at e
    split at e
    · rename_i g
      cases e
      exact ⟨i, j, kB_int k1, kB_int k2, ⟨g.1, Int.le_trans g.2.1 (by decide), g.2.2⟩, q _ H (.refl H) (.int _)⟩
    · cases e
theorem se_neg (ha : SB X C W H0 R a eInt mi) : SE X C W H0 R (.UnaryOp .USub a pos) eInt (mi >>= fun i => pure (-i)) :=
  .weak (pe_un un_neg ha.run) fun σ H Q q => tR_one kF_ok q fun x H1 i k1 q1 => ⟨i, kB_int k1, (tR_pure q1).2 _ H1 (.refl H1) (.int _)⟩

/-! ### comparisons of ints -/
theorem sc_lt (ha : SB X C W H0 R a eInt mi) (hb : SB X C W H0 R b eInt mj) : SC X C W H0 R .Lt a b (mi >>= fun i => mj >>= fun j => pure (decide (i < j))) :=
  sc_cmp op_lt ha hb fun x y σ H Q i j k1 k2 q => ⟨i, j, kB_int k1, kB_int k2, (tR_pure q).2 _ H (.refl H) (.bl _)⟩
theorem sc_le (ha : SB X C W H0 R a eInt mi) (hb : SB X C W H0 R b eInt mj) : SC X C W H0 R .LtE a b (mi >>= fun i => mj >>= fun j => pure (decide (i ≤ j))) :=
  sc_cmp op_le ha hb fun x y σ H Q i j k1 k2 q => ⟨i, j, kB_int k1, kB_int k2, (tR_pure q).2 _ H (.refl H) (.bl _)⟩
theorem sc_gt (ha : SB X C W H0 R a eInt mi) (hb : SB X C W H0 R b eInt mj) : SC X C W H0 R .Gt a b (mi >>= fun i => mj >>= fun j => pure (decide (j < i))) :=
  sc_cmp op_gt ha hb fun x y σ H Q i j k1 k2 q => ⟨i, j, kB_int k1, kB_int k2, (tR_pure q).2 _ H (.refl H) (.bl _)⟩
theorem sc_ge (ha : SB X C W H0 R a eInt mi) (hb : SB X C W H0 R b eInt mj) : SC X C W H0 R .GtE a b (mi >>= fun i => mj >>= fun j => pure (decide (j ≤ i))) :=
  sc_cmp op_ge ha hb fun x y σ H Q i j k1 k2 q => ⟨i, j, kB_int k1, kB_int k2, (tR_pure q).2 _ H (.refl H) (.bl _)⟩

/-! ### == and != of any data -/
theorem reps_plain {K : PySem.W.Frag} {w : World} {H : Hp} {a : Addr} {vs : List V} {ds : List PyData} (h : SqL K H a vs) : True := trivial
/-- what may be compared -/
def eqG (x y : PyData) : Option Bool := if x.plain = true ∧ y.plain = true ∧ min x.depth y.depth < 60 then some (PyData.eqv x y) else none
theorem Inv.readsB {pins : List (Addr × Obj)} {σ : L2.St} {H : Hp} {s : Shared} (I : Inv X pins σ H s) {mt : Addr → Prop} {H1 : Hp} {v : V} {d : PyData} {u : Value} (h : kB X.K X.w mt H1 H v d) (r : RelV v u) : ∃ as, Reads s.heap u d as := by
  rcases h with h | ⟨a, vs, ds, rfl, rfl, h2, h3, _⟩ | ⟨a, z, kvs, rfl, rfl, h2, h3, _⟩
  · exact Inv.reads I h r
  · cases r
    obtain ⟨its, rv, ⟨o, n, ho, hc, hx, hd⟩, _⟩ := I.list (.inl (.inl h2))
    obtain ⟨as, ra⟩ := Inv.readsAll I h3 rv
    exact ⟨_, .list ho hc hd (by simpa using ra)⟩
  · cases r
    cases h3 with
    | n hs dd hz g1 g2 g3 =>
      obtain ⟨hc, ⟨es, n, hd, hp⟩, _⟩ := dd
      have ho := (I.hok _ _ h2).1
      obtain ⟨k1, k2⟩ := pairedReads (X := X) (α := Nat) (f := fun _ => .non) (g := fun _ => .none) hp
      obtain ⟨as, ra⟩ := Inv.readsAll I g2 k1
      obtain ⟨bs, rb⟩ := Inv.readsAll I g3 k2
      exact ⟨_, .dict ho hc.1 hd ra rb⟩
def rDat (mt : Addr → Prop) (X : Cx) (g : PyData → PyData → Option Bool) : R2 := fun x y H Q => ∃ d e b, kB X.K X.w mt H H x d ∧ kB X.K X.w mt H H y e ∧ g d e = some b ∧ Q (.bl b) H
theorem op_eqG {mt : Addr → Prop} (hu : X.A.units + 64 < cLine) : OpR X (compareOp .Eq) (rDat mt X eqG) := by
  intro pins s σ H x y v u Q I rx ry h
  obtain ⟨d, e, b, hx, hy, g, q⟩ := h
  obtain ⟨as, ra⟩ := Inv.readsB I hx rx
  obtain ⟨bs, rb⟩ := Inv.readsB I hy ry
  unfold eqG at g
  split at g
  · rename_i c
    cases g
    exact SeqAt.eq_plain ra rb c.1 c.2.1 (by omega) (fin_bl I q rfl)
  · cases g
theorem op_neG {mt : Addr → Prop} (hu : X.A.units + 64 < cLine) : OpR X (compareOp .NotEq) (rDat mt X fun x y => (eqG x y).map not) := by
  intro pins s σ H x y v u Q I rx ry h
  obtain ⟨d, e, b, hx, hy, g, q⟩ := h
  obtain ⟨as, ra⟩ := Inv.readsB I hx rx
  obtain ⟨bs, rb⟩ := Inv.readsB I hy ry
  have g : (eqG d e).map not = some b := g
  unfold eqG at g
  split at g
  · rename_i c
    cases g
    exact SeqAt.ne_plain ra rb c.1 c.2.1 (by omega) (fin_bl I q rfl)
  · cases g
theorem sc_dat {op : CmpOp} {g : PyData → PyData → Option Bool} (ho : OpR X (compareOp op) (rDat C.mt X g)) (ha : SB X C W H0 R a ea ma) (hb : SB X C W H0 R b eb mb) :
    SC X C W H0 R op a b (ma >>= fun i => mb >>= fun j => fromO (g (ea i) (eb j))) :=
  sc_cmp ho ha hb fun x y σ H Q i j k1 k2 q => by
    obtain ⟨c, e, _, q⟩ := tR_done q
    exact ⟨_, _, c, k1, k2, e, q _ H (.refl H) (.bl _)⟩
theorem sc_eq (hu : X.A.units + 64 < cLine) (ha : SB X C W H0 R a ea ma) (hb : SB X C W H0 R b eb mb) : SC X C W H0 R .Eq a b (ma >>= fun i => mb >>= fun j => fromO (eqG (ea i) (eb j))) := sc_dat (op_eqG hu) ha hb
theorem sc_ne (hu : X.A.units + 64 < cLine) (ha : SB X C W H0 R a ea ma) (hb : SB X C W H0 R b eb mb) : SC X C W H0 R .NotEq a b (ma >>= fun i => mb >>= fun j => fromO ((eqG (ea i) (eb j)).map not)) := sc_dat (op_neG hu) ha hb
end
end TT

namespace TT
open PyM (fromO)
open PySem PySem.Spec PyProof.Rows L2

/-! ### tests -/
section
variable {K : PySem.W.Frag} {w : World} {m : Type → Type} [Monad m] [PyM m]
def AfterT (C : Wd K w m) (W : WX) (σ : L2.St) (H : Hp) (Q : Bool → Hp → Prop) : Res (PyM.S m) Bool → Prop
  | none => False
  | some (.ok a, s') => ∀ H', Ext C.mt H H' → C.rel s' H' → Q a H'
  | some (.error x, s') => ∀ cls d H', Ext C.mt H H' → C.rel s' H' → C.exc x cls d H' → W cls d σ H'
def tT (C : Wd K w m) (W : WX) (H0 : Hp) (R : Slots) (mm : m Bool) : TT := fun σ H Q => ∃ s, Cfg C H0 R s σ H ∧ AfterT C W σ H Q (PyM.run mm s)
structure ST (X : Cx) (C : Wd X.K X.w m) (W : WX) (H0 : Hp) (R : Slots) (ex : Expr) (mm : m Bool) : Prop where
  run : PT X ex (tT C W H0 R mm)
/-- a test whatever its whole is -/
structure SW (X : Cx) (C : Wd X.K X.w m) (W : WX) (H0 : Hp) (R : Slots) (ex : Expr) (mm : m Bool) : Prop where
  run : PW X ex (tT C W H0 R mm)
theorem SW.t {X : Cx} {C : Wd X.K X.w m} {W : WX} {H0 : Hp} {R : Slots} {ex : Expr} {mm : m Bool} (h : SW X C W H0 R ex mm) : ST X C W H0 R ex mm := ⟨h.run.pt⟩
theorem _root_.L2.PW.weak {X : Cx} {ex : Expr} {t t' : TT} (h : PW X ex t) (i : ∀ σ H Q, t' σ H Q → t σ H Q) : PW X ex t' := ⟨fun wh pins s σ H Q I q => h.run wh pins s σ H Q I (i σ H Q q)⟩
variable {C : Wd K w m} {W : WX} {H0 : Hp} {R : Slots} {k : Kd} {β : Type} {eb : β → PyData} {σ : L2.St} {H : Hp} {Q : VK}
theorem tT_bind (kk : KdOk k) {mc : m Bool} {f : Bool → m β} (h : tR C W H0 R k eb (mc >>= f) σ H Q) : tT C W H0 R mc σ H fun c H1 => tR C W H0 R k eb (f c) σ H1 Q := by
  obtain ⟨s, c, h⟩ := h
  refine ⟨s, c, ?_⟩
  rw [PyM.run_bind] at h
  cases q : PyM.run mc s with
  | none => rw [q] at h; exact h
  | some p =>
    obtain ⟨r, s1⟩ := p
    rw [q] at h
    cases r with
    | error x => exact h
    | ok a => exact fun H1 e rl => ⟨s1, c.ext e rl, After.back kk e rl h⟩
theorem tTT_bind {mc : m Bool} {f : Bool → m Bool} {Q : Bool → Hp → Prop} (h : tT C W H0 R (mc >>= f) σ H Q) : tT C W H0 R mc σ H fun c H1 => tT C W H0 R (f c) σ H1 Q := by
  obtain ⟨s, c, h⟩ := h
  refine ⟨s, c, ?_⟩
  rw [PyM.run_bind] at h
  cases q : PyM.run mc s with
  | none => rw [q] at h; exact h
  | some p =>
    obtain ⟨r, s1⟩ := p
    rw [q] at h
    cases r with
    | error x => exact h
    | ok a =>
      refine fun H1 e rl => ⟨s1, c.ext e rl, ?_⟩
      have h : AfterT C W σ H Q (PyM.run (f a) s1) := h
      cases z : PyM.run (f a) s1 with
      | none => rw [z] at h; exact h
      | some p2 =>
        obtain ⟨r2, s2⟩ := p2
        rw [z] at h
        cases r2 with
        | error x => exact fun cls d H' e' rl' => h cls d H' (e.trans e') rl'
        | ok a => exact fun H' e' rl' => h H' (e.trans e') rl'
theorem tT_pure {b : Bool} {Q : Bool → Hp → Prop} (h : tT C W H0 R (pure b) σ H Q) : Q b H := by
  obtain ⟨s, c, h⟩ := h
  rw [PyM.run_pure] at h
  exact h H .refl c.rel
/-- a bool's evaluation, as a test -/
theorem tT_of {mm : m Bool} {Q : Bool → Hp → Prop} (h : tT C W H0 R mm σ H Q) : tR C W H0 R (kF K w C.mt) eBool mm σ H fun x H' => ∃ c, x = .bl c ∧ Q c H' := by
  obtain ⟨s, c, h⟩ := h
  refine ⟨s, c, ?_⟩
  cases q : PyM.run mm s with
  | none => rw [q] at h; exact h
  | some p =>
    obtain ⟨r, s1⟩ := p
    rw [q] at h
    cases r with
    | error x => exact h
    | ok a => exact fun v H1 e rl kv => ⟨a, kB_bool (mt := C.mt) (H := H1) (.inl kv), h H1 e rl⟩
end
section
variable {X : Cx} {m : Type → Type} [Monad m] [PyM m] {C : Wd X.K X.w m} {W : WX} {H0 : Hp} {R : Slots} {k : Kd} {α β γ : Type} {ea : α → PyData} {eb : β → PyData} {ec : γ → PyData}
variable {a b c : Expr} {es : List Expr} {ma : m α} {mb : m β} {mi mj : m Int} {pos : Pos} {mc md : m Bool}
theorem SX.t (h : SE X C W H0 R a eBool mc) (he : ∀ whole, isTrue a X.env whole = (do let v ← whole; standAt a.pos; holding [v] (truthy v))) : ST X C W H0 R a mc :=
  ⟨(pt_val h.run he).weak fun σ H Q q => tT_of q⟩
theorem SC.t {op : CmpOp} (h : SC X C W H0 R op a b mc) (hm : behindInMarks op b = false) : ST X C W H0 R (.Compare a [op] [b] pos) mc := ⟨(pt_cmp h.run hm).weak fun σ H Q q => tT_of q⟩
theorem sw_and1 (h : ST X C W H0 R a mc) : SW X C W H0 R (.BoolOp .And [a] pos) mc := ⟨pw_and1 h.run⟩
theorem sw_or1 (h : ST X C W H0 R a mc) : SW X C W H0 R (.BoolOp .Or [a] pos) mc := ⟨pw_or1 h.run⟩
theorem sw_and (ha : ST X C W H0 R a mc) (hb : SW X C W H0 R (.BoolOp .And (b :: es) pos) md) : SW X C W H0 R (.BoolOp .And (a :: b :: es) pos) (mc >>= fun c => if c = true then md else pure false) :=
  ⟨(pw_and ha.run hb.run).weak fun σ H Q q => by
    obtain ⟨s, c, q⟩ := tTT_bind q
    refine ⟨s, c, ?_⟩
    cases z : PyM.run mc s with
    | none => rw [z] at q; exact q
    | some p =>
      obtain ⟨r, s1⟩ := p
      rw [z] at q
      cases r with
      | error x => exact q
      | ok a =>
        intro H' e rl
        have q := q H' e rl
        cases a with
        | true => exact q
        | false => exact tT_pure q⟩
theorem sw_or (ha : ST X C W H0 R a mc) (hb : SW X C W H0 R (.BoolOp .Or (b :: es) pos) md) : SW X C W H0 R (.BoolOp .Or (a :: b :: es) pos) (mc >>= fun c => if c = true then pure true else md) :=
  ⟨(pw_or ha.run hb.run).weak fun σ H Q q => by
    obtain ⟨s, c, q⟩ := tTT_bind q
    refine ⟨s, c, ?_⟩
    cases z : PyM.run mc s with
    | none => rw [z] at q; exact q
    | some p =>
      obtain ⟨r, s1⟩ := p
      rw [z] at q
      cases r with
      | error x => exact q
      | ok a =>
        intro H' e rl
        have q := q H' e rl
        cases a with
        | true => exact tT_pure q
        | false => exact q⟩
theorem st_not (ha : ST X C W H0 R a mc) : ST X C W H0 R (.UnaryOp .Not a pos) (mc >>= fun c => pure (!c)) :=
  ⟨(pt_not ha.run).weak fun σ H Q q => by
    obtain ⟨s, c, q⟩ := tTT_bind q
    refine ⟨s, c, ?_⟩
    cases z : PyM.run mc s with
    | none => rw [z] at q; exact q
    | some p =>
      obtain ⟨r, s1⟩ := p
      rw [z] at q
      cases r with
      | error x => exact q
      | ok a => exact fun H' e rl => tT_pure (q H' e rl)⟩
theorem kF_bool {K : PySem.W.Frag} {w : World} {mt : Addr → Prop} {H H' : Hp} {v : V} {i : Bool} (h : kF K w mt H H' v (.bool i)) : v = .bl i := kB_bool (mt := mt) (H := H) (.inl h)
/-- and, or, not as values -/
theorem se_and1 (h : SE X C W H0 R a eBool mc) : SE X C W H0 R (.BoolOp .And [a] pos) eBool mc := ⟨pe_one h.run⟩
theorem se_or1 (h : SE X C W H0 R a eBool mc) : SE X C W H0 R (.BoolOp .Or [a] pos) eBool mc := ⟨pe_one h.run⟩
theorem se_and (ha : SE X C W H0 R a eBool mc) (hb : SE X C W H0 R (.BoolOp .And (b :: es) pos) eBool md) : SE X C W H0 R (.BoolOp .And (a :: b :: es) pos) eBool (mc >>= fun c => if c = true then md else pure false) :=
  .weak (pe_and ha.run hb.run) fun σ H Q q => tR_imp (tR_bind kF_ok q) fun v H1 ⟨a, e, kv, q1⟩ => ⟨a, kF_bool kv, by
    cases a with
    | true => exact q1
    | false => exact (tR_pure q1).2 _ H1 (.refl H1) (.bl _)⟩
theorem se_or (ha : SE X C W H0 R a eBool mc) (hb : SE X C W H0 R (.BoolOp .Or (b :: es) pos) eBool md) : SE X C W H0 R (.BoolOp .Or (a :: b :: es) pos) eBool (mc >>= fun c => if c = true then pure true else md) :=
  .weak (pe_or ha.run hb.run) fun σ H Q q => tR_imp (tR_bind kF_ok q) fun v H1 ⟨a, e, kv, q1⟩ => ⟨a, kF_bool kv, by
    cases a with
    | true => exact (tR_pure q1).2 _ H1 (.refl H1) (.bl _)
    | false => exact q1⟩
theorem se_not (ha : SE X C W H0 R a eBool mc) : SE X C W H0 R (.UnaryOp .Not a pos) eBool (mc >>= fun c => pure (!c)) :=
  .weak (pe_not ha.run) fun σ H Q q => tR_imp (tR_bind kF_ok q) fun v H1 ⟨a, e, kv, q1⟩ => ⟨a, kF_bool kv, (tR_pure q1).2 _ H1 (.refl H1) (.bl _)⟩
theorem sx_if {na nb : m α} (kk : KdOk k) (hc : ST X C W H0 R c mc) (ha : SX X C W H0 R k a ea na) (hb : SX X C W H0 R k b ea nb) : SX X C W H0 R k (.IfExp c a b pos) ea (mc >>= fun c => if c = true then na else nb) :=
  .weak (pe_ifExp hc.run ha.run hb.run) fun σ H Q q => by
    obtain ⟨s, c, q⟩ := tT_bind kk q
    refine ⟨s, c, ?_⟩
    cases z : PyM.run mc s with
    | none => rw [z] at q; exact q
    | some p =>
      obtain ⟨r, s1⟩ := p
      rw [z] at q
      cases r with
      | error x => exact q
      | ok a =>
        intro H' e rl
        have q := q H' e rl
        cases a with
        | true => exact q
        | false => exact q
/-- is None -/
def isNon : PyData → Bool
  | .none => true
  | _ => false
theorem isNon_of {K : PySem.W.Frag} {w : World} {mt : Addr → Prop} {H H' : Hp} {v : V} {d : PyData} (h : kB K w mt H H' v d) : decide (v = .non) = isNon d := by
  rcases h with h | ⟨a, vs, ds, rfl, rfl, _⟩ | ⟨a, vs, ds, rfl, rfl, _⟩
  · cases h <;> simp [isNon]
  · simp [isNon]
  · simp [isNon]
theorem sc_is {j} {pos' : Pos} (ha : SB X C W H0 R a ea ma) : SC X C W H0 R .Is a (.Constant .none j pos') (ma >>= fun i => pure (isNon (ea i))) :=
  sc_cmp (mb := pure ()) (eb := eNon) op_isN ha (SX.b se_non) (g := fun i _ => pure (isNon (ea i))) (fun x y σ H Q i j k1 k2 q => ⟨kB_non k2, by rw [isNon_of k1]; exact (tR_pure q).2 _ H (.refl H) (.bl _)⟩) |> fun h => ⟨by
    have := h.run
    refine ⟨fun pins s σ H Q I q => this.run pins s σ H Q I ?_⟩
    obtain ⟨s, c, q⟩ := q
    refine ⟨s, c, ?_⟩
    have e : PyM.run (ma >>= fun i => (pure () : m Unit) >>= fun _ => pure (isNon (ea i))) s = PyM.run (ma >>= fun i => pure (isNon (ea i))) s := by
      rw [PyM.run_bind, PyM.run_bind]
      congr 1
      funext a s'
      rw [PyM.run_bind, PyM.run_pure]
      rfl
    rw [e]
    exact q⟩
theorem sc_isnot {j} {pos' : Pos} (ha : SB X C W H0 R a ea ma) : SC X C W H0 R .IsNot a (.Constant .none j pos') (ma >>= fun i => pure (!isNon (ea i))) :=
  sc_cmp (mb := pure ()) (eb := eNon) op_notN ha (SX.b se_non) (g := fun i _ => pure (!isNon (ea i))) (fun x y σ H Q i j k1 k2 q => ⟨kB_non k2, by rw [isNon_of k1]; exact (tR_pure q).2 _ H (.refl H) (.bl _)⟩) |> fun h => ⟨by
    have := h.run
    refine ⟨fun pins s σ H Q I q => this.run pins s σ H Q I ?_⟩
    obtain ⟨s, c, q⟩ := q
    refine ⟨s, c, ?_⟩
    have e : PyM.run (ma >>= fun i => (pure () : m Unit) >>= fun _ => pure (!isNon (ea i))) s = PyM.run (ma >>= fun i => pure (!isNon (ea i))) s := by
      rw [PyM.run_bind, PyM.run_bind]
      congr 1
      funext a s'
      rw [PyM.run_bind, PyM.run_pure]
      rfl
    rw [e]
    exact q⟩
end

/-! ### argument lists and displays -/
section
variable {K : PySem.W.Frag} {w : World} {m : Type → Type} [Monad m] [PyM m]
def AfterA (C : Wd K w m) (W : WX) {γ : Type} (eg : γ → List PyData) (σ : L2.St) (H : Hp) (Q : List V → Hp → Prop) : Res (PyM.S m) γ → Prop
  | none => False
  | some (.ok g, s') => ∀ vs H', Ext C.mt H H' → C.rel s' H' → Reps K w H' vs (eg g) → Q vs H'
  | some (.error x, s') => ∀ cls d H', Ext C.mt H H' → C.rel s' H' → C.exc x cls d H' → W cls d σ H'
def tA (C : Wd K w m) (W : WX) (H0 : Hp) (R : Slots) {γ : Type} (eg : γ → List PyData) (mm : m γ) : TA := fun σ H Q => ∃ s, Cfg C H0 R s σ H ∧ AfterA C W eg σ H Q (PyM.run mm s)
structure SA (X : Cx) (C : Wd X.K X.w m) (W : WX) (H0 : Hp) (R : Slots) (es : List Expr) {γ : Type} (eg : γ → List PyData) (mm : m γ) : Prop where
  run : PA X es (tA C W H0 R eg mm)
theorem _root_.L2.PA.weak {X : Cx} {es : List Expr} {t t' : TA} (h : PA X es t) (i : ∀ σ H Q, t' σ H Q → t σ H Q) : PA X es t' := ⟨fun pos pins s σ H Q I q => h.run pos pins s σ H Q I (i σ H Q q)⟩
end
section
variable {X : Cx} {m : Type → Type} [Monad m] [PyM m] {C : Wd X.K X.w m} {W : WX} {H0 : Hp} {R : Slots} {k : Kd} {α β γ : Type} {ea : α → PyData} {eb : β → PyData} {ec : γ → PyData}
variable {a b c : Expr} {es : List Expr} {ma : m α} {mb : m β} {mi mj : m Int} {pos : Pos} {mc md : m Bool} {eg : γ → List PyData} {mg : m γ}
theorem sa_one (ha : SE X C W H0 R a ea ma) (hs : starEach (a :: []) X.env = (false, eval a X.env) :: starEach [] X.env := by rfl) : SA X C W H0 R [a] (fun x => [ea x]) ma :=
  ⟨(pa_cons ha.run pa_nil hs).weak fun σ H Q q => by
    obtain ⟨s, c, q⟩ := q
    refine ⟨s, c, ?_⟩
    cases z : PyM.run ma s with
    | none => rw [z] at q; exact q
    | some p =>
      obtain ⟨r, s1⟩ := p
      rw [z] at q
      cases r with
      | error x => exact q
      | ok a => exact fun v H' e rl kv => q [v] H' e rl (.cons kv .nil)⟩
theorem sa_cons (ha : SE X C W H0 R a ea ma) (hb : SA X C W H0 R es eg mg) (hs : starEach (a :: es) X.env = (false, eval a X.env) :: starEach es X.env := by rfl) :
    SA X C W H0 R (a :: es) (fun p : α × γ => ea p.1 :: eg p.2) (ma >>= fun x => mg >>= fun g => pure (x, g)) :=
  ⟨(pa_cons ha.run hb.run hs).weak fun σ H Q q => by
    obtain ⟨s, c, q⟩ := q
    refine ⟨s, c, ?_⟩
    rw [PyM.run_bind] at q
    cases z : PyM.run ma s with
    | none => rw [z] at q; exact q
    | some p =>
      obtain ⟨r, s1⟩ := p
      rw [z] at q
      cases r with
      | error x => exact q
      | ok a =>
        intro v H1 e rl kv
        have q : AfterA C W (fun p : α × γ => ea p.1 :: eg p.2) σ H Q (PyM.run (mg >>= fun g => pure (a, g)) s1) := q
        rw [PyM.run_bind] at q
        refine ⟨s1, c.ext e rl, ?_⟩
        cases z2 : PyM.run mg s1 with
        | none => rw [z2] at q; exact q
        | some p2 =>
          obtain ⟨r2, s2⟩ := p2
          rw [z2] at q
          cases r2 with
          | error x => exact fun cls d H' e' rl' => q cls d H' (e.trans e') rl'
          | ok g =>
            have q : AfterA C W (fun p : α × γ => ea p.1 :: eg p.2) σ H Q (PyM.run (pure (a, g) : m (α × γ)) s2) := q
            rw [PyM.run_pure] at q
            exact fun vs H' e' rl' rs => q (v :: vs) H' (e.trans e') rl' (.cons (Rep.firm e'.firms kv) rs)⟩
theorem small64 {n : Nat} (h : n ≤ 64) : n ≤ sizeLine := Nat.le_trans h (by rw [sizeLine_eq]; decide)
theorem se_tup {et : γ → PyData} {x1 : Nat} (h : SA X C W H0 R es eg mg) (q : ∀ g, et g = .tuple (eg g)) (hl : ∀ g, (eg g).length ≤ 64) : SE X C W H0 R (.Tuple es x1 pos) et mg :=
  .weak (pe_tup h.run) fun σ H Q z => by
    obtain ⟨s, c, z⟩ := z
    refine ⟨s, c, ?_⟩
    cases y : PyM.run mg s with
    | none => rw [y] at z; exact z
    | some p =>
      obtain ⟨r, s1⟩ := p
      rw [y] at z
      cases r with
      | error x => exact z
      | ok g =>
        intro vs H' e rl rs
        refine ⟨small64 (by rw [rs.length]; exact hl g), fun p hp => z _ _ (e.trans (.of_same (Same.new hp))) (C.keep _ _ _ rl (Same.new hp)) ?_⟩
        show Rep _ _ _ _ (et g)
        rw [q]
        exact .tup (.of upd_same) (Reps.firm (fun b o h _ => Same.new hp b o h) rs)
theorem se_tup0 {x1} : SE X C W H0 R (.Tuple [] x1 pos) (eTup ea) (pure []) :=
  .weak (pe_tup pa_nil) fun σ H Q z => ⟨small64 (Nat.zero_le _), fun p hp => (tR_pure z).2 _ _ (Same.new hp) (.tup (.of upd_same) .nil)⟩
theorem so_nil : SO X C W H0 R (.List [] pos) (eLst ea) (pure []) :=
  .weak (pe_lst pa_nil) fun σ H Q z => ⟨small64 (Nat.zero_le _), fun p hp => (tR_pure z).2 _ _ (Same.new hp) ⟨p, [], [], rfl, rfl, upd_same, .nil, hp⟩⟩
theorem so_lst {f : γ → List α} (h : SA X C W H0 R es eg mg) (q : ∀ g, (f g).map ea = eg g) (hl : ∀ g, (eg g).length ≤ 64) : SO X C W H0 R (.List es pos) (eLst ea) (mg >>= fun g => pure (f g)) :=
  .weak (pe_lst h.run) fun σ H Q z => by
    obtain ⟨s, c, z⟩ := z
    refine ⟨s, c, ?_⟩
    rw [PyM.run_bind] at z
    cases y : PyM.run mg s with
    | none => rw [y] at z; exact z
    | some p =>
      obtain ⟨r, s1⟩ := p
      rw [y] at z
      cases r with
      | error x => exact z
      | ok g =>
        intro vs H' e rl rs
        have z : After C W (kO X.K X.w C.mt) (eLst ea) σ H Q (PyM.run (pure (f g)) s1) := z
        rw [PyM.run_pure] at z
        refine ⟨small64 (by rw [rs.length]; exact hl g), fun p hp => z _ _ (e.trans (.of_same (Same.new hp))) (C.keep _ _ _ rl (Same.new hp)) ⟨p, vs, eg g, rfl, ?_, upd_same, Reps.firm (fun b o h _ => Same.new hp b o h) rs, ?_⟩⟩
        · show PyData.list _ = _
          rw [q]
        · exact none_back e (fun b hb => let ⟨o, ho, _⟩ := C.there _ _ _ rl hb; ⟨o, ho⟩) p hp
/-- a tuple of things of one kind -/
theorem se_tupH {f : γ → List α} {x1 : Nat} (h : SA X C W H0 R es eg mg) (q : ∀ g, (f g).map ea = eg g) (hl : ∀ g, (eg g).length ≤ 64) : SE X C W H0 R (.Tuple es x1 pos) (eTup ea) (mg >>= fun g => pure (f g)) :=
  SX.map (se_tup (et := fun g => .tuple (eg g)) h (fun _ => rfl) hl) kF_ok f fun g => by show PyData.tuple _ = _; rw [q]

/-! ### subscripts -/
theorem Reps.atI {K : PySem.W.Frag} {w : World} {H : Hp} {vs : List V} {ds : List PyData} {i : Int} {d : PyData} (r : Reps K w H vs ds) (h : L2.atI ds i = some d) : ∃ v, L2.atI vs i = some v ∧ Rep K w H v d := by
  unfold L2.atI at h ⊢
  rw [r.length]
  cases e : ixN ds.length i with
  | none => rw [e] at h; cases h
  | some j =>
    rw [e] at h
    exact r.get h
theorem atI_map {f : α → β} {xs : List α} {i : Int} : L2.atI (xs.map f) i = (L2.atI xs i).map f := by
  unfold L2.atI
  rw [List.length_map]
  cases ixN xs.length i with
  | none => rfl
  | some j => exact List.getElem?_map
theorem sx_ix {r : R2} (kk : KdOk k) (hr : IxR X r) (ha : SB X C W H0 R a ea ma) (hb : SB X C W H0 R b eb mb) (hs : PlainIx b) {g : α → β → m γ}
    (h : ∀ x y σ H Q i j, kB X.K X.w C.mt H H x (ea i) → kB X.K X.w C.mt H H y (eb j) → tR C W H0 R k ec (g i j) σ H Q → r x y H Q) :
    SX X C W H0 R k (.Subscript a b pos) ec (ma >>= fun i => mb >>= fun j => g i j) :=
  .weak (pe_ix hr ha.run hb.run hs) fun σ H Q q => tR_two (tb := fun _ _ _ => True) kk q fun x y H2 i j k1 k2 q2 => h x y σ H2 Q i j k1 k2 q2
theorem se_ixT {mxs : m (List α)} (ha : SB X C W H0 R a (eTup ea) mxs) (hb : SB X C W H0 R b eInt mi) (hs : PlainIx b) : SE X C W H0 R (.Subscript a b pos) ea (mxs >>= fun xs => mi >>= fun i => fromO (L2.atI xs i)) :=
  sx_ix kF_ok ix_tup ha hb hs fun x y σ H Q xs i k1 k2 q => by
    obtain ⟨c, e, _, q⟩ := tR_done q
    obtain ⟨p, vs, rfl, h1, h2⟩ := kB_tup k1
    obtain ⟨v, e1, r⟩ := h2.atI (i := i) (d := ea c) (by rw [atI_map, e]; rfl)
    exact ⟨p, vs, i, v, rfl, kB_int k2, h1, e1, q v H (.refl H) r⟩
theorem se_ixL {mxs : m (List α)} (ha : SB X C W H0 R a (eLst ea) mxs) (hb : SB X C W H0 R b eInt mi) (hs : PlainIx b) : SE X C W H0 R (.Subscript a b pos) ea (mxs >>= fun xs => mi >>= fun i => fromO (L2.atI xs i)) :=
  sx_ix kF_ok ix_list ha hb hs fun x y σ H Q xs i k1 k2 q => by
    obtain ⟨c, e, _, q⟩ := tR_done q
    obtain ⟨p, vs, rfl, h1, h2⟩ := kB_lst k1
    obtain ⟨v, e1, r⟩ := h2.atI (i := i) (d := ea c) (by rw [atI_map, e]; rfl)
    exact ⟨p, vs, i, v, rfl, kB_int k2, h1, e1, q v H (.refl H) r⟩
/-- a written place of a tuple of known form -/
theorem se_ixC {i : Int} (ha : SB X C W H0 R a ea ma) (hb : SB X C W H0 R b eInt (pure i)) (hs : PlainIx b) (f : α → γ) (h : ∀ p, ∃ ds, ea p = .tuple ds ∧ L2.atI ds i = some (ec (f p))) :
    SE X C W H0 R (.Subscript a b pos) ec (ma >>= fun p => pure (f p)) :=
  .weak (pe_ix ix_tup ha.run hb.run hs) fun σ H Q q => tR_imp (tR_bind kF_ok q) fun x H1 ⟨p, e1, k1, q1⟩ => by
    obtain ⟨s, c, q1⟩ := q1
    rw [PyM.run_pure] at q1
    refine ⟨s, c, ?_⟩
    rw [PyM.run_pure]
    intro y H2 e rl ky
    obtain ⟨ds, h1, h2⟩ := h p
    have k1' := kB.ext e k1
    rw [h1] at k1'
    obtain ⟨t, vs, rfl, h3, h4⟩ := kB_tup k1'
    obtain ⟨v, e2, r⟩ := h4.atI h2
    refine ⟨t, vs, i, v, rfl, kB_int ky, h3, e2, ?_⟩
    exact q1 v H2 e rl r
end
end TT

namespace TT
open PyM (fromO)
open PySem PySem.Spec PyProof.Rows L2

/-! ### what a loop walks -/
structure Wk (K : PySem.W.Frag) (w : World) (P : Hp → Prop) (J : It) (ds : List PyData) : Prop where
  go : ∀ i H, P H → i < ds.length → J.go i H ∧ ∀ x H', J.yld i H x H' → Same H H' ∧ ∃ d, ds[i]? = some d ∧ Rep K w H' x d
  stop : ∀ i H, P H → ds.length ≤ i → J.stop i H
  len : ds.length ≤ sizeLine
/-- while what is firm stands; while all that was tracked stands -/
abbrev Pk := Hp → Hp → Prop
section
variable {K : PySem.W.Frag} {w : World} {m : Type → Type} [Monad m] [PyM m]
def AfterI (C : Wd K w m) (W : WX) (P : Pk) {α : Type} (e : α → PyData) (σ : L2.St) (H : Hp) (Q : It → Hp → Prop) : Res (PyM.S m) (List α) → Prop
  | none => False
  | some (.ok xs, s') => ∀ J H', Ext C.mt H H' → C.rel s' H' → Wk K w (P H') J (xs.map e) → Q J H'
  | some (.error x, s') => ∀ cls d H', Ext C.mt H H' → C.rel s' H' → C.exc x cls d H' → W cls d σ H'
def tI (C : Wd K w m) (W : WX) (H0 : Hp) (R : Slots) (P : Pk) {α : Type} (e : α → PyData) (mm : m (List α)) : TI := fun σ H Q => ∃ s, Cfg C H0 R s σ H ∧ AfterI C W P e σ H Q (PyM.run mm s)
structure SI (X : Cx) (C : Wd X.K X.w m) (W : WX) (H0 : Hp) (R : Slots) (P : Pk) (tg ex : Expr) {α : Type} (e : α → PyData) (mm : m (List α)) : Prop where
  run : PI X tg ex (tI C W H0 R P e mm)
end
theorem _root_.L2.PI.weak {X : Cx} {tg ex : Expr} {t t' : TI} (h : PI X tg ex t) (i : ∀ σ H Q, t' σ H Q → t σ H Q) : PI X tg ex t' := ⟨fun pins s σ H Q I q => h.run pins s σ H Q I (i σ H Q q)⟩
/-- lengths that the heap grants -/
def LenOk (K : PySem.W.Frag) (H : Hp) : Prop := (∀ a vs, SqL K H a vs → vs.length ≤ sizeLine) ∧ (∀ a vs, SqT K H a vs → vs.length ≤ sizeLine) ∧ (∀ a vs ws, SqL K H a vs → SqL K H a ws → vs = ws) ∧ (∀ a vs ws, SqT K H a vs → SqT K H a ws → vs = ws)
theorem Inv.lenOk {X : Cx} {pins : List (Addr × Obj)} {σ : L2.St} {H : Hp} {s : Shared} (I : Inv X pins σ H s) : LenOk X.K H :=
  ⟨fun a vs h => let ⟨_, _, _, z⟩ := I.list h; z, fun a vs h => let ⟨_, _, _, z⟩ := I.tuple h; z, fun a vs ws h h' => I.list_inj h h', fun a vs ws h h' => I.tuple_inj h h'⟩
theorem _root_.L2.PE.facts {X : Cx} {ex : Expr} {t : TE} (h : PE X ex t) : PE X ex fun σ H Q => t σ H fun v H' => LenOk X.K H' → Q v H' :=
  ⟨fun pins s σ H Q I q => thn (h.run pins s σ H _ I q) fun u s' ⟨v, H', I', r, q⟩ => ⟨v, H', I', r, q (Inv.lenOk I')⟩⟩
theorem _root_.L2.PA.facts {X : Cx} {es : List Expr} {t : TA} (h : PA X es t) : PA X es fun σ H Q => t σ H fun v H' => LenOk X.K H' → Q v H' :=
  ⟨fun pos pins s σ H Q I q => thn (h.run pos pins s σ H _ I q) fun u s' ⟨v, H', I', r, q⟩ => ⟨v, H', I', r, q (Inv.lenOk I')⟩⟩

section
variable {X : Cx} {m : Type → Type} [Monad m] [PyM m] {C : Wd X.K X.w m} {W : WX} {H0 : Hp} {R : Slots} {P : Pk} {α β γ : Type} {ea : α → PyData} {eb : β → PyData} {ec : γ → PyData}
variable {a b c tg : Expr} {es : List Expr} {ma : m α} {mb : m β} {mi mj : m Int} {pos p : Pos} {mxs : m (List α)}
theorem tI_of {σ : L2.St} {H : Hp} {Q : It → Hp → Prop} {k : Kd} {e : List α → PyData} (h : tI C W H0 R P ea mxs σ H Q) {Q' : VK}
    (i : ∀ xs s' v H', Ext C.mt H H' → C.rel s' H' → k H H' v (e xs) → (∀ J, Wk X.K X.w (P H') J (xs.map ea) → Q J H') → Q' v H') : tR C W H0 R k e mxs σ H Q' := by
  obtain ⟨s, c, h⟩ := h
  refine ⟨s, c, ?_⟩
  cases q : PyM.run mxs s with
  | none => rw [q] at h; exact h
  | some p =>
    obtain ⟨r, s1⟩ := p
    rw [q] at h
    cases r with
    | error x => exact h
    | ok xs => exact fun v H' e rl kv => i xs s1 v H' e rl kv fun J wk => h J H' e rl wk
theorem wk_tup {K : PySem.W.Frag} {w : World} {H : Hp} {a : Addr} {vs : List V} {ds : List PyData} (l : LenOk K H) (h : SqT K H a vs) (r : Reps K w H vs ds) (fs : ∀ {H'}, P H H' → Firms H H') : Wk K w (P H) (Itt K a) ds where
  go := fun i H' p hi => by
    obtain ⟨v, hv, rv⟩ := r.get (i := i) (List.getElem?_eq_getElem hi)
    refine ⟨⟨vs, v, SqT.firm (fs p) h, hv⟩, fun x H2 y => ?_⟩
    obtain ⟨rfl, y⟩ := y
    have e := y vs (SqT.firm (fs p) h)
    rw [hv] at e; cases e
    exact ⟨.refl _, _, List.getElem?_eq_getElem hi, Rep.firm (fs p) rv⟩
  stop := fun i H' p hi => ⟨vs, SqT.firm (fs p) h, by rw [r.length]; exact hi⟩
  len := by rw [← r.length]; exact l.2.1 _ _ h
theorem si_tup (ha : SB X C W H0 R a (eTup ea) mxs) (fs : ∀ {H H'}, P H H' → Firms H H') : SI X C W H0 R P tg a ea mxs :=
  ⟨(pi_tup (PE.facts ha.run)).weak fun σ H Q q => tI_of q fun xs s' v H' e rl kv f l => by
    obtain ⟨t, vs, rfl, h1, h2⟩ := kB_tup kv
    exact ⟨t, rfl, ⟨vs, h1⟩, f _ (wk_tup l h1 h2 fs)⟩⟩
theorem wk_lst {K : PySem.W.Frag} {w : World} {H : Hp} {a : Addr} {vs : List V} {ds : List PyData} (l : LenOk K H) (h : SqL K H a vs) (r : Reps K w H vs ds) (fs : ∀ {H'}, P H H' → Firms H H') (ls : ∀ {H'}, P H H' → SqL K H' a vs) : Wk K w (P H) (Itl K a) ds where
  go := fun i H' p hi => by
    obtain ⟨v, hv, rv⟩ := r.get (i := i) (List.getElem?_eq_getElem hi)
    refine ⟨⟨vs, v, ls p, hv⟩, fun x H2 y => ?_⟩
    obtain ⟨rfl, y⟩ := y
    have e := y vs (ls p)
    rw [hv] at e; cases e
    exact ⟨.refl _, _, List.getElem?_eq_getElem hi, Rep.firm (fs p) rv⟩
  stop := fun i H' p hi => ⟨vs, ls p, by rw [r.length]; exact hi⟩
  len := by rw [← r.length]; exact l.1 _ _ h
/-- a list that nobody writes any more -/
theorem si_lst (ha : SE X C W H0 R a (eLst ea) mxs) (fs : ∀ {H H'}, P H H' → Firms H H') : SI X C W H0 R P tg a ea mxs :=
  ⟨(pi_list (PE.facts ha.run)).weak fun σ H Q q => tI_of q fun xs s' v H' e rl kv f l => by
    have kv : Rep X.K X.w H' v (.list (xs.map ea)) := kv
    cases kv with
    | lst h r => exact ⟨_, rfl, ⟨_, h.sq⟩, f _ (wk_lst l h.sq r fs fun p => (h.firm (fs p)).sq)⟩⟩
/-- a list that is not written while it is walked -/
theorem si_lstB (ha : SB X C W H0 R a (eLst ea) mxs) : SI X C W H0 R (Ext C.mt) tg a ea mxs :=
  ⟨(pi_list (PE.facts ha.run)).weak fun σ H Q q => tI_of q fun xs s' v H' e rl kv f l => by
    rcases kv with h | ⟨t, vs, ds, h1, h2, h3, h4, h5⟩ | ⟨_, _, _, _, h2, _⟩
    · have kv : Rep X.K X.w H' v (.list (xs.map ea)) := h
      cases kv with
      | lst h9 r => exact ⟨_, rfl, ⟨_, h9.sq⟩, f _ (wk_lst l h9.sq r Ext.firms fun p => (h9.firm (Ext.firms p)).sq)⟩
    · have h2 : PyData.list (xs.map ea) = .list ds := h2
      injection h2 with h2
      subst h2
      exact ⟨t, h1, ⟨vs, .of h3⟩, f _ (wk_lst l (.of h3) h4 Ext.firms fun p => .of (p _ _ h3 (.inl h5)))⟩
    · cases (show PyData.list (xs.map ea) = .dict _ from h2)⟩
/-- lo, lo + 1, .. -/
def rangeL (lo : Int) : Nat → List Int
  | 0 => []
  | n + 1 => lo :: rangeL (lo + 1) n
theorem rangeL_len : ∀ (n : Nat) (lo : Int), (rangeL lo n).length = n
  | 0, _ => rfl
  | n + 1, lo => by show (rangeL (lo + 1) n).length + 1 = _; rw [rangeL_len n]
theorem rangeL_get : ∀ (n : Nat) (lo : Int) (i : Nat), i < n → (rangeL lo n)[i]? = some (lo + i)
  | 0, _, _, h => absurd h (Nat.not_lt_zero _)
  | n + 1, lo, 0, _ => by show some lo = _; simp
  | n + 1, lo, i + 1, h => by
    show (rangeL (lo + 1) n)[i]? = _
    rw [rangeL_get n (lo + 1) i (by omega)]
    congr 1
    omega
theorem wk_range {K : PySem.W.Frag} {w : World} {Q : Hp → Prop} {lo : Int} {n : Nat} (hn : n ≤ sizeLine) : Wk K w Q (Itr lo n) ((rangeL lo n).map eInt) where
  go := fun i H _ hi => by
    rw [List.length_map, rangeL_len] at hi
    refine ⟨hi, fun x H' y => ?_⟩
    obtain ⟨rfl, rfl⟩ := y
    exact ⟨.refl _, _, by rw [List.getElem?_map, rangeL_get n lo i hi]; rfl, .int _⟩
  stop := fun i H _ hi => by rw [List.length_map, rangeL_len] at hi; exact hi
  len := by rw [List.length_map, rangeL_len]; exact hn
/-- range(n), range(a, b) -/
def rangeG (lo hi : Int) : Option (List Int) := if -1000000000 ≤ lo ∧ lo ≤ 1000000000 ∧ -1000000000 ≤ hi ∧ hi ≤ 1000000000 ∧ hi - lo ≤ 16777216 then some (rangeL lo (hi - lo).toNat) else none
theorem rangeG_some {lo hi : Int} {xs : List Int} (h : rangeG lo hi = some xs) : (-1000000000 ≤ lo ∧ lo ≤ 1000000000 ∧ -1000000000 ≤ hi ∧ hi ≤ 1000000000 ∧ hi - lo ≤ 16777216) ∧ xs = rangeL lo (hi - lo).toNat := by
  unfold rangeG at h
  split at h
  · rename_i g
    cases h
    exact ⟨g, rfl⟩
  · cases h
theorem tI_done {o : Option (List α)} {σ : L2.St} {H : Hp} {Q : It → Hp → Prop} (h : tI C W H0 R P ea (fromO o) σ H Q) : ∃ xs, o = some xs ∧ ∀ J, Wk X.K X.w (P H) J (xs.map ea) → Q J H := by
  obtain ⟨s, c, h⟩ := h
  rw [PyM.run_fromO] at h
  cases o with
  | none => exact h.elim
  | some a => exact ⟨a, rfl, fun J wk => h J H .refl c.rel wk⟩
theorem tI_bind {f : α → m (List β)} {k : Kd} {σ : L2.St} {H : Hp} {Q : It → Hp → Prop} (h : tI C W H0 R P eb (ma >>= f) σ H Q) :
    tR C W H0 R k ea ma σ H fun v H1 => ∃ a, Ext C.mt H H1 ∧ k H H1 v (ea a) ∧ tI C W H0 R P eb (f a) σ H1 Q := by
  obtain ⟨s, c, h⟩ := h
  refine ⟨s, c, ?_⟩
  rw [PyM.run_bind] at h
  cases q : PyM.run ma s with
  | none => rw [q] at h; exact h
  | some p =>
    obtain ⟨r, s1⟩ := p
    rw [q] at h
    cases r with
    | error x => exact h
    | ok a =>
      refine fun v H1 e rl kv => ⟨a, e, kv, s1, c.ext e rl, ?_⟩
      have h : AfterI C W P eb σ H Q (PyM.run (f a) s1) := h
      cases z : PyM.run (f a) s1 with
      | none => rw [z] at h; exact h
      | some p2 =>
        obtain ⟨r2, s2⟩ := p2
        rw [z] at h
        cases r2 with
        | error x => exact fun cls d H' e' rl' => h cls d H' (e.trans e') rl'
        | ok a => exact fun J H' e' rl' wk => h J H' (e.trans e') rl' wk
theorem si_range1 (hg : Gl X "range") (hm : X.mg "range" = none) (ha : SB X C W H0 R a eInt mi) (hs : starEach [a] X.env = [(false, eval a X.env)] := by rfl) :
    SI X C W H0 R P tg (.Call (.Name "range" p) [a] [] pos) eInt (mi >>= fun i => fromO (rangeG 0 i)) :=
  ⟨(pi_range1 hg hm (pa_cons ha.run pa_nil (by rw [hs]; rfl)) hs).weak fun σ H Q q => tR_imp (tI_bind (k := kB X.K X.w C.mt) (ea := eInt) q) fun v H1 ⟨i, e, kv, q⟩ => by
    obtain ⟨xs, h, q⟩ := tI_done q
    obtain ⟨g, rfl⟩ := rangeG_some h
    refine ⟨i, by rw [kB_int kv], by omega, by omega, q _ ?_⟩
    rw [show (i - 0).toNat = i.toNat by omega]
    exact wk_range (by rw [sizeLine_eq]; omega)⟩
theorem si_range2 (hg : Gl X "range") (hm : X.mg "range" = none) (ha : SB X C W H0 R a eInt mi) (hb : SB X C W H0 R b eInt mj) (hs : starEach [a, b] X.env = [(false, eval a X.env), (false, eval b X.env)] := by rfl) (hs2 : starEach [b] X.env = [(false, eval b X.env)] := by rfl) :
    SI X C W H0 R P tg (.Call (.Name "range" p) [a, b] [] pos) eInt (mi >>= fun i => mj >>= fun j => fromO (rangeG i j)) :=
  ⟨(pi_range2 hg hm (pa_cons ha.run (pa_cons hb.run pa_nil (by rw [hs2]; rfl)) (by rw [hs, hs2])) hs hs2).weak fun σ H Q q => tR_imp (tI_bind (k := kB X.K X.w C.mt) (ea := eInt) q) fun v H1 ⟨i, e, kv, q⟩ => tR_imp (tI_bind (k := kB X.K X.w C.mt) (ea := eInt) q) fun v2 H2 ⟨j, e2, kv2, q⟩ => by
    obtain ⟨xs, h, q⟩ := tI_done q
    obtain ⟨g, rfl⟩ := rangeG_some h
    refine ⟨i, j, by rw [kB_int kv, kB_int kv2], ⟨by omega, by omega, by omega, by omega⟩, q _ ?_⟩
    exact wk_range (by rw [sizeLine_eq]; omega)⟩
end

/-! ### targets -/
/-- the slots is get the values vs -/
def setσ : L2.St → List Nat → List V → L2.St
  | σ, i :: is, v :: vs => setσ (σ.set i (some v)) is vs
  | σ, _, _ => σ
def setR : Slots → List Nat → List PyData → Slots
  | R, i :: is, d :: ds => setR (R.set i (some (.frz d))) is ds
  | R, _, _ => R
structure GOk (K : PySem.W.Frag) (w : World) (g : TG) {α : Type} (ea : α → PyData) (is : List Nat) (dts : α → List PyData) : Prop where
  run : ∀ a v σ H Q, Rep K w H v (ea a) → (∀ vs, Reps K w H vs (dts a) → Q (setσ σ is vs) H) → g v σ H Q
section
variable {K : PySem.W.Frag} {w : World} {m : Type → Type} [Monad m] [PyM m] {C : Wd K w m} {H0 : Hp} {R R' : Slots} {s s' : PyM.S m} {σ : L2.St} {H H' : Hp} {α : Type} {ea : α → PyData}
theorem setR_len : ∀ {is : List Nat} {ds : List PyData} {R : Slots}, (setR R is ds).length = R.length
  | [], _, _ => by simp [setR]
  | _ :: _, [], _ => by simp [setR]
  | i :: is, d :: ds, R => by show (setR _ is ds).length = _; rw [setR_len, List.length_set]
theorem Cfg.setAll : ∀ {is : List Nat} {ds : List PyData} {vs : List V} {R : Slots} {σ : L2.St}, Cfg C H0 R s σ H → (∀ i ∈ is, i < R.length) → Reps K w H vs ds → Cfg C H0 (setR R is ds) s (setσ σ is vs) H
  | [], _, _, _, _, c, _, _ => by simpa [setR, setσ] using c
  | _ :: _, _, _, _, _, c, _, .nil => by simpa [setR, setσ] using c
  | i :: is, _, _, R, σ, c, h, .cons r t => by
    show Cfg C H0 (setR _ is _) s (setσ _ is _) H
    exact Cfg.setAll (c.setF (h i (by simp)) r) (fun j hj => by rw [List.length_set]; exact h j (by simp [hj])) t
theorem g_name {i : Nat} : GOk K w (gName i) ea [i] (fun a => [ea a]) := ⟨fun a v σ H Q r q => q [v] (.cons r .nil)⟩
def gNames : List Nat → TGs
  | [] => gNil
  | i :: is => gCons (gName i) (gNames is)
theorem gNames_ok {K : PySem.W.Frag} {w : World} {H : Hp} {Q : L2.St → Hp → Prop} : ∀ {is : List Nat} {vs : List V} {σ : L2.St}, vs.length = is.length → Q (setσ σ is vs) H → gNames is vs σ H Q
  | [], [], σ, _, q => ⟨rfl, by simpa [setσ] using q⟩
  | i :: is, v :: vs, σ, h, q => ⟨v, vs, rfl, gNames_ok (K := K) (w := w) (is := is) (by simpa using h) q⟩
  | [], _ :: _, _, h, _ => by simp at h
  | _ :: _, [], _, h, _ => by simp at h
theorem g_tup {is : List Nat} {dts : α → List PyData} (h : ∀ a, ea a = .tuple (dts a)) (hl : ∀ a, (dts a).length = is.length) : GOk K w (gTup K is.length (gNames is)) ea is dts := ⟨fun a v σ H Q r q => by
  rw [h] at r
  cases r with
  | tup h r => exact ⟨_, _, rfl, h, by rw [r.length, hl], gNames_ok (K := K) (w := w) (by rw [r.length, hl]) (q _ r)⟩⟩
end
/-! ### the slots of a comprehension's block -/
def wipeR : Slots → List Nat → Slots
  | R, [] => R
  | R, v :: vs => (wipeR R vs).set v none
theorem wipeR_len {R : Slots} : ∀ vs, (wipeR R vs).length = R.length
  | [] => rfl
  | v :: vs => by show ((wipeR R vs).set v none).length = _; rw [List.length_set, wipeR_len vs]
theorem wipeR_at {R : Slots} {i : Nat} {x : Slot} : ∀ {vs : List Nat}, (wipeR R vs)[i]? = some (some x) → R[i]? = some (some x) ∧ i ∉ vs
  | [], h => ⟨h, by simp⟩
  | v :: vs, h => by
    have h : ((wipeR R vs).set v none)[i]? = some (some x) := h
    by_cases hi : v = i
    · subst hi
      by_cases hl : v < (wipeR R vs).length
      · rw [List.getElem?_set_self hl] at h; cases h
      · rw [List.getElem?_eq_none (by rw [List.length_set]; omega)] at h; cases h
    · rw [List.getElem?_set_ne hi] at h
      obtain ⟨h1, h2⟩ := wipeR_at h
      exact ⟨h1, by simp only [List.mem_cons, not_or]; exact ⟨fun e => hi e.symm, h2⟩⟩
theorem wipe_other {σ : L2.St} {i : Nat} : ∀ {vs : List Nat}, i ∉ vs → (wipe σ vs)[i]? = σ[i]?
  | [], _ => rfl
  | v :: vs, h => by
    show ((wipe σ vs).set v none)[i]? = _
    rw [List.getElem?_set_ne (fun e => h (by simp [e])), wipe_other fun q => h (by simp [q])]
theorem Cfg.wipe {K : PySem.W.Frag} {w : World} {m : Type → Type} [Monad m] [PyM m] {C : Wd K w m} {H0 : Hp} {R : Slots} {s : PyM.S m} {σ : L2.St} {H : Hp} (c : Cfg C H0 R s σ H) (vs : List Nat) : Cfg C H0 (wipeR R vs) s (L2.wipe σ vs) H :=
  ⟨by rw [wipeR_len, wipe_length]; exact c.len, c.base, c.rel, fun i x h => by
    obtain ⟨h1, h2⟩ := wipeR_at h
    rw [wipe_other h2]
    exact c.slot i x h1, fun i j x y n h1 h2 ox oy => by
    obtain ⟨a1, a2⟩ := wipeR_at h1
    obtain ⟨b1, b2⟩ := wipeR_at h2
    rw [wipe_other a2, wipe_other b2]
    exact c.apart i j x y n a1 b1 ox oy⟩
theorem wipe_set_in {σ : L2.St} {i : Nat} {x : Option V} : ∀ {vs : List Nat}, i ∈ vs → wipe (σ.set i x) vs = wipe σ vs
  | [], h => by simp at h
  | v :: vs, h => by
    show (wipe (σ.set i x) vs).set v none = (wipe σ vs).set v none
    by_cases hi : i ∈ vs
    · rw [wipe_set_in hi]
    · have e : i = v := by
        rcases List.mem_cons.mp h with e | e
        · exact e
        · exact absurd e hi
      subst e
      apply List.ext_getElem?
      intro j
      by_cases hj : i = j
      · subst hj
        have l1 : (wipe (σ.set i x) vs).length = (wipe σ vs).length := by rw [wipe_length, wipe_length, List.length_set]
        by_cases hl : i < (wipe σ vs).length
        · rw [List.getElem?_set_self hl, List.getElem?_set_self (by rw [l1]; exact hl)]
        · rw [List.getElem?_eq_none (by rw [List.length_set]; omega), List.getElem?_eq_none (by rw [List.length_set]; omega)]
      · rw [List.getElem?_set_ne hj, List.getElem?_set_ne hj]
        by_cases hv : j ∈ vs
        · have : ∀ (τ : L2.St) {us : List Nat}, j ∈ us → (wipe τ us)[j]? = if j < τ.length then some none else none := by
            intro τ us
            induction us with
            | nil => intro h; simp at h
            | cons u us ih =>
              intro h
              show ((wipe τ us).set u none)[j]? = _
              by_cases hu : u = j
              · subst hu
                by_cases hl : u < (wipe τ us).length
                · rw [List.getElem?_set_self hl, if_pos (by rw [wipe_length] at hl; exact hl)]
                · rw [List.getElem?_eq_none (by rw [List.length_set]; omega), if_neg (by rw [wipe_length] at hl; exact hl)]
              · rw [List.getElem?_set_ne hu]
                refine ih ?_
                rcases List.mem_cons.mp h with e | e
                · exact absurd e.symm hu
                · exact e
          rw [this _ hv, this _ hv, List.length_set]
        · rw [wipe_other hv, wipe_other hv, List.getElem?_set_ne hj]
theorem wipe_wipe {σ : L2.St} : ∀ {vs us : List Nat}, (∀ v ∈ us, v ∈ vs) → wipe (wipe σ us) vs = wipe σ vs
  | vs, [], _ => rfl
  | vs, u :: us, h => by
    show wipe ((wipe σ us).set u none) vs = _
    rw [wipe_set_in (h u (by simp)), wipe_wipe fun v hv => h v (by simp [hv])]
theorem wipe_setσ : ∀ {is : List Nat} {ws : List V} {σ : L2.St} {vs : List Nat}, (∀ i ∈ is, i ∈ vs) → wipe (setσ σ is ws) vs = wipe σ vs
  | [], _, _, _, _ => by simp [setσ]
  | _ :: _, [], _, _, _ => by simp [setσ]
  | i :: is, v :: ws, σ, vs, h => by
    show wipe (setσ _ is ws) vs = _
    rw [wipe_setσ fun j hj => h j (by simp [hj]), wipe_set_in (h i (by simp))]
end TT

namespace TT
open PyM (fromO)
open PySem PySem.Spec PyProof.Rows L2

/-- [f x for x in xs if g x] -/
def compL {m : Type → Type} [Monad m] {α β : Type} (g : α → m Bool) (f : α → m β) : List α → m (List β)
  | [] => pure []
  | x :: xs => g x >>= fun c => if c = true then f x >>= fun y => compL g f xs >>= fun ys => pure (y :: ys) else compL g f xs
/-- a clause's tests -/
structure SIf (X : Cx) {m : Type → Type} [Monad m] [PyM m] (C : Wd X.K X.w m) (W : WX) (H0 : Hp) (R : Slots) (ifs : List Expr) (mm : m Bool) : Prop where
  run : PTs X ifs (tT C W H0 R mm)
section
variable {X : Cx} {m : Type → Type} [Monad m] [PyM m] {C : Wd X.K X.w m} {W : WX} {H0 : Hp} {R : Slots} {mc : m Bool} {c : Expr}
theorem sf_nil : SIf X C W H0 R [] (pure true) := ⟨⟨fun pins s σ H Q I h => pts_nil.run pins s σ H Q I (tT_pure h)⟩⟩
theorem sf_one (h : ST X C W H0 R c mc) : SIf X C W H0 R [c] mc := ⟨pts_one h.run⟩
end
abbrev W0 : WX := fun _ _ _ _ => False
section
variable {X : Cx} {m : Type → Type} [Monad m] [PyM m] {C : Wd X.K X.w m} {W : WX} {H0 : Hp} {R : Slots} {α β : Type} {ea : α → PyData} {eb : β → PyData}
variable {elt tg iter : Expr} {ifs : List Expr} {scope : Scope} {own : List (Str × Nat)} {pos : Pos} {mi : m (List α)} {mt : α → m Bool} {me : α → m β} {g : TG} {is : List Nat} {dts : α → List PyData}
/-- what holds between a comprehension's turns -/
def CompW (X : Cx) (C : Wd X.K X.w m) (W : WX) (eb : β → PyData) (mt : α → m Bool) (me : α → m β) (xs : List α) (σ : L2.St) (H1 : Hp) (D : Addr) (Q : VK) (i k : Nat) (H2 : Hp) : Prop :=
  k = xs.length - i ∧ i ≤ xs.length ∧ ∃ (s2 : PyM.S m) (accV : List V) (acc : List β), Ext C.mt H1 H2 ∧ C.rel s2 H2 ∧ H2 D = some (.lst accV) ∧ Reps X.K X.w H2 accV (acc.map eb) ∧ acc.length ≤ i ∧
        After C W (kO X.K X.w C.mt) (fun ys => eLst eb (acc ++ ys)) σ H1 Q (PyM.run (compL mt me (xs.drop i)) s2)
/-- what goes on in a comprehension's turns -/
theorem tLc_ok [NoErr m] {vs : List Nat} (hgo : GOk X.K X.w g ea is dts) (hin : ∀ i ∈ is, i ∈ vs) (hlt : ∀ i ∈ is, i < R.length) {σ : L2.St} {H : Hp} {Q : VK}
    (q : tR C W H0 R (kO X.K X.w C.mt) (eLst eb) (mi >>= compL mt me) σ H Q) :
    tLc (tI C W H0 R (Ext C.mt) ea mi) g (fun σ H Q => ∃ a, tT C W0 H0 (setR (wipeR R vs) is (dts a)) (mt a) σ H Q) (fun σ H Q => ∃ a, tR C W0 H0 (setR (wipeR R vs) is (dts a)) (kF X.K X.w C.mt) eb (me a) σ H Q) vs σ H Q := by
  obtain ⟨s, c, q⟩ := q
  refine ⟨s, c, ?_⟩
  rw [PyM.run_bind] at q
  cases z : PyM.run mi s with
  | none => rw [z] at q; exact q
  | some p =>
    obtain ⟨r, s1⟩ := p
    rw [z] at q
    cases r with
    | error x => exact q
    | ok xs =>
      intro J H1 e1 rl1 wk D hD
      have c1 : Cfg C H0 R s1 σ H1 := c.ext e1 rl1
      have q : After C W (kO X.K X.w C.mt) (eLst eb) σ H Q (PyM.run (compL mt me xs) s1) := q
      have q := After.back (k := kO X.K X.w C.mt) kO_ok e1 rl1 q
      have nD : ¬ C.mt D := fun z => by
        obtain ⟨o, ho, _⟩ := C.there _ _ _ rl1 z
        rw [hD] at ho; cases ho
      have ex0 : Ext C.mt H1 (upd H1 D (.lst [])) := .of_same (Same.new hD)
      -- what holds between the turns
      refine ⟨CompW X C W eb mt me xs σ H1 D Q, ⟨xs.length, rfl, Nat.zero_le _, s1, [], [], ex0, C.keep _ _ _ rl1 (Same.new hD), upd_same, .nil, Nat.le_refl _, q⟩, ?_⟩
      rintro i k H2 ⟨rfl, hi, s2, accV, acc, e2, rl2, hD2, ra, hl, q2⟩
      by_cases hlt' : i < xs.length
      · obtain ⟨go, yl⟩ := wk.go i H2 e2 (by rw [List.length_map]; exact hlt')
        refine .inr ⟨go, CompW X C W eb mt me xs σ H1 D Q (i + 1) (xs.length - (i + 1)), fun H' hN => ⟨xs.length - (i + 1), by omega, hN⟩, ?_⟩
        · intro x H3 y
          obtain ⟨e3, d, hd, rx⟩ := yl x H3 y
          have hx : xs[i]? = some xs[i] := List.getElem?_eq_getElem hlt'
          rw [List.getElem?_map, hx] at hd
          have hd : some (ea xs[i]) = some d := hd
          cases hd
          refine hgo.run xs[i] x _ H3 _ rx fun ws rws => ⟨?_, xs[i], ?_⟩
          · rw [wipe_setσ hin, wipe_wipe fun v hv => hv]
          have rl3 : C.rel s2 H3 := C.keep _ _ _ rl2 e3
          have e13 : Ext C.mt H1 H3 := e2.trans (.of_same e3)
          have c3 : Cfg C H0 (setR (wipeR R vs) is (dts xs[i])) s2 (setσ (wipe σ vs) is ws) H3 := ((c1.ext e13 rl3).wipe vs).setAll (fun j hj => by rw [wipeR_len]; exact hlt j hj) rws
          refine ⟨s2, c3, ?_⟩
          have hdr : xs.drop i = xs[i] :: xs.drop (i + 1) := List.drop_eq_getElem_cons hlt'
          rw [hdr] at q2
          have q2 : After C W (kO X.K X.w C.mt) (fun ys => eLst eb (acc ++ ys)) σ H1 Q (PyM.run (mt xs[i] >>= fun c => if c = true then me xs[i] >>= fun y => compL mt me (xs.drop (i + 1)) >>= fun ys => pure (y :: ys) else compL mt me (xs.drop (i + 1))) s2) := q2
          rw [PyM.run_bind] at q2
          cases z2 : PyM.run (mt xs[i]) s2 with
          | none => rw [z2] at q2; exact q2
          | some p2 =>
            obtain ⟨r2, s3⟩ := p2
            cases r2 with
            | error x => exact absurd z2 (NoErr.ok _ _ _ _)
            | ok b =>
              rw [z2] at q2
              intro H4 e4 rl4
              have e14 : Ext C.mt H1 H4 := e13.trans e4
              have hD3 : H3 D = some (.lst accV) := e3 _ _ hD2
              have hD4 : H4 D = some (.lst accV) := e4 _ _ hD3 (.inl nD)
              cases b with
              | false =>
                rw [if_neg Bool.false_ne_true]
                exact ⟨rfl, hlt', s3, accV, acc, e14, rl4, hD4, Reps.firm e4.firms (Reps.firm (fun b o h _ => e3 b o h) ra), Nat.le_succ_of_le hl, q2⟩
              | true =>
                rw [if_pos rfl]
                have q2 : After C W (kO X.K X.w C.mt) (fun ys => eLst eb (acc ++ ys)) σ H1 Q (PyM.run (me xs[i] >>= fun y => compL mt me (xs.drop (i + 1)) >>= fun ys => pure (y :: ys)) s3) := q2
                rw [PyM.run_bind] at q2
                refine ⟨xs[i], s3, c3.ext e4 rl4, ?_⟩
                cases z3 : PyM.run (me xs[i]) s3 with
                | none => rw [z3] at q2; exact q2
                | some p3 =>
                  obtain ⟨r3, s4⟩ := p3
                  cases r3 with
                  | error x => exact absurd z3 (NoErr.ok _ _ _ _)
                  | ok y =>
                    rw [z3] at q2
                    intro v H5 e5 rl5 kv
                    have hD5 : H5 D = some (.lst accV) := e5 _ _ hD4 (.inl nD)
                    have nf : ∀ b u, H5 b = some u → Firm u → b ≠ D := fun b u hu f z => by subst z; rw [hD5] at hu; cases hu; exact f
                    have fm : Firms H5 (upd H5 D (.lst (accV ++ [v]))) := firms_upd' hD5 (fun z => z)
                    have ra5 : Reps X.K X.w H5 accV (acc.map eb) := Reps.firm e5.firms (Reps.firm e4.firms (Reps.firm (fun b o h _ => e3 b o h) ra))
                    have hlen : accV.length = acc.length := by rw [ra.length, List.length_map]
                    have hn := wk.len
                    rw [List.length_map] at hn
                    refine ⟨accV, hD5, by omega, rfl, hlt', s4, accV ++ [v], acc ++ [y], ?_, C.other _ _ _ _ rl5 nD nf, upd_same, ?_, ?_, ?_⟩
                    · intro b o hb k
                      rw [upd_ne (ne_of_none hb hD)]
                      exact (e14.trans e5) b o hb k
                    · rw [List.map_append]
                      exact Reps.append (Reps.firm fm ra5) (.cons (Rep.firm fm kv) .nil)
                    · rw [List.length_append]
                      simp
                      exact hl
                    · have q2 : After C W (kO X.K X.w C.mt) (fun ys => eLst eb (acc ++ ys)) σ H1 Q (PyM.run (compL mt me (xs.drop (i + 1)) >>= fun ys => pure (y :: ys)) s4) := q2
                      rw [PyM.run_bind] at q2
                      cases z4 : PyM.run (compL mt me (xs.drop (i + 1))) s4 with
                      | none => rw [z4] at q2; exact q2
                      | some p4 =>
                        obtain ⟨r4, s5⟩ := p4
                        rw [z4] at q2
                        cases r4 with
                        | error x => exact q2
                        | ok ys =>
                          have q2 : After C W (kO X.K X.w C.mt) (fun ys => eLst eb (acc ++ ys)) σ H1 Q (PyM.run (pure (y :: ys)) s5) := q2
                          rw [PyM.run_pure] at q2
                          intro v' H' e' rl' kv'
                          refine q2 v' H' e' rl' ?_
                          show kO X.K X.w C.mt H1 H' v' (eLst eb (acc ++ (y :: ys)))
                          have : acc ++ (y :: ys) = acc ++ [y] ++ ys := by simp
                          rw [this]
                          exact kv'
      · have hi' : i = xs.length := by omega
        subst hi'
        refine .inl ⟨wk.stop _ H2 e2 (by rw [List.length_map]; exact Nat.le_refl _), ?_⟩
        rw [List.drop_length] at q2
        have q2 : After C W (kO X.K X.w C.mt) (fun ys => eLst eb (acc ++ ys)) σ H1 Q (PyM.run (pure []) s2) := q2
        rw [PyM.run_pure] at q2
        refine q2 (.ref D) H2 e2 rl2 ⟨D, accV, acc.map eb, rfl, ?_, hD2, ra, hD⟩
        show PyData.list _ = _
        rw [List.append_nil]
theorem so_comp [NoErr m] (hc : X.calm = true) (hN : X.N.Nodup) (hi : SI X C W H0 R (Ext C.mt) tg iter ea mi) (ok : BlkOk X.N X.env.scope scope own)
    (hg : ∀ (s : Shared) (H : Hp) (Cc : Addr) (cl : List (Str × Addr)) (fp : List Addr), PG (X.blk s H scope (compEnvC scope cl Cc X.env) fp) tg g)
    (hgo : GOk X.K X.w g ea is dts) (hin : ∀ i ∈ is, i ∈ own.map (·.2)) (hlt : ∀ i ∈ is, i < R.length)
    (ht : ∀ (a : α) (s : Shared) (H : Hp) (Cc : Addr) (cl : List (Str × Addr)) (fp : List Addr), SIf (X.blk s H scope (compEnvC scope cl Cc X.env) fp) C W0 H0 (setR (wipeR R (own.map (·.2))) is (dts a)) ifs (mt a))
    (he : ∀ (a : α) (s : Shared) (H : Hp) (Cc : Addr) (cl : List (Str × Addr)) (fp : List Addr), SE (X.blk s H scope (compEnvC scope cl Cc X.env) fp) C W0 H0 (setR (wipeR R (own.map (·.2))) is (dts a)) elt eb (me a))
    (hs : ∀ x, foldedSetIterable iter X.env x = pure x := by intro _; rfl) :
    SO X C W H0 R (.ListComp elt [⟨tg, iter, ifs, 0⟩] scope pos) (eLst eb) (mi >>= compL mt me) :=
  .weak (pe_lc hc hN hi.run ok hg (tt := fun σ H Q => ∃ a, tT C W0 H0 (setR (wipeR R (own.map (·.2))) is (dts a)) (mt a) σ H Q)
      (te := fun σ H Q => ∃ a, tR C W0 H0 (setR (wipeR R (own.map (·.2))) is (dts a)) (kF X.K X.w C.mt) eb (me a) σ H Q)
      (fun s H Cc cl fp => ⟨fun pins s' σ H' Q I ⟨a, h⟩ => (ht a s H Cc cl fp).run.run pins s' σ H' Q I h⟩) (fun s H Cc cl fp => ⟨fun pins s' σ H' Q I ⟨a, h⟩ => (he a s H Cc cl fp).run.run pins s' σ H' Q I h⟩) hs)
    fun σ H Q q => tLc_ok hgo hin hlt q
end
end TT

namespace TT
open PyM (fromO)
open PySem PySem.Spec PyProof.Rows L2

/-- how a block ends: it goes on, it returns, it leaves the loop, it goes to the loop's next turn -/
inductive Out (ρ ε δ : Type) where
  | nx (d : δ)
  | rt (r : ρ)
  | bk (d : ε)
  | ct (d : ε)
section
variable {K : PySem.W.Frag} {w : World} {m : Type → Type} [Monad m] [PyM m]
def AfterS (C : Wd K w m) (W : WX) (H0 H : Hp) {ρ ε δ : Type} (er : ρ → PyData) (Rb : ε → Slots) (Rn : δ → Slots) (D : Ends) : Res (PyM.S m) (Out ρ ε δ) → Prop
  | none => False
  | some (.ok (.nx d), s') => ∀ σ' H', Firms H H' → Cfg C H0 (Rn d) s' σ' H' → D.nx σ' H'
  | some (.ok (.rt r), s') => ∀ v H', Ext C.mt H0 H' → C.rel s' H' → Rep K w H' v (er r) → D.rt v H'
  | some (.ok (.bk d), s') => ∀ σ' H', Firms H H' → Cfg C H0 (Rb d) s' σ' H' → D.bk σ' H'
  | some (.ok (.ct d), s') => ∀ σ' H', Firms H H' → Cfg C H0 (Rb d) s' σ' H' → D.ct σ' H'
  | some (.error x, s') => ∀ cls d σ' H', Ext C.mt H0 H' → C.rel s' H' → C.exc x cls d H' → W cls d σ' H'
def tS (C : Wd K w m) (W : WX) (H0 : Hp) (R : Slots) {ρ ε δ : Type} (er : ρ → PyData) (Rb : ε → Slots) (Rn : δ → Slots) (mm : m (Out ρ ε δ)) : TS := fun D σ H => ∃ s, Cfg C H0 R s σ H ∧ AfterS C W H0 H er Rb Rn D (PyM.run mm s)
theorem Firms.refl (H : Hp) : Firms H H := fun _ _ h _ => h
theorem Firms.trans {H H1 H2 : Hp} (a : Firms H H1) (b : Firms H1 H2) : Firms H H2 := fun c o h f => b c o (a c o h f) f
theorem AfterS.mono {C : Wd K w m} {W : WX} {H0 H H1 : Hp} {ρ ε δ : Type} {er : ρ → PyData} {Rb : ε → Slots} {Rn : δ → Slots} {D : Ends} (f : Firms H H1) : ∀ {r : Res (PyM.S m) (Out ρ ε δ)}, AfterS C W H0 H er Rb Rn D r → AfterS C W H0 H1 er Rb Rn D r
  | some (.ok (.nx d), s'), h => fun σ' H' f' c => h σ' H' (f.trans f') c
  | some (.ok (.rt r), s'), h => h
  | some (.ok (.bk d), s'), h => fun σ' H' f' c => h σ' H' (f.trans f') c
  | some (.ok (.ct d), s'), h => fun σ' H' f' c => h σ' H' (f.trans f') c
  | some (.error x, s'), h => h
end
structure SL (X : Cx) {m : Type → Type} [Monad m] [PyM m] (C : Wd X.K X.w m) (W : WX) (H0 : Hp) (R : Slots) (sts : List Stmt) {ρ ε δ : Type} (er : ρ → PyData) (Rb : ε → Slots) (Rn : δ → Slots) (mm : m (Out ρ ε δ)) : Prop where
  run : PSs X sts (tS C W H0 R er Rb Rn mm)
abbrev noE : Empty → Slots := fun e => e.elim
/-- a block that always returns -/
abbrev SF (X : Cx) {m : Type → Type} [Monad m] [PyM m] (C : Wd X.K X.w m) (W : WX) (H0 : Hp) (R : Slots) (sts : List Stmt) {ρ : Type} (er : ρ → PyData) (mm : m ρ) : Prop :=
  SL X C W H0 R sts er noE noE (mm >>= fun r => pure (Out.rt r))
/-- a block that always goes on -/
abbrev SP (X : Cx) {m : Type → Type} [Monad m] [PyM m] (C : Wd X.K X.w m) (W : WX) (H0 : Hp) (R : Slots) (sts : List Stmt) {δ : Type} (Rn : δ → Slots) (mm : m δ) : Prop :=
  SL X C W H0 R sts (ρ := Empty) (fun e => e.elim) noE Rn (mm >>= fun d => pure (Out.nx d))

section
variable {X : Cx} {m : Type → Type} [Monad m] [PyM m] {C : Wd X.K X.w m} {W : WX} {H0 : Hp} {R : Slots} {α β γ ρ ε δ : Type} {ea : α → PyData} {eb : β → PyData} {er : ρ → PyData} {Rb : ε → Slots} {Rn : δ → Slots}
variable {e : Expr} {st : Stmt} {rest sts : List Stmt} {me : m α} {pos : Pos} {mm mm' : m (Out ρ ε δ)}
theorem Res.bind_assoc {S α β γ : Type} (x : Res S α) (f : α → S → Res S β) (g : β → S → Res S γ) : Res.bind (Res.bind x f) g = Res.bind x fun a s => Res.bind (f a s) g := by
  match x with
  | none => rfl
  | some (.ok a, s) => rfl
  | some (.error e, s) => rfl
/-- two terms that run alike -/
def Alike {α : Type} (x y : m α) : Prop := ∀ s, PyM.run x s = PyM.run y s
theorem Alike.refl (x : m α) : Alike x x := fun _ => rfl
theorem Alike.symm {x y : m α} (h : Alike x y) : Alike y x := fun s => (h s).symm
theorem Alike.trans {x y z : m α} (h : Alike x y) (h' : Alike y z) : Alike x z := fun s => (h s).trans (h' s)
theorem alike_assoc (x : m α) (f : α → m β) (g : β → m γ) : Alike (x >>= f >>= g) (x >>= fun a => f a >>= g) := fun s => by
  rw [PyM.run_bind, PyM.run_bind, PyM.run_bind, Res.bind_assoc]
  congr 1
  funext a s'
  rw [PyM.run_bind]
theorem alike_bind {x : m α} {f g : α → m β} (h : ∀ a, Alike (f a) (g a)) : Alike (x >>= f) (x >>= g) := fun s => by
  rw [PyM.run_bind, PyM.run_bind]
  congr 1
  funext a s'
  exact h a s'
theorem alike_bind2 {x y : m α} {f g : α → m β} (hx : Alike x y) (h : ∀ a, Alike (f a) (g a)) : Alike (x >>= f) (y >>= g) := fun s => by
  rw [PyM.run_bind, PyM.run_bind, hx s]
  congr 1
  funext a s'
  exact h a s'
theorem alike_pure {a : α} {f : α → m β} : Alike (pure a >>= f) (f a) := fun s => by rw [PyM.run_bind, PyM.run_pure]; rfl
theorem SL.alike (h : SL X C W H0 R sts er Rb Rn mm) (a : Alike mm' mm) : SL X C W H0 R sts er Rb Rn mm' := ⟨h.run.weak fun D σ H ⟨s, c, q⟩ => ⟨s, c, by rw [← a s]; exact q⟩⟩
theorem SL.sub {R' : Slots} (h : SL X C W H0 R sts er Rb Rn mm) (i : SubS R R') : SL X C W H0 R' sts er Rb Rn mm := ⟨h.run.weak fun D σ H ⟨s, c, q⟩ => ⟨s, c.sub i, q⟩⟩
/-- an expression is evaluated for a statement -/
theorem tS_bind {k : Kd} {f : α → m (Out ρ ε δ)} {D : Ends} {σ : L2.St} {H : Hp} (h : tS C W H0 R er Rb Rn (me >>= f) D σ H) {Q : VK}
    (i : ∀ a v H', k H H' v (ea a) → Ext C.mt H H' → (∀ b, H' b = none → H b = none) → tS C W H0 R er Rb Rn (f a) D σ H' → Q v H') : tR C W H0 R k ea me σ H Q := by
  obtain ⟨s, c, h⟩ := h
  refine ⟨s, c, ?_⟩
  rw [PyM.run_bind] at h
  cases q : PyM.run me s with
  | none => rw [q] at h; exact h
  | some p =>
    obtain ⟨r, s1⟩ := p
    rw [q] at h
    cases r with
    | error x => exact fun cls d H' e rl ex => h cls d σ H' (c.base.trans e) rl ex
    | ok a => exact fun v H1 e rl kv => i a v H1 kv e (none_back e fun b hb => let ⟨o, ho, _⟩ := C.there _ _ _ rl hb; ⟨o, ho⟩) ⟨s1, c.ext e rl, AfterS.mono e.firms h⟩
theorem tS_test {mc : m Bool} {f : Bool → m (Out ρ ε δ)} {D : Ends} {σ : L2.St} {H : Hp} (h : tS C W H0 R er Rb Rn (mc >>= f) D σ H) : tT C W H0 R mc σ H fun b H' => tS C W H0 R er Rb Rn (f b) D σ H' := by
  obtain ⟨s, c, h⟩ := h
  refine ⟨s, c, ?_⟩
  rw [PyM.run_bind] at h
  cases q : PyM.run mc s with
  | none => rw [q] at h; exact h
  | some p =>
    obtain ⟨r, s1⟩ := p
    rw [q] at h
    cases r with
    | error x => exact fun cls d H' e rl ex => h cls d σ H' (c.base.trans e) rl ex
    | ok a => exact fun H1 e rl => ⟨s1, c.ext e rl, AfterS.mono e.firms h⟩

/-! ### blocks -/
theorem sl_nil (d : δ) (h : SubS (Rn d) R) : SL X C W H0 R [] er Rb Rn (pure (.nx d)) := ⟨pss_nil.weak fun D σ H ⟨s, c, q⟩ => by
  rw [PyM.run_pure] at q
  exact q σ H (Firms.refl H) (c.sub h)⟩
theorem sp_nil (d : δ) (h : SubS (Rn d) R) : SP X C W H0 R [] Rn (pure d) := (sl_nil d h).alike alike_pure
theorem sl_ret {me : m ρ} (h : SE X C W H0 R e er me) : SL X C W H0 R (.Return (some e) pos :: rest) er Rb Rn (me >>= fun r => pure (.rt r)) :=
  ⟨(pss_cons (ps_ret h.run) pss_never).weak fun D σ H q => by
    have := tS_bind (k := kF X.K X.w C.mt) (ea := er) q (Q := D.rt) fun a v H' kv e _ ⟨s, c, q⟩ => by
      rw [PyM.run_pure] at q
      exact q v H' c.base c.rel kv
    exact this⟩
theorem sf_ret {me : m ρ} (h : SE X C W H0 R e er me) : SF X C W H0 R (Stmt.Return (some e) pos :: rest) er me := sl_ret h
theorem sl_pass (h : SL X C W H0 R rest er Rb Rn mm) : SL X C W H0 R (.Pass pos :: rest) er Rb Rn mm := ⟨(pss_cons ps_pass h.run).weak fun D σ H q => q⟩
theorem sl_break (d : ε) (h : SubS (Rb d) R) : SL X C W H0 R (.Break pos :: rest) er Rb Rn (pure (.bk d)) := ⟨(pss_cons ps_break pss_never).weak fun D σ H ⟨s, c, q⟩ => by
  rw [PyM.run_pure] at q
  exact q σ H (Firms.refl H) (c.sub h)⟩
/-- x = e -/
theorem sl_set {i : Nat} {x : Str} {k : α → m (Out ρ ε δ)} {pos' : Pos} (hN : X.N.Nodup) (hi : X.N[i]? = some x) (hx : Loc X.env.scope x) (hl : i < R.length) (h : SE X C W H0 R e ea me) (hr : ∀ a, SL X C W H0 (R.set i (some (.frz (ea a)))) rest er Rb Rn (k a))
    (hs : swapsWith e (some (.Name x pos')) pos.line X.env = pure false) (hf : X.fn x = true ∨ X.env.scope.names.lookup x = some .local) : SL X C W H0 R (.Assign [.Name x pos'] e pos :: rest) er Rb Rn (me >>= k) :=
  ⟨(pss_cons (ps_set hN hi hx h.run hs hf) (u := fun D σ H => ∃ a, tS C W H0 (R.set i (some (.frz (ea a)))) er Rb Rn (k a) D σ H) ⟨fun pins s σ H D I ⟨a, q⟩ => (hr a).run.run pins s σ H D I q⟩).weak fun D σ H q =>
    tS_bind (k := kF X.K X.w C.mt) (ea := ea) q fun a v H' kv e _ ⟨s, c, q⟩ => ⟨a, s, c.setF hl kv, q⟩⟩
theorem sl_setO {i : Nat} {x : Str} {k : List α → m (Out ρ ε δ)} {pos' : Pos} {me : m (List α)} (hN : X.N.Nodup) (hi : X.N[i]? = some x) (hx : Loc X.env.scope x) (hl : i < R.length) (h : SO X C W H0 R e (eLst ea) me) (hr : ∀ a, SL X C W H0 (R.set i (some (.own (a.map ea)))) rest er Rb Rn (k a))
    (hs : swapsWith e (some (.Name x pos')) pos.line X.env = pure false) (hf : X.fn x = true ∨ X.env.scope.names.lookup x = some .local) : SL X C W H0 R (.Assign [.Name x pos'] e pos :: rest) er Rb Rn (me >>= k) :=
  ⟨(pss_cons (ps_set hN hi hx h.run hs hf) (u := fun D σ H => ∃ a : List α, tS C W H0 (R.set i (some (.own (a.map ea)))) er Rb Rn (k a) D σ H) ⟨fun pins s σ H D I ⟨a, q⟩ => (hr a).run.run pins s σ H D I q⟩).weak fun D σ H q => by
    obtain ⟨s0, c0, q0⟩ := id q
    refine tS_bind (k := kO X.K X.w C.mt) (ea := eLst ea) q fun a v H' ⟨b, vs, ds, h1, h2, h3, h4, h5⟩ e nb ⟨s, c, q⟩ => ⟨a, s, ?_, q⟩
    subst h1
    have h2 : PyData.list (a.map ea) = .list ds := h2
    injection h2 with h2
    subst h2
    have nm : ¬ C.mt b := fun z => by
      obtain ⟨o, ho, _⟩ := C.there _ _ _ c0.rel z
      rw [h5] at ho; cases ho
    have h0 : H0 b = none := by
      cases z : H0 b with
      | none => rfl
      | some o => rw [c0.base b o z (.inl nm)] at h5; cases h5
    refine c.setO hl h3 h4 h0 nm fun j y hy oy z => ?_
    obtain ⟨v, e1, ok⟩ := c0.slot j y hy
    rw [z] at e1; cases e1
    cases y with
    | ownD kvs =>
      obtain ⟨b', us, k1, k2, _⟩ := ok
      cases k1
      rw [h5] at k2; cases k2
    | own ds =>
      obtain ⟨b', us, k1, k2, _⟩ := ok
      cases k1
      rw [h5] at k2; cases k2
    | frz d => exact oy
    | adr d => exact oy
    | scr d => exact oy⟩
end
end TT

namespace TT
open PyM (fromO)
open PySem PySem.Spec PyProof.Rows L2

section
variable {m : Type → Type} [Monad m] {α δ ρ ε : Type}
def foldL (f : α → δ → m δ) : List α → δ → m δ
  | [], d => pure d
  | x :: xs, d => f x d >>= foldL f xs
/-- a turn's end, in a loop -/
def Out.loop (k : δ → m (δ ⊕ ρ)) : Out ρ δ δ → m (δ ⊕ ρ)
  | .nx d => k d
  | .ct d => k d
  | .bk d => pure (.inl d)
  | .rt r => pure (.inr r)
/-- a loop that may be left -/
def loopL (f : α → δ → m (Out ρ δ δ)) : List α → δ → m (δ ⊕ ρ)
  | [], d => pure (.inl d)
  | x :: xs, d => f x d >>= Out.loop (loopL f xs)
def thenL {ρ ε δ' : Type} (k : δ → m (Out ρ ε δ')) : δ ⊕ ρ → m (Out ρ ε δ')
  | .inl d => k d
  | .inr r => pure (.rt r)
def whileF [PyM m] (c : δ → m Bool) (b : δ → m (Out ρ δ δ)) : Nat → δ → m (δ ⊕ ρ)
  | 0, _ => fromO none
  | n + 1, d => c d >>= fun t => if t = true then b d >>= Out.loop (whileF c b n) else pure (.inl d)
noncomputable def whileG [PyM m] (c : δ → m Bool) (b : δ → m (Out ρ δ δ)) (d : δ) : m (δ ⊕ ρ) := PyM.sup fun n => whileF c b n d
def whileFP [PyM m] (c : δ → m Bool) (b : δ → m δ) : Nat → δ → m δ
  | 0, _ => fromO none
  | n + 1, d => c d >>= fun t => if t = true then b d >>= whileFP c b n else pure d
noncomputable def whileM [PyM m] (c : δ → m Bool) (b : δ → m δ) (d : δ) : m δ := PyM.sup fun n => whileFP c b n d
def Out.thn {ρ ε δ δ' : Type} (k : δ → m (Out ρ ε δ')) : Out ρ ε δ → m (Out ρ ε δ')
  | .nx d => k d
  | .rt r => pure (.rt r)
  | .bk d => pure (.bk d)
  | .ct d => pure (.ct d)
end

section
variable {X : Cx} {m : Type → Type} [Monad m] [PyM m] {C : Wd X.K X.w m} {W : WX} {H0 : Hp} {R : Slots} {α β γ ρ ε δ δ' : Type} {ea : α → PyData} {eb : β → PyData} {er : ρ → PyData} {Rb : ε → Slots} {Rn : δ → Slots} {Rn' : δ' → Slots}
variable {e c : Expr} {st : Stmt} {rest sts body : List Stmt} {me : m α} {mc : m Bool} {pos : Pos} {mm mm' : m (Out ρ ε δ)}
theorem tS_rt {ma : m ρ} {D D' : Ends} {σ : L2.St} {H : Hp} (h : tS C W H0 R er Rb Rn (ma >>= fun r => pure (Out.rt r)) D σ H) (e : D'.rt = D.rt) : tS C W H0 R er noE noE (ma >>= fun r => pure (Out.rt r)) D' σ H := by
  obtain ⟨s, c, h⟩ := h
  refine ⟨s, c, ?_⟩
  rw [PyM.run_bind] at h ⊢
  cases q : PyM.run ma s with
  | none => rw [q] at h; exact h
  | some p =>
    obtain ⟨r, s1⟩ := p
    rw [q] at h
    cases r with
    | error x => exact h
    | ok a =>
      show AfterS C W H0 H er noE noE D' (PyM.run (pure (Out.rt a)) s1)
      have h : AfterS C W H0 H er Rb Rn D (PyM.run (pure (Out.rt a)) s1) := h
      rw [PyM.run_pure] at h ⊢
      show ∀ v H', _ → _ → _ → D'.rt v H'
      rw [e]
      exact h
theorem sl_ifR {a : List Stmt} {ma : m ρ} (hc : ST X C W H0 R c mc) (ha : SF X C W H0 R a er ma) (hr : SL X C W H0 R rest er Rb Rn mm) :
    SL X C W H0 R (.If c a [] pos :: rest) er Rb Rn (mc >>= fun b => if b = true then ma >>= fun r => pure (.rt r) else mm) :=
  ⟨(pss_cons (ps_if hc.run ha.run pss_nil) hr.run).weak fun D σ H q => by
    have q := tS_test q
    obtain ⟨s, c, q⟩ := q
    refine ⟨s, c, ?_⟩
    cases z : PyM.run mc s with
    | none => rw [z] at q; exact q
    | some p =>
      obtain ⟨r, s1⟩ := p
      rw [z] at q
      cases r with
      | error x => exact q
      | ok b =>
        intro H' e rl
        have q := q H' e rl
        cases b with
        | true => exact tS_rt q rfl
        | false => exact q⟩
/-- both ways return -/
theorem sl_ifRR {a b : List Stmt} {ma mb : m ρ} (hc : ST X C W H0 R c mc) (ha : SF X C W H0 R a er ma) (hb : SF X C W H0 R b er mb) :
    SL X C W H0 R (.If c a b pos :: rest) er Rb Rn (mc >>= fun b => if b = true then ma >>= fun r => pure (.rt r) else mb >>= fun r => pure (.rt r)) :=
  ⟨(pss_cons (ps_if hc.run ha.run hb.run) pss_never).weak fun D σ H q => by
    have q := tS_test q
    obtain ⟨s, c, q⟩ := q
    refine ⟨s, c, ?_⟩
    cases z : PyM.run mc s with
    | none => rw [z] at q; exact q
    | some p =>
      obtain ⟨r, s1⟩ := p
      rw [z] at q
      cases r with
      | error x => exact q
      | ok b =>
        intro H' e rl
        have q := q H' e rl
        cases b with
        | true => exact tS_rt q rfl
        | false => exact tS_rt q rfl⟩
/-- the first part goes on with another state -/
theorem tS_thn {ma : m (Out ρ ε δ)} {k : δ → m (Out ρ ε δ')} {D D' : Ends} {σ : L2.St} {H : Hp} (h : tS C W H0 R er Rb Rn' (ma >>= Out.thn k) D σ H) (e1 : D'.rt = D.rt) (e2 : D'.bk = D.bk) (e3 : D'.ct = D.ct)
    (n : ∀ d s σ' H', Firms H H' → Cfg C H0 (Rn d) s σ' H' → AfterS C W H0 H' er Rb Rn' D (PyM.run (k d) s) → D'.nx σ' H') : tS C W H0 R er Rb Rn ma D' σ H := by
  obtain ⟨s, c, h⟩ := h
  refine ⟨s, c, ?_⟩
  rw [PyM.run_bind] at h
  cases q : PyM.run ma s with
  | none => rw [q] at h; exact h
  | some p =>
    obtain ⟨r, s1⟩ := p
    rw [q] at h
    cases r with
    | error x => exact h
    | ok o =>
      have h : AfterS C W H0 H er Rb Rn' D (PyM.run (Out.thn k o) s1) := h
      cases o with
      | nx d => exact fun σ' H' f cf => n d s1 σ' H' f cf (AfterS.mono f h)
      | rt r =>
        have h : AfterS C W H0 H er Rb Rn' D (PyM.run (pure (.rt r)) s1) := h
        rw [PyM.run_pure] at h
        show ∀ v H', _ → _ → _ → D'.rt v H'
        rw [e1]; exact h
      | bk d =>
        have h : AfterS C W H0 H er Rb Rn' D (PyM.run (pure (.bk d)) s1) := h
        rw [PyM.run_pure] at h
        show ∀ σ' H', _ → _ → D'.bk σ' H'
        rw [e2]; exact h
      | ct d =>
        have h : AfterS C W H0 H er Rb Rn' D (PyM.run (pure (.ct d)) s1) := h
        rw [PyM.run_pure] at h
        show ∀ σ' H', _ → _ → D'.ct σ' H'
        rw [e3]; exact h
theorem sl_ifG {a b : List Stmt} {ma mb : m (Out ρ ε δ)} {k : δ → m (Out ρ ε δ')} (hc : ST X C W H0 R c mc) (ha : SL X C W H0 R a er Rb Rn ma) (hb : SL X C W H0 R b er Rb Rn mb) (hr : ∀ d, SL X C W H0 (Rn d) rest er Rb Rn' (k d)) :
    SL X C W H0 R (.If c a b pos :: rest) er Rb Rn' (mc >>= fun t => (if t = true then ma else mb) >>= Out.thn k) :=
  ⟨(pss_cons (ps_if hc.run ha.run hb.run) (u := fun D σ H => ∃ d, tS C W H0 (Rn d) er Rb Rn' (k d) D σ H) ⟨fun pins s σ H D I ⟨d, q⟩ => (hr d).run.run pins s σ H D I q⟩).weak fun D σ H q => by
    have q := tS_test q
    obtain ⟨s, c, q⟩ := q
    refine ⟨s, c, ?_⟩
    cases z : PyM.run mc s with
    | none => rw [z] at q; exact q
    | some p =>
      obtain ⟨r, s1⟩ := p
      rw [z] at q
      cases r with
      | error x => exact q
      | ok b =>
        intro H' e rl
        have q := q H' e rl
        cases b with
        | true => exact tS_thn q rfl rfl rfl fun d s σ' H' f cf h => ⟨d, s, cf, h⟩
        | false => exact tS_thn q rfl rfl rfl fun d s σ' H' f cf h => ⟨d, s, cf, h⟩⟩
/-- a plain block within a block of any kind -/
theorem SP.up {ma : m δ} (h : SP X C W H0 R sts Rn ma) : SL X C W H0 R sts er Rb Rn (ma >>= fun d => pure (.nx d)) :=
  ⟨h.run.weak fun D σ H ⟨s, c, q⟩ => by
    refine ⟨s, c, ?_⟩
    rw [PyM.run_bind] at q ⊢
    cases z : PyM.run ma s with
    | none => rw [z] at q; exact q
    | some p =>
      obtain ⟨r, s1⟩ := p
      rw [z] at q
      cases r with
      | error x => exact q
      | ok d =>
        show AfterS C W H0 H _ noE Rn D (PyM.run (pure (.nx d)) s1)
        have q : AfterS C W H0 H er Rb Rn D (PyM.run (pure (.nx d)) s1) := q
        rw [PyM.run_pure] at q ⊢
        exact q⟩
theorem sl_ifP {a b : List Stmt} {ma mb : m δ} {k : δ → m (Out ρ ε δ')} (hc : ST X C W H0 R c mc) (ha : SP X C W H0 R a Rn ma) (hb : SP X C W H0 R b Rn mb) (hr : ∀ d, SL X C W H0 (Rn d) rest er Rb Rn' (k d)) :
    SL X C W H0 R (.If c a b pos :: rest) er Rb Rn' (mc >>= fun t => (if t = true then ma else mb) >>= k) :=
  (sl_ifG hc ha.up hb.up hr).alike (alike_bind fun t => by
    cases t with
    | true => exact Alike.symm (((alike_assoc ma (fun d => pure (Out.nx d)) (Out.thn k)).trans (alike_bind fun d => alike_pure)))
    | false => exact Alike.symm ((alike_assoc mb (fun d => pure (Out.nx d)) (Out.thn k)).trans (alike_bind fun d => alike_pure)))

/-! ### for -/
variable {tg iter : Expr} {mi : m (List α)} {g : TG} {is : List Nat} {dts : α → List PyData} {Rl : δ → Slots} {d0 : δ}
/-- what holds between a loop's turns -/
def ForW (X : Cx) (C : Wd X.K X.w m) (W : WX) (H0 : Hp) (er : ρ → PyData) (Rl : δ → Slots) (mb : α → δ → m (Out ρ δ δ)) (xs : List α) (H1 : Hp) (D : Ends) (i k : Nat) (σ : L2.St) (H : Hp) : Prop :=
  k = xs.length - i ∧ i ≤ xs.length ∧ ∃ d s, Firms H1 H ∧ Cfg C H0 (Rl d) s σ H ∧ match PyM.run (loopL mb (xs.drop i) d) s with
    | none => False
    | some (.ok (.inl d'), s') => ∀ σ' H', Firms H1 H' → Cfg C H0 (Rl d') s' σ' H' → D.nx σ' H'
    | some (.ok (.inr r), s') => ∀ v H', Ext C.mt H0 H' → C.rel s' H' → Rep X.K X.w H' v (er r) → D.rt v H'
    | some (.error x, s') => ∀ cls d σ' H', Ext C.mt H0 H' → C.rel s' H' → C.exc x cls d H' → W cls d σ' H'
theorem sl_forG {mb : α → δ → m (Out ρ δ δ)} {k : δ → m (Out ρ ε δ')} (hp : PassesOwn (model X.prog X.w) X.A X.env X.xe) (hc : X.calm = true) (hi : SI X C W H0 R Firms tg iter ea mi) (hg : PG X tg g) (hgo : GOk X.K X.w g ea is dts)
    (h0 : SubS (Rl d0) R) (hlt : ∀ d, ∀ i ∈ is, i < (Rl d).length) (hb : ∀ a d, SL X C W H0 (setR (Rl d) is (dts a)) body er Rl Rl (mb a d)) (hr : ∀ d, SL X C W H0 (Rl d) rest er Rb Rn' (k d))
    (hs : ∀ x, foldedSetIterable iter X.env x = pure x) : SL X C W H0 R (.For tg iter body [] pos :: rest) er Rb Rn' (mi >>= fun xs => loopL mb xs d0 >>= thenL k) :=
  ⟨(pss_cons (ps_for hp hc hi.run hg (tb := fun D σ H => ∃ a d, tS C W H0 (setR (Rl d) is (dts a)) er Rl Rl (mb a d) D σ H) ⟨fun pins s σ H D I ⟨a, d, q⟩ => (hb a d).run.run pins s σ H D I q⟩ hs)
      (u := fun D σ H => ∃ d, tS C W H0 (Rl d) er Rb Rn' (k d) D σ H) ⟨fun pins s σ H D I ⟨d, q⟩ => (hr d).run.run pins s σ H D I q⟩).weak fun D σ H q => by
    obtain ⟨s, c, q⟩ := q
    refine ⟨s, c, ?_⟩
    rw [PyM.run_bind] at q
    cases z : PyM.run mi s with
    | none => rw [z] at q; exact q
    | some p =>
      obtain ⟨r, s1⟩ := p
      rw [z] at q
      cases r with
      | error x => exact fun cls d H' e rl ex => q cls d σ H' (c.base.trans e) rl ex
      | ok xs =>
        intro J H1 e1 rl1 wk
        have q : AfterS C W H0 H er Rb Rn' D (PyM.run (loopL mb xs d0 >>= thenL k) s1) := q
        have q := AfterS.mono e1.firms q
        rw [PyM.run_bind] at q
        refine ⟨ForW X C W H0 er Rl mb xs H1 { D with nx := fun σ H => ∃ d, tS C W H0 (Rl d) er Rb Rn' (k d) D σ H }, ⟨xs.length, rfl, Nat.zero_le _, d0, s1, Firms.refl _, (c.ext e1 rl1).sub h0, ?_⟩, ?_⟩
        · show match PyM.run (loopL mb xs d0) s1 with | none => _ | some (.ok (.inl d'), s') => _ | some (.ok (.inr r), s') => _ | some (.error x, s') => _
          cases z2 : PyM.run (loopL mb xs d0) s1 with
          | none => rw [z2] at q; exact q
          | some p2 =>
            obtain ⟨r2, s2⟩ := p2
            rw [z2] at q
            cases r2 with
            | error x => exact q
            | ok o =>
              cases o with
              | inl d' => exact fun σ' H' f cf => ⟨d', s2, cf, AfterS.mono f q⟩
              | inr r =>
                have q : AfterS C W H0 H1 er Rb Rn' D (PyM.run (pure (.rt r)) s2) := q
                rw [PyM.run_pure] at q
                exact q
        · rintro i n σ2 H2 ⟨rfl, hi, d, s2, f2, c2, w2⟩
          by_cases hlt' : i < xs.length
          · obtain ⟨go, yl⟩ := wk.go i H2 f2 (by rw [List.length_map]; exact hlt')
            refine .inr ⟨go, ForW X C W H0 er Rl mb xs H1 { D with nx := fun σ H => ∃ d, tS C W H0 (Rl d) er Rb Rn' (k d) D σ H } (i + 1) (xs.length - (i + 1)), fun σ' H' hN => ⟨_, by omega, hN⟩, fun x H3 y => ?_⟩
            obtain ⟨e3, dx, hd, rx⟩ := yl x H3 y
            have hx : xs[i]? = some xs[i] := List.getElem?_eq_getElem hlt'
            rw [List.getElem?_map, hx] at hd
            have hd : some (ea xs[i]) = some dx := hd
            cases hd
            refine hgo.run xs[i] x _ H3 _ rx fun ws rws => ⟨xs[i], d, s2, (c2.same e3).setAll (hlt d) rws, ?_⟩
            have f13 : Firms H1 H3 := f2.trans fun b o h _ => e3 b o h
            have hdr : xs.drop i = xs[i] :: xs.drop (i + 1) := List.drop_eq_getElem_cons hlt'
            rw [hdr] at w2
            have e : PyM.run (loopL mb (xs[i] :: xs.drop (i + 1)) d) s2 = Res.bind (PyM.run (mb xs[i] d) s2) fun o s' => PyM.run (Out.loop (loopL mb (xs.drop (i + 1))) o) s' := PyM.run_bind (mb xs[i] d) _ s2
            rw [e] at w2
            cases z3 : PyM.run (mb xs[i] d) s2 with
            | none => rw [z3] at w2; exact w2
            | some p3 =>
              obtain ⟨r3, s3⟩ := p3
              rw [z3] at w2
              cases r3 with
              | error x => exact w2
              | ok o =>
                cases o with
                | nx d' => exact fun σ' H' f cf => ⟨rfl, hlt', d', s3, f13.trans f, cf, w2⟩
                | ct d' => exact fun σ' H' f cf => ⟨rfl, hlt', d', s3, f13.trans f, cf, w2⟩
                | bk d' =>
                  have w2 : match PyM.run (pure (Sum.inl d') : m (δ ⊕ ρ)) s3 with
                    | none => False
                    | some (.ok (.inl d'), s') => ∀ σ' H', Firms H1 H' → Cfg C H0 (Rl d') s' σ' H' → ∃ d, tS C W H0 (Rl d) er Rb Rn' (k d) D σ' H'
                    | some (.ok (.inr r), s') => ∀ v H', Ext C.mt H0 H' → C.rel s' H' → Rep X.K X.w H' v (er r) → D.rt v H'
                    | some (.error x, s') => ∀ cls d σ' H', Ext C.mt H0 H' → C.rel s' H' → C.exc x cls d H' → W cls d σ' H' := w2
                  rw [PyM.run_pure] at w2
                  exact fun σ' H' f cf => w2 σ' H' (f13.trans f) cf
                | rt r =>
                  have w2 : match PyM.run (pure (Sum.inr r) : m (δ ⊕ ρ)) s3 with
                    | none => False
                    | some (.ok (.inl d'), s') => ∀ σ' H', Firms H1 H' → Cfg C H0 (Rl d') s' σ' H' → ∃ d, tS C W H0 (Rl d) er Rb Rn' (k d) D σ' H'
                    | some (.ok (.inr r), s') => ∀ v H', Ext C.mt H0 H' → C.rel s' H' → Rep X.K X.w H' v (er r) → D.rt v H'
                    | some (.error x, s') => ∀ cls d σ' H', Ext C.mt H0 H' → C.rel s' H' → C.exc x cls d H' → W cls d σ' H' := w2
                  rw [PyM.run_pure] at w2
                  exact w2
          · have hi' : i = xs.length := by omega
            subst hi'
            refine .inl ⟨wk.stop _ H2 f2 (by rw [List.length_map]; exact Nat.le_refl _), ?_⟩
            rw [List.drop_length] at w2
            have w2 : match PyM.run (pure (Sum.inl d) : m (δ ⊕ ρ)) s2 with
                    | none => False
                    | some (.ok (.inl d'), s') => ∀ σ' H', Firms H1 H' → Cfg C H0 (Rl d') s' σ' H' → ∃ d, tS C W H0 (Rl d) er Rb Rn' (k d) D σ' H'
                    | some (.ok (.inr r), s') => ∀ v H', Ext C.mt H0 H' → C.rel s' H' → Rep X.K X.w H' v (er r) → D.rt v H'
                    | some (.error x, s') => ∀ cls d σ' H', Ext C.mt H0 H' → C.rel s' H' → C.exc x cls d H' → W cls d σ' H' := w2
            rw [PyM.run_pure] at w2
            exact w2 σ2 H2 f2 c2⟩
theorem loop_fold {f : α → δ → m δ} : ∀ (xs : List α) (d : δ), Alike (loopL (ρ := ρ) (fun x d => f x d >>= fun d' => pure (.nx d')) xs d) (foldL f xs d >>= fun d => pure (.inl d))
  | [], d => alike_pure.symm
  | x :: xs, d => by
    show Alike ((f x d >>= fun d' => pure (Out.nx d')) >>= _) ((f x d >>= foldL f xs) >>= _)
    refine (alike_assoc _ _ _).trans (.trans (alike_bind fun d' => ?_) (alike_assoc _ _ _).symm)
    exact alike_pure.trans (loop_fold xs d')
theorem sl_forP {mb : α → δ → m δ} {k : δ → m (Out ρ ε δ')} (hp : PassesOwn (model X.prog X.w) X.A X.env X.xe) (hc : X.calm = true) (hi : SI X C W H0 R Firms tg iter ea mi) (hg : PG X tg g) (hgo : GOk X.K X.w g ea is dts)
    (h0 : SubS (Rl d0) R) (hlt : ∀ d, ∀ i ∈ is, i < (Rl d).length) (hb : ∀ a d, SP X C W H0 (setR (Rl d) is (dts a)) body Rl (mb a d)) (hr : ∀ d, SL X C W H0 (Rl d) rest er Rb Rn' (k d))
    (hs : ∀ x, foldedSetIterable iter X.env x = pure x) : SL X C W H0 R (.For tg iter body [] pos :: rest) er Rb Rn' (mi >>= fun xs => foldL mb xs d0 >>= k) :=
  (sl_forG hp hc hi hg hgo h0 hlt (fun a d => (hb a d).up) hr hs).alike (alike_bind fun xs =>
    (((alike_bind2 (g := thenL k) (loop_fold xs d0) fun _ => .refl _).trans (alike_assoc (foldL mb xs d0) (fun d => pure (Sum.inl d)) (thenL k))).trans (alike_bind fun d => alike_pure)).symm)

/-! ### while -/
def WhW (X : Cx) (C : Wd X.K X.w m) (W : WX) (H0 : Hp) (er : ρ → PyData) (Rl : δ → Slots) (mc : δ → m Bool) (mb : δ → m (Out ρ δ δ)) (H1 : Hp) (D : Ends) (n : Nat) (σ : L2.St) (H : Hp) : Prop :=
  ∃ d s, Firms H1 H ∧ Cfg C H0 (Rl d) s σ H ∧ match PyM.run (whileF mc mb n d) s with
    | none => False
    | some (.ok (.inl d'), s') => ∀ σ' H', Firms H1 H' → Cfg C H0 (Rl d') s' σ' H' → D.nx σ' H'
    | some (.ok (.inr r), s') => ∀ v H', Ext C.mt H0 H' → C.rel s' H' → Rep X.K X.w H' v (er r) → D.rt v H'
    | some (.error x, s') => ∀ cls d σ' H', Ext C.mt H0 H' → C.rel s' H' → C.exc x cls d H' → W cls d σ' H'
theorem sl_whG {mc : δ → m Bool} {mb : δ → m (Out ρ δ δ)} {k : δ → m (Out ρ ε δ')} (hp : PassesOwn (model X.prog X.w) X.A X.env X.xe)
    (h0 : SubS (Rl d0) R) (hc : ∀ d, ST X C W H0 (Rl d) c (mc d)) (hb : ∀ d, SL X C W H0 (Rl d) body er Rl Rl (mb d)) (hr : ∀ d, SL X C W H0 (Rl d) rest er Rb Rn' (k d)) :
    SL X C W H0 R (.While c body [] pos :: rest) er Rb Rn' (whileG mc mb d0 >>= thenL k) :=
  ⟨(pss_cons (ps_while hp (tc := fun σ H Q => ∃ d, tT C W H0 (Rl d) (mc d) σ H Q) (tb := fun D σ H => ∃ d, tS C W H0 (Rl d) er Rl Rl (mb d) D σ H) ⟨fun pins s σ H Q I ⟨d, q⟩ => (hc d).run.run pins s σ H Q I q⟩ ⟨fun pins s σ H D I ⟨d, q⟩ => (hb d).run.run pins s σ H D I q⟩)
      (u := fun D σ H => ∃ d, tS C W H0 (Rl d) er Rb Rn' (k d) D σ H) ⟨fun pins s σ H D I ⟨d, q⟩ => (hr d).run.run pins s σ H D I q⟩).weak fun D σ H q => by
    obtain ⟨s, c, q⟩ := q
    rw [PyM.run_bind] at q
    cases z : PyM.run (whileG mc mb d0) s with
    | none => rw [z] at q; exact q.elim
    | some p =>
      obtain ⟨n, hn⟩ := PyM.run_sup _ _ _ z
      rw [z] at q
      refine ⟨WhW X C W H0 er Rl mc mb H { D with nx := fun σ H => ∃ d, tS C W H0 (Rl d) er Rb Rn' (k d) D σ H }, ⟨n, d0, s, Firms.refl _, c.sub h0, ?_⟩, ?_⟩
      · rw [hn]
        obtain ⟨r2, s2⟩ := p
        cases r2 with
        | error x => exact q
        | ok o =>
          cases o with
          | inl d' => exact fun σ' H' f cf => ⟨d', s2, cf, AfterS.mono f q⟩
          | inr r =>
            have q : AfterS C W H0 H er Rb Rn' D (PyM.run (pure (.rt r)) s2) := q
            rw [PyM.run_pure] at q
            exact q
      · rintro i σ2 H2 ⟨d, s2, f2, c2, w2⟩
        cases i with
        | zero =>
          have w2 : match PyM.run (fromO none : m (δ ⊕ ρ)) s2 with
                    | none => False
                    | some (.ok (.inl d'), s') => ∀ σ' H', Firms H H' → Cfg C H0 (Rl d') s' σ' H' → ∃ d, tS C W H0 (Rl d) er Rb Rn' (k d) D σ' H'
                    | some (.ok (.inr r), s') => ∀ v H', Ext C.mt H0 H' → C.rel s' H' → Rep X.K X.w H' v (er r) → D.rt v H'
                    | some (.error x, s') => ∀ cls d σ' H', Ext C.mt H0 H' → C.rel s' H' → C.exc x cls d H' → W cls d σ' H' := w2
          rw [PyM.run_fromO] at w2
          exact w2.elim
        | succ i =>
          have e : PyM.run (whileF mc mb (i + 1) d) s2 = Res.bind (PyM.run (mc d) s2) fun t s' => PyM.run (if t = true then mb d >>= Out.loop (whileF mc mb i) else pure (.inl d)) s' := PyM.run_bind (mc d) _ s2
          rw [e] at w2
          refine ⟨d, s2, c2, ?_⟩
          cases z3 : PyM.run (mc d) s2 with
          | none => rw [z3] at w2; exact w2
          | some p3 =>
            obtain ⟨r3, s3⟩ := p3
            rw [z3] at w2
            cases r3 with
            | error x => exact fun cls dd H' e rl ex => w2 cls dd σ2 H' (c2.base.trans e) rl ex
            | ok t =>
              intro H3 e3 rl3
              have c3 := c2.ext e3 rl3
              have f3 : Firms H H3 := f2.trans e3.firms
              cases t with
              | false =>
                have w2 : match PyM.run (pure (Sum.inl d) : m (δ ⊕ ρ)) s3 with
                    | none => False
                    | some (.ok (.inl d'), s') => ∀ σ' H', Firms H H' → Cfg C H0 (Rl d') s' σ' H' → ∃ d, tS C W H0 (Rl d) er Rb Rn' (k d) D σ' H'
                    | some (.ok (.inr r), s') => ∀ v H', Ext C.mt H0 H' → C.rel s' H' → Rep X.K X.w H' v (er r) → D.rt v H'
                    | some (.error x, s') => ∀ cls d σ' H', Ext C.mt H0 H' → C.rel s' H' → C.exc x cls d H' → W cls d σ' H' := w2
                rw [PyM.run_pure] at w2
                exact w2 σ2 H3 f3 c3
              | true =>
                rw [if_pos rfl]
                refine ⟨WhW X C W H0 er Rl mc mb H { D with nx := fun σ H => ∃ d, tS C W H0 (Rl d) er Rb Rn' (k d) D σ H } i, fun σ' H' w => ⟨i, Nat.lt_succ_self i, w⟩, d, s3, c3, ?_⟩
                have e : PyM.run (mb d >>= Out.loop (whileF mc mb i)) s3 = Res.bind (PyM.run (mb d) s3) fun o s' => PyM.run (Out.loop (whileF mc mb i) o) s' := PyM.run_bind (mb d) _ s3
                have w2 : match PyM.run (mb d >>= Out.loop (whileF mc mb i)) s3 with
                    | none => False
                    | some (.ok (.inl d'), s') => ∀ σ' H', Firms H H' → Cfg C H0 (Rl d') s' σ' H' → ∃ d, tS C W H0 (Rl d) er Rb Rn' (k d) D σ' H'
                    | some (.ok (.inr r), s') => ∀ v H', Ext C.mt H0 H' → C.rel s' H' → Rep X.K X.w H' v (er r) → D.rt v H'
                    | some (.error x, s') => ∀ cls d σ' H', Ext C.mt H0 H' → C.rel s' H' → C.exc x cls d H' → W cls d σ' H' := w2
                rw [e] at w2
                cases z4 : PyM.run (mb d) s3 with
                | none => rw [z4] at w2; exact w2
                | some p4 =>
                  obtain ⟨r4, s4⟩ := p4
                  rw [z4] at w2
                  cases r4 with
                  | error x => exact w2
                  | ok o =>
                    cases o with
                    | nx d' => exact fun σ' H' f cf => ⟨d', s4, f3.trans f, cf, w2⟩
                    | ct d' => exact fun σ' H' f cf => ⟨d', s4, f3.trans f, cf, w2⟩
                    | bk d' =>
                      have w2 : match PyM.run (pure (Sum.inl d') : m (δ ⊕ ρ)) s4 with
                        | none => False
                        | some (.ok (.inl d'), s') => ∀ σ' H', Firms H H' → Cfg C H0 (Rl d') s' σ' H' → ∃ d, tS C W H0 (Rl d) er Rb Rn' (k d) D σ' H'
                        | some (.ok (.inr r), s') => ∀ v H', Ext C.mt H0 H' → C.rel s' H' → Rep X.K X.w H' v (er r) → D.rt v H'
                        | some (.error x, s') => ∀ cls d σ' H', Ext C.mt H0 H' → C.rel s' H' → C.exc x cls d H' → W cls d σ' H' := w2
                      rw [PyM.run_pure] at w2
                      exact fun σ' H' f cf => w2 σ' H' (f3.trans f) cf
                    | rt r =>
                      have w2 : match PyM.run (pure (Sum.inr r) : m (δ ⊕ ρ)) s4 with
                        | none => False
                        | some (.ok (.inl d'), s') => ∀ σ' H', Firms H H' → Cfg C H0 (Rl d') s' σ' H' → ∃ d, tS C W H0 (Rl d) er Rb Rn' (k d) D σ' H'
                        | some (.ok (.inr r), s') => ∀ v H', Ext C.mt H0 H' → C.rel s' H' → Rep X.K X.w H' v (er r) → D.rt v H'
                        | some (.error x, s') => ∀ cls d σ' H', Ext C.mt H0 H' → C.rel s' H' → C.exc x cls d H' → W cls d σ' H' := w2
                      rw [PyM.run_pure] at w2
                      exact w2⟩
end
end TT

namespace TT
open PyM (fromO)
open PySem PySem.Spec PyProof.Rows L2

section
variable {X : Cx} {m : Type → Type} [Monad m] [PyM m] {C : Wd X.K X.w m} {W : WX} {H0 : Hp} {R : Slots} {k : Kd} {α β γ ρ ε δ : Type} {ea : α → PyData} {eb : β → PyData} {ec : γ → PyData} {er : ρ → PyData} {Rb : ε → Slots} {Rn : δ → Slots}
variable {a b c e : Expr} {st : Stmt} {rest sts : List Stmt} {es : List Expr} {ma : m α} {mb : m β} {me : m α} {mi mj : m Int} {pos p : Pos} {mxs mys : m (List α)} {mz my : m Str} {x : Str}

/-! ### built-in functions of one thing -/
theorem sx_callB {id : String} {r : List V → Hp → VK → Prop} (kk : KdOk k) (hc : CallR X (.builtin id) r) (hg : Gl X x) (hm : X.mg x = none) (hv : bootBuiltins x = some (.builtin id)) (hn : x ≠ "__name__") (hd : (x == ("__debug__" : Str)) = false)
    (ha : SB X C W H0 R a ea ma) {g : α → m γ} (h : ∀ v σ H Q i, kB X.K X.w C.mt H H v (ea i) → LenOk X.K H → tR C W H0 R k ec (g i) σ H Q → r [v] H Q)
    (hs : starEach (a :: []) X.env = (false, eval a X.env) :: starEach [] X.env := by rfl) : SX X C W H0 R k (.Call (.Name x p) [a] [] pos) ec (ma >>= g) :=
  .weak (pe_callB hc hg hm hv (pa_cons (PE.facts ha.run) pa_nil hs) hn hd hs) fun σ H Q q => tR_imp (tR_bind kk q) fun v H1 ⟨i, e1, k1, h1⟩ l => h v σ H1 Q i k1 l h1
theorem sx_callT {T : String} {r : List V → Hp → VK → Prop} (kk : KdOk k) (hc : CallR X (.type T) r) (hg : Gl X x) (hm : X.mg x = none) (hv : bootBuiltins x = some (.type T)) (hn : x ≠ "__name__") (hd : (x == ("__debug__" : Str)) = false)
    (ha : SB X C W H0 R a ea ma) {g : α → m γ} (h : ∀ v σ H Q i, kB X.K X.w C.mt H H v (ea i) → LenOk X.K H → tR C W H0 R k ec (g i) σ H Q → r [v] H Q)
    (hs : starEach (a :: []) X.env = (false, eval a X.env) :: starEach [] X.env := by rfl) : SX X C W H0 R k (.Call (.Name x p) [a] [] pos) ec (ma >>= g) :=
  .weak (pe_callTy hc hg hm hv (pa_cons (PE.facts ha.run) pa_nil hs) hn hd hs) fun σ H Q q => tR_imp (tR_bind kk q) fun v H1 ⟨i, e1, k1, h1⟩ l => h v σ H1 Q i k1 l h1
theorem sx_callB2 {id : String} {r : List V → Hp → VK → Prop} (kk : KdOk k) (hc : CallR X (.builtin id) r) (hg : Gl X x) (hm : X.mg x = none) (hv : bootBuiltins x = some (.builtin id)) (hn : x ≠ "__name__") (hd : (x == ("__debug__" : Str)) = false)
    (ha : SB X C W H0 R a ea ma) (hb : SB X C W H0 R b eb mb) {g : α → β → m γ} (h : ∀ v u σ H Q i j, kB X.K X.w C.mt H H v (ea i) → kB X.K X.w C.mt H H u (eb j) → tR C W H0 R k ec (g i j) σ H Q → r [v, u] H Q)
    (hs : starEach (a :: [b]) X.env = (false, eval a X.env) :: starEach [b] X.env := by rfl) (hs2 : starEach (b :: []) X.env = (false, eval b X.env) :: starEach [] X.env := by rfl) (hpl : (backTo pos (starEach [b] X.env)).any (·.1) = false := by rfl) : SX X C W H0 R k (.Call (.Name x p) [a, b] [] pos) ec (ma >>= fun i => mb >>= fun j => g i j) :=
  .weak (pe_callB hc hg hm hv (pa_cons ha.run (pa_cons hb.run pa_nil hs2) hs) hn hd hs hpl) fun σ H Q q => tR_two (tb := fun _ _ _ => True) (r := fun v u H => r [v, u] H Q) kk q fun v u H2 i j k1 k2 q2 => h v u σ H2 Q i j k1 k2 q2
abbrev nN {x : Str} (h : (x != "__name__") = true) : x ≠ "__name__" := by simpa using h
theorem se_lenT (hg : Gl X "len") (hm : X.mg "len" = none) (ha : SB X C W H0 R a (eTup ea) mxs) (hs : starEach (a :: []) X.env = (false, eval a X.env) :: starEach [] X.env := by rfl) : SE X C W H0 R (.Call (.Name "len" p) [a] [] pos) eInt (mxs >>= fun xs => pure (xs.length : Int)) :=
  sx_callB kF_ok call_len hg hm PySem.boot_len (by decide) (by decide) ha (fun v σ H Q xs kv _ q => by
    obtain ⟨t, vs, rfl, h1, h2⟩ := kB_tup kv
    refine ⟨_, vs.length, rfl, .inr ⟨vs, h1, rfl⟩, ?_⟩
    rw [h2.length, List.length_map]
    exact (tR_pure q).2 _ H (.refl H) (.int _)) hs
theorem se_lenL (hg : Gl X "len") (hm : X.mg "len" = none) (ha : SB X C W H0 R a (eLst ea) mxs) (hs : starEach (a :: []) X.env = (false, eval a X.env) :: starEach [] X.env := by rfl) : SE X C W H0 R (.Call (.Name "len" p) [a] [] pos) eInt (mxs >>= fun xs => pure (xs.length : Int)) :=
  sx_callB kF_ok call_len hg hm PySem.boot_len (by decide) (by decide) ha (fun v σ H Q xs kv _ q => by
    obtain ⟨t, vs, rfl, h1, h2⟩ := kB_lst kv
    refine ⟨_, vs.length, rfl, .inl ⟨vs, h1, rfl⟩, ?_⟩
    rw [h2.length, List.length_map]
    exact (tR_pure q).2 _ H (.refl H) (.int _)) hs
theorem se_lenS (hg : Gl X "len") (hm : X.mg "len" = none) (ha : SB X C W H0 R a eStr mz) (hs : starEach (a :: []) X.env = (false, eval a X.env) :: starEach [] X.env := by rfl) : SE X C W H0 R (.Call (.Name "len" p) [a] [] pos) eInt (mz >>= fun z => fromO (if z.length ≤ 16777216 then some (z.length : Int) else none)) :=
  sx_callB kF_ok call_len hg hm PySem.boot_len (by decide) (by decide) ha (fun v σ H Q z kv _ q => by
    obtain ⟨c, e, _, q⟩ := tR_done q
    split at e
    · rename_i g
      cases e
      rw [kB_str kv]
      exact ⟨_, z.length, rfl, ⟨by rw [sizeLine_eq]; exact g, rfl⟩, q _ H (.refl H) (.int _)⟩
    · cases e) hs
theorem se_abs (hg : Gl X "abs") (hm : X.mg "abs" = none) (ha : SB X C W H0 R a eInt mi) (hs : starEach (a :: []) X.env = (false, eval a X.env) :: starEach [] X.env := by rfl) : SE X C W H0 R (.Call (.Name "abs" p) [a] [] pos) eInt (mi >>= fun i => pure (if i < 0 then -i else i)) :=
  sx_callB kF_ok call_abs hg hm (by decide +kernel) (by decide) (by decide) ha (fun v σ H Q i kv _ q => ⟨i, by rw [kB_int kv], (tR_pure q).2 _ H (.refl H) (.int _)⟩) hs
theorem se_int1 (hg : Gl X "int") (hm : X.mg "int" = none) (ha : SB X C W H0 R a eInt mi) (hs : starEach (a :: []) X.env = (false, eval a X.env) :: starEach [] X.env := by rfl) : SE X C W H0 R (.Call (.Name "int" p) [a] [] pos) eInt (mi >>= fun i => pure i) :=
  sx_callT kF_ok call_int1 hg hm (by decide +kernel) (by decide) (by decide) ha (fun v σ H Q i kv _ q => .inl ⟨i, by rw [kB_int kv], (tR_pure q).2 _ H (.refl H) (.int _)⟩) hs
theorem se_intB {mc : m Bool} (hg : Gl X "int") (hm : X.mg "int" = none) (ha : SB X C W H0 R a eBool mc) (hs : starEach (a :: []) X.env = (false, eval a X.env) :: starEach [] X.env := by rfl) : SE X C W H0 R (.Call (.Name "int" p) [a] [] pos) eInt (mc >>= fun i => pure (if i = true then 1 else 0)) :=
  sx_callT kF_ok call_int1 hg hm (by decide +kernel) (by decide) (by decide) ha (fun v σ H Q i kv _ q => .inr ⟨i, by rw [kB_bool kv], (tR_pure q).2 _ H (.refl H) (.int _)⟩) hs
theorem se_min2 (hk : X.calm = true) (hg : Gl X "min") (hm : X.mg "min" = none) (ha : SB X C W H0 R a eInt mi) (hb : SB X C W H0 R b eInt mj)
    (hs : starEach (a :: [b]) X.env = (false, eval a X.env) :: starEach [b] X.env := by rfl) (hs2 : starEach (b :: []) X.env = (false, eval b X.env) :: starEach [] X.env := by rfl) (hpl : (backTo pos (starEach [b] X.env)).any (·.1) = false := by rfl) :
    SE X C W H0 R (.Call (.Name "min" p) [a, b] [] pos) eInt (mi >>= fun i => mj >>= fun j => pure (if j < i then j else i)) :=
  sx_callB2 kF_ok (call_min2 hk) hg hm (by decide +kernel) (by decide) (by decide) ha hb (fun v u σ H Q i j k1 k2 q => ⟨i, j, by rw [kB_int k1, kB_int k2], (tR_pure q).2 _ H (.refl H) (.int _)⟩) hs hs2 hpl
theorem se_max2 (hk : X.calm = true) (hg : Gl X "max") (hm : X.mg "max" = none) (ha : SB X C W H0 R a eInt mi) (hb : SB X C W H0 R b eInt mj)
    (hs : starEach (a :: [b]) X.env = (false, eval a X.env) :: starEach [b] X.env := by rfl) (hs2 : starEach (b :: []) X.env = (false, eval b X.env) :: starEach [] X.env := by rfl) (hpl : (backTo pos (starEach [b] X.env)).any (·.1) = false := by rfl) :
    SE X C W H0 R (.Call (.Name "max" p) [a, b] [] pos) eInt (mi >>= fun i => mj >>= fun j => pure (if j > i then j else i)) :=
  sx_callB2 kF_ok (call_max2 hk) hg hm (by decide +kernel) (by decide) (by decide) ha hb (fun v u σ H Q i j k1 k2 q => ⟨i, j, by rw [kB_int k1, kB_int k2], (tR_pure q).2 _ H (.refl H) (.int _)⟩) hs hs2 hpl
/-- tuple(xs), list(xs) -/
theorem se_tupleL (hg : Gl X "tuple") (hm : X.mg "tuple" = none) (ha : SB X C W H0 R a (eLst ea) mxs) (hs : starEach (a :: []) X.env = (false, eval a X.env) :: starEach [] X.env := by rfl) : SE X C W H0 R (.Call (.Name "tuple" p) [a] [] pos) (eTup ea) (mxs >>= fun xs => pure xs) :=
  sx_callT kF_ok call_tuple_of hg hm (by decide +kernel) (by decide) (by decide) ha (fun v σ H Q xs kv _ q => by
    obtain ⟨t, vs, rfl, h1, h2⟩ := kB_lst kv
    exact ⟨t, vs, rfl, .inl ⟨h1, fun l hl => (tR_pure q).2 _ _ (Same.new hl) (.tup (.of upd_same) (Reps.firm (fun b o h _ => Same.new hl b o h) h2))⟩⟩) hs
theorem se_tupleT (hg : Gl X "tuple") (hm : X.mg "tuple" = none) (ha : SB X C W H0 R a (eTup ea) mxs) (hs : starEach (a :: []) X.env = (false, eval a X.env) :: starEach [] X.env := by rfl) : SE X C W H0 R (.Call (.Name "tuple" p) [a] [] pos) (eTup ea) (mxs >>= fun xs => pure xs) :=
  sx_callT kF_ok call_tuple_of hg hm (by decide +kernel) (by decide) (by decide) ha (fun v σ H Q xs kv _ q => by
    obtain ⟨t, vs, rfl, h1, h2⟩ := kB_tup kv
    exact ⟨t, vs, rfl, .inr ⟨h1, (tR_pure q).2 _ _ (.refl H) (.tup h1 h2)⟩⟩) hs
theorem so_listT (hg : Gl X "list") (hm : X.mg "list" = none) (ha : SB X C W H0 R a (eTup ea) mxs) (hs : starEach (a :: []) X.env = (false, eval a X.env) :: starEach [] X.env := by rfl) : SO X C W H0 R (.Call (.Name "list" p) [a] [] pos) (eLst ea) (mxs >>= fun xs => pure xs) :=
  sx_callT kO_ok call_list_of hg hm (by decide +kernel) (by decide) (by decide) ha (fun v σ H Q xs kv _ q => by
    obtain ⟨t, vs, rfl, h1, h2⟩ := kB_tup kv
    exact ⟨t, vs, rfl, .inr h1, fun l hl => (tR_pure q).2 _ _ (Same.new hl) ⟨l, vs, _, rfl, rfl, upd_same, Reps.firm (fun b o h _ => Same.new hl b o h) h2, hl⟩⟩) hs
theorem so_listL (hg : Gl X "list") (hm : X.mg "list" = none) (ha : SB X C W H0 R a (eLst ea) mxs) (hs : starEach (a :: []) X.env = (false, eval a X.env) :: starEach [] X.env := by rfl) : SO X C W H0 R (.Call (.Name "list" p) [a] [] pos) (eLst ea) (mxs >>= fun xs => pure xs) :=
  sx_callT kO_ok call_list_of hg hm (by decide +kernel) (by decide) (by decide) ha (fun v σ H Q xs kv _ q => by
    obtain ⟨t, vs, rfl, h1, h2⟩ := kB_lst kv
    exact ⟨t, vs, rfl, .inl h1, fun l hl => (tR_pure q).2 _ _ (Same.new hl) ⟨l, vs, _, rfl, rfl, upd_same, Reps.firm (fun b o h _ => Same.new hl b o h) h2, hl⟩⟩) hs
theorem reps_ints {K : PySem.W.Frag} {w : World} {H : Hp} : ∀ {vs : List V} {ns : List Int}, Reps K w H vs (ns.map eInt) → vs = ns.map V.int
  | _, [], .nil => rfl
  | _, n :: ns, .cons r t => by
    cases r
    rw [reps_ints t]
    rfl
theorem reps_bools {K : PySem.W.Frag} {w : World} {H : Hp} : ∀ {vs : List V} {ns : List Bool}, Reps K w H vs (ns.map eBool) → vs = ns.map V.bl
  | _, [], .nil => rfl
  | _, n :: ns, .cons r t => by
    cases r
    rw [reps_bools t]
    rfl
theorem se_sumL {mn : m (List Int)} (hk : X.calm = true) (hg : Gl X "sum") (hm : X.mg "sum" = none) (ha : SB X C W H0 R a (eLst eInt) mn) (hs : starEach (a :: []) X.env = (false, eval a X.env) :: starEach [] X.env := by rfl) : SE X C W H0 R (.Call (.Name "sum" p) [a] [] pos) eInt (mn >>= fun ns => pure ns.sum) :=
  sx_callB kF_ok (cr_sum hk) hg hm (by decide +kernel) (by decide) (by decide) ha (fun v σ H Q ns kv _ q => by
    obtain ⟨t, vs, rfl, h1, h2⟩ := kB_lst kv
    rw [reps_ints h2] at h1
    exact ⟨t, ns, rfl, h1, (tR_pure q).2 _ H (.refl H) (.int _)⟩) hs
theorem se_allL {mn : m (List Bool)} (hk : X.calm = true) (hg : Gl X "all") (hm : X.mg "all" = none) (ha : SB X C W H0 R a (eLst eBool) mn) (hs : starEach (a :: []) X.env = (false, eval a X.env) :: starEach [] X.env := by rfl) : SE X C W H0 R (.Call (.Name "all" p) [a] [] pos) eBool (mn >>= fun ns => pure (ns.all id)) :=
  sx_callB kF_ok (cr_all hk) hg hm (by decide +kernel) (by decide) (by decide) ha (fun v σ H Q ns kv _ q => by
    obtain ⟨t, vs, rfl, h1, h2⟩ := kB_lst kv
    rw [reps_bools h2] at h1
    exact ⟨t, ns, rfl, h1, (tR_pure q).2 _ H (.refl H) (.bl _)⟩) hs
theorem se_anyL {mn : m (List Bool)} (hk : X.calm = true) (hg : Gl X "any") (hm : X.mg "any" = none) (ha : SB X C W H0 R a (eLst eBool) mn) (hs : starEach (a :: []) X.env = (false, eval a X.env) :: starEach [] X.env := by rfl) : SE X C W H0 R (.Call (.Name "any" p) [a] [] pos) eBool (mn >>= fun ns => pure (ns.any id)) :=
  sx_callB kF_ok (cr_any hk) hg hm (by decide +kernel) (by decide) (by decide) ha (fun v σ H Q ns kv _ q => by
    obtain ⟨t, vs, rfl, h1, h2⟩ := kB_lst kv
    rw [reps_bools h2] at h1
    exact ⟨t, ns, rfl, h1, (tR_pure q).2 _ H (.refl H) (.bl _)⟩) hs

/-! ### + and * of tuples, lists, texts -/
def catG (xs ys : List α) : Option (List α) := if xs.length + ys.length ≤ 16777216 then some (xs ++ ys) else none
theorem catG_some {xs ys zs : List α} (h : catG xs ys = some zs) : xs.length + ys.length ≤ 16777216 ∧ zs = xs ++ ys := by
  unfold catG at h
  split at h
  · rename_i g
    cases h
    exact ⟨g, rfl⟩
  · cases h
theorem se_catT (ha : SB X C W H0 R a (eTup ea) mxs) (hb : SB X C W H0 R b (eTup ea) mys) : SE X C W H0 R (.BinOp a .Add b pos) (eTup ea) (mxs >>= fun xs => mys >>= fun ys => fromO (catG xs ys)) :=
  sx_bin kF_ok op_catA ha hb fun x y σ H Q xs ys k1 k2 q => by
    obtain ⟨c, e, _, q⟩ := tR_done q
    obtain ⟨g, rfl⟩ := catG_some e
    obtain ⟨s, vs, rfl, h1, h2⟩ := kB_tup k1
    obtain ⟨t, us, rfl, h3, h4⟩ := kB_tup k2
    have l1 : vs.length = xs.length := by rw [h2.length, List.length_map]
    have l2 : us.length = ys.length := by rw [h4.length, List.length_map]
    have all : Reps X.K X.w H (vs ++ us) ((xs ++ ys).map ea) := by rw [List.map_append]; exact h2.append h4
    refine ⟨s, t, vs, us, rfl, rfl, h1, h3, by rw [sizeLine_eq, l1, l2]; exact g, fun z => ?_, fun _ z => ?_, fun _ _ p hp => ?_⟩
    · subst z
      exact q _ H (.refl H) (.tup h3 all)
    · subst z
      rw [List.append_nil] at all
      exact q _ H (.refl H) (.tup h1 all)
    · exact q _ _ (Same.new hp) (.tup (.of upd_same) (Reps.firm (fun b o h _ => Same.new hp b o h) all))
theorem _root_.L2.Inv.rdL {X : Cx} {pins : List (Addr × Obj)} {σ : L2.St} {H : Hp} {s : Shared} {l : Addr} {xs : List V} (I : L2.Inv X pins σ H s) (h : Rd H l (.lst xs)) : xs.length ≤ sizeLine ∧ ∃ (its : List Value) (n : Nat), Vals xs its ∧ xs.length = its.length ∧ s.heap.get? l = some { cls := .type "list", data := .seq its.toArray n } := by
  obtain ⟨z, its, n, r, e⟩ := h.ok I.hok
  exact ⟨z, its, n, r, r.length, e⟩
def rCatL : R2 := fun x y H Q => ∃ l b xs zs, x = .ref l ∧ y = .ref b ∧ Rd H l (.lst xs) ∧ Rd H b (.lst zs) ∧ xs.length + zs.length ≤ sizeLine ∧ ∀ p, H p = none → Q (.ref p) (upd H p (.lst (xs ++ zs)))
theorem op_catL : OpR X (binaryOp .Add) rCatL := by
  intro pins s σ H x y v u Q I rx ry ⟨l, b, xs, zs, e1, e2, hH, hB, hz, q⟩
  subst e1 e2
  cases rx
  cases ry
  obtain ⟨z, its, n, r, hl, e⟩ := I.rdL hH
  obtain ⟨z2, its2, n2, r2, hl2, e2⟩ := I.rdL hB
  refine PySem.P.add_list (n := n) (n2 := n2) e e2 ?_ (by simp only [List.size_toArray]; omega)
  rw [show its.toArray ++ its2.toArray = (its ++ its2).toArray by simp]
  exact ⟨.ref s.heap.objs.size, _, L2.Inv.lnew (t' := s.toks) I (r.append r2) (by simp only [List.length_append]; omega), rfl, q _ I.fresh⟩
theorem so_catL (ha : SB X C W H0 R a (eLst ea) mxs) (hb : SB X C W H0 R b (eLst ea) mys) : SO X C W H0 R (.BinOp a .Add b pos) (eLst ea) (mxs >>= fun xs => mys >>= fun ys => fromO (catG xs ys)) :=
  sx_bin kO_ok op_catL ha hb fun x y σ H Q xs ys k1 k2 q => by
    obtain ⟨c, e, _, q⟩ := tR_done q
    obtain ⟨g, rfl⟩ := catG_some e
    obtain ⟨s, vs, rfl, h1, h2⟩ := kB_rd k1
    obtain ⟨t, us, rfl, h3, h4⟩ := kB_rd k2
    have l1 : vs.length = xs.length := by rw [h2.length, List.length_map]
    have l2 : us.length = ys.length := by rw [h4.length, List.length_map]
    have all : Reps X.K X.w H (vs ++ us) ((xs ++ ys).map ea) := by rw [List.map_append]; exact h2.append h4
    exact ⟨s, t, vs, us, rfl, rfl, h1, h3, by rw [sizeLine_eq, l1, l2]; exact g, fun p hp => q _ _ (Same.new hp) ⟨p, vs ++ us, _, rfl, rfl, upd_same, Reps.firm (fun b o h _ => Same.new hp b o h) all, hp⟩⟩
theorem se_catS (ha : SB X C W H0 R a eStr mz) (hb : SB X C W H0 R b eStr my) : SE X C W H0 R (.BinOp a .Add b pos) eStr (mz >>= fun z => my >>= fun y => fromO (if z.length + y.length ≤ 16777216 then some (z ++ y) else none)) :=
  sx_bin kF_ok op_add_str ha hb fun x y σ H Q z z' k1 k2 q => by
    obtain ⟨c, e, _, q⟩ := tR_done q
    split at e
    · rename_i g
      cases e
      exact ⟨z, z', kB_str k1, kB_str k2, by rw [sizeLine_eq]; exact g, q _ H (.refl H) (.str _)⟩
    · cases e
def repT (xs : List α) (i : Int) : Option (List α) := if xs ≠ [] ∧ 2 ≤ i ∧ i ≤ 1000 ∧ xs.length ≤ 1000 then some (List.replicate i.toNat xs).flatten else none
theorem Reps.rep {K : PySem.W.Frag} {w : World} {H : Hp} {vs : List V} {ds : List PyData} (r : Reps K w H vs ds) : ∀ n, Reps K w H (List.replicate n vs).flatten (List.replicate n ds).flatten
  | 0 => .nil
  | n + 1 => by
    rw [List.replicate_succ, List.replicate_succ, List.flatten_cons, List.flatten_cons]
    exact r.append (Reps.rep r n)
theorem map_rep (f : α → β) (xs : List α) (n : Nat) : ((List.replicate n xs).flatten).map f = (List.replicate n (xs.map f)).flatten := by
  rw [List.map_flatten, List.map_replicate]
theorem se_repT (ha : SB X C W H0 R a (eTup ea) mxs) (hb : SB X C W H0 R b eInt mi) : SE X C W H0 R (.BinOp a .Mult b pos) (eTup ea) (mxs >>= fun xs => mi >>= fun i => fromO (repT xs i)) :=
  sx_bin kF_ok op_repT ha hb fun x y σ H Q xs i k1 k2 q => by
    obtain ⟨c, e, _, q⟩ := tR_done q
    unfold repT at e
    split at e
    · rename_i g
      cases e
      obtain ⟨s, vs, rfl, h1, h2⟩ := kB_tup k1
      have l1 : vs.length = xs.length := by rw [h2.length, List.length_map]
      refine ⟨s, i, vs, rfl, kB_int k2, h1, fun z => g.1 (List.eq_nil_of_length_eq_zero (by rw [← l1, z]; rfl)), g.2.1, g.2.2.1, by rw [l1]; exact g.2.2.2, fun p hp => q _ _ (Same.new hp) ?_⟩
      refine .tup (.of upd_same) ?_
      rw [map_rep]
      exact Reps.firm (fun b o h _ => Same.new hp b o h) (h2.rep _)
    · cases e

/-! ### slices -/
def cutA {α : Type} (xs : List α) (lo hi : Option Int) : List α := (xs.drop (HT.sIx xs.length 0 lo)).take (HT.sIx xs.length xs.length hi - HT.sIx xs.length 0 lo)
theorem cut_reps {K : PySem.W.Frag} {w : World} {H : Hp} {vs : List V} {xs : List α} (r : Reps K w H vs (xs.map ea)) (lo hi : Option Int) : Reps K w H (cutV vs lo hi) ((cutA xs lo hi).map ea) := by
  have l : vs.length = xs.length := by rw [r.length, List.length_map]
  unfold cutV cutA
  rw [l, List.map_take, List.map_drop]
  exact (r.drop _).take _
/-- the parts of a slice -/
structure SQ (X : Cx) (C : Wd X.K X.w m) (W : WX) (H0 : Hp) (R : Slots) (e : Option Expr) (mm : m (Option Int)) : Prop where
  run : ∃ t, PO X e t ∧ ∀ {k : Kd} {γ : Type} {ec : γ → PyData} {f : Option Int → m γ} {σ : L2.St} {H : Hp} {Q : VK} {Q' : Option Int → Hp → Prop}, KdOk k → tR C W H0 R k ec (mm >>= f) σ H Q → (∀ i H1, Ext C.mt H H1 → tR C W H0 R k ec (f i) σ H1 Q → Q' i H1) → t σ H Q'
theorem sq_none : SQ X C W H0 R none (pure none) := ⟨_, po_none, fun {k γ ec f σ H Q Q'} kk h i => i none H .refl (by
  obtain ⟨s, c, h⟩ := h
  rw [PyM.run_bind, PyM.run_pure] at h
  exact ⟨s, c, h⟩)⟩
theorem sq_some (ha : SE X C W H0 R a eInt mi) : SQ X C W H0 R (some a) (mi >>= fun i => pure (some i)) := ⟨_, po_some ha.run, fun {k γ ec f σ H Q Q'} kk h i => by
  have h2 : tR C W H0 R k ec (mi >>= fun i => f (some i)) σ H Q := by
    obtain ⟨s, c, h⟩ := h
    refine ⟨s, c, ?_⟩
    rw [PyM.run_bind, PyM.run_bind, Res.bind_assoc] at h
    rw [PyM.run_bind]
    have e : (fun (a : Int) s => Res.bind (PyM.run (pure (some a) : m (Option Int)) s) fun a s' => PyM.run (f a) s') = fun a s' => PyM.run (f (some a)) s' := by
      funext a s'
      rw [PyM.run_pure]
      rfl
    rw [e] at h
    exact h
  exact tR_imp (tR_bind kk h2) fun v H1 ⟨j, e, kv, q⟩ => ⟨j, kB_int (mt := C.mt) (H := H1) (.inl kv), i _ H1 e q⟩⟩
theorem sx_slice {lo hi : Option Expr} {ml mh : m (Option Int)} {r : V → Option Int → Option Int → Hp → VK → Prop} {p2 : Pos} (kk : KdOk k) (hr : SlR X r) (ha : SB X C W H0 R a ea ma) (hl : SQ X C W H0 R lo ml) (hh : SQ X C W H0 R hi mh) {g : α → Option Int → Option Int → m γ}
    (h : ∀ x σ H Q i l u, kB X.K X.w C.mt H H x (ea i) → tR C W H0 R k ec (g i l u) σ H Q → r x l u H Q) : SX X C W H0 R k (.Subscript a (.Slice lo hi none p2) pos) ec (ma >>= fun i => ml >>= fun l => mh >>= fun u => g i l u) := by
  obtain ⟨tl, pl, fl⟩ := hl.run
  obtain ⟨th, ph, fh⟩ := hh.run
  exact .weak (pe_slice hr ha.run pl ph) fun σ H Q q => tR_imp (tR_bind kk q) fun x H1 ⟨i, e1, k1, h1⟩ => fl kk h1 fun l H2 e2 h2 => fh kk h2 fun u H3 e3 h3 => h x σ H3 Q i l u (kB.ext (e2.trans e3) k1) h3
theorem se_sliceT {lo hi : Option Expr} {ml mh : m (Option Int)} {p2 : Pos} (ha : SB X C W H0 R a (eTup ea) mxs) (hl : SQ X C W H0 R lo ml) (hh : SQ X C W H0 R hi mh) : SE X C W H0 R (.Subscript a (.Slice lo hi none p2) pos) (eTup ea) (mxs >>= fun xs => ml >>= fun l => mh >>= fun u => pure (cutA xs l u)) :=
  sx_slice kF_ok sl_tupA ha hl hh fun x σ H Q xs l u k1 q => by
    obtain ⟨_, q⟩ := tR_pure q
    obtain ⟨s, vs, rfl, h1, h2⟩ := kB_tup k1
    refine ⟨s, vs, rfl, h1, fun z => ?_, fun z p hp => q _ _ (Same.new hp) (.tup (.of upd_same) (Reps.firm (fun b o h _ => Same.new hp b o h) (cut_reps h2 l u)))⟩
    have e : cutV vs l u = vs := by
      unfold cutV
      rw [z.1, z.2]
      simp
    have r := cut_reps h2 l u
    rw [e] at r
    exact q _ H (.refl H) (.tup h1 r)
theorem so_sliceL {lo hi : Option Expr} {ml mh : m (Option Int)} {p2 : Pos} (ha : SB X C W H0 R a (eLst ea) mxs) (hl : SQ X C W H0 R lo ml) (hh : SQ X C W H0 R hi mh) : SO X C W H0 R (.Subscript a (.Slice lo hi none p2) pos) (eLst ea) (mxs >>= fun xs => ml >>= fun l => mh >>= fun u => pure (cutA xs l u)) :=
  sx_slice kO_ok sl_list ha hl hh fun x σ H Q xs l u k1 q => by
    obtain ⟨_, q⟩ := tR_pure q
    obtain ⟨s, vs, rfl, h1, h2⟩ := kB_lst k1
    exact ⟨s, vs, rfl, h1, fun p hp => q _ _ (Same.new hp) ⟨p, _, _, rfl, rfl, upd_same, Reps.firm (fun b o h _ => Same.new hp b o h) (cut_reps h2 l u), hp⟩⟩
theorem so_revL {k0 : Nat} {p1 p2 p3 : Pos} (ha : SB X C W H0 R a (eLst ea) mxs) : SO X C W H0 R (.Subscript a (.Slice none none (some (.UnaryOp .USub (.Constant (.int 1) k0 p1) p2)) p3) pos) (eLst ea) (mxs >>= fun xs => pure xs.reverse) :=
  .weak (pe_revL ha.run) fun σ H Q q => tR_one kO_ok q fun x H1 xs k1 q1 => by
    obtain ⟨_, q⟩ := tR_pure q1
    obtain ⟨s, vs, rfl, h1, h2⟩ := kB_lst k1
    refine ⟨s, vs, rfl, h1, fun p hp => q _ _ (Same.new hp) ⟨p, _, _, rfl, rfl, upd_same, ?_, hp⟩⟩
    rw [List.map_reverse]
    exact Reps.firm (fun b o h _ => Same.new hp b o h) h2.reverse
end
end TT

namespace TT
open PyM (fromO)
open PySem PySem.Spec PyProof.Rows L2

/-! ### several things, some of them lists of one's own -/
def ItemOk (K : PySem.W.Frag) (w : World) (mt : Addr → Prop) (H H' : Hp) (v : V) : Slot → Prop
  | .frz d => Rep K w H' v d
  | .own ds => ∃ a us, v = .ref a ∧ H' a = some (.lst us) ∧ Reps K w H' us ds ∧ H a = none ∧ ¬ mt a
  | .ownD kvs => ∃ a u, v = .ref a ∧ H' a = some u ∧ DCell K w H' u a kvs ∧ H a = none ∧ ¬ mt a
  | _ => False
inductive ItemsOk (K : PySem.W.Frag) (w : World) (mt : Addr → Prop) (H H' : Hp) : List V → List Slot → Prop
  | nil : ItemsOk K w mt H H' [] []
  | cons {v x vs xs} : ItemOk K w mt H H' v x → (x.Own → ∀ (i : Nat) (y : Slot), xs[i]? = some y → y.Own → vs[i]? ≠ some v) → ItemsOk K w mt H H' vs xs → ItemsOk K w mt H H' (v :: vs) (x :: xs)
section
variable {K : PySem.W.Frag} {w : World} {m : Type → Type} [Monad m] [PyM m]
theorem ItemOk.ext {mt : Addr → Prop} {H H1 H2 : Hp} (e : Ext mt H1 H2) : ∀ {x : Slot} {v : V}, ItemOk K w mt H H1 v x → ItemOk K w mt H H2 v x
  | .frz _, _, h => Rep.firm e.firms h
  | .own _, _, ⟨a, us, h1, h2, h3, h4, h5⟩ => ⟨a, us, h1, e a _ h2 (.inl h5), Reps.firm e.firms h3, h4, h5⟩
  | .ownD _, _, ⟨a, us, h1, h2, h3, h4, h5⟩ => ⟨a, us, h1, e a _ h2 (.inl h5), h3.firm e.firms, h4, h5⟩
  | .adr _, _, h => h
  | .scr _, _, h => h
theorem ItemOk.back {mt : Addr → Prop} {H H1 H2 : Hp} (n : ∀ a, H1 a = none → H a = none) : ∀ {x : Slot} {v : V}, ItemOk K w mt H1 H2 v x → ItemOk K w mt H H2 v x
  | .frz _, _, h => h
  | .own _, _, ⟨a, us, h1, h2, h3, h4, h5⟩ => ⟨a, us, h1, h2, h3, n a h4, h5⟩
  | .ownD _, _, ⟨a, us, h1, h2, h3, h4, h5⟩ => ⟨a, us, h1, h2, h3, n a h4, h5⟩
  | .adr _, _, h => h
  | .scr _, _, h => h
theorem ItemsOk.back {mt : Addr → Prop} {H H1 H2 : Hp} (n : ∀ a, H1 a = none → H a = none) : ∀ {vs : List V} {xs : List Slot}, ItemsOk K w mt H1 H2 vs xs → ItemsOk K w mt H H2 vs xs
  | _, _, .nil => .nil
  | _, _, .cons h1 h2 h3 => .cons (h1.back n) h2 (h3.back n)
theorem ItemsOk.len {mt : Addr → Prop} {H H' : Hp} : ∀ {vs : List V} {xs : List Slot}, ItemsOk K w mt H H' vs xs → vs.length = xs.length
  | _, _, .nil => rfl
  | _, _, .cons _ _ t => by rw [List.length_cons, List.length_cons, t.len]
def AfterX (C : Wd K w m) (W : WX) {γ : Type} (eg : γ → List Slot) (σ : L2.St) (H : Hp) (Q : List V → Hp → Prop) : Res (PyM.S m) γ → Prop
  | none => False
  | some (.ok g, s') => ∀ vs H', Ext C.mt H H' → C.rel s' H' → ItemsOk K w C.mt H H' vs (eg g) → Q vs H'
  | some (.error x, s') => ∀ cls d H', Ext C.mt H H' → C.rel s' H' → C.exc x cls d H' → W cls d σ H'
def tX (C : Wd K w m) (W : WX) (H0 : Hp) (R : Slots) {γ : Type} (eg : γ → List Slot) (mm : m γ) : TA := fun σ H Q => ∃ s, Cfg C H0 R s σ H ∧ AfterX C W eg σ H Q (PyM.run mm s)
structure SM (X : Cx) (C : Wd X.K X.w m) (W : WX) (H0 : Hp) (R : Slots) (es : List Expr) {γ : Type} (eg : γ → List Slot) (mm : m γ) : Prop where
  run : PA X es (tX C W H0 R eg mm)
/-- the slots is become xs -/
def setS : Slots → List Nat → List Slot → Slots
  | R, i :: is, x :: xs => setS (R.set i (some x)) is xs
  | R, _, _ => R
theorem Cfg.setItems {C : Wd K w m} {H0 H H' : Hp} {s : PyM.S m} : ∀ {is : List Nat} {xs : List Slot} {vs : List V} {R : Slots} {σ : L2.St}, Cfg C H0 R s σ H' → (∀ i ∈ is, i < R.length) → ItemsOk K w C.mt H H' vs xs → (∀ a, H a = none → H0 a = none) →
    (∀ (i j : Nat) (x y : Slot), xs[i]? = some x → x.Own → R[j]? = some (some y) → y.Own → σ[j]? ≠ (vs[i]?).map some) → Cfg C H0 (setS R is xs) s (setσ σ is vs) H'
  | [], _, _, _, _, c, _, _, _, _ => by simpa [setS, setσ] using c
  | _ :: _, _, _, _, _, c, _, .nil, _, _ => by simpa [setS, setσ] using c
  | i :: is, _, _, R, σ, c, h, .cons (v := v) (x := x) (vs := vs) (xs := xs) h1 h2 h3, n, ap => by
    show Cfg C H0 (setS _ is _) s (setσ _ is _) H'
    have hi := h i (by simp)
    have c1 : Cfg C H0 (R.set i (some x)) s (σ.set i (some v)) H' := by
      cases x with
      | frz d => exact c.setF hi h1
      | own ds =>
        obtain ⟨a, us, rfl, k1, k2, k3, k4⟩ := h1
        exact c.setO hi k1 k2 (n a k3) k4 fun j y hy oy => ap 0 j _ y rfl trivial hy oy
      | ownD kvs =>
        obtain ⟨a, us, rfl, k1, k2, k3, k4⟩ := h1
        exact c.setD hi k1 k2 (n a k3) k4 fun j y hy oy => ap 0 j _ y rfl trivial hy oy
      | adr a => exact False.elim h1
      | scr a => exact False.elim h1
    refine Cfg.setItems c1 (fun j hj => by rw [List.length_set]; exact h j (by simp [hj])) h3 n fun k j z y hz oz hy oy => ?_
    by_cases e : i = j
    · subst e
      rw [List.getElem?_set_self hi] at hy
      cases hy
      rw [List.getElem?_set_self (by rw [c.len]; exact hi)]
      intro q
      have lk : k < vs.length := by rw [h3.len]; exact (List.getElem?_eq_some_iff.mp hz).1
      rw [List.getElem?_eq_getElem lk] at q
      simp only [Option.map_some, Option.some.injEq] at q
      exact h2 oy k z hz oz (by rw [List.getElem?_eq_getElem lk, ← q])
    · rw [List.getElem?_set_ne e] at hy ⊢
      exact ap (k + 1) j z y hz oz hy oy
end
section
variable {X : Cx} {m : Type → Type} [Monad m] [PyM m] {C : Wd X.K X.w m} {W : WX} {H0 : Hp} {R : Slots} {k : Kd} {α β γ δ ρ ε : Type} {ea : α → PyData} {eb : β → PyData} {er : ρ → PyData} {Rb : ε → Slots} {Rn : δ → Slots}
variable {a b c e : Expr} {rest : List Stmt} {es : List Expr} {ma : m α} {mb : m β} {mxs : m (List α)} {mi mj : m Int} {pos : Pos} {eg : γ → List Slot} {mg : m γ}
theorem sm_oneF (ha : SE X C W H0 R a ea ma) (hs : starEach (a :: []) X.env = (false, eval a X.env) :: starEach [] X.env := by rfl) : SM X C W H0 R [a] (fun x => [.frz (ea x)]) ma :=
  ⟨(pa_cons ha.run pa_nil hs).weak fun σ H Q q => by
    obtain ⟨s, c, q⟩ := q
    refine ⟨s, c, ?_⟩
    cases z : PyM.run ma s with
    | none => rw [z] at q; exact q
    | some p =>
      obtain ⟨r, s1⟩ := p
      rw [z] at q
      cases r with
      | error x => exact q
      | ok a => exact fun v H' e rl kv => q [v] H' e rl (.cons kv (fun o => o.elim) .nil)⟩
theorem kO_item {K : PySem.W.Frag} {w : World} {C : Wd K w m} {H H' : Hp} {s : PyM.S m} {xs : List α} {v : V} (rl : C.rel s H) (h : kO K w C.mt H H' v (eLst ea xs)) : ItemOk K w C.mt H H' v (.own (xs.map ea)) := by
  obtain ⟨a, us, ds, rfl, e, h2, h3, h4⟩ := h
  have e : PyData.list (xs.map ea) = .list ds := e
  injection e with e
  subst e
  exact ⟨a, us, rfl, h2, h3, h4, fun z => by
    obtain ⟨o, ho, _⟩ := C.there _ _ _ rl z
    rw [h4] at ho; cases ho⟩
theorem sm_oneO (ha : SO X C W H0 R a (eLst ea) mxs) (hs : starEach (a :: []) X.env = (false, eval a X.env) :: starEach [] X.env := by rfl) : SM X C W H0 R [a] (fun x => [.own (x.map ea)]) mxs :=
  ⟨(pa_cons ha.run pa_nil hs).weak fun σ H Q q => by
    obtain ⟨s, c, q⟩ := q
    refine ⟨s, c, ?_⟩
    cases z : PyM.run mxs s with
    | none => rw [z] at q; exact q
    | some p =>
      obtain ⟨r, s1⟩ := p
      rw [z] at q
      cases r with
      | error x => exact q
      | ok a => exact fun v H' e rl kv => q [v] H' e rl (.cons (kO_item c.rel kv) (fun _ i y h => by simp at h) .nil)⟩
theorem tX_cons {ka : Kd} {f : α → Slot} {hb : SM X C W H0 R es eg mg} {σ : L2.St} {H : Hp} {Q : List V → Hp → Prop} (ik : ∀ H H' s v a, C.rel s H → ka H H' v (ea a) → ItemOk X.K X.w C.mt H H' v (f a))
    (q : tX C W H0 R (fun p : α × γ => f p.1 :: eg p.2) (ma >>= fun x => mg >>= fun g => pure (x, g)) σ H Q) : tCons (tR C W H0 R ka ea ma) (tX C W H0 R eg mg) σ H Q := by
  obtain ⟨s, c, q⟩ := q
  refine ⟨s, c, ?_⟩
  rw [PyM.run_bind] at q
  cases z : PyM.run ma s with
  | none => rw [z] at q; exact q
  | some p =>
    obtain ⟨r, s1⟩ := p
    rw [z] at q
    cases r with
    | error x => exact q
    | ok a =>
      intro v H1 e rl kv
      have q : AfterX C W (fun p : α × γ => f p.1 :: eg p.2) σ H Q (PyM.run (mg >>= fun g => pure (a, g)) s1) := q
      rw [PyM.run_bind] at q
      refine ⟨s1, c.ext e rl, ?_⟩
      have it := ik H H1 s v a c.rel kv
      have nb : ∀ b, H1 b = none → H b = none := none_back e fun b hb => let ⟨o, ho, _⟩ := C.there _ _ _ rl hb; ⟨o, ho⟩
      cases z2 : PyM.run mg s1 with
      | none => rw [z2] at q; exact q
      | some p2 =>
        obtain ⟨r2, s2⟩ := p2
        rw [z2] at q
        cases r2 with
        | error x => exact fun cls d H' e' rl' => q cls d H' (e.trans e') rl'
        | ok g =>
          have q : AfterX C W (fun p : α × γ => f p.1 :: eg p.2) σ H Q (PyM.run (pure (a, g) : m (α × γ)) s2) := q
          rw [PyM.run_pure] at q
          refine fun vs H' e' rl' rs => q (v :: vs) H' (e.trans e') rl' (.cons (it.ext e') (fun o i y hy oy z => ?_) (rs.back nb))
          -- a later list is none of the former
          have own : ∀ {vs : List V} {xs : List Slot}, ItemsOk X.K X.w C.mt H1 H' vs xs → ∀ (i : Nat) (y : Slot), xs[i]? = some y → y.Own → ∃ b, vs[i]? = some (.ref b) ∧ H1 b = none := by
            intro vs xs h
            induction h with
            | nil => intro i y h; simp at h
            | cons h1 h2 h3 ih =>
              intro i y hy oy
              cases i with
              | zero =>
                simp at hy
                subst hy
                rename_i x0 _ _
                cases x0 with
                | own ds => obtain ⟨b, us, e1, _, _, e2, _⟩ := h1; exact ⟨b, by rw [e1]; rfl, e2⟩
                | ownD ds => obtain ⟨b, us, e1, _, _, e2, _⟩ := h1; exact ⟨b, by rw [e1]; rfl, e2⟩
                | frz d => exact oy.elim
                | adr d => exact oy.elim
                | scr d => exact oy.elim
              | succ i => exact ih i y (by simpa using hy) oy
          obtain ⟨b, h1, h2⟩ := own rs i y hy oy
          rw [z] at h1
          cases h1
          cases hf : f a with
          | own ds =>
            rw [hf] at it
            obtain ⟨b', us, e1, e2, _⟩ := it
            cases e1
            rw [h2] at e2; cases e2
          | ownD ds =>
            rw [hf] at it
            obtain ⟨b', us, e1, e2, _⟩ := it
            cases e1
            rw [h2] at e2; cases e2
          | frz d => rw [hf] at o; exact o
          | adr d => rw [hf] at o; exact o
          | scr d => rw [hf] at o; exact o
theorem sm_consF (ha : SE X C W H0 R a ea ma) (hb : SM X C W H0 R es eg mg) (hs : starEach (a :: es) X.env = (false, eval a X.env) :: starEach es X.env := by rfl) :
    SM X C W H0 R (a :: es) (fun p : α × γ => .frz (ea p.1) :: eg p.2) (ma >>= fun x => mg >>= fun g => pure (x, g)) :=
  ⟨(pa_cons ha.run hb.run hs).weak fun σ H Q q => tX_cons (ka := kF X.K X.w C.mt) (hb := hb) (f := fun x => .frz (ea x)) (fun H H' s v a rl kv => kv) q⟩
theorem sm_consO (ha : SO X C W H0 R a (eLst ea) mxs) (hb : SM X C W H0 R es eg mg) (hs : starEach (a :: es) X.env = (false, eval a X.env) :: starEach es X.env := by rfl) :
    SM X C W H0 R (a :: es) (fun p : List α × γ => .own (p.1.map ea) :: eg p.2) (mxs >>= fun x => mg >>= fun g => pure (x, g)) :=
  ⟨(pa_cons ha.run hb.run hs).weak fun σ H Q q => tX_cons (ka := kO X.K X.w C.mt) (hb := hb) (f := fun x : List α => .own (x.map ea)) (fun H H' s v a rl kv => kO_item rl kv) q⟩
/-- evaluated for a statement -/
theorem tS_items {f : γ → m (Out ρ ε δ)} {D : Ends} {σ : L2.St} {H : Hp} {is : List Nat} (hl : ∀ i ∈ is, i < R.length) (h : tS C W H0 R er Rb Rn (mg >>= f) D σ H) {Q : List V → Hp → Prop}
    (i : ∀ g vs H', vs.length = (eg g).length → tS C W H0 (setS R is (eg g)) er Rb Rn (f g) D (setσ σ is vs) H' → Q vs H') : tX C W H0 R eg mg σ H Q := by
  obtain ⟨s, c, h⟩ := h
  refine ⟨s, c, ?_⟩
  rw [PyM.run_bind] at h
  cases q : PyM.run mg s with
  | none => rw [q] at h; exact h
  | some p =>
    obtain ⟨r, s1⟩ := p
    rw [q] at h
    cases r with
    | error x => exact fun cls d H' e rl ex => h cls d σ H' (c.base.trans e) rl ex
    | ok g =>
      refine fun vs H1 e rl its => i g vs H1 its.len ⟨s1, Cfg.setItems (c.ext e rl) hl its (fun a ha => ?_) fun k j x y hx ox hy oy z => ?_, AfterS.mono e.firms h⟩
      · exact none_back c.base (fun b hb => let ⟨o, ho, _⟩ := C.there _ _ _ c.rel hb; ⟨o, ho⟩) a ha
      · have own : ∀ {vs : List V} {xs : List Slot}, ItemsOk X.K X.w C.mt H H1 vs xs → ∀ (i : Nat) (y : Slot), xs[i]? = some y → y.Own → ∃ b, vs[i]? = some (.ref b) ∧ H b = none := by
          intro vs xs h
          induction h with
          | nil => intro i y h; simp at h
          | cons h1 h2 h3 ih =>
            intro i y hy oy
            cases i with
            | zero =>
              simp at hy
              subst hy
              rename_i x0 _ _
              cases x0 with
              | own ds => obtain ⟨b, us, e1, _, _, e2, _⟩ := h1; exact ⟨b, by rw [e1]; rfl, e2⟩
              | ownD ds => obtain ⟨b, us, e1, _, _, e2, _⟩ := h1; exact ⟨b, by rw [e1]; rfl, e2⟩
              | frz d => exact oy.elim
              | adr d => exact oy.elim
              | scr d => exact oy.elim
            | succ i => exact ih i y (by simpa using hy) oy
        obtain ⟨b, h1, h2⟩ := own its k x hx ox
        obtain ⟨v, h3, ok⟩ := c.slot j y hy
        rw [h1, h3] at z
        cases z
        cases y with
        | own ds => obtain ⟨b', us, e1, e2, _⟩ := ok; cases e1; rw [h2] at e2; cases e2
        | ownD ds => obtain ⟨b', us, e1, e2, _⟩ := ok; cases e1; rw [h2] at e2; cases e2
        | frz d => exact oy
        | adr d => exact oy
        | scr d => exact oy
/-- a, b = x, y -/
theorem sl_par2 {i j : Nat} {x y : Str} {px py pt : Pos} {kt k2 pt2} {f : γ → m (Out ρ ε δ)} (hc : X.calm = true) (hN : X.N.Nodup) (hi : X.N[i]? = some x) (hj : X.N[j]? = some y) (hij : i ≠ j) (hx : X.env.scope.names.lookup x = some .local) (hy : X.env.scope.names.lookup y = some .local)
    (hl : ∀ k ∈ [i, j], k < R.length) (ha : SM X C W H0 R [a, b] eg mg) (h2 : ∀ g, (eg g).length = 2) (hr : ∀ g, SL X C W H0 (setS R [i, j] (eg g)) rest er Rb Rn (f g))
    (hw : swappedStores [.Tuple [.Name x px, .Name y py] kt pt] (.Tuple [a, b] k2 pt2) X.env = pure (some [x, y])) (hs : swapsWithSole [.Tuple [.Name x px, .Name y py] kt pt] (.Tuple [a, b] k2 pt2) pos.line X.env = pure false) :
    SL X C W H0 R (.Assign [.Tuple [.Name x px, .Name y py] kt pt] (.Tuple [a, b] k2 pt2) pos :: rest) er Rb Rn (mg >>= f) :=
  ⟨(pss_cons (ps_par hc hN hi hj hij hx hy ha.run hw hs) (u := fun D σ H => ∃ g, tS C W H0 (setS R [i, j] (eg g)) er Rb Rn (f g) D σ H) ⟨fun pins s σ H D I ⟨g, q⟩ => (hr g).run.run pins s σ H D I q⟩).weak fun D σ H q =>
    tS_items hl q fun g vs H' l t => by
      rw [h2] at l
      match vs, l with
      | [v, u], _ => exact ⟨v, u, rfl, g, t⟩⟩
theorem sl_par3 {i j l : Nat} {x y z : Str} {px py pz pt : Pos} {kt k2 pt2} {f : γ → m (Out ρ ε δ)} (hc : X.calm = true) (hN : X.N.Nodup) (hi : X.N[i]? = some x) (hj : X.N[j]? = some y) (hk : X.N[l]? = some z) (hij : i ≠ j) (hil : i ≠ l) (hjl : j ≠ l)
    (hx : X.env.scope.names.lookup x = some .local) (hy : X.env.scope.names.lookup y = some .local) (hz : X.env.scope.names.lookup z = some .local)
    (hl : ∀ k ∈ [i, j, l], k < R.length) (ha : SM X C W H0 R [a, b, c] eg mg) (h2 : ∀ g, (eg g).length = 3) (hr : ∀ g, SL X C W H0 (setS R [i, j, l] (eg g)) rest er Rb Rn (f g))
    (hw : swappedStores [.Tuple [.Name x px, .Name y py, .Name z pz] kt pt] (.Tuple [a, b, c] k2 pt2) X.env = pure (some [x, y, z])) (hs : swapsWithSole [.Tuple [.Name x px, .Name y py, .Name z pz] kt pt] (.Tuple [a, b, c] k2 pt2) pos.line X.env = pure false) :
    SL X C W H0 R (.Assign [.Tuple [.Name x px, .Name y py, .Name z pz] kt pt] (.Tuple [a, b, c] k2 pt2) pos :: rest) er Rb Rn (mg >>= f) :=
  ⟨(pss_cons (ps_par3 hc hN hi hj hk hij hil hjl hx hy hz ha.run hw hs) (u := fun D σ H => ∃ g, tS C W H0 (setS R [i, j, l] (eg g)) er Rb Rn (f g) D σ H) ⟨fun pins s σ H D I ⟨g, q⟩ => (hr g).run.run pins s σ H D I q⟩).weak fun D σ H q =>
    tS_items hl q fun g vs H' l t => by
      rw [h2] at l
      match vs, l with
      | [v, u, w'], _ => exact ⟨v, u, w', rfl, g, t⟩⟩
/-- (a, b, ..) = (x, y, ..) by a tuple that is made and taken apart -/
theorem sl_parN {tgs : List Expr} {n : Nat} {is : List Nat} {pt pt2 : Pos} {k1 k2 : Nat} {f : γ → m (Out ρ ε δ)} (hc : X.calm = true) (hg : PG X (.Tuple tgs k1 pt) (gTup X.K is.length (gNames is)))
    (hl : ∀ k ∈ is, k < R.length) (ha : SM X C W H0 R es eg mg) (h2 : ∀ g, (eg g).length = is.length) (h64 : is.length ≤ 64) (hr : ∀ g, SL X C W H0 (setS R is (eg g)) rest er Rb Rn (f g))
    (hs : swapsWithSole [.Tuple tgs k1 pt] (.Tuple es k2 pt2) pos.line X.env = pure false) (hw : swappedStores [.Tuple tgs k1 pt] (.Tuple es k2 pt2) X.env = pure none) (h1 : (assignEach [.Tuple tgs k1 pt] X.env).map (·.2) = [assign (.Tuple tgs k1 pt) X.env]) :
    SL X C W H0 R (.Assign [.Tuple tgs k1 pt] (.Tuple es k2 pt2) pos :: rest) er Rb Rn (mg >>= f) :=
  ⟨(pss_cons (ps_asg (pe_tup ha.run) hg hs hw h1) (u := fun D σ H => ∃ g, tS C W H0 (setS R is (eg g)) er Rb Rn (f g) D σ H) ⟨fun pins s σ H D I ⟨g, q⟩ => (hr g).run.run pins s σ H D I q⟩).weak fun D σ H q =>
    tS_items hl q fun g vs H' l t => by
      rw [h2] at l
      refine ⟨small64 (by rw [l]; exact h64), fun p hp => ⟨p, vs, rfl, .of upd_same, l, gNames_ok (K := X.K) (w := X.w) l ?_⟩⟩
      obtain ⟨s, c, q⟩ := t
      exact ⟨g, s, c.same (Same.new hp), AfterS.mono (fun b o h _ => Same.new hp b o h) q⟩⟩
/-- a target of any form gets data -/
theorem sl_unpack {tg : Expr} {g : TG} {is : List Nat} {dts : α → List PyData} {f : α → m (Out ρ ε δ)} (hg : PG X tg g) (hgo : GOk X.K X.w g ea is dts) (hl : ∀ k ∈ is, k < R.length) (ha : SE X C W H0 R e ea ma) (hr : ∀ a, SL X C W H0 (setR R is (dts a)) rest er Rb Rn (f a))
    (hs : swapsWithSole [tg] e pos.line X.env = pure false) (hw : swappedStores [tg] e X.env = pure none) (h1 : (assignEach [tg] X.env).map (·.2) = [assign tg X.env]) : SL X C W H0 R (.Assign [tg] e pos :: rest) er Rb Rn (ma >>= f) :=
  ⟨(pss_cons (ps_asg ha.run hg hs hw h1) (u := fun D σ H => ∃ a, tS C W H0 (setR R is (dts a)) er Rb Rn (f a) D σ H) ⟨fun pins s σ H D I ⟨g, q⟩ => (hr g).run.run pins s σ H D I q⟩).weak fun D σ H q =>
    tS_bind (k := kF X.K X.w C.mt) (ea := ea) q fun a v H' kv e _ ⟨s, c, q⟩ => hgo.run a v σ H' _ kv fun vs rs => ⟨a, s, c.setAll hl rs, q⟩⟩

/-! ### lists of one's own, written -/
def appG (xs : List α) (a : α) : Option (List α) := if xs.length < 16777216 then some (xs ++ [a]) else none
theorem sl_append {i : Nat} {x : Str} {xs : List α} {f : List α → m (Out ρ ε δ)} {p1 p2 p3 : Pos} (hN : X.N[i]? = some x) (hv : Vis X.env.scope x) (hd : (x == ("__debug__" : Str)) = false) (hcd : (x == ("__classdict__" : Str)) = false)
    (hR : R[i]? = some (some (.own (xs.map ea)))) (ha : SE X C W H0 R a ea ma) (hr : ∀ ys : List α, SL X C W H0 (R.set i (some (.own (ys.map ea)))) rest er Rb Rn (f ys))
    (hbase : attributeBase (.Name x p1) "append" X.env (eval (.Name x p1) X.env) = eval (.Name x p1) X.env)
    (hfew : ((backTo p3 (starEach (a :: []) X.env)).all (fun x => !x.1) && (backToKw p3 (keywordEach [] X.env)).all (fun x => x.1.isSome) && decide ((a :: ([] : List Expr)).length + ([] : List Keyword).length + (if ([] : List Keyword).isEmpty then 0 else 1) < 30)) = true)
    (hline : (p2.endLine == p3.line) = true) (hs : starEach (a :: []) X.env = (false, eval a X.env) :: starEach [] X.env) (hsw : swapsWith (.Call (.Attribute (.Name x p1) "append" p2) [a] [] p3) none pos.line X.env = pure false) :
    SL X C W H0 R (.Expr (.Call (.Attribute (.Name x p1) "append" p2) [a] [] p3) pos :: rest) er Rb Rn (ma >>= fun a => fromO (appG xs a) >>= f) :=
  ⟨(pss_cons (ps_expr (pe_bm PySem.F.plainAttrs_list PySem.F.slot_list_append PySem.F.type_list_append mt_append (pe_var hN hv hd hcd) (pa_cons ha.run pa_nil hs) hbase hfew hline hs) hsw)
      (u := fun D σ H => ∃ ys : List α, tS C W H0 (R.set i (some (.own (ys.map ea)))) er Rb Rn (f ys) D σ H) ⟨fun pins s σ H D I ⟨g, q⟩ => (hr g).run.run pins s σ H D I q⟩).weak fun D σ H q => by
    obtain ⟨s0, c0, _⟩ := id q
    obtain ⟨v, hv', l, vs, rfl, hl, hrs, h0, hm⟩ := c0.slot i _ hR
    refine ⟨.ref l, hv', .inl ⟨rfl, vs, .of hl⟩, ?_⟩
    refine tS_bind (k := kF X.K X.w C.mt) (ea := ea) q fun a u H' kv e _ ⟨s, c, q⟩ => ?_
    rw [PyM.run_bind, PyM.run_fromO] at q
    unfold appG at q
    have hl' := e l _ hl (.inl hm)
    have len : vs.length = xs.length := by rw [hrs.length, List.length_map]
    split at q
    · rename_i g
      refine ⟨l, vs, u, rfl, rfl, hl', by rw [sizeLine_eq, len]; exact g, xs ++ [a], s, c.updO hR hv' hl' ?_, AfterS.mono (firms_upd' hl' (fun z => z)) q⟩
      rw [List.map_append]
      exact (Reps.firm e.firms hrs).append (.cons kv .nil)
    · exact q.elim⟩
end
end TT

namespace TT
open PyM (fromO)
open PySem PySem.Spec PyProof.Rows L2

/-! ### the program's own functions -/
/-- a promise: from data to data or an error -/
def spF (K : PySem.W.Frag) (w : World) (ex : Exc → Value → Option Addr → Hp → Prop) {γ ρ : Type} (eg : γ → List PyData) (er : ρ → PyData) (f : γ → Option (Except Exc ρ)) : Sp := fun vs H Q E => ∃ g, Reps K w H vs (eg g) ∧ match f g with
  | none => False
  | some (.ok r) => ∀ v H', Same H H' → Rep K w H' v (er r) → Q v H'
  | some (.error x) => ∀ cls d H', Same H H' → ex x cls d H' → E cls d H'
/-- no error comes of it -/
def spP (K : PySem.W.Frag) (w : World) {γ ρ : Type} (eg : γ → List PyData) (er : ρ → PyData) (f : γ → Option ρ) : Sp := fun vs H Q E => ∃ g, Reps K w H vs (eg g) ∧ ∃ r, f g = some r ∧ ∀ v H', Same H H' → Rep K w H' v (er r) → Q v H'
/-- a promise of a def whose first thing is the world's object -/
def spW (K : PySem.W.Frag) (w : World) {S : Type} (C : Addr → Wd K w (WM S)) {γ ρ : Type} (eg : γ → List PyData) (er : ρ → PyData) (f : γ → WM S ρ) : Sp := fun vs H Q E => ∃ aw us g s r s', vs = .ref aw :: us ∧ (C aw).rel s H ∧ Reps K w H us (eg g) ∧ (f g).run s = some (r, s') ∧
  ∀ v H', Ext (C aw).mt H H' → (C aw).rel s' H' → Rep K w H' v (er r) → Q v H'
/-- the slots at a def's entry -/
def slots0 (n : Nat) (ds : List PyData) : Slots := ds.map (fun d => some (.frz d)) ++ List.replicate (n - ds.length) none
theorem slots0_len {n : Nat} {ds : List PyData} (h : ds.length ≤ n) : (slots0 n ds).length = n := by
  unfold slots0
  rw [List.length_append, List.length_map, List.length_replicate]
  omega
theorem cfg0 {K : PySem.W.Frag} {w : World} {m : Type → Type} [Monad m] [PyM m] {C : Wd K w m} {N : List Str} {vs : List V} {ds : List PyData} {H : Hp} {s : PyM.S m} (r : Reps K w H vs ds) (rl : C.rel s H) (h : ds.length ≤ N.length) : Cfg C H (slots0 N.length ds) s (L2.start N vs) H := by
  have hl := r.length
  have at' : ∀ (i : Nat) (x : Slot), (slots0 N.length ds)[i]? = some (some x) → ∃ d v, x = .frz d ∧ Rep K w H v d ∧ (L2.start N vs)[i]? = some (some v) := fun i x e => by
    unfold slots0 at e
    by_cases hi : i < ds.length
    · rw [List.getElem?_append_left (by rw [List.length_map]; exact hi), List.getElem?_map, List.getElem?_eq_getElem hi] at e
      have e : some (some (Slot.frz ds[i])) = some (some x) := e
      cases e
      obtain ⟨v, hv, rv⟩ := r.get (List.getElem?_eq_getElem hi)
      refine ⟨_, v, rfl, rv, ?_⟩
      unfold L2.start
      rw [List.getElem?_append_left (by rw [List.length_map, hl]; exact hi), List.getElem?_map, hv]
      rfl
    · rw [List.getElem?_append_right (by rw [List.length_map]; omega), List.getElem?_replicate] at e
      split at e <;> cases e
  refine ⟨?_, .refl, rl, fun i x e => ?_, fun i j x y n e1 e2 ox oy => ?_⟩
  · rw [slots0_len h]
    unfold L2.start
    rw [List.length_append, List.length_map, List.length_replicate]
    omega
  · obtain ⟨d, v, rfl, rv, hv⟩ := at' i x e
    exact ⟨v, hv, rv⟩
  · obtain ⟨d, v, rfl, _⟩ := at' i x e1
    exact ox.elim
section
variable {P : Program} {w : World} {K : PySem.W.Frag} {mg : Str → Option Value} {base : Heap}
/-- where a def's body runs, no error leaving it -/
abbrev cx0 (P : Program) (w : World) (K : PySem.W.Frag) (mg : Str → Option Value) (base : Heap) (N : List Str) (qual : Str) (st : Stmt) (f : Addr) (cdv : Value) (A : Around) (outer : List Env) (s : Shared) (H : Hp) (E : XK) : Cx :=
  (cxOf CX0 P w K mg base N qual (defScope st) f cdv A outer s H E).nox
theorem fn_pure {x qual : Str} {st : Stmt} {f : Addr} {fd : FuncData} {N ps : List Str} {k : Nat} {γ ρ : Type} {eg : γ → List PyData} {er : ρ → PyData} {F : γ → Option ρ} (Fu : Fun K x qual st f fd) (S : FnScope N ps (defScope st))
    (hl : ∀ g, (eg g).length = ps.length) (hn : ps.length ≤ N.length)
    (body : ∀ (cdv : Value) (A : Around) (outer : List Env) (s : Shared) (H : Hp) (E : XK), Room k (A.deeper (envOfC qual (defScope st) s.heap.objs.size f cdv)) → ∀ g, SF (cx0 P w K mg base N qual st f cdv A outer s H E) (m := Option) wd0 W0 H (slots0 N.length (eg g)) (defBody st) er (F g)) :
    FnOk P w K mg base CX0 (k + 1) f fd ps (spP K w eg er F) := by
  refine Fu.ok S (fun vs H Q E h => ?_) (fun cdv A outer s H vs Q E hr h => ?_)
  · obtain ⟨g, r, _⟩ := h
    rw [r.length, hl]
  · obtain ⟨g, r, h⟩ := h
    refine ⟨_, (body cdv A outer s H E hr g).run, (), cfg0 r trivial (by rw [hl]; exact hn), ?_⟩
    rw [PyM.run_bind]
    obtain ⟨a, z, h⟩ := h
    rw [z]
    exact fun v H' e _ rv => h v H' (fun b o hb => e b o hb (.inl (fun z => z))) rv
theorem fn_world {S : Type} {C : Addr → Wd K w (WM S)} {x qual : Str} {st : Stmt} {f : Addr} {fd : FuncData} {N ps : List Str} {k : Nat} {γ ρ : Type} {eg : γ → List PyData} {er : ρ → PyData} {F : γ → WM S ρ} (Fu : Fun K x qual st f fd) (Sc : FnScope N ps (defScope st))
    (hl : ∀ g, (eg g).length + 1 = ps.length) (hn : ps.length ≤ N.length)
    (body : ∀ (cdv : Value) (A : Around) (outer : List Env) (s : Shared) (H : Hp) (E : XK) (aw : Addr), Room k (A.deeper (envOfC qual (defScope st) s.heap.objs.size f cdv)) → ∀ g, SF (cx0 P w K mg base N qual st f cdv A outer s H E) (m := WM S) (C aw) W0 H (some (.adr aw) :: slots0 (N.length - 1) (eg g)) (defBody st) er (F g)) :
    FnOk P w K mg base CX0 (k + 1) f fd ps (spW K w C eg er F) := by
  refine Fu.ok Sc (fun vs H Q E h => ?_) (fun cdv A outer s H vs Q E hr h => ?_)
  · obtain ⟨aw, us, g, s, r, s', rfl, _, rs, _⟩ := h
    rw [List.length_cons, rs.length, hl]
  · obtain ⟨aw, us, g, s1, r, s', rfl, rl, rs, hrun, h⟩ := h
    have hl' := hl g
    have c0 : Cfg (C aw) H (slots0 (N.drop 1).length (eg g)) s1 (L2.start (N.drop 1) us) H := cfg0 rs rl (by rw [List.length_drop]; omega)
    refine ⟨_, (body cdv A outer s H E aw hr g).run, s1, ?_, ?_⟩
    · have e1 : L2.start N (.ref aw :: us) = some (.ref aw) :: L2.start (N.drop 1) us := by
        unfold L2.start
        rw [List.map_cons, List.cons_append, List.length_drop, List.length_cons]
        congr 3
        omega
      have e2 : slots0 (N.drop 1).length (eg g) = slots0 (N.length - 1) (eg g) := by rw [List.length_drop]
      rw [e2] at c0
      refine ⟨by rw [e1, List.length_cons, List.length_cons, c0.len], .refl, rl, fun i x e => ?_, fun i j x y n e1' e2' ox oy => ?_⟩
      · cases i with
        | zero =>
          simp at e
          subst e
          exact ⟨.ref aw, by rw [e1]; rfl, rfl⟩
        | succ i =>
          obtain ⟨v, h1, h2⟩ := c0.slot i x (by simpa using e)
          exact ⟨v, by rw [e1]; simpa using h1, h2⟩
      · cases i with
        | zero => simp at e1'; subst e1'; exact ox.elim
        | succ i =>
          cases j with
          | zero => simp at e2'; subst e2'; exact oy.elim
          | succ j =>
            rw [e1]
            exact c0.apart i j x y (fun z => n (by rw [z])) (by simpa using e1') (by simpa using e2') ox oy
    · rw [PyM.run_bind]
      have e : PyM.run (F g) s1 = some (.ok r, s') := by
        show ((F g).run s1).map _ = _
        rw [hrun]; rfl
      rw [e]
      exact fun v H' e rl rv => h v H' e rl rv
end
section
variable {X : Cx} {m : Type → Type} [Monad m] [PyM m] {C : Wd X.K X.w m} {W : WX} {H0 : Hp} {R : Slots} {γ ρ : Type} {eg : γ → List PyData} {er : ρ → PyData} {mg : m γ}
variable {a : Expr} {es : List Expr} {p pos : Pos} {x : Str} {k : Nat} {f : Addr} {fd : FuncData} {ps : List Str}
/-- a call -/
theorem se_call {F : γ → Option ρ} (G : FnOk X.prog X.w X.K X.mg X.base CX0 k f fd ps (spP X.K X.w eg er F)) (hr : Room k X.A) (hg : Gl X x) (hm : X.mg x = some (.ref f)) (hk : PySem.W.keepIn X.K (.ref f) = true) (hb : Binds X.K fd ps [])
    (ha : SA X C W H0 R (a :: es) eg mg) (hdb : (x == ("__debug__" : Str)) = false) (he : starEach (a :: es) X.env = (false, eval a X.env) :: starEach es X.env) (hpl : (backTo pos (starEach es X.env)).any (·.1) = false) :
    SE X C W H0 R (.Call (.Name x p) (a :: es) [] pos) er (mg >>= fun g => fromO (F g)) :=
  .weak (pe_call G hr hg hm hk hb .nil pass0 ha.run hdb he hpl) fun σ H Q q => by
    obtain ⟨s, c, q⟩ := q
    refine ⟨s, c, ?_⟩
    rw [PyM.run_bind] at q
    cases z : PyM.run mg s with
    | none => rw [z] at q; exact q
    | some p =>
      obtain ⟨r, s1⟩ := p
      rw [z] at q
      cases r with
      | error x => exact q
      | ok g =>
        intro vs H' e rl rs
        have q : After C W (kF X.K X.w C.mt) er σ H Q (PyM.run (fromO (F g)) s1) := q
        rw [PyM.run_fromO] at q
        rw [List.append_nil]
        cases y : F g with
        | none => rw [y] at q; exact q.elim
        | some r =>
          rw [y] at q
          exact ⟨g, rs, r, y, fun v H2 e2 rv => q v H2 (e.trans (.of_same e2)) (C.keep _ _ _ rl e2) rv⟩
theorem se_call0 {F : Unit → Option ρ} (G : FnOk X.prog X.w X.K X.mg X.base CX0 k f fd ps (spP X.K X.w (fun _ : Unit => []) er F)) (hr : Room k X.A) (hg : Gl X x) (hm : X.mg x = some (.ref f)) (hk : PySem.W.keepIn X.K (.ref f) = true) (hb : Binds X.K fd ps [])
    (hdb : (x == ("__debug__" : Str)) = false) : SE X C W H0 R (.Call (.Name x p) [] [] pos) er (fromO (F ())) :=
  .weak (pe_call0 G hr hg hm hk hb .nil pass0 hdb) fun σ H Q q => by
    obtain ⟨r, e, _, q⟩ := tR_done q
    exact ⟨(), .nil, r, e, q⟩
end
section
variable {X : Cx} {S : Type} {Cw : Addr → Wd X.K X.w (WM S)} {aw : Addr} {W : WX} {H0 : Hp} {R : Slots} {γ ρ : Type} {eg : γ → List PyData} {er : ρ → PyData} {mg : WM S γ}
variable {a : Expr} {es : List Expr} {p pos pw : Pos} {x xw : Str} {k i : Nat} {f : Addr} {fd : FuncData} {ps : List Str}
/-- a call that is handed the world's object -/
theorem se_callW {F : γ → WM S ρ} (G : FnOk X.prog X.w X.K X.mg X.base CX0 k f fd ps (spW X.K X.w Cw eg er F)) (hr : Room k X.A) (hg : Gl X x) (hm : X.mg x = some (.ref f)) (hk : PySem.W.keepIn X.K (.ref f) = true) (hb : Binds X.K fd ps [])
    (hN : X.N[i]? = some xw) (hv : Vis X.env.scope xw) (hR : R[i]? = some (some (.adr aw))) (hd : (xw == ("__debug__" : Str)) = false) (hcd : (xw == ("__classdict__" : Str)) = false)
    (ha : SA X (Cw aw) W H0 R es eg mg) (hdb : (x == ("__debug__" : Str)) = false) (he : starEach (.Name xw pw :: es) X.env = (false, eval (.Name xw pw) X.env) :: starEach es X.env) (hpl : (backTo pos (starEach es X.env)).any (·.1) = false) :
    SE X (Cw aw) W H0 R (.Call (.Name x p) (.Name xw pw :: es) [] pos) er (mg >>= F) :=
  .weak (pe_call G hr hg hm hk hb .nil pass0 (pa_cons (pe_var hN hv hd hcd) ha.run he) hdb he hpl) fun σ H Q q => by
    obtain ⟨s, c, q⟩ := q
    obtain ⟨v, e1, e2⟩ := c.slot i _ hR
    have e2 : v = .ref aw := e2
    subst e2
    refine ⟨.ref aw, e1, s, c, ?_⟩
    rw [PyM.run_bind] at q
    cases z : PyM.run mg s with
    | none => rw [z] at q; exact q
    | some p =>
      obtain ⟨r, s1⟩ := p
      rw [z] at q
      cases r with
      | error x => exact q
      | ok g =>
        intro vs H' e rl rs
        have q : After (Cw aw) W (kF X.K X.w (Cw aw).mt) er σ H Q (PyM.run (F g) s1) := q
        show spW X.K X.w Cw eg er F ((V.ref aw :: vs) ++ []) H' Q E0
        rw [List.append_nil]
        cases y : (F g).run s1 with
        | none =>
          have y' : PyM.run (F g) s1 = none := by show ((F g).run s1).map _ = _; rw [y]; rfl
          rw [y'] at q
          exact q.elim
        | some p =>
          obtain ⟨r, s2⟩ := p
          have y' : PyM.run (F g) s1 = some (.ok r, s2) := by show ((F g).run s1).map _ = _; rw [y]; rfl
          rw [y'] at q
          exact ⟨aw, vs, g, s1, r, s2, rfl, rl, rs, y, fun v H2 e2 rl2 rv => q v H2 (e.trans e2) rl2 rv⟩
end
end TT

namespace TT
open PyM (fromO)
open PySem PySem.Spec PyProof.Rows L2

/-! ### the world: what is drawn, and where one stands -/
abbrev DW := List Int × Int
def dwOf (al : Addr) (at' : Int) : HO := .dK [(.inr "draws", .ref al), (.inr "at", .int at')]
def drawsW {K : PySem.W.Frag} {w : World} (aw : Addr) : Wd K w (WM DW) where
  rel s H := ∃ al, H aw = some (dwOf al s.2) ∧ FzL K H al (s.1.map V.int)
  mt b := b = aw
  exc _ _ _ _ := False
  keep s H H' h e := let ⟨al, h1, h2⟩ := h; ⟨al, e _ _ h1, h2.firm fun b o hb _ => e b o hb⟩
  other s H b o h hb hf := by
    obtain ⟨al, h1, h2⟩ := h
    refine ⟨al, by rw [upd_ne (fun z => hb z.symm)]; exact h1, ?_⟩
    obtain ⟨ob, h2⟩ := h2
    exact ⟨ob, by rw [upd_ne (hf al _ h2 trivial)]; exact h2⟩
  there s H b h e := by
    obtain ⟨al, h1, _⟩ := h
    have e : b = aw := e
    subst e
    exact ⟨_, h1, fun z => z⟩
def rdAt : WM DW Int := StateT.mk fun s => some (s.2, s)
def rdDraws : WM DW (List Int) := StateT.mk fun s => some (s.1, s)
def incAt : WM DW Unit := StateT.mk fun s => some ((), (s.1, s.2 + 1))
theorem reps_of_ints {K : PySem.W.Frag} {w : World} {H : Hp} : ∀ {ns : List Int}, Reps K w H (ns.map V.int) (ns.map eInt)
  | [] => .nil
  | n :: ns => .cons (.int n) reps_of_ints
section
variable {X : Cx} {aw : Addr} {W : WX} {H0 : Hp} {R : Slots} {ρ ε δ : Type} {er : ρ → PyData} {Rb : ε → Slots} {Rn : δ → Slots} {i : Nat} {xw : Str} {pw pos p2 : Pos} {j j2} {rest : List Stmt}
theorem se_wAt (hu : X.A.units + 1 < cLine) (hN : X.N[i]? = some xw) (hv : Vis X.env.scope xw) (hR : R[i]? = some (some (.adr aw))) (hd : (xw == ("__debug__" : Str)) = false) (hcd : (xw == ("__classdict__" : Str)) = false) :
    SE X (drawsW aw) W H0 R (.Subscript (.Name xw pw) (.Constant (.str "at") j p2) pos) eInt rdAt :=
  .weak (pe_dget hu (pe_var hN hv hd hcd) pe_str (fun _ _ => rfl)) fun σ H Q q => by
    obtain ⟨s, c, q⟩ := q
    obtain ⟨v, e1, e2⟩ := c.slot i _ hR
    have e2 : v = .ref aw := e2
    subst e2
    obtain ⟨al, h1, h2⟩ := c.rel
    exact ⟨.ref aw, e1, aw, .int s.2, rfl, DGet.k (k := Sum.inr "at") h1, q _ H .refl c.rel (.int _)⟩
theorem se_wDraws (hu : X.A.units + 1 < cLine) (hN : X.N[i]? = some xw) (hv : Vis X.env.scope xw) (hR : R[i]? = some (some (.adr aw))) (hd : (xw == ("__debug__" : Str)) = false) (hcd : (xw == ("__classdict__" : Str)) = false) :
    SE X (drawsW aw) W H0 R (.Subscript (.Name xw pw) (.Constant (.str "draws") j p2) pos) (eLst eInt) rdDraws :=
  .weak (pe_dget hu (pe_var hN hv hd hcd) pe_str (fun _ _ => rfl)) fun σ H Q q => by
    obtain ⟨s, c, q⟩ := q
    obtain ⟨v, e1, e2⟩ := c.slot i _ hR
    have e2 : v = .ref aw := e2
    subst e2
    obtain ⟨al, h1, h2⟩ := c.rel
    exact ⟨.ref aw, e1, aw, .ref al, rfl, DGet.k (k := Sum.inr "draws") h1, q _ H .refl c.rel (.lst h2 reps_of_ints)⟩
theorem Cfg.updW {K : PySem.W.Frag} {w : World} {aw : Addr} {H0 H : Hp} {R : Slots} {s s' : DW} {σ : L2.St} {o : HO} (c : Cfg (K := K) (w := w) (m := WM DW) (drawsW aw) H0 R s σ H) (hn : ¬ Firm o) (r : (drawsW (K := K) (w := w) aw).rel s' (upd H aw o)) : Cfg (K := K) (w := w) (m := WM DW) (drawsW aw) H0 R s' σ (upd H aw o) ∧ Firms H (upd H aw o) := by
  obtain ⟨al, h1, h2⟩ := c.rel
  have fm : Firms H (upd H aw o) := firms_upd' h1 (fun z => z)
  refine ⟨⟨c.len, fun b u hb k => ?_, r, fun i x e => ?_, c.apart⟩, fm⟩
  · have hb' := c.base b u hb k
    by_cases e : b = aw
    · subst e
      rcases k with k | k
      · exact absurd rfl k
      · rw [h1] at hb'
        cases hb'
        exact False.elim k
    · rw [upd_ne e]
      exact hb'
  · obtain ⟨v, h3, h4⟩ := c.slot i x e
    refine ⟨v, h3, ?_⟩
    cases x with
    | frz d => exact Rep.firm fm h4
    | own ds =>
      obtain ⟨a, vs, k1, k2, k3, k4, k5⟩ := h4
      exact ⟨a, vs, k1, by rw [upd_ne k5]; exact k2, Reps.firm fm k3, k4, k5⟩
    | ownD ds =>
      obtain ⟨a, vs, k1, k2, k3, k4, k5⟩ := h4
      exact ⟨a, vs, k1, by rw [upd_ne k5]; exact k2, k3.firm fm, k4, k5⟩
    | adr a => exact h4
    | scr ns =>
      obtain ⟨b, k1, k2, k3⟩ := h4
      refine ⟨b, k1, ?_, ?_⟩
      · rcases k3 with ⟨o, k3⟩ | k3
        · exact .inl (.inr ⟨o, fm _ _ k3 trivial⟩)
        · exact .inr k3
      · rcases k3 with ⟨o, k3⟩ | k3
        · exact .inl ⟨o, fm _ _ k3 trivial⟩
        · exact .inr k3
theorem sl_wInc {mm : WM DW (Out ρ ε δ)} (hu : X.A.units + 1 < cLine) (hN : X.N[i]? = some xw) (hv : Vis X.env.scope xw) (hR : R[i]? = some (some (.adr aw))) (hd : (xw == ("__debug__" : Str)) = false) (hcd : (xw == ("__classdict__" : Str)) = false)
    {p3 p4 : Pos} (hr : SL X (drawsW aw) W H0 R rest er Rb Rn mm) : SL X (drawsW aw) W H0 R (.AugAssign (.Subscript (.Name xw pw) (.Constant (.str "at") j p2) p3) .Add (.Constant (.int 1) j2 p4) pos :: rest) er Rb Rn (incAt >>= fun _ => mm) :=
  ⟨(pss_cons (ps_daug hu (pe_var hN hv hd hcd) pe_str pe_int in_add (by intros; rfl)) hr.run).weak fun D σ H q => by
    obtain ⟨s, c, q⟩ := q
    obtain ⟨v, e1, e2⟩ := c.slot i _ hR
    have e2 : v = .ref aw := e2
    subst e2
    obtain ⟨al, h1, h2⟩ := id c.rel
    refine ⟨.ref aw, e1, aw, .int s.2, rfl, DGet.k (k := Sum.inr "at") h1, s.2, 1, rfl, rfl, _, DPut.k (k := Sum.inr "at") h1 (by show 2 < sizeLine; rw [sizeLine_eq]; decide), ?_⟩
    obtain ⟨ob, h3⟩ := id h2
    have ne : al ≠ aw := fun z => by rw [z, h1] at h3; cases h3
    have cf := Cfg.updW (o := dwOf al (s.2 + 1)) (s' := (s.1, s.2 + 1)) c (fun z => z) ⟨al, upd_same, ob, by rw [upd_ne ne]; exact h3⟩
    exact ⟨(s.1, s.2 + 1), cf.1, AfterS.mono cf.2 q⟩⟩
end

/-! ### the script -/
section
variable {X : Cx} {m : Type → Type} [Monad m] [PyM m] {C : Wd X.K X.w m} {W : WX} {H0 : Hp} {R : Slots} {i : Nat} {x : Str} {p pos p2 : Pos} {b : Expr} {mi : m Int} {ns : List Int}
theorem se_lenScr (hg : Gl X "len") (hm : X.mg "len" = none) (hN : X.N[i]? = some x) (hv : Vis X.env.scope x) (hR : R[i]? = some (some (.scr ns))) (hd : (x == ("__debug__" : Str)) = false) (hcd : (x == ("__classdict__" : Str)) = false)
    (hs : starEach (.Name x p2 :: []) X.env = (false, eval (.Name x p2) X.env) :: starEach [] X.env) : SE X C W H0 R (.Call (.Name "len" p) [.Name x p2] [] pos) eInt (pure (ns.length : Int)) :=
  .weak (pe_callB call_len hg hm PySem.boot_len (pa_cons (pe_var hN hv hd hcd) pa_nil hs) (by decide) (by decide) hs) fun σ H Q q => by
    obtain ⟨⟨s, c⟩, q⟩ := tR_pure q
    obtain ⟨v, e1, a, e2, h1, h2⟩ := c.slot i _ hR
    subst e2
    refine ⟨.ref a, e1, .ref a, _, rfl, .inl ⟨_, h1, rfl⟩, ?_⟩
    rw [List.length_map]
    exact q _ H (.refl H) (.int _)
theorem se_ixScr (hN : X.N[i]? = some x) (hv : Vis X.env.scope x) (hR : R[i]? = some (some (.scr ns))) (hd : (x == ("__debug__" : Str)) = false) (hcd : (x == ("__classdict__" : Str)) = false) (hb : SB X C W H0 R b eInt mi) (hs : PlainIx b) :
    SE X C W H0 R (.Subscript (.Name x p2) b pos) eInt (mi >>= fun k => fromO (L2.atI ns k)) :=
  .weak (pe_ix ix_list (pe_var hN hv hd hcd) hb.run hs) fun σ H Q q => by
    obtain ⟨s, c, _⟩ := id q
    obtain ⟨v, e1, a, e2, h1, h2⟩ := c.slot i _ hR
    subst e2
    refine ⟨.ref a, e1, tR_imp (tR_bind kF_ok q) fun v H1 ⟨k, e, kv, q⟩ => ?_⟩
    obtain ⟨n, en, _, q⟩ := tR_done q
    refine ⟨a, ns.map V.int, k, .int n, rfl, kB_int kv, ?_, by rw [atI_map, en]; rfl, q _ H1 (.refl H1) (.int _)⟩
    rcases h2 with ⟨o, h2⟩ | h2
    · exact .inl (.inr ⟨o, e.firms _ _ h2 trivial⟩)
    · exact .inr h2
end
/-- a promise of a def that is handed the script and a number -/
def spScr (K : PySem.W.Frag) (w : World) {ρ : Type} (er : ρ → PyData) (f : List Int → Int → Option ρ) : Sp := fun vs H Q E => ∃ a ns n r, vs = [.ref a, .int n] ∧ SlotOk K w (fun _ => False) H H (.scr ns) (.ref a) ∧ f ns n = some r ∧ ∀ v H', Same H H' → Rep K w H' v (er r) → Q v H'
/-- the law's own promise -/
def spLaw (K : PySem.W.Frag) (w : World) (f : List Int → Option Bool) : Sp := fun vs H Q E => ∃ a ns r, vs = [.ref a] ∧ SlotOk K w (fun _ => False) H H (.scr ns) (.ref a) ∧ f ns = some r ∧ ∀ v H', Rep K w H' v (.bool r) → Q v H'
theorem spLaw_true {K : PySem.W.Frag} {w : World} {f : List Int → Option Bool} {H : Hp} {a : Addr} {ns : List Int} (o : Only H) (h : SqL K H a (ns.map V.int)) (t : f ns = some true) : spLaw K w f [.ref a] H (fun v _ => v = .bl true) fun _ _ _ => False := by
  refine ⟨a, ns, true, rfl, ⟨a, rfl, h, ?_⟩, t, fun v H' r => by cases r; rfl⟩
  rcases h with (h | ⟨ob, h⟩) | h
  · rcases o a with z | ⟨ob, xs, z⟩ <;> rw [h] at z <;> cases z
  · exact .inl ⟨ob, h⟩
  · exact .inr h
section
variable {P : Program} {w : World} {K : PySem.W.Frag} {mg : Str → Option Value} {base : Heap}
theorem cfgS {m : Type → Type} [Monad m] [PyM m] {C : Wd K w m} {N : List Str} {v : V} {vs : List V} {x : Slot} {ds : List PyData} {H : Hp} {s : PyM.S m} (hx : SlotOk K w C.mt H H x v) (no : ¬ x.Own) (r : Reps K w H vs ds) (rl : C.rel s H) (h : ds.length + 1 ≤ N.length) :
    Cfg C H (some x :: slots0 (N.length - 1) ds) s (L2.start N (v :: vs)) H := by
  have c0 : Cfg C H (slots0 (N.drop 1).length ds) s (L2.start (N.drop 1) vs) H := cfg0 r rl (by rw [List.length_drop]; omega)
  have e1 : L2.start N (v :: vs) = some v :: L2.start (N.drop 1) vs := by
    unfold L2.start
    rw [List.map_cons, List.cons_append, List.length_drop, List.length_cons]
    congr 3
    omega
  have e2 : slots0 (N.drop 1).length ds = slots0 (N.length - 1) ds := by rw [List.length_drop]
  rw [e2] at c0
  refine ⟨by rw [e1, List.length_cons, List.length_cons, c0.len], .refl, rl, fun i y e => ?_, fun i j y z n e1' e2' ox oy => ?_⟩
  · cases i with
    | zero =>
      simp at e
      subst e
      exact ⟨v, by rw [e1]; rfl, hx⟩
    | succ i =>
      obtain ⟨u, h1, h2⟩ := c0.slot i y (by simpa using e)
      exact ⟨u, by rw [e1]; simpa using h1, h2⟩
  · cases i with
    | zero => simp at e1'; subst e1'; exact absurd ox no
    | succ i =>
      cases j with
      | zero => simp at e2'; subst e2'; exact absurd oy no
      | succ j =>
        rw [e1]
        exact c0.apart i j y z (fun q => n (by rw [q])) (by simpa using e1') (by simpa using e2') ox oy
theorem fn_scr {x qual : Str} {st : Stmt} {f : Addr} {fd : FuncData} {N ps : List Str} {k : Nat} {ρ : Type} {er : ρ → PyData} {F : List Int → Int → Option ρ} (Fu : Fun K x qual st f fd) (S : FnScope N ps (defScope st)) (hp : ps.length = 2) (hn : 2 ≤ N.length)
    (body : ∀ (cdv : Value) (A : Around) (outer : List Env) (s : Shared) (H : Hp) (E : XK), Room k (A.deeper (envOfC qual (defScope st) s.heap.objs.size f cdv)) → ∀ ns n, SF (cx0 P w K mg base N qual st f cdv A outer s H E) (m := Option) wd0 W0 H (some (.scr ns) :: slots0 (N.length - 1) [.int n]) (defBody st) er (F ns n)) :
    FnOk P w K mg base CX0 (k + 1) f fd ps (spScr K w er F) := by
  refine Fu.ok S (fun vs H Q E h => ?_) (fun cdv A outer s H vs Q E hr h => ?_)
  · obtain ⟨a, ns, n, r, rfl, _⟩ := h
    exact hp.symm
  · obtain ⟨a, ns, n, r, rfl, hs, z, h⟩ := h
    refine ⟨_, (body cdv A outer s H E hr ns n).run, (), cfgS (C := wd0) hs (fun z => z) (.cons (.int n) .nil) trivial hn, ?_⟩
    rw [PyM.run_bind, z]
    exact fun v H' e _ rv => h v H' (fun b o hb => e b o hb (.inl (fun z => z))) rv
theorem fn_law {x qual : Str} {st : Stmt} {f : Addr} {fd : FuncData} {N ps : List Str} {k : Nat} {F : List Int → Option Bool} (Fu : Fun K x qual st f fd) (S : FnScope N ps (defScope st)) (hp : ps.length = 1) (hn : 1 ≤ N.length)
    (body : ∀ (cdv : Value) (A : Around) (outer : List Env) (s : Shared) (H : Hp) (E : XK), Room k (A.deeper (envOfC qual (defScope st) s.heap.objs.size f cdv)) → ∀ ns, SF (cx0 P w K mg base N qual st f cdv A outer s H E) (m := Option) wd0 W0 H (some (.scr ns) :: slots0 (N.length - 1) []) (defBody st) eBool (F ns)) :
    FnOk P w K mg base CX0 (k + 1) f fd ps (spLaw K w F) := by
  refine Fu.ok S (fun vs H Q E h => ?_) (fun cdv A outer s H vs Q E hr h => ?_)
  · obtain ⟨a, ns, r, rfl, _⟩ := h
    exact hp.symm
  · obtain ⟨a, ns, r, rfl, hs, z, h⟩ := h
    refine ⟨_, (body cdv A outer s H E hr ns).run, (), cfgS (C := wd0) hs (fun z => z) .nil trivial hn, ?_⟩
    rw [PyM.run_bind, z]
    exact fun v H' e _ rv => h v H' rv
end
section
variable {X : Cx} {W : WX} {H0 : Hp} {R : Slots} {ρ : Type} {er : ρ → PyData} {i iw : Nat} {x xs xw : Str} {p p1 p2 p3 p4 p5 p6 p7 p8 pos : Pos} {rest : List Stmt} {k : Nat} {f : Addr} {fd : FuncData} {ps : List Str} {ns : List Int} {n : Int} {j1 j2 j3 j4}
/-- w = {'draws': _law_draws(script, n), 'at': 0} -/
theorem sf_world {F : List Int → Int → Option (List Int)} {mr : WM DW ρ} (hN' : X.N.Nodup) (G : FnOk X.prog X.w X.K X.mg X.base CX0 k f fd ps (spScr X.K X.w (eLst eInt) F)) (hr : Room k X.A) (hg : Gl X x) (hm : X.mg x = some (.ref f)) (hk : PySem.W.keepIn X.K (.ref f) = true) (hb : Binds X.K fd ps [])
    (hN : X.N[i]? = some xs) (hv : Vis X.env.scope xs) (hR : R[i]? = some (some (.scr ns))) (hd : (xs == ("__debug__" : Str)) = false) (hcd : (xs == ("__classdict__" : Str)) = false) (hdb : (x == ("__debug__" : Str)) = false)
    (he : starEach [.Name xs p3, .Constant (.int n) j2 p4] X.env = (false, eval (.Name xs p3) X.env) :: starEach [.Constant (.int n) j2 p4] X.env) (he2 : starEach [.Constant (.int n) j2 p4] X.env = (false, eval (.Constant (.int n) j2 p4) X.env) :: starEach [] X.env) (hpl : (backTo p5 (starEach [.Constant (.int n) j2 p4] X.env)).any (·.1) = false)
    (hNw : X.N[iw]? = some xw) (hlw : Loc X.env.scope xw) (hfw : X.fn xw = true ∨ X.env.scope.names.lookup xw = some .local) (hl : iw < R.length) (hno : ∀ y ∈ R, ∀ z, y = some z → ¬ z.Own)
    (hs : swapsWith (.Dict [some (.Constant (.str "draws") j1 p1), some (.Constant (.str "at") j3 p6)] [.Call (.Name x p2) [.Name xs p3, .Constant (.int n) j2 p4] [] p5, .Constant (.int 0) j4 p7] p8) (some (.Name xw p)) pos.line X.env = pure false)
    (hrest : ∀ aw, SF X (m := WM DW) (drawsW aw) W H0 (R.set iw (some (.adr aw))) rest er mr) :
    SF X (m := Option) wd0 W H0 R (.Assign [.Name xw p] (.Dict [some (.Constant (.str "draws") j1 p1), some (.Constant (.str "at") j3 p6)] [.Call (.Name x p2) [.Name xs p3, .Constant (.int n) j2 p4] [] p5, .Constant (.int 0) j4 p7] p8) pos :: rest) er
      (F ns n >>= fun ds => (mr.run (ds, 0)).map (·.1)) :=
  ⟨(pss_cons (ps_set hN' hNw hlw (pe_disp (pps_cons pe_str (pe_call G hr hg hm hk hb .nil pass0 (pa_cons (pe_var hN hv hd hcd) (pa_cons pe_int pa_nil he2) he) hdb he hpl) (pps_cons pe_str pe_int pps_nil)) rfl rfl (fun z => by cases z) (Nat.le_of_ble_eq_true rfl)) hs hfw)
      (u := fun D σ H => ∃ aw, tS (m := WM DW) (drawsW aw) W H0 (R.set iw (some (.adr aw))) er noE noE (mr >>= fun r => pure (.rt r)) D σ H) ⟨fun pins s σ H D I ⟨g, q⟩ => (hrest g).run.run pins s σ H D I q⟩).weak fun D σ H q => by
    obtain ⟨s, c, q⟩ := q
    intro p0 hp0
    obtain ⟨v, e1, a, e2, h1, h2⟩ := c.slot i _ hR
    subst e2
    have up : ∀ b o, H b = some o → (upd H p0 (.dK [])) b = some o := Same.new hp0
    -- 'draws'
    refine ⟨.ref a, e1, ?_⟩
    have q : AfterS (m := Option) wd0 W H0 H er noE noE D (PyM.run (((F ns n >>= fun ds => (mr.run (ds, 0)).map (·.1)) : Option ρ) >>= fun r => pure (Out.rt r)) s) := q
    rw [PyM.run_bind, PyM.run_bind] at q
    cases z : F ns n with
    | none => rw [z] at q; exact q.elim
    | some ds =>
      rw [z] at q
      have sc : SlotOk X.K X.w (fun _ => False) (upd H p0 (.dK [])) (upd H p0 (.dK [])) (.scr ns) (.ref a) := by
        refine ⟨a, rfl, ?_, ?_⟩
        · rcases h2 with ⟨o, h2⟩ | h2
          · exact .inl (.inr ⟨o, up _ _ h2⟩)
          · exact .inr h2
        · rcases h2 with ⟨o, h2⟩ | h2
          · exact .inl ⟨o, up _ _ h2⟩
          · exact .inr h2
      refine ⟨a, ns, n, ds, rfl, sc, z, fun v H1 sm rv => ?_⟩
      have rv : Rep X.K X.w H1 v (.list (ds.map eInt)) := rv
      cases rv with
      | lst fz rs =>
        rename_i al vs
        have ev := reps_ints rs
        subst ev
        have hp1 : H1 p0 = some (.dK []) := sm _ _ upd_same
        refine ⟨hp1, [(.inr "draws", .ref al), (.inr "at", .int 0)], rfl, Nat.le_of_ble_eq_true rfl, p0, ?_⟩
        -- the rest
        obtain ⟨ob, fz⟩ := fz
        have ne : al ≠ p0 := fun z => by rw [z, hp1] at fz; cases fz
        have mg' : mergeK [] [((.inr "draws" : Key), V.ref al), (.inr "at", .int 0)] = [(.inr "draws", .ref al), (.inr "at", .int 0)] := by rfl
        rw [mg']
        have s0 : H0 p0 = none := by
          cases y : H0 p0 with
          | none => rfl
          | some o => rw [c.base p0 o y (.inl (fun z => z))] at hp0; cases hp0
        have sm2 : ∀ b o, H b = some o → (upd H1 p0 (dwOf al 0)) b = some o := fun b o hb => by
          rw [upd_ne (ne_of_none hb hp0)]
          exact sm _ _ (up _ _ hb)
        have hl' : iw < σ.length := by rw [c.len]; exact hl
        refine ⟨(ds, 0), ⟨by rw [List.length_set, List.length_set]; exact c.len, fun b o hb _ => sm2 b o (c.base b o hb (.inl (fun z => z))), ⟨al, upd_same, ob, by rw [upd_ne ne]; exact fz⟩, fun j y e => ?_, fun j l y y2 _ e _ oy _ => ?_⟩, ?_⟩
        · by_cases e' : iw = j
          · subst e'
            rw [List.getElem?_set_self hl] at e
            cases e
            exact ⟨.ref p0, List.getElem?_set_self hl', rfl⟩
          · rw [List.getElem?_set_ne e'] at e
            rw [List.getElem?_set_ne e']
            obtain ⟨v, k1, k2⟩ := c.slot j y e
            refine ⟨v, k1, ?_⟩
            cases y with
            | frz d => exact Rep.firm (fun b o h _ => sm2 b o h) k2
            | adr b => exact k2
            | own ds => exact absurd trivial (hno _ (List.mem_of_getElem? e) _ rfl)
            | ownD ds => exact absurd trivial (hno _ (List.mem_of_getElem? e) _ rfl)
            | scr ms =>
              obtain ⟨b, l1, l2, l3⟩ := k2
              refine ⟨b, l1, ?_, ?_⟩
              · rcases l3 with ⟨o, l3⟩ | l3
                · exact .inl (.inr ⟨o, sm2 _ _ l3⟩)
                · exact .inr l3
              · rcases l3 with ⟨o, l3⟩ | l3
                · exact .inl ⟨o, sm2 _ _ l3⟩
                · exact .inr l3
        · by_cases e' : iw = j
          · subst e'
            rw [List.getElem?_set_self hl] at e
            cases e
            exact oy.elim
          · rw [List.getElem?_set_ne e'] at e
            exact (hno _ (List.mem_of_getElem? e) _ rfl oy).elim
        · rw [PyM.run_bind]
          cases y : mr.run (ds, 0) with
          | none =>
            have q : AfterS (m := Option) wd0 W H0 H er noE noE D (Res.bind (PyM.run ((mr.run (ds, 0)).map (·.1) : Option ρ) ()) fun a s' => PyM.run (pure (Out.rt a) : Option (Out ρ Empty Empty)) s') := q
            rw [y] at q
            exact q.elim
          | some pr =>
            have q : AfterS (m := Option) wd0 W H0 H er noE noE D (Res.bind (PyM.run ((mr.run (ds, 0)).map (·.1) : Option ρ) ()) fun a s' => PyM.run (pure (Out.rt a) : Option (Out ρ Empty Empty)) s') := q
            rw [y] at q
            have e : PyM.run mr (ds, 0) = some (.ok pr.1, pr.2) := by
              show (mr.run (ds, 0)).map _ = _
              rw [y]; rfl
            rw [e]
            exact fun v H' ex _ rv => q v H' (fun b o hb _ => ex b o hb (.inl (fun z => by
              have z : b = p0 := z
              rw [z, s0] at hb; cases hb))) trivial rv⟩
end
end TT

namespace TT
open PyM (fromO)
open PySem PySem.Spec PyProof.Rows L2

/-! ### one term for another -/
theorem tt_if {m : Type → Type} [Monad m] {α : Type} {p : Prop} [Decidable p] {a b : α} : (if p then (pure a : m α) else pure b) = pure (if p then a else b) := by split <;> rfl
theorem bif_and {c d : Bool} : (if c = true then d else false) = (c && d) := by cases c <;> rfl
theorem bif_or {c d : Bool} : (if c = true then true else d) = (c || d) := by cases c <;> rfl
theorem ltAll {is : List Nat} {R : Slots} (n : Nat) (h : R.length = n) (h2 : is.all (fun i => decide (i < n)) = true) : ∀ i ∈ is, i < R.length := by
  subst h
  intro i hi
  have := List.all_eq_true.mp h2 i hi
  simpa using this
theorem subN {r r' : Slots} {y : Option Slot} (h : SubS r r') : SubS (none :: r) (y :: r') := h
theorem subC {r r' : Slots} {x : Slot} (h : SubS r r') : SubS (some x :: r) (some x :: r') := ⟨rfl, h⟩
theorem subE : SubS [] [] := trivial
section
variable {X : Cx} {m : Type → Type} [Monad m] [PyM m] {C : Wd X.K X.w m} {W : WX} {H0 : Hp} {R : Slots} {α β γ ρ ε δ δ' η : Type} {ea : α → PyData} {eb : β → PyData} {er : ρ → PyData} {Rb : ε → Slots} {Rn : δ → Slots} {Rn' : δ' → Slots}
variable {e c : Expr} {st : Stmt} {rest sts body a b : List Stmt} {me : m α} {mc : m Bool} {pos : Pos} {mm mm' : m (Out ρ ε δ)}
theorem SL.asc {me : m α} {k : α → m β} {r : β → m (Out ρ ε δ)} (h : SL X C W H0 R sts er Rb Rn (me >>= fun a => k a >>= r)) : SL X C W H0 R sts er Rb Rn ((me >>= k) >>= r) := h.alike (alike_assoc me k r)
theorem SL.asc2 {me : m α} {f : α → m γ} {k : γ → m β} {r : β → m (Out ρ ε δ)} (h : SL X C W H0 R sts er Rb Rn (me >>= fun a => f a >>= fun c => k c >>= r)) : SL X C W H0 R sts er Rb Rn ((me >>= fun a => f a >>= k) >>= r) :=
  h.alike ((alike_assoc me _ r).trans (alike_bind fun a => alike_assoc (f a) k r))
/-- slots said otherwise -/
theorem SL.atR {R' : Slots} (h : SL X C W H0 R' sts er Rb Rn mm) (q : R = R') : SL X C W H0 R sts er Rb Rn mm := q ▸ h
theorem sf_ifR {ma mr : m ρ} (hc : ST X C W H0 R c mc) (ha : SF X C W H0 R a er ma) (hr : SF X C W H0 R rest er mr) :
    SF X C W H0 R (.If c a [] pos :: rest) er (mc >>= fun b => if b = true then ma else mr) :=
  (sl_ifR hc ha hr).alike ((alike_assoc _ _ _).trans (alike_bind fun b => by cases b <;> exact .refl _))
theorem sf_ifRR {ma mr : m ρ} (hc : ST X C W H0 R c mc) (ha : SF X C W H0 R a er ma) (hb : SF X C W H0 R b er mr) :
    SF X C W H0 R (.If c a b pos :: rest) er (mc >>= fun b => if b = true then ma else mr) :=
  (sl_ifRR hc ha hb).alike ((alike_assoc _ _ _).trans (alike_bind fun b => by cases b <;> exact .refl _))
/-- behind a loop that may return -/
def thenF (k : δ → m ρ) : δ ⊕ ρ → m ρ
  | .inl d => k d
  | .inr r => pure r
theorem alike_thenF {k : δ → m ρ} (x : δ ⊕ ρ) : Alike (thenF k x >>= fun r => pure (Out.rt r : Out ρ ε δ')) (thenL (fun d => k d >>= fun r => pure (.rt r)) x) := by
  cases x with
  | inl d => exact .refl _
  | inr r => exact alike_pure
/-- a return on one way -/
def Out.thnF (k : δ → m ρ) : Out ρ Empty δ → m ρ
  | .nx d => k d
  | .rt r => pure r
  | .bk d => d.elim
  | .ct d => d.elim
theorem sf_ifG {ma mb : m (Out ρ Empty δ)} {k : δ → m ρ} (hc : ST X C W H0 R c mc) (ha : SL X C W H0 R a er noE Rn ma) (hb : SL X C W H0 R b er noE Rn mb) (hr : ∀ d, SF X C W H0 (Rn d) rest er (k d)) :
    SF X C W H0 R (.If c a b pos :: rest) er (mc >>= fun t => (if t = true then ma else mb) >>= Out.thnF k) :=
  (sl_ifG hc ha hb hr).alike ((alike_assoc _ _ _).trans (alike_bind fun t => (alike_assoc _ _ _).trans (alike_bind fun o => by
    cases o with
    | nx d => exact .refl _
    | rt r => exact alike_pure
    | bk d => exact d.elim
    | ct d => exact d.elim)))
variable {tg iter : Expr} {mi : m (List α)} {g : TG} {is : List Nat} {dts : α → List PyData} {Rl : δ → Slots} {d0 : δ}
theorem sf_forG {mb : α → δ → m (Out ρ δ δ)} {k : δ → m ρ} (hp : PassesOwn (model X.prog X.w) X.A X.env X.xe) (hc : X.calm = true) (hi : SI X C W H0 R Firms tg iter ea mi) (hg : PG X tg g) (hgo : GOk X.K X.w g ea is dts)
    (h0 : SubS (Rl d0) R) (hlt : ∀ d, ∀ i ∈ is, i < (Rl d).length) (hb : ∀ a d, SL X C W H0 (setR (Rl d) is (dts a)) body er Rl Rl (mb a d)) (hr : ∀ d, SF X C W H0 (Rl d) rest er (k d))
    (hs : ∀ x, foldedSetIterable iter X.env x = pure x) : SF X C W H0 R (.For tg iter body [] pos :: rest) er (mi >>= fun xs => loopL mb xs d0 >>= thenF k) :=
  (sl_forG hp hc hi hg hgo h0 hlt hb hr hs).alike ((alike_assoc _ _ _).trans (alike_bind fun xs => (alike_assoc _ _ _).trans (alike_bind fun x => alike_thenF x)))
theorem sf_whG {mc : δ → m Bool} {mb : δ → m (Out ρ δ δ)} {k : δ → m ρ} (hp : PassesOwn (model X.prog X.w) X.A X.env X.xe)
    (h0 : SubS (Rl d0) R) (hc : ∀ d, ST X C W H0 (Rl d) c (mc d)) (hb : ∀ d, SL X C W H0 (Rl d) body er Rl Rl (mb d)) (hr : ∀ d, SF X C W H0 (Rl d) rest er (k d)) :
    SF X C W H0 R (.While c body [] pos :: rest) er (whileG mc mb d0 >>= thenF k) :=
  (sl_whG hp h0 hc hb hr).alike ((alike_assoc _ _ _).trans (alike_bind fun x => alike_thenF x))
/-! ### a plain while -/
def WhP (X : Cx) (C : Wd X.K X.w m) (W : WX) (H0 : Hp) (Rl : δ → Slots) (mc : δ → m Bool) (mb : δ → m δ) (H1 : Hp) (D : Ends) (n : Nat) (σ : L2.St) (H : Hp) : Prop :=
  ∃ d s, Firms H1 H ∧ Cfg C H0 (Rl d) s σ H ∧ match PyM.run (whileFP mc mb n d) s with
    | none => False
    | some (.ok d', s') => ∀ σ' H', Firms H1 H' → Cfg C H0 (Rl d') s' σ' H' → D.nx σ' H'
    | some (.error x, s') => ∀ cls d σ' H', Ext C.mt H0 H' → C.rel s' H' → C.exc x cls d H' → W cls d σ' H'
theorem sl_whP {mc : δ → m Bool} {mb : δ → m δ} {k : δ → m (Out ρ ε δ')} (hp : PassesOwn (model X.prog X.w) X.A X.env X.xe)
    (h0 : SubS (Rl d0) R) (hc : ∀ d, ST X C W H0 (Rl d) c (mc d)) (hb : ∀ d, SP X C W H0 (Rl d) body Rl (mb d)) (hr : ∀ d, SL X C W H0 (Rl d) rest er Rb Rn' (k d)) :
    SL X C W H0 R (.While c body [] pos :: rest) er Rb Rn' (whileM mc mb d0 >>= k) :=
  ⟨(pss_cons (ps_while hp (tc := fun σ H Q => ∃ d, tT C W H0 (Rl d) (mc d) σ H Q) (tb := fun D σ H => ∃ d, tS C W H0 (Rl d) er Rl Rl (mb d >>= fun d => pure (.nx d)) D σ H) ⟨fun pins s σ H Q I ⟨d, q⟩ => (hc d).run.run pins s σ H Q I q⟩ ⟨fun pins s σ H D I ⟨d, q⟩ => (SP.up (hb d)).run.run pins s σ H D I q⟩)
      (u := fun D σ H => ∃ d, tS C W H0 (Rl d) er Rb Rn' (k d) D σ H) ⟨fun pins s σ H D I ⟨d, q⟩ => (hr d).run.run pins s σ H D I q⟩).weak fun D σ H q => by
    obtain ⟨s, c, q⟩ := q
    rw [PyM.run_bind] at q
    cases z : PyM.run (whileM mc mb d0) s with
    | none => rw [z] at q; exact q.elim
    | some p =>
      obtain ⟨n, hn⟩ := PyM.run_sup _ _ _ z
      rw [z] at q
      refine ⟨WhP X C W H0 Rl mc mb H { D with nx := fun σ H => ∃ d, tS C W H0 (Rl d) er Rb Rn' (k d) D σ H }, ⟨n, d0, s, Firms.refl _, c.sub h0, ?_⟩, ?_⟩
      · rw [hn]
        obtain ⟨r2, s2⟩ := p
        cases r2 with
        | error x => exact q
        | ok d' => exact fun σ' H' f cf => ⟨d', s2, cf, AfterS.mono f q⟩
      · rintro i σ2 H2 ⟨d, s2, f2, c2, w2⟩
        cases i with
        | zero =>
          have w2 : match PyM.run (fromO none : m δ) s2 with
                    | none => False
                    | some (.ok d', s') => ∀ σ' H', Firms H H' → Cfg C H0 (Rl d') s' σ' H' → ∃ d, tS C W H0 (Rl d) er Rb Rn' (k d) D σ' H'
                    | some (.error x, s') => ∀ cls d σ' H', Ext C.mt H0 H' → C.rel s' H' → C.exc x cls d H' → W cls d σ' H' := w2
          rw [PyM.run_fromO] at w2
          exact w2.elim
        | succ i =>
          have e : PyM.run (whileFP mc mb (i + 1) d) s2 = Res.bind (PyM.run (mc d) s2) fun t s' => PyM.run (if t = true then mb d >>= whileFP mc mb i else pure d) s' := PyM.run_bind (mc d) _ s2
          rw [e] at w2
          refine ⟨d, s2, c2, ?_⟩
          cases z3 : PyM.run (mc d) s2 with
          | none => rw [z3] at w2; exact w2
          | some p3 =>
            obtain ⟨r3, s3⟩ := p3
            rw [z3] at w2
            cases r3 with
            | error x => exact fun cls dd H' e rl ex => w2 cls dd σ2 H' (c2.base.trans e) rl ex
            | ok t =>
              intro H3 e3 rl3
              have c3 := c2.ext e3 rl3
              have f3 : Firms H H3 := f2.trans e3.firms
              cases t with
              | false =>
                have w2 : match PyM.run (pure d : m δ) s3 with
                    | none => False
                    | some (.ok d', s') => ∀ σ' H', Firms H H' → Cfg C H0 (Rl d') s' σ' H' → ∃ d, tS C W H0 (Rl d) er Rb Rn' (k d) D σ' H'
                    | some (.error x, s') => ∀ cls d σ' H', Ext C.mt H0 H' → C.rel s' H' → C.exc x cls d H' → W cls d σ' H' := w2
                rw [PyM.run_pure] at w2
                exact w2 σ2 H3 f3 c3
              | true =>
                rw [if_pos rfl]
                refine ⟨WhP X C W H0 Rl mc mb H { D with nx := fun σ H => ∃ d, tS C W H0 (Rl d) er Rb Rn' (k d) D σ H } i, fun σ' H' w => ⟨i, Nat.lt_succ_self i, w⟩, d, s3, c3, ?_⟩
                have w2 : match PyM.run (mb d >>= whileFP mc mb i) s3 with
                    | none => False
                    | some (.ok d', s') => ∀ σ' H', Firms H H' → Cfg C H0 (Rl d') s' σ' H' → ∃ d, tS C W H0 (Rl d) er Rb Rn' (k d) D σ' H'
                    | some (.error x, s') => ∀ cls d σ' H', Ext C.mt H0 H' → C.rel s' H' → C.exc x cls d H' → W cls d σ' H' := w2
                rw [PyM.run_bind] at w2 ⊢
                cases z4 : PyM.run (mb d) s3 with
                | none => rw [z4] at w2; exact w2
                | some p4 =>
                  obtain ⟨r4, s4⟩ := p4
                  rw [z4] at w2
                  cases r4 with
                  | error x => exact w2
                  | ok d' =>
                    show AfterS C W H0 H3 er Rl Rl _ (PyM.run (pure (.nx d')) s4)
                    rw [PyM.run_pure]
                    exact fun σ' H' f cf => ⟨d', s4, f3.trans f, cf, w2⟩⟩
end

/-! ### a list of one's own is locked -/
section
variable {X : Cx} {m : Type → Type} [Monad m] [PyM m] {C : Wd X.K X.w m} {W : WX} {H0 : Hp} {R : Slots} {α β γ ρ ε δ : Type} {ea : α → PyData} {eb : β → PyData} {er : ρ → PyData} {Rb : ε → Slots} {Rn : δ → Slots}
variable {e : Expr} {rest sts : List Stmt} {pos : Pos} {mm : m (Out ρ ε δ)}
theorem Cfg.lock {K : PySem.W.Frag} {w : World} {C : Wd K w m} {s : PyM.S m} {σ : L2.St} {H : Hp} {i : Nat} {a : Addr} {vs : List V} {ds : List PyData} {o : Obj} (c : Cfg C H0 R s σ H) (hR : R[i]? = some (some (.own ds))) (ha : σ[i]? = some (some (.ref a))) (h : H a = some (.lst vs)) (r : Reps K w H vs ds) (h0 : H0 a = none) (hm : ¬ C.mt a) :
    Cfg C H0 (R.set i (some (.frz (.list ds)))) s σ (upd H a (.frz o (.lst vs))) := by
  have hl : i < R.length := by
    rcases Nat.lt_or_ge i R.length with z | z
    · exact z
    · rw [List.getElem?_eq_none z] at hR; cases hR
  have fm : Firms H (upd H a (.frz o (.lst vs))) := firms_upd' h (fun z => z)
  have nf : ∀ b u, H b = some u → Firm u → b ≠ a := fun b u hu f z => by subst z; rw [h] at hu; cases hu; exact f
  refine ⟨by rw [List.length_set]; exact c.len, fun b u hb k => ?_, C.other _ _ _ _ c.rel hm nf, fun j y e => ?_, fun j l y y2 n e1 e2 o1 o2 => ?_⟩
  · rw [upd_ne (ne_of_none hb h0)]
    exact c.base b u hb k
  · by_cases q : i = j
    · subst q
      rw [List.getElem?_set_self hl] at e
      cases e
      exact ⟨.ref a, ha, .lst ⟨o, upd_same⟩ (Reps.firm fm r)⟩
    · rw [List.getElem?_set_ne q] at e
      obtain ⟨v, h1, h2⟩ := c.slot j y e
      refine ⟨v, h1, ?_⟩
      cases y with
      | frz d => exact Rep.firm fm h2
      | adr b => exact h2
      | ownD es =>
        obtain ⟨b, us, k1, k2, k3, k4, k5⟩ := h2
        have nb : b ≠ a := fun z => c.apart i j _ _ q hR e trivial trivial (by rw [ha, h1, k1, z])
        exact ⟨b, us, k1, by rw [upd_ne nb]; exact k2, k3.firm fm, k4, k5⟩
      | own es =>
        obtain ⟨b, us, k1, k2, k3, k4, k5⟩ := h2
        have nb : b ≠ a := fun z => c.apart i j _ _ q hR e trivial trivial (by rw [ha, h1, k1, z])
        exact ⟨b, us, k1, by rw [upd_ne nb]; exact k2, Reps.firm fm k3, k4, k5⟩
      | scr ns =>
        obtain ⟨b, k1, k2, k3⟩ := h2
        refine ⟨b, k1, ?_, ?_⟩
        · rcases k3 with ⟨o, k3⟩ | k3
          · exact .inl (.inr ⟨o, fm _ _ k3 trivial⟩)
          · exact .inr k3
        · rcases k3 with ⟨o, k3⟩ | k3
          · exact .inl ⟨o, fm _ _ k3 trivial⟩
          · exact .inr k3
  · have n1 : i ≠ j := fun z => by
      subst z
      rw [List.getElem?_set_self hl] at e1
      cases e1
      exact o1
    have n2 : i ≠ l := fun z => by
      subst z
      rw [List.getElem?_set_self hl] at e2
      cases e2
      exact o2
    rw [List.getElem?_set_ne n1] at e1
    rw [List.getElem?_set_ne n2] at e2
    exact c.apart j l y y2 n e1 e2 o1 o2
theorem SL.lock (i : Nat) {ds : List PyData} (hR : R[i]? = some (some (.own ds))) (h : SL X C W H0 (R.set i (some (.frz (.list ds)))) sts er Rb Rn mm) : SL X C W H0 R sts er Rb Rn mm :=
  ⟨⟨fun pins s σ H D I q => by
    obtain ⟨s', c, q⟩ := q
    obtain ⟨v, h1, a, vs, k1, k2, k3, k4, k5⟩ := c.slot i _ hR
    subst k1
    obtain ⟨o, I2⟩ := Inv.freeze I k2
    have fm : Firms H (upd H a (.frz o (.lst vs))) := firms_upd' k2 (fun z => z)
    exact h.run.run pins s σ _ D I2 ⟨s', c.lock hR h1 k2 k3 k4 k5, AfterS.mono fm q⟩⟩⟩
end

/-! ### y = [..] on one line -/
section
variable {X : Cx} {m : Type → Type} [Monad m] [PyM m] {C : Wd X.K X.w m} {W : WX} {H0 : Hp} {R : Slots} {α β ρ ε δ : Type} {ea : α → PyData} {eb : β → PyData} {er : ρ → PyData} {Rb : ε → Slots} {Rn : δ → Slots}
variable {elt tg iter : Expr} {ifs : List Expr} {scope : Scope} {own : List (Str × Nat)} {pos spos py : Pos} {mi : m (List α)} {mt : α → m Bool} {me : α → m β} {g : TG} {is : List Nat} {dts : α → List PyData} {rest : List Stmt}
theorem sl_setLc [NoErr m] {i : Nat} {y : Str} {ml : m (List β)} {k : List β → m (Out ρ ε δ)} (hy : X.N[i]? = some y) (hyl : X.env.scope.names.lookup y = some .local) (hl : i < R.length)
    (hsw : swapsWith (.ListComp elt [⟨tg, iter, ifs, 0⟩] scope pos) (some (.Name y py)) spos.line X.env = pure true)
    (hc : X.calm = true) (hN : X.N.Nodup) (hi : SI X C W H0 R (Ext C.mt) tg iter ea mi) (ok : BlkOk X.N X.env.scope scope own)
    (hg : ∀ (s : Shared) (H : Hp) (Cc : Addr) (cl : List (Str × Addr)) (fp : List Addr), PG (X.blk s H scope (compEnvC scope cl Cc X.env) fp) tg g)
    (hgo : GOk X.K X.w g ea is dts) (hin : ∀ i ∈ is, i ∈ own.map (·.2)) (hlt : ∀ i ∈ is, i < R.length)
    (ht : ∀ (a : α) (s : Shared) (H : Hp) (Cc : Addr) (cl : List (Str × Addr)) (fp : List Addr), SIf (X.blk s H scope (compEnvC scope cl Cc X.env) fp) C W0 H0 (setR (wipeR R (own.map (·.2))) is (dts a)) ifs (mt a))
    (he : ∀ (a : α) (s : Shared) (H : Hp) (Cc : Addr) (cl : List (Str × Addr)) (fp : List Addr), SE (X.blk s H scope (compEnvC scope cl Cc X.env) fp) C W0 H0 (setR (wipeR R (own.map (·.2))) is (dts a)) elt eb (me a))
    (q : ml = mi >>= compL mt me) (hr : ∀ a : List β, SL X C W H0 (R.set i (some (.own (a.map eb)))) rest er Rb Rn (k a))
    (hs : ∀ x, foldedSetIterable iter X.env x = pure x := by intro _; rfl) :
    SL X C W H0 R (.Assign [.Name y py] (.ListComp elt [⟨tg, iter, ifs, 0⟩] scope pos) spos :: rest) er Rb Rn (ml >>= k) := by
  subst q
  refine ⟨(pss_cons (ps_setLc hc hN hy hyl hsw hi.run ok hg (tt := fun σ H Q => ∃ a, tT C W0 H0 (setR (wipeR R (own.map (·.2))) is (dts a)) (mt a) σ H Q) (fun s H Cc cl fp => ⟨fun pins s σ H Q I ⟨a, h⟩ => (ht a _ _ _ _ _).run.run pins s σ H Q I h⟩) (te := fun σ H Q => ∃ a, tR C W0 H0 (setR (wipeR R (own.map (·.2))) is (dts a)) (kF X.K X.w C.mt) eb (me a) σ H Q)
    (fun s H Cc cl fp => ⟨fun pins s σ H Q I ⟨a, h⟩ => (he a _ _ _ _ _).run.run pins s σ H Q I h⟩) hs)
      (u := fun D σ H => ∃ a : List β, tS C W H0 (R.set i (some (.own (a.map eb)))) er Rb Rn (k a) D σ H) ⟨fun pins s σ H D I ⟨a, q⟩ => (hr a).run.run pins s σ H D I q⟩).weak fun D σ H q => ?_⟩
  obtain ⟨s0, c0, q0⟩ := id q
  refine (show tLc _ _ _ _ _ σ H (fun v H1 => ∃ a : List β, tS C W H0 (R.set i (some (.own (a.map eb)))) er Rb Rn (k a) D (σ.set i (some v)) H1) from tLc_ok hgo hin hlt (tS_bind (k := kO X.K X.w C.mt) (ea := eLst eb) q fun a v H' kv e nb hh => ?_))
  obtain ⟨b, vs, ds, h1, h2, h3, h4, h5⟩ := kv
  obtain ⟨s, c, q⟩ := hh
  refine ⟨a, s, ?_, q⟩
  subst h1
  have h2 : PyData.list (a.map eb) = .list ds := h2
  injection h2 with h2
  subst h2
  have nm : ¬ C.mt b := fun z => by
    obtain ⟨o, ho, _⟩ := C.there _ _ _ c0.rel z
    rw [h5] at ho; cases ho
  have h0 : H0 b = none := by
    cases z : H0 b with
    | none => rfl
    | some o => rw [c0.base b o z (.inl nm)] at h5; cases h5
  refine c.setO hl h3 h4 h0 nm fun j y hy oy z => ?_
  obtain ⟨v, e1, ok⟩ := c0.slot j y hy
  have : v = V.ref b := by rw [e1] at z; injection z with z; injection z
  subst this
  cases y with
  | own es =>
    obtain ⟨b', us, k1, k2, _⟩ := ok
    cases k1
    rw [h5] at k2
    cases k2
  | ownD es =>
    obtain ⟨b', us, k1, k2, _⟩ := ok
    cases k1
    rw [h5] at k2
    cases k2
  | frz _ => exact oy
  | adr _ => exact oy
  | scr _ => exact oy
end

/-! ### += -/
section
variable {X : Cx} {m : Type → Type} [Monad m] [PyM m] {C : Wd X.K X.w m} {W : WX} {H0 : Hp} {R : Slots} {α β γ ρ ε δ : Type} {ea : α → PyData} {eb : β → PyData} {er : ρ → PyData} {Rb : ε → Slots} {Rn : δ → Slots}
variable {e : Expr} {rest sts : List Stmt} {pos pos' : Pos} {mi : m Int} {i : Nat} {x : Str} {n : Int}
theorem sl_augI {op : Operator} {f : Int → Int → Int} {k : Int → m (Out ρ ε δ)} (ho : PIp X op (ipI f)) (hN : X.N.Nodup) (hi : X.N[i]? = some x) (hx : Loc X.env.scope x) (hR : R[i]? = some (some (.frz (eInt n)))) (hl : i < R.length) (h : SE X C W H0 R e eInt mi)
    (hr : ∀ j, SL X C W H0 (R.set i (some (.frz (eInt (f n j))))) rest er Rb Rn (k j)) (hf : X.fn x = true ∨ X.env.scope.names.lookup x = some .local) : SL X C W H0 R (.AugAssign (.Name x pos') op e pos :: rest) er Rb Rn (mi >>= k) :=
  ⟨(pss_cons (ps_aug hN hi hx h.run ho hf) (u := fun D σ H => ∃ j, tS C W H0 (R.set i (some (.frz (eInt (f n j))))) er Rb Rn (k j) D σ H) ⟨fun pins s σ H D I ⟨a, q⟩ => (hr a).run.run pins s σ H D I q⟩).weak fun D σ H q => by
    obtain ⟨s0, c0, q0⟩ := id q
    obtain ⟨v, e1, ok⟩ := c0.slot i _ hR
    have ok : Rep X.K X.w H v (.int n) := ok
    cases ok
    refine ⟨.int n, e1, tS_bind (k := kF X.K X.w C.mt) (ea := eInt) q fun a v H' kv e _ ⟨s, c, q⟩ => ?_⟩
    have kv : Rep X.K X.w H' v (.int a) := kv
    cases kv
    exact ⟨n, a, rfl, rfl, a, s, c.setF hl (.int _), q⟩⟩
end

/-! ### zip -/
section
variable {X : Cx} {m : Type → Type} [Monad m] [PyM m] {C : Wd X.K X.w m} {W : WX} {H0 : Hp} {R : Slots} {P : Pk} {α β : Type} {ea : α → PyData} {eb : β → PyData}
variable {a b : Expr} {elts : List Expr} {pos p tpos : Pos} {kk : Nat} {mxs : m (List α)} {mys : m (List β)}
theorem zip_at {α β : Type} : ∀ {xs : List α} {ys : List β} {i : Nat} {x : α} {y : β}, xs[i]? = some x → ys[i]? = some y → (xs.zip ys)[i]? = some (x, y)
  | [], _, _, _, _, h, _ => by simp at h
  | _ :: _, [], _, _, _, _, h => by simp at h
  | a :: xs, b :: ys, 0, x, y, h, h' => by simp at h h' ⊢; exact ⟨h, h'⟩
  | a :: xs, b :: ys, i + 1, x, y, h, h' => by simpa using zip_at (xs := xs) (ys := ys) (i := i) (by simpa using h) (by simpa using h')
theorem wk_zipT {K : PySem.W.Frag} {w : World} {H : Hp} {a b : Addr} {vs us : List V} {xs : List α} {ys : List β} (l : LenOk K H) (h : SqT K H a vs) (h' : SqT K H b us) (r : Reps K w H vs (xs.map ea)) (r' : Reps K w H us (ys.map eb)) (fs : ∀ {H'}, P H H' → Firms H H') : Wk K w (P H) (RZ.ItzT K a b) ((xs.zip ys).map (eT2 ea eb)) where
  go i H' p hi := by
    have f := fs p
    have hA := SqT.firm f h
    have hB := SqT.firm f h'
    rw [List.length_map, List.length_zip] at hi
    have l1 := r.length
    have l2 := r'.length
    rw [List.length_map] at l1 l2
    have i1 : i < xs.length := by omega
    have i2 : i < ys.length := by omega
    have g1 : (xs.map ea)[i]? = some (ea xs[i]) := by rw [List.getElem?_map, List.getElem?_eq_getElem i1]; rfl
    have g2 : (ys.map eb)[i]? = some (eb ys[i]) := by rw [List.getElem?_map, List.getElem?_eq_getElem i2]; rfl
    obtain ⟨v, e1, rv⟩ := r.get g1
    obtain ⟨u, e2, ru⟩ := r'.get g2
    refine ⟨⟨vs, us, v, u, hA, hB, e1, e2⟩, fun x H2 y => ?_⟩
    obtain ⟨T, x1, x2, rfl, nT, rfl, f1, f2⟩ := y
    have q1 := f1 _ hA
    have q2 := f2 _ hB
    rw [e1] at q1; cases q1
    rw [e2] at q2; cases q2
    refine ⟨Same.new nT, eT2 ea eb (xs[i], ys[i]), ?_, ?_⟩
    · rw [List.getElem?_map, zip_at (List.getElem?_eq_getElem i1) (List.getElem?_eq_getElem i2)]; rfl
    · have s2 : Firms H (upd H' T (.tup [v, u])) := fun c o hc k => Same.new nT _ _ (f _ _ hc k)
      exact .tup (.inl (.inl upd_same)) (.cons (Rep.firm s2 rv) (.cons (Rep.firm s2 ru) .nil))
  stop i H' p hi := by
    have f := fs p
    rw [List.length_map, List.length_zip] at hi
    have l1 := r.length
    have l2 := r'.length
    rw [List.length_map] at l1 l2
    exact ⟨vs, us, SqT.firm f h, SqT.firm f h', by omega⟩
  len := by
    have l1 := r.length
    rw [List.length_map] at l1
    rw [List.length_map, List.length_zip]
    exact Nat.le_trans (Nat.min_le_left _ _) (l1 ▸ l.2.1 a vs h)
theorem si_zipT (hg : Gl X "zip") (hm : X.mg "zip" = none) (ha : SE X C W H0 R a (eTup ea) mxs) (hb : SE X C W H0 R b (eTup eb) mys) (fs : ∀ {H H'}, P H H' → Firms H H')
    (hs : starEach [a, b] X.env = (false, eval a X.env) :: starEach [b] X.env := by rfl) (hs2 : starEach [b] X.env = (false, eval b X.env) :: starEach [] X.env := by rfl) (hpl : (backTo pos (starEach [b] X.env)).any (·.1) = false := by rfl) :
    SI X C W H0 R P (.Tuple elts kk tpos) (.Call (.Name "zip" p) [a, b] [] pos) (eT2 ea eb) (mxs >>= fun xs => mys >>= fun ys => pure (xs.zip ys)) :=
  ⟨(RZ.pi_zipA hg hm (pa_cons ha.run.facts (pa_cons hb.run.facts pa_nil hs2) hs) hs hpl).weak fun σ H Q q => tR_imp (tI_bind (k := kF X.K X.w C.mt) (ea := eTup ea) q) fun v H1 ⟨xs, e, kv, q⟩ lk => tR_imp (tI_bind (k := kF X.K X.w C.mt) (ea := eTup eb) q) fun v2 H2 ⟨ys, e2, kv2, q⟩ lk2 => by
    obtain ⟨s, c, q⟩ := q
    rw [PyM.run_pure] at q
    have kv : Rep X.K X.w H1 v (.tuple (xs.map ea)) := kv
    have kv2 : Rep X.K X.w H2 v2 (.tuple (ys.map eb)) := kv2
    cases kv with
    | tup h r =>
      cases kv2 with
      | tup h' r' =>
        exact ⟨_, _, _, _, rfl, .inr ⟨SqT.firm e2.firms h, h', q _ _ .refl c.rel (wk_zipT lk2 (SqT.firm e2.firms h) h' (Reps.firm e2.firms r) r' fs)⟩⟩⟩
end
end TT

namespace HT
open PySem PySem.Spec PyProof.Rows
section
variable {prog : Program} {w : World} {A : Around} {E : Value → Shared → Prop} {s : Shared}
theorem filterMap_same {α β : Type} {f g : α → Option β} : ∀ {l : List α}, (∀ x ∈ l, f x = g x) → l.filterMap f = l.filterMap g
  | [], _ => rfl
  | x :: l, h => by
    rw [List.filterMap_cons, List.filterMap_cons, h x (by simp), filterMap_same fun y hy => h y (by simp [hy])]
theorem pick_rev {α : Type} (xs : Array α) : (List.range xs.size).filterMap (fun (m : Nat) => xs[(((xs.size : Int) - 1) + (m : Int) * (-1)).toNat]?) = xs.toList.reverse := by
  have e : ∀ m ∈ List.range xs.size, xs[(((xs.size : Int) - 1) + (m : Int) * (-1)).toNat]? = ((xs[·]?) ∘ fun k => xs.size - 1 - k) m := by
    intro m hm
    have := List.mem_range.mp hm
    have : (((xs.size : Int) - 1) + (m : Int) * (-1)).toNat = xs.size - 1 - m := by omega
    rw [this]; rfl
  have e2 : (List.range xs.size).filterMap (fun (m : Nat) => xs[(((xs.size : Int) - 1) + (m : Int) * (-1)).toNat]?) = (List.range xs.size).filterMap ((xs[·]?) ∘ fun k => xs.size - 1 - k) := filterMap_same e
  rw [e2, ← List.filterMap_map, PySem.W.krv_range, List.filterMap_reverse, PySem.W.krv_all]
theorem sliceApplied_rev {sl : Addr} {vl vu vs : Value} {n : Nat} {Q : Int × Int × Nat → Shared → Prop} (hs : s.heap.IsSliceOf sl vl vu vs) (pl : IsPart vl none) (pu : IsPart vu none) (ps : IsPart vs (some (-1)))
    (h : Q ((n : Int) - 1, -1, n) s) : wpAny (model prog w) A (Builtin.Slice.sliceApplied (.ref sl) (pure (n : Int))) Q E s := by
  obtain ⟨os, hos, hcs, hds⟩ := id hs
  unfold Builtin.Slice.sliceApplied Builtin.Slice.sliceFields
  refine wpAny_bind (wpAny_bind (wpAny_field hos hds (x := vl) rfl (wpAny_bind (wpAny_field hos hds (x := vu) rfl (wpAny_bind (wpAny_field hos hds (x := vs) rfl (wpAny_pure ?_)))))))
  refine wpAny_bind (slicePart_ ps ?_)
  show wpAny _ _ (if ((-1 : Int) == 0) = true then _ else _) _ _ s
  rw [if_neg (by decide)]
  refine wpAny_bind (slicePart_ pl (wpAny_bind (slicePart_ pu (wpAny_bind (wpAny_pure ?_)))))
  show wpAny _ _ (match Builtin.Slice.sliceAdjust none none (-1) (n : Int) with | (lo, hi) => pure (lo, (-1 : Int), Builtin.Slice.slicePlaces lo hi (-1))) _ _ s
  have ea : Builtin.Slice.sliceAdjust none none (-1) (n : Int) = ((n : Int) - 1, -1) := by
    first | rfl | simp [Builtin.Slice.sliceAdjust]
  have ep : Builtin.Slice.slicePlaces ((n : Int) - 1) (-1) (-1) = n := by
    unfold Builtin.Slice.slicePlaces
    first
      | (simp; omega)
      | (split <;> simp <;> omega)
  rw [ea]
  show wpAny _ _ (pure ((n : Int) - 1, (-1 : Int), Builtin.Slice.slicePlaces ((n : Int) - 1) (-1) (-1))) _ _ s
  rw [ep]
  exact wpAny_pure h
theorem getItem_tuple_rev {t sl : Addr} {items : Array Value} {vl vu vs : Value} {Q : Value → Shared → Prop} (ht : IsTup s.heap t items) (hs : s.heap.IsSliceOf sl vl vu vs) (pl : IsPart vl none) (pu : IsPart vu none) (ps : IsPart vs (some (-1)))
    (h : Q (.ref s.heap.objs.size) { s with heap := s.heap.push { cls := .type "tuple", data := .seq items.toList.reverse.toArray } })
    (hsz : items.size ≤ sizeLine) : wpAny (model prog w) A (getItem (.ref t) (.ref sl)) Q E s := by
  have htake : sizeOk (.seq items.toList.reverse.toArray) := by
    show items.toList.reverse.toArray.size ≤ sizeLine
    rw [List.size_toArray, List.length_reverse, Array.length_toList]
    omega
  obtain ⟨os, hos, hcs, hds⟩ := id hs
  have hTs : s.TypeIs (.ref sl) "slice" := ⟨os, hos, hcs⟩
  unfold getItem
  try with_reducible refine wpAny_holding ?_
  first | refine wpAny_bind (wpAny_pure ?_) | skip
  refine wpAny_bind (wpAny_sequenceKey ht.typeIs (by decide) ?_)
  refine wpAny_bind (wpAny_callSpecial?_slot (name := Str.ofString "__getitem__") ht.typeIs PyProof.Rows.slot_tuple_getitem
    (wpAny_call_entry PyProof.Rows.slot_tuple_getitem ht.typeIs entry_tuple_getitem ?_ (args_tuple_getitem _ _)))
  show wpAny _ _ (Builtin.Tuple.tupleItemsOf (.ref t) >>= _) _ _ s
  refine wpAny_bind (tupleItemsOf_ ht ?_)
  refine wpAny_bind (wpAny_typeOf hTs ?_)
  rw [if_pos (by decide)]
  refine wpAny_bind (sliceApplied_rev hs pl pu ps ?_)
  have hno : ¬ ((((items.size : Int) - 1) == 0 && (-1 : Int) == 1 && items.size == items.size) = true) := by
    intro q
    rw [Bool.and_eq_true, Bool.and_eq_true] at q
    exact absurd q.1.2 (by decide)
  show wpAny _ _ (if ((((items.size : Int) - 1) == 0 && (-1 : Int) == 1 && items.size == items.size) = true) then _ else _) _ _ s
  rw [if_neg hno, pick_rev]
  first
    | exact wpAny_bind (m := Builtin.Tuple.tupleExact _) (wpAny_newObj_type (wpAny_pure ⟨_, rfl, wpAny_pure h⟩) htake)
    | exact wpAny_bind (m := Builtin.Tuple.tupleExact _) (wpAny_newObj_type (wpAny_bind (wpAny_pure (wpAny_pure ⟨_, rfl, wpAny_pure h⟩))) htake)
    | exact wpAny_bind (wpAny_bind (m := Builtin.Tuple.tupleExact _) (wpAny_newObj_type (wpAny_pure (wpAny_pure ⟨_, rfl, wpAny_pure h⟩)) htake))
    | exact wpAny_bind (wpAny_bind (m := Builtin.Tuple.tupleExact _) (wpAny_newObj_type (wpAny_pure ⟨_, rfl, wpAny_pure h⟩) htake))
end
end HT
namespace TT
open PyM (fromO)
open PySem PySem.Spec PyProof.Rows L2
/-! ### t[::-1] -/
def tRevT (K : PySem.W.Frag) (te : TE) : TE := fun σ H Q => te σ H fun x H1 => ∃ a xs, x = .ref a ∧ SqT K H1 a xs ∧ ∀ p, H1 p = none → Q (.ref p) (upd H1 p (.tup xs.reverse))
theorem pe_revT {X : Cx} {e : Expr} {te : TE} {k : Nat} {p1 p2 p3 pos : Pos} (he : PE X e te) : PE X (.Subscript e (.Slice none none (some (.UnaryOp .USub (.Constant (.int 1) k p1) p2)) p3) pos) (tRevT X.K te) := by
  refine ⟨fun pins s σ H Q I h => ?_⟩
  refine Subscript_ (thn (he.run pins s σ H _ I h) fun v s1 ⟨x, H1, I1, r1, q1⟩ => ?_)
  obtain ⟨a, xs, ex, hx, q⟩ := q1
  subst ex
  cases r1
  have hst : PO X (some (.UnaryOp .USub (.Constant (.int 1) k p1) p2)) (tPart (tUn (rU fun i => .int (-i)) (tC (.int 1)))) := po_some (pe_un un_neg pe_int)
  refine wpAny_Slice (thn (po_none.run pins s1 σ H1 (fun o H2 => o = none ∧ H2 = H1) I1 ⟨rfl, rfl⟩) fun vl s2 ⟨l, H2, I2, pl, el, e2⟩ => ?_)
  subst el e2
  refine thn (po_none.run pins s2 σ H2 (fun o H3 => o = none ∧ H3 = H2) I2 ⟨rfl, rfl⟩) fun vu s3 ⟨u, H3, I3, pu, eu, e3⟩ => ?_
  subst eu e3
  refine thn (hst.run pins s3 σ H3 (fun o H4 => o = some (-1) ∧ H4 = H3) I3 ⟨1, rfl, -1, rfl, rfl, rfl⟩) fun vs s4 ⟨o, H4, I4, ps, eo, e4⟩ => ?_
  subst eo e4
  have I5 : L2.Inv X pins σ H4 { s4 with heap := s4.heap.push { cls := .type "slice", data := .fields #[vl, vu, vs] } } := I4.kept (t' := s4.toks) fun b ob q => Heap.get?_push_of_some _ q
  obtain ⟨its, r, ht, hz⟩ := I5.tuple hx
  have hlen := r.length
  show wpAny (model X.prog X.w) X.A (subscriptTail e (.Slice none none (some (.UnaryOp .USub (.Constant (.int 1) k p1) p2)) p3) (.ref a) (.ref s4.heap.objs.size)) (EP X pins σ Q) X.xe { s4 with heap := s4.heap.push { cls := .type "slice", data := .fields #[vl, vu, vs] } }
  refine tail_any (ops := [.ref a, .ref s4.heap.objs.size]) ht.typeIs (PyProof.Rows.slot_tuple_getitem.lookup) ?_ (by with_unfolding_all rfl)
  refine HT.getItem_tuple_rev ht (Heap.IsSliceOf.new _ vl vu vs) pl pu ps ?_ (by rw [List.size_toArray]; omega)
  refine ⟨.ref _, _, I5.laid (t' := s4.toks) (o := .tup xs.reverse) (fun b ob q => Heap.get?_push_of_some _ q) (Nat.le_refl _) ?_, rfl, q _ (I5.hok.fresh (Nat.le_refl _))⟩
  exact ⟨by rw [List.length_reverse]; exact hz, _, r.reverse, IsTup.new _ _⟩
section
variable {X : Cx} {m : Type → Type} [Monad m] [PyM m] {C : Wd X.K X.w m} {W : WX} {H0 : Hp} {R : Slots} {α β : Type} {ea : α → PyData} {eb : β → PyData} {a b : Expr} {ma mb : m α} {mxs : m (List α)} {pos : Pos}
theorem se_revT {k0 : Nat} {p1 p2 p3 : Pos} (ha : SB X C W H0 R a (eTup ea) mxs) : SE X C W H0 R (.Subscript a (.Slice none none (some (.UnaryOp .USub (.Constant (.int 1) k0 p1) p2)) p3) pos) (eTup ea) (mxs >>= fun xs => pure xs.reverse) :=
  .weak (pe_revT ha.run) fun σ H Q q => tR_one kF_ok q fun x H1 xs k1 q1 => by
    obtain ⟨_, q⟩ := tR_pure q1
    obtain ⟨s, vs, rfl, h1, h2⟩ := kB_tup k1
    refine ⟨s, vs, rfl, h1, fun p hp => q _ _ (Same.new hp) ?_⟩
    refine .tup (.inl (.inl upd_same)) ?_
    rw [List.map_reverse]
    exact Reps.firm (fun b o h _ => Same.new hp b o h) h2.reverse

/-! ### == of things of one kind -/
structure EqOk {α : Type} [DecidableEq α] (n : Nat) (ea : α → PyData) : Prop where
  eqv : ∀ a b, PyData.eqv (ea a) (ea b) = decide (a = b)
  plain : ∀ a, (ea a).plain = true
  depth : ∀ a, (ea a).depth ≤ n
theorem eq_int : EqOk 0 eInt where
  eqv a b := by show (a == b) = _; cases h : decide (a = b) <;> simp_all
  plain _ := by simp [PyData.plain]
  depth _ := by simp [PyData.depth]
theorem eq_bool : EqOk 0 eBool where
  eqv a b := by cases a <;> cases b <;> rfl
  plain _ := by simp [PyData.plain]
  depth _ := by simp [PyData.depth]
theorem eq_str : EqOk 0 eStr where
  eqv a b := by show (a == b) = _; cases h : decide (a = b) <;> simp_all
  plain _ := by simp [PyData.plain]
  depth _ := by simp [PyData.depth]
theorem eq_non : EqOk 0 eNon where
  eqv a b := by cases a; cases b; rfl
  plain _ := by simp [PyData.plain, eNon]
  depth _ := by simp [PyData.depth, eNon]
theorem eq_opt {n : Nat} [DecidableEq α] (h : EqOk n ea) (hn : ∀ a, isNon (ea a) = false) : EqOk n (eOpt ea) where
  eqv a b := by
    have hz : ∀ a, ea a ≠ .none := fun a z => by have := hn a; rw [z] at this; cases this
    have l : ∀ d : PyData, d ≠ .none → PyData.eqv .none d = false ∧ PyData.eqv d .none = false := by
      intro d hd
      cases d <;> first | exact absurd rfl hd | exact ⟨by simp [PyData.eqv], by simp [PyData.eqv]⟩
    cases a with
    | none =>
      cases b with
      | none => simp [eOpt, PyData.eqv]
      | some b => simpa [eOpt] using (l _ (hz b)).1
    | some a =>
      cases b with
      | none => simpa [eOpt] using (l _ (hz a)).2
      | some b => simpa [eOpt] using h.eqv a b
  plain a := by cases a; simp [eOpt, PyData.plain]; exact h.plain _
  depth a := by cases a; simp [eOpt, PyData.depth]; exact h.depth _
theorem eqvAll_map [DecidableEq α] {n : Nat} (h : EqOk n ea) : ∀ xs ys : List α, PyData.eqvAll (xs.map ea) (ys.map ea) = decide (xs = ys)
  | [], [] => by simp [PyData.eqvAll]
  | [], _ :: _ => by simp [PyData.eqvAll]
  | _ :: _, [] => by simp [PyData.eqvAll]
  | x :: xs, y :: ys => by simp [PyData.eqvAll, h.eqv, eqvAll_map h xs ys]
theorem plainAll_map' [DecidableEq α] {n : Nat} (h : EqOk n ea) : ∀ xs : List α, PyData.plainAll (xs.map ea) = true
  | [] => by simp [PyData.plainAll]
  | x :: xs => by simp [PyData.plainAll, h.plain, plainAll_map' h xs]
theorem depthAll_map [DecidableEq α] {n : Nat} (h : EqOk n ea) : ∀ xs : List α, PyData.depthAll (xs.map ea) ≤ n
  | [] => by simp [PyData.depthAll]
  | x :: xs => by
    show max _ _ ≤ n
    exact Nat.max_le.mpr ⟨h.depth x, depthAll_map h xs⟩
theorem eq_tup {n : Nat} [DecidableEq α] (h : EqOk n ea) : EqOk (n + 1) (eTup ea) where
  eqv a b := by simp [eTup, PyData.eqv, eqvAll_map h]
  plain a := by simp [eTup, PyData.plain, plainAll_map' h]
  depth a := by simp [eTup, PyData.depth]; exact depthAll_map h a
theorem eq_lst {n : Nat} [DecidableEq α] (h : EqOk n ea) : EqOk (n + 1) (eLst ea) where
  eqv a b := by simp [eLst, PyData.eqv, eqvAll_map h]
  plain a := by simp [eLst, PyData.plain, plainAll_map' h]
  depth a := by simp [eLst, PyData.depth]; exact depthAll_map h a
theorem eq_t1 {n : Nat} [DecidableEq α] (h : EqOk n ea) : EqOk (n + 1) (eT1 ea) where
  eqv a b := by simp [eT1, PyData.eqv, PyData.eqvAll, h.eqv]
  plain a := by simp [eT1, PyData.plain, PyData.plainAll, h.plain]
  depth a := by simp [eT1, PyData.depth, PyData.depthAll, h.depth]
theorem eq_t2 {n k : Nat} [DecidableEq α] [DecidableEq β] (h : EqOk n ea) (h' : EqOk k eb) : EqOk (max n k + 1) (eT2 ea eb) where
  eqv a b := by obtain ⟨a1, a2⟩ := a; obtain ⟨b1, b2⟩ := b; simp [eT2, PyData.eqv, PyData.eqvAll, h.eqv, h'.eqv]
  plain a := by simp [eT2, PyData.plain, PyData.plainAll, h.plain, h'.plain]
  depth a := by have := h.depth a.1; have := h'.depth a.2; simp [eT2, PyData.depth, PyData.depthAll]; omega
variable {γ δ ε : Type} {ec : γ → PyData} {ed : δ → PyData} {ee : ε → PyData}
theorem eq_t3 {n k l : Nat} [DecidableEq α] [DecidableEq β] [DecidableEq γ] (h : EqOk n ea) (h' : EqOk k eb) (h3 : EqOk l ec) : EqOk (max n (max k l) + 1) (eT3 ea eb ec) where
  eqv a b := by obtain ⟨a1, a2, a3⟩ := a; obtain ⟨b1, b2, b3⟩ := b; simp [eT3, PyData.eqv, PyData.eqvAll, h.eqv, h'.eqv, h3.eqv]
  plain a := by simp [eT3, PyData.plain, PyData.plainAll, h.plain, h'.plain, h3.plain]
  depth a := by have := h.depth a.1; have := h'.depth a.2.1; have := h3.depth a.2.2; simp [eT3, PyData.depth, PyData.depthAll]; omega
theorem eq_t4 {n k l o : Nat} [DecidableEq α] [DecidableEq β] [DecidableEq γ] [DecidableEq δ] (h : EqOk n ea) (h' : EqOk k eb) (h3 : EqOk l ec) (h4 : EqOk o ed) : EqOk (max n (max k (max l o)) + 1) (eT4 ea eb ec ed) where
  eqv a b := by obtain ⟨a1, a2, a3, a4⟩ := a; obtain ⟨b1, b2, b3, b4⟩ := b; simp [eT4, PyData.eqv, PyData.eqvAll, h.eqv, h'.eqv, h3.eqv, h4.eqv]
  plain a := by simp [eT4, PyData.plain, PyData.plainAll, h.plain, h'.plain, h3.plain, h4.plain]
  depth a := by have := h.depth a.1; have := h'.depth a.2.1; have := h3.depth a.2.2.1; have := h4.depth a.2.2.2; simp [eT4, PyData.depth, PyData.depthAll]; omega
theorem eqG_of [DecidableEq α] {n : Nat} (h : EqOk n ea) (hn : n < 60) (x y : α) : eqG (ea x) (ea y) = some (decide (x = y)) := by
  unfold eqG
  rw [if_pos ⟨h.plain x, h.plain y, Nat.lt_of_le_of_lt (Nat.min_le_left _ _) (Nat.lt_of_le_of_lt (h.depth x) hn)⟩, h.eqv]
theorem fromO_some {γ : Type} (x : γ) (s : PyM.S m) : PyM.run (fromO (some x) : m γ) s = PyM.run (pure x) s := by rw [PyM.run_fromO, PyM.run_pure]; rfl
theorem SC.alike {op : CmpOp} {mm mm' : m Bool} (h : SC X C W H0 R op a b mm) (q : Alike mm' mm) : SC X C W H0 R op a b mm' :=
  ⟨⟨fun pins s σ H Q I q' => h.run.run pins s σ H Q I (by obtain ⟨s', c, q'⟩ := q'; exact ⟨s', c, by rw [← q s']; exact q'⟩)⟩⟩
theorem sc_eqT [DecidableEq α] {n : Nat} (h : EqOk n ea) (hn : n < 60) (hu : X.A.units + 64 < cLine) (ha : SB X C W H0 R a ea ma) (hb : SB X C W H0 R b ea mb) : SC X C W H0 R .Eq a b (ma >>= fun i => mb >>= fun j => pure (decide (i = j))) :=
  (sc_eq hu ha hb).alike (alike_bind fun i => alike_bind fun j s => by rw [eqG_of h hn, fromO_some])
theorem sc_neT [DecidableEq α] {n : Nat} (h : EqOk n ea) (hn : n < 60) (hu : X.A.units + 64 < cLine) (ha : SB X C W H0 R a ea ma) (hb : SB X C W H0 R b ea mb) : SC X C W H0 R .NotEq a b (ma >>= fun i => mb >>= fun j => pure (!decide (i = j))) :=
  (sc_ne hu ha hb).alike (alike_bind fun i => alike_bind fun j s => by rw [eqG_of h hn]; exact (fromO_some (m := m) _ s).symm)
end
end TT

namespace TT
open PyM (fromO)
open PySem PySem.Spec PyProof.Rows L2
theorem ltR {i : Nat} {R : Slots} (n : Nat) (h : R.length = n) (h2 : Nat.ble (i + 1) n = true) : i < R.length := h ▸ Nat.le_of_ble_eq_true h2
def absI (i : Int) : Int := if i < 0 then -i else i
def intB (b : Bool) : Int := if b = true then 1 else 0
def minI (i j : Int) : Int := if j < i then j else i
def maxI (i j : Int) : Int := if j > i then j else i
def lenSG (z : Str) : Option Int := if z.length ≤ 16777216 then some (z.length : Int) else none
def catSG (z y : Str) : Option Str := if z.length + y.length ≤ 16777216 then some (z ++ y) else none
section
variable {X : Cx} {m : Type → Type} [Monad m] [PyM m] {C : Wd X.K X.w m} {W : WX} {H0 : Hp} {R : Slots} {P : Pk} {α β γ : Type} {ea : α → PyData} {eb : β → PyData} {e a b tg : Expr} {es : List Expr} {ma mb : m α} {mc mc' : m Bool} {mxs mxs' : m (List α)} {pos : Pos} {k : Kd} {ifs : List Expr}
theorem ST.eq (h : ST X C W H0 R e mc) (q : mc' = mc) : ST X C W H0 R e mc' := q ▸ h
theorem SIf.eq (h : SIf X C W H0 R ifs mc) (q : mc' = mc) : SIf X C W H0 R ifs mc' := q ▸ h
theorem SC.eq {op : CmpOp} (h : SC X C W H0 R op a b mc) (q : mc' = mc) : SC X C W H0 R op a b mc' := q ▸ h
theorem SI.eq (h : SI X C W H0 R P tg e ea mxs) (q : mxs' = mxs) : SI X C W H0 R P tg e ea mxs' := q ▸ h
theorem SA.eq {eg : γ → List PyData} {mg mg' : m γ} (h : SA X C W H0 R es eg mg) (q : mg' = mg) : SA X C W H0 R es eg mg' := q ▸ h
theorem SM.eq {eg : γ → List Slot} {mg mg' : m γ} (h : SM X C W H0 R es eg mg) (q : mg' = mg) : SM X C W H0 R es eg mg' := q ▸ h
/-- a value that is not None -/
theorem SX.get {mo : m (Option α)} (h : SE X C W H0 R e (eOpt ea) mo) : SE X C W H0 R e ea (mo >>= fun o => fromO o) :=
  ⟨h.run.weak fun σ H Q q => tR_imp (tR_bind (k := kF X.K X.w C.mt) (ea := eOpt ea) kF_ok q) fun v H1 ⟨o, ex, kv, q⟩ => by
    obtain ⟨x, rfl, _, q⟩ := tR_done q
    exact q v H1 (Same.refl _) kv⟩
end
section
variable {X : Cx} {m : Type → Type} [Monad m] [PyM m] {C : Wd X.K X.w m} {W : WX} {H0 : Hp} {R : Slots} {a b : Expr} {mi mj : m Int} {mc : m Bool} {mz my : m Str} {pos p : Pos}
theorem se_absI (hg : Gl X "abs") (hm : X.mg "abs" = none) (ha : SB X C W H0 R a eInt mi) (hs : starEach (a :: []) X.env = (false, eval a X.env) :: starEach [] X.env := by rfl) : SE X C W H0 R (.Call (.Name "abs" p) [a] [] pos) eInt (mi >>= fun i => pure (absI i)) := se_abs hg hm ha hs
theorem se_intI (hg : Gl X "int") (hm : X.mg "int" = none) (ha : SB X C W H0 R a eBool mc) (hs : starEach (a :: []) X.env = (false, eval a X.env) :: starEach [] X.env := by rfl) : SE X C W H0 R (.Call (.Name "int" p) [a] [] pos) eInt (mc >>= fun i => pure (intB i)) := se_intB hg hm ha hs
theorem se_minI (hk : X.calm = true) (hg : Gl X "min") (hm : X.mg "min" = none) (ha : SB X C W H0 R a eInt mi) (hb : SB X C W H0 R b eInt mj)
    (hs : starEach (a :: [b]) X.env = (false, eval a X.env) :: starEach [b] X.env := by rfl) (hs2 : starEach (b :: []) X.env = (false, eval b X.env) :: starEach [] X.env := by rfl) (hpl : (backTo pos (starEach [b] X.env)).any (·.1) = false := by rfl) :
    SE X C W H0 R (.Call (.Name "min" p) [a, b] [] pos) eInt (mi >>= fun i => mj >>= fun j => pure (minI i j)) := se_min2 hk hg hm ha hb hs hs2 hpl
theorem se_maxI (hk : X.calm = true) (hg : Gl X "max") (hm : X.mg "max" = none) (ha : SB X C W H0 R a eInt mi) (hb : SB X C W H0 R b eInt mj)
    (hs : starEach (a :: [b]) X.env = (false, eval a X.env) :: starEach [b] X.env := by rfl) (hs2 : starEach (b :: []) X.env = (false, eval b X.env) :: starEach [] X.env := by rfl) (hpl : (backTo pos (starEach [b] X.env)).any (·.1) = false := by rfl) :
    SE X C W H0 R (.Call (.Name "max" p) [a, b] [] pos) eInt (mi >>= fun i => mj >>= fun j => pure (maxI i j)) := se_max2 hk hg hm ha hb hs hs2 hpl
theorem se_lenG (hg : Gl X "len") (hm : X.mg "len" = none) (ha : SB X C W H0 R a eStr mz) (hs : starEach (a :: []) X.env = (false, eval a X.env) :: starEach [] X.env := by rfl) : SE X C W H0 R (.Call (.Name "len" p) [a] [] pos) eInt (mz >>= fun z => fromO (lenSG z)) := se_lenS hg hm ha hs
theorem se_catG (ha : SB X C W H0 R a eStr mz) (hb : SB X C W H0 R b eStr my) : SE X C W H0 R (.BinOp a .Add b pos) eStr (mz >>= fun z => my >>= fun y => fromO (catSG z y)) := se_catS ha hb
end
end TT

namespace TT
open PyM (fromO)
open PySem PySem.Spec PyProof.Rows L2
/-! ### no promise -/
section
variable {X : Cx} {m : Type → Type} [Monad m] [PyM m] {C : Wd X.K X.w m} {W : WX} {H0 : Hp} {R : Slots} {α β γ ρ ε δ : Type} {ea : α → PyData} {eb : β → PyData} {er : ρ → PyData} {Rb : ε → Slots} {Rn : δ → Slots} {k : Kd}
variable {e a b : Expr} {rest sts : List Stmt} {pos p p2 pos' : Pos} {md : m PyData} {mi : m Int}
theorem alike_never {f : α → m β} : Alike (fromO none >>= f) (fromO none : m β) := fun s => by rw [PyM.run_bind, PyM.run_fromO, PyM.run_fromO]; rfl
theorem SX.never : SX X C W H0 R k e ea (fromO none) := ⟨⟨fun pins s σ H Q I q => by
  obtain ⟨s', c, q⟩ := q
  rw [PyM.run_fromO] at q
  exact q.elim⟩⟩
theorem SL.never : SL X C W H0 R sts er Rb Rn (fromO none) := ⟨⟨fun pins s σ H D I q => by
  obtain ⟨s', c, q⟩ := q
  rw [PyM.run_fromO] at q
  exact q.elim⟩⟩
theorem sf_never : SF X C W H0 R sts er (fromO none) := SL.never.alike alike_never
theorem sp_never : SP X C W H0 R sts Rn (fromO none) := SL.never.alike alike_never

/-! ### isinstance -/
def rIsD (mt : Addr → Prop) (X : Cx) (T : String) (f : PyData → Bool) : List V → Hp → VK → Prop := fun xs H Q => ∃ x d, xs = [x, .ty T] ∧ kB X.K X.w mt H H x d ∧ Q (.bl (f d)) H
structure IsT (T : String) (f : PyData → Bool) : Prop where
  run : ∀ {prog : Program} {w : World} {A : Around} {E : Value → Shared → Prop} {s : Shared} {v : Value} {d : PyData} {as : List Addr} {Q : Value → Shared → Prop}, Reads s.heap v d as → (∀ tk, s.toks ≤ tk → Q (.bool (f d)) { s with toks := tk }) → wpAny (model prog w) A (call (.builtin "isinstance") [v, .type T]) Q E s
theorem is_bool : IsT "bool" PyData.isBool := ⟨fun r h => PySem.W.isinstance_bool_data r h⟩
theorem is_int : IsT "int" PyData.isInt := ⟨fun r h => PySem.W.isinstance_int_data r h⟩
theorem is_str : IsT "str" PyData.isStr := ⟨fun r h => PySem.W.isinstance_str_data r h⟩
theorem is_list : IsT "list" PyData.isList := ⟨fun r h => PySem.W.isinstance_list_data r h⟩
theorem is_tuple : IsT "tuple" PyData.isTuple := ⟨fun r h => PySem.W.isinstance_tuple_data r h⟩
theorem is_dict : IsT "dict" PyData.isDict := ⟨fun r h => PySem.W.isinstance_dict_data r h⟩
theorem call_isD {mt : Addr → Prop} {T : String} {f : PyData → Bool} (ht : IsT T f) : CallR X (.builtin "isinstance") (rIsD mt X T f) := by
  intro pins s σ H xs us Q I r h
  obtain ⟨x, d, rfl, kv, q⟩ := h
  cases r with
  | cons r1 r2 =>
    cases r2 with
    | cons r2 r3 =>
      cases r3
      obtain ⟨as, ra⟩ := Inv.readsB I kv r1
      cases r2
      exact ht.run ra fun tk _ => ⟨.bl (f d), H, I.tok tk, rfl, q⟩
theorem se_isD {T : String} {y : Str} {f : PyData → Bool} (ht : IsT T f) (hg : Gl X "isinstance") (hm : X.mg "isinstance" = none) (hgT : Gl X y) (hmT : X.mg y = none) (hvT : bootBuiltins y = some (.type T)) (hn : y ≠ "__name__") (hd : (y == ("__debug__" : Str)) = false)
    (ha : SB X C W H0 R a eAny md) (hs : starEach (a :: [.Name y p2]) X.env = (false, eval a X.env) :: starEach [.Name y p2] X.env := by rfl) (hs2 : starEach (.Name y p2 :: []) X.env = (false, eval (.Name y p2) X.env) :: starEach [] X.env := by rfl) (hpl : (backTo pos (starEach [.Name y p2] X.env)).any (·.1) = false := by rfl) :
    SE X C W H0 R (.Call (.Name "isinstance" p) [a, .Name y p2] [] pos) eBool (md >>= fun d => pure (f d)) :=
  .weak (pe_callB (call_isD (mt := C.mt) ht) hg hm PyProof.Rows.boot_isinstance (pa_cons ha.run (pa_cons (pe_bltn hgT hmT hvT (v := .ty T) rfl hn hd) pa_nil hs2) hs) (by decide) (by decide) hs hpl) fun σ H Q q => tR_one kF_ok q fun x H1 d k1 q1 => by
    exact ⟨x, d, rfl, k1, (tR_pure q1).2 _ H1 (.refl H1) (.bl _)⟩

/-! ### parts of any data -/
def lenA : PyData → Option Int
  | .tuple xs => some xs.length
  | .list xs => some xs.length
  | _ => none
def ixA (d : PyData) (i : Int) : Option PyData := match d with
  | .tuple xs => L2.atI xs i
  | .list xs => L2.atI xs i
  | _ => none
theorem se_lenA (hg : Gl X "len") (hm : X.mg "len" = none) (ha : SB X C W H0 R a eAny md) (hs : starEach (a :: []) X.env = (false, eval a X.env) :: starEach [] X.env := by rfl) : SE X C W H0 R (.Call (.Name "len" p) [a] [] pos) eInt (md >>= fun d => fromO (lenA d)) :=
  sx_callB kF_ok call_len hg hm PySem.boot_len (by decide) (by decide) ha (fun v σ H Q d kv _ q => by
    obtain ⟨n, e, _, q⟩ := tR_done q
    cases d with
    | tuple xs =>
      obtain ⟨t, vs, rfl, h1, h2⟩ := kB_tup (show kB X.K X.w C.mt H H v (.tuple xs) from kv)
      refine ⟨_, vs.length, rfl, .inr ⟨vs, h1, rfl⟩, ?_⟩
      rw [h2.length]
      cases e
      exact q _ H (.refl H) (.int _)
    | list xs =>
      obtain ⟨t, vs, rfl, h1, h2⟩ := kB_lst (show kB X.K X.w C.mt H H v (.list xs) from kv)
      refine ⟨_, vs.length, rfl, .inl ⟨vs, h1, rfl⟩, ?_⟩
      rw [h2.length]
      cases e
      exact q _ H (.refl H) (.int _)
    | none => cases e
    | bool _ => cases e
    | int _ => cases e
    | str _ => cases e
    | dict _ => cases e) hs
theorem se_ixA (ha : SB X C W H0 R a eAny md) (hb : SB X C W H0 R b eInt mi) (hs : PlainIx b) : SE X C W H0 R (.Subscript a b pos) eAny (md >>= fun d => mi >>= fun i => fromO (ixA d i)) :=
  sx_ix kF_ok (ix_tup.or ix_list) ha hb hs fun x y σ H Q d i k1 k2 q0 => by
    obtain ⟨c, e, _, q⟩ := tR_done q0
    clear q0
    cases d with
    | tuple xs =>
      obtain ⟨p, vs, rfl, h1, h2⟩ := kB_tup (show kB X.K X.w C.mt H H x (.tuple xs) from k1)
      obtain ⟨v, e1, r⟩ := h2.atI (i := i) (d := c) e
      exact .inl ⟨p, vs, i, v, rfl, kB_int k2, h1, e1, q v H (.refl H) r⟩
    | list xs =>
      obtain ⟨p, vs, rfl, h1, h2⟩ := kB_lst (show kB X.K X.w C.mt H H x (.list xs) from k1)
      obtain ⟨v, e1, r⟩ := h2.atI (i := i) (d := c) e
      exact .inr ⟨p, vs, i, v, rfl, kB_int k2, h1, e1, q v H (.refl H) r⟩
    | none => cases e
    | bool _ => cases e
    | int _ => cases e
    | str _ => cases e
    | dict _ => cases e

/-! ### lists of one's own: extend, pop -/
variable {f : List α → m (Out ρ ε δ)} {mys : m (List α)}
theorem sl_extend {i : Nat} {x : Str} {xs : List α} {p1 p2 p3 : Pos} (hN : X.N[i]? = some x) (hv : Vis X.env.scope x) (hd : (x == ("__debug__" : Str)) = false) (hcd : (x == ("__classdict__" : Str)) = false)
    (hR : R[i]? = some (some (.own (xs.map ea)))) (ha : SO X C W H0 R a (eLst ea) mys) (hr : ∀ ys : List α, SL X C W H0 (R.set i (some (.own (ys.map ea)))) rest er Rb Rn (f ys))
    (hbase : attributeBase (.Name x p1) "extend" X.env (eval (.Name x p1) X.env) = eval (.Name x p1) X.env)
    (hfew : ((backTo p3 (starEach (a :: []) X.env)).all (fun x => !x.1) && (backToKw p3 (keywordEach [] X.env)).all (fun x => x.1.isSome) && decide ((a :: ([] : List Expr)).length + ([] : List Keyword).length + (if ([] : List Keyword).isEmpty then 0 else 1) < 30)) = true)
    (hline : (p2.endLine == p3.line) = true) (hs : starEach (a :: []) X.env = (false, eval a X.env) :: starEach [] X.env) (hsw : swapsWith (.Call (.Attribute (.Name x p1) "extend" p2) [a] [] p3) none pos.line X.env = pure false) :
    SL X C W H0 R (.Expr (.Call (.Attribute (.Name x p1) "extend" p2) [a] [] p3) pos :: rest) er Rb Rn (mys >>= fun ys => fromO (catG xs ys) >>= f) :=
  ⟨(pss_cons (ps_expr (pe_bm PySem.F.plainAttrs_list PySem.F.slot_list_extend PySem.F.type_list_extend mt_extend (pe_var hN hv hd hcd) (pa_cons ha.run pa_nil hs) hbase hfew hline hs) hsw)
      (u := fun D σ H => ∃ ys : List α, tS C W H0 (R.set i (some (.own (ys.map ea)))) er Rb Rn (f ys) D σ H) ⟨fun pins s σ H D I ⟨g, q⟩ => (hr g).run.run pins s σ H D I q⟩).weak fun D σ H q => by
    obtain ⟨s0, c0, _⟩ := id q
    obtain ⟨v, hv', l, vs, rfl, hl, hrs, h0, hm⟩ := c0.slot i _ hR
    refine ⟨.ref l, hv', .inl ⟨rfl, vs, .of hl⟩, ?_⟩
    refine tS_bind (k := kO X.K X.w C.mt) (ea := eLst ea) q fun ys u H' kv e _ ⟨s, c, q⟩ => ?_
    obtain ⟨b, ws, ds, rfl, h2, h3, h4, h5⟩ := kv
    have h2 : PyData.list (ys.map ea) = .list ds := h2
    injection h2 with h2
    subst h2
    rw [PyM.run_bind, PyM.run_fromO] at q
    unfold catG at q
    have hl' := e l _ hl (.inl hm)
    have len : vs.length = xs.length := by rw [hrs.length, List.length_map]
    have len2 : ws.length = ys.length := by rw [h4.length, List.length_map]
    split at q
    · rename_i g
      refine ⟨l, b, vs, ws, rfl, rfl, hl', h3, by rw [sizeLine_eq, len, len2]; exact g, xs ++ ys, s, c.updO hR hv' hl' ?_, AfterS.mono (firms_upd' hl' (fun z => z)) q⟩
      rw [List.map_append]
      exact (Reps.firm e.firms hrs).append h4
    · exact q.elim⟩
theorem reps_dropLast {K : PySem.W.Frag} {w : World} {H : Hp} : ∀ {vs : List V} {ds : List PyData}, Reps K w H vs ds → Reps K w H vs.dropLast ds.dropLast
  | _, _, .nil => .nil
  | _, _, .cons r .nil => .nil
  | _, _, .cons r (.cons r' t) => .cons r (reps_dropLast (.cons r' t))
/-- the last thing of a list -/
def lastG (xs : List α) : Option α := xs[xs.length - 1]?
/-- tg = x.pop() -/
theorem sl_popU {i : Nat} {x : Str} {xs : List α} {tg : Expr} {g : TG} {is : List Nat} {dts : α → List PyData} {fk : α → m (Out ρ ε δ)} {p1 p2 p3 : Pos} (hg : PG X tg g) (hgo : GOk X.K X.w g ea is dts) (hl : ∀ k ∈ is, k < R.length)
    (hN : X.N[i]? = some x) (hv : Vis X.env.scope x) (hd : (x == ("__debug__" : Str)) = false) (hcd : (x == ("__classdict__" : Str)) = false) (hR : R[i]? = some (some (.own (xs.map ea))))
    (hbase : attributeBase (.Name x p1) "pop" X.env (eval (.Name x p1) X.env) = eval (.Name x p1) X.env)
    (hline : (p2.endLine == p3.line) = true)
    (hr : ∀ y : α, SL X C W H0 (setR (R.set i (some (.own (xs.dropLast.map ea)))) is (dts y)) rest er Rb Rn (fk y))
    (hs : swapsWithSole [tg] (.Call (.Attribute (.Name x p1) "pop" p2) [] [] p3) pos.line X.env = pure false) (hw : swappedStores [tg] (.Call (.Attribute (.Name x p1) "pop" p2) [] [] p3) X.env = pure none) (h1 : (assignEach [tg] X.env).map (·.2) = [assign tg X.env]) :
    SL X C W H0 R (.Assign [tg] (.Call (.Attribute (.Name x p1) "pop" p2) [] [] p3) pos :: rest) er Rb Rn (fromO (lastG xs) >>= fk) :=
  ⟨(pss_cons (ps_asg (pe_bm0 PySem.F.plainAttrs_list PySem.F.slot_list_pop PySem.F.type_list_pop mt_pop (pe_var hN hv hd hcd) hbase hline) hg hs hw h1)
      (u := fun D σ H => ∃ y : α, tS C W H0 (setR (R.set i (some (.own (xs.dropLast.map ea)))) is (dts y)) er Rb Rn (fk y) D σ H) ⟨fun pins s σ H D I ⟨g, q⟩ => (hr g).run.run pins s σ H D I q⟩).weak fun D σ H q => by
    obtain ⟨s0, c0, q⟩ := q
    obtain ⟨v, hv', l, vs, rfl, hl', hrs, h0, hm⟩ := c0.slot i _ hR
    rw [PyM.run_bind, PyM.run_fromO] at q
    cases z : lastG xs with
    | none => rw [z] at q; exact q.elim
    | some y =>
      rw [z] at q
      have len : vs.length = xs.length := by rw [hrs.length, List.length_map]
      obtain ⟨u, hu, ru⟩ := hrs.get (i := vs.length - 1) (d := ea y) (by rw [List.getElem?_map, len]; unfold lastG at z; rw [z]; rfl)
      have fm : Firms H (upd H l (.lst vs.dropLast)) := firms_upd' hl' (fun z => z)
      have c1 := c0.updO (ws := vs.dropLast) (es := (xs.dropLast.map ea)) hR hv' hl' (by rw [List.map_dropLast]; exact reps_dropLast hrs)
      refine ⟨.ref l, hv', .inl ⟨rfl, vs, .of hl'⟩, l, vs, u, rfl, rfl, hl', hu, ?_⟩
      exact hgo.run y u σ _ _ (Rep.firm fm ru) fun ws rs => ⟨y, s0, c1.setAll (fun j hj => by rw [List.length_set]; exact hl j hj) rs, AfterS.mono fm q⟩⟩
end
end TT

namespace TT
open PyM (fromO)
open PySem PySem.Spec PyProof.Rows L2
section
variable {X : Cx} {m : Type → Type} [Monad m] [PyM m] {C : Wd X.K X.w m} {W : WX} {H0 : Hp} {R : Slots} {α β γ ρ ε δ : Type} {ea : α → PyData} {eb : β → PyData} {er : ρ → PyData} {Rb : ε → Slots} {Rn : δ → Slots} {k : Kd}
variable {e a b : Expr} {rest sts : List Stmt} {pos p p2 pos' : Pos} {mm : m α} {mi mj : m Int}
/-- the same data of another type, where it is of that type -/
theorem SX.mapO (h : SE X C W H0 R e ea mm) (f : α → Option β) (q : ∀ a b, f a = some b → eb b = ea a) : SE X C W H0 R e eb (mm >>= fun a => fromO (f a)) :=
  ⟨h.run.weak fun σ H Q q0 => tR_imp (tR_bind (k := kF X.K X.w C.mt) (ea := ea) kF_ok q0) fun v H1 ⟨o, ex, kv, q1⟩ => by
    obtain ⟨x, hx, _, q1⟩ := tR_done q1
    refine q1 v H1 (Same.refl _) ?_
    show Rep X.K X.w H1 v (eb x)
    rw [q _ _ hx]
    exact kv⟩
def to1 : List α → Option α
  | [a] => some a
  | _ => none
def to2 : List α → Option (α × α)
  | [a, b] => some (a, b)
  | _ => none
def to3 : List α → Option (α × α × α)
  | [a, b, c] => some (a, b, c)
  | _ => none
def to4 : List α → Option (α × α × α × α)
  | [a, b, c, d] => some (a, b, c, d)
  | _ => none
def to5 : List α → Option (α × α × α × α × α)
  | [a, b, c, d, e] => some (a, b, c, d, e)
  | _ => none
theorem to1_ok (xs : List α) (p : α) (h : to1 xs = some p) : eT1 ea p = eTup ea xs := by
  unfold to1 at h
  split at h <;> simp_all <;> subst h <;> rfl
theorem to2_ok (xs : List α) (p : α × α) (h : to2 xs = some p) : eT2 ea ea p = eTup ea xs := by
  unfold to2 at h
  split at h <;> simp_all <;> subst h <;> rfl
theorem to3_ok (xs : List α) (p : α × α × α) (h : to3 xs = some p) : eT3 ea ea ea p = eTup ea xs := by
  unfold to3 at h
  split at h <;> simp_all <;> subst h <;> rfl
theorem to4_ok (xs : List α) (p : α × α × α × α) (h : to4 xs = some p) : eT4 ea ea ea ea p = eTup ea xs := by
  unfold to4 at h
  split at h <;> simp_all <;> subst h <;> rfl
theorem to5_ok (xs : List α) (p : α × α × α × α × α) (h : to5 xs = some p) : eT5 ea ea ea ea ea p = eTup ea xs := by
  unfold to5 at h
  split at h <;> simp_all <;> subst h <;> rfl
/-! any data, of a type -/
def deInt : PyData → Option Int
  | .int i => some i
  | _ => none
def deBool : PyData → Option Bool
  | .bool i => some i
  | _ => none
def deStr : PyData → Option Str
  | .str i => some i
  | _ => none
def deTupA : PyData → Option (List PyData)
  | .tuple xs => some xs
  | _ => none
def deLstA : PyData → Option (List PyData)
  | .list xs => some xs
  | _ => none
theorem deInt_ok (d : PyData) (i : Int) (h : deInt d = some i) : eInt i = eAny d := by cases d <;> simp_all [deInt]
theorem deBool_ok (d : PyData) (i : Bool) (h : deBool d = some i) : eBool i = eAny d := by cases d <;> simp_all [deBool]
theorem deStr_ok (d : PyData) (i : Str) (h : deStr d = some i) : eStr i = eAny d := by cases d <;> simp_all [deStr]
theorem deTupA_ok (d : PyData) (i : List PyData) (h : deTupA d = some i) : eTup eAny i = eAny d := by cases d <;> simp_all [deTupA, eTup, eAny]
theorem deLstA_ok (d : PyData) (i : List PyData) (h : deLstA d = some i) : eLst eAny i = eAny d := by cases d <;> simp_all [deLstA, eLst, eAny]
/-! list(range(..)), tuple(range(..)) -/
theorem rgV_eq (a b : Int) : rgV a b = (rangeL a (b - a).toNat).map V.int := by
  unfold rgV
  apply List.ext_getElem?
  intro i
  rw [List.getElem?_map, List.getElem?_map]
  rcases Nat.lt_or_ge i (b - a).toNat with h | h
  · rw [List.getElem?_range h, rangeL_get _ _ _ h]; rfl
  · rw [List.getElem?_eq_none (by simpa using h), List.getElem?_eq_none (by rw [rangeL_len]; exact h)]; rfl
theorem reps_rg {K : PySem.W.Frag} {w : World} {H : Hp} (a b : Int) : Reps K w H (rgV a b) ((rangeL a (b - a).toNat).map eInt) := by
  rw [rgV_eq]
  generalize rangeL a (b - a).toNat = ns
  induction ns with
  | nil => exact .nil
  | cons n ns ih => exact .cons (.int n) ih
theorem rgOk {a b : Int} {xs : List Int} (h : rangeG a b = some xs) : RgOk a b ∧ xs = rangeL a (b - a).toNat := by
  obtain ⟨g, e⟩ := rangeG_some h
  exact ⟨⟨by omega, by omega, by omega, by omega, by omega⟩, e⟩
theorem so_listR2 {p3 pos3 : Pos} (hc : X.calm = true) (hg : Gl X "list") (hm : X.mg "list" = none) (hgr : Gl X "range") (hmr : X.mg "range" = none) (ha : SB X C W H0 R a eInt mi) (hb : SB X C W H0 R b eInt mj) (na : starEach [a, b] X.env = (false, eval a X.env) :: starEach [b] X.env := by rfl) (nb : starEach [b] X.env = (false, eval b X.env) :: starEach [] X.env := by rfl) (hp : (backTo pos3 (starEach [b] X.env)).any (·.1) = false := by rfl)
    (nr : starEach [.Call (.Name "range" p3) [a, b] [] pos3] X.env = (false, eval (.Call (.Name "range" p3) [a, b] [] pos3) X.env) :: starEach [] X.env := by rfl) :
    SO X C W H0 R (.Call (.Name "list" p) [.Call (.Name "range" p3) [a, b] [] pos3] [] pos) (eLst eInt) (mi >>= fun i => mj >>= fun j => fromO (rangeG i j)) :=
  .weak (pe_listRg hc hg hm (prg_2 hgr hmr ha.run hb.run na nb hp) nr) fun σ H Q q => tR_two (tb := fun _ _ _ => True) (r := fun x y H2 => ∃ i j, x = .int i ∧ y = .int j ∧ RgOk i j ∧ ∀ q, H2 q = none → Q (.ref q) (upd H2 q (.lst (rgV i j)))) kO_ok q fun x y H2 i j k1 k2 q2 => by
    obtain ⟨xs, e, _, q⟩ := tR_done q2
    obtain ⟨ok, rfl⟩ := rgOk e
    exact ⟨i, j, kB_int k1, kB_int k2, ok, fun p hp => q _ _ (Same.new hp) ⟨p, _, _, rfl, rfl, upd_same, reps_rg i j, hp⟩⟩
theorem so_listR1 {p3 pos3 : Pos} (hc : X.calm = true) (hg : Gl X "list") (hm : X.mg "list" = none) (hgr : Gl X "range") (hmr : X.mg "range" = none) (ha : SB X C W H0 R a eInt mi) (na : starEach [a] X.env = (false, eval a X.env) :: starEach [] X.env := by rfl)
    (nr : starEach [.Call (.Name "range" p3) [a] [] pos3] X.env = (false, eval (.Call (.Name "range" p3) [a] [] pos3) X.env) :: starEach [] X.env := by rfl) :
    SO X C W H0 R (.Call (.Name "list" p) [.Call (.Name "range" p3) [a] [] pos3] [] pos) (eLst eInt) (mi >>= fun i => fromO (rangeG 0 i)) :=
  .weak (pe_listRg hc hg hm (prg_1 hgr hmr ha.run na) nr) fun σ H Q q => tR_one kO_ok q fun x H2 i k1 q2 => by
    obtain ⟨xs, e, _, q⟩ := tR_done q2
    obtain ⟨ok, rfl⟩ := rgOk e
    exact ⟨i, kB_int k1, ok, fun p hp => q _ _ (Same.new hp) ⟨p, _, _, rfl, rfl, upd_same, reps_rg 0 i, hp⟩⟩
theorem se_tupR2 {p3 pos3 : Pos} (hc : X.calm = true) (hg : Gl X "tuple") (hm : X.mg "tuple" = none) (hgr : Gl X "range") (hmr : X.mg "range" = none) (ha : SB X C W H0 R a eInt mi) (hb : SB X C W H0 R b eInt mj) (na : starEach [a, b] X.env = (false, eval a X.env) :: starEach [b] X.env := by rfl) (nb : starEach [b] X.env = (false, eval b X.env) :: starEach [] X.env := by rfl) (hp : (backTo pos3 (starEach [b] X.env)).any (·.1) = false := by rfl)
    (nr : starEach [.Call (.Name "range" p3) [a, b] [] pos3] X.env = (false, eval (.Call (.Name "range" p3) [a, b] [] pos3) X.env) :: starEach [] X.env := by rfl) :
    SE X C W H0 R (.Call (.Name "tuple" p) [.Call (.Name "range" p3) [a, b] [] pos3] [] pos) (eTup eInt) (mi >>= fun i => mj >>= fun j => fromO (rangeG i j)) :=
  .weak (pe_tupRg hc hg hm (prg_2 hgr hmr ha.run hb.run na nb hp) nr) fun σ H Q q => tR_two (tb := fun _ _ _ => True) (r := fun x y H2 => ∃ i j, x = .int i ∧ y = .int j ∧ RgOk i j ∧ ∀ q, H2 q = none → Q (.ref q) (upd H2 q (.tup (rgV i j)))) kF_ok q fun x y H2 i j k1 k2 q2 => by
    obtain ⟨xs, e, _, q⟩ := tR_done q2
    obtain ⟨ok, rfl⟩ := rgOk e
    exact ⟨i, j, kB_int k1, kB_int k2, ok, fun p hp => q _ _ (Same.new hp) (.tup (.inl (.inl upd_same)) (reps_rg i j))⟩
theorem se_tupR1 {p3 pos3 : Pos} (hc : X.calm = true) (hg : Gl X "tuple") (hm : X.mg "tuple" = none) (hgr : Gl X "range") (hmr : X.mg "range" = none) (ha : SB X C W H0 R a eInt mi) (na : starEach [a] X.env = (false, eval a X.env) :: starEach [] X.env := by rfl)
    (nr : starEach [.Call (.Name "range" p3) [a] [] pos3] X.env = (false, eval (.Call (.Name "range" p3) [a] [] pos3) X.env) :: starEach [] X.env := by rfl) :
    SE X C W H0 R (.Call (.Name "tuple" p) [.Call (.Name "range" p3) [a] [] pos3] [] pos) (eTup eInt) (mi >>= fun i => fromO (rangeG 0 i)) :=
  .weak (pe_tupRg hc hg hm (prg_1 hgr hmr ha.run na) nr) fun σ H Q q => tR_one kF_ok q fun x H2 i k1 q2 => by
    obtain ⟨xs, e, _, q⟩ := tR_done q2
    obtain ⟨ok, rfl⟩ := rgOk e
    exact ⟨i, kB_int k1, ok, fun p hp => q _ _ (Same.new hp) (.tup (.inl (.inl upd_same)) (reps_rg 0 i))⟩
end
end TT

namespace TT
open PyM (fromO)
open PySem PySem.Spec PyProof.Rows L2
section
variable {X : Cx} {m : Type → Type} [Monad m] [PyM m] {C : Wd X.K X.w m} {W : WX} {H0 : Hp} {R : Slots} {α β γ : Type} {ea : α → PyData} {a b : Expr} {mc md : m Bool} {mi : m Int}
theorem op_isB : OpR X (compareOp .Is) (fun x y H Q => ∃ b c, x = .bl b ∧ y = .bl c ∧ Q (.bl (decide (b = c))) H) := by
  intro pins s σ H x y v u Q I rx ry h
  obtain ⟨m, n, rfl, rfl, q⟩ := h
  cases (show v = Value.bool m from rx)
  cases (show u = Value.bool n from ry)
  by_cases e : m = n
  · subst e
    exact wpAny_is_self rfl ⟨.bl true, H, I, rfl, by simpa using q⟩
  · exact wpAny_is_other rfl (fun z => e (Value.bool.inj z)) ⟨.bl false, H, I, rfl, by simpa [e] using q⟩
theorem sc_isB (ha : SB X C W H0 R a eBool mc) (hb : SB X C W H0 R b eBool md) : SC X C W H0 R .Is a b (mc >>= fun i => md >>= fun j => pure (decide (i = j))) :=
  sc_cmp op_isB ha hb fun x y σ H Q i j k1 k2 q => ⟨i, j, kB_bool k1, kB_bool k2, (tR_pure q).2 _ H (.refl H) (.bl _)⟩
/-- arms that end as the block does -/
theorem sl_ifE {ρ ε δ : Type} {er : ρ → PyData} {Rb : ε → Slots} {Rn : δ → Slots} {c : Expr} {a b : List Stmt} {pos : Pos} {mc : m Bool} {ma mb : m (Out ρ ε δ)} (hc : ST X C W H0 R c mc) (ha : SL X C W H0 R a er Rb Rn ma) (hb : SL X C W H0 R b er Rb Rn mb) :
    SL X C W H0 R [.If c a b pos] er Rb Rn (mc >>= fun t => if t = true then ma else mb) :=
  (sl_ifG hc ha hb (k := fun d => pure (.nx d)) fun d => sl_nil d (SubS.refl _)).alike (alike_bind fun t => by
    have z : ∀ x : m (Out ρ ε δ), Alike x (x >>= Out.thn fun d => pure (.nx d)) := fun x s => by
      rw [PyM.run_bind]
      cases PyM.run x s with
      | none => rfl
      | some p =>
        obtain ⟨r, s'⟩ := p
        cases r with
        | error e => rfl
        | ok o =>
          show _ = PyM.run (Out.thn (fun d => pure (.nx d)) o) s'
          cases o with
          | nx d => exact (PyM.run_pure _ _).symm
          | rt d => exact (PyM.run_pure _ _).symm
          | bk d => exact (PyM.run_pure _ _).symm
          | ct d => exact (PyM.run_pure _ _).symm
    cases t with
    | true => exact z ma
    | false => exact z mb)
end
end TT

namespace TT
open PyM (fromO)
open PySem PySem.Spec PyProof.Rows L2
/-! ### targets within targets -/
theorem setσ_app : ∀ {is js : List Nat} {us ws : List V} {σ : L2.St}, us.length = is.length → setσ σ (is ++ js) (us ++ ws) = setσ (setσ σ is us) js ws
  | [], _, [], _, σ, _ => by simp [setσ]
  | [], _, _ :: _, _, _, h => by simp at h
  | _ :: _, _, [], _, _, h => by simp at h
  | i :: is, js, u :: us, ws, σ, h => setσ_app (is := is) (us := us) (σ := σ.set i (some u)) (by simpa using h)
structure GsOk (K : PySem.W.Frag) (w : World) (gs : TGs) {α : Type} (des : α → List PyData) (is : List Nat) (dts : α → List PyData) : Prop where
  run : ∀ a vs σ H Q, Reps K w H vs (des a) → (∀ us, Reps K w H us (dts a) → Q (setσ σ is us) H) → gs vs σ H Q
section
variable {K : PySem.W.Frag} {w : World} {α β : Type} {ea : α → PyData} {g : TG} {gs : TGs} {is js : List Nat} {dts dtss des : α → List PyData}
theorem GOk.on (h : GOk K w g ea is dts) (f : β → α) : GOk K w g (fun b => ea (f b)) is (fun b => dts (f b)) := ⟨fun b v σ H Q r q => h.run (f b) v σ H Q r q⟩
theorem gs_nil : GsOk K w gNil (fun _ : α => []) [] (fun _ => []) := ⟨fun a vs σ H Q r q => by
  cases r
  exact ⟨rfl, by simpa [setσ] using q [] .nil⟩⟩
theorem gs_cons (h : GOk K w g ea is dts) (hl : ∀ a, (dts a).length = is.length) (t : GsOk K w gs des js dtss) : GsOk K w (gCons g gs) (fun a => ea a :: des a) (is ++ js) (fun a => dts a ++ dtss a) := ⟨fun a vs σ H Q r q => by
  cases r with
  | cons r rs =>
    refine ⟨_, _, rfl, h.run a _ σ H _ r fun us ru => t.run a _ _ H Q rs fun ws rw' => ?_⟩
    rw [← setσ_app (by rw [ru.length, hl])]
    exact q _ (ru.append rw')⟩
theorem g_tupN {n : Nat} (h : GsOk K w gs des is dts) (e : ∀ a, ea a = .tuple (des a)) (hl : ∀ a, (des a).length = n) : GOk K w (gTup K n gs) ea is dts := ⟨fun a v σ H Q r q => by
  rw [e] at r
  cases r with
  | tup h' r => exact ⟨_, _, rfl, h', by rw [r.length, hl], h.run a _ σ H Q r q⟩⟩
end
section
variable {X : Cx} {m : Type → Type} [Monad m] [PyM m] {C : Wd X.K X.w m} {W : WX} {H0 : Hp} {R : Slots}
theorem sa_nil : SA X C W H0 R [] (fun _ : Unit => []) (pure ()) := ⟨pa_nil.weak fun σ H Q ⟨s, c, q⟩ => by
  rw [PyM.run_pure] at q
  exact q [] H .refl c.rel .nil⟩
end
/-! ### the same, what they make said by name (Lean hands the expected type down only then) -/
section
variable {X : Cx} {m : Type → Type} [Monad m] [PyM m] {C : Wd X.K X.w m} {W : WX} {H0 : Hp} {R : Slots} {k : Kd} {α β γ : Type} {ea : α → PyData} {eb : β → PyData} {ec : γ → PyData} {e a b : Expr} {ma mm : m α} {pos : Pos}
theorem SX.mapI {f : α → β} (h : SX X C W H0 R k e ea mm) (kk : KdOk k) (q : ∀ a, eb (f a) = ea a) : SX X C W H0 R k e eb (mm >>= fun a => pure (f a)) := SX.map h kk f q
theorem SX.mapOI {f : α → Option β} (h : SE X C W H0 R e ea mm) (q : ∀ a b, f a = some b → eb b = ea a) : SE X C W H0 R e eb (mm >>= fun a => fromO (f a)) := SX.mapO h f q
theorem se_ixCI {i : Int} {f : α → γ} (ha : SB X C W H0 R a ea ma) (hb : SB X C W H0 R b eInt (pure i)) (hs : PlainIx b) (h : ∀ p, ∃ ds, ea p = .tuple ds ∧ L2.atI ds i = some (ec (f p))) :
    SE X C W H0 R (.Subscript a b pos) ec (ma >>= fun p => pure (f p)) := se_ixC ha hb hs f h
end
/-! ### a list is taken apart -/
def eL2 {α : Type} (e : α → PyData) : α × α → PyData := fun p => .list [e p.1, e p.2]
def eL3 {α : Type} (e : α → PyData) : α × α × α → PyData := fun p => .list [e p.1, e p.2.1, e p.2.2]
def eL4 {α : Type} (e : α → PyData) : α × α × α × α → PyData := fun p => .list [e p.1, e p.2.1, e p.2.2.1, e p.2.2.2]
def eL5 {α : Type} (e : α → PyData) : α × α × α × α × α → PyData := fun p => .list [e p.1, e p.2.1, e p.2.2.1, e p.2.2.2.1, e p.2.2.2.2]
section
variable {α : Type} {ea : α → PyData}
theorem toL2_ok (xs : List α) (p : α × α) (h : to2 xs = some p) : eL2 ea p = eLst ea xs := by
  unfold to2 at h
  split at h <;> simp_all <;> subst h <;> rfl
theorem toL3_ok (xs : List α) (p : α × α × α) (h : to3 xs = some p) : eL3 ea p = eLst ea xs := by
  unfold to3 at h
  split at h <;> simp_all <;> subst h <;> rfl
theorem toL4_ok (xs : List α) (p : α × α × α × α) (h : to4 xs = some p) : eL4 ea p = eLst ea xs := by
  unfold to4 at h
  split at h <;> simp_all <;> subst h <;> rfl
theorem toL5_ok (xs : List α) (p : α × α × α × α × α) (h : to5 xs = some p) : eL5 ea p = eLst ea xs := by
  unfold to5 at h
  split at h <;> simp_all <;> subst h <;> rfl
theorem g_lst {K : PySem.W.Frag} {w : World} {β : Type} {eb : β → PyData} {is : List Nat} {dts : β → List PyData} (h : ∀ a, eb a = .list (dts a)) (hl : ∀ a, (dts a).length = is.length) : GOk K w (gLst K is.length (gNames is)) eb is dts := ⟨fun a v σ H Q r q => by
  rw [h] at r
  cases r with
  | lst h r => exact ⟨_, _, rfl, h.sq, by rw [r.length, hl], gNames_ok (K := K) (w := w) (by rw [r.length, hl]) (q _ r)⟩⟩
end
/-! ### a module's constants -/
def GlobC (K : PySem.W.Frag) (mg : Str → Option Value) (x : Str) (d : PyData) : Prop := ∃ v u, mg x = some u ∧ RelV v u ∧ ∀ (w : World) (H : Hp), Rep K w H v d
section
variable {X : Cx} {m : Type → Type} [Monad m] [PyM m] {C : Wd X.K X.w m} {W : WX} {H0 : Hp} {R : Slots} {α : Type} {ea : α → PyData} {x : Str} {pos : Pos} {d : α}
theorem se_glob (hg : Gl X x) (hc : GlobC X.K X.mg x (ea d)) (hd : (x == ("__debug__" : Str)) = false) : SE X C W H0 R (.Name x pos) ea (pure d) := by
  obtain ⟨v, u, hm, r, rep⟩ := hc
  exact .weak (pe_glob hg hm r hd) fun σ H Q q => (tR_pure q).2 _ H (.refl H) (rep _ _)
end
section
variable {K : PySem.W.Frag} {h : Heap} {mg : Str → Option Value}
theorem glob_str {x z : Str} {t : Tok} (X : K.In h) (G : h.Ns mainGlobals mg) (a : PySem.W.nsIn K mainGlobals x = some (some (.str z t))) : GlobC K mg x (.str z) := ⟨.str z, _, PySem.W.mg_of X G a, ⟨t, rfl⟩, fun _ _ => .str z⟩
theorem glob_int {x : Str} {i : Int} {t : Tok} (X : K.In h) (G : h.Ns mainGlobals mg) (a : PySem.W.nsIn K mainGlobals x = some (some (.int i t))) : GlobC K mg x (.int i) := ⟨.int i, _, PySem.W.mg_of X G a, ⟨t, rfl⟩, fun _ _ => .int i⟩
theorem glob_tup {x : Str} {p : Addr} {dd : Option Addr} {its : List Value} {n : Nat} {sl : Array (Option Value)} {vs : List V} {ds : List PyData} (X : K.In h) (G : h.Ns mainGlobals mg) (a : PySem.W.nsIn K mainGlobals x = some (some (.ref p))) (l : K.lookup p = some ⟨.type "tuple", dd, .seq its.toArray n, sl⟩)
    (hz : its.length ≤ 1000) (hv : Vals vs its) (hr : ∀ (w : World) (H : Hp), Reps K w H vs ds) : GlobC K mg x (.tuple ds) :=
  ⟨.ref p, _, PySem.W.mg_of X G a, rfl, fun w H => .tup (.inr ⟨_, its.toArray, n, l, rfl, rfl, by rw [sizeLine_eq, List.size_toArray]; omega, hv⟩) (hr w H)⟩
end
end TT

namespace TT
open PyM (fromO)
open PySem PySem.Spec PyProof.Rows L2
open PySem.W (alike alikeAll dataLt)
/-! ### things of one kind, in order -/
structure Odr {α : Type} (n : Nat) (e : α → PyData) : Prop where
  alike : ∀ a b, alike (e a) (e b) = true
  depth : ∀ a, (e a).depth ≤ n
  nn : ∀ a, e a ≠ .none
section
variable {α β γ δ : Type} {ea : α → PyData} {eb : β → PyData} {ec : γ → PyData} {ed : δ → PyData} {n : Nat}
theorem odr_int : Odr n eInt := ⟨fun _ _ => rfl, fun _ => by simp [PyData.depth], fun _ => by simp⟩
theorem odr_str : Odr n eStr := ⟨fun _ _ => rfl, fun _ => by simp [PyData.depth], fun _ => by simp⟩
theorem odr_bool : Odr n eBool := ⟨fun _ _ => rfl, fun _ => by simp [PyData.depth], fun _ => by simp⟩
theorem alikeAll_map (h : Odr n ea) : ∀ xs ys : List α, alikeAll (xs.map ea) (ys.map ea) = true
  | [], _ => by simp [alikeAll]
  | _ :: _, [] => by simp [alikeAll]
  | x :: xs, y :: ys => by simp only [List.map_cons, alikeAll, h.alike, alikeAll_map h xs ys, Bool.and_self]
theorem depthAll_le (h : ∀ a, (ea a).depth ≤ n) : ∀ xs : List α, PyData.depthAll (xs.map ea) ≤ n
  | [] => by simp [PyData.depthAll]
  | x :: xs => by
    show max _ _ ≤ n
    exact Nat.max_le.mpr ⟨h x, depthAll_le h xs⟩
theorem odr_tup (h : Odr n ea) : Odr (n + 1) (eTup ea) where
  alike a b := by simp only [eTup, alike]; exact alikeAll_map h a b
  depth a := by simp only [eTup, PyData.depth]; have := depthAll_le h.depth a; omega
  nn a := by simp [eTup]
theorem odr_lst (h : Odr n ea) : Odr (n + 1) (eLst ea) where
  alike a b := by simp only [eLst, alike]; exact alikeAll_map h a b
  depth a := by simp only [eLst, PyData.depth]; have := depthAll_le h.depth a; omega
  nn a := by simp [eLst]
theorem odr_t1 (h : Odr n ea) : Odr (n + 1) (eT1 ea) where
  alike a b := by simp only [eT1, alike, alikeAll, h.alike, Bool.and_self]
  depth a := by have := h.depth a; simp [eT1, PyData.depth, PyData.depthAll]; omega
  nn a := by simp [eT1]
theorem odr_t2 (h : Odr n ea) (h' : Odr n eb) : Odr (n + 1) (eT2 ea eb) where
  alike a b := by simp only [eT2, alike, alikeAll, h.alike, h'.alike, Bool.and_self]
  depth a := by have := h.depth a.1; have := h'.depth a.2; simp [eT2, PyData.depth, PyData.depthAll]; omega
  nn a := by simp [eT2]
theorem odr_t3 (h : Odr n ea) (h' : Odr n eb) (h3 : Odr n ec) : Odr (n + 1) (eT3 ea eb ec) where
  alike a b := by simp only [eT3, alike, alikeAll, h.alike, h'.alike, h3.alike, Bool.and_self]
  depth a := by have := h.depth a.1; have := h'.depth a.2.1; have := h3.depth a.2.2; simp [eT3, PyData.depth, PyData.depthAll]; omega
  nn a := by simp [eT3]
theorem odr_t4 (h : Odr n ea) (h' : Odr n eb) (h3 : Odr n ec) (h4 : Odr n ed) : Odr (n + 1) (eT4 ea eb ec ed) where
  alike a b := by simp only [eT4, alike, alikeAll, h.alike, h'.alike, h3.alike, h4.alike, Bool.and_self]
  depth a := by have := h.depth a.1; have := h'.depth a.2.1; have := h3.depth a.2.2.1; have := h4.depth a.2.2.2; simp [eT4, PyData.depth, PyData.depthAll]; omega
  nn a := by simp [eT4]
/-- x < y -/
def ltD (e : α → PyData) (a b : α) : Bool := dataLt (e a) (e b)
def minG (e : α → PyData) : List α → Option α
  | [] => none
  | x :: xs => some (xs.foldl (fun m y => if ltD e y m = true then y else m) x)
def maxG (e : α → PyData) : List α → Option α
  | [] => none
  | x :: xs => some (xs.foldl (fun m y => if ltD e m y = true then y else m) x)
def leD (e : α → PyData) : α → α → Bool := PySem.W.dataLe false e
def sortG (e : α → PyData) (xs : List α) : List α := xs.mergeSort (leD e)
theorem minD_map (x : α) : ∀ xs : List α, PySem.W.minD (ea x) (xs.map ea) = ea (xs.foldl (fun m y => if ltD ea y m = true then y else m) x) := by
  intro xs
  unfold PySem.W.minD
  induction xs generalizing x with
  | nil => rfl
  | cons y ys ih =>
    rw [List.map_cons, List.foldl_cons, List.foldl_cons, ← ih]
    congr 1
    unfold ltD
    cases dataLt (ea y) (ea x) <;> rfl
theorem maxD_map (x : α) : ∀ xs : List α, PySem.W.maxD (ea x) (xs.map ea) = ea (xs.foldl (fun m y => if ltD ea m y = true then y else m) x) := by
  intro xs
  unfold PySem.W.maxD
  induction xs generalizing x with
  | nil => rfl
  | cons y ys ih =>
    rw [List.map_cons, List.foldl_cons, List.foldl_cons, ← ih]
    congr 1
    unfold ltD
    cases dataLt (ea x) (ea y) <;> rfl
theorem alike_all (h : Odr n ea) (xs : List α) : PySem.W.AlikeAll (xs.map ea) := by
  refine ⟨fun x hx y hy => ?_, fun x hx => ?_⟩
  · obtain ⟨a, _, rfl⟩ := List.mem_map.mp hx
    obtain ⟨b, _, rfl⟩ := List.mem_map.mp hy
    exact h.alike a b
  · obtain ⟨a, _, rfl⟩ := List.mem_map.mp hx
    exact h.nn a
end
/-! ### min, max, sorted, in: what they give -/
section
variable {X : Cx} {mt : Addr → Prop}
/-- an item of a list that reads as such -/
theorem rep_item {K : PySem.W.Frag} {w : World} {H : Hp} {vs : List V} {us : List Value} {ds : List PyData} (rv : Vals vs us) (rs : Reps K w H vs ds) : ∀ {i : Nat} {u : Value}, us[i]? = some u → ∃ v d, RelV v u ∧ Rep K w H v d := by
  intro i u hu
  induction rv generalizing i ds with
  | nil => simp at hu
  | cons r t ih =>
    cases rs with
    | cons r1 t1 =>
      cases i with
      | zero =>
        simp only [List.getElem?_cons_zero, Option.some.injEq] at hu
        subst hu
        exact ⟨_, _, r, r1⟩
      | succ i => exact ih t1 (by simpa using hu)
/-- min or max of a list, of a tuple -/
def rBest (mt : Addr → Prop) (X : Cx) {α : Type} (e : α → PyData) (f : List α → Option α) : List V → Hp → VK → Prop := fun vs H Q =>
  ∃ v xs r, vs = [v] ∧ (kB X.K X.w mt H H v (eLst e xs) ∨ kB X.K X.w mt H H v (eTup e xs)) ∧ f xs = some r ∧ ∀ u, Rep X.K X.w H u (e r) → Q u H
theorem reps_same {K : PySem.W.Frag} {w : World} {H : Hp} {v : V} {d : PyData} {X : Cx} {pins : List (Addr × Obj)} {σ : L2.St} {s s' : Shared} (I : L2.Inv X pins σ H s) {u : Value} (hr : RelV v u) (r : Rep X.K X.w H v d) {d' : PyData} {bs : List Addr}
    (hk : ∀ b o, s.heap.get? b = some o → s'.heap.get? b = some o) (q : Reads s'.heap u d' bs) : d = d' := by
  obtain ⟨as, ra⟩ := Inv.reads I r hr
  exact ((PyProof.Rows.Reads.keeps hk ra).unique _ _ q).1
theorem call_minD {α : Type} {n : Nat} {e : α → PyData} (h : Odr n e) (hn : n ≤ 60) (hc : X.calm = true) (hu : X.A.units + 64 < cLine) : CallR X (.builtin "min") (rBest mt X e (minG e)) := by
  intro pins s σ H vs us Q I r q
  obtain ⟨v, xs, m, rfl, kv, hm, q⟩ := q
  cases xs with
  | nil => cases hm
  | cons x xs =>
    have hm : some _ = some m := hm
    injection hm with hm
    have hd : PySem.W.minD (e x) (xs.map e) = e m := (minD_map x xs).trans (by rw [← hm])
    have du : X.A.units + 1 + PyData.depthAll ((x :: xs).map e) < cLine := by have := depthAll_le h.depth (x :: xs); omega
    rcases kv with kv | kv
    · obtain ⟨a, ws, rfl, h1, h2⟩ := kB_lst kv
      obtain ⟨its, rv, ⟨o, k, ho, hcl, hx, hdt⟩, _⟩ := I.list h1
      obtain ⟨as, ra⟩ := Inv.readsAll I h2 rv
      rw [Vals.ref1 r]
      refine PySem.W.min_list_data (vs := its.toArray) (I.ok.hd hc) ⟨o, ho, hcl, k, hdt⟩ (by simpa using ra) (alike_all h (x :: xs)) du fun i u h' tk bs hi rd hk => ?_
      obtain ⟨v, d, hrv, rp⟩ := rep_item rv h2 (i := i) (u := u) (by simpa using hi)
      have e1 := reps_same (K := X.K) (w := X.w) (s' := { s with heap := h', toks := tk }) I hrv rp hk rd
      rw [hd] at e1
      subst e1
      exact ⟨v, H, I.kept hk, hrv, q v rp⟩
    · obtain ⟨a, ws, rfl, h1, h2⟩ := kB_tup kv
      obtain ⟨its, rv, ⟨o, ho, hcl, k, hdt⟩, _⟩ := I.tuple h1
      obtain ⟨as, ra⟩ := Inv.readsAll I h2 rv
      rw [Vals.ref1 r]
      refine PySem.W.min_tuple_data (vs := its.toArray) (I.ok.hd hc) ⟨o, ho, hcl, k, hdt⟩ (by simpa using ra) (alike_all h (x :: xs)) du fun i u h' tk bs hi rd hk => ?_
      obtain ⟨v, d, hrv, rp⟩ := rep_item rv h2 (i := i) (u := u) (by simpa using hi)
      have e1 := reps_same (K := X.K) (w := X.w) (s' := { s with heap := h', toks := tk }) I hrv rp hk rd
      rw [hd] at e1
      subst e1
      exact ⟨v, H, I.kept hk, hrv, q v rp⟩
theorem call_maxD {α : Type} {n : Nat} {e : α → PyData} (h : Odr n e) (hn : n ≤ 60) (hc : X.calm = true) (hu : X.A.units + 64 < cLine) : CallR X (.builtin "max") (rBest mt X e (maxG e)) := by
  intro pins s σ H vs us Q I r q
  obtain ⟨v, xs, m, rfl, kv, hm, q⟩ := q
  cases xs with
  | nil => cases hm
  | cons x xs =>
    have hm : some _ = some m := hm
    injection hm with hm
    have hd : PySem.W.maxD (e x) (xs.map e) = e m := (maxD_map x xs).trans (by rw [← hm])
    have du : X.A.units + 1 + PyData.depthAll ((x :: xs).map e) < cLine := by have := depthAll_le h.depth (x :: xs); omega
    rcases kv with kv | kv
    · obtain ⟨a, ws, rfl, h1, h2⟩ := kB_lst kv
      obtain ⟨its, rv, ⟨o, k, ho, hcl, hx, hdt⟩, _⟩ := I.list h1
      obtain ⟨as, ra⟩ := Inv.readsAll I h2 rv
      rw [Vals.ref1 r]
      refine PySem.W.max_list_data (vs := its.toArray) (I.ok.hd hc) ⟨o, ho, hcl, k, hdt⟩ (by simpa using ra) (alike_all h (x :: xs)) du fun i u h' tk bs hi rd hk => ?_
      obtain ⟨v, d, hrv, rp⟩ := rep_item rv h2 (i := i) (u := u) (by simpa using hi)
      have e1 := reps_same (K := X.K) (w := X.w) (s' := { s with heap := h', toks := tk }) I hrv rp hk rd
      rw [hd] at e1
      subst e1
      exact ⟨v, H, I.kept hk, hrv, q v rp⟩
    · obtain ⟨a, ws, rfl, h1, h2⟩ := kB_tup kv
      obtain ⟨its, rv, ⟨o, ho, hcl, k, hdt⟩, _⟩ := I.tuple h1
      obtain ⟨as, ra⟩ := Inv.readsAll I h2 rv
      rw [Vals.ref1 r]
      refine PySem.W.max_tuple_data (vs := its.toArray) (I.ok.hd hc) ⟨o, ho, hcl, k, hdt⟩ (by simpa using ra) (alike_all h (x :: xs)) du fun i u h' tk bs hi rd hk => ?_
      obtain ⟨v, d, hrv, rp⟩ := rep_item rv h2 (i := i) (u := u) (by simpa using hi)
      have e1 := reps_same (K := X.K) (w := X.w) (s' := { s with heap := h', toks := tk }) I hrv rp hk rd
      rw [hd] at e1
      subst e1
      exact ⟨v, H, I.kept hk, hrv, q v rp⟩
end
section
variable {X : Cx} {m : Type → Type} [Monad m] [PyM m] {C : Wd X.K X.w m} {W : WX} {H0 : Hp} {R : Slots} {k : Kd} {α β γ : Type} {ea : α → PyData} {eb : β → PyData} {a b : Expr} {ma : m α} {mxs : m (List α)} {pos p : Pos} {n : Nat}
theorem se_minL (h : Odr n ea) (hn : n ≤ 60) (hk : X.calm = true) (hu : X.A.units + 64 < cLine) (hg : Gl X "min") (hm : X.mg "min" = none) (ha : SB X C W H0 R a (eLst ea) mxs) (hs : starEach (a :: []) X.env = (false, eval a X.env) :: starEach [] X.env := by rfl) : SE X C W H0 R (.Call (.Name "min" p) [a] [] pos) ea (mxs >>= fun xs => fromO (minG ea xs)) :=
  sx_callB kF_ok (call_minD (mt := C.mt) h hn hk hu) hg hm (by decide +kernel) (by decide) (by decide) ha (fun v σ H Q xs kv _ q => by
    obtain ⟨c, e, _, q⟩ := tR_done q
    exact ⟨v, xs, c, rfl, .inl kv, e, fun u ru => q u H (.refl H) ru⟩) hs
theorem se_minT (h : Odr n ea) (hn : n ≤ 60) (hk : X.calm = true) (hu : X.A.units + 64 < cLine) (hg : Gl X "min") (hm : X.mg "min" = none) (ha : SB X C W H0 R a (eTup ea) mxs) (hs : starEach (a :: []) X.env = (false, eval a X.env) :: starEach [] X.env := by rfl) : SE X C W H0 R (.Call (.Name "min" p) [a] [] pos) ea (mxs >>= fun xs => fromO (minG ea xs)) :=
  sx_callB kF_ok (call_minD (mt := C.mt) h hn hk hu) hg hm (by decide +kernel) (by decide) (by decide) ha (fun v σ H Q xs kv _ q => by
    obtain ⟨c, e, _, q⟩ := tR_done q
    exact ⟨v, xs, c, rfl, .inr kv, e, fun u ru => q u H (.refl H) ru⟩) hs
theorem se_maxL (h : Odr n ea) (hn : n ≤ 60) (hk : X.calm = true) (hu : X.A.units + 64 < cLine) (hg : Gl X "max") (hm : X.mg "max" = none) (ha : SB X C W H0 R a (eLst ea) mxs) (hs : starEach (a :: []) X.env = (false, eval a X.env) :: starEach [] X.env := by rfl) : SE X C W H0 R (.Call (.Name "max" p) [a] [] pos) ea (mxs >>= fun xs => fromO (maxG ea xs)) :=
  sx_callB kF_ok (call_maxD (mt := C.mt) h hn hk hu) hg hm (by decide +kernel) (by decide) (by decide) ha (fun v σ H Q xs kv _ q => by
    obtain ⟨c, e, _, q⟩ := tR_done q
    exact ⟨v, xs, c, rfl, .inl kv, e, fun u ru => q u H (.refl H) ru⟩) hs
theorem se_maxT (h : Odr n ea) (hn : n ≤ 60) (hk : X.calm = true) (hu : X.A.units + 64 < cLine) (hg : Gl X "max") (hm : X.mg "max" = none) (ha : SB X C W H0 R a (eTup ea) mxs) (hs : starEach (a :: []) X.env = (false, eval a X.env) :: starEach [] X.env := by rfl) : SE X C W H0 R (.Call (.Name "max" p) [a] [] pos) ea (mxs >>= fun xs => fromO (maxG ea xs)) :=
  sx_callB kF_ok (call_maxD (mt := C.mt) h hn hk hu) hg hm (by decide +kernel) (by decide) (by decide) ha (fun v σ H Q xs kv _ q => by
    obtain ⟨c, e, _, q⟩ := tR_done q
    exact ⟨v, xs, c, rfl, .inr kv, e, fun u ru => q u H (.refl H) ru⟩) hs
end
end TT

namespace TT
open PyM (fromO)
open PySem PySem.Spec PyProof.Rows L2
open PySem.W (alike alikeAll dataLt)
/-! ### sorted -/
section
variable {K : PySem.W.Frag} {w : World} {H : Hp} {α : Type} {e : α → PyData}
theorem each_of : ∀ {vs : List V} {us : List Value} {xs : List α}, Vals vs us → Reps K w H vs (xs.map e) → PySem.W.EachIs (fun u b => ∃ v, RelV v u ∧ Rep K w H v (e b)) us xs
  | [], [], [], .nil, _ => .nil
  | _ :: _, _ :: _, x :: xs, .cons r t, rs => by
    cases rs with
    | cons r1 t1 => exact .cons ⟨_, r, r1⟩ (each_of t t1)
  | [], [], _ :: _, .nil, rs => by cases rs
  | _ :: _, _ :: _, [], .cons r t, rs => by cases rs
theorem of_each : ∀ {us : List Value} {xs : List α}, PySem.W.EachIs (fun u b => ∃ v, RelV v u ∧ Rep K w H v (e b)) us xs → ∃ vs : List V, Vals vs us ∧ Reps K w H vs (xs.map e)
  | _, _, .nil => ⟨[], .nil, .nil⟩
  | _, _, .cons ⟨v, r, q⟩ t => by
    obtain ⟨vs, h1, h2⟩ := of_each t
    exact ⟨v :: vs, .cons r h1, .cons q h2⟩
end
def rSort {α : Type} (mt : Addr → Prop) (X : Cx) (e : α → PyData) : List V → Hp → VK → Prop := fun vs H Q =>
  ∃ v xs, vs = [v] ∧ kB X.K X.w mt H H v (eLst e xs) ∧ ∀ p ws, H p = none → Reps X.K X.w H ws ((sortG e xs).map e) → Q (.ref p) (upd H p (.lst ws))
/-- what may be sorted: rows with a first thing, or no rows -/
structure Srt {α : Type} (e : α → PyData) : Prop where
  run : ∀ xs : List α, PySem.W.Sortable (xs.map e)
section
variable {α β γ δ : Type} {ea : α → PyData} {eb : β → PyData} {ec : γ → PyData} {ed : δ → PyData}
theorem srt_int : Srt eInt := ⟨fun _ => PySem.W.Sortable.others fun _ => ⟨by simp, by simp⟩⟩
theorem srt_str : Srt eStr := ⟨fun _ => PySem.W.Sortable.others fun _ => ⟨by simp, by simp⟩⟩
theorem srt_t1 : Srt (eT1 ea) := ⟨fun _ => PySem.W.Sortable.tuples fun _ => ⟨_, _, rfl⟩⟩
theorem srt_t2 : Srt (eT2 ea eb) := ⟨fun _ => PySem.W.Sortable.tuples fun _ => ⟨_, _, rfl⟩⟩
theorem srt_t3 : Srt (eT3 ea eb ec) := ⟨fun _ => PySem.W.Sortable.tuples fun _ => ⟨_, _, rfl⟩⟩
theorem srt_t4 : Srt (eT4 ea eb ec ed) := ⟨fun _ => PySem.W.Sortable.tuples fun _ => ⟨_, _, rfl⟩⟩
end
theorem mergeSort_len {α : Type} {le : α → α → Bool} (xs : List α) : (xs.mergeSort le).length = xs.length := (List.mergeSort_perm xs le).length_eq
theorem call_sortD {X : Cx} {mt : Addr → Prop} {α : Type} {n : Nat} {e : α → PyData} (h : Odr n e) (hs : Srt e) (hn : n ≤ 60) (hu : X.A.units + 64 < cLine) : CallR X (.builtin "sorted") (rSort mt X e) := by
  intro pins s σ H vs us Q I r q
  obtain ⟨v, xs, rfl, kv, q⟩ := q
  obtain ⟨a, ws, rfl, h1, h2⟩ := kB_lst kv
  obtain ⟨its, rv, hl, hz⟩ := I.list h1
  rw [Vals.ref1 r]
  have hall : PySem.W.AllAlike (xs.map e) := PySem.W.AllAlike.of h.alike
  have len : xs.length = ws.length := by rw [h2.length, List.length_map]
  refine PySem.W.sorted_data (R := fun u b => ∃ v, RelV v u ∧ Rep X.K X.w H v (e b)) hl.isList (each_of rv h2) ((each_of rv h2).mono fun u b ⟨v, hv, hr⟩ => Inv.reads I hr hv) hall (hs.run xs) (by rw [len]; exact hz) (fun b _ => by have := h.depth b; omega) fun out ho he => ?_
  obtain ⟨vs, h3, h4⟩ := of_each he
  obtain ⟨ep, he'⟩ := PyProof.Rows.sortedAll_at s.heap its out.toArray
  have hlen : vs.length ≤ sizeLine := by rw [h3.length, ho, len]; exact hz
  have hf : H (s.heap.objs.size + 1) = none := I.hok.fresh (Nat.le_succ _)
  exact ⟨.ref _, upd H (s.heap.objs.size + 1) (.lst vs), I.laid (t' := s.toks) (fun _ _ => PyProof.Rows.sortedAll_old) (Nat.le_succ _) ⟨hlen, out, ep, h3, he'⟩, rfl, q _ vs hf h4⟩
section
variable {X : Cx} {m : Type → Type} [Monad m] [PyM m] {C : Wd X.K X.w m} {W : WX} {H0 : Hp} {R : Slots} {k : Kd} {α β γ : Type} {ea : α → PyData} {eb : β → PyData} {a b : Expr} {ma mb : m α} {mxs : m (List α)} {pos p : Pos} {n : Nat}
theorem so_sortL (h : Odr n ea) (hs : Srt ea) (hn : n ≤ 60) (hu : X.A.units + 64 < cLine) (hg : Gl X "sorted") (hm : X.mg "sorted" = none) (ha : SB X C W H0 R a (eLst ea) mxs) (hss : starEach (a :: []) X.env = (false, eval a X.env) :: starEach [] X.env := by rfl) : SO X C W H0 R (.Call (.Name "sorted" p) [a] [] pos) (eLst ea) (mxs >>= fun xs => pure (sortG ea xs)) :=
  sx_callB kO_ok (call_sortD (mt := C.mt) h hs hn hu) hg hm (by decide +kernel) (by decide) (by decide) ha (fun v σ H Q xs kv _ q => by
    obtain ⟨_, q⟩ := tR_pure q
    exact ⟨v, xs, rfl, kv, fun p ws hp rs => q _ _ (Same.new hp) ⟨p, ws, _, rfl, rfl, upd_same, Reps.firm (fun b o h _ => Same.new hp b o h) rs, hp⟩⟩) hss
/-! ### in, not in -/
theorem any_eqv [DecidableEq α] (h : EqOk n ea) (x : α) : ∀ xs : List α, ((xs.map ea).any fun y => PyData.eqv y (ea x)) = decide (x ∈ xs)
  | [] => by simp
  | y :: ys => by
    rw [List.map_cons, List.any_cons, any_eqv h x ys, h.eqv]
    by_cases z : y = x
    · simp [z]
    · have : ¬ x = y := fun e => z e.symm
      simp [z, this]
def rInD [DecidableEq α] (mt : Addr → Prop) (X : Cx) (e : α → PyData) (neg : Bool) : R2 := fun x y H Q => ∃ b xs, kB X.K X.w mt H H x (e b) ∧ (kB X.K X.w mt H H y (eLst e xs) ∨ kB X.K X.w mt H H y (eTup e xs)) ∧ Q (.bl (xor neg (decide (b ∈ xs)))) H
theorem op_inD [DecidableEq α] {mt : Addr → Prop} (h : EqOk n ea) (hn : n < 60) (hu : X.A.units + 64 < cLine) : OpR X (compareOp .In) (rInD mt X ea false) := by
  intro pins s σ H x y v u Q I rx ry ⟨b, xs, k1, k2, q⟩
  obtain ⟨as, ra⟩ := Inv.readsB I k1 rx
  have hd := h.depth b
  have hq : EP X pins σ Q (.bool ((xs.map ea).any fun y => PyData.eqv y (ea b))) s := fin_bl I q (by rw [any_eqv h]; simp)
  rcases k2 with k2 | k2
  · obtain ⟨bs, rb⟩ := Inv.readsB I k2 ry
    exact PySem.SeqAt.in_list_data rb ra (plainAll_map' h xs) (h.plain b) (by omega) hq
  · obtain ⟨bs, rb⟩ := Inv.readsB I k2 ry
    exact PySem.SeqAt.in_tuple_data rb ra (plainAll_map' h xs) (h.plain b) (by omega) hq
theorem op_notInD [DecidableEq α] {mt : Addr → Prop} (h : EqOk n ea) (hn : n < 60) (hu : X.A.units + 64 < cLine) : OpR X (compareOp .NotIn) (rInD mt X ea true) := by
  intro pins s σ H x y v u Q I rx ry ⟨b, xs, k1, k2, q⟩
  obtain ⟨as, ra⟩ := Inv.readsB I k1 rx
  have hd := h.depth b
  have hq : EP X pins σ Q (.bool (!(xs.map ea).any fun y => PyData.eqv y (ea b))) s := fin_bl I q (by rw [any_eqv h]; simp)
  rcases k2 with k2 | k2
  · obtain ⟨bs, rb⟩ := Inv.readsB I k2 ry
    exact PySem.SeqAt.notIn_list_data rb ra (plainAll_map' h xs) (h.plain b) (by omega) hq
  · obtain ⟨bs, rb⟩ := Inv.readsB I k2 ry
    exact PySem.SeqAt.notIn_tuple_data rb ra (plainAll_map' h xs) (h.plain b) (by omega) hq
theorem sc_inL [DecidableEq α] (h : EqOk n ea) (hn : n < 60) (hu : X.A.units + 64 < cLine) (ha : SB X C W H0 R a ea ma) (hb : SB X C W H0 R b (eLst ea) mxs) : SC X C W H0 R .In a b (ma >>= fun i => mxs >>= fun xs => pure (decide (i ∈ xs))) :=
  sc_cmp (op_inD (mt := C.mt) h hn hu) ha hb fun x y σ H Q i j k1 k2 q => ⟨i, j, k1, .inl k2, by simpa using (tR_pure q).2 _ H (.refl H) (.bl _)⟩
theorem sc_inT [DecidableEq α] (h : EqOk n ea) (hn : n < 60) (hu : X.A.units + 64 < cLine) (ha : SB X C W H0 R a ea ma) (hb : SB X C W H0 R b (eTup ea) mxs) : SC X C W H0 R .In a b (ma >>= fun i => mxs >>= fun xs => pure (decide (i ∈ xs))) :=
  sc_cmp (op_inD (mt := C.mt) h hn hu) ha hb fun x y σ H Q i j k1 k2 q => ⟨i, j, k1, .inr k2, by simpa using (tR_pure q).2 _ H (.refl H) (.bl _)⟩
theorem sc_niL [DecidableEq α] (h : EqOk n ea) (hn : n < 60) (hu : X.A.units + 64 < cLine) (ha : SB X C W H0 R a ea ma) (hb : SB X C W H0 R b (eLst ea) mxs) : SC X C W H0 R .NotIn a b (ma >>= fun i => mxs >>= fun xs => pure (!decide (i ∈ xs))) :=
  sc_cmp (op_notInD (mt := C.mt) h hn hu) ha hb fun x y σ H Q i j k1 k2 q => ⟨i, j, k1, .inl k2, by simpa using (tR_pure q).2 _ H (.refl H) (.bl _)⟩
theorem sc_niT [DecidableEq α] (h : EqOk n ea) (hn : n < 60) (hu : X.A.units + 64 < cLine) (ha : SB X C W H0 R a ea ma) (hb : SB X C W H0 R b (eTup ea) mxs) : SC X C W H0 R .NotIn a b (ma >>= fun i => mxs >>= fun xs => pure (!decide (i ∈ xs))) :=
  sc_cmp (op_notInD (mt := C.mt) h hn hu) ha hb fun x y σ H Q i j k1 k2 q => ⟨i, j, k1, .inr k2, by simpa using (tR_pure q).2 _ H (.refl H) (.bl _)⟩
/-! ### a substring -/
theorem sc_inS {ms mz : m Str} (ha : SB X C W H0 R a eStr ms) (hb : SB X C W H0 R b eStr mz) : SC X C W H0 R .In a b (ms >>= fun i => mz >>= fun j => pure (!(Builtin.Str.occurrences j i 0 j.length 1).isEmpty)) :=
  sc_cmp op_in_str ha hb fun x y σ H Q i j k1 k2 q => ⟨i, j, kB_str k1, kB_str k2, (tR_pure q).2 _ H (.refl H) (.bl _)⟩
/-! ### <, <=, >, >= of things of one kind -/
def rLtD {α : Type} (mt : Addr → Prop) (X : Cx) (e : α → PyData) (f : α → α → Bool) : R2 := fun x y H Q => ∃ i j, kB X.K X.w mt H H x (e i) ∧ kB X.K X.w mt H H y (e j) ∧ Q (.bl (f i j)) H
theorem op_ltD {mt : Addr → Prop} (h : Odr n ea) (hn : n ≤ 60) (hu : X.A.units + 64 < cLine) : OpR X (compareOp .Lt) (rLtD mt X ea (ltD ea)) := by
  intro pins s σ H x y v u Q I rx ry ⟨i, j, k1, k2, q⟩
  obtain ⟨as, ra⟩ := Inv.readsB I k1 rx
  obtain ⟨bs, rb⟩ := Inv.readsB I k2 ry
  have := h.depth i
  exact PySem.W.lt_data ra rb (h.alike i j) (h.nn i) (by omega) (fin_bl I q rfl)
theorem op_gtD {mt : Addr → Prop} (h : Odr n ea) (hn : n ≤ 60) (hu : X.A.units + 64 < cLine) : OpR X (compareOp .Gt) (rLtD mt X ea fun i j => ltD ea j i) := by
  intro pins s σ H x y v u Q I rx ry ⟨i, j, k1, k2, q⟩
  obtain ⟨as, ra⟩ := Inv.readsB I k1 rx
  obtain ⟨bs, rb⟩ := Inv.readsB I k2 ry
  have := h.depth i
  exact PySem.W.gt_data ra rb (h.alike i j) (h.nn i) (by omega) (fin_bl I q rfl)
theorem op_leD {mt : Addr → Prop} (h : Odr n ea) (hn : n ≤ 60) (hu : X.A.units + 64 < cLine) : OpR X (compareOp .LtE) (rLtD mt X ea fun i j => !ltD ea j i) := by
  intro pins s σ H x y v u Q I rx ry ⟨i, j, k1, k2, q⟩
  obtain ⟨as, ra⟩ := Inv.readsB I k1 rx
  obtain ⟨bs, rb⟩ := Inv.readsB I k2 ry
  have := h.depth i
  exact PySem.W.le_data ra rb (h.alike i j) (h.nn i) (by omega) (fin_bl I q rfl)
theorem op_geD {mt : Addr → Prop} (h : Odr n ea) (hn : n ≤ 60) (hu : X.A.units + 64 < cLine) : OpR X (compareOp .GtE) (rLtD mt X ea fun i j => !ltD ea i j) := by
  intro pins s σ H x y v u Q I rx ry ⟨i, j, k1, k2, q⟩
  obtain ⟨as, ra⟩ := Inv.readsB I k1 rx
  obtain ⟨bs, rb⟩ := Inv.readsB I k2 ry
  have := h.depth i
  exact PySem.W.ge_data ra rb (h.alike i j) (h.nn i) (by omega) (fin_bl I q rfl)
theorem sc_ltD (h : Odr n ea) (hn : n ≤ 60) (hu : X.A.units + 64 < cLine) (ha : SB X C W H0 R a ea ma) (hb : SB X C W H0 R b ea mb) : SC X C W H0 R .Lt a b (ma >>= fun i => mb >>= fun j => pure (ltD ea i j)) :=
  sc_cmp (op_ltD (mt := C.mt) h hn hu) ha hb fun x y σ H Q i j k1 k2 q => ⟨i, j, k1, k2, (tR_pure q).2 _ H (.refl H) (.bl _)⟩
theorem sc_gtD (h : Odr n ea) (hn : n ≤ 60) (hu : X.A.units + 64 < cLine) (ha : SB X C W H0 R a ea ma) (hb : SB X C W H0 R b ea mb) : SC X C W H0 R .Gt a b (ma >>= fun i => mb >>= fun j => pure (ltD ea j i)) :=
  sc_cmp (op_gtD (mt := C.mt) h hn hu) ha hb fun x y σ H Q i j k1 k2 q => ⟨i, j, k1, k2, (tR_pure q).2 _ H (.refl H) (.bl _)⟩
theorem sc_leD (h : Odr n ea) (hn : n ≤ 60) (hu : X.A.units + 64 < cLine) (ha : SB X C W H0 R a ea ma) (hb : SB X C W H0 R b ea mb) : SC X C W H0 R .LtE a b (ma >>= fun i => mb >>= fun j => pure (!ltD ea j i)) :=
  sc_cmp (op_leD (mt := C.mt) h hn hu) ha hb fun x y σ H Q i j k1 k2 q => ⟨i, j, k1, k2, (tR_pure q).2 _ H (.refl H) (.bl _)⟩
theorem sc_geD (h : Odr n ea) (hn : n ≤ 60) (hu : X.A.units + 64 < cLine) (ha : SB X C W H0 R a ea ma) (hb : SB X C W H0 R b ea mb) : SC X C W H0 R .GtE a b (ma >>= fun i => mb >>= fun j => pure (!ltD ea i j)) :=
  sc_cmp (op_geD (mt := C.mt) h hn hu) ha hb fun x y σ H Q i j k1 k2 q => ⟨i, j, k1, k2, (tR_pure q).2 _ H (.refl H) (.bl _)⟩
end
end TT

namespace TT
open PyM (fromO)
open PySem PySem.Spec PyProof.Rows L2
section
variable {X : Cx} {m : Type → Type} [Monad m] [PyM m] {C : Wd X.K X.w m} {W : WX} {H0 : Hp} {R : Slots} {P : Pk} {α β : Type} {ea : α → PyData} {eb : β → PyData}
variable {a b : Expr} {elts : List Expr} {pos p tpos : Pos} {kk : Nat} {mxs : m (List α)} {mys : m (List β)}
theorem wk_zipL {K : PySem.W.Frag} {w : World} {H : Hp} {a b : Addr} {vs us : List V} {xs : List α} {ys : List β} (l : LenOk K H) (h : FzL K H a vs) (h' : FzL K H b us) (r : Reps K w H vs (xs.map ea)) (r' : Reps K w H us (ys.map eb)) (fs : ∀ {H'}, P H H' → Firms H H') : Wk K w (P H) (Itz K a b) ((xs.zip ys).map (eT2 ea eb)) where
  go i H' p hi := by
    have f := fs p
    have hA := FzL.firm f h
    have hB := FzL.firm f h'
    rw [List.length_map, List.length_zip] at hi
    have l1 := r.length
    have l2 := r'.length
    rw [List.length_map] at l1 l2
    have i1 : i < xs.length := by omega
    have i2 : i < ys.length := by omega
    have g1 : (xs.map ea)[i]? = some (ea xs[i]) := by rw [List.getElem?_map, List.getElem?_eq_getElem i1]; rfl
    have g2 : (ys.map eb)[i]? = some (eb ys[i]) := by rw [List.getElem?_map, List.getElem?_eq_getElem i2]; rfl
    obtain ⟨v, e1, rv⟩ := r.get g1
    obtain ⟨u, e2, ru⟩ := r'.get g2
    refine ⟨⟨vs, us, v, u, hA.sq, hB.sq, e1, e2⟩, fun x H2 y => ?_⟩
    obtain ⟨T, x1, x2, rfl, nT, rfl, f1, f2⟩ := y
    have q1 := f1 _ hA.sq
    have q2 := f2 _ hB.sq
    rw [e1] at q1; cases q1
    rw [e2] at q2; cases q2
    refine ⟨Same.new nT, eT2 ea eb (xs[i], ys[i]), ?_, ?_⟩
    · rw [List.getElem?_map, zip_at (List.getElem?_eq_getElem i1) (List.getElem?_eq_getElem i2)]; rfl
    · have s2 : Firms H (upd H' T (.tup [v, u])) := fun c o hc k => Same.new nT _ _ (f _ _ hc k)
      exact .tup (.inl (.inl upd_same)) (.cons (Rep.firm s2 rv) (.cons (Rep.firm s2 ru) .nil))
  stop i H' p hi := by
    have f := fs p
    rw [List.length_map, List.length_zip] at hi
    have l1 := r.length
    have l2 := r'.length
    rw [List.length_map] at l1 l2
    exact ⟨vs, us, (FzL.firm f h).sq, (FzL.firm f h').sq, by omega⟩
  len := by
    have l1 := r.length
    rw [List.length_map] at l1
    rw [List.length_map, List.length_zip]
    exact Nat.le_trans (Nat.min_le_left _ _) (l1 ▸ l.1 a vs h.sq)
theorem si_zipL (hg : Gl X "zip") (hm : X.mg "zip" = none) (ha : SE X C W H0 R a (eLst ea) mxs) (hb : SE X C W H0 R b (eLst eb) mys) (fs : ∀ {H H'}, P H H' → Firms H H')
    (hs : starEach [a, b] X.env = (false, eval a X.env) :: starEach [b] X.env := by rfl) (hs2 : starEach [b] X.env = (false, eval b X.env) :: starEach [] X.env := by rfl) (hpl : (backTo pos (starEach [b] X.env)).any (·.1) = false := by rfl) :
    SI X C W H0 R P (.Tuple elts kk tpos) (.Call (.Name "zip" p) [a, b] [] pos) (eT2 ea eb) (mxs >>= fun xs => mys >>= fun ys => pure (xs.zip ys)) :=
  ⟨(RZ.pi_zipA hg hm (pa_cons ha.run.facts (pa_cons hb.run.facts pa_nil hs2) hs) hs hpl).weak fun σ H Q q => tR_imp (tI_bind (k := kF X.K X.w C.mt) (ea := eLst ea) q) fun v H1 ⟨xs, e, kv, q⟩ lk => tR_imp (tI_bind (k := kF X.K X.w C.mt) (ea := eLst eb) q) fun v2 H2 ⟨ys, e2, kv2, q⟩ lk2 => by
    obtain ⟨s, c, q⟩ := q
    rw [PyM.run_pure] at q
    have kv : Rep X.K X.w H1 v (.list (xs.map ea)) := kv
    have kv2 : Rep X.K X.w H2 v2 (.list (ys.map eb)) := kv2
    cases kv with
    | lst h r =>
      cases kv2 with
      | lst h' r' =>
        exact ⟨_, _, _, _, rfl, .inl ⟨(FzL.firm e2.firms h).sq, h'.sq, q _ _ .refl c.rel (wk_zipL lk2 (FzL.firm e2.firms h) h' (Reps.firm e2.firms r) r' fs)⟩⟩⟩
end
/-! ### lists by their methods: index, count -/
section
variable {K : PySem.W.Frag} {w : World} {H : Hp}
theorem rep_at : ∀ {vs : List V} {us : List Value} {ds : List PyData} {i : Nat} {u : Value} {d : PyData}, Vals vs us → Reps K w H vs ds → us[i]? = some u → ds[i]? = some d → ∃ v, RelV v u ∧ Rep K w H v d
  | [], [], _, i, _, _, .nil, _, h, _ => by simp at h
  | v :: vs, u :: us, d :: ds, 0, _, _, .cons r t, .cons r1 t1, h, h' => by
    simp only [List.getElem?_cons_zero, Option.some.injEq] at h h'
    subst h h'
    exact ⟨v, r, r1⟩
  | v :: vs, u :: us, d :: ds, i + 1, _, _, .cons r t, .cons r1 t1, h, h' => rep_at (i := i) t t1 (by simpa using h) (by simpa using h')
end
def idxG {α : Type} [DecidableEq α] (xs : List α) (x : α) : Option Int := if x ∈ xs then some ((xs.idxOf x : Nat) : Int) else none
def rIdx {α : Type} [DecidableEq α] (mt : Addr → Prop) (X : Cx) (e : α → PyData) : V → List V → Hp → VK → Prop := fun x vs H Q => ∃ y xs b, vs = [y] ∧ kB X.K X.w mt H H x (eLst e xs) ∧ kB X.K X.w mt H H y (e b) ∧ b ∈ xs ∧ Q (.int (xs.idxOf b : Nat)) H
theorem mt_idx {X : Cx} {mt : Addr → Prop} {α : Type} [DecidableEq α] {n : Nat} {e : α → PyData} (h : EqOk n e) (hn : n < 60) (hu : X.A.units + 64 < cLine) : MtR X "list.index" (rIdx mt X e) := by
  intro pins s σ H x vs v us Q I rx rvs q
  obtain ⟨y, xs, b, rfl, kx, ky, hb, q⟩ := q
  obtain ⟨a, ws, rfl, h1, h2⟩ := kB_lst kx
  obtain ⟨its, rv, hl, hz⟩ := I.list h1
  cases rx
  obtain ⟨u, rfl, ru⟩ := rvs.one
  obtain ⟨as, ra⟩ := Inv.readsB I ky ru
  have len : xs.length = ws.length := by rw [h2.length, List.length_map]
  have hd := h.depth b
  refine PySem.SeqAt.call_list_index (ks := xs) (k := b) hl.isList ⟨by rw [← rv.length, ← len], fun j h3 h4 => ?_⟩ (by rw [len]; exact hz) hb ⟨.int _, H, I.tok _, ⟨_, rfl⟩, q⟩
  obtain ⟨v, r1, r2⟩ := rep_at (u := its[j]) (d := e xs[j]) rv h2 (List.getElem?_eq_getElem h3) (by rw [List.getElem?_map, List.getElem?_eq_getElem h4]; rfl)
  obtain ⟨bs, rb⟩ := Inv.reads I r2 r1
  rw [← h.eqv]
  exact PySem.SeqAt.eqAt_plain _ _ X.A.in1 s _ _ _ _ rb ra (h.plain _) (h.plain _) (by show X.A.units + 1 + _ < _; omega)
def rCnt {α : Type} [DecidableEq α] (mt : Addr → Prop) (X : Cx) (e : α → PyData) : V → List V → Hp → VK → Prop := fun x vs H Q => ∃ y xs b, vs = [y] ∧ kB X.K X.w mt H H x (eLst e xs) ∧ kB X.K X.w mt H H y (e b) ∧ Q (.int (xs.countP fun y => decide (y = b) : Nat)) H
theorem mt_cnt {X : Cx} {mt : Addr → Prop} {α : Type} [DecidableEq α] {n : Nat} {e : α → PyData} (h : EqOk n e) (hn : n < 60) (hu : X.A.units + 64 < cLine) : MtR X "list.count" (rCnt mt X e) := by
  intro pins s σ H x vs v us Q I rx rvs q
  obtain ⟨y, xs, b, rfl, kx, ky, q⟩ := q
  obtain ⟨a, ws, rfl, h1, h2⟩ := kB_lst kx
  obtain ⟨its, rv, hl, hz⟩ := I.list h1
  cases rx
  obtain ⟨u, rfl, ru⟩ := rvs.one
  obtain ⟨as, ra⟩ := Inv.readsB I ky ru
  obtain ⟨bs, rb⟩ := Inv.readsAll I h2 rv
  have hd := h.depth b
  refine PySem.SeqAt.count_list_data (vs := its.toArray) hl.isList (by simpa using rb) ra (plainAll_map' h xs) (h.plain b) (by omega) ⟨.int _, H, I.tok _, ⟨_, rfl⟩, ?_⟩
  have e1 : ((xs.map e).countP fun y => PyData.eqv y (e b)) = xs.countP fun y => decide (y = b) := by
    rw [List.countP_map]
    congr 1
    funext y
    exact h.eqv y b
  rw [e1]
  exact q
section
variable {X : Cx} {m : Type → Type} [Monad m] [PyM m] {C : Wd X.K X.w m} {W : WX} {H0 : Hp} {R : Slots} {k : Kd} {α β γ ρ ε δ : Type} {ea : α → PyData} {eb : β → PyData} {er : ρ → PyData} {Rb : ε → Slots} {Rn : δ → Slots} {a b o e : Expr} {ma mb : m α} {mxs mys : m (List α)} {mi : m Int} {pos p p2 p3 : Pos} {n : Nat} {rest : List Stmt}
theorem se_index [DecidableEq α] (h : EqOk n ea) (hn : n < 60) (hu : X.A.units + 64 < cLine) (ho : SB X C W H0 R o (eLst ea) mxs) (ha : SB X C W H0 R a ea ma)
    (hbase : attributeBase o "index" X.env (eval o X.env) = eval o X.env)
    (hfew : ((backTo p3 (starEach (a :: []) X.env)).all (fun x => !x.1) && (backToKw p3 (keywordEach [] X.env)).all (fun x => x.1.isSome) && decide ((a :: ([] : List Expr)).length + ([] : List Keyword).length + (if ([] : List Keyword).isEmpty then 0 else 1) < 30)) = true)
    (hline : (p2.endLine == p3.line) = true) (hs : starEach (a :: []) X.env = (false, eval a X.env) :: starEach [] X.env) : SE X C W H0 R (.Call (.Attribute o "index" p2) [a] [] p3) eInt (mxs >>= fun xs => ma >>= fun i => fromO (idxG xs i)) :=
  .weak (pe_bm PySem.F.plainAttrs_list PySem.F.slot_list_index PySem.F.type_list_index (mt_idx (mt := C.mt) h hn hu) ho.run (pa_cons ha.run pa_nil hs) hbase hfew hline hs) fun σ H Q q => tR_imp (tR_bind kF_ok q) fun x H1 ⟨xs, e1, k1, q1⟩ => by
    obtain ⟨l, vs, hx, h1, h2⟩ := kB_lst (show kB X.K X.w C.mt H1 H1 x (eLst ea xs) from k1)
    subst hx
    refine ⟨.inl ⟨rfl, vs, h1⟩, tR_imp (tR_bind kF_ok q1) fun y H2 ⟨i, e2, k2, q2⟩ => ?_⟩
    obtain ⟨c, e, _, q⟩ := tR_done q2
    unfold idxG at e
    split at e
    · rename_i g
      cases e
      exact ⟨y, xs, i, rfl, kB.ext e2 (show kB X.K X.w C.mt H1 H1 _ (eLst ea xs) from k1), k2, g, q _ H2 (.refl H2) (.int _)⟩
    · cases e
theorem se_count [DecidableEq α] (h : EqOk n ea) (hn : n < 60) (hu : X.A.units + 64 < cLine) (ho : SB X C W H0 R o (eLst ea) mxs) (ha : SB X C W H0 R a ea ma)
    (hbase : attributeBase o "count" X.env (eval o X.env) = eval o X.env)
    (hfew : ((backTo p3 (starEach (a :: []) X.env)).all (fun x => !x.1) && (backToKw p3 (keywordEach [] X.env)).all (fun x => x.1.isSome) && decide ((a :: ([] : List Expr)).length + ([] : List Keyword).length + (if ([] : List Keyword).isEmpty then 0 else 1) < 30)) = true)
    (hline : (p2.endLine == p3.line) = true) (hs : starEach (a :: []) X.env = (false, eval a X.env) :: starEach [] X.env) : SE X C W H0 R (.Call (.Attribute o "count" p2) [a] [] p3) eInt (mxs >>= fun xs => ma >>= fun i => pure ((xs.countP fun y => decide (y = i) : Nat) : Int)) :=
  .weak (pe_bm PySem.F.plainAttrs_list PySem.F.slot_list_count PySem.F.type_list_count (mt_cnt (mt := C.mt) h hn hu) ho.run (pa_cons ha.run pa_nil hs) hbase hfew hline hs) fun σ H Q q => tR_imp (tR_bind kF_ok q) fun x H1 ⟨xs, e1, k1, q1⟩ => by
    obtain ⟨l, vs, hx, h1, h2⟩ := kB_lst (show kB X.K X.w C.mt H1 H1 x (eLst ea xs) from k1)
    subst hx
    refine ⟨.inl ⟨rfl, vs, h1⟩, tR_imp (tR_bind kF_ok q1) fun y H2 ⟨i, e2, k2, q2⟩ => ?_⟩
    exact ⟨y, xs, i, rfl, kB.ext e2 (show kB X.K X.w C.mt H1 H1 _ (eLst ea xs) from k1), k2, (tR_pure q2).2 _ H2 (.refl H2) (.int _)⟩
/-! ### x[i] = e, a list of one's own -/
def setG (xs : List α) (i : Int) (v : α) : Option (List α) := (ixN xs.length i).map fun j => xs.set j v
theorem map_set' (f : α → β) (xs : List α) (j : Nat) (v : α) : (xs.set j v).map f = (xs.map f).set j (f v) := by rw [List.map_set]
theorem sl_setI {i : Nat} {x : Str} {xs : List α} {f : List α → m (Out ρ ε δ)} {p1 : Pos} (hN : X.N[i]? = some x) (hv : Vis X.env.scope x) (hd : (x == ("__debug__" : Str)) = false) (hcd : (x == ("__classdict__" : Str)) = false)
    (hR : R[i]? = some (some (.own (xs.map ea)))) (ha : SE X C W H0 R e ea ma) (hb : SB X C W H0 R b eInt mi) (hr : ∀ ys : List α, SL X C W H0 (R.set i (some (.own (ys.map ea)))) rest er Rb Rn (f ys))
    (hs : swapsWithSole [.Subscript (.Name x p1) b p2] e pos.line X.env = pure false) (hw : swappedStores [.Subscript (.Name x p1) b p2] e X.env = pure none)
    (hasg : ∀ v, assign (.Subscript (.Name x p1) b p2) X.env v = (do
      let ov ← holding [v] (eval (.Name x p1) X.env)
      let iv ← holding [v, ov] (eval b X.env)
      standAt p2
      holding [v, ov, iv] (setItem ov iv v)
      release [v, ov, iv] []))
    (h1 : (assignEach [.Subscript (.Name x p1) b p2] X.env).map (·.2) = [assign (.Subscript (.Name x p1) b p2) X.env]) :
    SL X C W H0 R (.Assign [.Subscript (.Name x p1) b p2] e pos :: rest) er Rb Rn (ma >>= fun v => mi >>= fun i => fromO (setG xs i v) >>= f) :=
  ⟨(pss_cons (ps_asg ha.run (pg_sub (pe_var hN hv hd hcd) hb.run set_list hasg) hs hw h1)
      (u := fun D σ H => ∃ ys : List α, tS C W H0 (R.set i (some (.own (ys.map ea)))) er Rb Rn (f ys) D σ H) ⟨fun pins s σ H D I ⟨g, q⟩ => (hr g).run.run pins s σ H D I q⟩).weak fun D σ H q => by
    obtain ⟨s0, c0, _⟩ := id q
    obtain ⟨v0, hv', l, vs, rfl, hl, hrs, h0, hm⟩ := c0.slot i _ hR
    refine tS_bind (k := kF X.K X.w C.mt) (ea := ea) q fun a u H1 kv e1 _ q1 => ?_
    refine ⟨.ref l, hv', tS_bind (k := kB X.K X.w C.mt) (ea := eInt) q1 fun j z H2 kz e2 _ ⟨s, c, q2⟩ => ?_⟩
    cases (kB_int (show kB X.K X.w C.mt H2 H2 z (.int j) from kz))
    rw [PyM.run_bind, PyM.run_fromO] at q2
    have hl' := e2 l _ (e1 l _ hl (.inl hm)) (.inl hm)
    have len : vs.length = xs.length := by rw [hrs.length, List.length_map]
    unfold setG at q2
    cases hj : ixN xs.length j with
    | none => rw [hj] at q2; exact q2.elim
    | some j' =>
      rw [hj] at q2
      refine ⟨l, vs, j, j', rfl, rfl, hl', by rw [len]; exact hj, xs.set j' a, s, c.updO hR hv' hl' ?_, AfterS.mono (firms_upd' hl' (fun z => z)) q2⟩
      rw [map_set']
      exact Reps.set (Rep.firm e2.firms kv) j' (Reps.firm e2.firms (Reps.firm e1.firms hrs))⟩
/-! ### extend by a list that stands -/
theorem rd_of_kB {K : PySem.W.Frag} {w : World} {mt : Addr → Prop} {H : Hp} {v : V} {xs : List α} (h : kB K w mt H H v (eLst ea xs)) : ∃ l vs, v = .ref l ∧ Rd H l (.lst vs) ∧ Reps K w H vs (xs.map ea) := kB_rd h
def rExtR : V → List V → Hp → VK → Prop := fun x vs H Q => ∃ l b xs zs, x = .ref l ∧ vs = [.ref b] ∧ H l = some (.lst xs) ∧ Rd H b (.lst zs) ∧ xs.length + zs.length ≤ sizeLine ∧ Q .non (upd H l (.lst (xs ++ zs)))
theorem mt_extR : MtR X "list.extend" rExtR := by
  intro pins s σ H x vs v us Q I rx rv h
  obtain ⟨l, b, xs, zs, rfl, rfl, hH, hB, hz, q⟩ := h
  cases rx
  obtain ⟨u, rfl, ru⟩ := rv.one
  cases ru
  obtain ⟨z, its, n, r, hl, e⟩ := I.lstM hH
  obtain ⟨z2, its2, n2, r2, hl2, e2⟩ := I.rdL hB
  have hsz : its.toArray.size + its2.toArray.size ≤ sizeLine := by rw [List.size_toArray, List.size_toArray]; omega
  have hlong : ¬ (!its.toArray.isEmpty && Builtin.List.listTooLong (its.toArray.size + its2.toArray.size)) = true := by
    rw [notLongL hsz, Bool.and_false]
    exact Bool.false_ne_true
  refine call_meets F.slot_list_extend ⟨_, e, rfl⟩ F.entry_list_extend (F.args_list_extend_2 _ _)
    (AutoSeq1.list_extend_list_list_0 l its.toArray n b its2.toArray n2 hlong (by rw [List.size_toArray]; omega) (by omega)) ⟨e, e2, ?_⟩
  refine ⟨.non, _, I.lset (its' := its ++ its2) hH e (by simp) (r.append r2) ?_, rfl, q⟩
  rw [List.length_append]
  omega
theorem sl_extR {i : Nat} {x : Str} {xs : List α} {f : List α → m (Out ρ ε δ)} {p1 : Pos} (hN : X.N[i]? = some x) (hv : Vis X.env.scope x) (hd : (x == ("__debug__" : Str)) = false) (hcd : (x == ("__classdict__" : Str)) = false)
    (hR : R[i]? = some (some (.own (xs.map ea)))) (ha : SB X C W H0 R a (eLst ea) mys) (hr : ∀ ys : List α, SL X C W H0 (R.set i (some (.own (ys.map ea)))) rest er Rb Rn (f ys))
    (hbase : attributeBase (.Name x p1) "extend" X.env (eval (.Name x p1) X.env) = eval (.Name x p1) X.env)
    (hfew : ((backTo p3 (starEach (a :: []) X.env)).all (fun x => !x.1) && (backToKw p3 (keywordEach [] X.env)).all (fun x => x.1.isSome) && decide ((a :: ([] : List Expr)).length + ([] : List Keyword).length + (if ([] : List Keyword).isEmpty then 0 else 1) < 30)) = true)
    (hline : (p2.endLine == p3.line) = true) (hs : starEach (a :: []) X.env = (false, eval a X.env) :: starEach [] X.env) (hsw : swapsWith (.Call (.Attribute (.Name x p1) "extend" p2) [a] [] p3) none pos.line X.env = pure false) :
    SL X C W H0 R (.Expr (.Call (.Attribute (.Name x p1) "extend" p2) [a] [] p3) pos :: rest) er Rb Rn (mys >>= fun ys => fromO (catG xs ys) >>= f) :=
  ⟨(pss_cons (ps_expr (pe_bm PySem.F.plainAttrs_list PySem.F.slot_list_extend PySem.F.type_list_extend mt_extR (pe_var hN hv hd hcd) (pa_cons ha.run pa_nil hs) hbase hfew hline hs) hsw)
      (u := fun D σ H => ∃ ys : List α, tS C W H0 (R.set i (some (.own (ys.map ea)))) er Rb Rn (f ys) D σ H) ⟨fun pins s σ H D I ⟨g, q⟩ => (hr g).run.run pins s σ H D I q⟩).weak fun D σ H q => by
    obtain ⟨s0, c0, _⟩ := id q
    obtain ⟨v, hv', l, vs, rfl, hl, hrs, h0, hm⟩ := c0.slot i _ hR
    refine ⟨.ref l, hv', .inl ⟨rfl, vs, .of hl⟩, ?_⟩
    refine tS_bind (k := kB X.K X.w C.mt) (ea := eLst ea) q fun ys u H' kv e _ ⟨s, c, q⟩ => ?_
    obtain ⟨b, ws, rfl, h3, h4⟩ := kB_rd (show kB X.K X.w C.mt H' H' u (eLst ea ys) from kv)
    rw [PyM.run_bind, PyM.run_fromO] at q
    unfold catG at q
    have hl' := e l _ hl (.inl hm)
    have len : vs.length = xs.length := by rw [hrs.length, List.length_map]
    have len2 : ws.length = ys.length := by rw [h4.length, List.length_map]
    split at q
    · rename_i g
      refine ⟨l, b, vs, ws, rfl, rfl, hl', h3, by rw [sizeLine_eq, len, len2]; exact g, xs ++ ys, s, c.updO hR hv' hl' ?_, AfterS.mono (firms_upd' hl' (fun z => z)) q⟩
      rw [List.map_append]
      exact (Reps.firm e.firms hrs).append h4
    · exact q.elim⟩
/-! ### a list some times over -/
def repLG (xs : List α) (i : Int) : Option (List α) := if -1000000 ≤ i ∧ i ≤ 1000000 ∧ xs.length * i.toNat ≤ 16777216 then some (List.replicate i.toNat xs).flatten else none
theorem so_repL (ha : SO X C W H0 R a (eLst ea) mxs) (hb : SB X C W H0 R b eInt mi) : SO X C W H0 R (.BinOp a .Mult b pos) (eLst ea) (mxs >>= fun xs => mi >>= fun i => fromO (repLG xs i)) :=
  .weak (pe_op op_rep ha.run hb.run) fun σ H Q q => by
    obtain ⟨s0, c0, _⟩ := id q
    refine tR_imp (tR_bind kO_ok q) fun x H1 ⟨xs, e1, k1, q1⟩ => tR_imp (tR_bind kO_ok q1) fun y H2 ⟨i, e2, k2, q2⟩ => ?_
    obtain ⟨c, e, _, q⟩ := tR_done q2
    obtain ⟨l, vs, ds, rfl, h2, h3, h4, h5⟩ := k1
    have h2 : PyData.list (xs.map ea) = .list ds := h2
    injection h2 with h2
    subst h2
    unfold repLG at e
    split at e
    · rename_i g
      cases e
      have nm : ¬ C.mt l := fun z => by
        obtain ⟨o, ho, _⟩ := C.there _ _ _ c0.rel z
        rw [h5] at ho; cases ho
      have h3' := e2 l _ h3 (.inl nm)
      have len : vs.length = xs.length := by rw [h4.length, List.length_map]
      refine ⟨l, i, vs, rfl, kB_int k2, h3', by omega, by omega, by rw [sizeLine_eq, len]; exact g.2.2, fun p hp => q _ _ (Same.new hp) ⟨p, _, _, rfl, rfl, upd_same, ?_, hp⟩⟩
      rw [map_rep]
      exact Reps.firm (fun b o h _ => Same.new hp b o h) ((Reps.firm e2.firms h4).rep _)
    · cases e
end
end TT

namespace TT
open PyM (fromO)
open PySem PySem.Spec PyProof.Rows L2
/-! ### the same data under another type -/
section
variable {α β γ δ α' β' γ' δ' : Type} {ea : α → PyData} {eb : β → PyData} {ec : γ → PyData} {ed : δ → PyData} {ea' : α' → PyData} {eb' : β' → PyData} {ec' : γ' → PyData} {ed' : δ' → PyData}
theorem map_enc {g : α → α'} (h : ∀ a, ea' (g a) = ea a) (xs : List α) : (xs.map g).map ea' = xs.map ea := by
  rw [List.map_map]
  exact List.map_congr_left fun a _ => h a
theorem etup_map {g : α → α'} (h : ∀ a, ea' (g a) = ea a) (xs : List α) : eTup ea' (xs.map g) = eTup ea xs := congrArg PyData.tuple (map_enc h xs)
theorem elst_map {g : α → α'} (h : ∀ a, ea' (g a) = ea a) (xs : List α) : eLst ea' (xs.map g) = eLst ea xs := congrArg PyData.list (map_enc h xs)
theorem eopt_map {g : α → α'} (h : ∀ a, ea' (g a) = ea a) (x : Option α) : eOpt ea' (x.map g) = eOpt ea x := by
  cases x with
  | none => rfl
  | some a => exact h a
theorem et1_map {g : α → α'} (h : ∀ a, ea' (g a) = ea a) (p : α) : eT1 ea' (g p) = eT1 ea p := by unfold eT1; rw [h]
theorem et2_map {g : α → α'} {g2 : β → β'} (h : ∀ a, ea' (g a) = ea a) (h2 : ∀ a, eb' (g2 a) = eb a) (p : α × β) : eT2 ea' eb' (g p.1, g2 p.2) = eT2 ea eb p := by unfold eT2; rw [h, h2]
theorem et3_map {g : α → α'} {g2 : β → β'} {g3 : γ → γ'} (h : ∀ a, ea' (g a) = ea a) (h2 : ∀ a, eb' (g2 a) = eb a) (h3 : ∀ a, ec' (g3 a) = ec a) (p : α × β × γ) : eT3 ea' eb' ec' (g p.1, g2 p.2.1, g3 p.2.2) = eT3 ea eb ec p := by unfold eT3; rw [h, h2, h3]
theorem et4_map {g : α → α'} {g2 : β → β'} {g3 : γ → γ'} {g4 : δ → δ'} (h : ∀ a, ea' (g a) = ea a) (h2 : ∀ a, eb' (g2 a) = eb a) (h3 : ∀ a, ec' (g3 a) = ec a) (h4 : ∀ a, ed' (g4 a) = ed a) (p : α × β × γ × δ) : eT4 ea' eb' ec' ed' (g p.1, g2 p.2.1, g3 p.2.2.1, g4 p.2.2.2) = eT4 ea eb ec ed p := by unfold eT4; rw [h, h2, h3, h4]
end
section
variable {X : Cx} {m : Type → Type} [Monad m] [PyM m] {C : Wd X.K X.w m} {W : WX} {H0 : Hp} {R : Slots} {α β γ ζ ρ ε δ : Type} {er : ρ → PyData} {Rb : ε → Slots} {Rn : δ → Slots} {sts : List Stmt} {a : Expr} {pos p : Pos}
theorem SL.asc3 {me : m α} {f : α → m γ} {g : α → γ → m ζ} {k : ζ → m β} {r : β → m (Out ρ ε δ)} (h : SL X C W H0 R sts er Rb Rn (me >>= fun a => f a >>= fun b => g a b >>= fun c => k c >>= r)) : SL X C W H0 R sts er Rb Rn ((me >>= fun a => f a >>= fun b => g a b >>= k) >>= r) :=
  h.alike ((alike_assoc me _ r).trans (alike_bind fun a => (alike_assoc (f a) _ r).trans (alike_bind fun b => alike_assoc (g a b) k r)))
def rSumT (K : PySem.W.Frag) : List V → Hp → VK → Prop := fun vs H Q => ∃ (a : Addr) (ns : List Int), vs = [V.ref a] ∧ SqT K H a (ns.map V.int) ∧ Q (.int ns.sum) H
theorem cr_sumT (hc : X.calm = true) : CallR X (.builtin "sum") (rSumT X.K) := by
  intro pins s σ H vs us Q I r h
  obtain ⟨a, ns, rfl, hs, q⟩ := h
  obtain ⟨its, rv, ⟨o, ho, hcl, n, hd⟩, _⟩ := I.tuple hs
  rw [Vals.ref1 r]
  have hi : IntsAre its ns := rv.ints
  obtain ⟨xs, e⟩ := hi.allInts.items
  have hn : numsOf (intItems xs).toList = ns := by rw [← e]; exact hi.numsOf
  rw [nums_intItems] at hn
  refine PySem.W.ktm_sumG (I.ok.hd hc) ⟨o, ho, hcl, n, by rw [hd, e]⟩ fun h' tk t' hk => ?_
  rw [preSum_eq, List.take_of_length_le (by simp), hn]
  exact ⟨.int _, H, I.kept hk, ⟨_, rfl⟩, q⟩
theorem se_sumT {mn : m (List Int)} (hk : X.calm = true) (hg : Gl X "sum") (hm : X.mg "sum" = none) (ha : SB X C W H0 R a (eTup eInt) mn) (hs : starEach (a :: []) X.env = (false, eval a X.env) :: starEach [] X.env := by rfl) : SE X C W H0 R (.Call (.Name "sum" p) [a] [] pos) eInt (mn >>= fun ns => pure ns.sum) :=
  sx_callB kF_ok (cr_sumT hk) hg hm (by decide +kernel) (by decide) (by decide) ha (fun v σ H Q ns kv _ q => by
    obtain ⟨t, vs, rfl, h1, h2⟩ := kB_tup kv
    rw [reps_ints h2] at h1
    exact ⟨t, ns, rfl, h1, (tR_pure q).2 _ H (.refl H) (.int _)⟩) hs
/-- two tuples, part by part known -/
theorem se_catF {b : Expr} {ma : m α} {mb : m β} {ea : α → PyData} {eb : β → PyData} {ec : γ → PyData} {f : α → List PyData} {g : β → List PyData} {h : α → β → γ} (ha : SB X C W H0 R a ea ma) (hb : SB X C W H0 R b eb mb)
    (qa : ∀ x, ea x = .tuple (f x)) (qb : ∀ x, eb x = .tuple (g x)) (qc : ∀ x y, ec (h x y) = .tuple (f x ++ g y)) (hl : ∀ x y, (f x ++ g y).length ≤ 64) : SE X C W H0 R (.BinOp a .Add b pos) ec (ma >>= fun i => mb >>= fun j => pure (h i j)) :=
  sx_bin kF_ok op_catA ha hb fun x y σ H Q xs ys k1 k2 q => by
    obtain ⟨_, q⟩ := tR_pure q
    rw [qa] at k1
    rw [qb] at k2
    obtain ⟨s, vs, rfl, h1, h2⟩ := kB_tup k1
    obtain ⟨t, us, rfl, h3, h4⟩ := kB_tup k2
    have all := h2.append h4
    have l := hl xs ys
    rw [List.length_append, ← h2.length, ← h4.length] at l
    have done : ∀ {v : V} {H' : Hp}, Same H H' → Rep X.K X.w H' v (.tuple (f xs ++ g ys)) → Q v H' := fun s r => q _ _ s (by show Rep _ _ _ _ _; rw [qc]; exact r)
    refine ⟨s, t, vs, us, rfl, rfl, h1, h3, by rw [sizeLine_eq]; omega, fun z => ?_, fun _ z => ?_, fun _ _ p hp => ?_⟩
    · subst z
      exact done (.refl H) (.tup h3 all)
    · subst z
      rw [List.append_nil] at all
      exact done (.refl H) (.tup h1 all)
    · exact done (Same.new hp) (.tup (.of upd_same) (Reps.firm (fun b o h _ => Same.new hp b o h) all))
theorem se_tupU {x1} : SE X C W H0 R (.Tuple [] x1 pos) eNil (pure ()) :=
  .weak (pe_tup pa_nil) fun σ H Q z => ⟨small64 (Nat.zero_le _), fun p hp => (tR_pure z).2 _ _ (Same.new hp) (.tup (.of upd_same) .nil)⟩
end
end TT

namespace TT
open PyM (fromO)
open PySem PySem.Spec PyProof.Rows L2
/-! ### dicts: the mirror -/
section
variable {α β : Type} [DecidableEq α]
def dGet (kvs : List (α × β)) (k : α) : Option β := (kvs.find? fun p => decide (p.1 = k)).map (·.2)
def dHas (kvs : List (α × β)) (k : α) : Bool := kvs.any fun p => decide (p.1 = k)
def dPut (kvs : List (α × β)) (k : α) (v : β) : List (α × β) := if dHas kvs k = true then kvs.map (fun p => if p.1 = k then (p.1, v) else p) else kvs ++ [(k, v)]
/-- dict(ps) -/
def dOf (ps : List (α × β)) : List (α × β) := ps.foldl (fun d p => dPut d p.1 p.2) []
def dUpd (d ps : List (α × β)) : List (α × β) := ps.foldl (fun d p => dPut d p.1 p.2) d
theorem dHas_get (kvs : List (α × β)) (k : α) : dHas kvs k = (dGet kvs k).isSome := by
  unfold dHas dGet
  induction kvs with
  | nil => rfl
  | cons p kvs ih =>
    rw [List.any_cons, List.find?_cons]
    cases decide (p.1 = k) with
    | true => rfl
    | false => simpa using ih
theorem dPut_len (kvs : List (α × β)) (k : α) (v : β) : (dPut kvs k v).length ≤ kvs.length + 1 := by
  unfold dPut
  split
  · simp
  · simp
end
def eDct {α β : Type} (ea : α → PyData) (eb : β → PyData) : List (α × β) → PyData := fun kvs => .dict (kvs.map fun p => (ea p.1, eb p.2))
/-! ### keys -/
def kD : L2.Key → PyData
  | .inl i => .int i
  | .inr x => .str x
/-- a number or a text -/
structure KeyA {α : Type} (e : α → PyData) where
  k : α → L2.Key
  ok : ∀ a, e a = kD (k a)
  inj : ∀ a b, k a = k b → a = b
def ka_int : KeyA eInt := ⟨.inl, fun _ => rfl, fun _ _ h => Sum.inl.inj h⟩
def ka_str : KeyA eStr := ⟨.inr, fun _ => rfl, fun _ _ h => Sum.inr.inj h⟩
/-- parts of a tuple -/
structure Nst {α : Type} (n : Nat) (e : α → PyData) where
  k : α → NestedKey
  ok : ∀ a, nkOf (e a) = some (k a)
  inj : ∀ a b, k a = k b → a = b
  dep : ∀ a, (k a).depth ≤ n
def nst_int {n : Nat} : Nst n eInt := ⟨.num, fun _ => by simp [nkOf], fun _ _ h => by injection h, fun _ => Nat.zero_le _⟩
def nst_str {n : Nat} : Nst n eStr := ⟨.text, fun _ => by simp [nkOf], fun _ _ h => by injection h, fun _ => Nat.zero_le _⟩
def nst_bool {n : Nat} : Nst n eBool := ⟨fun b => .num (if b = true then 1 else 0), fun _ => by simp [nkOf], fun a b h => by
  injection h with h
  cases a <;> cases b <;> simp_all, fun _ => Nat.zero_le _⟩
section
variable {α β γ δ : Type} {ea : α → PyData} {eb : β → PyData} {ec : γ → PyData} {ed : δ → PyData} {n : Nat}
theorem nks_map (h : Nst n ea) : ∀ xs : List α, nksOf (xs.map ea) = some (xs.map h.k)
  | [] => by simp [nksOf]
  | x :: xs => by rw [List.map_cons, nksOf, h.ok, nks_map h xs]; rfl
theorem nks_inj (h : Nst n ea) : ∀ xs ys : List α, xs.map h.k = ys.map h.k → xs = ys
  | [], [], _ => rfl
  | [], _ :: _, e => by simp at e
  | _ :: _, [], e => by simp at e
  | x :: xs, y :: ys, e => by
    simp only [List.map_cons, List.cons.injEq] at e
    rw [h.inj _ _ e.1, nks_inj h xs ys e.2]
theorem nks_dep (h : Nst n ea) : ∀ xs : List α, NestedKey.depthAll (xs.map h.k) ≤ n
  | [] => Nat.zero_le _
  | x :: xs => by
    show max _ _ ≤ n
    exact Nat.max_le.mpr ⟨h.dep x, nks_dep h xs⟩
def nst_tup (h : Nst n ea) : Nst (n + 1) (eTup ea) := ⟨fun xs => .tup (xs.map h.k), fun xs => by simp only [eTup, nkOf, nks_map h]; rfl, fun a b e => by injection e with e; exact nks_inj h a b e, fun xs => by
  show NestedKey.depthAll _ + 1 ≤ n + 1
  have := nks_dep h xs
  omega⟩
def nst_t1 (h : Nst n ea) : Nst (n + 1) (eT1 ea) := ⟨fun p => .tup [h.k p], fun p => by simp only [eT1, nkOf, nksOf, h.ok]; rfl, fun a b e => by
  injection e with e; simp only [List.cons.injEq] at e; exact h.inj _ _ e.1, fun p => by
  have := h.dep p
  show NestedKey.depthAll _ + 1 ≤ _
  simp only [NestedKey.depthAll]
  omega⟩
def nst_t2 (h : Nst n ea) (h2 : Nst n eb) : Nst (n + 1) (eT2 ea eb) := ⟨fun p => .tup [h.k p.1, h2.k p.2], fun p => by simp only [eT2, nkOf, nksOf, h.ok, h2.ok]; rfl, fun a b e => by
  injection e with e; simp only [List.cons.injEq] at e; exact Prod.ext (h.inj _ _ e.1) (h2.inj _ _ e.2.1), fun p => by
  have := h.dep p.1
  have := h2.dep p.2
  show NestedKey.depthAll _ + 1 ≤ _
  simp only [NestedKey.depthAll]
  omega⟩
def nst_t3 (h : Nst n ea) (h2 : Nst n eb) (h3 : Nst n ec) : Nst (n + 1) (eT3 ea eb ec) := ⟨fun p => .tup [h.k p.1, h2.k p.2.1, h3.k p.2.2], fun p => by simp only [eT3, nkOf, nksOf, h.ok, h2.ok, h3.ok]; rfl, fun a b e => by
  injection e with e; simp only [List.cons.injEq] at e; exact Prod.ext (h.inj _ _ e.1) (Prod.ext (h2.inj _ _ e.2.1) (h3.inj _ _ e.2.2.1)), fun p => by
  have := h.dep p.1
  have := h2.dep p.2.1
  have := h3.dep p.2.2
  show NestedKey.depthAll _ + 1 ≤ _
  simp only [NestedKey.depthAll]
  omega⟩
end
/-- a tuple -/
structure KeyT {α : Type} (e : α → PyData) where
  n : Nst 8 e
  tup : ∀ a, ∃ ds, e a = .tuple ds
section
variable {α β γ δ : Type} {ea : α → PyData} {eb : β → PyData} {ec : γ → PyData}
def kt_tup (h : Nst 7 ea) : KeyT (eTup ea) := ⟨nst_tup h, fun _ => ⟨_, rfl⟩⟩
def kt_t1 (h : Nst 7 ea) : KeyT (eT1 ea) := ⟨nst_t1 h, fun _ => ⟨_, rfl⟩⟩
def kt_t2 (h : Nst 7 ea) (h2 : Nst 7 eb) : KeyT (eT2 ea eb) := ⟨nst_t2 h h2, fun _ => ⟨_, rfl⟩⟩
def kt_t3 (h : Nst 7 ea) (h2 : Nst 7 eb) (h3 : Nst 7 ec) : KeyT (eT3 ea eb ec) := ⟨nst_t3 h h2 h3, fun _ => ⟨_, rfl⟩⟩
end
inductive KeyC {α : Type} (e : α → PyData) : Type
  | a : KeyA e → KeyC e
  | t : KeyT e → KeyC e

def keyN : L2.Key → NestedKey
  | .inl i => .num i
  | .inr x => .text x
theorem nkOf_kD (q : L2.Key) : nkOf (kD q) = some (keyN q) := by cases q <;> simp [nkOf, kD, keyN]
theorem keyN_inj {a b : L2.Key} (h : keyN a = keyN b) : a = b := by
  cases a <;> cases b <;> simp_all [keyN]
theorem keyN_h (w : World) (q : L2.Key) : (keyN q).hash w = keyH w q := by cases q <;> rfl
/-! ### the entries: the key, its value, the value -/
abbrev Trip := NestedKey × Value × Value
def atT (ys : List Trip) (k : NestedKey) : Option Value := (ys.find? fun y => decide (y.1 = k)).map (·.2.2)
def putT (ys : List Trip) (k : NestedKey) (kv v : Value) : List Trip := if (ys.any fun y => decide (y.1 = k)) = true then ys.map (fun y => if y.1 = k then (y.1, y.2.1, v) else y) else ys ++ [(k, kv, v)]
def putsT (ys zs : List Trip) : List Trip := zs.foldl (fun acc z => putT acc z.1 z.2.1 z.2.2) ys
theorem anyT_at (ys : List Trip) (k : NestedKey) : (ys.any fun y => decide (y.1 = k)) = (atT ys k).isSome := by
  unfold atT
  induction ys with
  | nil => rfl
  | cons p ys ih =>
    rw [List.any_cons, List.find?_cons]
    cases decide (p.1 = k) with
    | true => rfl
    | false => simpa using ih
theorem putT_len (ys : List Trip) (k : NestedKey) (kv v : Value) : (putT ys k kv v).length ≤ ys.length + 1 := by
  unfold putT
  split
  · simp
  · simp
/-- what they tell -/
def DRel (K : PySem.W.Frag) (w : World) (H : Hp) {α β : Type} (ky : α → NestedKey) (ea : α → PyData) (eb : β → PyData) (ys : List Trip) (kvs : List (α × β)) : Prop := Paired (fun (y : Trip) (p : α × β) => y.1 = ky p.1 ∧ (∃ v, RelV v y.2.1 ∧ Rep K w H v (ea p.1)) ∧ ∃ v, RelV v y.2.2 ∧ Rep K w H v (eb p.2)) ys kvs
section
variable {K : PySem.W.Frag} {w : World} {H H' : Hp} {α β : Type} [DecidableEq α] {ea : α → PyData} {eb : β → PyData} {ky : α → NestedKey}
theorem DRel.len {ys : List Trip} {kvs : List (α × β)} (r : DRel K w H ky ea eb ys kvs) : ys.length = kvs.length := Paired.length r
theorem drel_get (inj : ∀ a b, ky a = ky b → a = b) (k : α) : ∀ {ys : List Trip} {kvs : List (α × β)}, DRel K w H ky ea eb ys kvs → match dGet kvs k with
    | some b => ∃ u v, atT ys (ky k) = some u ∧ RelV v u ∧ Rep K w H v (eb b)
    | none => atT ys (ky k) = none
  | [], [], .nil => rfl
  | y :: ys, p :: kvs, .cons ⟨h1, _, v, h2, h3⟩ t => by
    have ih := drel_get inj k t
    unfold dGet atT at *
    rw [List.find?_cons, List.find?_cons, h1]
    by_cases z : p.1 = k
    · subst z
      simp only [decide_true, Option.map_some]
      exact ⟨_, v, rfl, h2, h3⟩
    · have z' : ¬ ky p.1 = ky k := fun e => z (inj _ _ e)
      simp only [decide_eq_false z, decide_eq_false z']
      exact ih
theorem drel_some (inj : ∀ a b, ky a = ky b → a = b) (k : α) {ys : List Trip} {kvs : List (α × β)} (r : DRel K w H ky ea eb ys kvs) : (atT ys (ky k)).isSome = dHas kvs k := by
  have := drel_get inj k r
  rw [dHas_get]
  cases h : dGet kvs k with
  | some b =>
    rw [h] at this
    obtain ⟨u, v, h1, _⟩ := this
    rw [h1]; rfl
  | none =>
    rw [h] at this
    rw [this]; rfl
theorem drel_map (inj : ∀ a b, ky a = ky b → a = b) (k : α) {u : Value} {v : V} {b : β} (ru : RelV v u) (rb : Rep K w H v (eb b)) : ∀ {ys : List Trip} {kvs : List (α × β)}, DRel K w H ky ea eb ys kvs → DRel K w H ky ea eb (ys.map fun y => if y.1 = ky k then (y.1, y.2.1, u) else y) (kvs.map fun p => if p.1 = k then (p.1, b) else p)
  | [], [], .nil => .nil
  | y :: ys, p :: kvs, .cons ⟨h1, hk, v', h2, h3⟩ t => by
    refine .cons ?_ (drel_map inj k ru rb t)
    by_cases z : p.1 = k
    · have z' : y.1 = ky k := by rw [h1, z]
      simp only [if_pos z, if_pos z']
      exact ⟨h1, hk, v, ru, rb⟩
    · have z' : ¬ y.1 = ky k := fun e => z (inj _ _ (by rw [← h1, e]))
      simp only [if_neg z, if_neg z']
      exact ⟨h1, hk, v', h2, h3⟩
theorem DRel.append {ys zs : List Trip} {kvs lvs : List (α × β)} (r : DRel K w H ky ea eb ys kvs) (r' : DRel K w H ky ea eb zs lvs) : DRel K w H ky ea eb (ys ++ zs) (kvs ++ lvs) := by
  unfold DRel at *
  induction r with
  | nil => exact r'
  | cons h _ ih => exact .cons h ih
theorem drel_put (inj : ∀ a b, ky a = ky b → a = b) {ys : List Trip} {kvs : List (α × β)} (r : DRel K w H ky ea eb ys kvs) (k : α) {ku u : Value} {kv v : V} {b : β} (rk : RelV kv ku) (rka : Rep K w H kv (ea k)) (ru : RelV v u) (rb : Rep K w H v (eb b)) : DRel K w H ky ea eb (putT ys (ky k) ku u) (dPut kvs k b) := by
  unfold putT dPut
  rw [anyT_at, drel_some inj k r]
  cases dHas kvs k with
  | true => exact drel_map inj k ru rb r
  | false => exact r.append (.cons ⟨rfl, ⟨_, rk, rka⟩, v, ru, rb⟩ .nil)
theorem drel_puts (inj : ∀ a b, ky a = ky b → a = b) : ∀ {zs : List Trip} {lvs : List (α × β)} {ys : List Trip} {kvs : List (α × β)}, DRel K w H ky ea eb zs lvs → DRel K w H ky ea eb ys kvs → DRel K w H ky ea eb (putsT ys zs) (dUpd kvs lvs)
  | [], [], _, _, .nil, r => r
  | z :: zs, p :: lvs, ys, kvs, .cons ⟨h1, ⟨_, h2, h3⟩, _, h4, h5⟩ t, r => by
    show DRel K w H ky ea eb (putsT (putT ys z.1 z.2.1 z.2.2) zs) (dUpd (dPut kvs p.1 p.2) lvs)
    rw [h1]
    exact drel_puts inj t (drel_put inj r p.1 h2 h3 h4 h5)
theorem DRel.firm (f : Firms H H') {ys : List Trip} {kvs : List (α × β)} (r : DRel K w H ky ea eb ys kvs) : DRel K w H' ky ea eb ys kvs := by
  unfold DRel at *
  exact Paired.mapP r fun _ _ ⟨h1, ⟨u, g1, g2⟩, v, h2, h3⟩ => ⟨h1, ⟨u, g1, Rep.firm f g2⟩, v, h2, Rep.firm f h3⟩
theorem rep_kD {v : V} {u : Value} {q : L2.Key} (r : Rep K w H v (kD q)) (h : RelV v u) : keyIs q u = true := by
  cases q with
  | inl i =>
    cases (show Rep K w H v (.int i) from r)
    obtain ⟨t, rfl⟩ := h
    exact keyIs_int i t
  | inr x =>
    cases (show Rep K w H v (.str x) from r)
    obtain ⟨t, rfl⟩ := h
    exact keyIs_str x t
theorem of_keyIs {u : Value} {q : L2.Key} (h : keyIs q u = true) : ∃ v, RelV v u ∧ Rep K w H v (kD q) := by
  rcases keyIs_shape h with ⟨i, t, rfl, rfl⟩ | ⟨x, t, rfl, rfl⟩
  · exact ⟨.int i, ⟨t, rfl⟩, .int i⟩
  · exact ⟨.str x, ⟨t, rfl⟩, .str x⟩
end
/-! a value that is a key, as the model has it -/
section
variable {X : Cx} {pins : List (Addr × Obj)} {σ : L2.St} {H : Hp} {s : Shared}
mutual
theorem nested_of (I : Inv X pins σ H s) : ∀ {v : V} {d : PyData} {u : Value} {k : NestedKey}, Rep X.K X.w H v d → RelV v u → nkOf d = some k → NestedIs s.heap k u
  | _, _, _, _, .non, r, e => by
    cases r
    rw [nkOf] at e; cases e
    exact .none
  | _, _, _, _, .bl b, r, e => by
    cases r
    rw [nkOf] at e; cases e
    exact .bool rfl
  | _, _, _, _, .int i, r, e => by
    obtain ⟨t, rfl⟩ := r
    rw [nkOf] at e; cases e
    exact .int i t
  | _, _, _, _, .str x, r, e => by
    obtain ⟨t, rfl⟩ := r
    rw [nkOf] at e; cases e
    exact .text x t
  | _, _, _, _, .tup h t, r, e => by
    cases r
    obtain ⟨its, rv, ⟨o, ho, hc, n, hd⟩, _⟩ := I.tuple h
    rw [nkOf] at e
    obtain ⟨ks, e1, rfl⟩ := Option.map_eq_some_iff.mp e
    exact .tup ho hc hd (by simpa using nested_all I t rv e1)
  | _, _, _, _, .lst _ _, _, e => by rw [nkOf] at e; cases e
  | _, _, _, _, .dct _ _ _ _ _ _ _, _, e => by rw [nkOf] at e; cases e
theorem nested_all (I : Inv X pins σ H s) : ∀ {vs : List V} {ds : List PyData} {us : List Value} {ks : List NestedKey}, Reps X.K X.w H vs ds → Vals vs us → nksOf ds = some ks → NestedAll s.heap ks us
  | _, _, _, _, .nil, r, e => by
    cases r
    rw [nksOf] at e; cases e
    exact .nil
  | _, _, _, _, .cons h t, r, e => by
    cases r with
    | cons r1 r2 =>
      rw [nksOf] at e
      split at e
      · rename_i k ks e1 e2
        cases e
        exact .cons (nested_of I h r1 e1) (nested_all I t r2 e2)
      · cases e
end
end
/-! ### what a kind of keys gives -/
def Src (s : Shared) (n : Nat) (Rel : Nat → Value → Value → Prop) (Is : Heap → NestedKey → Value → Prop) (zs : List Trip) : Prop := zs.length = n ∧ (∀ i key v, Rel i key v → ∃ y, zs[i]? = some y ∧ y.2.1 = key ∧ y.2.2 = v) ∧ ∀ y ∈ zs, Is s.heap y.1 y.2.1
structure DKit (X : Cx) {α : Type} (ea : α → PyData) where
  ky : α → NestedKey
  inj : ∀ a b, ky a = ky b → a = b
  ok : ∀ a, nkOf (ea a) = some (ky a)
  Is : Heap → NestedKey → Value → Prop
  Of : Heap → Addr → List Trip → Prop
  is : ∀ {pins : List (Addr × Obj)} {σ : L2.St} {H : Hp} {s : Shared} {v : V} {u : Value} {a : α}, Inv X pins σ H s → Rep X.K X.w H v (ea a) → RelV v u → Is s.heap (ky a) u
  ent : ∀ {pins : List (Addr × Obj)} {σ : L2.St} {H : Hp} {s : Shared} {β : Type} {eb : β → PyData} {a : Addr} {o : Obj} {ents : List (NestedKey × V × V)} {kvs : List (α × β)}, Inv X pins σ H s → s.heap.get? a = some o → DObj X.w o ents →
    kvs.map (fun p => nkOf (ea p.1)) = ents.map (fun x => some x.1) → Reps X.K X.w H (ents.map (fun x => x.2.1)) (kvs.map fun p => ea p.1) → Reps X.K X.w H (ents.map (fun x => x.2.2)) (kvs.map fun p => eb p.2) →
    ∃ ys, Of s.heap a ys ∧ DRel X.K X.w H ky ea eb ys kvs
  obj : ∀ {h : Heap} {H : Hp} {β : Type} {eb : β → PyData} {a : Addr} {ys : List Trip} {kvs : List (α × β)}, Of h a ys → DRel X.K X.w H ky ea eb ys kvs →
    ∃ o ents, h.get? a = some o ∧ DObj X.w o ents ∧ kvs.map (fun p => nkOf (ea p.1)) = ents.map (fun x => some x.1) ∧ Reps X.K X.w H (ents.map (fun x => x.2.1)) (kvs.map fun p => ea p.1) ∧ Reps X.K X.w H (ents.map (fun x => x.2.2)) (kvs.map fun p => eb p.2)
  new : ∀ (h : Heap), Of (h.push { cls := .type "dict", data := .dict #[] }) h.objs.size []
  get : ∀ {A : Around} {E : Value → Shared → Prop} {s : Shared} {d : Addr} {k : NestedKey} {u v : Value} {ys : List Trip} {Q : Value → Shared → Prop}, A.units + 16 < cLine → (d == sysModules) = false → Is s.heap k u → Of s.heap d ys → atT ys k = some v → (∀ t, Q v { s with toks := t }) → wpAny (model X.prog X.w) A (getItem (.ref d) u) Q E s
  isin : ∀ {A : Around} {E : Value → Shared → Prop} {s : Shared} {d : Addr} {k : NestedKey} {u : Value} {ys : List Trip} {Q : Value → Shared → Prop}, A.units + 16 < cLine → (d == sysModules) = false → Is s.heap k u → Of s.heap d ys → (∀ t, Q (.bool (atT ys k).isSome) { s with toks := t }) → wpAny (model X.prog X.w) A (compareOp .In u (.ref d)) Q E s
  notin : ∀ {A : Around} {E : Value → Shared → Prop} {s : Shared} {d : Addr} {k : NestedKey} {u : Value} {ys : List Trip} {Q : Value → Shared → Prop}, A.units + 16 < cLine → (d == sysModules) = false → Is s.heap k u → Of s.heap d ys → (∀ t, Q (.bool (!(atT ys k).isSome)) { s with toks := t }) → wpAny (model X.prog X.w) A (compareOp .NotIn u (.ref d)) Q E s
  get1 : ∀ {A : Around} {E : Value → Shared → Prop} {s : Shared} {d : Addr} {k : NestedKey} {u : Value} {ys : List Trip} {Q : Value → Shared → Prop}, A.units + 16 < cLine → (d == sysModules) = false → Is s.heap k u → Of s.heap d ys → (∀ t, Q ((atT ys k).getD .none) { s with toks := t }) → wpAny (model X.prog X.w) A (call (.builtin "dict.get") [.ref d, u]) Q E s
  get2 : ∀ {A : Around} {E : Value → Shared → Prop} {s : Shared} {d : Addr} {k : NestedKey} {u x : Value} {ys : List Trip} {Q : Value → Shared → Prop}, A.units + 16 < cLine → (d == sysModules) = false → Is s.heap k u → Of s.heap d ys → (∀ t, Q ((atT ys k).getD x) { s with toks := t }) → wpAny (model X.prog X.w) A (call (.builtin "dict.get") [.ref d, u, x]) Q E s
  put : ∀ {A : Around} {E : Value → Shared → Prop} {s : Shared} {d : Addr} {k : NestedKey} {u v : Value} {ys : List Trip} {Q : Unit → Shared → Prop}, A.units + 16 < cLine → Is s.heap k u → Of s.heap d ys → ys.length ≤ sizeLine → (∀ h' t, Of h' d (putT ys k u v) → Heap.SameBut d s.heap h' → Q () { s with heap := h', toks := t }) → wpAny (model X.prog X.w) A (setItem (.ref d) u v) Q E s
  pairs : ∀ {A : Around} {E : Value → Shared → Prop} {s : Shared} {T : String} {a : Addr} {fp : List Addr} {n : Nat} {Rel : Nat → Value → Value → Prop} {OK : Heap → Prop} {zs : List Trip} {Q : Value → Shared → Prop}, PairArg X.prog X.w T a fp [] n Rel OK → A.handled = none → A.units + 16 < cLine → OK s.heap → Src s n Rel Is zs → n ≤ sizeLine →
    (∀ h' t, Of h' s.heap.objs.size (putsT [] zs) → (∀ b o, s.heap.get? b = some o → h'.get? b = some o) → Q (.ref s.heap.objs.size) { s with heap := h', toks := t }) → wpAny (model X.prog X.w) A (call (.type "dict") [.ref a]) Q E s
  upd : ∀ {A : Around} {E : Value → Shared → Prop} {s : Shared} {T : String} {a d : Addr} {fp : List Addr} {n : Nat} {Rel : Nat → Value → Value → Prop} {OK : Heap → Prop} {ys zs : List Trip} {Q : Value → Shared → Prop}, PairArg X.prog X.w T a fp [] n Rel OK → A.handled = none → A.units + 16 < cLine → OK s.heap → d ∉ fp → Src s n Rel Is zs → Of s.heap d ys → ys.length + n ≤ sizeLine →
    (∀ h' t, Of h' d (putsT ys zs) → (∀ b o, b ≠ d → s.heap.get? b = some o → h'.get? b = some o) → Q .none { s with heap := h', toks := t }) → wpAny (model X.prog X.w) A (call (.builtin "dict.update") [.ref d, .ref a]) Q E s
  len : ∀ {A : Around} {E : Value → Shared → Prop} {s : Shared} {d : Addr} {ys : List Trip} {Q : Value → Shared → Prop}, (d == sysModules) = false → Of s.heap d ys → ys.length ≤ sizeLine → (∀ t t', Q (.int ys.length t) { s with toks := t' }) → wpAny (model X.prog X.w) A (call (.builtin "len") [.ref d]) Q E s
  disp : ∀ {A : Around} {E : Value → Shared → Prop} {s : Shared} {env : Env} {keys : List (Option Expr)} {values : List Expr} {pos : Pos} {Q : Value → Shared → Prop}, A.units + 16 < cLine → keys.all (·.isSome) = true → keys.length = values.length → keys ≠ [] → keys.length ≤ 15 →
    wpAny (model X.prog X.w) A (evalPairs (pairTrees keys values env pos)) (fun vs s1 => ∃ zs : List Trip, vs = zs.map (fun z => (z.2.1, z.2.2)) ∧ (∀ z ∈ zs, Is s1.heap z.1 z.2.1) ∧ Of s1.heap s.heap.objs.size [] ∧
      ∀ h' t, Of h' s.heap.objs.size (putsT [] zs) → Heap.SameBut s.heap.objs.size s1.heap h' → Q (.ref s.heap.objs.size) { s1 with heap := h', toks := t }) E { s with heap := s.heap.push { cls := .type "dict", data := .dict #[] } } →
    wpAny (model X.prog X.w) A (eval (.Dict keys values pos) env) Q E s
end TT

namespace TT
open PyM (fromO)
open PySem PySem.Spec PyProof.Rows L2
/-! ### keys of one number or text -/
abbrev PA : Trip → L2.Key × Value → Prop := fun y kv => y.1 = keyN kv.1 ∧ y.2.2 = kv.2
theorem pa_at (q : L2.Key) : ∀ {ys : List Trip} {kvs : List (L2.Key × Value)}, Paired PA ys kvs → atT ys (keyN q) = valueAt kvs q
  | [], [], .nil => rfl
  | y :: ys, p :: kvs, .cons ⟨h1, h2⟩ t => by
    have ih := pa_at q t
    unfold atT valueAt at *
    rw [List.find?_cons, List.find?_cons, h1]
    by_cases z : p.1 = q
    · subst z
      simp only [decide_true, Option.map_some, h2]
    · have z' : ¬ keyN p.1 = keyN q := fun e => z (keyN_inj e)
      simp only [decide_eq_false z, decide_eq_false z']
      exact ih
theorem pa_some (q : L2.Key) {ys : List Trip} {kvs : List (L2.Key × Value)} (h : Paired PA ys kvs) : (ys.any fun y => decide (y.1 = keyN q)) = (kvs.any fun kv => decide (kv.1 = q)) := by
  induction h with
  | nil => rfl
  | cons h _ ih =>
    rw [List.any_cons, List.any_cons, ih, h.1]
    congr 1
    exact decide_eq_decide.mpr ⟨keyN_inj, fun e => by rw [e]⟩
theorem pa_map (q : L2.Key) (u : Value) {ys : List Trip} {kvs : List (L2.Key × Value)} (h : Paired PA ys kvs) : Paired PA (ys.map fun y => if y.1 = keyN q then (y.1, y.2.1, u) else y) (kvs.map fun kv => if kv.1 = q then (kv.1, u) else kv) := by
  induction h with
  | nil => exact .nil
  | cons h _ ih =>
    rename_i y p _ _ _
    refine .cons ?_ ih
    by_cases z : p.1 = q
    · have z' : y.1 = keyN q := by rw [h.1, z]
      simp only [if_pos z, if_pos z']
      exact ⟨h.1, rfl⟩
    · have z' : ¬ y.1 = keyN q := fun e => z (keyN_inj (by rw [← h.1, e]))
      simp only [if_neg z, if_neg z']
      exact h
theorem paired_app {α β : Type} {F : α → β → Prop} {as bs : List α} {cs ds : List β} (h : Paired F as cs) (g : Paired F bs ds) : Paired F (as ++ bs) (cs ++ ds) := by
  induction h with
  | nil => exact g
  | cons h _ ih => exact .cons h ih
theorem pa_put (q : L2.Key) (kv u : Value) {ys : List Trip} {kvs : List (L2.Key × Value)} (h : Paired PA ys kvs) : Paired PA (putT ys (keyN q) kv u) (stored kvs q u) := by
  unfold putT stored
  rw [pa_some q h]
  split
  · exact pa_map q u h
  · exact paired_app h (.cons ⟨rfl, rfl⟩ .nil)
theorem pa_puts : ∀ {zs : List Trip} {more : List (L2.Key × Value)} {ys : List Trip} {kvs : List (L2.Key × Value)}, Paired PA zs more → Paired PA ys kvs → Paired PA (putsT ys zs) (merged kvs more)
  | [], [], _, _, .nil, r => r
  | z :: zs, p :: more, ys, kvs, .cons ⟨h1, h2⟩ t, r => by
    show Paired PA (putsT (putT ys z.1 z.2.1 z.2.2) zs) (merged (stored kvs p.1 p.2) more)
    rw [h1, h2]
    exact pa_puts t (pa_put p.1 _ _ r)
theorem pa_of {P : List Trip} {Is : NestedKey → Value → Prop} (f : ∀ k u, Is k u → ∃ q, k = keyN q ∧ keyIs q u = true) : ∀ {zs : List Trip}, (∀ y ∈ zs, Is y.1 y.2.1) → ∃ kvs : List (L2.Key × Value), Paired PA zs kvs ∧ ∀ (i : Nat) (y : Trip), zs[i]? = some y → ∃ q, kvs[i]? = some (q, y.2.2) ∧ keyIs q y.2.1 = true
  | [], _ => ⟨[], .nil, fun i y e => by simp at e⟩
  | z :: zs, h => by
    obtain ⟨kvs, h1, h2⟩ := pa_of (P := P) f (zs := zs) fun y hy => h y (List.mem_cons_of_mem _ hy)
    obtain ⟨q, e1, e2⟩ := f _ _ (h z List.mem_cons_self)
    refine ⟨(q, z.2.2) :: kvs, .cons ⟨e1, rfl⟩ h1, fun i y e => ?_⟩
    cases i with
    | zero =>
      have : z = y := by simpa using e
      subst this
      exact ⟨q, rfl, e2⟩
    | succ i =>
      obtain ⟨q', g1, g2⟩ := h2 i y (by simpa using e)
      exact ⟨q', by simpa using g1, g2⟩
section
variable {K : PySem.W.Frag} {w : World} {H H' : Hp} {α β : Type} {ea : α → PyData} {eb : β → PyData} {kA : α → L2.Key} {P : Program}
theorem entsA (h : ∀ a, ea a = kD (kA a)) : ∀ {es : List DictEntry} {ents : List (NestedKey × V × V)} {kvs : List (α × β)}, Paired (fun (e : DictEntry) (x : NestedKey × V × V) => e.hash = x.1.hash w ∧ RelV x.2.1 e.key ∧ RelV x.2.2 e.val) es ents →
    kvs.map (fun p => nkOf (ea p.1)) = ents.map (fun x => some x.1) → Reps K w H (ents.map (fun x => x.2.1)) (kvs.map fun p => ea p.1) → Reps K w H (ents.map (fun x => x.2.2)) (kvs.map fun p => eb p.2) →
    ∃ (xs : List (L2.Key × Value)) (ys : List Trip), Pairs (mixKind P w) es xs ∧ Paired PA ys xs ∧ DRel K w H (fun a => keyN (kA a)) ea eb ys kvs ∧ (∀ e ∈ es, ∃ k, (mixKind P w).is k e.key = true ∧ e.hash = (mixKind P w).hash k) ∧ xs.map (fun x => keyN x.1) = ents.map (·.1)
  | [], [], [], .nil, _, _, _ => ⟨[], [], .nil, .nil, .nil, by simp, rfl⟩
  | e :: es, x :: ents, p :: kvs, .cons ⟨h1, h2, h3⟩ t, hk, rk, rv => by
    cases rk with
    | cons rk1 rk2 =>
      cases rv with
      | cons rv1 rv2 =>
        simp only [List.map_cons, List.cons.injEq] at hk
        obtain ⟨xs, ys, a1, a2, a5, a3, a4⟩ := entsA h t hk.2 rk2 rv2
        have e1 := hk.1
        rw [h, nkOf_kD] at e1
        have e1 : keyN (kA p.1) = x.1 := Option.some.inj e1
        have rk0 : Rep K w H x.2.1 (ea p.1) := rk1
        have rk1 : Rep K w H x.2.1 (ea p.1) := rk1
        rw [h] at rk1
        have is1 := rep_kD rk1 h2
        refine ⟨(kA p.1, e.val) :: xs, (keyN (kA p.1), e.key, e.val) :: ys, .cons is1 rfl a1, .cons ⟨rfl, rfl⟩ a2, .cons ⟨rfl, ⟨_, h2, rk0⟩, _, h3, rv1⟩ a5, ?_, by rw [List.map_cons, List.map_cons, a4, e1]⟩
        intro e' he'
        rcases List.mem_cons.mp he' with rfl | he'
        · exact ⟨kA p.1, is1, by rw [h1, ← e1, keyN_h]; rfl⟩
        · exact a3 e' he'
  | [], [], _ :: _, .nil, hk, _, _ => by simp at hk
  | _ :: _, _ :: _, [], .cons _ _, hk, _, _ => by simp at hk
theorem backA (h : ∀ a, ea a = kD (kA a)) : ∀ {es : List DictEntry} {xs : List (L2.Key × Value)} {ys : List Trip} {kvs : List (α × β)}, Pairs (mixKind P w) es xs → (∀ e ∈ es, ∃ k, (mixKind P w).is k e.key = true ∧ e.hash = (mixKind P w).hash k) → Paired PA ys xs → DRel K w H (fun a => keyN (kA a)) ea eb ys kvs →
    ∃ ents : List (NestedKey × V × V), Paired (fun (e : DictEntry) (x : NestedKey × V × V) => e.hash = x.1.hash w ∧ RelV x.2.1 e.key ∧ RelV x.2.2 e.val) es ents ∧ kvs.map (fun p => nkOf (ea p.1)) = ents.map (fun x => some x.1) ∧ Reps K w H (ents.map (fun x => x.2.1)) (kvs.map fun p => ea p.1) ∧ Reps K w H (ents.map (fun x => x.2.2)) (kvs.map fun p => eb p.2) ∧ ents.map (·.1) = xs.map (fun x => keyN x.1)
  | [], [], [], [], .nil, _, _, _ => ⟨[], .nil, rfl, .nil, .nil, rfl⟩
  | e :: es, x :: xs, y :: ys, p :: kvs, .cons i1 e1 t, hk, .cons ⟨g1, g2⟩ t3, .cons ⟨q1, _, v, q2, q3⟩ t2 => by
    obtain ⟨ents, a1, a2, a3, a4, a5⟩ := backA h t (fun e' he' => hk e' (List.mem_cons_of_mem _ he')) t3 t2
    obtain ⟨k, k1, k2⟩ := hk e List.mem_cons_self
    have ek : k = x.1 := (mixKind P w).inj _ _ _ k1 i1
    have ex : x.1 = kA p.1 := keyN_inj (g1.symm.trans q1)
    obtain ⟨kv, r1, r2⟩ := of_keyIs (K := K) (w := w) (H := H) i1
    refine ⟨(keyN x.1, kv, v) :: ents, .cons ⟨by rw [k2, ek]; exact (keyN_h _ _).symm, r1, by rw [e1, ← g2]; exact q2⟩ a1, ?_, .cons ?_ a3, .cons q3 a4, by rw [List.map_cons, List.map_cons, a5]⟩
    · rw [List.map_cons, List.map_cons, a2, h, nkOf_kD, ex]
    · show Rep K w H kv (ea p.1)
      rw [h, ← ex]
      exact r2
end
theorem nodup_keyN {xs : List (L2.Key × Value)} : (xs.map (fun x => keyN x.1)).Nodup ↔ (xs.map (·.1)).Nodup := by
  have : xs.map (fun x => keyN x.1) = (xs.map (·.1)).map keyN := by rw [List.map_map]; rfl
  rw [this]
  exact ⟨List.Pairwise.of_map keyN (fun _ _ h e => h (by rw [e])), fun nd => nd.map keyN fun _ _ h e => h (keyN_inj e)⟩
theorem carries_pa {P : Program} {w : World} : ∀ {zs : List Trip} {kvs : List (L2.Key × Value)}, Paired PA zs kvs → (∀ (i : Nat) (y : Trip), zs[i]? = some y → ∃ q, kvs[i]? = some (q, y.2.2) ∧ keyIs q y.2.1 = true) → Carries (mixKind P w) (zs.map fun z => (z.2.1, z.2.2)) kvs
  | [], [], .nil, _ => trivial
  | z :: zs, p :: kvs, .cons ⟨h1, h2⟩ t, h => by
    obtain ⟨q, e1, e2⟩ := h 0 z rfl
    have e1 : p = (q, z.2.2) := by simpa using e1
    subst e1
    exact ⟨e2, rfl, carries_pa t fun i y e => by
      obtain ⟨q', g1, g2⟩ := h (i + 1) y (by simpa using e)
      exact ⟨q', by simpa using g1, g2⟩⟩
def kitA {X : Cx} {α : Type} {ea : α → PyData} (h : KeyA ea) : DKit X ea where
  ky a := keyN (h.k a)
  inj a b e := h.inj _ _ (keyN_inj e)
  ok a := by rw [h.ok, nkOf_kD]
  Is _ k u := ∃ q, k = keyN q ∧ keyIs q u = true
  Of hp a ys := ∃ kvs, hp.DictOf (mixKind X.prog X.w) a kvs ∧ Paired PA ys kvs
  is I r rv := ⟨h.k _, rfl, rep_kD (by rw [← h.ok]; exact r) rv⟩
  ent := by
    rintro pins σ H s β eb a o ents kvs I ho ⟨hc, ⟨es, n, hd, pr⟩, nd⟩ hk rk rv
    obtain ⟨xs, ys, a1, a2, a5, a3, a4⟩ := entsA (P := X.prog) h.ok pr hk rk rv
    refine ⟨ys, ⟨xs, ⟨o, es, n, ho, hc, hd, fun e he => a3 e (by simpa using he), a1, ?_⟩, a2⟩, a5⟩
    rw [← a4] at nd
    exact nodup_keyN.mp nd
  obj := by
    rintro hp H β eb a ys kvs ⟨xs, ⟨o, es, n, ho, hc, hd, hk, hp', nd⟩, pa⟩ r
    obtain ⟨ents, a1, a2, a3, a4, a5⟩ := backA h.ok hp' (fun e he => hk e (by simpa using he)) pa r
    refine ⟨o, ents, ho, ⟨hc, ⟨es, n, hd, a1⟩, ?_⟩, a2, a3, a4⟩
    rw [a5]
    exact nodup_keyN.mpr nd
  new hp := ⟨[], Heap.DictOf.new hp, .nil⟩
  get := by
    rintro A E s d k u v ys Q hu hd ⟨q, rfl, hq⟩ ⟨kvs, dd, pa⟩ hv h
    rw [pa_at q pa] at hv
    exact wpAny_getItem_of (knd := mixKind X.prog X.w) hq dd.mapOf hv (h _)
  isin := by
    rintro A E s d k u ys Q hu hd ⟨q, rfl, hq⟩ ⟨kvs, dd, pa⟩ h
    simp only [pa_at q pa] at h
    exact wpAny_in_of (knd := mixKind X.prog X.w) hq hd dd.mapOf (h _)
  notin := by
    rintro A E s d k u ys Q hu hd ⟨q, rfl, hq⟩ ⟨kvs, dd, pa⟩ h
    simp only [pa_at q pa] at h
    exact wpAny_notIn_of (knd := mixKind X.prog X.w) hq hd dd.mapOf (h _)
  get1 := by
    rintro A E s d k u ys Q hu hd ⟨q, rfl, hq⟩ ⟨kvs, dd, pa⟩ h
    simp only [pa_at q pa] at h
    exact call_meetsIn PySem.F.slot_dict_get dd.typeIs PySem.F.entry_dict_get (PySem.F.args_dict_get_2 _ _) (meets_dict_get (mixKind X.prog X.w) d hq hd) ⟨_, dd.mapOf, h _⟩
  get2 := by
    rintro A E s d k u x ys Q hu hd ⟨q, rfl, hq⟩ ⟨kvs, dd, pa⟩ h
    simp only [pa_at q pa] at h
    exact call_meetsIn PySem.F.slot_dict_get dd.typeIs PySem.F.entry_dict_get (PySem.F.args_dict_get_3 _ _ _) (meets_dict_get_default (mixKind X.prog X.w) d hq hd x) ⟨_, dd.mapOf, h _⟩
  len := by
    rintro A E s d ys Q hd ⟨kvs, dd, pa⟩ hz h
    have e : ys.length = kvs.length := Paired.length pa
    rw [sizeLine_eq] at hz
    rw [e] at h hz
    exact call_len_dict hd dd (by omega) (h _ _)
  put := by
    rintro A E s d k u v ys Q hu ⟨q, rfl, hq⟩ ⟨kvs, dd, pa⟩ hz h
    exact wpAny_setItem_pairs (knd := mixKind X.prog X.w) (hsz := by rw [← Paired.length pa]; exact hz) hq dd fun h' dd' hs => h h' _ ⟨_, dd', pa_put q u v pa⟩ hs
  pairs := by
    rintro A E s T a fp n Rel OK zs Q P hh hu ok ⟨hn, hr, hi⟩ hz h
    obtain ⟨kvs, pa, hk⟩ := pa_of (P := zs) (fun k u z => z) hi
    refine call_dict_pairs (knd := mixKind X.prog X.w) (kvs := kvs) P hh ok ⟨by rw [← Paired.length pa]; exact hn, fun i key v r => ?_⟩ hz fun h' tk dd hk => h h' tk ⟨_, dd, pa_puts pa .nil⟩ fun b o e => hk b o (by simp) e
    obtain ⟨y, e1, rfl, rfl⟩ := hr i key v r
    exact hk i y e1
  upd := by
    rintro A E s T a d fp n Rel OK ys zs Q P hh hu ok hdf ⟨hn, hr, hi⟩ ⟨acc, dd, pc⟩ hz h
    obtain ⟨kvs, pa, hk⟩ := pa_of (P := zs) (fun k u z => z) hi
    refine call_update_pairs (knd := mixKind X.prog X.w) (kvs := kvs) P hh ok hdf ⟨by rw [← Paired.length pa]; exact hn, fun i key v r => ?_⟩ dd (by rw [← Paired.length pc]; exact hz) fun h' tk dd hk => h h' tk ⟨_, dd, pa_puts pa pc⟩ fun b o e1 e => hk b o e1 (by simp) e
    obtain ⟨y, e1, rfl, rfl⟩ := hr i key v r
    exact hk i y e1
  disp := by
    rintro A E s env keys values pos Q hu hall hl h0 h15 h
    refine wpAny_Dict_walk (knd := mixKind X.prog X.w) hall hl h0 h15 (thn h fun vs s1 ⟨zs, e, hi, ⟨kvs0, dd, p0⟩, q⟩ => ?_)
    subst e
    cases p0
    obtain ⟨kvs, pa, hk⟩ := pa_of (P := zs) (fun k u z => z) hi
    exact ⟨kvs, carries_pa pa hk, dd, fun h' dd' hs => q h' _ ⟨_, dd', pa_puts pa .nil⟩ hs⟩
/-! ### keys that are tuples -/
abbrev trH : NestedKey × Addr × Value → Trip := fun x => (x.1, .ref x.2.1, x.2.2)
theorem tr_at (k : NestedKey) (xs : List (NestedKey × Addr × Value)) : atT (xs.map trH) k = (atKey xs k).map (·.2) := by
  unfold atT atKey
  induction xs with
  | nil => rfl
  | cons x xs ih =>
    rw [List.map_cons, List.find?_cons, List.find?_cons]
    cases decide (x.1 = k) with
    | true => rfl
    | false => exact ih
theorem tr_put (k : NestedKey) (b : Addr) (v : Value) (xs : List (NestedKey × Addr × Value)) : putT (xs.map trH) k (.ref b) v = (storedH xs k b v).map trH := by
  unfold putT storedH
  rw [anyT_at, tr_at, Option.isSome_map]
  split
  · rw [List.map_map, List.map_map]
    refine List.map_congr_left fun x _ => ?_
    simp only [Function.comp, putAt, trH]
    split <;> rfl
  · rw [List.map_append]; rfl
theorem tr_puts : ∀ (ps xs : List (NestedKey × Addr × Value)), putsT (xs.map trH) (ps.map trH) = (storedAllH xs ps).map trH
  | [], xs => rfl
  | p :: ps, xs => by
    show putsT (putT (xs.map trH) p.1 (.ref p.2.1) p.2.2) (ps.map trH) = (storedAllH (storedH xs p.1 p.2.1 p.2.2) ps).map trH
    rw [tr_put]
    exact tr_puts ps _
section
variable {X : Cx} {pins : List (Addr × Obj)} {σ : L2.St} {H : Hp} {s : Shared} {α β : Type} {ea : α → PyData} {eb : β → PyData}
theorem entsT (h : KeyT ea) (I : Inv X pins σ H s) : ∀ {es : List DictEntry} {ents : List (NestedKey × V × V)} {kvs : List (α × β)}, Paired (fun (e : DictEntry) (x : NestedKey × V × V) => e.hash = x.1.hash X.w ∧ RelV x.2.1 e.key ∧ RelV x.2.2 e.val) es ents →
    kvs.map (fun p => nkOf (ea p.1)) = ents.map (fun x => some x.1) → Reps X.K X.w H (ents.map (fun x => x.2.1)) (kvs.map fun p => ea p.1) → Reps X.K X.w H (ents.map (fun x => x.2.2)) (kvs.map fun p => eb p.2) →
    ∃ xs : List (NestedKey × Addr × Value), es = xs.map (entryOfKey (nestedKind X.prog X.w)) ∧ DRel X.K X.w H h.n.k ea eb (xs.map trH) kvs ∧ (∀ x ∈ xs, (nestedKind X.prog X.w).is s.heap x.1 x.2.1) ∧ xs.map (·.1) = ents.map (·.1)
  | [], [], [], .nil, _, _, _ => ⟨[], rfl, .nil, by simp, rfl⟩
  | e :: es, x :: ents, p :: kvs, .cons ⟨h1, h2, h3⟩ t, hk, rk, rv => by
    cases rk with
    | cons rk1 rk2 =>
      cases rv with
      | cons rv1 rv2 =>
        simp only [List.map_cons, List.cons.injEq] at hk
        obtain ⟨xs, a1, a2, a3, a4⟩ := entsT h I t hk.2 rk2 rv2
        have e1 := hk.1
        rw [h.n.ok] at e1
        have e1 : h.n.k p.1 = x.1 := Option.some.inj e1
        have rk1 : Rep X.K X.w H x.2.1 (ea p.1) := rk1
        obtain ⟨b, hb⟩ : ∃ b, x.2.1 = .ref b := by
          obtain ⟨ds, hds⟩ := h.tup p.1
          rw [hds] at rk1
          cases hx : x.2.1 with
          | ref b => exact ⟨b, rfl⟩
          | _ => rw [hx] at rk1; cases rk1
        have h2' := h2
        rw [hb] at h2'
        have ek : e.key = .ref b := h2'
        have is1 : NestedIs s.heap (h.n.k p.1) (.ref b) := nested_of I rk1 (by rw [← ek]; exact h2) (h.n.ok p.1)
        refine ⟨(h.n.k p.1, b, e.val) :: xs, ?_, .cons ⟨rfl, ⟨x.2.1, by rw [hb]; rfl, rk1⟩, _, h3, rv1⟩ a2, ?_, by rw [List.map_cons, List.map_cons, a4, e1]⟩
        · rw [List.map_cons, ← a1]
          congr 1
          show e = ⟨(h.n.k p.1).hash X.w, .ref b, e.val⟩
          rw [e1, ← h1, ← ek]
        · intro y hy
          rcases List.mem_cons.mp hy with rfl | hy
          · exact ⟨is1, h.n.dep _⟩
          · exact a3 y hy
  | [], [], _ :: _, .nil, hk, _, _ => by simp at hk
  | _ :: _, _ :: _, [], .cons _ _, hk, _, _ => by simp at hk
theorem backT (h : KeyT ea) : ∀ {xs : List (NestedKey × Addr × Value)} {kvs : List (α × β)}, DRel X.K X.w H h.n.k ea eb (xs.map trH) kvs →
    ∃ ents : List (NestedKey × V × V), Paired (fun (e : DictEntry) (x : NestedKey × V × V) => e.hash = x.1.hash X.w ∧ RelV x.2.1 e.key ∧ RelV x.2.2 e.val) (xs.map (entryOfKey (nestedKind X.prog X.w))) ents ∧ kvs.map (fun p => nkOf (ea p.1)) = ents.map (fun x => some x.1) ∧ Reps X.K X.w H (ents.map (fun x => x.2.1)) (kvs.map fun p => ea p.1) ∧ Reps X.K X.w H (ents.map (fun x => x.2.2)) (kvs.map fun p => eb p.2) ∧ ents.map (·.1) = xs.map (·.1)
  | [], [], .nil => ⟨[], .nil, rfl, .nil, .nil, rfl⟩
  | x :: xs, p :: kvs, .cons ⟨q1, ⟨kv, k1, k2⟩, v, q2, q3⟩ t2 => by
    obtain ⟨ents, a1, a2, a3, a4, a5⟩ := backT h t2
    have q1 : x.1 = h.n.k p.1 := q1
    refine ⟨(x.1, kv, v) :: ents, .cons ⟨rfl, k1, q2⟩ a1, ?_, .cons k2 a3, .cons q3 a4, by rw [List.map_cons, List.map_cons, a5]⟩
    rw [List.map_cons, List.map_cons, a2, h.n.ok, q1]
end
theorem src_tr {s : Shared} {n : Nat} {Rel : Nat → Value → Value → Prop} {Q : NestedKey → Addr → Prop} : ∀ {zs : List Trip}, (∀ y ∈ zs, ∃ b, y.2.1 = .ref b ∧ Q y.1 b) → ∃ ps : List (NestedKey × Addr × Value), zs = ps.map trH ∧ ∀ x ∈ ps, Q x.1 x.2.1
  | [], _ => ⟨[], rfl, by simp⟩
  | z :: zs, h => by
    obtain ⟨ps, h1, h2⟩ := src_tr (s := s) (n := n) (Rel := Rel) (Q := Q) (zs := zs) fun y hy => h y (List.mem_cons_of_mem _ hy)
    obtain ⟨b, e1, e2⟩ := h z List.mem_cons_self
    refine ⟨(z.1, b, z.2.2) :: ps, by rw [List.map_cons, ← h1]; congr 1; show z = (z.1, .ref b, z.2.2); rw [← e1], fun x hx => ?_⟩
    rcases List.mem_cons.mp hx with rfl | hx
    · exact e2
    · exact h2 x hx
theorem carries_tr {P : Program} {w : World} {h : Heap} : ∀ {ps : List (NestedKey × Addr × Value)}, (∀ x ∈ ps, (nestedKind P w).is h x.1 x.2.1) → CarriesH (nestedKind P w) h ((ps.map trH).map fun z => (z.2.1, z.2.2)) ps
  | [], _ => trivial
  | p :: ps, hp => ⟨rfl, rfl, hp p List.mem_cons_self, carries_tr fun x hx => hp x (List.mem_cons_of_mem _ hx)⟩
def kitT {X : Cx} {α : Type} {ea : α → PyData} (h : KeyT ea) : DKit X ea where
  ky := h.n.k
  inj := h.n.inj
  ok := h.n.ok
  Is hp k u := ∃ b, u = .ref b ∧ (nestedKind X.prog X.w).is hp k b
  Of hp a ys := ∃ xs, hp.DictOfH (nestedKind X.prog X.w) a xs ∧ ys = xs.map trH
  is := by
    intro pins σ H s v u a I r rv
    obtain ⟨b, hb⟩ : ∃ b, v = .ref b := by
      obtain ⟨ds, hds⟩ := h.tup a
      rw [hds] at r
      cases v with
      | ref b => exact ⟨b, rfl⟩
      | _ => cases r
    subst hb
    obtain rfl : u = .ref b := rv
    exact ⟨b, rfl, nested_of I r rfl (h.n.ok a), h.n.dep a⟩
  ent := by
    rintro pins σ H s β eb a o ents kvs I ho ⟨hc, ⟨es, n, hd, pr⟩, nd⟩ hk rk rv
    obtain ⟨xs, a1, a2, a3, a4⟩ := entsT h I pr hk rk rv
    exact ⟨xs.map trH, ⟨xs, ⟨o, es, n, ho, hc, hd, a1, a3, by rw [a4]; exact nd⟩, rfl⟩, a2⟩
  obj := by
    rintro hp H β eb a ys kvs ⟨xs, ⟨o, es, n, ho, hc, hd, he, hi, nd⟩, rfl⟩ r
    obtain ⟨ents, a1, a2, a3, a4, a5⟩ := backT h r
    exact ⟨o, ents, ho, ⟨hc, ⟨es, n, hd, by rw [he]; exact a1⟩, by rw [a5]; exact nd⟩, a2, a3, a4⟩
  new hp := ⟨[], Heap.DictOfH.new hp, rfl⟩
  get := by
    rintro A E s d k u v ys Q hu hd ⟨b, rfl, hq⟩ ⟨xs, dd, rfl⟩ hv h
    rw [tr_at] at hv
    obtain ⟨p, hp, rfl⟩ := Option.map_eq_some_iff.mp hv
    exact wpAny_getItem_heap (show A.units + 1 + 8 < cLine by omega) hq dd hp (h _)
  isin := by
    rintro A E s d k u ys Q hu hd ⟨b, rfl, hq⟩ ⟨xs, dd, rfl⟩ h
    simp only [tr_at, Option.isSome_map] at h
    exact wpAny_in_heap (show A.units + 1 + 8 < cLine by omega) hq hd dd (h _)
  notin := by
    rintro A E s d k u ys Q hu hd ⟨b, rfl, hq⟩ ⟨xs, dd, rfl⟩ h
    simp only [tr_at, Option.isSome_map] at h
    exact wpAny_notIn_heap (show A.units + 1 + 8 < cLine by omega) hq hd dd (h _)
  get1 := by
    rintro A E s d k u ys Q hu hd ⟨b, rfl, hq⟩ ⟨xs, dd, rfl⟩ h
    simp only [tr_at] at h
    exact call_meetsIn PySem.F.slot_dict_get dd.typeIs PySem.F.entry_dict_get (PySem.F.args_dict_get_2 _ _) (meetsH_dict_get (nestedKind X.prog X.w) d b hd) ⟨show A.units + 1 + 8 < cLine by omega, k, xs, hq, dd, h _⟩
  get2 := by
    rintro A E s d k u x ys Q hu hd ⟨b, rfl, hq⟩ ⟨xs, dd, rfl⟩ h
    simp only [tr_at] at h
    exact call_meetsIn PySem.F.slot_dict_get dd.typeIs PySem.F.entry_dict_get (PySem.F.args_dict_get_3 _ _ _) (meetsH_dict_get_default (nestedKind X.prog X.w) d b hd x) ⟨show A.units + 1 + 8 < cLine by omega, k, xs, hq, dd, h _⟩
  len := by
    rintro A E s d ys Q hd ⟨xs, dd, rfl⟩ hz h
    rw [sizeLine_eq] at hz
    simp only [List.length_map] at h hz
    exact call_len_dictH hd dd (by omega) (h _ _)
  put := by
    rintro A E s d k u v ys Q hu ⟨b, rfl, hq⟩ ⟨xs, dd, rfl⟩ hz h
    exact wpAny_setItem_heap (hsz := by simpa using hz) (show A.units + 1 + 8 < cLine by omega) hq dd fun h' dd' hs => h h' _ ⟨_, dd', tr_put k b v xs⟩ hs
  pairs := by
    rintro A E s T a fp n Rel OK zs Q P hh hu ok ⟨hn, hr, hi⟩ hz h
    obtain ⟨ps, rfl, hp⟩ := src_tr (s := s) (n := n) (Rel := Rel) hi
    refine call_dict_pairsH (knd := nestedKind X.prog X.w) (ps := ps) P hh (show A.units + 1 + 1 + 8 < cLine by omega) ok ⟨by simpa using hn, fun i key v r => ?_⟩ (fun h' hk x hx => nestedKind_stays.stays (fun b o vs m e _ => hk b o (Nat.ne_of_lt (Heap.lt_size e)) (by simp) e) (hp x hx)) hz fun h' tk dd hk => h h' tk ⟨_, dd, tr_puts ps []⟩ fun b o e => hk b o (by simp) e
    obtain ⟨y, e1, rfl, rfl⟩ := hr i key v r
    rw [List.getElem?_map] at e1
    obtain ⟨p, e2, rfl⟩ := Option.map_eq_some_iff.mp e1
    exact ⟨p.1, p.2.1, e2, rfl⟩
  upd := by
    rintro A E s T a d fp n Rel OK ys zs Q P hh hu ok hdf ⟨hn, hr, hi⟩ ⟨xs, dd, rfl⟩ hz h
    obtain ⟨ps, rfl, hp⟩ := src_tr (s := s) (n := n) (Rel := Rel) hi
    have dd0 := dd
    obtain ⟨o, es, ep, ho, _, hd, _, his, _⟩ := dd0
    refine call_update_pairsH (knd := nestedKind X.prog X.w) (ps := ps) P hh (show A.units + 1 + 8 < cLine by omega) ok hdf ⟨by simpa using hn, fun i key v r => ?_⟩ (fun h' hk x hx => HeapKind.Stays.but nestedKind_stays ⟨o, es, ep, ho, hd⟩ h' hk _ _ ?_) dd (by simpa using hz) fun h' tk dd hk => h h' tk ⟨_, dd, tr_puts ps xs⟩ fun b o e1 e => hk b o e1 (by simp) e
    · obtain ⟨y, e1, rfl, rfl⟩ := hr i key v r
      rw [List.getElem?_map] at e1
      obtain ⟨p, e2, rfl⟩ := Option.map_eq_some_iff.mp e1
      exact ⟨p.1, p.2.1, e2, rfl⟩
    · rcases List.mem_append.mp hx with hx | hx
      · exact his x hx
      · exact hp x hx
  disp := by
    rintro A E s env keys values pos Q hu hall hl h0 h15 h
    have hn := pairTrees_length keys values env pos hall hl
    have hp0 : pairTrees keys values env pos ≠ [] := by
      intro he
      rw [he] at hn
      exact h0 (List.length_eq_zero_iff.mp hn.symm)
    rw [arm_eval_Dict, zip_pairTrees keys values env pos hall hl, dictDisplay_pairs _ hp0 (by rw [hn]; omega)]
    refine wpAny_bind (wpAny_standAt (wpAny_bind (wpAny_subDictH (knd := nestedKind X.prog X.w) (Q := fun d s' => wpAny (model X.prog X.w) A (pure (Value.ref d)) Q E s') (show A.units + 8 < cLine by omega) (by rw [hn]; exact h15) (thn h fun vs s1 ⟨zs, e, hi, ⟨xs0, dd, p0⟩, q⟩ => ?_))))
    subst e
    have ex : xs0 = [] := by cases xs0 with
      | nil => rfl
      | cons _ _ => cases p0
    subst ex
    obtain ⟨ps, rfl, hp⟩ := src_tr (s := s1) (n := 0) (Rel := fun _ _ _ => True) hi
    exact ⟨ps, carries_tr hp, dd, fun h' tk dd' hs => wpAny_pure (q h' tk ⟨_, dd', tr_puts ps []⟩ hs)⟩
end TT

namespace TT
open PyM (fromO)
open PySem PySem.Spec PyProof.Rows L2
/-! ### a dict, read -/
theorem kB_key {K : PySem.W.Frag} {w : World} {mt : Addr → Prop} {H H' : Hp} {v : V} {d : PyData} {k : NestedKey} (e : nkOf d = some k) (h : kB K w mt H H' v d) : Rep K w H' v d := by
  rcases h with h | ⟨_, _, _, _, rfl, _⟩ | ⟨_, _, _, _, rfl, _⟩
  · exact h
  · rw [nkOf] at e; cases e
  · rw [nkOf] at e; cases e
/-- a dict's object, whoever may write it -/
theorem kB_obj {X : Cx} {pins : List (Addr × Obj)} {σ : L2.St} {H : Hp} {s : Shared} {mt : Addr → Prop} {H1 : Hp} {v : V} {kvs : List (PyData × PyData)} (I : Inv X pins σ H s) (h : kB X.K X.w mt H1 H v (.dict kvs)) :
    ∃ a o ents, v = .ref a ∧ (a == sysModules) = false ∧ s.heap.get? a = some o ∧ DObj X.w o ents ∧ ents.length ≤ sizeLine ∧ kvs.map (fun p => nkOf p.1) = ents.map (fun x => some x.1) ∧ Reps X.K X.w H (ents.map (fun x => x.2.1)) (kvs.map (·.1)) ∧ Reps X.K X.w H (ents.map (fun x => x.2.2)) (kvs.map (·.2)) ∧
      ((∃ u, H a = some (.frz o u)) ∨ (H a = some (DN a o) ∧ ¬ mt a)) := by
  rcases h with h | ⟨_, _, _, _, e, _⟩ | ⟨a, u, kvs', rfl, e, h2, h3, h4⟩
  · cases h with
    | dct g0 g1 g2 g3 g4 g5 g6 => exact ⟨_, _, _, rfl, g1, (I.hok _ _ g0).1, g2, g3, g4, g5, g6, .inl ⟨_, g0⟩⟩
  · cases e
  · cases e
    cases h3 with
    | n g1 g2 g3 g4 g5 g6 => exact ⟨_, _, _, rfl, g1, (I.hok _ _ h2).1, g2, g3, g4, g5, g6, .inr ⟨h2, h4⟩⟩
theorem paired_len {α β : Type} {F : α → β → Prop} {as : List α} {bs : List β} (h : Paired F as bs) : as.length = bs.length := Paired.length h
section
variable {α β : Type} {ea : α → PyData} {eb : β → PyData}
theorem dct_keys (kvs : List (α × β)) (f : PyData → Option NestedKey) : (kvs.map fun p => (ea p.1, eb p.2)).map (fun p => f p.1) = kvs.map fun p => f (ea p.1) := by rw [List.map_map]; rfl
theorem dct_fst (kvs : List (α × β)) : (kvs.map fun p => (ea p.1, eb p.2)).map (·.1) = kvs.map fun p => ea p.1 := by rw [List.map_map]; rfl
theorem dct_snd (kvs : List (α × β)) : (kvs.map fun p => (ea p.1, eb p.2)).map (·.2) = kvs.map fun p => eb p.2 := by rw [List.map_map]; rfl
theorem kB_dct {X : Cx} {pins : List (Addr × Obj)} {σ : L2.St} {H : Hp} {s : Shared} {mt : Addr → Prop} {H1 : Hp} {v : V} {u : Value} {kvs : List (α × β)} (k : DKit X ea) (I : Inv X pins σ H s) (h : kB X.K X.w mt H1 H v (eDct ea eb kvs)) (r : RelV v u) :
    ∃ a ys, v = .ref a ∧ u = .ref a ∧ (a == sysModules) = false ∧ k.Of s.heap a ys ∧ DRel X.K X.w H k.ky ea eb ys kvs ∧ ys.length ≤ sizeLine ∧ s.TypeIs (.ref a) "dict" ∧ (∀ b, Value.ref a = .ref b → ∃ ob, s.heap.get? b = some ob ∧ ob.dict = none) := by
  obtain ⟨a, o, ents, rfl, h1, ho, h2, h3, h4, h5, h6, _⟩ := kB_obj I h
  cases r
  rw [dct_keys] at h4
  rw [dct_fst] at h5
  rw [dct_snd] at h6
  obtain ⟨ys, y1, y2⟩ := k.ent I ho h2 h4 h5 h6
  obtain ⟨hc, _⟩ := id h2
  refine ⟨a, ys, rfl, rfl, h1, y1, y2, ?_, ⟨o, ho, hc.1⟩, fun b e => by cases e; exact ⟨o, ho, hc.2.1⟩⟩
  have := congrArg List.length h4
  simp only [List.length_map] at this
  rw [show ys.length = kvs.length from paired_len y2]
  omega
end
section
variable {X : Cx} {m : Type → Type} [Monad m] [PyM m] {C : Wd X.K X.w m} {W : WX} {H0 : Hp} {R : Slots} {α β γ ρ ε δ : Type} [DecidableEq α] {ea : α → PyData} {eb : β → PyData} {ec : γ → PyData} {er : ρ → PyData} {Rb : ε → Slots} {Rn : δ → Slots}
variable {a b c o e f : Expr} {rest : List Stmt} {md : m (List (α × β))} {mk : m α} {mb : m β} {pos p apos : Pos}
/-- d[k] -/
theorem se_dget (k : DKit X ea) (hu : X.A.units + 64 < cLine) (ha : SB X C W H0 R a (eDct ea eb) md) (hb : SB X C W H0 R b ea mk) (hs : NoSl b) :
    SE X C W H0 R (.Subscript a b pos) eb (md >>= fun d => mk >>= fun q => fromO (dGet d q)) := by
  refine ⟨⟨fun pins s σ H Q I q => ?_⟩⟩
  have t := tR_two (k := kF X.K X.w C.mt) (tb := fun _ _ _ => True) (r := fun x y H2 => ∃ d q b, kB X.K X.w C.mt H2 H2 x (eDct ea eb d) ∧ kB X.K X.w C.mt H2 H2 y (ea q) ∧ dGet d q = some b ∧ ∀ v, Rep X.K X.w H2 v (eb b) → Q v H2) kF_ok q (fun x y H2 i j k1 k2 q2 => by
    obtain ⟨b, e, _, q2⟩ := tR_done q2
    exact ⟨i, j, b, k1, k2, e, fun v r => q2 v H2 (.refl H2) r⟩)
  refine subD_of PySem.F.slot_dict_getitem.lookup hs (thn (ha.run.run pins s σ H _ I t) fun u s1 ⟨x, H1, I1, r1, q1⟩ => thn (hb.run.run pins s1 σ H1 _ I1 q1) fun iv s2 ⟨y, H2, I2, r2, d, kq, b, k1, k2, e, q2⟩ => ?_)
  obtain ⟨l, ys, rfl, rfl, hs, of, dr, hz, ty, _⟩ := kB_dct k I2 k1 r1
  have g := drel_get k.inj kq dr
  rw [e] at g
  obtain ⟨w', v, g1, g2, g3⟩ := g
  exact ⟨ty, k.get (by omega) hs (k.is I2 (kB_key (k.ok kq) k2) r2) of g1 fun t => ⟨v, H2, I2.tok t, g2, q2 v g3⟩⟩
/-- k in d, k not in d -/
def rDIn (X : Cx) (mt : Addr → Prop) (ea : α → PyData) (eb : β → PyData) (neg : Bool) : R2 := fun y x H Q => ∃ d q, kB X.K X.w mt H H x (eDct ea eb d) ∧ kB X.K X.w mt H H y (ea q) ∧ Q (.bl (xor neg (dHas d q))) H
theorem op_dIn {mt : Addr → Prop} (k : DKit X ea) (hu : X.A.units + 64 < cLine) : OpR X (compareOp .In) (rDIn X mt ea eb false) := by
  intro pins s σ H y x u v Q I ry rx ⟨d, q, k1, k2, h⟩
  obtain ⟨l, ys, rfl, rfl, hs, of, dr, hz, ty, _⟩ := kB_dct k I k1 rx
  refine k.isin (by omega) hs (k.is I (kB_key (k.ok q) k2) ry) of fun t => ⟨_, H, I.tok t, ?_, h⟩
  rw [drel_some k.inj q dr, Bool.false_xor]
  rfl
theorem op_dNi {mt : Addr → Prop} (k : DKit X ea) (hu : X.A.units + 64 < cLine) : OpR X (compareOp .NotIn) (rDIn X mt ea eb true) := by
  intro pins s σ H y x u v Q I ry rx ⟨d, q, k1, k2, h⟩
  obtain ⟨l, ys, rfl, rfl, hs, of, dr, hz, ty, _⟩ := kB_dct k I k1 rx
  refine k.notin (by omega) hs (k.is I (kB_key (k.ok q) k2) ry) of fun t => ⟨_, H, I.tok t, ?_, h⟩
  rw [drel_some k.inj q dr, Bool.true_xor]
  rfl
theorem sc_dIn (k : DKit X ea) (hu : X.A.units + 64 < cLine) (ha : SB X C W H0 R a ea mk) (hb : SB X C W H0 R b (eDct ea eb) md) : SC X C W H0 R .In a b (mk >>= fun q => md >>= fun d => pure (dHas d q)) :=
  sc_cmp (op_dIn (mt := C.mt) (eb := eb) k hu) ha hb fun x y σ H Q i j k1 k2 q => ⟨j, i, k2, k1, by rw [Bool.false_xor]; exact (tR_pure q).2 _ H (.refl H) (.bl _)⟩
theorem sc_dNi (k : DKit X ea) (hu : X.A.units + 64 < cLine) (ha : SB X C W H0 R a ea mk) (hb : SB X C W H0 R b (eDct ea eb) md) : SC X C W H0 R .NotIn a b (mk >>= fun q => md >>= fun d => pure (!dHas d q)) :=
  sc_cmp (op_dNi (mt := C.mt) (eb := eb) k hu) ha hb fun x y σ H Q i j k1 k2 q => ⟨j, i, k2, k1, by rw [Bool.true_xor]; exact (tR_pure q).2 _ H (.refl H) (.bl _)⟩
/-- d.get(k), d.get(k, x) -/
theorem se_dget1 (k : DKit X ea) (hu : X.A.units + 64 < cLine) (ho : SB X C W H0 R o (eDct ea eb) md) (he : SB X C W H0 R e ea mk) (hm : M1 X o "get" apos e pos) : SE X C W H0 R (.Call (.Attribute o "get" apos) [e] [] pos) (eOpt eb) (md >>= fun d => mk >>= fun q => pure (dGet d q)) := by
  refine ⟨⟨fun pins s σ H Q I q => ?_⟩⟩
  have t := tR_bind (k := kB X.K X.w C.mt) (ea := eDct ea eb) kF_ok q
  refine wpAny_Call_method hm.base hm.few hm.line PySem.F.plainAttrs_dict PySem.F.slot_dict_get PySem.F.type_dict_get (thn (ho.run.run pins s σ H _ I t) fun u s1 ⟨x, H1, I1, rx, d, e1, k1, t1⟩ => ?_)
  have t2 := tR_bind (k := kB X.K X.w C.mt) (ea := ea) kF_ok t1
  obtain ⟨l, ys, rfl, rfl, hs, of, dr, hz, ty, nd⟩ := kB_dct k I1 k1 rx
  refine ⟨ty, nd, ?_⟩
  rw [hm.trees]
  refine Calls.callWith_builtin rfl (Calls.evalArgs_plain (Calls.spliced_cons (thn (he.run.run pins s1 σ H1 _ I1 t2) fun iv s2 ⟨y, H2, I2, r2, q, e2, k2, t3⟩ => Calls.spliced_nil ?_)))
  obtain ⟨l', ys, e', _, hs, of, dr, hz, ty, nd⟩ := kB_dct k I2 (kB.ext e2 k1) rfl
  cases e'
  have g := drel_get k.inj q dr
  refine k.get1 (by omega) hs (k.is I2 (kB_key (k.ok q) k2) r2) of fun t => ?_
  have t3 := (tR_pure t3).2
  cases h : dGet d q with
  | none =>
    rw [h] at g
    rw [g]
    exact ⟨.non, H2, I2.tok t, rfl, t3 _ H2 (.refl H2) (by rw [h]; exact .non)⟩
  | some b =>
    rw [h] at g
    obtain ⟨w', v, g1, g2, g3⟩ := g
    rw [g1]
    exact ⟨v, H2, I2.tok t, g2, t3 _ H2 (.refl H2) (by rw [h]; exact g3)⟩
theorem se_dget2 (k : DKit X ea) (hu : X.A.units + 64 < cLine) (ho : SB X C W H0 R o (eDct ea eb) md) (he : SB X C W H0 R e ea mk) (hf : SE X C W H0 R f eb mb) (hm : M2 X o "get" apos e f pos) : SE X C W H0 R (.Call (.Attribute o "get" apos) [e, f] [] pos) eb (md >>= fun d => mk >>= fun q => mb >>= fun x => pure ((dGet d q).getD x)) := by
  refine ⟨⟨fun pins s σ H Q I q => ?_⟩⟩
  have t := tR_bind (k := kB X.K X.w C.mt) (ea := eDct ea eb) kF_ok q
  refine wpAny_Call_method hm.base hm.few hm.line PySem.F.plainAttrs_dict PySem.F.slot_dict_get PySem.F.type_dict_get (thn (ho.run.run pins s σ H _ I t) fun u s1 ⟨x, H1, I1, rx, d, e1, k1, t1⟩ => ?_)
  have t2 := tR_bind (k := kB X.K X.w C.mt) (ea := ea) kF_ok t1
  obtain ⟨l, ys, rfl, rfl, hs, of, dr, hz, ty, nd⟩ := kB_dct k I1 k1 rx
  refine ⟨ty, nd, ?_⟩
  rw [hm.trees]
  refine Calls.callWith_builtin rfl (Calls.evalArgs_plain (Calls.spliced_cons (thn (he.run.run pins s1 σ H1 _ I1 t2) fun iv s2 ⟨y, H2, I2, r2, q, e2, k2, t3⟩ => Calls.spliced_cons (thn (hf.run.run pins s2 σ H2 _ I2 (tR_bind (k := kF X.K X.w C.mt) (ea := eb) kF_ok t3)) fun fv s3 ⟨z, H3, I3, r3, x, e3, k3, t4⟩ => Calls.spliced_nil ?_))))
  obtain ⟨l', ys, e', _, hs, of, dr, hz, ty, nd⟩ := kB_dct k I3 (kB.ext e3 (kB.ext e2 k1)) rfl
  cases e'
  have g := drel_get k.inj q dr
  refine k.get2 (x := fv) (by omega) hs (k.is I3 (kB_key (k.ok q) (kB.ext e3 k2)) r2) of fun t => ?_
  have t4 := (tR_pure t4).2
  cases h : dGet d q with
  | none =>
    rw [h] at g
    rw [g]
    exact ⟨z, H3, I3.tok t, r3, t4 _ H3 (.refl H3) (by rw [h]; exact k3)⟩
  | some b =>
    rw [h] at g
    obtain ⟨w', v, g1, g2, g3⟩ := g
    rw [g1]
    exact ⟨v, H3, I3.tok t, g2, t4 _ H3 (.refl H3) (by rw [h]; exact g3)⟩
end
/-! ### new dicts -/
section
variable {α β : Type} {ea : α → PyData} {eb : β → PyData}
theorem pairs_at {K : PySem.W.Frag} {w : World} {H : Hp} {ky : α → NestedKey} : ∀ {vs : List V} {ps : List (α × β)} {us : List Value}, Reps K w H vs (ps.map (eT2 ea eb)) → Vals vs us → ∃ ts : List Addr, us = ts.map Value.ref ∧ Paired (fun (t : Addr) (p : α × β) => ∃ x y, SqT K H t [x, y] ∧ Rep K w H x (ea p.1) ∧ Rep K w H y (eb p.2)) ts ps
  | _, [], _, .nil, r => by
    cases r
    exact ⟨[], rfl, .nil⟩
  | _, p :: ps, _, .cons (v := v) h t, r => by
    cases r with
    | cons r1 r2 =>
      obtain ⟨ts, e1, e2⟩ := pairs_at (ky := ky) t r2
      cases (show Rep K w H v (.tuple [ea p.1, eb p.2]) from h) with
      | tup g1 g2 =>
        rename_i a xs
        cases r1
        obtain ⟨x, xs, rfl, g3, g4⟩ := g2.inv'
        obtain ⟨y, xs, rfl, g5, g6⟩ := g4.inv'
        cases g6
        exact ⟨a :: ts, by rw [e1]; rfl, .cons ⟨x, y, g1, g3, g5⟩ e2⟩
end
theorem cell_of {X : Cx} {α β : Type} {ea : α → PyData} {eb : β → PyData} (k : DKit X ea) {h : Heap} {H : Hp} {a : Addr} {ys : List Trip} {kvs : List (α × β)} (hs : (a == sysModules) = false) (of : k.Of h a ys) (dr : DRel X.K X.w H k.ky ea eb ys kvs) (hz : ys.length ≤ sizeLine) :
    ∃ o, h.get? a = some o ∧ DCell X.K X.w H (DN a o) a (kvs.map fun p => (ea p.1, eb p.2)) := by
  obtain ⟨o, ents, ho, d, h1, h2, h3⟩ := k.obj of dr
  have e := congrArg List.length h1
  simp only [List.length_map] at e
  have e2 : ys.length = kvs.length := paired_len dr
  exact ⟨o, ho, .n hs d (by omega) (by rw [dct_keys]; exact h1) (by rw [dct_fst]; exact h2) (by rw [dct_snd]; exact h3)⟩
theorem dn_ok {P : Program} {w : World} {H : Hp} {h : Heap} {a : Addr} {o : Obj} (ho : h.get? a = some o) : ObjOk P w H h a (DN a o) := ⟨ho, ⟨o, ho⟩, fun h1 h2 e k => k _ e⟩
section
variable {X : Cx} {m : Type → Type} [Monad m] [PyM m] {C : Wd X.K X.w m} {W : WX} {H0 : Hp} {R : Slots} {α β γ : Type} [DecidableEq α] {ea : α → PyData} {eb : β → PyData}
variable {a : Expr} {mps : m (List (α × β))} {pos p : Pos}
theorem sd_nil (k : DKit X ea) : SD X C W H0 R (.Dict [] [] pos) (eDct ea eb) (pure ([] : List (α × β))) := by
  refine ⟨⟨fun pins s σ H Q I q => ?_⟩⟩
  have hs : (s.heap.objs.size == sysModules) = false := beq_eq_false_iff_ne.mpr (Ne.symm (Nat.ne_of_lt I.big))
  have of := k.new s.heap
  refine wpAny_Dict_empty ?_
  obtain ⟨o, ho, dc⟩ := cell_of (eb := eb) (H := H) k hs of (kvs := []) .nil (Nat.zero_le _)
  have hp := I.hok.fresh (Nat.le_refl _)
  have f : Firms H (upd H s.heap.objs.size (DN s.heap.objs.size o)) := fun b x e _ => Same.new hp b x e
  exact ⟨.ref s.heap.objs.size, upd H s.heap.objs.size (DN s.heap.objs.size o), I.laid (t' := s.toks) (fun b u e => Heap.get?_push_of_some _ e) (Nat.le_refl _) (dn_ok ho), rfl, (tR_pure q).2 _ _ (Same.new hp) ⟨_, _, _, rfl, rfl, upd_same, dc.firm f, hp⟩⟩
theorem pairs_src {pins : List (Addr × Obj)} {σ : L2.St} {H : Hp} {s : Shared} (k : DKit X ea) (I : Inv X pins σ H s) : ∀ {ts : List Addr} {ps : List (α × β)}, Paired (fun (t : Addr) (p : α × β) => ∃ x y, SqT X.K H t [x, y] ∧ Rep X.K X.w H x (ea p.1) ∧ Rep X.K X.w H y (eb p.2)) ts ps →
    ∃ zs : List Trip, DRel X.K X.w H k.ky ea eb zs ps ∧ zs.length = ts.length ∧ (∀ y ∈ zs, k.Is s.heap y.1 y.2.1) ∧ ∀ (i : Nat) (t : Addr), ts[i]? = some t → ∃ z, zs[i]? = some z ∧ s.heap.IsTuple t #[z.2.1, z.2.2]
  | [], [], .nil => ⟨[], .nil, rfl, by simp, fun i t e => by simp at e⟩
  | t :: ts, p :: ps, .cons ⟨x, y, h1, h2, h3⟩ r => by
    obtain ⟨zs, a1, a2, a3, a4⟩ := pairs_src k I r
    obtain ⟨its, rv, ht, _⟩ := I.tuple h1
    obtain ⟨u, w', rfl, ru, rw'⟩ := vals2 rv
    refine ⟨(k.ky p.1, u, w') :: zs, .cons ⟨rfl, ⟨x, ru, h2⟩, y, rw', h3⟩ a1, by rw [List.length_cons, List.length_cons, a2], fun z hz => ?_, fun i t' e => ?_⟩
    · rcases List.mem_cons.mp hz with rfl | hz
      · exact k.is I h2 ru
      · exact a3 z hz
    · cases i with
      | zero =>
        have e : t = t' := by simpa using e
        subst e
        exact ⟨_, rfl, ht⟩
      | succ i =>
        obtain ⟨z, g1, g2⟩ := a4 i t' (by simpa using e)
        exact ⟨z, by simpa using g1, g2⟩
end
end TT

namespace TT
open PyM (fromO)
open PySem PySem.Spec PyProof.Rows L2
theorem putsT_len : ∀ (zs ys : List Trip), (putsT ys zs).length ≤ ys.length + zs.length
  | [], ys => Nat.le_refl _
  | z :: zs, ys => by
    have h1 := putsT_len zs (putT ys z.1 z.2.1 z.2.2)
    have h2 := putT_len ys z.1 z.2.1 z.2.2
    show (putsT (putT ys z.1 z.2.1 z.2.2) zs).length ≤ _
    rw [List.length_cons]
    omega
theorem upd_firms {H : Hp} {p : Addr} {o : HO} (h : H p = none) : Firms H (upd H p o) := fun b x e _ => Same.new h b x e
section
variable {X : Cx} {m : Type → Type} [Monad m] [PyM m] {C : Wd X.K X.w m} {W : WX} {H0 : Hp} {R : Slots} {P : Pk} {α β γ ρ ε δ : Type} [DecidableEq α] {ea : α → PyData} {eb : β → PyData} {er : ρ → PyData} {Rb : ε → Slots} {Rn : δ → Slots}
variable {a b c e tg : Expr} {rest sts : List Stmt} {md : m (List (α × β))} {mk : m α} {mb : m β} {mps : m (List (α × β))} {mi : m Int} {pos p p2 pos' : Pos} {mm : m (Out ρ ε δ)}
theorem se_lenD (k : DKit X ea) (hg : Gl X "len") (hm : X.mg "len" = none) (ha : SB X C W H0 R a (eDct ea eb) md) (hs : starEach (a :: []) X.env = (false, eval a X.env) :: starEach [] X.env := by rfl) : SE X C W H0 R (.Call (.Name "len" p) [a] [] pos) eInt (md >>= fun d => pure (d.length : Int)) :=
  sx_callB (id := "len") (r := fun vs H Q => ∃ v d, vs = [v] ∧ kB X.K X.w C.mt H H v (eDct ea eb d) ∧ Q (.int d.length) H) kF_ok (fun pins s σ H xs us Q I r ⟨v, d, e, k1, q⟩ => by
    subst e
    obtain ⟨u, rfl, ru⟩ := vals1 r
    obtain ⟨l, ys, rfl, rfl, hs, of, dr, hz, ty, _⟩ := kB_dct k I k1 ru
    refine k.len hs of hz fun t t' => ⟨.int d.length, H, I.tok t', ⟨t, ?_⟩, q⟩
    rw [show ys.length = d.length from paired_len dr]) hg hm PySem.boot_len (by decide) (by decide) ha (fun v σ H Q d kv _ q => ⟨v, d, rfl, kv, (tR_pure q).2 _ H (.refl H) (.int _)⟩) hs
/-- dict(ps) -/
theorem call_dictL {mt : Addr → Prop} (k : DKit X ea) (hc : X.calm = true) (hu : X.A.units + 64 < cLine) : CallR X (.type "dict") (fun vs H Q => ∃ v ps, vs = [v] ∧ kB X.K X.w mt H H v (eLst (eT2 ea eb) ps) ∧ ∀ p o, H p = none → DCell X.K X.w (upd H p (DN p o)) (DN p o) p ((dOf ps).map fun q => (ea q.1, eb q.2)) → Q (.ref p) (upd H p (DN p o))) := by
  intro pins s σ H vs us Q I rv ⟨v, ps, e, k1, q⟩
  subst e
  obtain ⟨u, rfl, ru⟩ := vals1 rv
  obtain ⟨l, ws, rfl, hl, hr⟩ := kB_lst k1
  cases ru
  obtain ⟨its, ri, ⟨o, n, ho, hcl, hx, hd⟩, hz⟩ := I.list hl
  obtain ⟨ts, rfl, pr⟩ := pairs_at (ky := k.ky) hr ri
  obtain ⟨zs, a1, a2, a3, a4⟩ := pairs_src k I pr
  have lz : zs.length ≤ sizeLine := by
    have e1 := hr.length
    rw [List.length_map] at e1
    have e2 : ts.length = ps.length := paired_len pr
    omega
  have lps : (zs.map fun z => (z.2.1, z.2.2)).length = zs.length := List.length_map ..
  refine k.pairs (T := "list") (zs := zs) (OK := _) (PairArg.list l (ts.map Value.ref).toArray (fun i => ts.getD i 0) (zs.map fun z => (z.2.1, z.2.2))) (I.ok.hd hc) (by omega) ⟨⟨o, n, ho, hcl, hx, hd⟩, by rw [lps, a2]; simp, fun j kv w hj => ?_⟩ ⟨lps.symm, fun i key w hj => ?_, a3⟩ (by rw [lps]; exact lz) fun h' t of keep => ?_
  · rw [List.getElem?_map] at hj
    obtain ⟨z, hz1, hz2⟩ := Option.map_eq_some_iff.mp hj
    have lj : j < ts.length := by rw [← a2]; exact (List.getElem?_eq_some_iff.mp hz1).1
    obtain ⟨z', g1, g2⟩ := a4 j _ (List.getElem?_eq_getElem lj)
    rw [hz1] at g1; cases g1
    cases hz2
    have gd : ts.getD j 0 = ts[j] := by rw [List.getD_eq_getElem?_getD, List.getElem?_eq_getElem lj]; rfl
    refine ⟨?_, .inl (by show s.heap.IsTuple (ts.getD j 0) _; rw [gd]; exact g2)⟩
    show _ = some (Value.ref (ts.getD j 0))
    rw [gd]
    simp [lj]
  · have hj : (zs.map fun z => (z.2.1, z.2.2))[i]? = some (key, w) := hj
    rw [List.getElem?_map] at hj
    obtain ⟨z, hz1, hz2⟩ := Option.map_eq_some_iff.mp hj
    cases hz2
    exact ⟨z, hz1, rfl, rfl⟩
  · have hs : (s.heap.objs.size == sysModules) = false := beq_eq_false_iff_ne.mpr (Ne.symm (Nat.ne_of_lt I.big))
    have lz2 := putsT_len zs []
    obtain ⟨o', ho', dc⟩ := cell_of (eb := eb) (H := H) k hs of (kvs := dOf ps) (drel_puts k.inj a1 .nil) (by simp at lz2; omega)
    have hp := I.hok.fresh (Nat.le_refl _)
    exact ⟨.ref s.heap.objs.size, upd H s.heap.objs.size (DN s.heap.objs.size o'), I.laid (t' := t) keep (Nat.le_refl _) (dn_ok ho'), rfl, q _ _ hp (dc.firm (upd_firms hp))⟩
theorem sd_dictL (k : DKit X ea) (hc : X.calm = true) (hu : X.A.units + 64 < cLine) (hg : Gl X "dict") (hm : X.mg "dict" = none) (ha : SB X C W H0 R a (eLst (eT2 ea eb)) mps) (hs : starEach (a :: []) X.env = (false, eval a X.env) :: starEach [] X.env := by rfl) :
    SD X C W H0 R (.Call (.Name "dict" p) [a] [] pos) (eDct ea eb) (mps >>= fun ps => pure (dOf ps)) :=
  sx_callT kOD_ok (call_dictL (mt := C.mt) (eb := eb) k hc hu) hg hm (by decide +kernel) (by decide) (by decide) ha (fun v σ H Q ps kv _ q => ⟨v, ps, rfl, kv, fun p o hp dc => (tR_pure q).2 _ _ (Same.new hp) ⟨p, _, _, rfl, rfl, upd_same, dc, hp⟩⟩) hs
/-! ### a dict's keys, walked -/
end
def PinD (H : Hp) (d : Addr) (o : Obj) : Prop := (∃ u, H d = some (.frz o u)) ∨ H d = some (DN d o)
theorem keys_paired {w : World} : ∀ {es : List DictEntry} {ents : List (NestedKey × V × V)}, Paired (fun (e : DictEntry) (x : NestedKey × V × V) => e.hash = x.1.hash w ∧ RelV x.2.1 e.key ∧ RelV x.2.2 e.val) es ents → Paired (fun (e : DictEntry) (x : V) => RelV x e.key) es (ents.map (fun x => x.2.1))
  | _, _, .nil => .nil
  | _, _, .cons h t => .cons h.2.1 (keys_paired t)
theorem PinD.at {X : Cx} {pins : List (Addr × Obj)} {σ : L2.St} {H : Hp} {s : Shared} {d : Addr} {o : Obj} (I : Inv X pins σ H s) (h : PinD H d o) : s.heap.get? d = some o := by
  rcases h with ⟨u, h⟩ | h
  · exact (I.hok _ _ h).1
  · exact (I.hok _ _ h).1
def IkD (d : Addr) (o : Obj) (ks : List V) : It := ⟨fun i H => PinD H d o ∧ i < ks.length, fun i H x H' => H' = H ∧ ks[i]? = some x, fun i H => PinD H d o ∧ ks.length ≤ i⟩
theorem turn_D {P : Program} {w : World} {K : PySem.W.Frag} {tg : Expr} {d : Addr} {o : Obj} {es : Array DictEntry} {ep : Nat} {ks : List V} (it : Addr) (hx : o.ExactDict) (hod : o.data = .dict es ep) (hk : Paired (fun (e : DictEntry) (x : V) => RelV x e.key) es.toList ks) :
    Turn P w K tg (IkD d o ks) [it] it (fun i h => h.IsKeyIter it d i ks.length ep) where
  mem := by simp
  obj := fun i h st b hb => by
    have e : b = it := by simpa using hb
    subst e
    obtain ⟨oi, e, c, dd⟩ := st
    exact ⟨oi, e, fun v z => by rw [dd] at z; cases z⟩
  keep := fun i h h' st k => st.at fun oi e => k it (by simp) oi e
  item := by
    intro X hP hw hK hc i pins s σ H E I hf st hg
    subst hP hw hK
    obtain ⟨hd, hi⟩ := hg
    obtain ⟨f0, f1, f2, f3, f4, f5⟩ := hf it (by simp)
    have hgd := hd.at I
    have hl : es.size = ks.length := by have := paired_len hk; simpa using this
    rw [← hl] at st hi
    refine wpAny_pyNext_keys_item_raw st ⟨o, hgd, hx, hod⟩ hi fun h' st' sb => ?_
    have I1 : Inv X pins σ H { s with heap := h' } := I.turned (t' := s.toks) (fun b ob hb e => (sb.2 b hb).trans e) f0 f1 f3 f4 f5
    obtain ⟨oi, e, c, dd⟩ := id st'
    obtain ⟨x, x1, x2⟩ := L2.paired_get hk (i := i) (a := es[i]) (by simp [hi])
    refine ⟨es[i].key, rfl, go_of (s := { s with heap := h' }) e c dd (by decide) ⟨x, H, I1, x2, ⟨rfl, x1⟩, ?_, fun b hb => (hf b hb).1⟩⟩
    show h'.IsKeyIter it d (i + 1) ks.length _
    rw [← hl]
    exact st'
  done := by
    intro X hP hw hK hc i pins s σ H E I hf st hg
    subst hP hw hK
    obtain ⟨hd, hi⟩ := hg
    obtain ⟨f0, f1, f2, f3, f4, f5⟩ := hf it (by simp)
    have hl : es.size = ks.length := by have := paired_len hk; simpa using this
    exact next_key_end (I.ok.hd hc) st (hd.at I) hod hl hi fun h' eb => ⟨rfl, I.turned (t' := s.toks) (fun b ob hb e => eb b ob hb e) f0 f1 f3 f4 f5⟩
  self := fun A i s Q E st h => wpAny_pyIter_keyiter st h
section
variable {X : Cx} {m : Type → Type} [Monad m] [PyM m] {C : Wd X.K X.w m} {W : WX} {H0 : Hp} {R : Slots} {P : Pk} {α β γ : Type} {ea : α → PyData} {eb : β → PyData}
variable {a tg : Expr} {md : m (List (α × β))}
theorem tI_ofM {δ : Type} {σ : L2.St} {H : Hp} {Q : It → Hp → Prop} {k : Kd} {e : δ → PyData} {f : δ → List α} {md : m δ} (h : tI C W H0 R P ea (md >>= fun d => pure (f d)) σ H Q) {Q' : VK}
    (i : ∀ d s' v H', Ext C.mt H H' → C.rel s' H' → k H H' v (e d) → (∀ J, Wk X.K X.w (P H') J ((f d).map ea) → Q J H') → Q' v H') : tR C W H0 R k e md σ H Q' := by
  obtain ⟨s, c, h⟩ := h
  refine ⟨s, c, ?_⟩
  rw [PyM.run_bind] at h
  cases q : PyM.run md s with
  | none => rw [q] at h; exact h
  | some p =>
    obtain ⟨r, s1⟩ := p
    rw [q] at h
    cases r with
    | error x => exact h
    | ok d =>
      have h : AfterI C W P ea σ H Q (PyM.run (pure (f d) : m (List α)) s1) := h
      rw [PyM.run_pure] at h
      exact fun v H' e rl kv => i d s1 v H' e rl kv fun J wk => h J H' e rl wk
/-- for k in d, while d is not written -/
theorem si_dctG {k : Kd} (ha : SX X C W H0 R k a (eDct ea eb) md) (kb : ∀ H H' v d, k H H' v d → kB X.K X.w C.mt H H' v d) (fs : ∀ {H H'}, P H H' → Firms H H') (ps : ∀ {H H' v kvs d o}, k H H v (.dict kvs) → v = .ref d → PinD H d o → P H H' → PinD H' d o) (hh : ∀ H H' v d, k H H' v d → k H' H' v d) :
    SI X C W H0 R P tg a ea (md >>= fun d => pure (d.map (·.1))) := by
  refine ⟨⟨fun pins s σ H Q I q => ?_⟩⟩
  have t := tI_ofM (k := k) (e := eDct ea eb) (f := fun d : List (α × β) => d.map (·.1)) q (Q' := fun v H' => ∃ d, k H H' v (eDct ea eb d) ∧ ∀ J, Wk X.K X.w (P H') J ((d.map (·.1)).map ea) → Q J H') fun d s' v H' e rl kv f => ⟨d, kv, f⟩
  refine thn (ha.run.run pins s σ H _ I t) fun u s1 ⟨v, H1, I1, r1, d, kv, f⟩ => ?_
  have kv' := kb _ _ _ _ kv
  obtain ⟨l, o, ents, rfl, hs, ho, dd, hz, h4, h5, h6, st⟩ := kB_obj (kvs := d.map fun p => (ea p.1, eb p.2)) I1 kv'
  cases r1
  obtain ⟨hx, ⟨es, ep, hd, hp⟩, nd⟩ := dd
  rw [dct_fst] at h5
  have hpk : Paired (fun (e : DictEntry) (x : V) => RelV x e.key) es.toList (ents.map (fun x => x.2.1)) := keys_paired hp
  have hsz : es.size = (ents.map (fun x => x.2.1)).length := by have := paired_len hpk; simpa using this
  have pin : PinD H1 l o := by
    rcases st with st | st
    · exact .inl st
    · exact .inr st.1
  refine iter_keys hs ho hx hd (pi_one (tk := s1.toks) I1 _ (turn_D _ hx hd hpk) ⟨_, Heap.get?_push_size _ rfl, rfl, ?_⟩ (f (IkD l o (ents.map (fun x => x.2.1))) ⟨fun i H' p hi => ?_, fun i H' p hi => ?_, ?_⟩))
  · rw [hsz] <;> rfl
  · have le := h5.length
    simp only [List.length_map] at le hi
    refine ⟨⟨ps (hh _ _ _ _ kv) rfl pin p, by simp only [List.length_map]; omega⟩, fun x H2 y => ?_⟩
    obtain ⟨rfl, y⟩ := y
    obtain ⟨dk, e1, e2⟩ := h5.getV y
    refine ⟨.refl _, dk, ?_, Rep.firm (fs p) e2⟩
    rw [List.map_map]
    exact e1
  · have le := h5.length
    simp only [List.length_map] at le hi
    exact ⟨ps (hh _ _ _ _ kv) rfl pin p, by simp only [List.length_map]; omega⟩
  · have le := h5.length
    simp only [List.length_map] at le ⊢
    omega
theorem kF_pin {v : V} {kvs : List (PyData × PyData)} {d : Addr} {o : Obj} {H H' : Hp} {H1 : Hp} (h : kF X.K X.w C.mt H1 H v (.dict kvs)) (e : v = .ref d) (p : PinD H d o) (f : Firms H H') : PinD H' d o := by
  have h : Rep X.K X.w H v (.dict kvs) := h
  cases h with
  | dct g0 g1 g2 g3 g4 g5 g6 =>
    cases e
    rcases p with ⟨u, p⟩ | p
    · exact .inl ⟨u, f _ _ p trivial⟩
    · rw [g0] at p; cases p
/-- a dict that nobody writes any more -/
theorem si_dct (ha : SE X C W H0 R a (eDct ea eb) md) (fs : ∀ {H H'}, P H H' → Firms H H') : SI X C W H0 R P tg a ea (md >>= fun d => pure (d.map (·.1))) :=
  si_dctG ha (fun _ _ _ _ h => .inl h) fs (fun h e p f => kF_pin h e p (fs f)) fun _ _ _ _ h => h
/-- a dict that is not written while it is walked -/
theorem si_dctB (ha : SB X C W H0 R a (eDct ea eb) md) : SI X C W H0 R (Ext C.mt) tg a ea (md >>= fun d => pure (d.map (·.1))) :=
  si_dctG ha (fun _ _ _ _ h => h) Ext.firms (fun {H H' v kvs d o} h e p f => by
    rcases h with h | ⟨_, _, _, _, e', _⟩ | ⟨a', u, kvs', e1, _, h2, h3, h4⟩
    · exact kF_pin (C := C) (H1 := H) h e p f.firms
    · cases e'
    · rw [e] at e1
      cases e1
      cases h3 with
      | n g1 g2 g3 g4 g5 g6 =>
        rcases p with ⟨u, p⟩ | p
        · exact .inl ⟨u, f _ _ p (.inr trivial)⟩
        · exact .inr (f _ _ p (.inl h4))) fun _ _ _ _ h => h
end
end TT

namespace TT
open PyM (fromO)
open PySem PySem.Spec PyProof.Rows L2
/-! ### dicts of one's own -/
section
variable {X : Cx} {m : Type → Type} [Monad m] [PyM m] {C : Wd X.K X.w m} {W : WX} {H0 : Hp} {R : Slots} {α β γ ρ ε δ : Type} {ea : α → PyData} {eb : β → PyData} {er : ρ → PyData} {Rb : ε → Slots} {Rn : δ → Slots}
variable {a b c e : Expr} {rest sts : List Stmt} {es : List Expr} {md : m (List (α × β))} {mk : m α} {mb : m β} {mi : m Int} {pos p p2 pos' : Pos} {mm : m (Out ρ ε δ)} {eg : γ → List Slot} {mg : m γ}
abbrev eKV (ea : α → PyData) (eb : β → PyData) (d : List (α × β)) : List (PyData × PyData) := d.map fun q => (ea q.1, eb q.2)
theorem sb_ownD {i : Nat} {x : Str} {d : List (α × β)} (hN : X.N[i]? = some x) (hv : Vis X.env.scope x) (hR : R[i]? = some (some (.ownD (eKV ea eb d)))) (hd : (x == ("__debug__" : Str)) = false) (hcd : (x == ("__classdict__" : Str)) = false) :
    SB X C W H0 R (.Name x pos) (eDct ea eb) (pure d) := .weak (pe_var hN hv hd hcd) fun σ H Q h => by
  obtain ⟨⟨s, c⟩, q⟩ := tR_pure h
  obtain ⟨v, e, a, u, h1, h2, h3, h4, h5⟩ := c.slot i _ hR
  exact ⟨v, e, q v H (.refl H) (.inr (.inr ⟨a, u, _, h1, rfl, h2, h3, h5⟩))⟩
theorem kOD_item {K : PySem.W.Frag} {w : World} {C : Wd K w m} {H H' : Hp} {s : PyM.S m} {d : List (α × β)} {v : V} (rl : C.rel s H) (h : kOD K w C.mt H H' v (eDct ea eb d)) : ItemOk K w C.mt H H' v (.ownD (eKV ea eb d)) := by
  obtain ⟨a, u, ds, rfl, e, h2, h3, h4⟩ := h
  have e : PyData.dict (eKV ea eb d) = .dict ds := e
  injection e with e
  subst e
  exact ⟨a, u, rfl, h2, h3, h4, fun z => by
    obtain ⟨o, ho, _⟩ := C.there _ _ _ rl z
    rw [h4] at ho; cases ho⟩
theorem sl_setD {i : Nat} {x : Str} {k : List (α × β) → m (Out ρ ε δ)} {pos' : Pos} (hN : X.N.Nodup) (hi : X.N[i]? = some x) (hx : Loc X.env.scope x) (hl : i < R.length) (h : SD X C W H0 R e (eDct ea eb) md) (hr : ∀ d, SL X C W H0 (R.set i (some (.ownD (eKV ea eb d)))) rest er Rb Rn (k d))
    (hs : swapsWith e (some (.Name x pos')) pos.line X.env = pure false) (hf : X.fn x = true ∨ X.env.scope.names.lookup x = some .local) : SL X C W H0 R (.Assign [.Name x pos'] e pos :: rest) er Rb Rn (md >>= k) :=
  ⟨(pss_cons (ps_set hN hi hx h.run hs hf) (u := fun D σ H => ∃ d, tS C W H0 (R.set i (some (.ownD (eKV ea eb d)))) er Rb Rn (k d) D σ H) ⟨fun pins s σ H D I ⟨a, q⟩ => (hr a).run.run pins s σ H D I q⟩).weak fun D σ H q => by
    obtain ⟨s0, c0, q0⟩ := id q
    refine tS_bind (k := kOD X.K X.w C.mt) (ea := eDct ea eb) q fun d v H' kv e nb ⟨s, c, q⟩ => ⟨d, s, ?_, q⟩
    obtain ⟨b, u, h1, h3, h4, h5, nm⟩ := kOD_item c0.rel kv
    subst h1
    have h0 : H0 b = none := by
      cases z : H0 b with
      | none => rfl
      | some o => rw [c0.base b o z (.inl nm)] at h5; cases h5
    refine c.setD hl h3 h4 h0 nm fun j y hy oy z => ?_
    obtain ⟨v, e1, ok⟩ := c0.slot j y hy
    rw [z] at e1; cases e1
    cases y with
    | ownD kvs =>
      obtain ⟨b', us, k1, k2, _⟩ := ok
      cases k1
      rw [h5] at k2; cases k2
    | own ds =>
      obtain ⟨b', us, k1, k2, _⟩ := ok
      cases k1
      rw [h5] at k2; cases k2
    | frz d => exact oy
    | adr a => exact oy
    | scr ns => exact oy⟩
theorem sm_consD (ha : SD X C W H0 R a (eDct ea eb) md) (hb : SM X C W H0 R es eg mg) (hs : starEach (a :: es) X.env = (false, eval a X.env) :: starEach es X.env := by rfl) :
    SM X C W H0 R (a :: es) (fun p : List (α × β) × γ => .ownD (eKV ea eb p.1) :: eg p.2) (md >>= fun x => mg >>= fun g => pure (x, g)) :=
  ⟨(pa_cons ha.run hb.run hs).weak fun σ H Q q => tX_cons (ka := kOD X.K X.w C.mt) (hb := hb) (f := fun x : List (α × β) => .ownD (eKV ea eb x)) (fun H H' s v a rl kv => kOD_item rl kv) q⟩
theorem sm_oneD (ha : SD X C W H0 R a (eDct ea eb) md) (hs : starEach (a :: []) X.env = (false, eval a X.env) :: starEach [] X.env := by rfl) : SM X C W H0 R [a] (fun x => [.ownD (eKV ea eb x)]) md :=
  ⟨(pa_cons ha.run pa_nil hs).weak fun σ H Q q => by
    obtain ⟨s, c, q⟩ := q
    refine ⟨s, c, ?_⟩
    cases z : PyM.run md s with
    | none => rw [z] at q; exact q
    | some p =>
      obtain ⟨r, s1⟩ := p
      rw [z] at q
      cases r with
      | error x => exact q
      | ok a => exact fun v H' e rl kv => q [v] H' e rl (.cons (kOD_item c.rel kv) (fun _ i y h => by simp at h) .nil)⟩
/-- a dict of its own is locked -/
theorem Cfg.lockD {K : PySem.W.Frag} {w : World} {C : Wd K w m} {s : PyM.S m} {σ : L2.St} {H : Hp} {i : Nat} {a : Addr} {u : HO} {ds : List (PyData × PyData)} {o : Obj} (c : Cfg C H0 R s σ H) (hR : R[i]? = some (some (.ownD ds))) (ha : σ[i]? = some (some (.ref a))) (h : H a = some u) (n : ¬ Firm u) (r : Rep K w (upd H a (.frz o u)) (.ref a) (.dict ds)) (h0 : H0 a = none) (hm : ¬ C.mt a) :
    Cfg C H0 (R.set i (some (.frz (.dict ds)))) s σ (upd H a (.frz o u)) := by
  have hl : i < R.length := by
    rcases Nat.lt_or_ge i R.length with z | z
    · exact z
    · rw [List.getElem?_eq_none z] at hR; cases hR
  have fm : Firms H (upd H a (.frz o u)) := firms_upd' h n
  have nf : ∀ b u', H b = some u' → Firm u' → b ≠ a := fun b u' hu f z => by subst z; rw [h] at hu; cases hu; exact n f
  refine ⟨by rw [List.length_set]; exact c.len, fun b u hb k => ?_, C.other _ _ _ _ c.rel hm nf, fun j y e => ?_, fun j l y y2 n e1 e2 o1 o2 => ?_⟩
  · rw [upd_ne (ne_of_none hb h0)]
    exact c.base b u hb k
  · by_cases q : i = j
    · subst q
      rw [List.getElem?_set_self hl] at e
      cases e
      exact ⟨.ref a, ha, r⟩
    · rw [List.getElem?_set_ne q] at e
      obtain ⟨v, h1, h2⟩ := c.slot j y e
      refine ⟨v, h1, ?_⟩
      cases y with
      | frz d => exact Rep.firm fm h2
      | adr b => exact h2
      | ownD es =>
        obtain ⟨b, us, k1, k2, k3, k4, k5⟩ := h2
        have nb : b ≠ a := fun z => c.apart i j _ _ q hR e trivial trivial (by rw [ha, h1, k1, z])
        exact ⟨b, us, k1, by rw [upd_ne nb]; exact k2, k3.firm fm, k4, k5⟩
      | own es =>
        obtain ⟨b, us, k1, k2, k3, k4, k5⟩ := h2
        have nb : b ≠ a := fun z => c.apart i j _ _ q hR e trivial trivial (by rw [ha, h1, k1, z])
        exact ⟨b, us, k1, by rw [upd_ne nb]; exact k2, Reps.firm fm k3, k4, k5⟩
      | scr ns =>
        obtain ⟨b, k1, k2, k3⟩ := h2
        refine ⟨b, k1, ?_, ?_⟩
        · rcases k3 with ⟨o, k3⟩ | k3
          · exact .inl (.inr ⟨o, fm _ _ k3 trivial⟩)
          · exact .inr k3
        · rcases k3 with ⟨o, k3⟩ | k3
          · exact .inl ⟨o, fm _ _ k3 trivial⟩
          · exact .inr k3
  · have n1 : i ≠ j := fun z => by
      subst z
      rw [List.getElem?_set_self hl] at e1
      cases e1
      exact o1
    have n2 : i ≠ l := fun z => by
      subst z
      rw [List.getElem?_set_self hl] at e2
      cases e2
      exact o2
    rw [List.getElem?_set_ne n1] at e1
    rw [List.getElem?_set_ne n2] at e2
    exact c.apart j l y y2 n e1 e2 o1 o2
theorem SL.lockD (i : Nat) {ds : List (PyData × PyData)} (hR : R[i]? = some (some (.ownD ds))) (h : SL X C W H0 (R.set i (some (.frz (.dict ds)))) sts er Rb Rn mm) : SL X C W H0 R sts er Rb Rn mm :=
  ⟨⟨fun pins s σ H D I q => by
    obtain ⟨s', c, q⟩ := q
    obtain ⟨v, h1, a, u, k1, k2, k3, k4, k5⟩ := c.slot i _ hR
    subst k1
    obtain ⟨o, I2, g⟩ := Inv.freezeD (K := X.K) I k2 k3
    have fm : Firms H (upd H a (.frz o u)) := firms_upd' k2 k3.soft
    exact h.run.run pins s σ _ D I2 ⟨s', c.lockD hR h1 k2 k3.soft (g fm) k4 k5, AfterS.mono fm q⟩⟩⟩
end
/-! ### d[k] = v -/
section
variable {X : Cx} {m : Type → Type} [Monad m] [PyM m] {C : Wd X.K X.w m} {W : WX} {H0 : Hp} {R : Slots} {α β γ ρ ε δ : Type} [DecidableEq α] {ea : α → PyData} {eb : β → PyData} {er : ρ → PyData} {Rb : ε → Slots} {Rn : δ → Slots}
variable {a b c e : Expr} {rest sts : List Stmt} {mk : m α} {mb : m β} {mi : m Int} {pos p p2 pos' : Pos}
/-- d[k] = v -/
def dPutG (d : List (α × β)) (k : α) (v : β) : Option (List (α × β)) := if d.length < 16777216 then some (dPut d k v) else none
theorem d_put {pins : List (Addr × Obj)} {σ : L2.St} {H : Hp} {s : Shared} {l : Addr} {u : HO} {d d' : List (α × β)} {key : α} {val : β} {i v : V} {iv w' : Value} {Q : Unit → Shared → Prop} (k : DKit X ea) (hu : X.A.units + 64 < cLine) (I : Inv X pins σ H s) (h : H l = some u) (dc : DCell X.K X.w H u l (eKV ea eb d))
    (ri : RelV i iv) (hi : Rep X.K X.w H i (ea key)) (rv : RelV v w') (hv : Rep X.K X.w H v (eb val)) (g : dPutG d key val = some d') (q : ∀ o s', Inv X pins σ (upd H l (DN l o)) s' → DCell X.K X.w H (DN l o) l (eKV ea eb d') → Q () s') : wpAny (model X.prog X.w) X.A (setItem (.ref l) iv w') Q X.xe s := by
  unfold dPutG at g
  split at g
  · rename_i hz
    cases g
    obtain ⟨l', ys, e, _, hs, of, dr, hzy, ty, _⟩ := kB_dct (mt := fun _ => False) (eb := eb) (kvs := d) k I (H1 := H) (v := .ref l) (.inr (.inr ⟨l, u, _, rfl, rfl, h, dc, fun z => z⟩)) rfl
    cases e
    have ly : ys.length = d.length := paired_len dr
    refine k.put (by omega) (k.is I hi ri) of hzy fun h' t of' hsb => ?_
    obtain ⟨o, ho, dc'⟩ := cell_of (eb := eb) (H := H) k hs of' (drel_put k.inj dr key ri hi rv hv) (by
      have := putT_len ys (k.ky key) iv w'
      rw [sizeLine_eq]
      omega)
    exact q o _ (d_write I (by rw [h]; cases dc; exact trivial) hsb ⟨o, ho⟩ (dn_ok ho)) dc'
  · cases g
theorem ps_dputK (k : DKit X ea) (hu : X.A.units + 64 < cLine) {o : Expr} {to ti te : TE} (ho : PE X o to) (hi : PE X b ti) (hv : PE X e te) (hs : swapsWith e (some (.Subscript o b p2)) pos.line X.env = pure false) :
    PS X (.Assign [.Subscript o b p2] e pos) (fun D σ H => te σ H fun v H1 => to σ H1 fun x H2 => ti σ H2 fun z H3 => ∃ (l : Addr) (u : HO) (d d' : List (α × β)) (key : α) (val : β), x = .ref l ∧ H3 l = some u ∧ DCell X.K X.w H3 u l (eKV ea eb d) ∧ Rep X.K X.w H3 z (ea key) ∧ Rep X.K X.w H3 v (eb val) ∧ dPutG d key val = some d' ∧ ∀ o, DCell X.K X.w H3 (DN l o) l (eKV ea eb d') → D.nx σ (upd H3 l (DN l o))) := by
  refine ⟨fun pins s σ H D I h => ?_⟩
  refine wpAny_Assign_Subscript (thn (hv.run pins s σ H _ I h) fun r s1 ⟨v, H1, I1, rv, q1⟩ => thn (ho.run pins s1 σ H1 _ I1 q1) fun u s2 ⟨x, H2, I2, rx, q2⟩ => thn (hi.run pins s2 σ H2 _ I2 q2) fun iv s3 ⟨y, H3, I3, ry, l, u, d, d', key, val, ex, hl, dc, rk, rb, g, q3⟩ => ?_) hs
  subst ex
  cases rx
  exact d_put k hu I3 hl dc ry rk rv rb g fun o s4 I4 dc => ⟨σ, _, I4, q3 o dc⟩
theorem ps_daugK (k : DKit X ea) (hu : X.A.units + 64 < cLine) {o : Expr} {to ti te : TE} {op : Operator} {rd : V → V → Hp → VK → Prop} (ho : PE X o to) (hi : PE X b ti) (hv : PE X e te) (hop : InOp X op rd)
    (ha : ∀ ov iv new, augStore b ov iv new = (do holding [new, ov, iv] (setItem ov iv new); release [new, ov, iv] []; pure .next)) :
    PS X (.AugAssign (.Subscript o b p2) op e pos) (fun D σ H => to σ H fun x H1 => ti σ H1 fun z H2 => ∃ (l : Addr) (u : HO) (d : List (α × β)) (key : α) (old : β), x = .ref l ∧ H2 l = some u ∧ DCell X.K X.w H2 u l (eKV ea eb d) ∧ Rep X.K X.w H2 z (ea key) ∧ dGet d key = some old ∧
      ∀ v, Rep X.K X.w H2 v (eb old) → te σ H2 fun y H3 => rd v y H3 fun nv H4 => ∃ (u' : HO) (d' : List (α × β)) (val : β), H4 l = some u' ∧ DCell X.K X.w H4 u' l (eKV ea eb d) ∧ Rep X.K X.w H4 z (ea key) ∧ Rep X.K X.w H4 nv (eb val) ∧ dPutG d key val = some d' ∧ ∀ o, DCell X.K X.w H4 (DN l o) l (eKV ea eb d') → D.nx σ (upd H4 l (DN l o))) := by
  refine ⟨fun pins s σ H D I h => ?_⟩
  refine wpAny_AugAssign_SubscriptAny (thn (ho.run pins s σ H _ I h) fun u s1 ⟨x, H1, I1, rx, q1⟩ => thn (hi.run pins s1 σ H1 _ I1 q1) fun iv s2 ⟨y, H2, I2, ry, l, u, d, key, old, ex, hl, dc, rk, hg, q2⟩ => ?_) ha
  subst ex
  cases rx
  obtain ⟨l', ys, e, _, hs, of, dr, hzy, ty, _⟩ := kB_dct (mt := fun _ => False) (eb := eb) (kvs := d) k I2 (H1 := H2) (v := .ref l) (.inr (.inr ⟨l, u, _, rfl, rfl, hl, dc, fun z => z⟩)) rfl
  cases e
  have g := drel_get k.inj key dr
  rw [hg] at g
  obtain ⟨w', v, g1, g2, g3⟩ := g
  refine k.get (by omega) hs (k.is I2 rk ry) of g1 fun t => thn (hv.run pins _ σ H2 _ (I2.tok t) (q2 v g3)) fun w2 s4 ⟨y2, H3, I4, ry2, q3⟩ => thn (hop pins s4 σ H3 v y2 w' w2 _ I4 g2 ry2 q3) fun w3 s5 ⟨z, H4, I5, rz, u', d', val, hl', dc', rk', rb, hp, q4⟩ => ?_
  exact d_put k hu I5 hl' dc' ry rk' rz rb hp fun o s6 I6 dc => ⟨σ, _, I6, q4 o dc⟩
theorem sl_dput (k : DKit X ea) (hu : X.A.units + 64 < cLine) {i : Nat} {x : Str} {d : List (α × β)} {f : List (α × β) → m (Out ρ ε δ)} {p1 : Pos} (hN : X.N[i]? = some x) (hv : Vis X.env.scope x) (hd : (x == ("__debug__" : Str)) = false) (hcd : (x == ("__classdict__" : Str)) = false)
    (hR : R[i]? = some (some (.ownD (eKV ea eb d)))) (ha : SE X C W H0 R e eb mb) (hb : SB X C W H0 R b ea mk) (hr : ∀ d : List (α × β), SL X C W H0 (R.set i (some (.ownD (eKV ea eb d)))) rest er Rb Rn (f d))
    (hs : swapsWith e (some (.Subscript (.Name x p1) b p2)) pos.line X.env = pure false) :
    SL X C W H0 R (.Assign [.Subscript (.Name x p1) b p2] e pos :: rest) er Rb Rn (mb >>= fun v => mk >>= fun q => fromO (dPutG d q v) >>= f) :=
  ⟨(pss_cons (ps_dputK (eb := eb) k hu (pe_var hN hv hd hcd) hb.run ha.run hs) (u := fun D σ H => ∃ d : List (α × β), tS C W H0 (R.set i (some (.ownD (eKV ea eb d)))) er Rb Rn (f d) D σ H) ⟨fun pins s σ H D I ⟨g, q⟩ => (hr g).run.run pins s σ H D I q⟩).weak fun D σ H q => by
    obtain ⟨s0, c0, _⟩ := id q
    obtain ⟨v0, hv', l, u0, rfl, hl, hdc, h0, hm⟩ := c0.slot i _ hR
    refine tS_bind (k := kF X.K X.w C.mt) (ea := eb) q fun val v H1 kv e1 _ q1 => ?_
    refine ⟨.ref l, hv', tS_bind (k := kB X.K X.w C.mt) (ea := ea) q1 fun key z H3 kz e2 _ ⟨s, c, q2⟩ => ?_⟩
    rw [PyM.run_bind, PyM.run_fromO] at q2
    have hl' := e2 l _ (e1 l _ hl (.inl hm)) (.inl hm)
    have dc3 := (hdc.firm e1.firms).firm e2.firms
    cases hg : dPutG d key val with
    | none => rw [hg] at q2; exact q2.elim
    | some d' =>
      rw [hg] at q2
      exact ⟨l, _, d, d', key, val, rfl, hl', dc3, kB_key (k.ok key) kz, Rep.firm e2.firms kv, hg, fun o dc => ⟨d', s, c.updD hR hv' hl' dc3.soft dc, AfterS.mono (firms_upd' hl' dc3.soft) q2⟩⟩⟩
/-- d[k] += j -/
theorem sl_daug {op : Operator} {fo : Int → Int → Int} (ho : InOp X op (ipI fo)) (k : DKit X ea) (hu : X.A.units + 64 < cLine) {i : Nat} {x : Str} {d : List (α × Int)} {f : List (α × Int) → m (Out ρ ε δ)} {p1 : Pos} (hN : X.N[i]? = some x) (hv : Vis X.env.scope x) (hd : (x == ("__debug__" : Str)) = false) (hcd : (x == ("__classdict__" : Str)) = false)
    (hR : R[i]? = some (some (.ownD (eKV ea eInt d)))) (hb : SB X C W H0 R b ea mk) (ha : SE X C W H0 R e eInt mi) (hr : ∀ d : List (α × Int), SL X C W H0 (R.set i (some (.ownD (eKV ea eInt d)))) rest er Rb Rn (f d))
    (hs : ∀ ov iv new, augStore b ov iv new = (do holding [new, ov, iv] (setItem ov iv new); release [new, ov, iv] []; pure .next)) :
    SL X C W H0 R (.AugAssign (.Subscript (.Name x p1) b p2) op e pos :: rest) er Rb Rn (mk >>= fun q => fromO (dGet d q) >>= fun old => mi >>= fun j => fromO (dPutG d q (fo old j)) >>= f) :=
  ⟨(pss_cons (ps_daugK (eb := eInt) k hu (pe_var hN hv hd hcd) hb.run ha.run ho hs) (u := fun D σ H => ∃ d : List (α × Int), tS C W H0 (R.set i (some (.ownD (eKV ea eInt d)))) er Rb Rn (f d) D σ H) ⟨fun pins s σ H D I ⟨g, q⟩ => (hr g).run.run pins s σ H D I q⟩).weak fun D σ H q => by
    obtain ⟨s0, c0, _⟩ := id q
    obtain ⟨v0, hv', l, u0, rfl, hl, hdc, h0, hm⟩ := c0.slot i _ hR
    refine ⟨.ref l, hv', tS_bind (k := kB X.K X.w C.mt) (ea := ea) q fun key z H2 kz e1 _ q1 => ?_⟩
    have kz' := kB_key (k.ok key) kz
    obtain ⟨s1, c1, q1'⟩ := id q1
    rw [PyM.run_bind, PyM.run_fromO] at q1'
    cases hg : dGet d key with
    | none => rw [hg] at q1'; exact q1'.elim
    | some old =>
      rw [hg] at q1'
      have q1 : tS C W H0 R er Rb Rn (mi >>= fun j => fromO (dPutG d key (fo old j)) >>= f) D σ H2 := ⟨s1, c1, q1'⟩
      refine ⟨l, _, d, key, old, rfl, e1 l _ hl (.inl hm), hdc.firm e1.firms, kz', hg, fun v rv => ?_⟩
      cases (show Rep X.K X.w H2 v (.int old) from rv)
      refine tS_bind (k := kF X.K X.w C.mt) (ea := eInt) q1 fun j y H3 ky e2 _ ⟨s, c, q2⟩ => ?_
      cases (show Rep X.K X.w H3 y (.int j) from ky)
      refine ⟨old, j, rfl, rfl, ?_⟩
      rw [PyM.run_bind, PyM.run_fromO] at q2
      have hl' := e2 l _ (e1 l _ hl (.inl hm)) (.inl hm)
      have dc3 := (hdc.firm e1.firms).firm e2.firms
      cases hg2 : dPutG d key (fo old j) with
      | none => rw [hg2] at q2; exact q2.elim
      | some d' =>
        rw [hg2] at q2
        exact ⟨_, d', fo old j, hl', dc3, Rep.firm e2.firms kz', .int _, hg2, fun o dc => ⟨d', s, c.updD hR hv' hl' dc3.soft dc, AfterS.mono (firms_upd' hl' dc3.soft) q2⟩⟩⟩
end
end TT

namespace TT
open PyM (fromO)
open PySem PySem.Spec PyProof.Rows L2
def eT6 {α β γ δ ε ζ : Type} (e0 : α → PyData) (e1 : β → PyData) (e2 : γ → PyData) (e3 : δ → PyData) (e4 : ε → PyData) (e5 : ζ → PyData) : α × β × γ × δ × ε × ζ → PyData := fun p => .tuple [e0 p.1, e1 p.2.1, e2 p.2.2.1, e3 p.2.2.2.1, e4 p.2.2.2.2.1, e5 p.2.2.2.2.2]
def eT7 {α β γ δ ε ζ η : Type} (e0 : α → PyData) (e1 : β → PyData) (e2 : γ → PyData) (e3 : δ → PyData) (e4 : ε → PyData) (e5 : ζ → PyData) (e6 : η → PyData) : α × β × γ × δ × ε × ζ × η → PyData := fun p => .tuple [e0 p.1, e1 p.2.1, e2 p.2.2.1, e3 p.2.2.2.1, e4 p.2.2.2.2.1, e5 p.2.2.2.2.2.1, e6 p.2.2.2.2.2.2]
def eT8 {α β γ δ ε ζ η θ : Type} (e0 : α → PyData) (e1 : β → PyData) (e2 : γ → PyData) (e3 : δ → PyData) (e4 : ε → PyData) (e5 : ζ → PyData) (e6 : η → PyData) (e7 : θ → PyData) : α × β × γ × δ × ε × ζ × η × θ → PyData := fun p => .tuple [e0 p.1, e1 p.2.1, e2 p.2.2.1, e3 p.2.2.2.1, e4 p.2.2.2.2.1, e5 p.2.2.2.2.2.1, e6 p.2.2.2.2.2.2.1, e7 p.2.2.2.2.2.2.2]
theorem edct_map {α β γ δ : Type} {ea : α → PyData} {eb : β → PyData} {ec : γ → PyData} {ed : δ → PyData} {g : α → γ} {g2 : β → δ} (h : ∀ a, ec (g a) = ea a) (h2 : ∀ b, ed (g2 b) = eb b) (d : List (α × β)) : eDct ec ed (d.map fun p => (g p.1, g2 p.2)) = eDct ea eb d := by
  simp only [eDct, List.map_map, Function.comp_def, h, h2]
section
variable {X : Cx} {m : Type → Type} [Monad m] [PyM m] {C : Wd X.K X.w m} {W : WX} {H0 : Hp} {R : Slots} {ρ ε δ α β γ ζ η θ : Type} {er : ρ → PyData} {Rb : ε → Slots} {Rn : δ → Slots} {sts : List Stmt}
theorem SL.asc5 {me : m α} {f : α → m γ} {g : α → γ → m ζ} {g2 : α → γ → ζ → m η} {k : η → m β} {r : β → m (Out ρ ε δ)} (h : SL X C W H0 R sts er Rb Rn (me >>= fun a => f a >>= fun b => g a b >>= fun c => g2 a b c >>= fun d => k d >>= r)) : SL X C W H0 R sts er Rb Rn ((me >>= fun a => f a >>= fun b => g a b >>= fun c => g2 a b c >>= k) >>= r) :=
  h.alike ((alike_assoc me _ r).trans (alike_bind fun a => (alike_assoc (f a) _ r).trans (alike_bind fun b => (alike_assoc (g a b) _ r).trans (alike_bind fun c => alike_assoc (g2 a b c) k r))))
end
/-! ### {k: v, ..} -/
section
variable {K : PySem.W.Frag} {w : World} {m : Type → Type} [Monad m] [PyM m] {α β : Type}
abbrev PsOk (K : PySem.W.Frag) (w : World) (ea : α → PyData) (eb : β → PyData) (H : Hp) : List (V × V) → List (α × β) → Prop := Paired fun p q => Rep K w H p.1 (ea q.1) ∧ Rep K w H p.2 (eb q.2)
def AfterPs (C : Wd K w m) (W : WX) (ea : α → PyData) (eb : β → PyData) (σ : L2.St) (H : Hp) (Q : List (V × V) → Hp → Prop) : Res (PyM.S m) (List (α × β)) → Prop
  | none => False
  | some (.ok l, s') => ∀ ps H', Ext C.mt H H' → C.rel s' H' → PsOk K w ea eb H' ps l → Q ps H'
  | some (.error x, s') => ∀ cls d H', Ext C.mt H H' → C.rel s' H' → C.exc x cls d H' → W cls d σ H'
end
structure SPs (X : Cx) {m : Type → Type} [Monad m] [PyM m] (C : Wd X.K X.w m) (W : WX) (H0 : Hp) (R : Slots) (pos : Pos) (keys : List (Option Expr)) (values : List Expr) {α β : Type} (ea : α → PyData) (eb : β → PyData) (mm : m (List (α × β))) : Prop where
  run : ∀ (pins : List (Addr × Obj)) (s : Shared) (σ : L2.St) (H : Hp) (Q : List (V × V) → Hp → Prop), Inv X pins σ H s → (∃ st, Cfg C H0 R st σ H ∧ AfterPs C W ea eb σ H Q (PyM.run mm st)) →
    wpAny (model X.prog X.w) X.A (evalPairs (pairTrees keys values X.env pos)) (fun vs s' => ∃ ps H', Inv X pins σ H' s' ∧ (VV ps vs ∧ vs.length = values.length) ∧ Q ps H') X.xe s
section
variable {X : Cx} {m : Type → Type} [Monad m] [PyM m] {C : Wd X.K X.w m} {W : WX} {H0 : Hp} {R : Slots} {α β : Type} {ea : α → PyData} {eb : β → PyData} {pos : Pos}
theorem sps_nil : SPs X C W H0 R pos [] [] ea eb (pure []) := ⟨fun pins s σ H Q I ⟨st, c, h⟩ => by
  rw [PyM.run_pure] at h
  exact pairTrees_nil_walk ⟨[], H, I, ⟨.nil, rfl⟩, h [] H .refl c.rel .nil⟩⟩
variable {k v : Expr} {ks : List (Option Expr)} {vs : List Expr} {mk : m α} {mv : m β} {ml : m (List (α × β))}
theorem PsOk.firm {H H' : Hp} (f : Firms H H') {ps : List (V × V)} {l : List (α × β)} (h : PsOk X.K X.w ea eb H ps l) : PsOk X.K X.w ea eb H' ps l := Paired.mapP h fun _ _ ⟨h1, h2⟩ => ⟨Rep.firm f h1, Rep.firm f h2⟩
theorem sps_cons (hk : SE X C W H0 R k ea mk) (hv : SE X C W H0 R v eb mv) (hr : SPs X C W H0 R pos ks vs ea eb ml) : SPs X C W H0 R pos (some k :: ks) (v :: vs) ea eb (mk >>= fun a => mv >>= fun b => ml >>= fun l => pure ((a, b) :: l)) := ⟨fun pins s σ H Q I ⟨st, c, h⟩ => by
  rw [PyM.run_bind] at h
  refine pairTrees_cons_walk ?_
  cases z1 : PyM.run mk st with
  | none => rw [z1] at h; exact h.elim
  | some p1 =>
  obtain ⟨r1, s1⟩ := p1
  rw [z1] at h
  cases r1 with
  | error x => exact thn (hk.run.run pins s σ H (fun _ _ => False) I ⟨st, c, by rw [z1]; exact fun cls d H' e rl ex => h cls d H' e rl ex⟩) fun _ _ ⟨_, _, _, _, f⟩ => f.elim
  | ok a =>
  refine thn (hk.run.run pins s σ H (fun x H1 => Ext C.mt H H1 ∧ C.rel s1 H1 ∧ Rep X.K X.w H1 x (ea a)) I ⟨st, c, by rw [z1]; exact fun x H1 e rl r => ⟨e, rl, r⟩⟩) fun u sh1 ⟨x, H1, I1, rx, e1, rl1, ra⟩ => ?_
  have h : AfterPs C W ea eb σ H Q (PyM.run (mv >>= fun b => ml >>= fun l => pure ((a, b) :: l)) s1) := h
  rw [PyM.run_bind] at h
  have c1 := c.ext e1 rl1
  cases z2 : PyM.run mv s1 with
  | none => rw [z2] at h; exact h.elim
  | some p2 =>
  obtain ⟨r2, s2⟩ := p2
  rw [z2] at h
  cases r2 with
  | error x => exact thn (hv.run.run pins sh1 σ H1 (fun _ _ => False) I1 ⟨s1, c1, by rw [z2]; exact fun cls d H' e rl ex => h cls d H' (e1.trans e) rl ex⟩) fun _ _ ⟨_, _, _, _, f⟩ => f.elim
  | ok b =>
  refine thn (hv.run.run pins sh1 σ H1 (fun x H2 => Ext C.mt H1 H2 ∧ C.rel s2 H2 ∧ Rep X.K X.w H2 x (eb b)) I1 ⟨s1, c1, by rw [z2]; exact fun x H1 e rl r => ⟨e, rl, r⟩⟩) fun u2 sh2 ⟨y, H2, I2, ry, e2, rl2, rb⟩ => ?_
  have h : AfterPs C W ea eb σ H Q (PyM.run (ml >>= fun l => pure ((a, b) :: l)) s2) := h
  rw [PyM.run_bind] at h
  have c2 := c1.ext e2 rl2
  have t : AfterPs C W ea eb σ H2 (fun ps H3 => Q ((x, y) :: ps) H3) (PyM.run ml s2) := by
    cases z3 : PyM.run ml s2 with
    | none => rw [z3] at h; exact h
    | some p3 =>
      obtain ⟨r3, s3⟩ := p3
      rw [z3] at h
      cases r3 with
      | error x => exact fun cls d H' e rl ex => h cls d H' ((e1.trans e2).trans e) rl ex
      | ok l =>
        have h : AfterPs C W ea eb σ H Q (PyM.run (pure ((a, b) :: l) : m (List (α × β))) s3) := h
        rw [PyM.run_pure] at h
        exact fun ps H3 e rl r => h _ H3 ((e1.trans e2).trans e) rl (.cons ⟨Rep.firm (e2.trans e).firms ra, Rep.firm e.firms rb⟩ r)
  exact thn (hr.run pins sh2 σ H2 _ I2 ⟨s2, c2, t⟩) fun ws sh3 ⟨ps, H3, I3, ⟨rel, ln⟩, q3⟩ => ⟨(x, y) :: ps, H3, I3, ⟨.cons ⟨rx, ry⟩ rel, by rw [List.length_cons, List.length_cons, ln]⟩, q3⟩⟩
theorem disp_src {pins : List (Addr × Obj)} {σ : L2.St} {H : Hp} {s : Shared} (kk : DKit X ea) (I : Inv X pins σ H s) : ∀ {ps : List (V × V)} {l : List (α × β)} {ws : List (Value × Value)}, PsOk X.K X.w ea eb H ps l → VV ps ws →
    ∃ zs : List Trip, ws = zs.map (fun z => (z.2.1, z.2.2)) ∧ (∀ z ∈ zs, kk.Is s.heap z.1 z.2.1) ∧ DRel X.K X.w H kk.ky ea eb zs l
  | [], [], [], .nil, .nil => ⟨[], rfl, by simp, .nil⟩
  | p :: ps, q :: l, u :: ws, .cons ⟨h1, h2⟩ t, .cons ⟨g1, g2⟩ t2 => by
    obtain ⟨zs, e, a1, a2⟩ := disp_src kk I t t2
    refine ⟨(kk.ky q.1, u.1, u.2) :: zs, by rw [e]; rfl, fun z hz => ?_, .cons ⟨rfl, ⟨_, g1, h1⟩, _, g2, h2⟩ a2⟩
    rcases List.mem_cons.mp hz with rfl | hz
    · exact kk.is I h1 g1
    · exact a1 z hz
theorem sd_disp [DecidableEq α] (kk : DKit X ea) (hu : X.A.units + 64 < cLine) {keys : List (Option Expr)} {values : List Expr} (h : SPs X C W H0 R pos keys values ea eb ml) (hall : keys.all (·.isSome) = true) (hl : keys.length = values.length) (h0 : keys ≠ []) (h15 : keys.length ≤ 15) :
    SD X C W H0 R (.Dict keys values pos) (eDct ea eb) (ml >>= fun l => pure (dOf l)) := by
  refine ⟨⟨fun pins s σ H Q I ⟨st, c, q⟩ => ?_⟩⟩
  have hn := I.hok.fresh (Nat.le_refl s.heap.objs.size)
  have hs : (s.heap.objs.size == sysModules) = false := beq_eq_false_iff_ne.mpr (Ne.symm (Nat.ne_of_lt I.big))
  obtain ⟨o0, ho0, dc0⟩ := cell_of (eb := eb) (H := H) kk hs (kk.new s.heap) (kvs := []) .nil (Nat.zero_le _)
  have I1 : Inv X pins σ (upd H s.heap.objs.size (DN s.heap.objs.size o0)) { s with heap := s.heap.push { cls := .type "dict", data := .dict #[] } } := I.laid (t' := s.toks) (fun b u e => Heap.get?_push_of_some _ e) (Nat.le_refl _) (dn_ok ho0)
  have nm : ∀ s', C.rel s' H → ¬ C.mt s.heap.objs.size := fun s' rl z => by
    obtain ⟨o, ho, _⟩ := C.there _ _ _ rl z
    rw [hn] at ho; cases ho
  have c1 := c.same (Same.new (o := DN s.heap.objs.size o0) hn)
  rw [PyM.run_bind] at q
  cases z1 : PyM.run ml st with
  | none => rw [z1] at q; exact q.elim
  | some p1 =>
  obtain ⟨r1, s1⟩ := p1
  rw [z1] at q
  have eH : Ext C.mt H (upd H s.heap.objs.size (DN s.heap.objs.size o0)) := .of_same (Same.new hn)
  cases r1 with
  | error x => exact kk.disp (by omega) hall hl h0 h15 (thn (h.run pins _ σ _ (fun _ _ => False) I1 ⟨st, c1, by rw [z1]; exact fun cls d H' e rl ex => q cls d H' (eH.trans e) rl ex⟩) fun _ _ ⟨_, _, _, _, f⟩ => f.elim)
  | ok l =>
  have q : After C W (kOD X.K X.w C.mt) (eDct ea eb) σ H Q (PyM.run (pure (dOf l) : m (List (α × β))) s1) := q
  rw [PyM.run_pure] at q
  refine kk.disp (by omega) hall hl h0 h15 (thn (h.run pins _ σ _ (fun ps H2 => Ext C.mt (upd H s.heap.objs.size (DN s.heap.objs.size o0)) H2 ∧ C.rel s1 H2 ∧ PsOk X.K X.w ea eb H2 ps l) I1 ⟨st, c1, by rw [z1]; exact fun ps H2 e rl r => ⟨e, rl, r⟩⟩) fun ws s2 ⟨ps, H2, I2, ⟨rel, ln⟩, e2, rl2, r2⟩ => ?_)
  obtain ⟨zs, e, a1, a2⟩ := disp_src kk I2 r2 rel
  have hp2 : H2 s.heap.objs.size = some (DN s.heap.objs.size o0) := e2 _ _ upd_same (.inl (nm st c.rel))
  obtain ⟨l', ys, e', _, _, of0, dr0, _⟩ := kB_dct (mt := fun _ => False) (eb := eb) (kvs := []) kk I2 (H1 := H2) (v := .ref s.heap.objs.size) (.inr (.inr ⟨_, _, _, rfl, rfl, hp2, dc0.firm (eH.trans e2).firms, fun z => z⟩)) rfl
  cases e'
  cases dr0
  refine ⟨zs, e, a1, of0, fun h' t of hsb => ?_⟩
  have lz2 := putsT_len zs []
  have lz : zs.length ≤ 15 := by
    have e6 : zs.length = ws.length := by rw [e, List.length_map]
    omega
  obtain ⟨o', ho', dc⟩ := cell_of (eb := eb) (H := H2) kk hs of (kvs := dOf l) (drel_puts kk.inj a2 .nil) (by rw [sizeLine_eq]; simp at lz2; omega)
  have nf : ∀ b u, H2 b = some u → Firm u → b ≠ s.heap.objs.size := fun b u hu f z => by subst z; rw [hp2] at hu; cases hu; exact f
  refine ⟨.ref s.heap.objs.size, upd H2 s.heap.objs.size (DN s.heap.objs.size o'), d_write I2 (by rw [hp2]; exact trivial) hsb ⟨o', ho'⟩ (dn_ok ho'), rfl, q _ _ (fun b u hb k => ?_) (C.other _ _ _ _ rl2 (nm st c.rel) nf) ⟨_, _, _, rfl, rfl, upd_same, dc.firm (firms_upd' hp2 fun z => z), hn⟩⟩
  rw [upd_ne (ne_of_none hb hn)]
  exact (eH.trans e2) b u hb k
end
end TT

namespace TT
open PyM (fromO)
open PySem L2
/-! ### plain laws of the mirror's words, in Option -/
theorem o_fromO {α : Type} (o : Option α) : (fromO o : Option α) = o := congrArg id (rfl : o = o)
theorem o_pure {α : Type} (a : α) : (pure a : Option α) = some a := congrArg id (rfl : some a = some a)
theorem o_bind {α β : Type} (a : α) (f : α → Option β) : (some a >>= f) = f a := congrArg id (rfl : f a = f a)
theorem o_go {α β : Type} {x : Option α} {a : α} {f : α → Option β} (h : x = some a) : (x >>= f) = f a := by rw [h]; rfl
theorem filter_yes {α : Type} : ∀ xs : List α, xs.filter (fun _ => true) = xs
  | [] => rfl
  | x :: xs => by rw [List.filter_cons_of_pos rfl, filter_yes xs]
theorem comp_some {α β : Type} {g : α → Option Bool} {f : α → Option β} {p : α → Bool} {q : α → β} : ∀ {xs : List α}, (∀ x ∈ xs, g x = some (p x)) → (∀ x ∈ xs, p x = true → f x = some (q x)) → compL g f xs = some ((xs.filter p).map q)
  | [], _, _ => rfl
  | x :: xs, h, h' => by
    show (g x >>= fun c => if c = true then f x >>= fun y => compL g f xs >>= fun ys => pure (y :: ys) else compL g f xs) = _
    rw [o_go (h x (by simp)), comp_some (fun y hy => h y (by simp [hy])) fun y hy => h' y (by simp [hy])]
    cases e : p x with
    | true =>
      rw [if_pos rfl, o_go (h' x (by simp) e)]
      simp [e]
    | false => rw [if_neg Bool.false_ne_true]; simp [e]
theorem comp_all {α β : Type} {f : α → Option β} {q : α → β} {xs : List α} (h : ∀ x ∈ xs, f x = some (q x)) : compL (fun _ => pure true) f xs = some (xs.map q) := by
  have := comp_some (g := fun _ => some true) (p := fun _ => true) (q := q) (f := f) (xs := xs) (fun _ _ => rfl) fun x hx _ => h x hx
  rw [filter_yes] at this
  exact this
theorem comp_pure {α β : Type} {p : α → Bool} {q : α → β} {xs : List α} : compL (m := Option) (fun x => pure (p x)) (fun x => pure (q x)) xs = some ((xs.filter p).map q) := comp_some (fun _ _ => rfl) fun _ _ _ => rfl
theorem fold_some {α δ : Type} {f : α → δ → Option δ} {g : δ → α → δ} (I : δ → Prop) : ∀ {xs : List α} {d : δ}, I d → (∀ x ∈ xs, ∀ d, I d → f x d = some (g d x) ∧ I (g d x)) → foldL f xs d = some (xs.foldl g d) ∧ I (xs.foldl g d)
  | [], d, i, _ => ⟨rfl, i⟩
  | x :: xs, d, i, h => by
    obtain ⟨e, i'⟩ := h x (by simp) d i
    show (f x d >>= foldL f xs) = _ ∧ _
    rw [o_go e]
    exact fold_some I i' fun y hy => h y (by simp [hy])
/-- by an invariant of the place and the state -/
theorem fold_inv {α δ : Type} {f : α → δ → Option δ} (I : Nat → δ → Prop) : ∀ {xs : List α} {d : δ} (i : Nat), I i d → (∀ (j : Nat) (x : α) (d : δ), xs[j]? = some x → I (i + j) d → ∃ d', f x d = some d' ∧ I (i + j + 1) d') → ∃ d', foldL f xs d = some d' ∧ I (i + xs.length) d'
  | [], d, i, h, _ => ⟨d, rfl, h⟩
  | x :: xs, d, i, h, t => by
    obtain ⟨d', e, i'⟩ := t 0 x d (by simp) h
    obtain ⟨r, e2, i2⟩ := fold_inv I (xs := xs) (d := d') (i + 1) i' fun j y d hy hd => by
      have := t (j + 1) y d (by simpa using hy) (by rw [show i + (j + 1) = i + 1 + j by omega]; exact hd)
      rw [show i + 1 + j + 1 = i + (j + 1) + 1 by omega]
      exact this
    refine ⟨r, ?_, ?_⟩
    · show (f x d >>= foldL f xs) = _
      rw [o_go e]; exact e2
    · rw [List.length_cons, show i + (xs.length + 1) = i + 1 + xs.length by omega]; exact i2
theorem range_some {lo hi : Int} (h : -1000000000 ≤ lo ∧ lo ≤ 1000000000 ∧ -1000000000 ≤ hi ∧ hi ≤ 1000000000 ∧ hi - lo ≤ 16777216) : rangeG lo hi = some (rangeL lo (hi - lo).toNat) := if_pos h
theorem range_nat {n : Nat} (h : n ≤ 16777216) : rangeG 0 (n : Int) = some (rangeL 0 n) := by
  rw [range_some (by omega)]
  congr 1
theorem rangeL_map (lo : Int) (n : Nat) : rangeL lo n = (List.range n).map fun (i : Nat) => lo + (i : Int) := by
  apply List.ext_getElem?
  intro i
  by_cases h : i < n
  · rw [rangeL_get n lo i h, List.getElem?_map, List.getElem?_range h]; rfl
  · rw [List.getElem?_eq_none (by rw [rangeL_len]; omega), List.getElem?_eq_none (by simp; omega)]
theorem mem_rangeL {lo : Int} {n : Nat} {x : Int} : x ∈ rangeL lo n ↔ lo ≤ x ∧ x < lo + n := by
  rw [rangeL_map]
  simp only [List.mem_map, List.mem_range]
  constructor
  · rintro ⟨i, h, rfl⟩; omega
  · rintro ⟨h1, h2⟩; exact ⟨(x - lo).toNat, by omega, by omega⟩
theorem at_nat {α : Type} {xs : List α} {i : Nat} {x : α} (h : xs[i]? = some x) : L2.atI xs (i : Int) = some x := atI_nat h
theorem at_int {α : Type} {xs : List α} {k : Int} (h : 0 ≤ k) (h2 : k < xs.length) : L2.atI xs k = some (xs[k.toNat]'(by omega)) := by
  have e : k = ((k.toNat : Nat) : Int) := by omega
  have q : L2.atI xs ((k.toNat : Nat) : Int) = some (xs[k.toNat]'(by omega)) := at_nat (List.getElem?_eq_getElem _)
  rw [← e] at q
  exact q
theorem cat_some {α : Type} {xs ys : List α} (h : xs.length + ys.length ≤ 16777216) : catG xs ys = some (xs ++ ys) := if_pos h
theorem app_some {α : Type} {xs : List α} {a : α} (h : xs.length < 16777216) : appG xs a = some (xs ++ [a]) := if_pos h
theorem mul_some {i j : Int} (h : i.natAbs < 2 ^ 4000 ∧ j.natAbs < 2 ^ 4000) : mulG i j = some (i * j) := if_pos h
theorem big_of {i : Int} (h : i.natAbs < 2 ^ 200) : i.natAbs < 2 ^ 4000 := Nat.lt_of_lt_of_le h (Nat.pow_le_pow_right (by decide) (by decide))
theorem mul_small {i j : Int} (h : i.natAbs < 1267650600228229401496703205376) (h' : j.natAbs < 1267650600228229401496703205376) : mulG i j = some (i * j) := by
  have e : (1267650600228229401496703205376 : Nat) = 2 ^ 100 := by decide
  rw [e] at h h'
  have z : (2 : Nat) ^ 100 ≤ 2 ^ 4000 := Nat.pow_le_pow_right (by decide) (by decide)
  exact mul_some ⟨Nat.lt_of_lt_of_le h z, Nat.lt_of_lt_of_le h' z⟩
theorem mod_pos {i j : Int} (h : 0 < j) : modG i j = some (i % j) := by
  unfold modG
  rw [if_pos (by omega), Int.fmod_eq_emod_of_nonneg i (by omega)]
theorem div_small {i j : Int} (h : 0 < j) (h' : j.natAbs < 1073741824) : divG i j = some (i / j) := by
  unfold divG
  rw [if_pos (.inr ⟨by omega, h'⟩), Int.fdiv_eq_ediv_of_nonneg i (by omega)]
theorem supO_of {α : Type} {f : Nat → Option α} {n : Nat} {a : α} (h : f n = some a) (u : ∀ m b, f m = some b → b = a) : supO f = some a := by
  unfold supO
  have ex : ∃ n, (f n).isSome = true := ⟨n, by rw [h]; rfl⟩
  split
  · rename_i hx
    cases e : f (Classical.choose hx) with
    | none => have := Classical.choose_spec hx; rw [e] at this; cases this
    | some b => rw [u _ _ e]
  · rename_i hx
    exact absurd ex hx
/-! ### while, in Option -/
theorem whileFP_mono {δ : Type} {c : δ → Option Bool} {b : δ → Option δ} : ∀ (n : Nat) (d r : δ), whileFP c b n d = some r → ∀ m, n ≤ m → whileFP c b m d = some r
  | 0, d, r, h, _, _ => by cases h
  | n + 1, d, r, h, m, hm => by
    obtain ⟨m, rfl⟩ : ∃ k, m = k + 1 := ⟨m - 1, by omega⟩
    have h : (c d >>= fun t => if t = true then b d >>= whileFP c b n else pure d) = some r := h
    show (c d >>= fun t => if t = true then b d >>= whileFP c b m else pure d) = some r
    cases e : c d with
    | none => rw [e] at h; cases h
    | some t =>
      rw [e] at h
      cases t with
      | false => exact h
      | true =>
        have h : (b d >>= whileFP c b n) = some r := h
        show (b d >>= whileFP c b m) = some r
        cases e2 : b d with
        | none => rw [e2] at h; cases h
        | some d' =>
          rw [e2] at h
          exact whileFP_mono n d' r h m (by omega)
theorem whileM_of {δ : Type} {c : δ → Option Bool} {b : δ → Option δ} {n : Nat} {d r : δ} (h : whileFP c b n d = some r) : whileM c b d = some r :=
  supO_of (f := fun n => whileFP c b n d) h fun m q e => by
    have h1 := whileFP_mono n d r h (max n m) (Nat.le_max_left _ _)
    have h2 := whileFP_mono m d q e (max n m) (Nat.le_max_right _ _)
    rw [h1] at h2
    exact (Option.some.inj h2).symm
/-- a measure that falls, an invariant -/
theorem while_inv {δ : Type} {c : δ → Option Bool} {b : δ → Option δ} (I : δ → Prop) (μ : δ → Nat) (h : ∀ d, I d → ∃ t, c d = some t ∧ (t = true → ∃ d', b d = some d' ∧ I d' ∧ μ d' < μ d)) : ∀ (n : Nat) (d : δ), μ d < n → I d → ∃ r, whileFP c b n d = some r ∧ I r ∧ c r = some false
  | 0, _, z, _ => absurd z (Nat.not_lt_zero _)
  | n + 1, d, z, i => by
    obtain ⟨t, e, ht⟩ := h d i
    show ∃ r, (c d >>= fun t => if t = true then b d >>= whileFP c b n else pure d) = some r ∧ _
    rw [o_go e]
    cases t with
    | false => exact ⟨d, rfl, i, e⟩
    | true =>
      obtain ⟨d', e2, i', l⟩ := ht rfl
      rw [if_pos rfl, o_go e2]
      exact while_inv I μ h n d' (by omega) i'
theorem whileM_inv {δ : Type} {c : δ → Option Bool} {b : δ → Option δ} (I : δ → Prop) (μ : δ → Nat) (h : ∀ d, I d → ∃ t, c d = some t ∧ (t = true → ∃ d', b d = some d' ∧ I d' ∧ μ d' < μ d)) {d : δ} (i : I d) : ∃ r, whileM c b d = some r ∧ I r ∧ c r = some false := by
  obtain ⟨r, e, i', e'⟩ := while_inv I μ h (μ d + 1) d (Nat.lt_succ_self _) i
  exact ⟨r, whileM_of e, i', e'⟩

/-! ### the law's own runs: every draw -/
def Good {α : Type} (x : WM DW α) (P : α → Prop) : Prop := ∀ s : DW, 0 ≤ s.2 → ∃ a s', x.run s = some (a, s') ∧ 0 ≤ s'.2 ∧ P a
theorem Good.pure {α : Type} {a : α} {P : α → Prop} (h : P a) : Good (Pure.pure a) P := fun s hs => ⟨a, s, rfl, hs, h⟩
theorem Good.bind {α β : Type} {x : WM DW α} {f : α → WM DW β} {P : α → Prop} {Q : β → Prop} (h : Good x P) (h' : ∀ a, P a → Good (f a) Q) : Good (x >>= f) Q := fun s hs => by
  obtain ⟨a, s1, e, h1, p⟩ := h s hs
  obtain ⟨b, s2, e2, h2, q⟩ := h' a p s1 h1
  refine ⟨b, s2, ?_, h2, q⟩
  show (x.run s >>= fun p => (f p.1).run p.2) = _
  rw [e]
  exact e2
theorem Good.imp {α : Type} {x : WM DW α} {P Q : α → Prop} (h : Good x P) (i : ∀ a, P a → Q a) : Good x Q := fun s hs => let ⟨a, s', e, h', p⟩ := h s hs; ⟨a, s', e, h', i a p⟩
theorem Good.fromO {α : Type} {o : Option α} {a : α} {P : α → Prop} (h : o = some a) (p : P a) : Good (PyM.fromO o) P := fun s hs => ⟨a, s, by rw [h]; rfl, hs, p⟩
/-- a known value, then the rest -/
theorem Good.go {α β : Type} {o : Option α} {a : α} {f : α → WM DW β} {Q : β → Prop} (h : o = some a) (h' : Good (f a) Q) : Good (PyM.fromO o >>= f) Q := Good.bind (P := fun x => x = a) (.fromO h rfl) fun x e => e ▸ h'
theorem Good.go0 {α β : Type} {a : α} {f : α → WM DW β} {Q : β → Prop} (h' : Good (f a) Q) : Good (Pure.pure a >>= f) Q := Good.bind (P := fun x => x = a) (.pure rfl) fun x e => e ▸ h'
theorem Good.asc {α β γ : Type} {x : WM DW α} {f : α → WM DW β} {g : β → WM DW γ} {Q : γ → Prop} (h : Good (x >>= fun a => f a >>= g) Q) : Good ((x >>= f) >>= g) Q := by rw [bind_assoc]; exact h
theorem Good.ite {α : Type} {c : Bool} {x y : WM DW α} {P : α → Prop} (h : c = true → Good x P) (h' : c = false → Good y P) : Good (if c = true then x else y) P := by
  cases c with
  | true => exact h rfl
  | false => exact h' rfl
inductive All2 {α β : Type} (Q : α → β → Prop) : List α → List β → Prop
  | nil : All2 Q [] []
  | cons {x y xs ys} : Q x y → All2 Q xs ys → All2 Q (x :: xs) (y :: ys)
theorem Good.comp {α β : Type} {f : α → WM DW β} {Q : α → β → Prop} : ∀ {xs : List α}, (∀ x ∈ xs, Good (f x) (Q x)) → Good (compL (fun _ => Pure.pure true) f xs) (fun ys => All2 Q xs ys)
  | [], _ => .pure .nil
  | x :: xs, h => by
    show Good (Pure.pure true >>= fun c => if c = true then f x >>= fun y => compL (fun _ => Pure.pure true) f xs >>= fun ys => Pure.pure (y :: ys) else compL (fun _ => Pure.pure true) f xs) _
    refine .go0 ?_
    rw [if_pos rfl]
    exact .bind (h x (by simp)) fun y hy => .bind (Good.comp fun z hz => h z (by simp [hz])) fun ys hys => .pure (.cons hy hys)
theorem Good.comp' {α β : Type} {f : α → WM DW β} {Q : β → Prop} {xs : List α} (h : ∀ x ∈ xs, Good (f x) Q) : Good (compL (fun _ => Pure.pure true) f xs) (fun ys => ys.length = xs.length ∧ ∀ y ∈ ys, Q y) := by
  refine (Good.comp (Q := fun _ => Q) h).imp fun ys hy => ⟨?_, ?_⟩
  · clear h
    induction hy with
    | nil => rfl
    | cons _ _ ih => simp [ih]
  · clear h
    induction hy with
    | nil => simp
    | cons h _ ih => simp; exact ⟨h, ih⟩
/-- a comprehension that draws nothing -/
theorem Good.compO {α β : Type} {g : α → WM DW Bool} {f : α → WM DW β} {p : α → Bool} {q : α → β} : ∀ {xs : List α}, (∀ x ∈ xs, Good (g x) (· = p x)) → (∀ x ∈ xs, p x = true → Good (f x) (· = q x)) → Good (compL g f xs) (· = (xs.filter p).map q)
  | [], _, _ => .pure rfl
  | x :: xs, h, h' => by
    show Good (g x >>= fun c => if c = true then f x >>= fun y => compL g f xs >>= fun ys => Pure.pure (y :: ys) else compL g f xs) _
    have ih := Good.compO (xs := xs) (fun y hy => h y (by simp [hy])) fun y hy => h' y (by simp [hy])
    refine .bind (h x (by simp)) fun c hc => ?_
    subst hc
    refine .ite (fun e => ?_) fun e => ?_
    · refine .bind (h' x (by simp) e) fun y hy => .bind ih fun ys hys => .pure ?_
      subst hy hys
      simp [e]
    · refine ih.imp fun ys hys => ?_
      subst hys
      simp [e]
theorem Good.compA {α β : Type} {f : α → WM DW β} {q : α → β} {xs : List α} (h : ∀ x ∈ xs, Good (f x) (· = q x)) : Good (compL (fun _ => Pure.pure true) f xs) (· = xs.map q) := by
  refine (Good.compO (p := fun _ => true) (q := q) (fun _ _ => .pure rfl) fun x hx _ => h x hx).imp fun ys hy => ?_
  rw [filter_yes] at hy
  exact hy
theorem Good.foldL {α δ : Type} {f : α → δ → WM DW δ} (I : δ → Prop) : ∀ {xs : List α} {d : δ}, I d → (∀ x ∈ xs, ∀ d, I d → Good (f x d) I) → Good (TT.foldL f xs d) I
  | [], d, i, _ => .pure i
  | x :: xs, d, i, h => .bind (h x (by simp) d i) fun d' i' => Good.foldL I i' fun y hy => h y (by simp [hy])
/-- the state at the place of a loop -/
theorem Good.foldI {α δ : Type} {f : α → δ → WM DW δ} (I : Nat → δ → Prop) : ∀ {xs : List α} {d : δ} (i : Nat), I i d → (∀ (j : Nat) (x : α) (d : δ), xs[j]? = some x → I (i + j) d → Good (f x d) (I (i + j + 1))) → Good (TT.foldL f xs d) (I (i + xs.length))
  | [], d, i, h, _ => .pure h
  | x :: xs, d, i, h, t => by
    refine .bind (t 0 x d (by simp) h) fun d' i' => ?_
    have := Good.foldI I (xs := xs) (d := d') (i + 1) i' fun j y d hy hd => by
      have := t (j + 1) y d (by simpa using hy) (by rw [show i + (j + 1) = i + 1 + j by omega]; exact hd)
      rw [show i + 1 + j + 1 = i + (j + 1) + 1 by omega]
      exact this
    rw [List.length_cons, show i + (xs.length + 1) = i + 1 + xs.length by omega]
    exact this
/-- a loop that is never left -/
theorem Good.loop {α δ ρ : Type} {f : α → δ → WM DW (Out ρ δ δ)} (I : δ → Prop) : ∀ {xs : List α} {d : δ}, I d → (∀ x ∈ xs, ∀ d, I d → Good (f x d) (fun o => ∃ d', o = .nx d' ∧ I d')) → Good (loopL f xs d) (fun r => ∃ d', r = .inl d' ∧ I d')
  | [], d, i, _ => .pure ⟨d, rfl, i⟩
  | x :: xs, d, i, h => .bind (h x (by simp) d i) fun o ⟨d', e, i'⟩ => by
    subst e
    exact Good.loop I i' fun y hy => h y (by simp [hy])
/-! ### the draws -/
noncomputable def nextM (many_ : Int) : WM DW Int :=
  incAt >>= fun _ =>
  (rdAt >>= fun v1 => rdDraws >>= fun v2 => pure (decide ((v2.length : Int) < v1))) >>= fun b => if b = true then ((pure (0 : Int))) else
  (rdDraws >>= fun v3 => rdAt >>= fun v4 => fromO (L2.atI v3 (v4 - (1 : Int))) >>= fun v5 => fromO (modG v5 many_))
theorem Good.nextM {n : Int} (h : 0 < n) : Good (nextM n) (fun v => 0 ≤ v ∧ v < n) := fun s hs => by
  obtain ⟨ds, k⟩ := s
  have hs : 0 ≤ k := hs
  by_cases z : (ds.length : Int) < k + 1
  · refine ⟨0, (ds, k + 1), ?_, by show 0 ≤ k + 1; omega, by omega, h⟩
    show (if decide ((ds.length : Int) < k + 1) = true then _ else _ : WM DW Int).run (ds, k + 1) = _
    rw [if_pos (decide_eq_true z)]
    rfl
  · have l : k < ds.length := by omega
    refine ⟨(ds[k.toNat]'(by omega)) % n, (ds, k + 1), ?_, by show 0 ≤ k + 1; omega, Int.emod_nonneg _ (by omega), Int.emod_lt_of_pos _ h⟩
    show (if decide ((ds.length : Int) < k + 1) = true then _ else _ : WM DW Int).run (ds, k + 1) = _
    rw [if_neg (by simpa using z)]
    have e1 : L2.atI ds (k + 1 - 1) = some (ds[k.toNat]'(by omega)) := by rw [show k + 1 - 1 = k by omega]; exact at_int hs l
    show ((PyM.fromO (L2.atI ds (k + 1 - 1)) : WM DW Int) >>= fun v5 => PyM.fromO (modG v5 n)).run (ds, k + 1) = _
    rw [e1]
    show (PyM.fromO (modG _ n) : WM DW Int).run (ds, k + 1) = _
    rw [mod_pos h]
    rfl
end TT

namespace TT
open PyM (fromO)
open PySem L2
/-! ### what is drawn of a script: a list, whatever the script -/
noncomputable def drawsM (script_ : List Int) (many_ : Int) : Option (List Int) :=
  (pure []) >>= fun draws_ =>
  (pure (7 : Int)) >>= fun mixed_ =>
  (fromO (rangeG 0 (script_.length : Int))) >>= fun xs => foldL (fun k_ d_ => (fromO (L2.atI script_ k_) >>= fun v2 => pure (absI v2)) >>= fun cell_ =>
  (fromO (mulG d_.1 (48271 : Int)) >>= fun v3 => fromO (modG cell_ (1000003 : Int)) >>= fun v4 => fromO (modG ((v3 + v4) + k_) (65537 : Int))) >>= fun mixed_2 =>
  (pure (0 : Int)) >>= fun rest_ =>
  (fromO (powG (10 : Int) (18 : Int)) >>= fun v6 => pure (decide (v6 ≤ cell_))) >>= fun t => (if t = true then ((pure cell_) >>= fun rest_2 =>
  pure (rest_2, d_.2)) else ((fromO (modG cell_ (997 : Int))) >>= fun a => fromO (appG d_.2 a) >>= fun draws_2 =>
  (fromO (mulG mixed_2 (69621 : Int)) >>= fun v8 => fromO (modG (v8 + (5 : Int)) (65521 : Int)) >>= fun v9 => fromO (modG v9 (997 : Int))) >>= fun a => fromO (appG draws_2 a) >>= fun draws_3 =>
  pure (rest_, draws_3))) >>= fun d_3 =>
  (fromO (rangeG 0 (60 : Int))) >>= fun xs => foldL (fun turn_ d_4 => (pure (decide ((0 : Int) < d_4.2))) >>= fun t => (if t = true then ((fromO (modG d_4.2 (997 : Int))) >>= fun a => fromO (appG d_4.1 a) >>= fun draws_4 =>
  (fromO (divG d_4.2 (997 : Int))) >>= fun rest_3 =>
  pure (draws_4, rest_3)) else (pure (d_4.1, d_4.2))) >>= fun d_6 =>
  pure (d_6.1, d_6.2)) xs (d_3.2, d_3.1) >>= fun d_5 =>
  pure (mixed_2, d_5.1)) xs (mixed_, draws_) >>= fun d_2 =>
  (fromO (rangeG 0 many_)) >>= fun xs => foldL (fun k_2 d_7 => (fromO (mulG d_7.1 (16807 : Int)) >>= fun v15 => fromO (modG ((v15 + k_2) + (1 : Int)) (65537 : Int))) >>= fun mixed_3 =>
  (fromO (modG mixed_3 (997 : Int))) >>= fun a => fromO (appG d_7.2 a) >>= fun draws_5 =>
  pure (mixed_3, draws_5)) xs (d_2.1, d_2.2) >>= fun d_8 =>
  (pure (cutA d_8.2 none (some many_)))
theorem pow18 : powG 10 18 = some 1000000000000000000 := by
  unfold powG
  rw [if_pos (by decide)]
  rfl
theorem get_mem {α : Type} {xs : List α} {i : Nat} {x : α} (h : xs[i]? = some x) : x ∈ xs := List.mem_of_getElem? h
/-- the inner walk -/
theorem draws_in {ds : List Int} {rest : Int} (h : ds.length ≤ 16000000) : ∃ r : List Int × Int, foldL (m := Option) (fun (turn_ : Int) (d_4 : List Int × Int) => (if decide ((0 : Int) < d_4.2) = true then ((modG d_4.2 (997 : Int)) >>= fun a => appG d_4.1 a >>= fun draws_4 =>
        (divG d_4.2 (997 : Int)) >>= fun rest_3 =>
        some (draws_4, rest_3)) else (some (d_4.1, d_4.2))) >>= fun d_6 =>
        some (d_6.1, d_6.2)) (rangeL 0 60) (ds, rest) = some r ∧ r.1.length ≤ ds.length + 60 := by
  obtain ⟨r, e, i⟩ := fold_inv (f := fun (turn_ : Int) (d_4 : List Int × Int) => (if decide ((0 : Int) < d_4.2) = true then ((modG d_4.2 (997 : Int)) >>= fun a => appG d_4.1 a >>= fun draws_4 =>
        (divG d_4.2 (997 : Int)) >>= fun rest_3 =>
        some (draws_4, rest_3)) else (some (d_4.1, d_4.2))) >>= fun d_6 =>
        some (d_6.1, d_6.2)) (fun i r => i ≤ 60 ∧ r.1.length ≤ ds.length + i) (xs := rangeL 0 60) (d := (ds, rest)) 0 ⟨by omega, Nat.le_refl _⟩ (by
    intro j x d hj i
    have hj : j < 60 := by
      rcases Nat.lt_or_ge j 60 with z | z
      · exact z
      · rw [List.getElem?_eq_none (by rw [rangeL_len]; exact z)] at hj; cases hj
    by_cases z : 0 < d.2
    · refine ⟨(d.1 ++ [d.2 % 997], d.2 / 997), ?_, by omega, ?_⟩
      · simp only [o_bind, decide_eq_true z, if_true, mod_pos (i := d.2) (show (0 : Int) < 997 by decide), app_some (xs := d.1) (show d.1.length < 16777216 by omega), div_small (i := d.2) (show (0 : Int) < 997 by decide) (by decide)]
      · simp; omega
    · refine ⟨d, ?_, by omega, by omega⟩
      simp only [o_bind, decide_eq_false z, Bool.false_eq_true, if_false])
  rw [rangeL_len] at i
  exact ⟨r, e, by omega⟩
theorem draws_some {script : List Int} {n : Nat} (h : script.length ≤ 1000) (hn : n ≤ 1000) : ∃ ds, drawsM script n = some ds := by
  have r60 : rangeG 0 60 = some (rangeL 0 60) := range_nat (n := 60) (by decide)
  have n997 : (0 : Int) < 997 := by decide
  unfold drawsM
  simp only [o_pure, o_bind, o_fromO, range_nat (show script.length ≤ 16777216 by omega), range_nat (show n ≤ 16777216 by omega)]
  obtain ⟨r, e, i⟩ := fold_inv (f := fun (k_ : Int) (d_ : Int × List Int) => (L2.atI script k_ >>= fun v2 => some (absI v2)) >>= fun cell_ =>
  (mulG d_.1 (48271 : Int) >>= fun v3 => modG cell_ (1000003 : Int) >>= fun v4 => modG ((v3 + v4) + k_) (65537 : Int)) >>= fun mixed_2 =>
  (powG (10 : Int) (18 : Int) >>= fun v6 => some (decide (v6 ≤ cell_))) >>= fun t => (if t = true then some (cell_, d_.2) else (modG cell_ (997 : Int)) >>= fun a => appG d_.2 a >>= fun draws_2 =>
  (mulG mixed_2 (69621 : Int) >>= fun v8 => modG (v8 + (5 : Int)) (65521 : Int) >>= fun v9 => modG v9 (997 : Int)) >>= fun a => appG draws_2 a >>= fun draws_3 =>
  some ((0 : Int), draws_3)) >>= fun d_3 =>
  (rangeG 0 (60 : Int)) >>= fun xs => foldL (fun turn_ d_4 => (if decide ((0 : Int) < d_4.2) = true then ((modG d_4.2 (997 : Int)) >>= fun a => appG d_4.1 a >>= fun draws_4 =>
  (divG d_4.2 (997 : Int)) >>= fun rest_3 =>
  some (draws_4, rest_3)) else (some (d_4.1, d_4.2))) >>= fun d_6 =>
  some (d_6.1, d_6.2)) xs (d_3.2, d_3.1) >>= fun d_5 =>
  some (mixed_2, d_5.1)) (fun i r => i ≤ script.length ∧ 0 ≤ r.1 ∧ r.1 < 65537 ∧ r.2.length ≤ 62 * i) (xs := rangeL 0 script.length) (d := (7, [])) 0 ⟨by omega, by decide, by decide, Nat.le_refl _⟩ (by
    intro j x d hj i
    have hx := get_mem hj
    rw [mem_rangeL] at hx
    have hj : j < script.length := by
      rcases Nat.lt_or_ge j script.length with z | z
      · exact z
      · rw [List.getElem?_eq_none (by rw [rangeL_len]; exact z)] at hj; cases hj
    obtain ⟨i1, i2, i3, i4⟩ := i
    rw [at_int (xs := script) hx.1 (by omega)]
    simp only [o_bind, mul_small (i := d.1) (j := 48271) (by omega) (by decide), mod_pos (show (0 : Int) < 1000003 by decide), mod_pos (show (0 : Int) < 65537 by decide), pow18]
    generalize absI (script[x.toNat]'(by omega)) = cell
    have m1 := Int.emod_nonneg (d.1 * 48271 + cell % 1000003 + x) (show (65537 : Int) ≠ 0 by decide)
    have m2 := Int.emod_lt_of_pos (d.1 * 48271 + cell % 1000003 + x) (show (0 : Int) < 65537 by decide)
    generalize (d.1 * 48271 + cell % 1000003 + x) % 65537 = mixed at m1 m2
    have fin : ∀ (ds : List Int) (rest : Int), ds.length ≤ d.2.length + 2 → ∃ d', (some (rest, ds) >>= fun d_3 =>
        (rangeG 0 (60 : Int)) >>= fun xs => foldL (fun turn_ d_4 => (if decide ((0 : Int) < d_4.2) = true then ((modG d_4.2 (997 : Int)) >>= fun a => appG d_4.1 a >>= fun draws_4 =>
        (divG d_4.2 (997 : Int)) >>= fun rest_3 =>
        some (draws_4, rest_3)) else (some (d_4.1, d_4.2))) >>= fun d_6 =>
        some (d_6.1, d_6.2)) xs (d_3.2, d_3.1) >>= fun d_5 =>
        some (mixed, d_5.1)) = some d' ∧ (0 + j + 1 ≤ script.length ∧ 0 ≤ d'.1 ∧ d'.1 < 65537 ∧ d'.2.length ≤ 62 * (0 + j + 1)) := by
      intro ds rest hl
      obtain ⟨r, e, l⟩ := draws_in (ds := ds) (rest := rest) (by omega)
      refine ⟨(mixed, r.1), ?_, by omega, m1, m2, by show r.1.length ≤ _; omega⟩
      rw [o_bind, o_go r60]
      exact o_go e
    by_cases z : 1000000000000000000 ≤ cell
    · rw [decide_eq_true z, if_pos rfl]
      exact fin d.2 cell (by omega)
    · rw [decide_eq_false z, if_neg Bool.false_ne_true]
      simp only [o_bind, mod_pos (i := cell) n997, app_some (xs := d.2) (show d.2.length < 16777216 by omega), mul_small (i := mixed) (j := 69621) (by omega) (by decide), mod_pos (i := mixed * 69621 + 5) (show (0 : Int) < 65521 by decide), mod_pos (i := (mixed * 69621 + 5) % 65521) n997]
      rw [app_some (by simp; omega)]
      simp only [o_bind] at fin ⊢
      exact fin _ 0 (by simp))
  rw [o_go e]
  rw [rangeL_len] at i
  obtain ⟨r2, e2, i2⟩ := fold_inv (f := fun (k_2 : Int) (d_7 : Int × List Int) => (mulG d_7.1 (16807 : Int) >>= fun v15 => modG ((v15 + k_2) + (1 : Int)) (65537 : Int)) >>= fun mixed_3 =>
  (modG mixed_3 (997 : Int)) >>= fun a => appG d_7.2 a >>= fun draws_5 =>
  some (mixed_3, draws_5)) (fun i q => i ≤ n ∧ 0 ≤ q.1 ∧ q.1 < 65537 ∧ q.2.length ≤ r.2.length + i) (xs := rangeL 0 n) (d := (r.1, r.2)) 0 ⟨by omega, i.2.1, i.2.2.1, Nat.le_refl _⟩ (by
    intro j x d hj i'
    have hj : j < n := by
      rcases Nat.lt_or_ge j n with z | z
      · exact z
      · rw [List.getElem?_eq_none (by rw [rangeL_len]; exact z)] at hj; cases hj
    obtain ⟨i1, i2, i3, i4⟩ := i'
    have il := i.2.2.2
    simp only [o_bind, mul_small (i := d.1) (j := 16807) (by omega) (by decide), mod_pos (show (0 : Int) < 65537 by decide), mod_pos n997, app_some (xs := d.2) (show d.2.length < 16777216 by omega)]
    exact ⟨_, rfl, by omega, Int.emod_nonneg _ (by decide), Int.emod_lt_of_pos _ (by decide), by simp; omega⟩)
  rw [o_go e2]
  exact ⟨_, rfl⟩
/-- the law: what is drawn, then the rest -/
theorem law_of {f : List Int → Int → Option (List Int)} (hf : f = drawsM) {n : Nat} {b : WM DW Bool} {script : List Int} (h : script.length ≤ 63) (hn : n ≤ 1000) (g : Good b (· = true)) : (f script n >>= fun ds => (b.run (ds, 0)).map (·.1)) = some true := by
  subst hf
  obtain ⟨ds, e⟩ := draws_some (script := script) (n := n) (by omega) hn
  rw [o_go e]
  obtain ⟨a, s', e2, _, p⟩ := g (ds, 0) (Int.le_refl 0)
  rw [e2, p]
  rfl
end TT

namespace TT
open PyM (fromO)
open PySem L2
/-! ### over a range, by the natural numbers -/
theorem rangeL0 (n : Nat) : rangeL 0 n = (List.range n).map fun (i : Nat) => (i : Int) := by
  rw [rangeL_map]
  apply List.map_congr_left
  intro i _
  omega
theorem comp_map {α β γ : Type} {m : Type → Type} [Monad m] {g : β → m Bool} {f : β → m γ} (h : α → β) : ∀ xs : List α, compL g f (xs.map h) = compL (fun x => g (h x)) (fun x => f (h x)) xs
  | [] => rfl
  | x :: xs => by
    show (g (h x) >>= fun c => if c = true then f (h x) >>= fun y => compL g f (xs.map h) >>= fun ys => pure (y :: ys) else compL g f (xs.map h)) = _
    rw [comp_map h xs]
    rfl
theorem comp_range {β : Type} {n : Nat} {f : Int → Option β} {q : Nat → β} (h : ∀ k, k < n → f (k : Int) = some (q k)) : compL (fun _ => pure true) f (rangeL 0 n) = some ((List.range n).map q) := by
  rw [rangeL0, comp_map]
  exact comp_all fun k hk => h k (List.mem_range.mp hk)
theorem comp_rangeF {β : Type} {n : Nat} {g : Int → Option Bool} {f : Int → Option β} {p : Nat → Bool} {q : Nat → β} (h : ∀ k, k < n → g (k : Int) = some (p k)) (h' : ∀ k, k < n → p k = true → f (k : Int) = some (q k)) : compL g f (rangeL 0 n) = some (((List.range n).filter p).map q) := by
  rw [rangeL0, comp_map]
  exact comp_some (fun k hk => h k (List.mem_range.mp hk)) fun k hk => h' k (List.mem_range.mp hk)
theorem comp_rangeS {β : Type} {n : Nat} {f : Int → Option β} {q : Nat → β} (h : ∀ k, k < n → f (k : Int) = some (q k)) : compL (fun _ => some true) f (rangeL 0 n) = some ((List.range n).map q) := comp_range h
theorem comp_allS {α β : Type} {f : α → Option β} {q : α → β} {xs : List α} (h : ∀ x ∈ xs, f x = some (q x)) : compL (fun _ => some true) f xs = some (xs.map q) := comp_all h
/-- a fold over a range, by the state at each place -/
theorem fold_range {δ : Type} {n : Nat} {f : Int → δ → Option δ} (s : Nat → δ) (h : ∀ k, k < n → f (k : Int) (s k) = some (s (k + 1))) : foldL f (rangeL 0 n) (s 0) = some (s n) := by
  obtain ⟨r, e, i⟩ := fold_inv (f := f) (fun i d => d = s i) (xs := rangeL 0 n) (d := s 0) 0 rfl (by
    intro j x d hj hd
    have hj' : j < n := by
      rcases Nat.lt_or_ge j n with z | z
      · exact z
      · rw [List.getElem?_eq_none (by rw [rangeL_len]; exact z)] at hj; cases hj
    rw [rangeL_get n 0 j hj'] at hj
    have e : x = (j : Int) := by
      have := Option.some.inj hj
      omega
    subst e
    rw [Nat.zero_add] at hd ⊢
    subst hd
    exact ⟨_, h j hj', rfl⟩)
  rw [rangeL_len, Nat.zero_add] at i
  rw [e, i]
theorem at_getD {xs : List Int} {k : Nat} (h : k < xs.length) : L2.atI xs (k : Int) = some (xs.getD k 0) := by
  rw [at_nat (List.getElem?_eq_getElem h)]
  simp [List.getD, h]
theorem at_of {α : Type} {xs : List α} {k : Int} (i : Nat) {x : α} (e : k = (i : Int)) (h : xs[i]? = some x) : L2.atI xs k = some x := by
  subst e
  exact at_nat h
theorem at_head {α : Type} (x : α) (xs : List α) : L2.atI (x :: xs) 0 = some x := at_of 0 rfl rfl
/-- from the end -/
theorem at_neg {α : Type} {xs : List α} {k : Int} (j : Nat) {x : α} (e : k = -((j : Int) + 1)) (h : j < xs.length) (hx : xs[xs.length - 1 - j]? = some x) : L2.atI xs k = some x := by
  subst e
  unfold L2.atI L2.ixN
  rw [if_neg (by omega), if_pos (by omega)]
  show xs[(-((j : Int) + 1) + (xs.length : Int)).toNat]? = some x
  rw [show (-((j : Int) + 1) + (xs.length : Int)).toNat = xs.length - 1 - j by omega]
  exact hx
theorem sIx_nat (n i : Nat) (d : Nat) : HT.sIx n d (some (i : Int)) = min i n := HT.sIx_nat n d i
theorem cut_nat {α : Type} (xs : List α) (i j : Nat) : cutA xs (some (i : Int)) (some (j : Int)) = (xs.drop (min i xs.length)).take (min j xs.length - min i xs.length) := by
  unfold cutA
  rw [sIx_nat, sIx_nat]
theorem cut_from {α : Type} (xs : List α) (i : Nat) : cutA xs (some (i : Int)) none = xs.drop i := by
  unfold cutA
  rw [sIx_nat, HT.sIx_none]
  rcases Nat.le_total i xs.length with h | h
  · rw [Nat.min_eq_left h, List.take_of_length_le (by rw [List.length_drop]; exact Nat.le_refl _)]
  · rw [Nat.min_eq_right h, List.drop_eq_nil_of_le (Nat.le_refl _), List.drop_eq_nil_of_le h, List.take_nil]
theorem cut_to {α : Type} (xs : List α) (j : Nat) : cutA xs none (some (j : Int)) = xs.take j := by
  unfold cutA
  rw [sIx_nat, HT.sIx_none]
  simp
theorem ext_getD {xs ys : List Int} (h : xs.length = ys.length) (e : ∀ k, k < xs.length → xs.getD k 0 = ys.getD k 0) : xs = ys := by
  apply List.ext_getElem h
  intro i h1 h2
  have := e i h1
  simpa [List.getD, h1, h2] using this
theorem getD_map_range {n k : Nat} (f : Nat → Int) (h : k < n) : ((List.range n).map f).getD k 0 = f k := by
  simp [List.getD, h]
end TT

namespace TT
open PyM (fromO)
open PySem L2
/-! ### what draws nothing, as one thing -/
theorem w_bind {α β : Type} (x : Option α) (f : α → Option β) : ((fromO x : WM DW α) >>= fun a => (fromO (f a) : WM DW β)) = fromO (x >>= f) := by
  cases x with
  | none => funext s; rfl
  | some a => funext s; rfl
theorem w_pure {α : Type} (a : α) : (pure a : WM DW α) = fromO (some a) := congrArg id (rfl : (fromO (some a) : WM DW α) = fromO (some a))
theorem w_ite {α : Type} {c : Prop} [Decidable c] (x y : Option α) : (if c then (fromO x : WM DW α) else fromO y) = fromO (if c then x else y) := by split <;> rfl
theorem w_comp {α β : Type} (g : α → Option Bool) (f : α → Option β) : ∀ xs : List α, compL (m := WM DW) (fun x => fromO (g x)) (fun x => fromO (f x)) xs = fromO (compL g f xs)
  | [] => by show (pure [] : WM DW (List β)) = _; rw [w_pure]; rfl
  | x :: xs => by
    show ((fromO (g x) : WM DW Bool) >>= fun c => if c = true then (fromO (f x) : WM DW β) >>= fun y => compL (fun x => fromO (g x)) (fun x => fromO (f x)) xs >>= fun ys => pure (y :: ys) else compL (fun x => fromO (g x)) (fun x => fromO (f x)) xs) = _
    rw [w_comp g f xs]
    simp only [w_pure, w_bind, w_ite]
    rfl
theorem w_fold {α δ : Type} (f : α → δ → Option δ) : ∀ (xs : List α) (d : δ), foldL (m := WM DW) (fun x d => fromO (f x d)) xs d = fromO (foldL f xs d)
  | [], d => by show (pure d : WM DW δ) = _; rw [w_pure]; rfl
  | x :: xs, d => by
    show ((fromO (f x d) : WM DW δ) >>= fun d' => foldL (fun x d => fromO (f x d)) xs d') = _
    have : (fun d' => foldL (m := WM DW) (fun x d => fromO (f x d)) xs d') = fun d' => fromO (foldL f xs d') := funext fun d' => w_fold f xs d'
    rw [this, w_bind]
    rfl
theorem Good.compS {α β : Type} {f : α → WM DW β} {Q : β → Prop} {xs : List α} (h : ∀ x ∈ xs, Good (f x) Q) : Good (compL (fun _ => PyM.fromO (some true)) f xs) (fun ys => ys.length = xs.length ∧ ∀ y ∈ ys, Q y) := Good.comp' h
/-- a test that does not hold -/
theorem Good.no {β : Type} {o : Option Bool} {x y : WM DW β} {Q : β → Prop} (h : o = some false) (h' : Good y Q) : Good (PyM.fromO o >>= fun b => if b = true then x else y) Q := Good.go h (Good.ite (fun e => by cases e) fun _ => h')
theorem o_no {β : Type} {o : Option Bool} {x y : Option β} (h : o = some false) : (o >>= fun b => if b = true then x else y) = y := by rw [h]; rfl
end TT

namespace TT
open PyM (fromO)
open PySem L2
/-! ### the greatest common part, fractions -/
theorem fmod_abs {a b : Int} (h : b ≠ 0) : (a.fmod b).natAbs < b.natAbs := by
  rcases Int.lt_or_gt_of_ne h with z | z
  · have e := Int.neg_fmod_neg a b
    have h1 := Int.fmod_nonneg_of_pos (-a) (b := -b) (by omega)
    have h2 := Int.fmod_lt_of_pos (-a) (b := -b) (by omega)
    omega
  · have h1 := Int.fmod_nonneg_of_pos a z
    have h2 := Int.fmod_lt_of_pos a z
    omega
theorem gcd_fmod (a b : Int) : Int.gcd b (a.fmod b) = Int.gcd a b := by
  rw [Int.fmod_def, Int.gcd_sub_mul_left_right, Int.gcd_comm]
theorem modG_ne {i j : Int} (h : j ≠ 0) : modG i j = some (i.fmod j) := if_pos h
theorem common_while (a b : Int) : ∃ r : Int × Int, whileM (m := Option) (fun d_ : Int × Int => some (!decide (d_.2 = (0 : Int)))) (fun d_ => (modG d_.1 d_.2 >>= fun v1 => some (d_.2, v1)) >>= fun p_ => some (p_.1, p_.2)) (a, b) = some r ∧ absI r.1 = (Int.gcd a b : Int) := by
  obtain ⟨r, e, ⟨i⟩, c⟩ := whileM_inv (c := fun d_ : Int × Int => some (!decide (d_.2 = (0 : Int)))) (b := fun d_ => (modG d_.1 d_.2 >>= fun v1 => some (d_.2, v1)) >>= fun p_ => some (p_.1, p_.2)) (fun d => PLift (Int.gcd d.1 d.2 = Int.gcd a b) |> Nonempty) (fun d => d.2.natAbs) (d := (a, b)) (fun d i => by
    refine ⟨_, rfl, fun t => ?_⟩
    have h : d.2 ≠ 0 := by simpa using t
    refine ⟨(d.2, d.1.fmod d.2), ?_, ?_, fmod_abs h⟩
    · rw [modG_ne h, o_bind, o_bind]
    · obtain ⟨⟨i⟩⟩ := i
      exact ⟨⟨by rw [gcd_fmod]; exact i⟩⟩) ⟨⟨rfl⟩⟩
  refine ⟨r, e, ?_⟩
  have h : r.2 = 0 := by
    have c : some (!decide (r.2 = 0)) = some false := c
    injection c with c
    simpa using c
  have i := i.down
  rw [h, Int.gcd_zero_right] at i
  rw [← i]
  unfold absI
  split <;> omega
end TT

namespace TT
open PyM (fromO)
open PySem L2
/-- by what a fraction is cut -/
def cutBy (a b : Int) : Int := if b < 0 then -(Int.gcd a b : Int) else (Int.gcd a b : Int)
/-- a fraction in its least form -/
def nf (a b : Int) : Int × Int := (a / cutBy a b, b / cutBy a b)
theorem cutBy_ne {a b : Int} (h : b ≠ 0) : cutBy a b ≠ 0 := by
  have g : Int.gcd a b ≠ 0 := fun z => h (Int.gcd_eq_zero_iff.mp z).2
  unfold cutBy
  split <;> omega
theorem cutBy_dvd (a b : Int) : cutBy a b ∣ a ∧ cutBy a b ∣ b := by
  unfold cutBy
  split
  · exact ⟨Int.neg_dvd.mpr (Int.gcd_dvd_left a b), Int.neg_dvd.mpr (Int.gcd_dvd_right a b)⟩
  · exact ⟨Int.gcd_dvd_left a b, Int.gcd_dvd_right a b⟩
theorem nf_mul {a b : Int} : (nf a b).1 * cutBy a b = a ∧ (nf a b).2 * cutBy a b = b := ⟨Int.ediv_mul_cancel (cutBy_dvd a b).1, Int.ediv_mul_cancel (cutBy_dvd a b).2⟩
theorem nf_pos {a b : Int} (h : b ≠ 0) : 0 < (nf a b).2 := by
  have e := (nf_mul (a := a) (b := b)).2
  have c := cutBy_ne (a := a) h
  have g : 0 ≤ (Int.gcd a b : Int) := by omega
  unfold cutBy at e c
  split at e
  · rename_i z
    rw [if_pos z] at c
    rcases Int.lt_trichotomy (nf a b).2 0 with y | y | y
    · have := Int.mul_nonneg_of_nonpos_of_nonpos (Int.le_of_lt y) (show -(Int.gcd a b : Int) ≤ 0 by omega)
      omega
    · rw [y, Int.zero_mul] at e; omega
    · exact y
  · rename_i z
    rw [if_neg z] at c
    rcases Int.lt_trichotomy (nf a b).2 0 with y | y | y
    · have := Int.mul_nonpos_of_nonpos_of_nonneg (Int.le_of_lt y) (show 0 ≤ (Int.gcd a b : Int) by omega)
      omega
    · rw [y, Int.zero_mul] at e; omega
    · exact y
theorem nf_cop {a b : Int} (h : b ≠ 0) : Int.gcd (nf a b).1 (nf a b).2 = 1 := by
  have c := cutBy_ne (a := a) h
  obtain ⟨e1, e2⟩ := nf_mul (a := a) (b := b)
  have k : (cutBy a b).natAbs = Int.gcd a b := by unfold cutBy; split <;> omega
  have g : Int.gcd ((nf a b).1 * cutBy a b) ((nf a b).2 * cutBy a b) = Int.gcd (nf a b).1 (nf a b).2 * (cutBy a b).natAbs := Int.gcd_mul_right ..
  rw [e1, e2, k] at g
  have p : 0 < Int.gcd a b := by omega
  have : Int.gcd (nf a b).1 (nf a b).2 * Int.gcd a b = 1 * Int.gcd a b := by omega
  exact Nat.eq_of_mul_eq_mul_right p this
theorem nf_cross {a b : Int} : a * (nf a b).2 = (nf a b).1 * b := by
  obtain ⟨e1, e2⟩ := nf_mul (a := a) (b := b)
  generalize (nf a b).1 = p at *
  generalize (nf a b).2 = q at *
  generalize cutBy a b = c at *
  subst e1 e2
  grind
theorem cop_dvd {q p s : Int} (h : q ∣ p * s) (c : Int.gcd q p = 1) : q ∣ s := by
  have h2 : q.natAbs ∣ p.natAbs * s.natAbs := by rw [← Int.natAbs_mul]; exact Int.natAbs_dvd_natAbs.mpr h
  exact Int.natAbs_dvd_natAbs.mp (Nat.Coprime.dvd_of_dvd_mul_left (show Nat.Coprime q.natAbs p.natAbs from c) h2)
theorem low_eq {p q r s : Int} (hq : 0 < q) (hs : 0 < s) (c1 : Int.gcd p q = 1) (c2 : Int.gcd r s = 1) (e : p * s = r * q) : p = r ∧ q = s := by
  have d1 : q ∣ s := by
    have : q ∣ p * s := ⟨r, by rw [e, Int.mul_comm]⟩
    exact cop_dvd this (by rw [Int.gcd_comm]; exact c1)
  have d2 : s ∣ q := by
    have : s ∣ r * q := ⟨p, by rw [← e, Int.mul_comm]⟩
    exact cop_dvd this (by rw [Int.gcd_comm]; exact c2)
  have e2 : q = s := Int.dvd_antisymm (by omega) (by omega) d1 d2
  subst e2
  exact ⟨Int.eq_of_mul_eq_mul_right (by omega) e, rfl⟩
theorem nf_eq {a b c d : Int} (hb : b ≠ 0) (hd : d ≠ 0) (e : a * d = c * b) : nf a b = nf c d := by
  have x1 := nf_cross (a := a) (b := b)
  have x2 := nf_cross (a := c) (b := d)
  obtain ⟨e1, e2⟩ := low_eq (nf_pos (a := a) hb) (nf_pos (a := c) hd) (nf_cop hb) (nf_cop hd) (by
    -- p * s * (b * d) = r * q * (b * d)
    have k : b * d ≠ 0 := Int.mul_ne_zero hb hd
    apply Int.eq_of_mul_eq_mul_right k
    generalize (nf a b).1 = p at *
    generalize (nf a b).2 = q at *
    generalize (nf c d).1 = r at *
    generalize (nf c d).2 = s at *
    have l : p * s * (b * d) = (p * b) * (s * d) := by grind
    have l2 : r * q * (b * d) = (r * d) * (q * b) := by grind
    rw [l, l2, ← x1, ← x2]
    have : a * q * (s * d) = (a * d) * (q * s) := by grind
    rw [this, e]
    grind)
  exact Prod.ext e1 e2
theorem nf_iff {a b c d : Int} (hb : b ≠ 0) (hd : d ≠ 0) : nf a b = nf c d ↔ a * d = c * b := by
  refine ⟨fun h => ?_, nf_eq hb hd⟩
  have x1 := nf_cross (a := a) (b := b)
  have x2 := nf_cross (a := c) (b := d)
  have p := nf_pos (a := a) hb
  rw [← h] at x2
  generalize (nf a b).1 = p at *
  generalize (nf a b).2 = q at *
  have : a * d * q = c * b * q := by
    have l : a * d * q = (a * q) * d := by grind
    have l2 : c * b * q = (c * q) * b := by grind
    rw [l, l2, x1, x2]
    grind
  exact Int.eq_of_mul_eq_mul_right (by omega) this
theorem nf_self {p q : Int} (hq : 0 < q) (c : Int.gcd p q = 1) : nf p q = (p, q) := by
  unfold nf cutBy
  rw [if_neg (by omega), c]
  simp
end TT

namespace TT
open PyM (fromO)
open PySem L2
/-! ### the program's own fraction -/
theorem div_nf {i j : Int} (h : (0 < j ∧ j.natAbs < 1267650600228229401496703205376) ∨ (j ≠ 0 ∧ j.natAbs < 1073741824)) (d : j ∣ i) : divG i j = some (i / j) := by
  unfold divG
  rw [if_pos, Int.fdiv_eq_ediv_of_dvd d]
  rcases h with ⟨h1, h2⟩ | h
  · have e : (1267650600228229401496703205376 : Nat) = 2 ^ 100 := by decide
    rw [e] at h2
    exact .inl ⟨h1, Nat.lt_of_lt_of_le h2 (Nat.pow_le_pow_right (by decide) (by decide))⟩
  · exact .inr h
theorem gcd_le {a b : Int} (h : b ≠ 0) : Int.gcd a b ≤ b.natAbs := Nat.le_of_dvd (by omega) (Int.natAbs_dvd_natAbs.mpr (Int.gcd_dvd_right a b))
/-- two turns halve what is left -/
theorem fmod_half {a b : Int} (h : b ≠ 0) (h2 : a.fmod b ≠ 0) : 2 * (b.fmod (a.fmod b)).natAbs < b.natAbs := by
  have l := fmod_abs (a := a) h
  generalize hr : a.fmod b = r at *
  -- r has b's sign
  have sgn : (0 < b ∧ 0 < r) ∨ (b < 0 ∧ r < 0) := by
    rcases Int.lt_or_gt_of_ne h with z | z
    · have e := Int.neg_fmod_neg a b
      have h1 := Int.fmod_nonneg_of_pos (-a) (b := -b) (by omega)
      exact .inr ⟨z, by omega⟩
    · have h1 := Int.fmod_nonneg_of_pos a z
      exact .inl ⟨z, by omega⟩
  have key : ∀ x y : Int, 0 < x → 0 < y → y < x → 2 * (x.fmod y).natAbs < x.natAbs := by
    intro x y hx hy hl
    rw [Int.fmod_eq_emod_of_nonneg x (by omega)]
    have h1 := Int.emod_nonneg x (show y ≠ 0 by omega)
    have h2 := Int.emod_lt_of_pos x hy
    have h3 := Int.mul_ediv_add_emod x y
    have q : 1 ≤ x / y := by
      have := Int.ediv_mul_le x (show y ≠ 0 by omega)
      rcases Int.lt_or_le (x / y) 1 with z | z
      · have : x / y ≤ 0 := by omega
        have := Int.mul_nonpos_of_nonneg_of_nonpos (show 0 ≤ y by omega) this
        omega
      · exact z
    have : y * 1 ≤ y * (x / y) := Int.mul_le_mul_of_nonneg_left q (by omega)
    omega
  rcases sgn with ⟨s1, s2⟩ | ⟨s1, s2⟩
  · exact key b r s1 s2 (by omega)
  · have e := Int.neg_fmod_neg b r
    have := key (-b) (-r) (by omega) (by omega) (by omega)
    omega
/-- a turn of the law's own walk -/
noncomputable def cmTurn (turn_ : Int) (d_ : Int × Int) : Option (Out Int (Int × Int) (Int × Int)) :=
  some (decide (d_.2 = (0 : Int))) >>= fun t => (if t = true then (some (.bk (d_.1, d_.2))) else (some (.nx ()))) >>= Out.thn fun d_3 =>
  (modG d_.1 d_.2 >>= fun v2 => some (d_.2, v2)) >>= fun p_ =>
  some (.nx (p_.1, p_.2))
theorem cmTurn_0 (t a : Int) : cmTurn t (a, 0) = some (.bk (a, 0)) := by
  unfold cmTurn
  simp only [decide_true, o_bind, if_true]
  rfl
theorem cmTurn_s (t a : Int) {b : Int} (h : b ≠ 0) : cmTurn t (a, b) = some (.nx (b, a.fmod b)) := by
  unfold cmTurn
  simp only [decide_eq_false h, o_bind, Bool.false_eq_true, if_false]
  show ((modG a b >>= fun v2 => some (b, v2)) >>= fun p_ => some (Out.nx (p_.1, p_.2))) = _
  rw [modG_ne h, o_bind, o_bind]
theorem loop_cons {α δ ρ : Type} (f : α → δ → Option (Out ρ δ δ)) (x : α) (xs : List α) (d : δ) : loopL f (x :: xs) d = f x d >>= Out.loop (loopL f xs) := rfl
theorem cm_loop : ∀ (k : Nat) (xs : List Int) (a b : Int), b.natAbs < 2 ^ k → 2 * k + 1 ≤ xs.length → ∃ d : Int, loopL cmTurn xs (a, b) = some (.inl (d, 0)) ∧ Int.gcd d 0 = Int.gcd a b
  | 0, xs, a, b, h, l => by
    obtain ⟨x, xs, rfl⟩ : ∃ x r, xs = x :: r := by cases xs with | nil => simp at l | cons x r => exact ⟨x, r, rfl⟩
    have e : b = 0 := by omega
    subst e
    exact ⟨a, by rw [loop_cons, cmTurn_0]; rfl, rfl⟩
  | k + 1, xs, a, b, h, l => by
    obtain ⟨x, xs, rfl⟩ : ∃ x r, xs = x :: r := by cases xs with | nil => simp at l | cons x r => exact ⟨x, r, rfl⟩
    obtain ⟨y, xs, rfl⟩ : ∃ x r, xs = x :: r := by cases xs with | nil => simp at l | cons x r => exact ⟨x, r, rfl⟩
    by_cases z : b = 0
    · subst z
      exact ⟨a, by rw [loop_cons, cmTurn_0]; rfl, rfl⟩
    · by_cases z2 : a.fmod b = 0
      · refine ⟨b, ?_, ?_⟩
        · rw [loop_cons, cmTurn_s x a z, z2]
          show loopL cmTurn (y :: xs) (b, 0) = _
          rw [loop_cons, cmTurn_0]; rfl
        · rw [← gcd_fmod a b, z2]
      · have hh := fmod_half z z2
        have h : b.natAbs < 2 * 2 ^ k := by rw [Nat.pow_succ] at h; omega
        simp only [List.length_cons] at l
        obtain ⟨d, e, g⟩ := cm_loop k xs (a.fmod b) (b.fmod (a.fmod b)) (by omega) (by omega)
        refine ⟨d, ?_, ?_⟩
        · rw [loop_cons, cmTurn_s x a z]
          show loopL cmTurn (y :: xs) (b, a.fmod b) = _
          rw [loop_cons, cmTurn_s y b z2]
          exact e
        · rw [g, gcd_fmod, gcd_fmod]
end TT

namespace TT
open PyM (fromO)
open PySem L2
noncomputable def commonM (a_ : Int) (b_ : Int) : Option Int :=
  whileM (fun d_ => (pure (!decide (d_.2 = (0 : Int))))) (fun d_ => (fromO (modG d_.1 d_.2) >>= fun v1 => pure (d_.2, v1)) >>= fun p_ =>
  pure (p_.1, p_.2)) (a_, b_) >>= fun d_2 =>
  (pure (absI d_2.1))
noncomputable def fractionM (a_ : Int) (b_ : Int) : Option (Int × Int) :=
  (fromO (commonM a_ b_)) >>= fun by_ =>
  (pure (decide (b_ < (0 : Int)))) >>= fun t => (if t = true then ((pure (-by_)) >>= fun by_2 =>
  pure by_2) else (pure by_)) >>= fun d_ =>
  (fromO (divG a_ d_) >>= fun v2 => fromO (divG b_ d_) >>= fun v3 => pure (v2, v3))
noncomputable def lawCommonM (a_ : Int) (b_ : Int) : Option Int :=
  (fromO (rangeG 0 (400 : Int))) >>= fun xs => loopL (fun turn_ d_ => (pure (decide (d_.2 = (0 : Int)))) >>= fun t => (if t = true then (pure (.bk (d_.1, d_.2))) else (pure (.nx ()))) >>= Out.thn fun d_3 =>
  (fromO (modG d_.1 d_.2) >>= fun v2 => pure (d_.2, v2)) >>= fun p_ =>
  pure (.nx (p_.1, p_.2))) xs (a_, b_) >>= thenF fun d_2 =>
  (pure (absI d_2.1))
noncomputable def lawFracM (a_ : Int) (b_ : Int) : Option (Int × Int) :=
  (fromO (lawCommonM a_ b_)) >>= fun by_ =>
  (pure (decide (b_ < (0 : Int)))) >>= fun t => (if t = true then ((pure (-by_)) >>= fun by_2 =>
  pure by_2) else (pure by_)) >>= fun d_ =>
  (fromO (divG a_ d_) >>= fun v2 => fromO (divG b_ d_) >>= fun v3 => pure (v2, v3))
theorem common_eq (a b : Int) : commonM a b = some (Int.gcd a b : Int) := by
  unfold commonM
  simp only [o_pure, o_fromO]
  obtain ⟨r, e, h⟩ := common_while a b
  rw [o_go e, h]
theorem lawCommon_eq (a : Int) {b : Int} (h : b.natAbs < 1073741824) : lawCommonM a b = some (Int.gcd a b : Int) := by
  unfold lawCommonM
  simp only [o_pure, o_fromO]
  rw [o_go (range_some (lo := 0) (hi := 400) (by decide))]
  obtain ⟨d, e, g⟩ := cm_loop 30 (rangeL 0 (400 - 0 : Int).toNat) a b (by exact h) (by rw [rangeL_len]; decide)
  unfold cmTurn at e
  rw [o_go e]
  show some (absI d) = _
  rw [← g, Int.gcd_zero_right]
  unfold absI
  congr 1
  split <;> omega
theorem frac_tail {a b : Int} (h : b ≠ 0) (hb : b.natAbs < 1073741824) : ((some (decide (b < (0 : Int)))) >>= fun t => (if t = true then ((some (-(Int.gcd a b : Int))) >>= fun by_2 => some by_2) else (some (Int.gcd a b : Int))) >>= fun d_ =>
    (divG a d_ >>= fun v2 => divG b d_ >>= fun v3 => some (v2, v3))) = some (nf a b) := by
  have g := gcd_le (a := a) h
  have c := cutBy_ne (a := a) h
  obtain ⟨d1, d2⟩ := cutBy_dvd a b
  have k : (cutBy a b).natAbs < 1073741824 := by unfold cutBy; split <;> omega
  have e : (if decide (b < 0) = true then ((some (-(Int.gcd a b : Int))) >>= fun by_2 => some by_2) else (some (Int.gcd a b : Int))) = some (cutBy a b) := by
    unfold cutBy
    by_cases z : b < 0
    · rw [if_pos (decide_eq_true z), if_pos z, o_bind]
    · rw [if_neg (by simpa using z), if_neg z]
  rw [o_bind, o_go e, div_nf (.inr ⟨c, k⟩) d1, o_bind, div_nf (.inr ⟨c, k⟩) d2, o_bind]
  rfl
theorem fraction_eq {a b : Int} (h : b ≠ 0) (hb : b.natAbs < 1073741824) : fractionM a b = some (nf a b) := by
  unfold fractionM
  simp only [o_pure, o_fromO]
  rw [o_go (common_eq a b)]
  exact frac_tail h hb
theorem lawFrac_eq {a b : Int} (h : b ≠ 0) (hb : b.natAbs < 1073741824) : lawFracM a b = some (nf a b) := by
  unfold lawFracM
  simp only [o_pure, o_fromO]
  rw [o_go (lawCommon_eq a hb)]
  exact frac_tail h hb
end TT

namespace TT
open PyM (fromO)
open PySem L2
theorem nf_le {a b : Int} (h : b ≠ 0) : (nf a b).1.natAbs ≤ a.natAbs ∧ (nf a b).2.natAbs ≤ b.natAbs := by
  obtain ⟨e1, e2⟩ := nf_mul (a := a) (b := b)
  have c := cutBy_ne (a := a) h
  have k : 1 ≤ (cutBy a b).natAbs := by omega
  constructor
  · have := congrArg Int.natAbs e1
    rw [Int.natAbs_mul] at this
    rw [← this]
    exact Nat.le_mul_of_pos_right _ k
  · have := congrArg Int.natAbs e2
    rw [Int.natAbs_mul] at this
    rw [← this]
    exact Nat.le_mul_of_pos_right _ k
theorem nf_plus {a b c d : Int} (hb : b ≠ 0) (hd : d ≠ 0) : nf ((nf a b).1 * (nf c d).2 + (nf c d).1 * (nf a b).2) ((nf a b).2 * (nf c d).2) = nf (a * d + c * b) (b * d) := by
  have p1 := nf_pos (a := a) hb
  have p2 := nf_pos (a := c) hd
  refine nf_eq (Int.mul_ne_zero (by omega) (by omega)) (Int.mul_ne_zero hb hd) ?_
  have x1 := nf_cross (a := a) (b := b)
  have x2 := nf_cross (a := c) (b := d)
  generalize (nf a b).1 = p at *
  generalize (nf a b).2 = q at *
  generalize (nf c d).1 = r at *
  generalize (nf c d).2 = s at *
  grind
theorem nf_minus {a b c d : Int} (hb : b ≠ 0) (hd : d ≠ 0) : nf ((nf a b).1 * (nf c d).2 - (nf c d).1 * (nf a b).2) ((nf a b).2 * (nf c d).2) = nf (a * d - c * b) (b * d) := by
  have p1 := nf_pos (a := a) hb
  have p2 := nf_pos (a := c) hd
  refine nf_eq (Int.mul_ne_zero (by omega) (by omega)) (Int.mul_ne_zero hb hd) ?_
  have x1 := nf_cross (a := a) (b := b)
  have x2 := nf_cross (a := c) (b := d)
  generalize (nf a b).1 = p at *
  generalize (nf a b).2 = q at *
  generalize (nf c d).1 = r at *
  generalize (nf c d).2 = s at *
  grind
theorem nf_times {a b c d : Int} (hb : b ≠ 0) (hd : d ≠ 0) : nf ((nf a b).1 * (nf c d).1) ((nf a b).2 * (nf c d).2) = nf (a * c) (b * d) := by
  have p1 := nf_pos (a := a) hb
  have p2 := nf_pos (a := c) hd
  refine nf_eq (Int.mul_ne_zero (by omega) (by omega)) (Int.mul_ne_zero hb hd) ?_
  have x1 := nf_cross (a := a) (b := b)
  have x2 := nf_cross (a := c) (b := d)
  generalize (nf a b).1 = p at *
  generalize (nf a b).2 = q at *
  generalize (nf c d).1 = r at *
  generalize (nf c d).2 = s at *
  grind
theorem nf_one (a : Int) : nf a 1 = (a, 1) := nf_self (by decide) (by simp)
theorem nf_less {a b c d : Int} (hb : 0 < b) (hd : 0 < d) : (nf a b).1 * (nf c d).2 < (nf c d).1 * (nf a b).2 ↔ a * d < c * b := by
  have p1 := nf_pos (a := a) (b := b) (by omega)
  have p2 := nf_pos (a := c) (b := d) (by omega)
  have x1 := nf_cross (a := a) (b := b)
  have x2 := nf_cross (a := c) (b := d)
  generalize (nf a b).1 = p at *
  generalize (nf a b).2 = q at *
  generalize (nf c d).1 = r at *
  generalize (nf c d).2 = s at *
  -- p s < r q  <->  (p b) (s d) < (r d) (q b)  <->  a q s d < c s q b
  have bd : 0 < b * d := Int.mul_pos hb hd
  have qs : 0 < q * s := Int.mul_pos p1 p2
  have e1 : p * s * (b * d) = a * d * (q * s) := by grind
  have e2 : r * q * (b * d) = c * b * (q * s) := by grind
  constructor
  · intro h
    have h1 := Int.mul_lt_mul_of_pos_right h bd
    rw [e1, e2] at h1
    exact Int.lt_of_mul_lt_mul_right h1 (Int.le_of_lt qs)
  · intro h
    have h1 := Int.mul_lt_mul_of_pos_right h qs
    rw [← e1, ← e2] at h1
    exact Int.lt_of_mul_lt_mul_right h1 (Int.le_of_lt bd)
end TT

namespace TT
open PyM (fromO)
open PySem L2
/-! ### sums, differences, products of fractions: the program's and the laws' own -/
noncomputable def plusM (one_ : (Int × Int)) (other_ : (Int × Int)) : Option (Int × Int) :=
  (fromO (mulG one_.1 other_.2) >>= fun v2 => fromO (mulG other_.1 one_.2) >>= fun v3 => fromO (mulG one_.2 other_.2) >>= fun v4 => fromO (fractionM (v2 + v3) v4))
noncomputable def minusM (one_ : (Int × Int)) (other_ : (Int × Int)) : Option (Int × Int) :=
  (fromO (mulG one_.1 other_.2) >>= fun v2 => fromO (mulG other_.1 one_.2) >>= fun v3 => fromO (mulG one_.2 other_.2) >>= fun v4 => fromO (fractionM (v2 - v3) v4))
noncomputable def timesM (one_ : (Int × Int)) (other_ : (Int × Int)) : Option (Int × Int) :=
  (fromO (mulG one_.1 other_.1) >>= fun v2 => fromO (mulG one_.2 other_.2) >>= fun v3 => fromO (fractionM v2 v3))
noncomputable def lawAddM (one_ : (Int × Int)) (other_ : (Int × Int)) : Option (Int × Int) :=
  (fromO (mulG one_.1 other_.2) >>= fun v2 => fromO (mulG other_.1 one_.2) >>= fun v3 => fromO (mulG one_.2 other_.2) >>= fun v4 => fromO (lawFracM (v2 + v3) v4))
noncomputable def lawLessM (one_ : (Int × Int)) (other_ : (Int × Int)) : Option (Int × Int) :=
  (fromO (mulG one_.1 other_.2) >>= fun v2 => fromO (mulG other_.1 one_.2) >>= fun v3 => fromO (mulG one_.2 other_.2) >>= fun v4 => fromO (lawFracM (v2 - v3) v4))
noncomputable def lawMulM (one_ : (Int × Int)) (other_ : (Int × Int)) : Option (Int × Int) :=
  (fromO (mulG one_.1 other_.1) >>= fun v2 => fromO (mulG one_.2 other_.2) >>= fun v3 => fromO (lawFracM v2 v3))
noncomputable def lessM (one_ : (Int × Int)) (other_ : (Int × Int)) : Option Bool :=
  (fromO (mulG one_.1 other_.2) >>= fun v1 => fromO (mulG other_.1 one_.2) >>= fun v2 => pure (decide (v1 < v2)))
/-- a bound for what is multiplied -/
theorem nf_lt {a b : Int} {n : Nat} (hb : b ≠ 0) (h : a.natAbs < n) : (nf a b).1.natAbs < n := Nat.lt_of_le_of_lt (nf_le hb).1 h
theorem nf_lt2 {a b : Int} {n : Nat} (hb : b ≠ 0) (h : b.natAbs < n) : (nf a b).2.natAbs < n := Nat.lt_of_le_of_lt (nf_le hb).2 h
theorem mul_abs {b d : Int} {n : Nat} (hb : b ≠ 0) (hd : d ≠ 0) {a c : Int} (h : (b * d).natAbs < n) : ((nf a b).2 * (nf c d).2).natAbs < n := by
  rw [Int.natAbs_mul] at *
  exact Nat.lt_of_le_of_lt (Nat.mul_le_mul (nf_le hb).2 (nf_le hd).2) h
theorem abs_left {b d : Int} (hb : b ≠ 0) (hd : d ≠ 0) : b.natAbs ≤ (b * d).natAbs ∧ d.natAbs ≤ (b * d).natAbs := by
  rw [Int.natAbs_mul]
  exact ⟨Nat.le_mul_of_pos_right _ (by omega), Nat.le_mul_of_pos_left _ (by omega)⟩
section
variable {a b c d : Int} (hb : b ≠ 0) (hd : d ≠ 0) (ha : a.natAbs < 1267650600228229401496703205376) (hc : c.natAbs < 1267650600228229401496703205376) (h : (b * d).natAbs < 1073741824)
include hb hd ha hc h
theorem mul3 : mulG (nf a b).1 (nf c d).2 = some ((nf a b).1 * (nf c d).2) ∧ mulG (nf c d).1 (nf a b).2 = some ((nf c d).1 * (nf a b).2) ∧ mulG (nf a b).2 (nf c d).2 = some ((nf a b).2 * (nf c d).2) ∧ mulG (nf a b).1 (nf c d).1 = some ((nf a b).1 * (nf c d).1) := by
  obtain ⟨l1, l2⟩ := abs_left hb hd
  have k1 := nf_lt hb ha
  have k2 := nf_lt hd hc
  have k3 : (nf a b).2.natAbs < 1267650600228229401496703205376 := nf_lt2 hb (by omega)
  have k4 : (nf c d).2.natAbs < 1267650600228229401496703205376 := nf_lt2 hd (by omega)
  exact ⟨mul_small k1 k4, mul_small k2 k3, mul_small k3 k4, mul_small k1 k2⟩
theorem plus_eq : plusM (nf a b) (nf c d) = some (nf (a * d + c * b) (b * d)) := by
  obtain ⟨m1, m2, m3, m4⟩ := mul3 hb hd ha hc h
  unfold plusM
  simp only [o_fromO, m1, m2, m3, o_bind]
  rw [fraction_eq (Int.mul_ne_zero (by have := nf_pos (a := a) hb; omega) (by have := nf_pos (a := c) hd; omega)) (mul_abs hb hd h), nf_plus hb hd]
theorem minus_eq : minusM (nf a b) (nf c d) = some (nf (a * d - c * b) (b * d)) := by
  obtain ⟨m1, m2, m3, m4⟩ := mul3 hb hd ha hc h
  unfold minusM
  simp only [o_fromO, m1, m2, m3, o_bind]
  rw [fraction_eq (Int.mul_ne_zero (by have := nf_pos (a := a) hb; omega) (by have := nf_pos (a := c) hd; omega)) (mul_abs hb hd h), nf_minus hb hd]
theorem times_eq : timesM (nf a b) (nf c d) = some (nf (a * c) (b * d)) := by
  obtain ⟨m1, m2, m3, m4⟩ := mul3 hb hd ha hc h
  unfold timesM
  simp only [o_fromO, m3, m4, o_bind]
  rw [fraction_eq (Int.mul_ne_zero (by have := nf_pos (a := a) hb; omega) (by have := nf_pos (a := c) hd; omega)) (mul_abs hb hd h), nf_times hb hd]
theorem lawAdd_eq : lawAddM (nf a b) (nf c d) = some (nf (a * d + c * b) (b * d)) := by
  obtain ⟨m1, m2, m3, m4⟩ := mul3 hb hd ha hc h
  unfold lawAddM
  simp only [o_fromO, m1, m2, m3, o_bind]
  rw [lawFrac_eq (Int.mul_ne_zero (by have := nf_pos (a := a) hb; omega) (by have := nf_pos (a := c) hd; omega)) (mul_abs hb hd h), nf_plus hb hd]
theorem lawLess_eq : lawLessM (nf a b) (nf c d) = some (nf (a * d - c * b) (b * d)) := by
  obtain ⟨m1, m2, m3, m4⟩ := mul3 hb hd ha hc h
  unfold lawLessM
  simp only [o_fromO, m1, m2, m3, o_bind]
  rw [lawFrac_eq (Int.mul_ne_zero (by have := nf_pos (a := a) hb; omega) (by have := nf_pos (a := c) hd; omega)) (mul_abs hb hd h), nf_minus hb hd]
theorem lawMul_eq : lawMulM (nf a b) (nf c d) = some (nf (a * c) (b * d)) := by
  obtain ⟨m1, m2, m3, m4⟩ := mul3 hb hd ha hc h
  unfold lawMulM
  simp only [o_fromO, m3, m4, o_bind]
  rw [lawFrac_eq (Int.mul_ne_zero (by have := nf_pos (a := a) hb; omega) (by have := nf_pos (a := c) hd; omega)) (mul_abs hb hd h), nf_times hb hd]
theorem less_eq : lessM (nf a b) (nf c d) = some (decide ((nf a b).1 * (nf c d).2 < (nf c d).1 * (nf a b).2)) := by
  obtain ⟨m1, m2, m3, m4⟩ := mul3 hb hd ha hc h
  unfold lessM
  simp only [o_fromO, m1, m2, o_bind, o_pure]
end
theorem less_pos {a b c d : Int} (hb : 0 < b) (hd : 0 < d) (ha : a.natAbs < 1267650600228229401496703205376) (hc : c.natAbs < 1267650600228229401496703205376) (h : (b * d).natAbs < 1073741824) : lessM (nf a b) (nf c d) = some (decide (a * d < c * b)) := by
  rw [less_eq (by omega) (by omega) ha hc h]
  congr 1
  exact decide_eq_decide.mpr (nf_less hb hd)
theorem nf_scale {a b k : Int} (hb : b ≠ 0) (hk : k ≠ 0) : nf (a * k) (b * k) = nf a b := nf_eq (Int.mul_ne_zero hb hk) hb (by grind)
theorem nf_zero {b : Int} (hb : b ≠ 0) : nf 0 b = (0, 1) := by
  rw [← nf_one 0]
  exact nf_eq hb (by decide) (by omega)
/-- the sign of the upper number -/
theorem nf_sign {a b : Int} (hb : 0 < b) : (0 ≤ (nf a b).1 ↔ 0 ≤ a) ∧ (0 < (nf a b).1 ↔ 0 < a) := by
  have p := nf_pos (a := a) (b := b) (by omega)
  have x := nf_cross (a := a) (b := b)
  generalize (nf a b).1 = u at *
  generalize (nf a b).2 = v at *
  refine ⟨⟨fun z => ?_, fun z => ?_⟩, fun z => ?_, fun z => ?_⟩
  · have : 0 ≤ u * b := Int.mul_nonneg z (by omega)
    exact Int.nonneg_of_mul_nonneg_left (x ▸ this) p
  · have : 0 ≤ a * v := Int.mul_nonneg z (by omega)
    exact Int.nonneg_of_mul_nonneg_left (x ▸ this) hb
  · have : 0 < u * b := Int.mul_pos z hb
    exact Int.pos_of_mul_pos_left (x ▸ this) p
  · have : 0 < a * v := Int.mul_pos z p
    exact Int.pos_of_mul_pos_left (x ▸ this) hb
end TT

namespace TT
open PyM (fromO)
open PySem L2
/-! ### bounds of products and sums -/
theorem abs_mul {a b : Int} {m n : Nat} (ha : a.natAbs ≤ m) (hb : b.natAbs ≤ n) : (a * b).natAbs ≤ m * n := by
  rw [Int.natAbs_mul]; exact Nat.mul_le_mul ha hb
theorem abs_add {a b : Int} {m n : Nat} (ha : a.natAbs ≤ m) (hb : b.natAbs ≤ n) : (a + b).natAbs ≤ m + n := by omega
theorem abs_sub {a b : Int} {m n : Nat} (ha : a.natAbs ≤ m) (hb : b.natAbs ≤ n) : (a - b).natAbs ≤ m + n := by omega
/-! ### loops over lists, in Option, by what each turn gives -/
section
variable {α δ ρ : Type}
theorem loop_nil (f : α → δ → Option (Out ρ δ δ)) (d : δ) : loopL f [] d = some (.inl d) := rfl
theorem loop_nx {f : α → δ → Option (Out ρ δ δ)} {x : α} {xs : List α} {d e : δ} (h : f x d = some (.nx e)) : loopL f (x :: xs) d = loopL f xs e := by rw [loop_cons, h]; rfl
theorem loop_rt {f : α → δ → Option (Out ρ δ δ)} {x : α} {xs : List α} {d : δ} {r : ρ} (h : f x d = some (.rt r)) : loopL f (x :: xs) d = some (.inr r) := by rw [loop_cons, h]; rfl
theorem loop_bk {f : α → δ → Option (Out ρ δ δ)} {x : α} {xs : List α} {d e : δ} (h : f x d = some (.bk e)) : loopL f (x :: xs) d = some (.inl e) := by rw [loop_cons, h]; rfl
theorem fold_nil (f : α → δ → Option δ) (d : δ) : foldL f [] d = some d := rfl
theorem fold_cons (f : α → δ → Option δ) (x : α) (xs : List α) (d : δ) : foldL f (x :: xs) d = f x d >>= foldL f xs := rfl
theorem fold_go {f : α → δ → Option δ} {x : α} {xs : List α} {d e : δ} (h : f x d = some e) : foldL f (x :: xs) d = foldL f xs e := by rw [fold_cons, h]; rfl
/-- a search: the first item whose turn returns -/
theorem loop_find {f : α → δ → Option (Out ρ δ δ)} {g : α → Option ρ} {d : δ} : ∀ {xs : List α}, (∀ x ∈ xs, f x d = some (match g x with | some r => .rt r | none => .nx d)) → loopL f xs d = some (match xs.findSome? g with | some r => .inr r | none => .inl d)
  | [], _ => rfl
  | x :: xs, h => by
    have hx := h x (by simp)
    rw [List.findSome?_cons]
    cases e : g x with
    | some r => rw [e] at hx; exact loop_rt hx
    | none => rw [e] at hx; rw [loop_nx hx]; exact loop_find fun y hy => h y (by simp [hy])
theorem comp_nil {β : Type} (g : α → Option Bool) (f : α → Option β) : compL g f [] = some [] := rfl
/-- what a fold adds to a list -/
theorem fold_flat {β : Type} {f : α → List β → Option (List β)} {g : α → List β} {B : Nat} : ∀ {xs : List α} {acc : List β}, (∀ x ∈ xs, (g x).length ≤ B) → (∀ x ∈ xs, ∀ acc : List β, acc.length ≤ 1000000 → f x acc = some (acc ++ g x)) → acc.length + xs.length * B ≤ 1000000 → foldL f xs acc = some (acc ++ xs.flatMap g)
  | [], acc, _, _, _ => by rw [fold_nil]; simp
  | x :: xs, acc, hb, h, hl => by
    have b := hb x (by simp)
    rw [List.length_cons, Nat.add_mul, Nat.one_mul] at hl
    rw [fold_go (h x (by simp) acc (by omega)), fold_flat (fun y hy => hb y (by simp [hy])) (fun y hy => h y (by simp [hy])) (by rw [List.length_append]; omega)]
    rw [List.append_assoc, List.flatMap_cons]
end
/-- a loop over a range is a loop over the numbers -/
theorem mem_range0 {n : Nat} {x : Int} (h : x ∈ rangeL 0 n) : ∃ k : Nat, x = (k : Int) ∧ k < n := by
  rw [mem_rangeL] at h
  exact ⟨x.toNat, by omega, by omega⟩
/-! ### bounds, by terms -/
/-- a number is at most so far from 0 -/
def Bd (n : Nat) (x : Int) : Prop := x.natAbs ≤ n
namespace Bd
variable {a b : Int} {m n : Nat}
theorem mk (h : a.natAbs ≤ n) : Bd n a := h
theorem of (h1 : -(n : Int) ≤ a) (h2 : a ≤ n) : Bd n a := by unfold Bd; omega
theorem get (h : Bd n a) : a.natAbs ≤ n := h
theorem le (h : Bd m a) (l : m ≤ n := by decide) : Bd n a := Nat.le_trans h l
theorem lt (h : Bd m a) (l : m < n := by decide) : a.natAbs < n := Nat.lt_of_le_of_lt h l
theorem mul (h : Bd m a) (k : Bd n b) : Bd (m * n) (a * b) := abs_mul h k
theorem add (h : Bd m a) (k : Bd n b) : Bd (m + n) (a + b) := abs_add h k
theorem sub (h : Bd m a) (k : Bd n b) : Bd (m + n) (a - b) := abs_sub h k
theorem neg (h : Bd m a) : Bd m (-a) := by unfold Bd at *; omega
theorem both (h : Bd m a) : -(m : Int) ≤ a ∧ a ≤ m := by unfold Bd at *; omega
end Bd
theorem sq_nn (a : Int) : 0 ≤ a * a := by
  rcases Int.le_total 0 a with h | h
  · exact Int.mul_nonneg h h
  · exact Int.mul_nonneg_of_nonpos_of_nonpos h h
theorem mulB {a b : Int} (ha : Bd 1000000000000 a) (hb : Bd 1000000000000 b) : mulG a b = some (a * b) := mul_small ha.lt hb.lt
section
variable {a b c d : Int} (hb : b ≠ 0) (hd : d ≠ 0) (ha : Bd 1000000000000 a) (hc : Bd 1000000000000 c) (h : Bd 1000000000 (b * d))
include hb hd ha hc h
theorem plusB : plusM (nf a b) (nf c d) = some (nf (a * d + c * b) (b * d)) := plus_eq hb hd ha.lt hc.lt h.lt
theorem minusB : minusM (nf a b) (nf c d) = some (nf (a * d - c * b) (b * d)) := minus_eq hb hd ha.lt hc.lt h.lt
theorem timesB : timesM (nf a b) (nf c d) = some (nf (a * c) (b * d)) := times_eq hb hd ha.lt hc.lt h.lt
theorem lawAddB : lawAddM (nf a b) (nf c d) = some (nf (a * d + c * b) (b * d)) := lawAdd_eq hb hd ha.lt hc.lt h.lt
theorem lawLessB : lawLessM (nf a b) (nf c d) = some (nf (a * d - c * b) (b * d)) := lawLess_eq hb hd ha.lt hc.lt h.lt
theorem lawMulB : lawMulM (nf a b) (nf c d) = some (nf (a * c) (b * d)) := lawMul_eq hb hd ha.lt hc.lt h.lt
end
theorem lessB {a b c d : Int} (hb : 0 < b) (hd : 0 < d) (ha : Bd 1000000000000 a) (hc : Bd 1000000000000 c) (h : Bd 1000000000 (b * d)) : lessM (nf a b) (nf c d) = some (decide (a * d < c * b)) := less_pos hb hd ha.lt hc.lt h.lt
theorem fracB {a b : Int} (h : b ≠ 0) (hb : Bd 1000000000 b) : fractionM a b = some (nf a b) := fraction_eq h hb.lt
theorem lawFracB {a b : Int} (h : b ≠ 0) (hb : Bd 1000000000 b) : lawFracM a b = some (nf a b) := lawFrac_eq h hb.lt
theorem eqG_self {d : PyData} (hp : d.plain = true) (hd : d.depth < 60) : eqG d d = some true := by
  unfold eqG
  rw [if_pos ⟨hp, hp, by omega⟩, PySem.SeqAt.eqv_refl_plain d hp]
end TT

namespace TT
open PyM (fromO)
open PySem L2
/-! ### a while that may be left, in Option -/
theorem whileF_mono {δ ρ : Type} {c : δ → Option Bool} {b : δ → Option (Out ρ δ δ)} : ∀ (n : Nat) (d : δ) (r : δ ⊕ ρ), whileF c b n d = some r → ∀ m, n ≤ m → whileF c b m d = some r
  | 0, d, r, h, _, _ => by cases h
  | n + 1, d, r, h, m, hm => by
    obtain ⟨m, rfl⟩ : ∃ k, m = k + 1 := ⟨m - 1, by omega⟩
    have h : (c d >>= fun t => if t = true then b d >>= Out.loop (whileF c b n) else pure (.inl d)) = some r := h
    show (c d >>= fun t => if t = true then b d >>= Out.loop (whileF c b m) else pure (.inl d)) = some r
    cases e : c d with
    | none => rw [e] at h; cases h
    | some t =>
      rw [e] at h
      cases t with
      | false => exact h
      | true =>
        have h : (b d >>= Out.loop (whileF c b n)) = some r := h
        show (b d >>= Out.loop (whileF c b m)) = some r
        cases e2 : b d with
        | none => rw [e2] at h; cases h
        | some o =>
          rw [e2] at h
          cases o with
          | nx d' => exact whileF_mono n d' r h m (by omega)
          | ct d' => exact whileF_mono n d' r h m (by omega)
          | bk d' => exact h
          | rt d' => exact h
theorem whileG_of {δ ρ : Type} {c : δ → Option Bool} {b : δ → Option (Out ρ δ δ)} {n : Nat} {d : δ} {r : δ ⊕ ρ} (h : whileF c b n d = some r) : whileG c b d = some r :=
  supO_of (f := fun n => whileF c b n d) h fun m q e => by
    have h1 := whileF_mono n d r h (max n m) (Nat.le_max_left _ _)
    have h2 := whileF_mono m d q e (max n m) (Nat.le_max_right _ _)
    rw [h1] at h2
    exact (Option.some.inj h2).symm
/-- a measure that falls, an invariant; the loop goes on or returns -/
theorem whileG_inv {δ ρ : Type} {c : δ → Option Bool} {b : δ → Option (Out ρ δ δ)} (I : δ → Prop) (P : δ ⊕ ρ → Prop) (μ : δ → Nat) (h : ∀ d, I d → (c d = some false ∧ P (.inl d)) ∨ (c d = some true ∧ ((∃ d', b d = some (.nx d') ∧ I d' ∧ μ d' < μ d) ∨ (∃ d', b d = some (.ct d') ∧ I d' ∧ μ d' < μ d) ∨ (∃ d', b d = some (.bk d') ∧ P (.inl d')) ∨ ∃ r, b d = some (.rt r) ∧ P (.inr r)))) : ∀ (n : Nat) (d : δ), μ d < n → I d → ∃ r, whileF c b n d = some r ∧ P r
  | 0, _, z, _ => absurd z (Nat.not_lt_zero _)
  | n + 1, d, z, i => by
    show ∃ r, (c d >>= fun t => if t = true then b d >>= Out.loop (whileF c b n) else pure (.inl d)) = some r ∧ _
    rcases h d i with ⟨e, p⟩ | ⟨e, q⟩
    · rw [o_go e]; exact ⟨_, rfl, p⟩
    · rw [o_go e, if_pos rfl]
      rcases q with ⟨d', e, i', l⟩ | ⟨d', e, i', l⟩ | ⟨d', e, p⟩ | ⟨r, e, p⟩
      · rw [o_go e]; exact whileG_inv I P μ h n d' (by omega) i'
      · rw [o_go e]; exact whileG_inv I P μ h n d' (by omega) i'
      · rw [o_go e]; exact ⟨_, rfl, p⟩
      · rw [o_go e]; exact ⟨_, rfl, p⟩
theorem whileG_run {δ ρ : Type} {c : δ → Option Bool} {b : δ → Option (Out ρ δ δ)} (I : δ → Prop) (P : δ ⊕ ρ → Prop) (μ : δ → Nat) (h : ∀ d, I d → (c d = some false ∧ P (.inl d)) ∨ (c d = some true ∧ ((∃ d', b d = some (.nx d') ∧ I d' ∧ μ d' < μ d) ∨ (∃ d', b d = some (.ct d') ∧ I d' ∧ μ d' < μ d) ∨ (∃ d', b d = some (.bk d') ∧ P (.inl d')) ∨ ∃ r, b d = some (.rt r) ∧ P (.inr r)))) {d : δ} (i : I d) : ∃ r, whileG c b d = some r ∧ P r := by
  obtain ⟨r, e, p⟩ := whileG_inv I P μ h (μ d + 1) d (Nat.lt_succ_self _) i
  exact ⟨r, whileG_of e, p⟩
/-! ### the law's own comparison -/
mutual
def nodes : PyData → Nat
  | .tuple xs => 1 + nodesAll xs
  | .list xs => 1 + nodesAll xs
  | .none => 1
  | .bool _ => 1
  | .int _ => 1
  | .str _ => 1
  | .dict _ => 1
def nodesAll : List PyData → Nat
  | [] => 0
  | x :: xs => nodes x + nodesAll xs
end
theorem nodes_pos : ∀ d, 1 ≤ nodes d
  | .tuple xs => by simp only [nodes]; omega
  | .list xs => by simp only [nodes]; omega
  | .none => Nat.le_refl _
  | .bool _ => Nat.le_refl _
  | .int _ => Nat.le_refl _
  | .str _ => Nat.le_refl _
  | .dict _ => Nat.le_refl _
theorem nodesAll_len : ∀ xs : List PyData, xs.length ≤ nodesAll xs
  | [] => Nat.le_refl _
  | x :: xs => by have := nodes_pos x; have := nodesAll_len xs; simp only [nodesAll, List.length_cons]; omega
theorem nodesAll_app : ∀ xs ys : List PyData, nodesAll (xs ++ ys) = nodesAll xs + nodesAll ys
  | [], ys => by simp [nodesAll]
  | x :: xs, ys => by simp only [List.cons_append, nodesAll, nodesAll_app xs ys]; omega
theorem plain_all : ∀ {xs : List PyData}, PyData.plainAll xs = true → ∀ x ∈ xs, x.plain = true
  | [], _, x, h => by simp at h
  | y :: ys, p, x, h => by
    simp only [PyData.plainAll, Bool.and_eq_true] at p
    rcases List.mem_cons.mp h with e | e
    · rw [e]; exact p.1
    · exact plain_all p.2 x e
noncomputable def lawSameM (seen_ : PyData) (due_ : PyData) : Option Bool :=
  (pure [(seen_, due_)]) >>= fun waiting_ =>
  whileG (fun d_ => (fromO (Option.map not (eqG ((eLst (eT2 eAny eAny)) d_) ((eLst (eT2 eAny eAny)) []))))) (fun d_ => fromO (lastG d_) >>= fun p_ =>
  (pure (PyData.isDict p_.2)) >>= fun t => if t = true then (fromO none) else ((pure ((PyData.isTuple p_.2) || (PyData.isList p_.2))) >>= fun t => if t = true then (((if (!decide ((PyData.isTuple p_.1) = (PyData.isTuple p_.2))) = true then pure true else ((if (!decide ((PyData.isList p_.1) = (PyData.isList p_.2))) = true then pure true else (fromO (lenA p_.1) >>= fun v2 => fromO (lenA p_.2) >>= fun v3 => pure (!decide (v2 = v3))))))) >>= fun b => if b = true then ((pure false) >>= fun r => pure (.rt r)) else
  (fromO (lenA p_.2) >>= fun v6 => fromO (rangeG 0 v6) >>= fun v7 => compL (fun k_ => pure true) (fun k_ => (fromO (ixA p_.1 k_) >>= fun v8 => fromO (ixA p_.2 k_) >>= fun v9 => pure (v8, v9))) v7) >>= fun ys => fromO (catG (List.dropLast d_) ys) >>= fun waiting_2 =>
  pure (.nx waiting_2)) else (((if (!decide ((PyData.isBool p_.1) = (PyData.isBool p_.2))) = true then pure true else ((if (!decide ((PyData.isInt p_.1) = (PyData.isInt p_.2))) = true then pure true else ((if (!decide ((PyData.isStr p_.1) = (PyData.isStr p_.2))) = true then pure true else (fromO (Option.map not (eqG (eAny p_.1) (eAny p_.2)))))))))) >>= fun b => if b = true then ((pure false) >>= fun r => pure (.rt r)) else
  pure (.nx (List.dropLast d_))))) waiting_ >>= thenF fun d_2 =>
  (pure true)
/-- pairs of the same -/
def SameP (ws : List (PyData × PyData)) : Prop := (∀ p ∈ ws, p.1 = p.2 ∧ p.1.plain = true) ∧ nodesAll (ws.map (·.1)) ≤ 1000000
theorem same_plain : ∀ {ws : List (PyData × PyData)}, (∀ p ∈ ws, p.1 = p.2 ∧ p.1.plain = true) → PyData.plainAll (ws.map (eT2 eAny eAny)) = true
  | [], _ => by simp [PyData.plainAll]
  | p :: ws, h => by
    obtain ⟨e, q⟩ := h p (by simp)
    rw [List.map_cons, PyData.plainAll, same_plain fun x hx => h x (by simp [hx])]
    simp [eT2, eAny, PyData.plain, PyData.plainAll, ← e, q]
theorem comp_pairs {xs : List PyData} {f : Int → Option PyData} (hf : ∀ (k : Nat), k < xs.length → f (k : Int) = xs[k]?) : compL (m := Option) (fun k_ => some true) (fun k_ => f k_ >>= fun v8 => f k_ >>= fun v9 => some (v8, v9)) (rangeL 0 xs.length) = some (xs.map fun x => (x, x)) := by
  refine (comp_rangeS (q := fun k => (xs.getD k .none, xs.getD k .none)) fun k hk => ?_).trans ?_
  · rw [hf k hk, List.getElem?_eq_getElem hk, o_bind, o_bind]
    simp [List.getD, hk]
  · congr 1
    apply List.ext_getElem (by simp)
    intro i h1 h2
    have : i < xs.length := by simpa using h1
    simp [List.getD, this]
theorem lawSame_true {d : PyData} (hp : d.plain = true) (hn : nodes d ≤ 1000000) : lawSameM d d = some true := by
  unfold lawSameM
  simp only [o_fromO, o_pure, o_bind]
  obtain ⟨r, e, p⟩ := whileG_run (δ := List (PyData × PyData)) (ρ := Bool) (c := fun d_ => (Option.map not (eqG ((eLst (eT2 eAny eAny)) d_) ((eLst (eT2 eAny eAny)) []))))
    (b := fun d_ => lastG d_ >>= fun p_ =>
  if (PyData.isDict p_.2) = true then none else (if ((PyData.isTuple p_.2) || (PyData.isList p_.2)) = true then (((if (!decide ((PyData.isTuple p_.1) = (PyData.isTuple p_.2))) = true then some true else ((if (!decide ((PyData.isList p_.1) = (PyData.isList p_.2))) = true then some true else (lenA p_.1 >>= fun v2 => lenA p_.2 >>= fun v3 => some (!decide (v2 = v3))))))) >>= fun b => if b = true then (some (.rt false)) else
  (lenA p_.2 >>= fun v6 => rangeG 0 v6 >>= fun v7 => compL (fun k_ => some true) (fun k_ => (ixA p_.1 k_ >>= fun v8 => ixA p_.2 k_ >>= fun v9 => some (v8, v9))) v7) >>= fun ys => catG (List.dropLast d_) ys >>= fun waiting_2 =>
  some (.nx waiting_2)) else (((if (!decide ((PyData.isBool p_.1) = (PyData.isBool p_.2))) = true then some true else ((if (!decide ((PyData.isInt p_.1) = (PyData.isInt p_.2))) = true then some true else ((if (!decide ((PyData.isStr p_.1) = (PyData.isStr p_.2))) = true then some true else ((Option.map not (eqG (eAny p_.1) (eAny p_.2)))))))))) >>= fun b => if b = true then (some (.rt false)) else
  some (.nx (List.dropLast d_))))) SameP (fun r => ∃ d, r = .inl d) (fun ws => nodesAll (ws.map (·.1))) (d := [(d, d)]) (fun ws i => by
    obtain ⟨i1, i2⟩ := i
    have hc : eqG (eLst (eT2 eAny eAny) ws) (eLst (eT2 eAny eAny) []) = some (decide (ws = [])) := by
      have h1 : (eLst (eT2 eAny eAny) ws).plain = true := by
        simp only [eLst, PyData.plain]
        exact same_plain i1
      have h2 : (eLst (eT2 eAny eAny) []).depth ≤ 1 := by simp [eLst, PyData.depth, PyData.depthAll]
      have h3 : PyData.eqv (eLst (eT2 eAny eAny) ws) (eLst (eT2 eAny eAny) []) = decide (ws = []) := by
        cases ws <;> simp [eLst, PyData.eqv, PyData.eqvAll]
      unfold eqG
      rw [if_pos ⟨h1, by simp [eLst, PyData.plain, PyData.plainAll], by omega⟩, h3]
    rcases List.eq_nil_or_concat ws with z | ⟨l, p, z⟩ <;> try rw [List.concat_eq_append] at z
    · subst z
      exact .inl ⟨by rw [hc]; rfl, _, rfl⟩
    · subst z
      refine .inr ⟨by rw [hc]; simp, .inl ?_⟩
      obtain ⟨x, y⟩ := p
      obtain ⟨e1, e2⟩ := i1 (x, y) (by simp)
      simp only at e1 e2
      subst e1
      have l1 : lastG (l ++ [(x, x)]) = some (x, x) := by simp [lastG]
      have l2 : (l ++ [(x, x)]).dropLast = l := by simp
      have nn : nodesAll ((l ++ [(x, x)]).map (·.1)) = nodesAll (l.map (·.1)) + nodes x := by simp [nodesAll_app, nodesAll]
      have il : SameP l := ⟨fun p hp => i1 p (by simp [hp]), by rw [nn] at i2; omega⟩
      have hpos := nodes_pos x
      rw [l1, l2, o_bind]
      have seq : ∀ xs : List PyData, (x = .tuple xs ∨ x = .list xs) → ∃ d', ((lenA x >>= fun v6 => rangeG 0 v6 >>= fun v7 => compL (fun k_ => some true) (fun k_ => (ixA x k_ >>= fun v8 => ixA x k_ >>= fun v9 => some (v8, v9))) v7) >>= fun ys => catG l ys >>= fun waiting_2 => some (.nx waiting_2 : Out Bool (List (PyData × PyData)) (List (PyData × PyData)))) = some (.nx d') ∧ SameP d' ∧ nodesAll (d'.map (·.1)) < nodesAll ((l ++ [(x, x)]).map (·.1)) := by
        intro xs hx
        have nx : nodes x = 1 + nodesAll xs := by rcases hx with h | h <;> rw [h] <;> simp only [nodes]
        have px : PyData.plainAll xs = true := by rcases hx with h | h <;> rw [h] at e2 <;> simpa [PyData.plain] using e2
        have lx : lenA x = some (xs.length : Int) := by rcases hx with h | h <;> rw [h] <;> rfl
        have ix : ∀ k : Nat, k < xs.length → ixA x (k : Int) = xs[k]? := by
          intro k hk
          rcases hx with h | h <;> rw [h] <;> exact (at_nat (List.getElem?_eq_getElem hk)).trans (List.getElem?_eq_getElem hk).symm
        have ll := nodesAll_len xs
        have ll2 := nodesAll_len (l.map (·.1))
        rw [List.length_map] at ll2
        rw [nn, nx] at i2
        rw [lx, o_bind, range_nat (by omega), o_bind, comp_pairs ix, o_bind, cat_some (by rw [List.length_map]; omega), o_bind]
        have mm : nodesAll ((l ++ xs.map fun x => (x, x)).map (·.1)) = nodesAll (l.map (·.1)) + nodesAll xs := by
          rw [List.map_append, nodesAll_app, List.map_map]
          congr 2
          exact (List.map_congr_left fun _ _ => rfl).trans (List.map_id _)
        refine ⟨_, rfl, ⟨fun p hp => ?_, by rw [mm]; omega⟩, by rw [mm, nn, nx]; omega⟩
        rcases List.mem_append.mp hp with q | q
        · exact il.1 p q
        · obtain ⟨z, hz, rfl⟩ := List.mem_map.mp q
          exact ⟨rfl, plain_all px z hz⟩
      have leaf : x.isDict = false → (x.isTuple || x.isList) = false → ∃ d', (((if (!decide ((PyData.isBool x) = (PyData.isBool x))) = true then some true else ((if (!decide ((PyData.isInt x) = (PyData.isInt x))) = true then some true else ((if (!decide ((PyData.isStr x) = (PyData.isStr x))) = true then some true else ((Option.map not (eqG (eAny x) (eAny x)))))))))) >>= fun b => if b = true then (some (.rt false)) else some (.nx l : Out Bool (List (PyData × PyData)) (List (PyData × PyData)))) = some (.nx d') ∧ SameP d' ∧ nodesAll (d'.map (·.1)) < nodesAll ((l ++ [(x, x)]).map (·.1)) := by
        intro h1 h2
        have dx : x.depth < 60 := by cases x <;> simp_all [PyData.isTuple, PyData.isList, PyData.isDict, PyData.depth]
        have q := eqG_self e2 dx
        refine ⟨l, ?_, il, by rw [nn]; omega⟩
        simp only [decide_true, Bool.not_true, Bool.false_eq_true, if_false, eAny, q]
        rfl
      have dict : x.isDict = false := by cases x <;> simp_all [PyData.plain, PyData.isDict]
      rw [dict, if_neg Bool.false_ne_true]
      cases hs : (x.isTuple || x.isList) with
      | false =>
        rw [if_neg Bool.false_ne_true]
        exact leaf dict hs
      | true =>
        rw [if_pos rfl]
        have : ∃ xs, x = .tuple xs ∨ x = .list xs := by
          cases x with
          | tuple xs => exact ⟨xs, .inl rfl⟩
          | list xs => exact ⟨xs, .inr rfl⟩
          | none => cases hs
          | bool _ => cases hs
          | int _ => cases hs
          | str _ => cases hs
          | dict _ => cases hs
        obtain ⟨xs, hx⟩ := this
        have lx : lenA x = some (xs.length : Int) := by rcases hx with h | h <;> rw [h] <;> rfl
        obtain ⟨d', e', i', m'⟩ := seq xs hx
        refine ⟨d', ?_, i', m'⟩
        rw [← e']
        simp only [decide_true, Bool.not_true, Bool.false_eq_true, if_false, lx, o_bind]) ⟨by simpa using hp, by simpa [nodesAll] using hn⟩
  obtain ⟨d', rfl⟩ := p
  rw [o_go e]
  rfl
/-! ### how large -/
section
variable {α β γ δ ε : Type} {ea : α → PyData} {eb : β → PyData} {ec : γ → PyData} {ed : δ → PyData} {ee : ε → PyData}
theorem nodesAll_le {n : Nat} : ∀ {xs : List α}, (∀ x ∈ xs, nodes (ea x) ≤ n) → nodesAll (xs.map ea) ≤ xs.length * n
  | [], _ => by simp [nodesAll]
  | x :: xs, h => by
    have := h x (by simp)
    have := nodesAll_le (xs := xs) fun y hy => h y (by simp [hy])
    simp only [List.map_cons, nodesAll, List.length_cons, Nat.add_mul]
    omega
theorem nodes_tup {n m : Nat} {xs : List α} (h : ∀ x ∈ xs, nodes (ea x) ≤ n) (hl : xs.length ≤ m) : nodes (eTup ea xs) ≤ 1 + m * n := by
  have := nodesAll_le h
  have := Nat.mul_le_mul_right n hl
  simp only [eTup, nodes]
  omega
theorem nodes_lst {n m : Nat} {xs : List α} (h : ∀ x ∈ xs, nodes (ea x) ≤ n) (hl : xs.length ≤ m) : nodes (eLst ea xs) ≤ 1 + m * n := by
  have := nodesAll_le h
  have := Nat.mul_le_mul_right n hl
  simp only [eLst, nodes]
  omega
theorem nodes_t2 {n m : Nat} {p : α × β} (h : nodes (ea p.1) ≤ n) (h2 : nodes (eb p.2) ≤ m) : nodes (eT2 ea eb p) ≤ 1 + (n + m) := by
  simp only [eT2, nodes, nodesAll]; omega
theorem nodes_t3 {n m k : Nat} {p : α × β × γ} (h : nodes (ea p.1) ≤ n) (h2 : nodes (eb p.2.1) ≤ m) (h3 : nodes (ec p.2.2) ≤ k) : nodes (eT3 ea eb ec p) ≤ 1 + (n + (m + k)) := by
  simp only [eT3, nodes, nodesAll]; omega
theorem nodes_t4 {n m k l : Nat} {p : α × β × γ × δ} (h : nodes (ea p.1) ≤ n) (h2 : nodes (eb p.2.1) ≤ m) (h3 : nodes (ec p.2.2.1) ≤ k) (h4 : nodes (ed p.2.2.2) ≤ l) : nodes (eT4 ea eb ec ed p) ≤ 1 + (n + (m + (k + l))) := by
  simp only [eT4, nodes, nodesAll]; omega
theorem nodes_t5 {n m k l o : Nat} {p : α × β × γ × δ × ε} (h : nodes (ea p.1) ≤ n) (h2 : nodes (eb p.2.1) ≤ m) (h3 : nodes (ec p.2.2.1) ≤ k) (h4 : nodes (ed p.2.2.2.1) ≤ l) (h5 : nodes (ee p.2.2.2.2) ≤ o) : nodes (eT5 ea eb ec ed ee p) ≤ 1 + (n + (m + (k + (l + o)))) := by
  simp only [eT5, nodes, nodesAll]; omega
theorem nodes_opt {n : Nat} {x : Option α} (h : ∀ y, x = some y → nodes (ea y) ≤ n) (hn : 1 ≤ n) : nodes (eOpt ea x) ≤ n := by
  cases x with
  | none => simpa [eOpt, nodes] using hn
  | some y => exact h y rfl
theorem nodes_int {i : Int} : nodes (eInt i) ≤ 1 := Nat.le_refl _
theorem nodes_bool {i : Bool} : nodes (eBool i) ≤ 1 := Nat.le_refl _
theorem nodes_str {i : Str} : nodes (eStr i) ≤ 1 := Nat.le_refl _
end
end TT

namespace TT
open PyM (fromO)
open PySem L2
theorem at0 {α : Type} (a : α) (r : List α) : L2.atI (a :: r) 0 = some a := at_of 0 rfl rfl
theorem at1 {α : Type} (a b : α) (r : List α) : L2.atI (a :: b :: r) 1 = some b := at_of 1 rfl rfl
theorem at2 {α : Type} (a b c : α) (r : List α) : L2.atI (a :: b :: c :: r) 2 = some c := at_of 2 rfl rfl
theorem at3 {α : Type} (a b c d : α) (r : List α) : L2.atI (a :: b :: c :: d :: r) 3 = some d := at_of 3 rfl rfl
theorem atI_head {α : Type} (xs : List α) : L2.atI xs 0 = xs.head? := by
  cases xs with
  | nil => rfl
  | cons x xs => rw [at0]; rfl
/-- xs[0] if xs != [] else None -/
theorem head_or {α : Type} [DecidableEq α] (xs : List α) : (if (!decide (xs = [])) = true then (L2.atI xs 0 >>= fun v => some (some v)) else some none) = some xs.head? := by
  cases xs with
  | nil => rfl
  | cons x xs => rw [if_pos (by simp), at0]; rfl
theorem findSome_guard {α : Type} (p : α → Bool) : ∀ xs : List α, xs.findSome? (fun x => if p x = true then some x else none) = xs.find? p
  | [] => rfl
  | x :: xs => by
    rw [List.findSome?_cons, List.find?_cons]
    cases p x with
    | true => rfl
    | false => exact findSome_guard p xs
/-- a place of what is made over a range -/
theorem at_rangeL {α : Type} (f : Int → α) {lo : Int} {n : Nat} {i : Int} (h : 0 ≤ i) (h2 : i < n) : L2.atI ((rangeL lo n).map f) i = some (f (lo + i)) := by
  rw [at_of i.toNat (by omega) (by rw [List.getElem?_map, rangeL_get _ _ _ (by omega)]; rfl), Int.toNat_of_nonneg h]
theorem rangeL_app (lo : Int) : ∀ (a b : Nat), rangeL lo (a + b) = rangeL lo a ++ rangeL (lo + a) b := by
  intro a
  induction a generalizing lo with
  | zero => intro b; simp [rangeL]
  | succ a ih =>
    intro b
    rw [show a + 1 + b = (a + b) + 1 by omega]
    show lo :: rangeL (lo + 1) (a + b) = (lo :: rangeL (lo + 1) a) ++ _
    rw [ih, List.cons_append]
    congr 3
    omega
/-! ### the least of a list -/
structure Ordr {α : Type} (lt : α → α → Bool) : Prop where
  asym : ∀ a b, lt a b = true → lt b a = false
  nt : ∀ a b c, lt a b = false → lt b c = false → lt a c = false
theorem Ordr.ir {α : Type} {lt : α → α → Bool} (o : Ordr lt) (a : α) : lt a a = false := by
  cases h : lt a a with
  | false => rfl
  | true => rw [o.asym a a h] at h; cases h
theorem Ordr.flip {α : Type} {lt : α → α → Bool} (o : Ordr lt) : Ordr (fun a b => lt b a) := ⟨fun a b h => o.asym b a h, fun a b c h1 h2 => o.nt c b a h2 h1⟩
theorem fold_best {α : Type} {lt : α → α → Bool} (o : Ordr lt) : ∀ (xs : List α) (x : α), (xs.foldl (fun m y => if lt y m = true then y else m) x ∈ x :: xs) ∧ ∀ y ∈ x :: xs, lt y (xs.foldl (fun m y => if lt y m = true then y else m) x) = false
  | [], x => ⟨by simp, by simpa using o.ir x⟩
  | y :: ys, x => by
    rw [List.foldl_cons]
    cases h : lt y x with
    | true =>
      rw [if_pos rfl]
      obtain ⟨h1, h2⟩ := fold_best o ys y
      refine ⟨List.mem_cons_of_mem _ h1, fun z hz => ?_⟩
      rcases List.mem_cons.mp hz with rfl | hz
      · exact o.nt _ _ _ (o.asym _ _ h) (h2 y (by simp))
      · exact h2 z hz
    | false =>
      rw [if_neg Bool.false_ne_true]
      obtain ⟨h1, h2⟩ := fold_best o ys x
      refine ⟨?_, fun z hz => ?_⟩
      · rcases List.mem_cons.mp h1 with q | q
        · rw [q]; simp
        · exact List.mem_cons_of_mem _ (List.mem_cons_of_mem _ q)
      · rcases List.mem_cons.mp hz with rfl | hz
        · exact h2 z (by simp)
        · rcases List.mem_cons.mp hz with rfl | hz
          · exact o.nt _ _ _ h (h2 x (by simp))
          · exact h2 z (by simp [hz])
/-- what min gives -/
theorem min_spec {α : Type} {e : α → PyData} (o : Ordr (ltD e)) {xs : List α} (h : xs ≠ []) : ∃ m, minG e xs = some m ∧ m ∈ xs ∧ ∀ x ∈ xs, ltD e x m = false := by
  cases xs with
  | nil => exact absurd rfl h
  | cons x xs => exact ⟨_, rfl, fold_best o xs x⟩
theorem max_spec {α : Type} {e : α → PyData} (o : Ordr (ltD e)) {xs : List α} (h : xs ≠ []) : ∃ m, maxG e xs = some m ∧ m ∈ xs ∧ ∀ x ∈ xs, ltD e m x = false := by
  cases xs with
  | nil => exact absurd rfl h
  | cons x xs => exact ⟨_, rfl, fold_best o.flip xs x⟩
theorem ltD_int (a b : Int) : ltD eInt a b = decide (a < b) := by
  unfold ltD
  exact PySem.W.dataLt_int a b
theorem ordr_int : Ordr (ltD eInt) := ⟨fun a b h => by simp only [ltD_int, decide_eq_true_eq, decide_eq_false_iff_not] at *; omega, fun a b c h1 h2 => by simp only [ltD_int, decide_eq_false_iff_not] at *; omega⟩
theorem ltD_ii (a b : Int × Int) : ltD (eT2 eInt eInt) a b = decide (a.1 < b.1 ∨ (a.1 = b.1 ∧ a.2 < b.2)) := PySem.W.dataLt_ii a.1 a.2 b.1 b.2
theorem ordr_ii : Ordr (ltD (eT2 eInt eInt)) := ⟨fun a b h => by simp only [ltD_ii, decide_eq_true_eq, decide_eq_false_iff_not] at *; omega, fun a b c h1 h2 => by simp only [ltD_ii, decide_eq_false_iff_not] at *; omega⟩
theorem minI_spec {xs : List Int} (h : xs ≠ []) : ∃ m, minG eInt xs = some m ∧ m ∈ xs ∧ ∀ x ∈ xs, m ≤ x := by
  obtain ⟨m, e, h1, h2⟩ := min_spec ordr_int h
  exact ⟨m, e, h1, fun x hx => by have := h2 x hx; simp only [ltD_int, decide_eq_false_iff_not] at this; omega⟩
theorem maxI_spec {xs : List Int} (h : xs ≠ []) : ∃ m, maxG eInt xs = some m ∧ m ∈ xs ∧ ∀ x ∈ xs, x ≤ m := by
  obtain ⟨m, e, h1, h2⟩ := max_spec ordr_int h
  exact ⟨m, e, h1, fun x hx => by have := h2 x hx; simp only [ltD_int, decide_eq_false_iff_not] at this; omega⟩
theorem minII_spec {xs : List (Int × Int)} (h : xs ≠ []) : ∃ m, minG (eT2 eInt eInt) xs = some m ∧ m ∈ xs ∧ ∀ x ∈ xs, m.1 < x.1 ∨ (m.1 = x.1 ∧ m.2 ≤ x.2) := by
  obtain ⟨m, e, h1, h2⟩ := min_spec ordr_ii h
  exact ⟨m, e, h1, fun x hx => by have := h2 x hx; simp only [ltD_ii, decide_eq_false_iff_not] at this; omega⟩
end TT
namespace TT
open PyM (fromO)
open PySem L2
/-! ### data without dicts -/
section
variable {α β γ δ ε : Type} {ea : α → PyData} {eb : β → PyData} {ec : γ → PyData} {ed : δ → PyData} {ee : ε → PyData}
theorem plain_int {i : Int} : (eInt i).plain = true := by simp [PyData.plain]
theorem plain_bool {i : Bool} : (eBool i).plain = true := by simp [PyData.plain]
theorem plain_str {i : Str} : (eStr i).plain = true := by simp [PyData.plain]
theorem plain_list {xs : List α} (h : ∀ x ∈ xs, (ea x).plain = true) : PyData.plainAll (xs.map ea) = true := by
  induction xs with
  | nil => simp [PyData.plainAll]
  | cons x xs ih =>
    rw [List.map_cons, PyData.plainAll, h x (by simp), ih fun y hy => h y (by simp [hy])]
    rfl
theorem plain_tup {xs : List α} (h : ∀ x ∈ xs, (ea x).plain = true) : (eTup ea xs).plain = true := by simp only [eTup, PyData.plain]; exact plain_list h
theorem plain_lst {xs : List α} (h : ∀ x ∈ xs, (ea x).plain = true) : (eLst ea xs).plain = true := by simp only [eLst, PyData.plain]; exact plain_list h
theorem plain_opt {x : Option α} (h : ∀ y, x = some y → (ea y).plain = true) : (eOpt ea x).plain = true := by
  cases x with
  | none => simp [eOpt, PyData.plain]
  | some y => exact h y rfl
theorem plain_t1 {p : α} (h : (ea p).plain = true) : (eT1 ea p).plain = true := by simp [eT1, PyData.plain, PyData.plainAll, h]
theorem plain_t2 {p : α × β} (h : (ea p.1).plain = true) (h2 : (eb p.2).plain = true) : (eT2 ea eb p).plain = true := by simp [eT2, PyData.plain, PyData.plainAll, h, h2]
theorem plain_t3 {p : α × β × γ} (h : (ea p.1).plain = true) (h2 : (eb p.2.1).plain = true) (h3 : (ec p.2.2).plain = true) : (eT3 ea eb ec p).plain = true := by simp [eT3, PyData.plain, PyData.plainAll, h, h2, h3]
theorem plain_t4 {p : α × β × γ × δ} (h : (ea p.1).plain = true) (h2 : (eb p.2.1).plain = true) (h3 : (ec p.2.2.1).plain = true) (h4 : (ed p.2.2.2).plain = true) : (eT4 ea eb ec ed p).plain = true := by simp [eT4, PyData.plain, PyData.plainAll, h, h2, h3, h4]
theorem plain_t5 {p : α × β × γ × δ × ε} (h : (ea p.1).plain = true) (h2 : (eb p.2.1).plain = true) (h3 : (ec p.2.2.1).plain = true) (h4 : (ed p.2.2.2.1).plain = true) (h5 : (ee p.2.2.2.2).plain = true) : (eT5 ea eb ec ed ee p).plain = true := by simp [eT5, PyData.plain, PyData.plainAll, h, h2, h3, h4, h5]
theorem nodes_t1 {n : Nat} {p : α} (h : nodes (ea p) ≤ n) : nodes (eT1 ea p) ≤ 1 + n := by simp only [eT1, nodes, nodesAll]; omega
/-- what is small and plain is the same as itself -/
structure Sml (n : Nat) (d : PyData) : Prop where
  plain : d.plain = true
  nodes : nodes d ≤ n
theorem Sml.same {n : Nat} {d : PyData} (h : Sml n d) (hn : n ≤ 1000000) : lawSameM d d = some true := lawSame_true h.plain (Nat.le_trans h.nodes hn)
theorem Sml.le {n m : Nat} {d : PyData} (h : Sml n d) (hn : n ≤ m) : Sml m d := ⟨h.plain, Nat.le_trans h.nodes hn⟩
theorem sml_int {i : Int} : Sml 1 (eInt i) := ⟨plain_int, nodes_int⟩
theorem sml_bool {i : Bool} : Sml 1 (eBool i) := ⟨plain_bool, nodes_bool⟩
theorem sml_str {i : Str} : Sml 1 (eStr i) := ⟨plain_str, nodes_str⟩
theorem sml_tup {n m : Nat} {xs : List α} (h : ∀ x ∈ xs, Sml n (ea x)) (hl : xs.length ≤ m) : Sml (1 + m * n) (eTup ea xs) := ⟨plain_tup fun x hx => (h x hx).plain, nodes_tup (fun x hx => (h x hx).nodes) hl⟩
theorem sml_lst {n m : Nat} {xs : List α} (h : ∀ x ∈ xs, Sml n (ea x)) (hl : xs.length ≤ m) : Sml (1 + m * n) (eLst ea xs) := ⟨plain_lst fun x hx => (h x hx).plain, nodes_lst (fun x hx => (h x hx).nodes) hl⟩
theorem sml_opt {n : Nat} {x : Option α} (h : ∀ y, x = some y → Sml n (ea y)) (hn : 1 ≤ n) : Sml n (eOpt ea x) := ⟨plain_opt fun y hy => (h y hy).plain, nodes_opt (fun y hy => (h y hy).nodes) hn⟩
theorem sml_t1 {n : Nat} {p : α} (h : Sml n (ea p)) : Sml (1 + n) (eT1 ea p) := ⟨plain_t1 h.plain, nodes_t1 h.nodes⟩
theorem sml_t2 {n m : Nat} {p : α × β} (h : Sml n (ea p.1)) (h2 : Sml m (eb p.2)) : Sml (1 + (n + m)) (eT2 ea eb p) := ⟨plain_t2 h.plain h2.plain, nodes_t2 h.nodes h2.nodes⟩
theorem sml_t3 {n m k : Nat} {p : α × β × γ} (h : Sml n (ea p.1)) (h2 : Sml m (eb p.2.1)) (h3 : Sml k (ec p.2.2)) : Sml (1 + (n + (m + k))) (eT3 ea eb ec p) := ⟨plain_t3 h.plain h2.plain h3.plain, nodes_t3 h.nodes h2.nodes h3.nodes⟩
theorem sml_t4 {n m k l : Nat} {p : α × β × γ × δ} (h : Sml n (ea p.1)) (h2 : Sml m (eb p.2.1)) (h3 : Sml k (ec p.2.2.1)) (h4 : Sml l (ed p.2.2.2)) : Sml (1 + (n + (m + (k + l)))) (eT4 ea eb ec ed p) := ⟨plain_t4 h.plain h2.plain h3.plain h4.plain, nodes_t4 h.nodes h2.nodes h3.nodes h4.nodes⟩
theorem sml_t5 {n m k l o : Nat} {p : α × β × γ × δ × ε} (h : Sml n (ea p.1)) (h2 : Sml m (eb p.2.1)) (h3 : Sml k (ec p.2.2.1)) (h4 : Sml l (ed p.2.2.2.1)) (h5 : Sml o (ee p.2.2.2.2)) : Sml (1 + (n + (m + (k + (l + o))))) (eT5 ea eb ec ed ee p) := ⟨plain_t5 h.plain h2.plain h3.plain h4.plain h5.plain, nodes_t5 h.nodes h2.nodes h3.nodes h4.nodes h5.nodes⟩
end
/-! ### counting up -/
def cntUp (p : Int → Bool) : Nat → Int → Int
  | 0, lo => lo
  | n + 1, lo => if p lo = true then cntUp p n (lo + 1) else lo
theorem cntUp_spec {p : Int → Bool} : ∀ (n : Nat) (lo : Int), p (lo + n) = false → lo ≤ cntUp p n lo ∧ cntUp p n lo ≤ lo + n ∧ p (cntUp p n lo) = false ∧ ∀ j, lo ≤ j → j < cntUp p n lo → p j = true
  | 0, lo, h => ⟨Int.le_refl _, by show lo ≤ lo + 0; omega, by simpa [cntUp] using h, fun j h1 h2 => by have : cntUp p 0 lo = lo := rfl; omega⟩
  | n + 1, lo, h => by
    show lo ≤ (if p lo = true then _ else _) ∧ (if p lo = true then _ else _) ≤ _ ∧ p (if p lo = true then _ else _) = false ∧ ∀ j, lo ≤ j → j < (if p lo = true then _ else _) → p j = true
    cases q : p lo with
    | false =>
      simp only [Bool.false_eq_true, if_false]
      exact ⟨Int.le_refl _, by omega, q, fun j h1 h2 => by omega⟩
    | true =>
      simp only [if_true]
      obtain ⟨a, b, c, d⟩ := cntUp_spec n (lo + 1) (by rw [← h]; congr 1; omega)
      refine ⟨by omega, by omega, c, fun j h1 h2 => ?_⟩
      rcases Int.lt_or_eq_of_le h1 with z | z
      · exact d j (by omega) h2
      · rw [← z]; exact q
theorem cntUp_uniq {p : Int → Bool} {n : Nat} {lo r : Int} (h : p (lo + n) = false) (h1 : lo ≤ r) (h2 : p r = false) (h3 : ∀ j, lo ≤ j → j < r → p j = true) : cntUp p n lo = r := by
  obtain ⟨a, b, c, d⟩ := cntUp_spec n lo h
  rcases Int.lt_trichotomy (cntUp p n lo) r with z | z | z
  · rw [h3 _ a z] at c; cases c
  · exact z
  · rw [d r h1 z] at h2; cases h2
theorem while_cnt {p : Int → Bool} {c : Int → Option Bool} : ∀ (n : Nat) (lo : Int), (∀ d, lo ≤ d → d ≤ lo + n → c d = some (p d)) → p (lo + n) = false → whileFP (m := Option) c (fun d => some (d + 1)) (n + 1) lo = some (cntUp p n lo)
  | 0, lo, h, hp => by
    have hp : p lo = false := by simpa using hp
    show (c lo >>= fun t => if t = true then _ else some lo) = some lo
    rw [h lo (Int.le_refl _) (by omega), o_bind, hp]
    rfl
  | n + 1, lo, h, hp => by
    show (c lo >>= fun t => if t = true then (some (lo + 1) >>= whileFP c (fun d => some (d + 1)) (n + 1)) else some lo) = some (if p lo = true then _ else _)
    rw [h lo (Int.le_refl _) (by omega), o_bind]
    cases q : p lo with
    | false => rfl
    | true =>
      rw [if_pos rfl, if_pos rfl, o_bind]
      exact while_cnt n (lo + 1) (fun d h1 h2 => h d (by omega) (by omega)) (by rw [← hp]; congr 1; omega)
theorem whileM_cnt {p : Int → Bool} {c : Int → Option Bool} {n : Nat} {lo : Int} (h : ∀ d, lo ≤ d → d ≤ lo + n → c d = some (p d)) (hp : p (lo + n) = false) : whileM (m := Option) c (fun d => some (d + 1)) lo = some (cntUp p n lo) := whileM_of (while_cnt n lo h hp)
end TT
namespace TT
open PyM (fromO)
open PySem L2
/-- one of a list -/
theorem Good.pick {α : Type} {rows : List α} (h : rows ≠ []) : Good (TT.nextM (rows.length : Int) >>= fun v1 => PyM.fromO (L2.atI rows v1)) (· ∈ rows) := by
  have l : 0 < rows.length := List.length_pos_iff.mpr h
  refine Good.bind (Good.nextM (by omega)) fun v hv => ?_
  exact Good.fromO (at_int hv.1 hv.2) (List.getElem_mem _)
theorem comp_app {α β : Type} {f : α → Option β} {ys : List α} {bs : List β} (h' : compL (fun _ => some true) f ys = some bs) : ∀ {xs : List α} {as : List β}, compL (fun _ => some true) f xs = some as → compL (fun _ => some true) f (xs ++ ys) = some (as ++ bs)
  | [], as, h => by
    have : some [] = some as := h
    cases this
    exact h'
  | x :: xs, as, h => by
    have h : (f x >>= fun y => compL (fun _ => some true) f xs >>= fun ys => some (y :: ys)) = some as := h
    show (f x >>= fun y => compL (fun _ => some true) f (xs ++ ys) >>= fun ys => some (y :: ys)) = some (as ++ bs)
    cases e : f x with
    | none => rw [e] at h; cases h
    | some y =>
      rw [e, o_bind] at h
      rw [o_bind]
      cases e2 : compL (fun _ => some true) f xs with
      | none => rw [e2] at h; cases h
      | some zs =>
        rw [e2, o_bind] at h
        cases h
        rw [comp_app h' e2, o_bind]
        rfl
theorem fold_map {α β : Type} {f : α → List β → Option (List β)} {g : α → β} {xs : List α} {acc : List β} (h : ∀ x ∈ xs, ∀ acc : List β, acc.length ≤ 1000000 → f x acc = some (acc ++ [g x])) (hl : acc.length + xs.length ≤ 1000000) : foldL f xs acc = some (acc ++ xs.map g) := by
  rw [fold_flat (g := fun x => [g x]) (B := 1) (fun _ _ => Nat.le_refl _) h (by omega)]
  congr 2
  induction xs with
  | nil => rfl
  | cons x xs ih => rw [List.flatMap_cons, List.map_cons, ih (fun y hy => h y (by simp [hy])) (by simp only [List.length_cons] at hl; omega)]; rfl
theorem Good.thenL {ρ ε δ δ' : Type} {k : δ → WM DW (Out ρ ε δ')} {d : δ} {Q : Out ρ ε δ' → Prop} (h : Good (k d) Q) : Good (TT.thenL k (.inl d)) Q := h
theorem Good.thn {ρ ε δ δ' : Type} {k : δ → WM DW (Out ρ ε δ')} {d : δ} {Q : Out ρ ε δ' → Prop} (h : Good (k d) Q) : Good (Out.thn k (.nx d)) Q := h
/-- a loop of turns without a state, none of which ends it -/
theorem Good.turns {α ρ β : Type} {f : α → Unit → WM DW (Out ρ Unit Unit)} {xs : List α} {k : Unit ⊕ ρ → WM DW β} {Q : β → Prop} (h : ∀ x ∈ xs, Good (f x ()) (fun o => o = .nx ())) (h' : Good (k (.inl ())) Q) : Good (loopL f xs () >>= k) Q := by
  refine Good.bind (P := fun r => r = .inl ()) ((Good.loop (fun _ => True) trivial fun x hx d _ => (h x hx).imp fun o e => ⟨(), e, trivial⟩).imp fun r ⟨d, e, _⟩ => e) fun r e => ?_
  subst e
  exact h'
end TT

namespace TT
open PyM (fromO)
open PySem L2
theorem mul_nat {a b : Nat} (ha : a ≤ 1000000000000) (hb : b ≤ 1000000000000) : mulG (a : Int) (b : Int) = some ((a * b : Nat) : Int) := by
  rw [mul_small (by omega) (by omega), Int.natCast_mul]
theorem div_nat {a b : Nat} (hb : 0 < b) (hb' : b ≤ 1000000000) : divG (a : Int) (b : Int) = some ((a / b : Nat) : Int) := by
  rw [div_small (by omega) (by omega), Int.natCast_ediv]
theorem mod_nat {a b : Nat} (hb : 0 < b) : modG (a : Int) (b : Int) = some ((a % b : Nat) : Int) := by
  rw [mod_pos (by omega), Int.natCast_emod]
/-! ### tides: sums of rounds -/
abbrev Tide := List (List Int × Int)
/-- the height that a part gives at an hour -/
def ptH (p : List Int × Int) (h : Int) : Int := p.1.getD ((h - p.2) % (p.1.length : Int)).toNat 0
def wat (t : Tide) (h : Int) : Int := (t.map fun p => ptH p h).sum
/-- parts of some hours, not too many -/
structure OkT (t : Tide) : Prop where
  ne : ∀ p ∈ t, 1 ≤ p.1.length ∧ p.1.length ≤ 1000000
  bd : ∀ p ∈ t, Bd 1000000000 p.2
noncomputable def heightAtM (tide_ : (List ((List Int) × Int))) (hour_ : Int) : Option Int :=
  (compL (fun p_ => pure true) (fun p_ => (fromO (modG (hour_ - p_.2) (p_.1.length : Int)) >>= fun v1 => fromO (L2.atI p_.1 v1))) tide_ >>= fun v3 => pure (List.sum v3))
noncomputable def lawWaterM (tide_ : (List ((List Int) × Int))) (hour_ : Int) : Option Int :=
  (pure (0 : Int)) >>= fun total_ =>
  (pure tide_) >>= fun xs => foldL (fun p_ d_ => (pure (hour_ - p_.2)) >>= fun at_ =>
  (fromO (divG at_ (p_.1.length : Int)) >>= fun v1 => fromO (mulG v1 (p_.1.length : Int)) >>= fun v2 => fromO (L2.atI p_.1 (at_ - v2)) >>= fun v3 => pure (d_ + v3)) >>= fun total_2 =>
  pure total_2) xs total_ >>= fun d_2 =>
  (pure d_2)
theorem pt_at {p : List Int × Int} (hp : 1 ≤ p.1.length) (h : Int) : L2.atI p.1 ((h - p.2) % (p.1.length : Int)) = some (ptH p h) := by
  have h1 := Int.emod_nonneg (h - p.2) (show (p.1.length : Int) ≠ 0 by omega)
  have h2 := Int.emod_lt_of_pos (h - p.2) (show (0 : Int) < p.1.length by omega)
  rw [at_int h1 h2]
  unfold ptH
  simp [List.getD, show ((h - p.2) % (p.1.length : Int)).toNat < p.1.length by omega]
theorem height_eq {t : Tide} (o : OkT t) (h : Int) : heightAtM t h = some (wat t h) := by
  unfold heightAtM
  rw [o_go (comp_all (q := fun p => ptH p h) fun p hp => ?_), o_pure]
  · rfl
  · have := (o.ne p hp).1
    rw [o_fromO, mod_pos (by omega), o_bind, o_fromO, pt_at this]
theorem sum_foldl {α : Type} (f : α → Int) : ∀ (xs : List α) (d : Int), xs.foldl (fun d p => d + f p) d = d + (xs.map f).sum
  | [], d => by simp
  | x :: xs, d => by rw [List.foldl_cons, sum_foldl f xs, List.map_cons, List.sum_cons]; omega
theorem ediv_abs {a b : Int} (h : 0 < b) : (a / b).natAbs ≤ a.natAbs := by
  rcases Int.lt_or_le a 0 with z | z
  · have e := Int.mul_ediv_add_emod a b
    have l := Int.emod_lt_of_pos a h
    have n : a / b < 0 := Int.ediv_neg_of_neg_of_pos z h
    have k := Int.mul_nonpos_of_nonneg_of_nonpos (show 0 ≤ b - 1 by omega) (show a / b + 1 ≤ 0 by omega)
    have x : (b - 1) * (a / b + 1) = b * (a / b) + b - a / b - 1 := by grind
    omega
  · have := Int.ediv_nonneg z (Int.le_of_lt h)
    have := Int.ediv_le_self b z
    omega
theorem water_eq {t : Tide} (o : OkT t) {h : Int} (hh : Bd 1000000000 h) : lawWaterM t h = some (wat t h) := by
  unfold lawWaterM
  simp only [o_pure, o_bind, o_fromO]
  have := fold_some (f := fun (p_ : List Int × Int) (d_ : Int) => (divG (h - p_.2) (p_.1.length : Int) >>= fun v1 => mulG v1 (p_.1.length : Int) >>= fun v2 => L2.atI p_.1 ((h - p_.2) - v2) >>= fun v3 => some (d_ + v3)) >>= fun total_2 => some total_2) (g := fun d p => d + ptH p h) (fun _ => True) (xs := t) (d := 0) trivial fun p hp d _ => ⟨?_, trivial⟩
  · rw [o_go this.1, sum_foldl, Int.zero_add]; rfl
  · obtain ⟨n1, n2⟩ := o.ne p hp
    have b := (hh.sub (o.bd p hp)).get
    have dv : ((h - p.2) / (p.1.length : Int)).natAbs ≤ 2000000000 := Nat.le_trans (ediv_abs (by omega)) b
    have e := Int.mul_ediv_add_emod (h - p.2) (p.1.length : Int)
    rw [div_small (by omega) (by omega), o_bind, mul_small (by omega) (by omega), o_bind, show (h - p.2) - (h - p.2) / (p.1.length : Int) * (p.1.length : Int) = (h - p.2) % (p.1.length : Int) by rw [Int.mul_comm]; omega, pt_at n1, o_bind, o_bind]
end TT

namespace TT
open PyM (fromO)
open PySem L2
/-! ### the first of a range -/
theorem rangeL_succ (lo : Int) (n : Nat) : rangeL lo (n + 1) = lo :: rangeL (lo + 1) n := rfl
theorem find_first {p : Int → Bool} : ∀ {n : Nat} {lo q : Int}, lo ≤ q → q < lo + n → p q = true → (∀ j, lo ≤ j → j < q → p j = false) → (rangeL lo n).find? p = some q
  | 0, lo, q, h1, h2, _, _ => by omega
  | n + 1, lo, q, h1, h2, hq, hn => by
    rw [rangeL_succ, List.find?_cons]
    by_cases z : q = lo
    · subst z; rw [hq]
    · rw [hn lo (Int.le_refl _) (by omega)]
      exact find_first (by omega) (by omega) hq fun j h3 h4 => hn j (by omega) h4
theorem filter_first' {p : Int → Bool} {n : Nat} {lo q : Int} (h1 : lo ≤ q) (h2 : q < lo + n) (hq : p q = true) (hn : ∀ j, lo ≤ j → j < q → p j = false) : ∃ r, (rangeL lo n).filter p = q :: r := by
  have e := find_first h1 h2 hq hn
  rw [← List.head?_filter] at e
  cases f : (rangeL lo n).filter p with
  | nil => rw [f] at e; cases e
  | cons x r =>
    rw [f] at e
    cases e
    exact ⟨r, rfl⟩
/-! ### periods of a function on the hours -/
def Per (f : Int → Int) (k : Int) : Prop := ∀ h, f (h + k) = f h
section
variable {f : Int → Int}
theorem Per.add {a b : Int} (ha : Per f a) (hb : Per f b) : Per f (a + b) := fun h => by rw [← Int.add_assoc, hb, ha]
theorem Per.zero : Per f 0 := fun h => by rw [Int.add_zero]
theorem Per.neg {a : Int} (ha : Per f a) : Per f (-a) := fun h => by rw [← ha (h + -a), show h + -a + a = h by omega]
theorem Per.mul {a : Int} (ha : Per f a) : ∀ n : Nat, Per f (a * n)
  | 0 => by simpa using Per.zero
  | n + 1 => by
    have := (Per.mul ha n).add ha
    rw [show a * ((n + 1 : Nat) : Int) = a * n + a by rw [Int.natCast_add]; grind]
    exact this
theorem Per.mulI {a : Int} (ha : Per f a) (n : Int) : Per f (a * n) := by
  rcases Int.le_total 0 n with z | z
  · rw [← Int.toNat_of_nonneg z]; exact ha.mul _
  · have := (ha.mul (-n).toNat).neg
    rw [Int.toNat_of_nonneg (by omega)] at this
    rw [show a * n = -(a * -n) by grind]
    exact this
theorem Per.mod {n : Nat} (hn : Per f n) (h : Int) : f (h % n) = f h := by
  have := hn.mulI (h / n) (h % n)
  rw [← this, Int.emod_add_mul_ediv]
theorem least_per : ∀ {n : Nat}, 1 ≤ n → Per f n → ∃ g : Nat, 1 ≤ g ∧ g ≤ n ∧ Per f g ∧ ∀ j : Nat, 1 ≤ j → j < g → ¬ Per f j := by
  intro n
  induction n using Nat.strongRecOn with
  | _ n ih =>
    intro h1 hn
    rcases Classical.em (∃ j : Nat, 1 ≤ j ∧ j < n ∧ Per f j) with ⟨j, j1, j2, j3⟩ | z
    · obtain ⟨g, g1, g2, g3, g4⟩ := ih j j2 j1 j3
      exact ⟨g, g1, by omega, g3, g4⟩
    · exact ⟨n, h1, Nat.le_refl _, hn, fun j j1 j2 j3 => z ⟨j, j1, j2, j3⟩⟩
theorem least_dvd {g m : Nat} (g1 : 1 ≤ g) (hg : Per f g) (hl : ∀ j : Nat, 1 ≤ j → j < g → ¬ Per f j) (hm : Per f m) : g ∣ m := by
  have r : Per f ((m % g : Nat) : Int) := by
    have := hm.add (hg.mul (m / g)).neg
    have e := Nat.mod_add_div m g
    rw [show (m : Int) + -((g : Int) * ((m / g : Nat) : Int)) = ((m % g : Nat) : Int) by
      have : ((m % g + g * (m / g) : Nat) : Int) = (m : Int) := by rw [e]
      rw [Int.natCast_add, Int.natCast_mul] at this
      omega] at this
    exact this
  rcases Nat.eq_zero_or_pos (m % g) with z | z
  · exact Nat.dvd_of_mod_eq_zero z
  · exact absurd r (hl _ z (Nat.mod_lt _ g1))
/-- the hours of a span -/
theorem rot_iff {n k : Nat} (hn : Per f n) (k1 : 1 ≤ k) (k2 : k ≤ n) : (((rangeL 0 n).map f).drop k ++ ((rangeL 0 n).map f).take k = (rangeL 0 n).map f) ↔ Per f k := by
  have at_ : ∀ i : Nat, i < n → (((rangeL 0 n).map f).drop k ++ ((rangeL 0 n).map f).take k)[i]? = some (f ((i : Int) + k)) := by
    intro i hi
    rcases Nat.lt_or_ge i (n - k) with z | z
    · rw [List.getElem?_append_left (by simp [rangeL_len]; omega), List.getElem?_drop, List.getElem?_map, rangeL_get _ _ _ (by omega)]
      simp only [Option.map_some]
      congr 2
      omega
    · rw [List.getElem?_append_right (by simp [rangeL_len]; omega)]
      simp only [List.length_drop, List.length_map, rangeL_len]
      rw [List.getElem?_take, if_pos (by omega), List.getElem?_map, rangeL_get _ _ _ (by omega)]
      simp only [Option.map_some]
      congr 1
      rw [← hn]
      congr 1
      omega
  constructor
  · intro e h
    have key : ∀ i : Nat, i < n → f ((i : Int) + k) = f i := by
      intro i hi
      have := at_ i hi
      rw [e, List.getElem?_map, rangeL_get _ _ _ hi] at this
      simp only [Option.map_some, Option.some.injEq] at this
      rw [← this]
      congr 1
      omega
    have m1 := Int.emod_nonneg h (show (n : Int) ≠ 0 by omega)
    have m2 := Int.emod_lt_of_pos h (show (0 : Int) < n by omega)
    have := key (h % n).toNat (by omega)
    rw [Int.toNat_of_nonneg m1, hn.mod] at this
    rw [← this]
    have e2 := hn.mulI (h / n) (h % n + k)
    rw [show h % n + k + n * (h / n) = h + k by have := Int.emod_add_mul_ediv h n; omega] at e2
    exact e2
  · intro hk
    apply List.ext_getElem?
    intro i
    rcases Nat.lt_or_ge i n with z | z
    · rw [at_ i z, hk, List.getElem?_map, rangeL_get _ _ _ z]
      simp only [Option.map_some]
      congr 2
      omega
    · rw [List.getElem?_eq_none (by simp [rangeL_len]; omega), List.getElem?_eq_none (by simp [rangeL_len]; omega)]
end
/-! ### the round of all parts -/
def lcmT (t : Tide) : Nat := t.foldl (fun w p => Nat.lcm w p.1.length) 1
theorem lcm_fold (t : Tide) : ∀ (w : Nat), 1 ≤ w → (∀ p ∈ t, 1 ≤ p.1.length) → 1 ≤ t.foldl (fun w p => Nat.lcm w p.1.length) w ∧ w ∣ t.foldl (fun w p => Nat.lcm w p.1.length) w ∧ (∀ p ∈ t, p.1.length ∣ t.foldl (fun w p => Nat.lcm w p.1.length) w) ∧ ∀ m, w ∣ m → (∀ p ∈ t, p.1.length ∣ m) → t.foldl (fun w p => Nat.lcm w p.1.length) w ∣ m := by
  induction t with
  | nil => intro w h _; exact ⟨h, Nat.dvd_refl _, by simp, fun m h _ => h⟩
  | cons p t ih =>
    intro w h hp
    have l1 := hp p (by simp)
    have k : 1 ≤ Nat.lcm w p.1.length := Nat.lcm_pos h l1
    obtain ⟨a, b, c, d⟩ := ih (Nat.lcm w p.1.length) k fun q hq => hp q (by simp [hq])
    rw [List.foldl_cons]
    refine ⟨a, Nat.dvd_trans (Nat.dvd_lcm_left _ _) b, fun q hq => ?_, fun m hm hq => d m (Nat.lcm_dvd hm (hq p (by simp))) fun q hq' => hq q (by simp [hq'])⟩
    rcases List.mem_cons.mp hq with e | e
    · rw [e]; exact Nat.dvd_trans (Nat.dvd_lcm_right _ _) b
    · exact c q e
section
variable {t : Tide} (o : OkT t)
include o
theorem lcmT_pos : 1 ≤ lcmT t := (lcm_fold t 1 (Nat.le_refl _) fun p hp => (o.ne p hp).1).1
theorem lcmT_dvd : ∀ p ∈ t, p.1.length ∣ lcmT t := (lcm_fold t 1 (Nat.le_refl _) fun p hp => (o.ne p hp).1).2.2.1
theorem lcmT_least {m : Nat} (h : ∀ p ∈ t, p.1.length ∣ m) : lcmT t ∣ m := (lcm_fold t 1 (Nat.le_refl _) fun p hp => (o.ne p hp).1).2.2.2 m (Nat.one_dvd m) h
theorem per_of {m : Nat} (h : ∀ p ∈ t, p.1.length ∣ m) : Per (wat t) m := by
  intro x
  unfold wat
  congr 1
  apply List.map_congr_left
  intro p hp
  obtain ⟨k, hk⟩ := h p hp
  unfold ptH
  congr 2
  rw [hk, show x + ((p.1.length * k : Nat) : Int) - p.2 = (x - p.2) + (p.1.length : Int) * (k : Int) by rw [Int.natCast_mul]; omega, Int.add_mul_emod_self_left]
theorem per_lcm : Per (wat t) (lcmT t) := per_of o (lcmT_dvd o)
end
noncomputable def wholeRoundM (tide_ : (List ((List Int) × Int))) : Option Int :=
  (pure (1 : Int)) >>= fun whole_ =>
  (pure tide_) >>= fun xs => foldL (fun p_ d_ => (fromO (commonM d_ (p_.1.length : Int)) >>= fun v1 => fromO (divG d_ v1) >>= fun v2 => fromO (mulG v2 (p_.1.length : Int))) >>= fun whole_2 =>
  pure whole_2) xs whole_ >>= fun d_2 =>
  (pure d_2)
noncomputable def lawWholeM (tide_ : (List ((List Int) × Int))) : Option Int :=
  (pure (1 : Int)) >>= fun whole_ =>
  whileM (fun d_ => (compL (fun p_ => (fromO (divG d_ (p_.1.length : Int)) >>= fun v1 => fromO (mulG v1 (p_.1.length : Int)) >>= fun v2 => pure (!decide (v2 = d_)))) (fun p_ => (pure p_.1)) tide_ >>= fun v3 => pure (!decide (v3 = [])))) (fun d_ => (pure (d_ + (1 : Int))) >>= fun whole_2 =>
  pure whole_2) whole_ >>= fun d_2 =>
  (pure d_2)
theorem lcm_div {w l : Nat} (hw : 1 ≤ w) : w / Nat.gcd w l * l = Nat.lcm w l := by
  have g : 0 < Nat.gcd w l := Nat.gcd_pos_of_pos_left _ hw
  obtain ⟨k, hk⟩ := Nat.gcd_dvd_left w l
  unfold Nat.lcm
  have e : w / Nat.gcd w l = k := by
    conv => lhs; lhs; rw [hk]
    exact Nat.mul_div_cancel_left k g
  have e2 : w * l = Nat.gcd w l * (k * l) := by
    conv => lhs; lhs; rw [hk]
    rw [Nat.mul_assoc]
  rw [e, e2, Nat.mul_div_cancel_left _ g]
theorem whole_fold : ∀ (t : Tide) (w : Nat), 1 ≤ w → (∀ p ∈ t, 1 ≤ p.1.length ∧ p.1.length ≤ 1000000) → t.foldl (fun w p => Nat.lcm w p.1.length) w ≤ 1000000 →
    foldL (m := Option) (fun p_ d_ => (commonM d_ (p_.1.length : Int) >>= fun v1 => divG d_ v1 >>= fun v2 => mulG v2 (p_.1.length : Int)) >>= fun whole_2 => some whole_2) t (w : Int) = some ((t.foldl (fun w (p : List Int × Int) => Nat.lcm w p.1.length) w : Nat) : Int)
  | [], w, _, _, _ => rfl
  | p :: t, w, h, hp, hb => by
    obtain ⟨l1, l2⟩ := hp p (by simp)
    have g := Nat.gcd_pos_of_pos_left p.1.length h
    have gl := Nat.gcd_le_right (n := p.1.length) w l1
    have k : 1 ≤ Nat.lcm w p.1.length := Nat.lcm_pos h l1
    rw [List.foldl_cons] at hb ⊢
    have d := (lcm_fold t (Nat.lcm w p.1.length) k fun q hq => (hp q (by simp [hq])).1)
    have b1 := Nat.le_of_dvd d.1 d.2.1
    have b2 := Nat.le_of_dvd k (Nat.dvd_lcm_left w p.1.length)
    have dv : w / Nat.gcd w p.1.length ≤ w := Nat.div_le_self _ _
    rw [fold_go (e := ((Nat.lcm w p.1.length : Nat) : Int))]
    · exact whole_fold t _ k (fun q hq => hp q (by simp [hq])) hb
    · rw [common_eq, o_bind, show Int.gcd (w : Int) (p.1.length : Int) = Nat.gcd w p.1.length from rfl, div_nat (by omega) (by omega), o_bind, mul_nat (by omega) (by omega), lcm_div h, o_bind]
theorem wholeRound_eq {t : Tide} (o : OkT t) (hb : lcmT t ≤ 1000000) : wholeRoundM t = some (lcmT t : Int) := by
  unfold wholeRoundM
  simp only [o_pure, o_bind, o_fromO]
  exact (o_go (whole_fold t 1 (Nat.le_refl _) o.ne hb)).trans rfl
theorem lawWhole_eq {t : Tide} (o : OkT t) (hb : lcmT t ≤ 1000000) : lawWholeM t = some (lcmT t : Int) := by
  unfold lawWholeM
  simp only [o_pure, o_bind, o_fromO]
  have hp := lcmT_pos o
  have cond : ∀ w : Nat, w ≤ 1000000 → (compL (m := Option) (fun p_ => (divG (w : Int) (p_.1.length : Int) >>= fun v1 => mulG v1 (p_.1.length : Int) >>= fun v2 => some (!decide (v2 = (w : Int))))) (fun p_ => (some p_.1)) t >>= fun v3 => some (!decide (v3 = []))) = some (!decide (∀ p ∈ t, p.1.length ∣ w)) := by
    intro w hw
    rw [o_go (comp_some (p := fun p : List Int × Int => !decide (p.1.length ∣ w)) (q := fun p : List Int × Int => p.1) (fun p h => ?_) fun p _ _ => rfl)]
    · congr 2
      apply decide_eq_decide.mpr
      rw [List.map_eq_nil_iff, List.filter_eq_nil_iff]
      simp
    · obtain ⟨l1, l2⟩ := o.ne p h
      have dv : w / p.1.length ≤ w := Nat.div_le_self _ _
      rw [div_nat (by omega) (by omega), o_bind, mul_nat (by omega) (by omega), o_bind]
      congr 2
      apply decide_eq_decide.mpr
      constructor
      · intro e
        exact ⟨w / p.1.length, by have : w / p.1.length * p.1.length = w := by omega
                                  rw [Nat.mul_comm]; exact this.symm⟩
      · intro e
        rw [Nat.div_mul_cancel e]
  obtain ⟨r, e, ⟨w, rfl, w1, w2⟩, c⟩ := whileM_inv (c := fun d_ : Int => (compL (m := Option) (fun p_ => (divG d_ (p_.1.length : Int) >>= fun v1 => mulG v1 (p_.1.length : Int) >>= fun v2 => some (!decide (v2 = d_)))) (fun p_ => (some p_.1)) t >>= fun v3 => some (!decide (v3 = [])))) (b := fun d_ => some (d_ + 1)) (fun d => ∃ w : Nat, d = w ∧ 1 ≤ w ∧ w ≤ lcmT t) (fun d => lcmT t - d.toNat) (fun d ⟨w, e, w1, w2⟩ => by
    subst e
    refine ⟨_, cond w (by omega), fun h => ?_⟩
    refine ⟨((w + 1 : Nat) : Int), by rw [Int.natCast_add]; rfl, ⟨w + 1, rfl, by omega, ?_⟩, ?_⟩
    all_goals
      have : w ≠ lcmT t := fun z => by
        rw [z, decide_eq_true (lcmT_dvd o)] at h
        cases h
      omega) (d := 1) ⟨1, rfl, Nat.le_refl _, hp⟩
  rw [o_go e]
  rw [cond w (by omega)] at c
  have c : ∀ p ∈ t, p.1.length ∣ w := by simpa using c
  have := Nat.le_of_dvd w1 (lcmT_least o c)
  rw [show w = lcmT t by omega]
end TT

namespace TT
open PyM (fromO)
open PySem L2
/-! ### a fraction by the sizes of both numbers -/
noncomputable def lawFraction2M (top_ : Int) (under_ : Int) : Option (Int × Int) :=
  (pure ((absI top_), (absI under_))) >>= fun p_ =>
  whileM (fun d_ => (pure (decide ((0 : Int) < d_.2)))) (fun d_ => (fromO (modG d_.1 d_.2) >>= fun v1 => pure (d_.2, v1)) >>= fun p_2 =>
  pure (p_2.1, p_2.2)) (p_.1, p_.2) >>= fun d_2 =>
  ((if (decide ((0 : Int) < under_)) = true then (fromO (divG top_ d_2.1) >>= fun v2 => fromO (divG under_ d_2.1) >>= fun v3 => pure (v2, v3)) else (fromO (divG top_ d_2.1) >>= fun v4 => fromO (divG under_ d_2.1) >>= fun v5 => pure (((0 : Int) - v4), ((0 : Int) - v5)))))
theorem absI_eq (a : Int) : absI a = (a.natAbs : Int) := by unfold absI; split <;> omega
theorem abs_while (a b : Nat) : ∃ r : Int × Int, whileM (m := Option) (fun d_ : Int × Int => some (decide ((0 : Int) < d_.2))) (fun d_ => (modG d_.1 d_.2 >>= fun v1 => some (d_.2, v1)) >>= fun p_ => some (p_.1, p_.2)) ((a : Int), (b : Int)) = some r ∧ r.1 = (Nat.gcd a b : Int) := by
  obtain ⟨r, e, ⟨x, y, rfl, i⟩, c⟩ := whileM_inv (c := fun d_ : Int × Int => some (decide ((0 : Int) < d_.2))) (b := fun d_ => (modG d_.1 d_.2 >>= fun v1 => some (d_.2, v1)) >>= fun p_ => some (p_.1, p_.2)) (fun d => ∃ x y : Nat, d = ((x : Int), (y : Int)) ∧ Nat.gcd x y = Nat.gcd a b) (fun d => d.2.natAbs) (d := ((a : Int), (b : Int))) (fun d ⟨x, y, e, i⟩ => by
    subst e
    refine ⟨_, rfl, fun t => ?_⟩
    have h : 0 < y := by simp only [decide_eq_true_eq] at t; omega
    refine ⟨((y : Int), ((x % y : Nat) : Int)), ?_, ⟨y, x % y, rfl, ?_⟩, ?_⟩
    · show (modG (x : Int) (y : Int) >>= fun v1 => some ((y : Int), v1)) >>= (fun p_ => some (p_.1, p_.2)) = _
      rw [mod_pos (by omega), ← Int.natCast_emod, o_bind, o_bind]
    · rw [← i, Nat.gcd_comm, ← Nat.gcd_rec, Nat.gcd_comm]
    · have := Nat.mod_lt x h
      simp only [Int.natAbs_natCast]
      exact this) ⟨a, b, rfl, rfl⟩
  refine ⟨_, e, ?_⟩
  have c : ¬ (0 : Int) < (y : Int) := by simpa using c
  have : y = 0 := by omega
  subst this
  rw [← i, Nat.gcd_zero_right]
theorem lawFraction2_eq (a : Int) {b : Int} (h : b ≠ 0) (hb : Bd 1000000000 b) : lawFraction2M a b = some (nf a b) := by
  unfold lawFraction2M
  simp only [o_pure, o_bind, o_fromO, absI_eq]
  obtain ⟨r, e, g⟩ := abs_while a.natAbs b.natAbs
  rw [o_go e, g]
  have hg : (Nat.gcd a.natAbs b.natAbs : Int) = (Int.gcd a b : Int) := rfl
  rw [hg]
  have gp : 0 < Int.gcd a b := by
    rcases Nat.eq_zero_or_pos (Int.gcd a b) with z | z
    · exact absurd (Int.gcd_eq_zero_iff.mp z).2 h
    · exact z
  have gl := gcd_le (a := a) h
  have hb := hb.get
  have d1 : divG a (Int.gcd a b : Int) = some (a / (Int.gcd a b : Int)) := div_small (by omega) (by omega)
  have d2 : divG b (Int.gcd a b : Int) = some (b / (Int.gcd a b : Int)) := div_small (by omega) (by omega)
  rw [d1, d2]
  simp only [o_bind]
  by_cases z : 0 < b
  · rw [if_pos (by simpa using z)]
    unfold nf cutBy
    rw [if_neg (by omega)]
  · rw [if_neg (by simpa using z)]
    unfold nf cutBy
    rw [if_pos (by omega), Int.ediv_neg, Int.ediv_neg, Int.zero_sub, Int.zero_sub]
end TT

namespace TT
open PyM (fromO)
open PySem L2
noncomputable def heightsInM (tide_ : (List ((List Int) × Int))) (begin_ : Int) (end_ : Int) : Option (List Int) :=
  (fromO (rangeG begin_ end_) >>= fun v1 => compL (fun hour_ => pure true) (fun hour_ => (fromO (heightAtM tide_ hour_))) v1)
noncomputable def roundOfM (tide_ : (List ((List Int) × Int))) : Option Int :=
  (fromO (wholeRoundM tide_)) >>= fun whole_ =>
  (fromO (heightsInM tide_ (0 : Int) whole_)) >>= fun row_ =>
  (fromO (rangeG (1 : Int) (whole_ + (1 : Int)))) >>= fun xs => loopL (fun long_ d_ => (fromO (modG whole_ long_) >>= fun v4 => (if (decide (v4 = (0 : Int))) = true then (fromO (catG (cutA row_ (some long_) none) (cutA row_ none (some long_))) >>= fun v5 => pure (decide (v5 = row_))) else pure false)) >>= fun b => if b = true then ((pure long_) >>= fun r => pure (.rt r)) else
  pure (.nx ())) xs () >>= thenF fun d_2 =>
  (pure whole_)
noncomputable def lawRoundM (tide_ : (List ((List Int) × Int))) : Option Int :=
  (fromO (lawWholeM tide_) >>= fun v1 => fromO (rangeG 0 v1) >>= fun v2 => compL (fun hour_ => pure true) (fun hour_ => (fromO (lawWaterM tide_ hour_))) v2) >>= fun row_ =>
  (fromO (rangeG (1 : Int) ((row_.length : Int) + (1 : Int))) >>= fun v5 => compL (fun long_ => (fromO (catG (cutA row_ (some long_) none) (cutA row_ none (some long_))) >>= fun v6 => pure (decide (v6 = row_)))) (fun long_ => (pure long_)) v5 >>= fun v7 => fromO (L2.atI v7 (0 : Int)))
/-- the least number of hours behind which the water comes again -/
theorem rnd_ex {t : Tide} (o : OkT t) : ∃ g : Nat, 1 ≤ g ∧ g ≤ lcmT t ∧ Per (wat t) g ∧ ∀ j : Nat, 1 ≤ j → j < g → ¬ Per (wat t) j := least_per (lcmT_pos o) (per_lcm o)
open Classical in
noncomputable def rndT (t : Tide) : Nat := if h : ∃ g : Nat, 1 ≤ g ∧ g ≤ lcmT t ∧ Per (wat t) g ∧ ∀ j : Nat, 1 ≤ j → j < g → ¬ Per (wat t) j then choose h else 1
theorem rnd_spec {t : Tide} (o : OkT t) : 1 ≤ rndT t ∧ rndT t ≤ lcmT t ∧ Per (wat t) (rndT t) ∧ ∀ j : Nat, 1 ≤ j → j < rndT t → ¬ Per (wat t) j := by
  unfold rndT
  rw [dif_pos (rnd_ex o)]
  exact Classical.choose_spec (rnd_ex o)
theorem rnd_dvd {t : Tide} (o : OkT t) {m : Nat} (h : Per (wat t) m) : rndT t ∣ m := least_dvd (rnd_spec o).1 (rnd_spec o).2.2.1 (rnd_spec o).2.2.2 h
section
variable {t : Tide} (o : OkT t)
include o
theorem heightsIn_eq {b e : Int} (hb : -1000000000 ≤ b) (hb2 : b ≤ 1000000000) (he : -1000000000 ≤ e) (he2 : e ≤ 1000000000) (hl : e - b ≤ 16777216) : heightsInM t b e = some ((rangeL b (e - b).toNat).map (wat t)) := by
  unfold heightsInM
  rw [o_fromO, range_some ⟨hb, hb2, he, he2, hl⟩, o_bind]
  exact comp_all fun x _ => by rw [o_fromO, height_eq o]
theorem waters_eq {b : Int} {n : Nat} (hb : -100000000 ≤ b) (hb2 : b ≤ 100000000) (hn : n ≤ 16777216) : compL (m := Option) (fun _ => pure true) (fun hour_ => (fromO (lawWaterM t hour_))) (rangeL b n) = some ((rangeL b n).map (wat t)) :=
  comp_all fun x hx => by
    rw [mem_rangeL] at hx
    rw [o_fromO, water_eq o (Bd.of (by omega) (by omega))]
theorem rot_row {n k : Nat} (hn : Per (wat t) n) (hb : n ≤ 1000000) (k1 : 1 ≤ k) (k2 : k ≤ n) : (catG (cutA ((rangeL 0 n).map (wat t)) (some (k : Int)) none) (cutA ((rangeL 0 n).map (wat t)) none (some (k : Int))) >>= fun v => (some (decide (v = (rangeL 0 n).map (wat t))))) = some (decide (rndT t ∣ k)) := by
  rw [cut_from, cut_to, cat_some (by simp [rangeL_len]; omega), o_bind]
  congr 1
  apply decide_eq_decide.mpr
  rw [rot_iff hn k1 k2]
  exact ⟨fun h => rnd_dvd o h, fun ⟨q, h⟩ => by rw [h, Int.natCast_mul]; exact (rnd_spec o).2.2.1.mul q⟩
theorem roundOf_eq (hb : lcmT t ≤ 1000000) : roundOfM t = some (rndT t : Int) := by
  obtain ⟨g1, g2, g3, g4⟩ := rnd_spec o
  have lp := lcmT_pos o
  unfold roundOfM
  simp only [o_fromO, o_pure]
  rw [wholeRound_eq o hb, o_bind, heightsIn_eq o (by omega) (by omega) (by omega) (by omega) (by omega), o_bind, range_some (by omega), o_bind]
  have e0 : ((lcmT t : Int) - 0).toNat = lcmT t := by omega
  rw [e0]
  refine (o_go (loop_find (g := fun x => if decide (rndT t ∣ x.toNat ∧ x.toNat ∣ lcmT t) = true then some x else none) fun x hx => ?_)).trans ?_
  · rw [mem_rangeL] at hx
    obtain ⟨k, rfl⟩ : ∃ k : Nat, x = (k : Int) := ⟨x.toNat, by omega⟩
    rw [mod_nat (by omega), o_bind, rot_row o (per_lcm o) hb (by omega) (by omega), Int.toNat_natCast]
    by_cases z : k ∣ lcmT t
    · have z' := Nat.mod_eq_zero_of_dvd z
      rw [if_pos (by simp [z']), o_bind]
      by_cases y : rndT t ∣ k
      · simp [y, z, o_bind]
      · simp [y, z, o_bind]
    · have z' : ¬ lcmT t % k = 0 := fun h => z (Nat.dvd_of_mod_eq_zero h)
      rw [if_neg (by simp; omega), o_bind]
      simp [z]
  · rw [findSome_guard, find_first (q := (rndT t : Int)) (by omega) (by omega)]
    · rfl
    · rw [Int.toNat_natCast]
      exact decide_eq_true ⟨Nat.dvd_refl _, rnd_dvd o (per_lcm o)⟩
    · intro j h1 h2
      apply decide_eq_false
      rintro ⟨h3, _⟩
      have := Nat.le_of_dvd (by omega) h3
      omega
theorem lawRound_eq (hb : lcmT t ≤ 1000000) : lawRoundM t = some (rndT t : Int) := by
  obtain ⟨g1, g2, g3, g4⟩ := rnd_spec o
  have lp := lcmT_pos o
  unfold lawRoundM
  have w := waters_eq o (b := 0) (n := lcmT t) (by omega) (by omega) (by omega)
  simp only [o_fromO, o_pure] at w ⊢
  rw [lawWhole_eq o hb, o_bind, range_nat (by omega), o_bind, w, o_bind]
  rw [List.length_map, rangeL_len, range_some (by omega), o_bind]
  rw [o_go (comp_some (p := fun x => decide (rndT t ∣ x.toNat)) (q := fun x => x) (fun x hx => ?_) fun x _ _ => rfl)]
  · obtain ⟨r, h⟩ := filter_first' (p := fun x => decide (rndT t ∣ x.toNat)) (n := ((lcmT t : Int) + 1 - 1).toNat) (lo := 1) (q := (rndT t : Int)) (by omega) (by omega) (by rw [Int.toNat_natCast]; exact decide_eq_true (Nat.dvd_refl _)) fun j h1 h2 => decide_eq_false fun h3 => by
      have := Nat.le_of_dvd (by omega) h3
      omega
    rw [h, List.map_cons, at0]
  · rw [mem_rangeL] at hx
    obtain ⟨k, rfl⟩ : ∃ k : Nat, x = (k : Int) := ⟨x.toNat, by omega⟩
    rw [rot_row o (per_lcm o) hb (by omega) (by omega), Int.toNat_natCast]
end
/-! ### the first hour from one on -/
theorem find_per {f : Int → Int} {g n : Nat} (hg : Per f g) (g1 : 1 ≤ g) (h : g ≤ n) (p : Int → Bool) (lo : Int) : (rangeL lo n).find? (fun x => p (f x)) = (rangeL lo g).find? (fun x => p (f x)) := by
  obtain ⟨m, rfl⟩ : ∃ m, n = g + m := ⟨n - g, by omega⟩
  rw [rangeL_app, List.find?_append]
  cases e : (rangeL lo g).find? (fun x => p (f x)) with
  | some q => rfl
  | none =>
    show (rangeL (lo + g) m).find? _ = none
    rw [List.find?_eq_none] at e ⊢
    intro x hx
    rw [mem_rangeL] at hx
    have m1 := Int.emod_nonneg (x - lo) (show (g : Int) ≠ 0 by omega)
    have m2 := Int.emod_lt_of_pos (x - lo) (show (0 : Int) < g by omega)
    have := e (lo + (x - lo) % g) (by rw [mem_rangeL]; omega)
    have e2 := hg.mulI ((x - lo) / g) (lo + (x - lo) % g)
    rw [show lo + (x - lo) % g + g * ((x - lo) / g) = x by have := Int.emod_add_mul_ediv (x - lo) g; omega] at e2
    rw [e2]
    exact this
end TT

namespace TT
open PyM (fromO)
open PySem L2
/-! ### tides that are drawn -/
structure SmT (m : Nat) (t : Tide) : Prop where
  len : 1 ≤ t.length ∧ t.length ≤ 3
  parts : ∀ p ∈ t, (1 ≤ p.1.length ∧ p.1.length ≤ m) ∧ (-3 ≤ p.2 ∧ p.2 ≤ 3) ∧ ∀ x ∈ p.1, -2 ≤ x ∧ x ≤ 4
noncomputable def lawTideM (most_ : Int) : WM DW (List ((List Int) × Int)) :=
  (nextM (3 : Int) >>= fun v1 => fromO (rangeG 0 ((1 : Int) + v1)) >>= fun v2 => compL (fun k_ => pure true) (fun k_ => (nextM most_ >>= fun v3 => fromO (rangeG 0 ((1 : Int) + v3)) >>= fun v4 => compL (fun h_ => pure true) (fun h_ => (nextM (7 : Int) >>= fun v5 => pure (v5 - (2 : Int)))) v4 >>= fun v6 => nextM (7 : Int) >>= fun v7 => pure (v6, (v7 - (3 : Int))))) v2)
theorem lawTide_good {m : Nat} (h1 : 1 ≤ m) (h2 : m ≤ 1000) : Good (lawTideM (m : Int)) (SmT m) := by
  unfold lawTideM
  refine Good.bind (Good.nextM (by decide)) fun v hv => Good.go (range_some (by omega)) ?_
  refine (Good.comp' (Q := fun p : List Int × Int => (1 ≤ p.1.length ∧ p.1.length ≤ m) ∧ (-3 ≤ p.2 ∧ p.2 ≤ 3) ∧ ∀ x ∈ p.1, -2 ≤ x ∧ x ≤ 4) fun k _ => ?_).imp fun t ht => ?_
  · refine Good.bind (Good.nextM (by omega)) fun u hu => Good.go (range_some (by omega)) ?_
    refine Good.bind (Good.comp' (Q := fun x : Int => -2 ≤ x ∧ x ≤ 4) fun h _ => Good.bind (Good.nextM (by decide)) fun x hx => Good.pure (by omega)) fun hs hhs => ?_
    rw [rangeL_len] at hhs
    exact Good.bind (Good.nextM (by decide)) fun y hy => Good.pure ⟨⟨by show 1 ≤ hs.length; omega, by show hs.length ≤ m; omega⟩, ⟨by show -3 ≤ y - 3; omega, by show y - 3 ≤ 3; omega⟩, hhs.2⟩
  · rw [rangeL_len] at ht
    exact ⟨by omega, ht.2⟩
theorem SmT.ok {m : Nat} {t : Tide} (h : SmT m t) (hm : m ≤ 1000000 := by decide) : OkT t := ⟨fun p hp => by have := (h.parts p hp).1; omega, fun p hp => by have := (h.parts p hp).2.1; exact Bd.of (by omega) (by omega)⟩
theorem lcm_le (w l : Nat) (hw : 1 ≤ w) (hl : 1 ≤ l) : Nat.lcm w l ≤ w * l := Nat.le_of_dvd (Nat.mul_pos hw hl) (Nat.lcm_dvd (Nat.dvd_mul_right _ _) (Nat.dvd_mul_left _ _))
theorem lcm_pow {m : Nat} : ∀ (t : Tide) (w : Nat), 1 ≤ w → (∀ p ∈ t, 1 ≤ p.1.length ∧ p.1.length ≤ m) → t.foldl (fun w p => Nat.lcm w p.1.length) w ≤ w * m ^ t.length
  | [], w, _, _ => by simp
  | p :: t, w, h, hp => by
    obtain ⟨l1, l2⟩ := hp p (by simp)
    rw [List.foldl_cons, List.length_cons]
    have k : 1 ≤ Nat.lcm w p.1.length := Nat.lcm_pos h l1
    refine Nat.le_trans (lcm_pow t _ k fun q hq => hp q (by simp [hq])) ?_
    rw [Nat.pow_succ, Nat.mul_comm (m ^ t.length) m, ← Nat.mul_assoc]
    exact Nat.mul_le_mul_right _ (Nat.le_trans (lcm_le _ _ h l1) (Nat.mul_le_mul_left _ l2))
theorem lcmT_pow {m k : Nat} {t : Tide} (hp : ∀ p ∈ t, 1 ≤ p.1.length ∧ p.1.length ≤ m) (hm : 1 ≤ m) (hk : t.length ≤ k) : lcmT t ≤ m ^ k := by
  have := lcm_pow t 1 (Nat.le_refl _) hp
  rw [Nat.one_mul] at this
  exact Nat.le_trans this (Nat.pow_le_pow_right hm hk)
theorem SmT.lcm {m : Nat} {t : Tide} (h : SmT m t) (hm : 1 ≤ m) : lcmT t ≤ m ^ 3 := lcmT_pow (fun p hp => (h.parts p hp).1) hm h.len.2
theorem OkT.app {a b : Tide} (ha : OkT a) (hb : OkT b) : OkT (a ++ b) := ⟨fun p hp => (List.mem_append.mp hp).elim (ha.ne p) (hb.ne p), fun p hp => (List.mem_append.mp hp).elim (ha.bd p) (hb.bd p)⟩
theorem lcmT_app {a b : Tide} (ha : OkT a) (hb : OkT b) : lcmT (a ++ b) ≤ lcmT a * lcmT b := by
  refine Nat.le_of_dvd (Nat.mul_pos (lcmT_pos ha) (lcmT_pos hb)) (lcmT_least (ha.app hb) fun p hp => ?_)
  rcases List.mem_append.mp hp with q | q
  · exact Nat.dvd_trans (lcmT_dvd ha p q) (Nat.dvd_mul_right _ _)
  · exact Nat.dvd_trans (lcmT_dvd hb p q) (Nat.dvd_mul_left _ _)
/-- the water never goes beyond what its parts give -/
theorem pt_bd {p : List Int × Int} {m : Nat} (h : ∀ x ∈ p.1, Bd m x) (x : Int) : Bd m (ptH p x) := by
  unfold ptH
  rcases Nat.lt_or_ge ((x - p.2) % (p.1.length : Int)).toNat p.1.length with z | z
  · rw [show p.1.getD ((x - p.2) % (p.1.length : Int)).toNat 0 = p.1[((x - p.2) % (p.1.length : Int)).toNat] by simp [List.getD, z]]
    exact h _ (List.getElem_mem _)
  · rw [show p.1.getD ((x - p.2) % (p.1.length : Int)).toNat 0 = 0 by simp [List.getD, Nat.not_lt.mpr z]]
    exact Bd.mk (Nat.zero_le _)
theorem wat_bd {t : Tide} {m : Nat} (h : ∀ p ∈ t, ∀ x ∈ p.1, Bd m x) (x : Int) : Bd (t.length * m) (wat t x) := by
  unfold wat
  induction t with
  | nil => exact Bd.mk (Nat.zero_le _)
  | cons p t ih =>
    rw [List.map_cons, List.sum_cons, List.length_cons, Nat.add_mul, Nat.one_mul, Nat.add_comm]
    exact (pt_bd (h p (by simp)) x).add (ih fun q hq => h q (by simp [hq]))
theorem SmT.wat_bd {m : Nat} {t : Tide} (h : SmT m t) (x : Int) : Bd 12 (wat t x) := by
  refine (TT.wat_bd (m := 4) (fun p hp x hx => ?_) x).le (by have := h.len.2; omega)
  have := (h.parts p hp).2.2 x hx
  exact Bd.of (by omega) (by omega)
theorem sml_tide {t : Tide} {k m : Nat} (hk : t.length ≤ k) (hm : ∀ p ∈ t, p.1.length ≤ m) : Sml (1 + k * (1 + (1 + m * 1 + 1))) (eTup (eT2 (eTup eInt) eInt) t) := sml_tup (fun p hp => sml_t2 (sml_tup (fun _ _ => sml_int) (hm p hp)) sml_int) hk
end TT

namespace TT
open PySem L2
open TT.PyM (fromO)
/-! ### dicts -/
section
variable {α β γ : Type} [DecidableEq α]
theorem dHas_false {kvs : List (α × β)} {k : α} (h : k ∉ kvs.map (·.1)) : dHas kvs k = false := by
  unfold dHas
  rw [List.any_eq_false]
  intro p hp
  simp only [decide_eq_true_eq]
  exact fun e => h (e ▸ List.mem_map_of_mem hp)
theorem dHas_iff {kvs : List (α × β)} {k : α} : dHas kvs k = true ↔ k ∈ kvs.map (·.1) := by
  unfold dHas
  simp only [List.any_eq_true, decide_eq_true_eq, List.mem_map]
theorem dPut_new {kvs : List (α × β)} {k : α} (v : β) (h : k ∉ kvs.map (·.1)) : dPut kvs k v = kvs ++ [(k, v)] := by
  unfold dPut
  rw [dHas_false h]
  rfl
theorem dUpd_app : ∀ (ps kvs : List (α × β)), ((kvs ++ ps).map (·.1)).Nodup → dUpd kvs ps = kvs ++ ps
  | [], kvs, _ => by rw [List.append_nil]; rfl
  | p :: ps, kvs, h => by
    show dUpd (dPut kvs p.1 p.2) ps = _
    have h' : ((kvs ++ [p] ++ ps).map (·.1)).Nodup := by simpa using h
    have nk : p.1 ∉ kvs.map (·.1) := by
      rw [List.map_append, List.nodup_append] at h
      intro hm
      exact h.2.2 _ hm _ (by simp) rfl
    rw [dPut_new _ nk, dUpd_app ps (kvs ++ [p]) h', List.append_assoc]
    rfl
theorem dOf_nodup {ps : List (α × β)} (h : (ps.map (·.1)).Nodup) : dOf ps = ps := (dUpd_app ps [] h).trans rfl
/-- a table over keys that differ -/
theorem dGet_tab {f : γ → α} {g : γ → β} {xs : List γ} {k : α} : dGet (xs.map fun x => (f x, g x)) k = (xs.find? fun x => decide (f x = k)).map g := by
  unfold dGet
  rw [List.find?_map, Option.map_map]
  rfl
theorem dGet_mem {f : γ → α} {g : γ → β} {xs : List γ} {x : γ} (hx : x ∈ xs) (inj : ∀ y ∈ xs, f y = f x → g y = g x) : dGet (xs.map fun x => (f x, g x)) (f x) = some (g x) := by
  rw [dGet_tab]
  cases h : xs.find? fun y => decide (f y = f x) with
  | none =>
    have := List.find?_eq_none.mp h x hx
    simp at this
  | some y =>
    have h1 := List.find?_some h
    have h2 := List.mem_of_find?_eq_some h
    simp only [decide_eq_true_eq] at h1
    rw [Option.map_some, inj y h2 h1]
theorem dGet_none {kvs : List (α × β)} {k : α} (h : k ∉ kvs.map (·.1)) : dGet kvs k = none := by
  have := dHas_false h
  rw [dHas_get] at this
  cases e : dGet kvs k with
  | none => rfl
  | some v => rw [e] at this; cases this
theorem dGet_put {kvs : List (α × β)} {k j : α} {v : β} : dGet (dPut kvs k v) j = if k = j then some v else dGet kvs j := by
  unfold dPut
  split
  · rename_i h
    unfold dGet
    induction kvs with
    | nil => cases h
    | cons p kvs ih =>
      rw [List.map_cons, List.find?_cons, List.find?_cons]
      by_cases e : p.1 = k
      · rw [if_pos e]
        by_cases e2 : k = j
        · rw [if_pos e2]
          simp [e, e2]
        · have e3 : ¬ p.1 = j := fun z => e2 (e.symm.trans z)
          rw [if_neg e2]
          simp only [decide_eq_false e3]
          by_cases m : dHas kvs k = true
          · rw [ih m, if_neg e2]
          · have hm : kvs.map (fun p => if p.1 = k then (p.1, v) else p) = kvs := by
              refine (List.map_congr_left fun q hq => ?_).trans (List.map_id _)
              rw [if_neg (fun z => m (dHas_iff.mpr (List.mem_map.mpr ⟨q, hq, z⟩)))]
              rfl
            rw [hm]
      · rw [if_neg e]
        have m : dHas kvs k = true := by
          unfold dHas at h ⊢
          rw [List.any_cons, decide_eq_false e, Bool.false_or] at h
          exact h
        by_cases e2 : p.1 = j
        · have : ¬ k = j := fun z => e (e2.trans z.symm)
          rw [if_neg this]
          simp [e2]
        · simp only [decide_eq_false e2]
          exact ih m
  · rename_i h
    have hn : k ∉ kvs.map (·.1) := fun z => h (dHas_iff.mpr z)
    unfold dGet
    rw [List.find?_append]
    by_cases e : k = j
    · subst e
      rw [if_pos rfl]
      have : kvs.find? (fun p => decide (p.1 = k)) = none := List.find?_eq_none.mpr fun p hp => by
        simp only [decide_eq_true_eq]
        exact fun z => hn (List.mem_map.mpr ⟨p, hp, z⟩)
      rw [this]
      simp
    · rw [if_neg e]
      cases kvs.find? (fun p => decide (p.1 = j)) with
      | some q => rfl
      | none => simp [e]
theorem dGet_upd {F : γ → α} {G : α → β} : ∀ (xs : List γ) (kvs : List (α × β)) (k : α), dGet (dUpd kvs (xs.map fun x => (F x, G (F x)))) k = if k ∈ xs.map F then some (G k) else dGet kvs k
  | [], kvs, k => by simp [dUpd]
  | x :: xs, kvs, k => by
    show dGet (dUpd (dPut kvs (F x) (G (F x))) (xs.map fun x => (F x, G (F x)))) k = _
    rw [dGet_upd xs, List.map_cons]
    by_cases h : k ∈ xs.map F
    · rw [if_pos h, if_pos (List.mem_cons_of_mem _ h)]
    · rw [if_neg h, dGet_put]
      by_cases e : F x = k
      · rw [if_pos e, if_pos (by rw [e]; exact List.mem_cons_self), e]
      · rw [if_neg e, if_neg (fun z => (List.mem_cons.mp z).elim (fun y => e y.symm) h)]
/-- a table of what a key gives -/
theorem dGet_of {G : α → β} {xs : List α} {k : α} (h : k ∈ xs) : dGet (dOf (xs.map fun x => (x, G x))) k = some (G k) := by
  have := dGet_upd (F := fun x : α => x) (G := G) xs [] k
  rw [List.map_id', if_pos h] at this
  exact this
theorem dPutG_some {kvs : List (α × β)} {k : α} {v : β} (h : kvs.length < 16777216) : dPutG kvs k v = some (dPut kvs k v) := if_pos h
end
/-! ### walks -/
theorem fold_from {δ : Type} {lo : Int} {f : Int → δ → Option δ} (s : Nat → δ) : ∀ {n : Nat} (_ : ∀ k, k < n → f (lo + (k : Nat)) (s k) = some (s (k + 1))), foldL f (rangeL lo n) (s 0) = some (s n) := by
  intro n h
  rw [rangeL_map]
  have : ∀ (m i : Nat), i + m = n → foldL f ((List.range' i m).map fun (j : Nat) => lo + (j : Int)) (s i) = some (s n) := by
    intro m
    induction m with
    | zero => intro i e; rw [show i = n by omega]; rfl
    | succ m ih =>
      intro i e
      rw [List.range'_succ, List.map_cons, fold_go (h i (by omega)), ih (i + 1) (by omega)]
  rw [List.range_eq_range']
  exact this n 0 (by omega)
theorem setG_nat {α : Type} {xs : List α} {k : Nat} {a : α} (h : k < xs.length) : setG xs (k : Int) a = some (xs.set k a) := by
  unfold setG
  have : ixN xs.length (k : Int) = some k := by
    unfold ixN
    simp
    omega
  rw [this]
  rfl
theorem at_last {α : Type} (xs : List α) (x : α) : L2.atI (xs ++ [x]) (-1) = some x := at_neg 0 rfl (by simp) (by simp)
theorem cut_init {α : Type} (xs : List α) (x : α) : cutA (xs ++ [x]) none (some (-1)) = xs := by
  unfold cutA HT.sIx
  simp
  rw [show (-1 + ((xs.length : Int) + 1)).toNat = xs.length by omega, List.take_left']
  rfl
theorem isNon_head {α : Type} [DecidableEq α] {e : α → PyData} (h : ∀ a, isNon (e a) = false) (xs : List α) : isNon (eOpt e xs.head?) = decide (xs = []) := by
  cases xs with
  | nil => rfl
  | cons x xs => exact (h x).trans (by simp)
theorem isNon_optI (x : Option Int) : isNon (eOpt eInt x) = decide (x = none) := by cases x <;> simp [eOpt, isNon]
/-- the last of them, in rising order -/
def lastUp (p : Nat → Bool) : Nat → Nat
  | 0 => 0
  | m + 1 => if p (m + 1) = true then m + 1 else lastUp p m
theorem lastUp_spec {p : Nat → Bool} (h0 : p 0 = true) : ∀ m, p (lastUp p m) = true ∧ lastUp p m ≤ m ∧ ∀ j, j ≤ m → p j = true → j ≤ lastUp p m
  | 0 => ⟨h0, Nat.le_refl _, fun j h _ => h⟩
  | m + 1 => by
    obtain ⟨a, b, c⟩ := lastUp_spec h0 m
    unfold lastUp
    split
    · rename_i q
      exact ⟨q, Nat.le_refl _, fun j h _ => h⟩
    · rename_i q
      refine ⟨a, by omega, fun j h hj => ?_⟩
      rcases Nat.lt_or_ge j (m + 1) with z | z
      · exact c j (by omega) hj
      · rw [show j = m + 1 by omega] at hj
        exact absurd hj q
/-! ### small data -/
section
variable {α β γ δ ε ζ η θ : Type} {e0 : α → PyData} {e1 : β → PyData} {e2 : γ → PyData} {e3 : δ → PyData} {e4 : ε → PyData} {e5 : ζ → PyData} {e6 : η → PyData} {e7 : θ → PyData}
theorem sml_t6 {n m k l o q : Nat} {p : α × β × γ × δ × ε × ζ} (h : Sml n (e0 p.1)) (h2 : Sml m (e1 p.2.1)) (h3 : Sml k (e2 p.2.2.1)) (h4 : Sml l (e3 p.2.2.2.1)) (h5 : Sml o (e4 p.2.2.2.2.1)) (h6 : Sml q (e5 p.2.2.2.2.2)) : Sml (1 + (n + (m + (k + (l + (o + q)))))) (eT6 e0 e1 e2 e3 e4 e5 p) :=
  ⟨by simp [eT6, PyData.plain, PyData.plainAll, h.plain, h2.plain, h3.plain, h4.plain, h5.plain, h6.plain], by
    have := h.nodes; have := h2.nodes; have := h3.nodes; have := h4.nodes; have := h5.nodes; have := h6.nodes
    simp only [eT6, nodes, nodesAll]; omega⟩
theorem sml_t7 {n m k l o q r : Nat} {p : α × β × γ × δ × ε × ζ × η} (h : Sml n (e0 p.1)) (h2 : Sml m (e1 p.2.1)) (h3 : Sml k (e2 p.2.2.1)) (h4 : Sml l (e3 p.2.2.2.1)) (h5 : Sml o (e4 p.2.2.2.2.1)) (h6 : Sml q (e5 p.2.2.2.2.2.1)) (h7 : Sml r (e6 p.2.2.2.2.2.2)) : Sml (1 + (n + (m + (k + (l + (o + (q + r))))))) (eT7 e0 e1 e2 e3 e4 e5 e6 p) :=
  ⟨by simp [eT7, PyData.plain, PyData.plainAll, h.plain, h2.plain, h3.plain, h4.plain, h5.plain, h6.plain, h7.plain], by
    have := h.nodes; have := h2.nodes; have := h3.nodes; have := h4.nodes; have := h5.nodes; have := h6.nodes; have := h7.nodes
    simp only [eT7, nodes, nodesAll]; omega⟩
end
end TT

namespace TT
open PyM (fromO)
open PySem L2
/-! ### fractions as rational numbers -/
def qf (x : Rat) : Int × Int := (x.num, (x.den : Int))
theorem qf_inj {x y : Rat} (h : qf x = qf y) : x = y := by
  have h1 := congrArg Prod.fst h
  have h2 := congrArg Prod.snd h
  exact Rat.ext h1 (by have h2 : (x.den : Int) = (y.den : Int) := h2; omega)
theorem qf_iff {x y : Rat} : qf x = qf y ↔ x = y := ⟨qf_inj, fun h => by rw [h]⟩
theorem qf_dec (x y : Rat) : decide (qf x = qf y) = decide (x = y) := decide_eq_decide.mpr qf_iff
theorem qf_nf (x : Rat) : nf x.num x.den = qf x := nf_self (by have := x.den_pos; omega) (by
  have := x.reduced
  unfold Nat.Coprime at this
  unfold Int.gcd
  rw [Int.natAbs_natCast]
  exact this)
theorem nf_qf (a : Int) {b : Int} (hb : b ≠ 0) : nf a b = qf (Rat.divInt a b) := by
  rcases h : Rat.divInt a b with ⟨n, d, z, c⟩
  obtain ⟨m, hm, e1, e2⟩ := Rat.divInt_num_den hb h
  rw [e1, e2, nf_scale (by omega) hm]
  exact qf_nf ⟨n, d, z, c⟩
theorem den_pos (x : Rat) : (0 : Int) < x.den := by have := x.den_pos; omega
abbrev BW : Nat := 2 ^ 1000
abbrev BL : Nat := 2 ^ 180
theorem bl_bw : BL < BW := Nat.pow_lt_pow_right (by decide) (by decide)
theorem mulW {i j : Int} (h : i.natAbs < BW) (h' : j.natAbs < BW) : mulG i j = some (i * j) := mul_some ⟨Nat.lt_of_lt_of_le h (Nat.pow_le_pow_right (by decide) (by decide)), Nat.lt_of_lt_of_le h' (Nat.pow_le_pow_right (by decide) (by decide))⟩
theorem div_w {i j : Int} (h : 0 < j) (h' : j.natAbs < BW) (d : j ∣ i) : divG i j = some (i / j) := by
  unfold divG
  rw [if_pos (.inl ⟨h, Nat.lt_of_lt_of_le h' (Nat.pow_le_pow_right (by decide) (by decide))⟩), Int.fdiv_eq_ediv_of_dvd d]
theorem frac_tailW {a b : Int} (h : 0 < b) (hb : b.natAbs < BW) : ((some (decide (b < (0 : Int)))) >>= fun t => (if t = true then ((some (-(Int.gcd a b : Int))) >>= fun by_2 => some by_2) else (some (Int.gcd a b : Int))) >>= fun d_ =>
    (divG a d_ >>= fun v2 => divG b d_ >>= fun v3 => some (v2, v3))) = some (nf a b) := by
  have g := gcd_le (a := a) (b := b) (by omega)
  obtain ⟨d1, d2⟩ := cutBy_dvd a b
  have c := cutBy_ne (a := a) (b := b) (by omega)
  have e : cutBy a b = (Int.gcd a b : Int) := by unfold cutBy; rw [if_neg (by omega)]
  rw [o_bind, if_neg (by simp; omega), o_bind, ← e]
  rw [e] at c
  have k : (cutBy a b).natAbs < BW := by rw [e, Int.natAbs_natCast]; exact Nat.lt_of_le_of_lt g hb
  rw [div_w (by rw [e]; omega) k d1, o_bind, div_w (by rw [e]; omega) k d2, o_bind]
  rfl
theorem fracW {a b : Int} (h : 0 < b) (hb : b.natAbs < BW) : fractionM a b = some (qf (Rat.divInt a b)) := by
  rw [← nf_qf a (by omega)]
  unfold fractionM
  simp only [o_pure, o_fromO]
  rw [o_go (common_eq a b)]
  exact frac_tailW h hb
theorem lawCommonW (a : Int) {b : Int} (h : b.natAbs < BL) : lawCommonM a b = some (Int.gcd a b : Int) := by
  unfold lawCommonM
  simp only [o_pure, o_fromO]
  rw [o_go (range_some (lo := 0) (hi := 400) (by decide))]
  obtain ⟨d, e, g⟩ := cm_loop 180 (rangeL 0 (400 - 0 : Int).toNat) a b (by exact h) (by rw [rangeL_len]; decide)
  unfold cmTurn at e
  rw [o_go e]
  show some (absI d) = _
  rw [← g, Int.gcd_zero_right]
  unfold absI
  congr 1
  split <;> omega
theorem lawFracW {a b : Int} (h : 0 < b) (hb : b.natAbs < BL) : lawFracM a b = some (qf (Rat.divInt a b)) := by
  rw [← nf_qf a (by omega)]
  unfold lawFracM
  simp only [o_pure, o_fromO]
  rw [o_go (lawCommonW a hb)]
  exact frac_tailW h (Nat.lt_trans hb bl_bw)
theorem lawFrac2W (a : Int) {b : Int} (h : 0 < b) (hb : b.natAbs < BW) : lawFraction2M a b = some (qf (Rat.divInt a b)) := by
  rw [← nf_qf a (by omega)]
  unfold lawFraction2M
  simp only [o_pure, o_bind, o_fromO, absI_eq]
  obtain ⟨r, e, g⟩ := abs_while a.natAbs b.natAbs
  rw [o_go e, g]
  have hg : (Nat.gcd a.natAbs b.natAbs : Int) = (Int.gcd a b : Int) := rfl
  rw [hg]
  have gp : 0 < Int.gcd a b := by
    rcases Nat.eq_zero_or_pos (Int.gcd a b) with z | z
    · exact absurd (Int.gcd_eq_zero_iff.mp z).2 (by omega)
    · exact z
  have gl := gcd_le (a := a) (b := b) (by omega)
  have k : (Int.gcd a b : Int).natAbs < BW := by rw [Int.natAbs_natCast]; exact Nat.lt_of_le_of_lt gl hb
  rw [div_w (by omega) k (Int.gcd_dvd_left a b), div_w (by omega) k (Int.gcd_dvd_right a b)]
  simp only [o_bind]
  rw [if_pos (by simpa using h)]
  unfold nf cutBy
  rw [if_neg (by omega)]
/-! ### how large they are -/
structure Fq (n c : Nat) (x : Rat) : Prop where
  d : x.den ≤ n
  m : x.num.natAbs ≤ c * n
theorem qf_divInt_le (a : Int) {b : Int} (hb : b ≠ 0) : (Rat.divInt a b).den ≤ b.natAbs ∧ (Rat.divInt a b).num.natAbs ≤ a.natAbs := by
  have h := nf_le (a := a) hb
  rw [nf_qf a hb] at h
  exact ⟨by simpa [qf] using h.2, h.1⟩
theorem Fq.of {a b : Int} {n c : Nat} (hb : b ≠ 0) (h1 : b.natAbs ≤ n) (h2 : a.natAbs ≤ c * n) : Fq n c (Rat.divInt a b) := ⟨Nat.le_trans (qf_divInt_le a hb).1 h1, Nat.le_trans (qf_divInt_le a hb).2 h2⟩
theorem Fq.le {n c m e : Nat} {x : Rat} (h : Fq n c x) (hn : n ≤ m) (hc : c ≤ e) : Fq m e x := ⟨Nat.le_trans h.d hn, Nat.le_trans h.m (Nat.mul_le_mul hc hn)⟩
theorem dn {x : Rat} : (x.den : Int) ≠ 0 := by have := den_pos x; omega
theorem add_divInt (x y : Rat) : x + y = Rat.divInt (x.num * y.den + y.num * x.den) (x.den * y.den) := by
  conv => lhs; rw [← Rat.num_divInt_den x, ← Rat.num_divInt_den y]
  rw [Rat.divInt_add_divInt _ _ dn dn]
theorem sub_divInt (x y : Rat) : x - y = Rat.divInt (x.num * y.den - y.num * x.den) (x.den * y.den) := by
  conv => lhs; rw [← Rat.num_divInt_den x, ← Rat.num_divInt_den y]
  rw [Rat.divInt_sub_divInt _ _ dn dn]
theorem mul_divInt (x y : Rat) : x * y = Rat.divInt (x.num * y.num) (x.den * y.den) := by
  conv => lhs; rw [← Rat.num_divInt_den x, ← Rat.num_divInt_den y]
  rw [Rat.divInt_mul_divInt]
section
variable {n c m e : Nat} {x y : Rat} (hx : Fq n c x) (hy : Fq m e y)
include hx hy
theorem Fq.dd : ((x.den : Int) * (y.den : Int)).natAbs ≤ n * m := by
  rw [Int.natAbs_mul, Int.natAbs_natCast, Int.natAbs_natCast]
  exact Nat.mul_le_mul hx.d hy.d
theorem Fq.nd : (x.num * (y.den : Int)).natAbs ≤ c * (n * m) := by
  rw [Int.natAbs_mul, Int.natAbs_natCast, ← Nat.mul_assoc]
  exact Nat.mul_le_mul hx.m hy.d
theorem Fq.dn : (y.num * (x.den : Int)).natAbs ≤ e * (n * m) := by
  rw [Int.natAbs_mul, Int.natAbs_natCast, Nat.mul_comm n m, ← Nat.mul_assoc]
  exact Nat.mul_le_mul hy.m hx.d
theorem Fq.add : Fq (n * m) (c + e) (x + y) := by
  rw [add_divInt]
  refine .of (Int.mul_ne_zero TT.dn TT.dn) (Fq.dd hx hy) ?_
  have := Fq.nd hx hy
  have := Fq.dn hx hy
  rw [Nat.add_mul]
  omega
theorem Fq.sub : Fq (n * m) (c + e) (x - y) := by
  rw [sub_divInt]
  refine .of (Int.mul_ne_zero TT.dn TT.dn) (Fq.dd hx hy) ?_
  have := Fq.nd hx hy
  have := Fq.dn hx hy
  rw [Nat.add_mul]
  omega
theorem Fq.mul : Fq (n * m) (c * e) (x * y) := by
  rw [mul_divInt]
  refine .of (Int.mul_ne_zero TT.dn TT.dn) (Fq.dd hx hy) ?_
  rw [Int.natAbs_mul, show c * e * (n * m) = c * n * (e * m) by grind]
  exact Nat.mul_le_mul hx.m hy.m
end
/-! ### what the code does -/
section
variable {x y : Rat} (h1 : x.num.natAbs < BW) (h2 : y.num.natAbs < BW) (h3 : x.den < BW) (h4 : y.den < BW)
include h1 h2 h3 h4
theorem qmul3 : mulG (qf x).1 (qf y).2 = some (x.num * y.den) ∧ mulG (qf y).1 (qf x).2 = some (y.num * x.den) ∧ mulG (qf x).2 (qf y).2 = some ((x.den : Int) * y.den) ∧ mulG (qf x).1 (qf y).1 = some (x.num * y.num) :=
  ⟨mulW h1 (by show (y.den : Int).natAbs < BW; rw [Int.natAbs_natCast]; exact h4), mulW h2 (by show (x.den : Int).natAbs < BW; rw [Int.natAbs_natCast]; exact h3), mulW (by show (x.den : Int).natAbs < BW; rw [Int.natAbs_natCast]; exact h3) (by show (y.den : Int).natAbs < BW; rw [Int.natAbs_natCast]; exact h4), mulW h1 h2⟩
theorem qless : lessM (qf x) (qf y) = some (decide (x < y)) := by
  obtain ⟨a, b, _, _⟩ := qmul3 h1 h2 h3 h4
  unfold lessM
  simp only [o_fromO, a, b, o_bind, o_pure]
  congr 1
  exact decide_eq_decide.mpr (Rat.lt_iff x y).symm
end
section
variable {x y : Rat} (h1 : x.num.natAbs < BW) (h2 : y.num.natAbs < BW) (h3 : x.den < BW) (h4 : y.den < BW) (h : x.den * y.den < BW)
include h1 h2 h3 h4 h
theorem ddW : ((x.den : Int) * y.den).natAbs < BW := by rw [Int.natAbs_mul, Int.natAbs_natCast, Int.natAbs_natCast]; exact h
theorem qplus : plusM (qf x) (qf y) = some (qf (x + y)) := by
  obtain ⟨a, b, c, d⟩ := qmul3 h1 h2 h3 h4
  unfold plusM
  simp only [o_fromO, a, b, c, o_bind]
  rw [fracW (Int.mul_pos (den_pos x) (den_pos y)) (ddW h1 h2 h3 h4 h), add_divInt]
theorem qminus : minusM (qf x) (qf y) = some (qf (x - y)) := by
  obtain ⟨a, b, c, d⟩ := qmul3 h1 h2 h3 h4
  unfold minusM
  simp only [o_fromO, a, b, c, o_bind]
  rw [fracW (Int.mul_pos (den_pos x) (den_pos y)) (ddW h1 h2 h3 h4 h), sub_divInt]
theorem qtimes : timesM (qf x) (qf y) = some (qf (x * y)) := by
  obtain ⟨a, b, c, d⟩ := qmul3 h1 h2 h3 h4
  unfold timesM
  simp only [o_fromO, c, d, o_bind]
  rw [fracW (Int.mul_pos (den_pos x) (den_pos y)) (ddW h1 h2 h3 h4 h), mul_divInt]
end
section
variable {x y : Rat} (h1 : x.num.natAbs < BW) (h2 : y.num.natAbs < BW) (h3 : x.den < BW) (h4 : y.den < BW) (h : x.den * y.den < BL)
include h1 h2 h3 h4 h
theorem ddL : ((x.den : Int) * y.den).natAbs < BL := by rw [Int.natAbs_mul, Int.natAbs_natCast, Int.natAbs_natCast]; exact h
theorem qlawAdd : lawAddM (qf x) (qf y) = some (qf (x + y)) := by
  obtain ⟨a, b, c, d⟩ := qmul3 h1 h2 h3 h4
  unfold lawAddM
  simp only [o_fromO, a, b, c, o_bind]
  rw [lawFracW (Int.mul_pos (den_pos x) (den_pos y)) (ddL h1 h2 h3 h4 h), add_divInt]
theorem qlawLess : lawLessM (qf x) (qf y) = some (qf (x - y)) := by
  obtain ⟨a, b, c, d⟩ := qmul3 h1 h2 h3 h4
  unfold lawLessM
  simp only [o_fromO, a, b, c, o_bind]
  rw [lawFracW (Int.mul_pos (den_pos x) (den_pos y)) (ddL h1 h2 h3 h4 h), sub_divInt]
theorem qlawMul : lawMulM (qf x) (qf y) = some (qf (x * y)) := by
  obtain ⟨a, b, c, d⟩ := qmul3 h1 h2 h3 h4
  unfold lawMulM
  simp only [o_fromO, c, d, o_bind]
  rw [lawFracW (Int.mul_pos (den_pos x) (den_pos y)) (ddL h1 h2 h3 h4 h), mul_divInt]
end
end TT

namespace K23
open PySem PySem.Spec PyProof.Rows L2 TT
open TT.PyM (fromO)
def topS (i : Nat) : Stmt := PySem.Challenge.pw_tidestold_k23_whole_looking_for_a_wreck.main.body.getD i (.Pass ⟨0, 0, 0, 0⟩)
abbrev N0 : List Str := ["a", "b"]
abbrev p0 : List Str := ["a", "b"]
theorem sc0 : FnScope N0 p0 (defScope (topS 1)) := ⟨rfl, rfl, rfl, by decide +kernel, rfl, by decide +kernel, by decide +kernel⟩
abbrev N1 : List Str := ["one", "other"]
abbrev p1 : List Str := ["one", "other"]
theorem sc1 : FnScope N1 p1 (defScope (topS 7)) := ⟨rfl, rfl, rfl, by decide +kernel, rfl, by decide +kernel, by decide +kernel⟩
abbrev N2 : List Str := ["script", "many", "draws", "mixed", "k", "cell", "rest", "turn"]
abbrev p2 : List Str := ["script", "many"]
theorem sc2 : FnScope N2 p2 (defScope (topS 24)) := ⟨rfl, rfl, rfl, by decide +kernel, rfl, by decide +kernel, by decide +kernel⟩
abbrev N3 : List Str := ["w", "many"]
abbrev p3 : List Str := ["w", "many"]
theorem sc3 : FnScope N3 p3 (defScope (topS 25)) := ⟨rfl, rfl, rfl, by decide +kernel, rfl, by decide +kernel, by decide +kernel⟩
abbrev N4 : List Str := ["a", "b", "turn"]
abbrev p4 : List Str := ["a", "b"]
theorem sc4 : FnScope N4 p4 (defScope (topS 27)) := ⟨rfl, rfl, rfl, by decide +kernel, rfl, by decide +kernel, by decide +kernel⟩
abbrev N5 : List Str := ["one", "other"]
abbrev p5 : List Str := ["one", "other"]
theorem sc5 : FnScope N5 p5 (defScope (topS 32)) := ⟨rfl, rfl, rfl, by decide +kernel, rfl, by decide +kernel, by decide +kernel⟩
abbrev N6 : List Str := ["things", "rows", "k", "longer", "row", "thing"]
abbrev p6 : List Str := ["things"]
theorem sc6 : FnScope N6 p6 (defScope (topS 34)) := ⟨rfl, rfl, rfl, by decide +kernel, rfl, by decide +kernel, by decide +kernel⟩
abbrev N7 : List Str := ["a", "b", "by"]
abbrev p7 : List Str := ["a", "b"]
theorem sc7 : FnScope N7 p7 (defScope (topS 2)) := ⟨rfl, rfl, rfl, by decide +kernel, rfl, by decide +kernel, by decide +kernel⟩
abbrev N8 : List Str := ["w", "rows"]
abbrev p8 : List Str := ["w", "rows"]
theorem sc8 : FnScope N8 p8 (defScope (topS 26)) := ⟨rfl, rfl, rfl, by decide +kernel, rfl, by decide +kernel, by decide +kernel⟩
abbrev N9 : List Str := ["a", "b", "by"]
abbrev p9 : List Str := ["a", "b"]
theorem sc9 : FnScope N9 p9 (defScope (topS 28)) := ⟨rfl, rfl, rfl, by decide +kernel, rfl, by decide +kernel, by decide +kernel⟩
abbrev N10 : List Str := ["one", "other"]
abbrev p10 : List Str := ["one", "other"]
theorem sc10 : FnScope N10 p10 (defScope (topS 3)) := ⟨rfl, rfl, rfl, by decide +kernel, rfl, by decide +kernel, by decide +kernel⟩
abbrev N11 : List Str := ["one", "other"]
abbrev p11 : List Str := ["one", "other"]
theorem sc11 : FnScope N11 p11 (defScope (topS 4)) := ⟨rfl, rfl, rfl, by decide +kernel, rfl, by decide +kernel, by decide +kernel⟩
abbrev N12 : List Str := ["one", "other"]
abbrev p12 : List Str := ["one", "other"]
theorem sc12 : FnScope N12 p12 (defScope (topS 5)) := ⟨rfl, rfl, rfl, by decide +kernel, rfl, by decide +kernel, by decide +kernel⟩
abbrev N13 : List Str := ["one", "other"]
abbrev p13 : List Str := ["one", "other"]
theorem sc13 : FnScope N13 p13 (defScope (topS 6)) := ⟨rfl, rfl, rfl, by decide +kernel, rfl, by decide +kernel, by decide +kernel⟩
abbrev N14 : List Str := ["odds", "whole", "own"]
abbrev p14 : List Str := ["odds"]
theorem sc14 : FnScope N14 p14 (defScope (topS 12)) := ⟨rfl, rfl, rfl, by decide +kernel, rfl, by decide +kernel, by decide +kernel⟩
abbrev N15 : List Str := ["one", "other"]
abbrev p15 : List Str := ["one", "other"]
theorem sc15 : FnScope N15 p15 (defScope (topS 29)) := ⟨rfl, rfl, rfl, by decide +kernel, rfl, by decide +kernel, by decide +kernel⟩
abbrev N16 : List Str := ["one", "other"]
abbrev p16 : List Str := ["one", "other"]
theorem sc16 : FnScope N16 p16 (defScope (topS 30)) := ⟨rfl, rfl, rfl, by decide +kernel, rfl, by decide +kernel, by decide +kernel⟩
abbrev N17 : List Str := ["one", "other"]
abbrev p17 : List Str := ["one", "other"]
theorem sc17 : FnScope N17 p17 (defScope (topS 31)) := ⟨rfl, rfl, rfl, by decide +kernel, rfl, by decide +kernel, by decide +kernel⟩
abbrev N18 : List Str := ["fractions", "found", "one"]
abbrev p18 : List Str := ["fractions"]
theorem sc18 : FnScope N18 p18 (defScope (topS 8)) := ⟨rfl, rfl, rfl, by decide +kernel, rfl, by decide +kernel, by decide +kernel⟩
abbrev N19 : List Str := ["sights", "plan", "found", "k"]
abbrev p19 : List Str := ["sights", "plan"]
theorem sc19 : FnScope N19 p19 (defScope (topS 13)) := ⟨rfl, rfl, rfl, by decide +kernel, rfl, by decide +kernel, by decide +kernel⟩
abbrev N20 : List Str := ["odds", "costs", "chances", "left", "order", "best", "k", "mean", "cost"]
abbrev p20 : List Str := ["odds", "costs"]
theorem sc20 : FnScope N20 p20 (defScope (topS 22)) := ⟨rfl, rfl, rfl, by decide +kernel, rfl, by decide +kernel, by decide +kernel⟩
abbrev N21 : List Str := ["rows", "found", "one"]
abbrev p21 : List Str := ["rows"]
theorem sc21 : FnScope N21 p21 (defScope (topS 33)) := ⟨rfl, rfl, rfl, by decide +kernel, rfl, by decide +kernel, by decide +kernel⟩
abbrev N22 : List Str := ["odds", "sights", "plan", "found", "k", "own"]
abbrev p22 : List Str := ["odds", "sights", "plan"]
theorem sc22 : FnScope N22 p22 (defScope (topS 35)) := ⟨rfl, rfl, rfl, by decide +kernel, rfl, by decide +kernel, by decide +kernel⟩
abbrev N23 : List Str := ["odds", "sights", "plan", "chance", "miss"]
abbrev p23 : List Str := ["odds", "sights", "plan"]
theorem sc23 : FnScope N23 p23 (defScope (topS 14)) := ⟨rfl, rfl, rfl, by decide +kernel, rfl, by decide +kernel, by decide +kernel⟩
abbrev N24 : List Str := ["odds", "sights", "plan"]
abbrev p24 : List Str := ["odds", "sights", "plan"]
theorem sc24 : FnScope N24 p24 (defScope (topS 36)) := ⟨rfl, rfl, rfl, by decide +kernel, rfl, by decide +kernel, by decide +kernel⟩
abbrev N25 : List Str := ["odds", "sights", "plan", "told", "best", "k", "worth"]
abbrev p25 : List Str := ["odds", "sights", "plan"]
theorem sc25 : FnScope N25 p25 (defScope (topS 37)) := ⟨rfl, rfl, rfl, by decide +kernel, rfl, by decide +kernel, by decide +kernel⟩
abbrev N26 : List Str := ["odds", "sights", "plan"]
abbrev p26 : List Str := ["odds", "sights", "plan"]
theorem sc26 : FnScope N26 p26 (defScope (topS 15)) := ⟨rfl, rfl, rfl, by decide +kernel, rfl, by decide +kernel, by decide +kernel⟩
abbrev N27 : List Str := ["odds", "sights", "plan", "told", "whole", "own"]
abbrev p27 : List Str := ["odds", "sights", "plan"]
theorem sc27 : FnScope N27 p27 (defScope (topS 16)) := ⟨rfl, rfl, rfl, by decide +kernel, rfl, by decide +kernel, by decide +kernel⟩
abbrev N28 : List Str := ["odds", "sights", "plan", "told", "worths", "best", "k"]
abbrev p28 : List Str := ["odds", "sights", "plan"]
theorem sc28 : FnScope N28 p28 (defScope (topS 17)) := ⟨rfl, rfl, rfl, by decide +kernel, rfl, by decide +kernel, by decide +kernel⟩
abbrev N29 : List Str := ["odds", "sights"]
abbrev p29 : List Str := ["odds", "sights"]
theorem sc29 : FnScope N29 p29 (defScope (topS 18)) := ⟨rfl, rfl, rfl, by decide +kernel, rfl, by decide +kernel, by decide +kernel⟩
abbrev N30 : List Str := ["odds", "sights", "many", "plan", "_"]
abbrev p30 : List Str := ["odds", "sights", "many"]
theorem sc30 : FnScope N30 p30 (defScope (topS 19)) := ⟨rfl, rfl, rfl, by decide +kernel, rfl, by decide +kernel, by decide +kernel⟩
abbrev N31 : List Str := ["odds", "sights", "plan", "found", "k"]
abbrev p31 : List Str := ["odds", "sights", "plan"]
theorem sc31 : FnScope N31 p31 (defScope (topS 21)) := ⟨rfl, rfl, rfl, by decide +kernel, rfl, by decide +kernel, by decide +kernel⟩
abbrev N32 : List Str := ["odds", "sights", "least", "many"]
abbrev p32 : List Str := ["odds", "sights", "least"]
theorem sc32 : FnScope N32 p32 (defScope (topS 20)) := ⟨rfl, rfl, rfl, by decide +kernel, rfl, by decide +kernel, by decide +kernel⟩
abbrev N33 : List Str := ["script", "w", "turn", "many", "odds", "sights", "plan", "chance", "told", "whole", "due", "mean", "k", "looks", "own", "plans", "longer", "row", "top", "least", "found", "costs", "best", "means", "order", "cost", "falls", "even", "n"]
abbrev p33 : List Str := ["script"]
theorem sc33 : FnScope N33 p33 (defScope (topS 38)) := ⟨rfl, rfl, rfl, by decide +kernel, rfl, by decide +kernel, by decide +kernel⟩
structure Tp (K : PySem.W.Frag) (mg : Str → Option Value) where
  f0 : Addr
  d0 : FuncData
  F0 : Fun K "common" "common" (topS 1) f0 d0
  g0 : mg "common" = some (.ref f0)
  b0 : Binds K d0 p0 []
  f1 : Addr
  d1 : FuncData
  F1 : Fun K "is_less" "is_less" (topS 7) f1 d1
  g1 : mg "is_less" = some (.ref f1)
  b1 : Binds K d1 p1 []
  f2 : Addr
  d2 : FuncData
  F2 : Fun K "_law_draws" "_law_draws" (topS 24) f2 d2
  g2 : mg "_law_draws" = some (.ref f2)
  b2 : Binds K d2 p2 []
  f3 : Addr
  d3 : FuncData
  F3 : Fun K "_law_next" "_law_next" (topS 25) f3 d3
  g3 : mg "_law_next" = some (.ref f3)
  b3 : Binds K d3 p3 []
  f4 : Addr
  d4 : FuncData
  F4 : Fun K "_law_common" "_law_common" (topS 27) f4 d4
  g4 : mg "_law_common" = some (.ref f4)
  b4 : Binds K d4 p4 []
  f5 : Addr
  d5 : FuncData
  F5 : Fun K "_law_below" "_law_below" (topS 32) f5 d5
  g5 : mg "_law_below" = some (.ref f5)
  b5 : Binds K d5 p5 []
  f6 : Addr
  d6 : FuncData
  F6 : Fun K "_law_orders" "_law_orders" (topS 34) f6 d6
  g6 : mg "_law_orders" = some (.ref f6)
  b6 : Binds K d6 p6 []
  f7 : Addr
  d7 : FuncData
  F7 : Fun K "fraction" "fraction" (topS 2) f7 d7
  g7 : mg "fraction" = some (.ref f7)
  b7 : Binds K d7 p7 []
  f8 : Addr
  d8 : FuncData
  F8 : Fun K "_law_pick" "_law_pick" (topS 26) f8 d8
  g8 : mg "_law_pick" = some (.ref f8)
  b8 : Binds K d8 p8 []
  f9 : Addr
  d9 : FuncData
  F9 : Fun K "_law_frac" "_law_frac" (topS 28) f9 d9
  g9 : mg "_law_frac" = some (.ref f9)
  b9 : Binds K d9 p9 []
  f10 : Addr
  d10 : FuncData
  F10 : Fun K "plus" "plus" (topS 3) f10 d10
  g10 : mg "plus" = some (.ref f10)
  b10 : Binds K d10 p10 []
  f11 : Addr
  d11 : FuncData
  F11 : Fun K "minus" "minus" (topS 4) f11 d11
  g11 : mg "minus" = some (.ref f11)
  b11 : Binds K d11 p11 []
  f12 : Addr
  d12 : FuncData
  F12 : Fun K "times" "times" (topS 5) f12 d12
  g12 : mg "times" = some (.ref f12)
  b12 : Binds K d12 p12 []
  f13 : Addr
  d13 : FuncData
  F13 : Fun K "parted" "parted" (topS 6) f13 d13
  g13 : mg "parted" = some (.ref f13)
  b13 : Binds K d13 p13 []
  f14 : Addr
  d14 : FuncData
  F14 : Fun K "chances_of" "chances_of" (topS 12) f14 d14
  g14 : mg "chances_of" = some (.ref f14)
  b14 : Binds K d14 p14 []
  f15 : Addr
  d15 : FuncData
  F15 : Fun K "_law_add" "_law_add" (topS 29) f15 d15
  g15 : mg "_law_add" = some (.ref f15)
  b15 : Binds K d15 p15 []
  f16 : Addr
  d16 : FuncData
  F16 : Fun K "_law_less" "_law_less" (topS 30) f16 d16
  g16 : mg "_law_less" = some (.ref f16)
  b16 : Binds K d16 p16 []
  f17 : Addr
  d17 : FuncData
  F17 : Fun K "_law_mul" "_law_mul" (topS 31) f17 d17
  g17 : mg "_law_mul" = some (.ref f17)
  b17 : Binds K d17 p17 []
  f18 : Addr
  d18 : FuncData
  F18 : Fun K "total" "total" (topS 8) f18 d18
  g18 : mg "total" = some (.ref f18)
  b18 : Binds K d18 p18 []
  f19 : Addr
  d19 : FuncData
  F19 : Fun K "missed" "missed" (topS 13) f19 d19
  g19 : mg "missed" = some (.ref f19)
  b19 : Binds K d19 p19 []
  f20 : Addr
  d20 : FuncData
  F20 : Fun K "order_of" "order_of" (topS 22) f20 d20
  g20 : mg "order_of" = some (.ref f20)
  b20 : Binds K d20 p20 []
  f21 : Addr
  d21 : FuncData
  F21 : Fun K "_law_total" "_law_total" (topS 33) f21 d21
  g21 : mg "_law_total" = some (.ref f21)
  b21 : Binds K d21 p21 []
  f22 : Addr
  d22 : FuncData
  F22 : Fun K "_law_left" "_law_left" (topS 35) f22 d22
  g22 : mg "_law_left" = some (.ref f22)
  b22 : Binds K d22 p22 []
  f23 : Addr
  d23 : FuncData
  F23 : Fun K "still_there" "still_there" (topS 14) f23 d23
  g23 : mg "still_there" = some (.ref f23)
  b23 : Binds K d23 p23 []
  f24 : Addr
  d24 : FuncData
  F24 : Fun K "_law_chance" "_law_chance" (topS 36) f24 d24
  g24 : mg "_law_chance" = some (.ref f24)
  b24 : Binds K d24 p24 []
  f25 : Addr
  d25 : FuncData
  F25 : Fun K "_law_next_look" "_law_next_look" (topS 37) f25 d25
  g25 : mg "_law_next_look" = some (.ref f25)
  b25 : Binds K d25 p25 []
  f26 : Addr
  d26 : FuncData
  F26 : Fun K "found_by" "found_by" (topS 15) f26 d26
  g26 : mg "found_by" = some (.ref f26)
  b26 : Binds K d26 p26 []
  f27 : Addr
  d27 : FuncData
  F27 : Fun K "left_odds" "left_odds" (topS 16) f27 d27
  g27 : mg "left_odds" = some (.ref f27)
  b27 : Binds K d27 p27 []
  f28 : Addr
  d28 : FuncData
  F28 : Fun K "most_worth" "most_worth" (topS 17) f28 d28
  g28 : mg "most_worth" = some (.ref f28)
  b28 : Binds K d28 p28 []
  f29 : Addr
  d29 : FuncData
  F29 : Fun K "best_start" "best_start" (topS 18) f29 d29
  g29 : mg "best_start" = some (.ref f29)
  b29 : Binds K d29 p29 []
  f30 : Addr
  d30 : FuncData
  F30 : Fun K "best_plan" "best_plan" (topS 19) f30 d30
  g30 : mg "best_plan" = some (.ref f30)
  b30 : Binds K d30 p30 []
  f31 : Addr
  d31 : FuncData
  F31 : Fun K "mean_looks" "mean_looks" (topS 21) f31 d31
  g31 : mg "mean_looks" = some (.ref f31)
  b31 : Binds K d31 p31 []
  f32 : Addr
  d32 : FuncData
  F32 : Fun K "looks_for" "looks_for" (topS 20) f32 d32
  g32 : mg "looks_for" = some (.ref f32)
  b32 : Binds K d32 p32 []
  f33 : Addr
  d33 : FuncData
  F33 : Fun K "law" "law" (topS 38) f33 d33
  g33 : mg "law" = some (.ref f33)
  b33 : Binds K d33 p33 []
  z_abs : mg "abs" = none
  z_int : mg "int" = none
  z_len : mg "len" = none
  z_list : mg "list" = none
  z_range : mg "range" = none
  z_sum : mg "sum" = none
  z_tuple : mg "tuple" = none
  z_zip : mg "zip" = none
  c_NOTHING : GlobC K mg "NOTHING" ((eT2 eInt eInt) ((0 : Int), (1 : Int)))
  c_WHOLE : GlobC K mg "WHOLE" ((eT2 eInt eInt) ((1 : Int), (1 : Int)))
/-! ### the mirror -/
noncomputable def m_common (a_ : Int) (b_ : Int) : Option Int :=
  whileM (fun d_ => (pure (!decide (d_.2 = (0 : Int))))) (fun d_ => (fromO (modG d_.1 d_.2) >>= fun v1 => pure (d_.2, v1)) >>= fun p_ =>
  pure (p_.1, p_.2)) (a_, b_) >>= fun d_2 =>
  (pure (absI d_2.1))
noncomputable def m_is_less (one_ : (Int × Int)) (other_ : (Int × Int)) : Option Bool :=
  (fromO (mulG one_.1 other_.2) >>= fun v1 => fromO (mulG other_.1 one_.2) >>= fun v2 => pure (decide (v1 < v2)))
noncomputable def m__law_draws (script_ : List Int) (many_ : Int) : Option (List Int) :=
  (pure []) >>= fun draws_ =>
  (pure (7 : Int)) >>= fun mixed_ =>
  (fromO (rangeG 0 (script_.length : Int))) >>= fun xs => foldL (fun k_ d_ => (fromO (L2.atI script_ k_) >>= fun v2 => pure (absI v2)) >>= fun cell_ =>
  (fromO (mulG d_.1 (48271 : Int)) >>= fun v3 => fromO (modG cell_ (1000003 : Int)) >>= fun v4 => fromO (modG ((v3 + v4) + k_) (65537 : Int))) >>= fun mixed_2 =>
  (pure (0 : Int)) >>= fun rest_ =>
  (fromO (powG (10 : Int) (18 : Int)) >>= fun v6 => pure (decide (v6 ≤ cell_))) >>= fun t => (if t = true then ((pure cell_) >>= fun rest_2 =>
  pure (rest_2, d_.2)) else ((fromO (modG cell_ (997 : Int))) >>= fun a => fromO (appG d_.2 a) >>= fun draws_2 =>
  (fromO (mulG mixed_2 (69621 : Int)) >>= fun v8 => fromO (modG (v8 + (5 : Int)) (65521 : Int)) >>= fun v9 => fromO (modG v9 (997 : Int))) >>= fun a => fromO (appG draws_2 a) >>= fun draws_3 =>
  pure (rest_, draws_3))) >>= fun d_3 =>
  (fromO (rangeG 0 (60 : Int))) >>= fun xs => foldL (fun turn_ d_4 => (pure (decide ((0 : Int) < d_4.2))) >>= fun t => (if t = true then ((fromO (modG d_4.2 (997 : Int))) >>= fun a => fromO (appG d_4.1 a) >>= fun draws_4 =>
  (fromO (divG d_4.2 (997 : Int))) >>= fun rest_3 =>
  pure (draws_4, rest_3)) else (pure (d_4.1, d_4.2))) >>= fun d_6 =>
  pure (d_6.1, d_6.2)) xs (d_3.2, d_3.1) >>= fun d_5 =>
  pure (mixed_2, d_5.1)) xs (mixed_, draws_) >>= fun d_2 =>
  (fromO (rangeG 0 many_)) >>= fun xs => foldL (fun k_2 d_7 => (fromO (mulG d_7.1 (16807 : Int)) >>= fun v15 => fromO (modG ((v15 + k_2) + (1 : Int)) (65537 : Int))) >>= fun mixed_3 =>
  (fromO (modG mixed_3 (997 : Int))) >>= fun a => fromO (appG d_7.2 a) >>= fun draws_5 =>
  pure (mixed_3, draws_5)) xs (d_2.1, d_2.2) >>= fun d_8 =>
  (pure (cutA d_8.2 none (some many_)))
noncomputable def m__law_next (many_ : Int) : WM DW Int :=
  incAt >>= fun _ =>
  (rdAt >>= fun v1 => rdDraws >>= fun v2 => pure (decide ((v2.length : Int) < v1))) >>= fun b => if b = true then ((pure (0 : Int))) else
  (rdDraws >>= fun v3 => rdAt >>= fun v4 => fromO (L2.atI v3 (v4 - (1 : Int))) >>= fun v5 => fromO (modG v5 many_))
noncomputable def m__law_common (a_ : Int) (b_ : Int) : Option Int :=
  (fromO (rangeG 0 (400 : Int))) >>= fun xs => loopL (fun turn_ d_ => (pure (decide (d_.2 = (0 : Int)))) >>= fun t => (if t = true then (pure (.bk (d_.1, d_.2))) else (pure (.nx ()))) >>= Out.thn fun d_3 =>
  (fromO (modG d_.1 d_.2) >>= fun v2 => pure (d_.2, v2)) >>= fun p_ =>
  pure (.nx (p_.1, p_.2))) xs (a_, b_) >>= thenF fun d_2 =>
  (pure (absI d_2.1))
noncomputable def m__law_below (one_ : (Int × Int)) (other_ : (Int × Int)) : Option Bool :=
  (fromO (mulG one_.1 other_.2) >>= fun v1 => fromO (mulG other_.1 one_.2) >>= fun v2 => pure (decide (v1 < v2)))
noncomputable def m__law_orders (things_ : (List Int)) : Option (List (List Int)) :=
  (pure [[]]) >>= fun rows_ =>
  (fromO (rangeG 0 (things_.length : Int))) >>= fun xs => foldL (fun k_ d_ => (pure []) >>= fun longer_ =>
  (pure d_) >>= fun xs => foldL (fun row_ d_3 => (compL (fun thing_ => (pure (!decide (thing_ ∈ row_)))) (fun thing_ => (fromO (catG row_ [thing_]))) things_ >>= fun v3 => fromO (catG d_3 v3)) >>= fun longer_2 =>
  pure longer_2) xs longer_ >>= fun d_4 =>
  (pure d_4) >>= fun rows_2 =>
  pure rows_2) xs rows_ >>= fun d_2 =>
  (pure d_2)
noncomputable def m_fraction (a_ : Int) (b_ : Int) : Option (Int × Int) :=
  (fromO (m_common a_ b_)) >>= fun by_ =>
  (pure (decide (b_ < (0 : Int)))) >>= fun t => (if t = true then ((pure (-by_)) >>= fun by_2 =>
  pure by_2) else (pure by_)) >>= fun d_ =>
  (fromO (divG a_ d_) >>= fun v2 => fromO (divG b_ d_) >>= fun v3 => pure (v2, v3))
noncomputable def m__law_pick (rows_ : (List (Int × Int))) : WM DW (Int × Int) :=
  (m__law_next (rows_.length : Int) >>= fun v1 => fromO (L2.atI rows_ v1))
noncomputable def m__law_frac (a_ : Int) (b_ : Int) : Option (Int × Int) :=
  (fromO (m__law_common a_ b_)) >>= fun by_ =>
  (pure (decide (b_ < (0 : Int)))) >>= fun t => (if t = true then ((pure (-by_)) >>= fun by_2 =>
  pure by_2) else (pure by_)) >>= fun d_ =>
  (fromO (divG a_ d_) >>= fun v2 => fromO (divG b_ d_) >>= fun v3 => pure (v2, v3))
noncomputable def m_plus (one_ : (Int × Int)) (other_ : (Int × Int)) : Option (Int × Int) :=
  (fromO (mulG one_.1 other_.2) >>= fun v2 => fromO (mulG other_.1 one_.2) >>= fun v3 => fromO (mulG one_.2 other_.2) >>= fun v4 => fromO (m_fraction (v2 + v3) v4))
noncomputable def m_minus (one_ : (Int × Int)) (other_ : (Int × Int)) : Option (Int × Int) :=
  (fromO (mulG one_.1 other_.2) >>= fun v2 => fromO (mulG other_.1 one_.2) >>= fun v3 => fromO (mulG one_.2 other_.2) >>= fun v4 => fromO (m_fraction (v2 - v3) v4))
noncomputable def m_times (one_ : (Int × Int)) (other_ : (Int × Int)) : Option (Int × Int) :=
  (fromO (mulG one_.1 other_.1) >>= fun v2 => fromO (mulG one_.2 other_.2) >>= fun v3 => fromO (m_fraction v2 v3))
noncomputable def m_parted (one_ : (Int × Int)) (other_ : (Int × Int)) : Option (Int × Int) :=
  (fromO (mulG one_.1 other_.2) >>= fun v2 => fromO (mulG one_.2 other_.1) >>= fun v3 => fromO (m_fraction v2 v3))
noncomputable def m_chances_of (odds_ : (List Int)) : Option (List (Int × Int)) :=
  (pure (List.sum odds_)) >>= fun whole_ =>
  (compL (fun own_ => pure true) (fun own_ => (fromO (m_fraction own_ whole_))) odds_)
noncomputable def m__law_add (one_ : (Int × Int)) (other_ : (Int × Int)) : Option (Int × Int) :=
  (fromO (mulG one_.1 other_.2) >>= fun v2 => fromO (mulG other_.1 one_.2) >>= fun v3 => fromO (mulG one_.2 other_.2) >>= fun v4 => fromO (m__law_frac (v2 + v3) v4))
noncomputable def m__law_less (one_ : (Int × Int)) (other_ : (Int × Int)) : Option (Int × Int) :=
  (fromO (mulG one_.1 other_.2) >>= fun v2 => fromO (mulG other_.1 one_.2) >>= fun v3 => fromO (mulG one_.2 other_.2) >>= fun v4 => fromO (m__law_frac (v2 - v3) v4))
noncomputable def m__law_mul (one_ : (Int × Int)) (other_ : (Int × Int)) : Option (Int × Int) :=
  (fromO (mulG one_.1 other_.1) >>= fun v2 => fromO (mulG one_.2 other_.2) >>= fun v3 => fromO (m__law_frac v2 v3))
noncomputable def m_total (fractions_ : (List (Int × Int))) : Option (Int × Int) :=
  (pure ((0 : Int), (1 : Int))) >>= fun found_ =>
  (pure fractions_) >>= fun xs => foldL (fun one_ d_ => (fromO (m_plus d_ one_)) >>= fun found_2 =>
  pure found_2) xs found_ >>= fun d_2 =>
  (pure d_2)
noncomputable def m_missed (sights_ : (List (Int × Int))) (plan_ : (List Int)) : Option (List (Int × Int)) :=
  (fromO (repLG [((1 : Int), (1 : Int))] (sights_.length : Int))) >>= fun found_ =>
  (pure plan_) >>= fun xs => foldL (fun k_ d_ => (fromO (L2.atI d_ k_) >>= fun v3 => fromO (L2.atI sights_ k_) >>= fun v5 => fromO (m_minus ((1 : Int), (1 : Int)) v5) >>= fun v4 => fromO (m_times v3 v4)) >>= fun a => (pure k_) >>= fun i => fromO (setG d_ i a) >>= fun found_2 =>
  pure found_2) xs found_ >>= fun d_2 =>
  (pure d_2)
noncomputable def m_order_of (odds_ : (List Int)) (costs_ : (List Int)) : Option ((Int × Int) × (List Int)) :=
  (fromO (m_chances_of odds_) >>= fun v1 => fromO (rangeG 0 (odds_.length : Int)) >>= fun v2 => pure (v1, v2, [])) >>= fun p_ =>
  whileM (fun d_ => (pure (!decide (d_.1 = [])))) (fun d_ => (fromO (L2.atI d_.1 (0 : Int))) >>= fun best_ =>
  (pure d_.1) >>= fun xs => foldL (fun k_ d_3 => (fromO (L2.atI p_.1 d_3) >>= fun v6 => fromO (L2.atI costs_ k_) >>= fun v7 => fromO (m_times v6 (v7, (1 : Int))) >>= fun v5 => fromO (L2.atI p_.1 k_) >>= fun v9 => fromO (L2.atI costs_ d_3) >>= fun v10 => fromO (m_times v9 (v10, (1 : Int))) >>= fun v8 => fromO (m_is_less v5 v8) >>= fun v4 => pure (if v4 = true then k_ else d_3)) >>= fun best_2 =>
  pure best_2) xs best_ >>= fun d_4 =>
  (compL (fun k_2 => (pure (!decide (k_2 = d_4)))) (fun k_2 => (pure k_2)) d_.1 >>= fun v11 => fromO (catG d_.2 [d_4]) >>= fun v12 => pure (v11, v12)) >>= fun p_2 =>
  pure (p_2.1, p_2.2)) (p_.2.1, p_.2.2) >>= fun d_2 =>
  (pure (((0 : Int), (1 : Int)), (0 : Int))) >>= fun p_3 =>
  (pure d_2.2) >>= fun xs => foldL (fun k_3 d_5 => (fromO (L2.atI costs_ k_3)) >>= fun a_ =>
  (fromO (L2.atI p_.1 k_3) >>= fun v16 => fromO (m_times v16 ((d_5.1 + a_), (1 : Int))) >>= fun v15 => fromO (m_plus d_5.2 v15)) >>= fun mean_ =>
  pure ((d_5.1 + a_), mean_)) xs (p_3.2, p_3.1) >>= fun d_6 =>
  (pure (d_6.2, d_2.2))
noncomputable def m__law_total (rows_ : (List (Int × Int))) : Option (Int × Int) :=
  (pure ((0 : Int), (1 : Int))) >>= fun found_ =>
  (pure rows_) >>= fun xs => foldL (fun one_ d_ => (fromO (m__law_add d_ one_)) >>= fun found_2 =>
  pure found_2) xs found_ >>= fun d_2 =>
  (pure d_2)
noncomputable def m__law_left (odds_ : (List Int)) (sights_ : (List (Int × Int))) (plan_ : (List Int)) : Option (List (Int × Int)) :=
  (compL (fun own_ => pure true) (fun own_ => (fromO (m__law_frac own_ (List.sum odds_)))) odds_) >>= fun found_ =>
  (pure plan_) >>= fun xs => foldL (fun k_ d_ => (fromO (L2.atI d_ k_) >>= fun v3 => fromO (L2.atI sights_ k_) >>= fun v5 => fromO (m__law_less ((1 : Int), (1 : Int)) v5) >>= fun v4 => fromO (m__law_mul v3 v4)) >>= fun a => (pure k_) >>= fun i => fromO (setG d_ i a) >>= fun found_2 =>
  pure found_2) xs found_ >>= fun d_2 =>
  (pure d_2)
noncomputable def m_still_there (odds_ : (List Int)) (sights_ : (List (Int × Int))) (plan_ : (List Int)) : Option (List (Int × Int)) :=
  (fromO (m_chances_of odds_) >>= fun v1 => fromO (m_missed sights_ plan_) >>= fun v2 => compL (fun p_ => pure true) (fun p_ => (fromO (m_times p_.1 p_.2))) (List.zip v1 v2))
noncomputable def m__law_chance (odds_ : (List Int)) (sights_ : (List (Int × Int))) (plan_ : (List Int)) : Option (Int × Int) :=
  (fromO (m__law_left odds_ sights_ plan_) >>= fun v3 => fromO (m__law_total v3) >>= fun v2 => fromO (m__law_less ((1 : Int), (1 : Int)) v2))
noncomputable def m__law_next_look (odds_ : (List Int)) (sights_ : (List (Int × Int))) (plan_ : (List Int)) : Option Int :=
  (fromO (m__law_left odds_ sights_ plan_) >>= fun v1 => pure (v1, none)) >>= fun p_ =>
  (fromO (rangeG 0 (odds_.length : Int))) >>= fun xs => foldL (fun k_ d_ => (fromO (L2.atI p_.1 k_) >>= fun v4 => fromO (L2.atI sights_ k_) >>= fun v5 => fromO (m__law_mul v4 v5)) >>= fun worth_ =>
  ((if (isNon ((eOpt (eT2 (eT2 eInt eInt) eInt)) d_)) = true then pure true else (fromO d_ >>= fun v7 => fromO (m__law_below v7.1 worth_))) >>= fun v8 => pure (if v8 = true then some (worth_, k_) else d_)) >>= fun best_ =>
  pure best_) xs p_.2 >>= fun d_2 =>
  (fromO d_2 >>= fun v9 => pure v9.2)
noncomputable def m_found_by (odds_ : (List Int)) (sights_ : (List (Int × Int))) (plan_ : (List Int)) : Option (Int × Int) :=
  (fromO (m_still_there odds_ sights_ plan_) >>= fun v3 => fromO (m_total v3) >>= fun v2 => fromO (m_minus ((1 : Int), (1 : Int)) v2))
noncomputable def m_left_odds (odds_ : (List Int)) (sights_ : (List (Int × Int))) (plan_ : (List Int)) : Option (Option (List (Int × Int))) :=
  (fromO (m_still_there odds_ sights_ plan_)) >>= fun told_ =>
  (fromO (m_total told_)) >>= fun whole_ =>
  ((if (decide ((0 : Int) < whole_.1)) = true then (compL (fun own_ => pure true) (fun own_ => (fromO (m_parted own_ whole_))) told_ >>= fun v4 => pure (some v4)) else (pure none)))
noncomputable def m_most_worth (odds_ : (List Int)) (sights_ : (List (Int × Int))) (plan_ : (List Int)) : Option Int :=
  (fromO (m_still_there odds_ sights_ plan_)) >>= fun told_ =>
  (fromO (rangeG 0 (told_.length : Int)) >>= fun v2 => compL (fun k_ => pure true) (fun k_ => (fromO (L2.atI told_ k_) >>= fun v4 => fromO (L2.atI sights_ k_) >>= fun v5 => fromO (m_times v4 v5))) v2) >>= fun worths_ =>
  (pure (0 : Int)) >>= fun best_ =>
  (fromO (rangeG 0 (worths_.length : Int))) >>= fun xs => foldL (fun k_2 d_ => (fromO (L2.atI worths_ d_) >>= fun v8 => fromO (L2.atI worths_ k_2) >>= fun v9 => fromO (m_is_less v8 v9) >>= fun v7 => pure (if v7 = true then k_2 else d_)) >>= fun best_2 =>
  pure best_2) xs best_ >>= fun d_2 =>
  (pure d_2)
noncomputable def m_best_start (odds_ : (List Int)) (sights_ : (List (Int × Int))) : Option Int :=
  (fromO (m_most_worth odds_ sights_ []))
noncomputable def m_best_plan (odds_ : (List Int)) (sights_ : (List (Int × Int))) (many_ : Int) : Option ((Int × Int) × (List Int)) :=
  (pure []) >>= fun plan_ =>
  (fromO (rangeG 0 many_)) >>= fun xs => foldL (fun __ d_ => (fromO (m_most_worth odds_ sights_ d_) >>= fun v2 => fromO (catG d_ [v2])) >>= fun plan_2 =>
  pure plan_2) xs plan_ >>= fun d_2 =>
  (fromO (m_found_by odds_ sights_ d_2) >>= fun v4 => pure (v4, d_2))
noncomputable def m_mean_looks (odds_ : (List Int)) (sights_ : (List (Int × Int))) (plan_ : (List Int)) : Option (Int × Int) :=
  (pure ((0 : Int), (1 : Int))) >>= fun found_ =>
  (fromO (rangeG 0 (plan_.length : Int))) >>= fun xs => foldL (fun k_ d_ => (fromO (m_found_by odds_ sights_ (cutA plan_ none (some k_))) >>= fun v4 => fromO (m_minus ((1 : Int), (1 : Int)) v4) >>= fun v3 => fromO (m_plus d_ v3)) >>= fun found_2 =>
  pure found_2) xs found_ >>= fun d_2 =>
  (pure d_2)
noncomputable def m_looks_for (odds_ : (List Int)) (sights_ : (List (Int × Int))) (least_ : (Int × Int)) : Option (Option Int) :=
  (fromO (rangeG 0 (41 : Int))) >>= fun xs => loopL (fun many_ d_ => (fromO (m_best_plan odds_ sights_ many_) >>= fun v3 => fromO (m_is_less v3.1 least_) >>= fun v2 => pure (!v2)) >>= fun b => if b = true then ((pure (some many_)) >>= fun r => pure (.rt r)) else
  pure (.nx ())) xs () >>= thenF fun d_2 =>
  (pure none)
noncomputable def m_lawb (script_ : List Int) : WM DW Bool :=
  (fromO (rangeG 0 (4 : Int))) >>= fun xs => loopL (fun turn_ d_ => (m__law_next (3 : Int) >>= fun v2 => pure ((1 : Int) + v2)) >>= fun many_ =>
  (fromO (rangeG 0 (many_ - (1 : Int))) >>= fun v3 => compL (fun k_ => pure true) (fun k_ => (m__law_next (5 : Int))) v3 >>= fun v5 => m__law_next (4 : Int) >>= fun v6 => fromO (catG v5 [((1 : Int) + v6)])) >>= fun odds_ =>
  (fromO (rangeG 0 many_) >>= fun v8 => compL (fun k_2 => pure true) (fun k_2 => (m__law_pick [((0 : Int), (1 : Int)), ((1 : Int), (3 : Int)), ((1 : Int), (2 : Int)), ((3 : Int), (4 : Int)), ((1 : Int), (1 : Int))])) v8) >>= fun sights_ =>
  (m__law_next (5 : Int) >>= fun v11 => fromO (rangeG 0 v11) >>= fun v12 => compL (fun k_3 => pure true) (fun k_3 => (m__law_next many_)) v12) >>= fun plan_ =>
  (fromO (m__law_chance odds_ sights_ plan_)) >>= fun chance_ =>
  (fromO (m_found_by odds_ sights_ plan_) >>= fun v16 => pure (!decide (v16 = chance_))) >>= fun b => if b = true then ((pure false) >>= fun r => pure (.rt r)) else
  (fromO (m__law_left odds_ sights_ plan_)) >>= fun told_ =>
  (fromO (m__law_total told_)) >>= fun whole_ =>
  ((if (decide ((0 : Int) < whole_.1)) = true then (compL (fun own_ => pure true) (fun own_ => (fromO (mulG own_.1 whole_.2) >>= fun v20 => fromO (mulG own_.2 whole_.1) >>= fun v21 => fromO (m__law_frac v20 v21))) told_ >>= fun v22 => pure (some v22)) else (pure none))) >>= fun due_ =>
  (fromO (m_left_odds odds_ sights_ plan_) >>= fun v24 => pure (!decide (v24 = due_))) >>= fun b => if b = true then ((pure false) >>= fun r => pure (.rt r)) else
  (pure ((0 : Int), (1 : Int))) >>= fun mean_ =>
  (fromO (rangeG 0 (plan_.length : Int))) >>= fun xs => foldL (fun k_4 d_3 => (fromO (m__law_chance odds_ sights_ (cutA plan_ none (some k_4))) >>= fun v28 => fromO (m__law_less ((1 : Int), (1 : Int)) v28) >>= fun v27 => fromO (m__law_add d_3 v27)) >>= fun mean_2 =>
  pure mean_2) xs mean_ >>= fun d_4 =>
  (fromO (m_mean_looks odds_ sights_ plan_) >>= fun v29 => pure (!decide (v29 = d_4))) >>= fun b => if b = true then ((pure false) >>= fun r => pure (.rt r)) else
  (m__law_next (5 : Int) >>= fun v30 => pure (v30, [], [[]])) >>= fun p_ =>
  (fromO (rangeG 0 p_.1)) >>= fun xs => foldL (fun k_5 d_5 => (fromO (m__law_next_look odds_ sights_ d_5.1) >>= fun v32 => fromO (catG d_5.1 [v32]) >>= fun v33 => pure (v33, [])) >>= fun p_2 =>
  (pure d_5.2) >>= fun xs => foldL (fun row_ d_7 => (fromO (rangeG 0 many_) >>= fun v34 => compL (fun n_ => pure true) (fun n_ => (fromO (catG row_ [n_]))) v34 >>= fun v36 => fromO (catG d_7 v36)) >>= fun longer_ =>
  pure longer_) xs p_2.2 >>= fun d_8 =>
  (pure d_8) >>= fun plans_ =>
  pure (p_2.1, plans_)) xs (p_.2.1, p_.2.2) >>= fun d_6 =>
  (fromO (m__law_chance odds_ sights_ d_6.1)) >>= fun top_ =>
  (fromO (m_best_plan odds_ sights_ p_.1) >>= fun v39 => (if (!decide (v39 = (top_, d_6.1))) = true then pure true else (compL (fun row_2 => (fromO (m__law_chance odds_ sights_ row_2) >>= fun v41 => fromO (m__law_below top_ v41))) (fun row_2 => (pure row_2)) d_6.2 >>= fun v42 => pure (!decide (v42 = []))))) >>= fun b => if b = true then ((pure false) >>= fun r => pure (.rt r)) else
  (fromO (m_best_start odds_ sights_) >>= fun v44 => fromO (m__law_next_look odds_ sights_ []) >>= fun v45 => pure (!decide (v44 = v45))) >>= fun b => if b = true then ((pure false) >>= fun r => pure (.rt r)) else
  (m__law_pick [((0 : Int), (1 : Int)), ((1 : Int), (3 : Int)), ((1 : Int), (2 : Int)), ((9 : Int), (10 : Int))] >>= fun v46 => pure (v46, [], none)) >>= fun p_3 =>
  (fromO (rangeG 0 (8 : Int))) >>= fun xs => foldL (fun k_6 d_9 => ((if (isNon ((eOpt eInt) d_9.1)) = true then (fromO (m__law_chance odds_ sights_ d_9.2) >>= fun v49 => fromO (m__law_below v49 p_3.1) >>= fun v48 => pure (!v48)) else pure false) >>= fun v50 => pure (if v50 = true then some k_6 else d_9.1)) >>= fun found_ =>
  (fromO (m__law_next_look odds_ sights_ d_9.2) >>= fun v51 => fromO (catG d_9.2 [v51])) >>= fun own_2 =>
  pure (found_, own_2)) xs (p_3.2.2, p_3.2.1) >>= fun d_10 =>
  (fromO (m_looks_for odds_ sights_ p_3.1)) >>= fun told_2 =>
  ((if ((!isNon ((eOpt eInt) d_10.1)) && (!decide (told_2 = d_10.1))) = true then pure true else ((if (isNon ((eOpt eInt) d_10.1)) = true then ((if (!isNon ((eOpt eInt) told_2)) = true then (fromO told_2 >>= fun v54 => pure (decide (v54 < (8 : Int)))) else pure false)) else pure false)))) >>= fun b => if b = true then ((pure false) >>= fun r => pure (.rt r)) else
  (fromO (rangeG 0 many_) >>= fun v58 => compL (fun k_7 => pure true) (fun k_7 => (m__law_next (6 : Int) >>= fun v59 => pure ((1 : Int) + v59))) v58 >>= fun v60 => pure (v60, none)) >>= fun p_4 =>
  (pure []) >>= fun means_ =>
  (fromO (rangeG 0 many_) >>= fun v62 => fromO (m__law_orders v62)) >>= fun xs => foldL (fun order_ d_11 => (pure ((0 : Int), ((0 : Int), (1 : Int)))) >>= fun p_5 =>
  (pure order_) >>= fun xs => foldL (fun k_8 d_13 => (fromO (L2.atI p_4.1 k_8)) >>= fun a_ =>
  (fromO (L2.atI odds_ k_8) >>= fun v66 => fromO (mulG v66 (d_13.1 + a_)) >>= fun v67 => fromO (m__law_frac v67 (List.sum odds_)) >>= fun v65 => fromO (m__law_add d_13.2 v65)) >>= fun mean_3 =>
  pure ((d_13.1 + a_), mean_3)) xs (p_5.1, p_5.2) >>= fun d_14 =>
  (pure d_14.2) >>= fun a => fromO (appG d_11.2.1 a) >>= fun means_2 =>
  (fromO (rangeG (1 : Int) many_) >>= fun v68 => compL (fun n_2 => (fromO (L2.atI order_ (n_2 - (1 : Int))) >>= fun v69 => fromO (L2.atI odds_ v69) >>= fun v70 => fromO (L2.atI order_ n_2) >>= fun v71 => fromO (L2.atI p_4.1 v71) >>= fun v72 => fromO (mulG v70 v72) >>= fun v73 => fromO (L2.atI order_ n_2) >>= fun v74 => fromO (L2.atI odds_ v74) >>= fun v75 => fromO (L2.atI order_ (n_2 - (1 : Int))) >>= fun v76 => fromO (L2.atI p_4.1 v76) >>= fun v77 => fromO (mulG v75 v77) >>= fun v78 => pure (decide (v73 < v78)))) (fun n_2 => (pure n_2)) v68) >>= fun falls_ =>
  (fromO (rangeG (1 : Int) many_) >>= fun v79 => compL (fun n_3 => (fromO (L2.atI order_ (n_3 - (1 : Int))) >>= fun v80 => fromO (L2.atI odds_ v80) >>= fun v81 => fromO (L2.atI order_ n_3) >>= fun v82 => fromO (L2.atI p_4.1 v82) >>= fun v83 => fromO (mulG v81 v83) >>= fun v84 => fromO (L2.atI order_ n_3) >>= fun v85 => fromO (L2.atI odds_ v85) >>= fun v86 => fromO (L2.atI order_ (n_3 - (1 : Int))) >>= fun v87 => fromO (L2.atI p_4.1 v87) >>= fun v88 => fromO (mulG v86 v88) >>= fun v89 => (if (decide (v84 = v89)) = true then (fromO (L2.atI order_ (n_3 - (1 : Int))) >>= fun v90 => fromO (L2.atI order_ n_3) >>= fun v91 => pure (decide (v91 < v90))) else pure false))) (fun n_3 => (pure n_3)) v79) >>= fun even_ =>
  (pure (if ((decide (falls_ = [])) && (decide (even_ = []))) = true then some (d_14.2, order_) else d_11.2.2)) >>= fun best_ =>
  pure (d_14.2, means_2, best_)) xs (d_4, means_, p_4.2) >>= fun d_12 =>
  (fromO (m_order_of odds_ p_4.1) >>= fun v93 => (if (!decide (some v93 = d_12.2.2)) = true then pure true else (compL (fun mean_4 => (fromO d_12.2.2 >>= fun v95 => fromO (m__law_below mean_4 v95.1))) (fun mean_4 => (pure mean_4)) d_12.2.1 >>= fun v96 => pure (!decide (v96 = []))))) >>= fun b => if b = true then ((pure false) >>= fun r => pure (.rt r)) else
  pure (.nx ())) xs () >>= thenF fun d_2 =>
  (pure true)
noncomputable def m_law (script_ : List Int) : Option Bool := m__law_draws script_ 300 >>= fun ds => ((m_lawb script_).run (ds, 0)).map (·.1)
/-! ### the walk -/
section
variable {P : Program} {w : World} {K : PySem.W.Frag} {mg : Str → Option Value} {base : Heap}
theorem bd_common (T : Tp K mg) (cdv : Value) (A : Around) (outer : List Env) (s : Shared) (H : Hp) (E : XK) (hr : Room 0 (A.deeper (envOfC "common" (defScope (topS 1)) s.heap.objs.size T.f0 cdv))) (a_ : Int) (b_ : Int) : SF (cx0 P w K mg base N0 "common" (topS 1) T.f0 cdv A outer s H E) (m := Option) wd0 W0 H [some (.frz (eInt a_)), some (.frz (eInt b_))] (defBody (topS 1)) eInt (m_common a_ b_) :=
  have nd := sc0.nd
  (SL.atR (R' := [some (.frz (eInt a_)), some (.frz (eInt b_))]) (SL.asc (sl_whP (Rl := fun d : Int × Int => [some (.frz (eInt d.1)), some (.frz (eInt d.2))]) (d0 := (a_, b_)) PassesOwn.never (subC (subC subE)) (fun d_ => (ST.eq (SC.t (sc_neT eq_int (by decide) hr.units (SX.b (se_var (ea := eInt) (d := d_.2) (i := 1) rfl (.inl rfl) rfl rfl rfl)) (SX.b se_int)) rfl) (by first | with_reducible rfl | (simp only [pure_bind, bind_assoc, bind_pure, tt_if, bif_and, bif_or]; done) | (simp only [pure_bind, bind_assoc, bind_pure, tt_if, bif_and, bif_or]; with_reducible rfl) | (simp only [pure_bind, bind_assoc, bind_pure, tt_if, bif_and, bif_or]; rfl) | rfl))) (fun d_ => (SL.atR (R' := [some (.frz (eInt d_.1)), some (.frz (eInt d_.2))]) (SL.asc (sl_par2 (i := 0) (j := 1) rfl nd rfl rfl (by decide) rfl rfl (ltAll 2 rfl rfl) (SM.eq (sm_consF (se_var (ea := eInt) (d := d_.2) (i := 1) rfl (.inl rfl) rfl rfl rfl) (sm_oneF (se_mod (SX.b (se_var (ea := eInt) (d := d_.1) (i := 0) rfl (.inl rfl) rfl rfl rfl)) (SX.b (se_var (ea := eInt) (d := d_.2) (i := 1) rfl (.inl rfl) rfl rfl rfl))))) (by first | with_reducible rfl | (simp only [pure_bind, bind_assoc, bind_pure, tt_if, bif_and, bif_or]; done) | (simp only [pure_bind, bind_assoc, bind_pure, tt_if, bif_and, bif_or]; with_reducible rfl) | (simp only [pure_bind, bind_assoc, bind_pure, tt_if, bif_and, bif_or]; rfl) | rfl)) (fun _ => rfl) (fun p_ => (sp_nil (p_.1, p_.2) (subC (subC subE)))) rfl rfl)) rfl)) (fun d_2 => (SL.atR (R' := [some (.frz (eInt d_2.1)), some (.frz (eInt d_2.2))]) (sf_ret (SX.eq (se_absI rfl T.z_abs (SX.b (se_var (ea := eInt) (d := d_2.1) (i := 0) rfl (.inl rfl) rfl rfl rfl))) (by first | with_reducible rfl | (simp only [pure_bind, bind_assoc, bind_pure, tt_if, bif_and, bif_or]; done) | (simp only [pure_bind, bind_assoc, bind_pure, tt_if, bif_and, bif_or]; with_reducible rfl) | (simp only [pure_bind, bind_assoc, bind_pure, tt_if, bif_and, bif_or]; rfl) | rfl))) rfl)))) rfl)
theorem ok_common (T : Tp K mg) : FnOk P w K mg base CX0 1 T.f0 T.d0 p0 (spP K w (fun g : Int × Int => [eInt g.1, eInt g.2]) eInt (fun g => m_common g.1 g.2)) :=
  fn_pure T.F0 sc0 (fun _ => rfl) (by decide) fun cdv A outer s H E hr g => bd_common T cdv A outer s H E hr g.1 g.2
theorem bd_is_less (T : Tp K mg) (cdv : Value) (A : Around) (outer : List Env) (s : Shared) (H : Hp) (E : XK) (hr : Room 0 (A.deeper (envOfC "is_less" (defScope (topS 7)) s.heap.objs.size T.f1 cdv))) (one_ : (Int × Int)) (other_ : (Int × Int)) : SF (cx0 P w K mg base N1 "is_less" (topS 7) T.f1 cdv A outer s H E) (m := Option) wd0 W0 H [some (.frz ((eT2 eInt eInt) one_)), some (.frz ((eT2 eInt eInt) other_))] (defBody (topS 7)) eBool (m_is_less one_ other_) :=
  have nd := sc1.nd
  (SL.atR (R' := [some (.frz ((eT2 eInt eInt) one_)), some (.frz ((eT2 eInt eInt) other_))]) (sf_ret (SX.eq (SC.e (sc_lt (SX.b (se_mul (SX.b (se_ixCI (ea := (eT2 eInt eInt)) (ec := eInt) (i := 0) (f := fun p => p.1) (SX.b (se_var (ea := (eT2 eInt eInt)) (d := one_) (i := 0) rfl (.inl rfl) rfl rfl rfl)) (SX.b se_int) (fun _ _ => rfl) (fun p => ⟨_, rfl, rfl⟩))) (SX.b (se_ixCI (ea := (eT2 eInt eInt)) (ec := eInt) (i := 1) (f := fun p => p.2) (SX.b (se_var (ea := (eT2 eInt eInt)) (d := other_) (i := 1) rfl (.inl rfl) rfl rfl rfl)) (SX.b se_int) (fun _ _ => rfl) (fun p => ⟨_, rfl, rfl⟩))))) (SX.b (se_mul (SX.b (se_ixCI (ea := (eT2 eInt eInt)) (ec := eInt) (i := 0) (f := fun p => p.1) (SX.b (se_var (ea := (eT2 eInt eInt)) (d := other_) (i := 1) rfl (.inl rfl) rfl rfl rfl)) (SX.b se_int) (fun _ _ => rfl) (fun p => ⟨_, rfl, rfl⟩))) (SX.b (se_ixCI (ea := (eT2 eInt eInt)) (ec := eInt) (i := 1) (f := fun p => p.2) (SX.b (se_var (ea := (eT2 eInt eInt)) (d := one_) (i := 0) rfl (.inl rfl) rfl rfl rfl)) (SX.b se_int) (fun _ _ => rfl) (fun p => ⟨_, rfl, rfl⟩)))))) rfl) (by first | with_reducible rfl | (simp only [pure_bind, bind_assoc, bind_pure, tt_if, bif_and, bif_or]; done) | (simp only [pure_bind, bind_assoc, bind_pure, tt_if, bif_and, bif_or]; with_reducible rfl) | (simp only [pure_bind, bind_assoc, bind_pure, tt_if, bif_and, bif_or]; rfl) | rfl))) rfl)
theorem ok_is_less (T : Tp K mg) : FnOk P w K mg base CX0 1 T.f1 T.d1 p1 (spP K w (fun g : (Int × Int) × (Int × Int) => [(eT2 eInt eInt) g.1, (eT2 eInt eInt) g.2]) eBool (fun g => m_is_less g.1 g.2)) :=
  fn_pure T.F1 sc1 (fun _ => rfl) (by decide) fun cdv A outer s H E hr g => bd_is_less T cdv A outer s H E hr g.1 g.2
theorem bd__law_draws (T : Tp K mg) (cdv : Value) (A : Around) (outer : List Env) (s : Shared) (H : Hp) (E : XK) (hr : Room 0 (A.deeper (envOfC "_law_draws" (defScope (topS 24)) s.heap.objs.size T.f2 cdv))) (script_ : List Int) (many_ : Int) : SF (cx0 P w K mg base N2 "_law_draws" (topS 24) T.f2 cdv A outer s H E) (m := Option) wd0 W0 H [some (.scr script_), some (.frz (eInt many_)), none, none, none, none, none, none] (defBody (topS 24)) (eLst eInt) (m__law_draws script_ many_) :=
  have nd := sc2.nd
  (SL.atR (R' := [some (.scr script_), some (.frz (eInt many_)), none, none, none, none, none, none]) (SL.asc (sl_setO (i := 2) (ea := eInt) nd rfl (.inl rfl) (ltR 8 rfl rfl) (so_nil (ea := eInt)) (fun draws_ => (SL.atR (R' := [some (.scr script_), some (.frz (eInt many_)), some (.own (List.map eInt draws_)), none, none, none, none, none]) (SL.asc (sl_set (i := 3) (ea := eInt) nd rfl (.inl rfl) (ltR 8 rfl rfl) se_int (fun mixed_ => (SL.atR (R' := [some (.scr script_), some (.frz (eInt many_)), some (.own (List.map eInt draws_)), some (.frz (eInt mixed_)), none, none, none, none]) (SL.asc2 (sl_forP (Rl := fun d : Int × (List Int) => [some (.scr script_), some (.frz (eInt many_)), some (.own (List.map eInt d.2)), some (.frz (eInt d.1)), none, none, none, none]) (d0 := (mixed_, draws_)) (g := (gName 4)) (is := [4]) (dts := (fun a => [eInt a])) PassesOwn.never rfl (SI.eq (si_range1 rfl T.z_range (SX.b (se_lenScr (i := 0) rfl T.z_len rfl (.inl rfl) rfl rfl rfl rfl))) (by first | with_reducible rfl | (simp only [pure_bind, bind_assoc, bind_pure, tt_if, bif_and, bif_or]; done) | (simp only [pure_bind, bind_assoc, bind_pure, tt_if, bif_and, bif_or]; with_reducible rfl) | (simp only [pure_bind, bind_assoc, bind_pure, tt_if, bif_and, bif_or]; rfl) | rfl)) (pg_name (i := 4) nd rfl (.inl rfl)) g_name (subC (subC (subC (subC (subN (subN (subN (subN subE)))))))) (fun _ => ltAll 8 rfl rfl) (fun k_ d_ => (SL.atR (R' := [some (.scr script_), some (.frz (eInt many_)), some (.own (List.map eInt d_.2)), some (.frz (eInt d_.1)), some (.frz (eInt k_)), none, none, none]) (SL.asc (sl_set (i := 5) (ea := eInt) nd rfl (.inl rfl) (ltR 8 rfl rfl) (SX.eq (se_absI rfl T.z_abs (SX.b (se_int1 rfl T.z_int (SX.b (se_ixScr (i := 0) rfl (.inl rfl) rfl rfl rfl (SX.b (se_var (ea := eInt) (d := k_) (i := 4) rfl (.inl rfl) rfl rfl rfl)) (fun _ _ => rfl)))))) (by first | with_reducible rfl | (simp only [pure_bind, bind_assoc, bind_pure, tt_if, bif_and, bif_or]; done) | (simp only [pure_bind, bind_assoc, bind_pure, tt_if, bif_and, bif_or]; with_reducible rfl) | (simp only [pure_bind, bind_assoc, bind_pure, tt_if, bif_and, bif_or]; rfl) | rfl)) (fun cell_ => (SL.atR (R' := [some (.scr script_), some (.frz (eInt many_)), some (.own (List.map eInt d_.2)), some (.frz (eInt d_.1)), some (.frz (eInt k_)), some (.frz (eInt cell_)), none, none]) (SL.asc (sl_set (i := 3) (ea := eInt) nd rfl (.inl rfl) (ltR 8 rfl rfl) (SX.eq (se_mod (SX.b (se_int1 rfl T.z_int (SX.b (se_add (SX.b (se_add (SX.b (se_mul (SX.b (se_var (ea := eInt) (d := d_.1) (i := 3) rfl (.inl rfl) rfl rfl rfl)) (SX.b se_int))) (SX.b (se_mod (SX.b (se_var (ea := eInt) (d := cell_) (i := 5) rfl (.inl rfl) rfl rfl rfl)) (SX.b se_int))))) (SX.b (se_var (ea := eInt) (d := k_) (i := 4) rfl (.inl rfl) rfl rfl rfl)))))) (SX.b se_int)) (by first | with_reducible rfl | (simp only [pure_bind, bind_assoc, bind_pure, tt_if, bif_and, bif_or]; done) | (simp only [pure_bind, bind_assoc, bind_pure, tt_if, bif_and, bif_or]; with_reducible rfl) | (simp only [pure_bind, bind_assoc, bind_pure, tt_if, bif_and, bif_or]; rfl) | rfl)) (fun mixed_2 => (SL.atR (R' := [some (.scr script_), some (.frz (eInt many_)), some (.own (List.map eInt d_.2)), some (.frz (eInt mixed_2)), some (.frz (eInt k_)), some (.frz (eInt cell_)), none, none]) (SL.asc (sl_set (i := 6) (ea := eInt) nd rfl (.inl rfl) (ltR 8 rfl rfl) se_int (fun rest_ => (SL.atR (R' := [some (.scr script_), some (.frz (eInt many_)), some (.own (List.map eInt d_.2)), some (.frz (eInt mixed_2)), some (.frz (eInt k_)), some (.frz (eInt cell_)), some (.frz (eInt rest_)), none]) (SL.asc2 (sl_ifP (Rn := fun d : Int × (List Int) => [some (.scr script_), some (.frz (eInt many_)), some (.own (List.map eInt d.2)), some (.frz (eInt mixed_2)), some (.frz (eInt k_)), some (.frz (eInt cell_)), some (.frz (eInt d.1)), none]) (ST.eq (SC.t (sc_ge (SX.b (se_var (ea := eInt) (d := cell_) (i := 5) rfl (.inl rfl) rfl rfl rfl)) (SX.b (se_pow (SX.b se_int) (SX.b se_int)))) rfl) (by first | with_reducible rfl | (simp only [pure_bind, bind_assoc, bind_pure, tt_if, bif_and, bif_or]; done) | (simp only [pure_bind, bind_assoc, bind_pure, tt_if, bif_and, bif_or]; with_reducible rfl) | (simp only [pure_bind, bind_assoc, bind_pure, tt_if, bif_and, bif_or]; rfl) | rfl)) (SL.atR (R' := [some (.scr script_), some (.frz (eInt many_)), some (.own (List.map eInt d_.2)), some (.frz (eInt mixed_2)), some (.frz (eInt k_)), some (.frz (eInt cell_)), some (.frz (eInt rest_)), none]) (SL.asc (sl_set (i := 6) (ea := eInt) nd rfl (.inl rfl) (ltR 8 rfl rfl) (se_var (ea := eInt) (d := cell_) (i := 5) rfl (.inl rfl) rfl rfl rfl) (fun rest_2 => (sp_nil (rest_2, d_.2) (subC (subC (subC (subC (subC (subC (subC (subN subE)))))))))) rfl (.inr rfl))) rfl) (SL.atR (R' := [some (.scr script_), some (.frz (eInt many_)), some (.own (List.map eInt d_.2)), some (.frz (eInt mixed_2)), some (.frz (eInt k_)), some (.frz (eInt cell_)), some (.frz (eInt rest_)), none]) (SL.asc2 (sl_append (i := 2) (ea := eInt) (xs := d_.2) rfl (.inl rfl) rfl rfl rfl (SX.eq (se_mod (SX.b (se_int1 rfl T.z_int (SX.b (se_var (ea := eInt) (d := cell_) (i := 5) rfl (.inl rfl) rfl rfl rfl)))) (SX.b se_int)) (by first | with_reducible rfl | (simp only [pure_bind, bind_assoc, bind_pure, tt_if, bif_and, bif_or]; done) | (simp only [pure_bind, bind_assoc, bind_pure, tt_if, bif_and, bif_or]; with_reducible rfl) | (simp only [pure_bind, bind_assoc, bind_pure, tt_if, bif_and, bif_or]; rfl) | rfl)) (fun draws_2 => (SL.atR (R' := [some (.scr script_), some (.frz (eInt many_)), some (.own (List.map eInt draws_2)), some (.frz (eInt mixed_2)), some (.frz (eInt k_)), some (.frz (eInt cell_)), some (.frz (eInt rest_)), none]) (SL.asc2 (sl_append (i := 2) (ea := eInt) (xs := draws_2) rfl (.inl rfl) rfl rfl rfl (SX.eq (se_mod (SX.b (se_mod (SX.b (se_int1 rfl T.z_int (SX.b (se_add (SX.b (se_mul (SX.b (se_var (ea := eInt) (d := mixed_2) (i := 3) rfl (.inl rfl) rfl rfl rfl)) (SX.b se_int))) (SX.b se_int))))) (SX.b se_int))) (SX.b se_int)) (by first | with_reducible rfl | (simp only [pure_bind, bind_assoc, bind_pure, tt_if, bif_and, bif_or]; done) | (simp only [pure_bind, bind_assoc, bind_pure, tt_if, bif_and, bif_or]; with_reducible rfl) | (simp only [pure_bind, bind_assoc, bind_pure, tt_if, bif_and, bif_or]; rfl) | rfl)) (fun draws_3 => (sp_nil (rest_, draws_3) (subC (subC (subC (subC (subC (subC (subC (subN subE)))))))))) rfl rfl rfl rfl rfl)) rfl)) rfl rfl rfl rfl rfl)) rfl) (fun d_3 => (SL.atR (R' := [some (.scr script_), some (.frz (eInt many_)), some (.own (List.map eInt d_3.2)), some (.frz (eInt mixed_2)), some (.frz (eInt k_)), some (.frz (eInt cell_)), some (.frz (eInt d_3.1)), none]) (SL.asc2 (sl_forP (Rl := fun d : (List Int) × Int => [some (.scr script_), some (.frz (eInt many_)), some (.own (List.map eInt d.1)), some (.frz (eInt mixed_2)), some (.frz (eInt k_)), some (.frz (eInt cell_)), some (.frz (eInt d.2)), none]) (d0 := (d_3.2, d_3.1)) (g := (gName 7)) (is := [7]) (dts := (fun a => [eInt a])) PassesOwn.never rfl (SI.eq (si_range1 rfl T.z_range (SX.b se_int)) (by first | with_reducible rfl | (simp only [pure_bind, bind_assoc, bind_pure, tt_if, bif_and, bif_or]; done) | (simp only [pure_bind, bind_assoc, bind_pure, tt_if, bif_and, bif_or]; with_reducible rfl) | (simp only [pure_bind, bind_assoc, bind_pure, tt_if, bif_and, bif_or]; rfl) | rfl)) (pg_name (i := 7) nd rfl (.inl rfl)) g_name (subC (subC (subC (subC (subC (subC (subC (subN subE)))))))) (fun _ => ltAll 8 rfl rfl) (fun turn_ d_4 => (SL.atR (R' := [some (.scr script_), some (.frz (eInt many_)), some (.own (List.map eInt d_4.1)), some (.frz (eInt mixed_2)), some (.frz (eInt k_)), some (.frz (eInt cell_)), some (.frz (eInt d_4.2)), some (.frz (eInt turn_))]) (SL.asc2 (sl_ifP (Rn := fun d : (List Int) × Int => [some (.scr script_), some (.frz (eInt many_)), some (.own (List.map eInt d.1)), some (.frz (eInt mixed_2)), some (.frz (eInt k_)), some (.frz (eInt cell_)), some (.frz (eInt d.2)), some (.frz (eInt turn_))]) (ST.eq (SC.t (sc_gt (SX.b (se_var (ea := eInt) (d := d_4.2) (i := 6) rfl (.inl rfl) rfl rfl rfl)) (SX.b se_int)) rfl) (by first | with_reducible rfl | (simp only [pure_bind, bind_assoc, bind_pure, tt_if, bif_and, bif_or]; done) | (simp only [pure_bind, bind_assoc, bind_pure, tt_if, bif_and, bif_or]; with_reducible rfl) | (simp only [pure_bind, bind_assoc, bind_pure, tt_if, bif_and, bif_or]; rfl) | rfl)) (SL.atR (R' := [some (.scr script_), some (.frz (eInt many_)), some (.own (List.map eInt d_4.1)), some (.frz (eInt mixed_2)), some (.frz (eInt k_)), some (.frz (eInt cell_)), some (.frz (eInt d_4.2)), some (.frz (eInt turn_))]) (SL.asc2 (sl_append (i := 2) (ea := eInt) (xs := d_4.1) rfl (.inl rfl) rfl rfl rfl (SX.eq (se_mod (SX.b (se_int1 rfl T.z_int (SX.b (se_var (ea := eInt) (d := d_4.2) (i := 6) rfl (.inl rfl) rfl rfl rfl)))) (SX.b se_int)) (by first | with_reducible rfl | (simp only [pure_bind, bind_assoc, bind_pure, tt_if, bif_and, bif_or]; done) | (simp only [pure_bind, bind_assoc, bind_pure, tt_if, bif_and, bif_or]; with_reducible rfl) | (simp only [pure_bind, bind_assoc, bind_pure, tt_if, bif_and, bif_or]; rfl) | rfl)) (fun draws_4 => (SL.atR (R' := [some (.scr script_), some (.frz (eInt many_)), some (.own (List.map eInt draws_4)), some (.frz (eInt mixed_2)), some (.frz (eInt k_)), some (.frz (eInt cell_)), some (.frz (eInt d_4.2)), some (.frz (eInt turn_))]) (SL.asc (sl_set (i := 6) (ea := eInt) nd rfl (.inl rfl) (ltR 8 rfl rfl) (SX.eq (se_fdiv (SX.b (se_var (ea := eInt) (d := d_4.2) (i := 6) rfl (.inl rfl) rfl rfl rfl)) (SX.b se_int)) (by first | with_reducible rfl | (simp only [pure_bind, bind_assoc, bind_pure, tt_if, bif_and, bif_or]; done) | (simp only [pure_bind, bind_assoc, bind_pure, tt_if, bif_and, bif_or]; with_reducible rfl) | (simp only [pure_bind, bind_assoc, bind_pure, tt_if, bif_and, bif_or]; rfl) | rfl)) (fun rest_3 => (sp_nil (draws_4, rest_3) (subC (subC (subC (subC (subC (subC (subC (subC subE)))))))))) rfl (.inr rfl))) rfl)) rfl rfl rfl rfl rfl)) rfl) (sp_nil (d_4.1, d_4.2) (subC (subC (subC (subC (subC (subC (subC (subC subE))))))))) (fun d_6 => (sp_nil (d_6.1, d_6.2) (subC (subC (subC (subC (subC (subC (subC (subN subE)))))))))))) rfl)) (fun d_5 => (sp_nil (mixed_2, d_5.1) (subC (subC (subC (subC (subN (subN (subN (subN subE)))))))))) (fun _ => rfl))) rfl)))) rfl)) rfl (.inr rfl))) rfl)) rfl (.inr rfl))) rfl)) rfl (.inr rfl))) rfl)) (fun d_2 => (SL.atR (R' := [some (.scr script_), some (.frz (eInt many_)), some (.own (List.map eInt d_2.2)), some (.frz (eInt d_2.1)), none, none, none, none]) (SL.asc2 (sl_forP (Rl := fun d : Int × (List Int) => [some (.scr script_), some (.frz (eInt many_)), some (.own (List.map eInt d.2)), some (.frz (eInt d.1)), none, none, none, none]) (d0 := (d_2.1, d_2.2)) (g := (gName 4)) (is := [4]) (dts := (fun a => [eInt a])) PassesOwn.never rfl (SI.eq (si_range1 rfl T.z_range (SX.b (se_var (ea := eInt) (d := many_) (i := 1) rfl (.inl rfl) rfl rfl rfl))) (by first | with_reducible rfl | (simp only [pure_bind, bind_assoc, bind_pure, tt_if, bif_and, bif_or]; done) | (simp only [pure_bind, bind_assoc, bind_pure, tt_if, bif_and, bif_or]; with_reducible rfl) | (simp only [pure_bind, bind_assoc, bind_pure, tt_if, bif_and, bif_or]; rfl) | rfl)) (pg_name (i := 4) nd rfl (.inl rfl)) g_name (subC (subC (subC (subC (subN (subN (subN (subN subE)))))))) (fun _ => ltAll 8 rfl rfl) (fun k_2 d_7 => (SL.atR (R' := [some (.scr script_), some (.frz (eInt many_)), some (.own (List.map eInt d_7.2)), some (.frz (eInt d_7.1)), some (.frz (eInt k_2)), none, none, none]) (SL.asc (sl_set (i := 3) (ea := eInt) nd rfl (.inl rfl) (ltR 8 rfl rfl) (SX.eq (se_mod (SX.b (se_int1 rfl T.z_int (SX.b (se_add (SX.b (se_add (SX.b (se_mul (SX.b (se_var (ea := eInt) (d := d_7.1) (i := 3) rfl (.inl rfl) rfl rfl rfl)) (SX.b se_int))) (SX.b (se_var (ea := eInt) (d := k_2) (i := 4) rfl (.inl rfl) rfl rfl rfl)))) (SX.b se_int))))) (SX.b se_int)) (by first | with_reducible rfl | (simp only [pure_bind, bind_assoc, bind_pure, tt_if, bif_and, bif_or]; done) | (simp only [pure_bind, bind_assoc, bind_pure, tt_if, bif_and, bif_or]; with_reducible rfl) | (simp only [pure_bind, bind_assoc, bind_pure, tt_if, bif_and, bif_or]; rfl) | rfl)) (fun mixed_3 => (SL.atR (R' := [some (.scr script_), some (.frz (eInt many_)), some (.own (List.map eInt d_7.2)), some (.frz (eInt mixed_3)), some (.frz (eInt k_2)), none, none, none]) (SL.asc2 (sl_append (i := 2) (ea := eInt) (xs := d_7.2) rfl (.inl rfl) rfl rfl rfl (SX.eq (se_mod (SX.b (se_int1 rfl T.z_int (SX.b (se_var (ea := eInt) (d := mixed_3) (i := 3) rfl (.inl rfl) rfl rfl rfl)))) (SX.b se_int)) (by first | with_reducible rfl | (simp only [pure_bind, bind_assoc, bind_pure, tt_if, bif_and, bif_or]; done) | (simp only [pure_bind, bind_assoc, bind_pure, tt_if, bif_and, bif_or]; with_reducible rfl) | (simp only [pure_bind, bind_assoc, bind_pure, tt_if, bif_and, bif_or]; rfl) | rfl)) (fun draws_5 => (sp_nil (mixed_3, draws_5) (subC (subC (subC (subC (subN (subN (subN (subN subE)))))))))) rfl rfl rfl rfl rfl)) rfl)) rfl (.inr rfl))) rfl)) (fun d_8 => (SL.atR (R' := [some (.scr script_), some (.frz (eInt many_)), some (.own (List.map eInt d_8.2)), some (.frz (eInt d_8.1)), none, none, none, none]) (sf_ret (SX.eq (SX.f (so_sliceL (sb_own (ea := eInt) (d := d_8.2) (i := 2) rfl (.inl rfl) rfl rfl rfl) sq_none (sq_some (se_var (ea := eInt) (d := many_) (i := 1) rfl (.inl rfl) rfl rfl rfl)))) (by first | with_reducible rfl | (simp only [pure_bind, bind_assoc, bind_pure, tt_if, bif_and, bif_or]; done) | (simp only [pure_bind, bind_assoc, bind_pure, tt_if, bif_and, bif_or]; with_reducible rfl) | (simp only [pure_bind, bind_assoc, bind_pure, tt_if, bif_and, bif_or]; rfl) | rfl))) rfl)) (fun _ => rfl))) rfl)) (fun _ => rfl))) rfl)) rfl (.inr rfl))) rfl)) rfl (.inr rfl))) rfl)
theorem ok__law_draws (T : Tp K mg) : FnOk P w K mg base CX0 1 T.f2 T.d2 p2 (spScr K w (eLst eInt) m__law_draws) :=
  fn_scr T.F2 sc2 rfl (by decide) fun cdv A outer s H E hr ns n => bd__law_draws T cdv A outer s H E hr ns n
theorem bd__law_next (T : Tp K mg) (cdv : Value) (A : Around) (outer : List Env) (s : Shared) (H : Hp) (E : XK) (aw : Addr) (hr : Room 0 (A.deeper (envOfC "_law_next" (defScope (topS 25)) s.heap.objs.size T.f3 cdv))) (many_ : Int) : SF (cx0 P w K mg base N3 "_law_next" (topS 25) T.f3 cdv A outer s H E) (m := WM DW) (drawsW aw) W0 H [some (.adr aw), some (.frz (eInt many_))] (defBody (topS 25)) eInt (m__law_next many_) :=
  have nd := sc3.nd
  have huw : _ := Nat.lt_of_le_of_lt (Nat.add_le_add_left (by decide : 1 ≤ 64) _) hr.units
  (SL.atR (R' := [some (.adr aw), some (.frz (eInt many_))]) (SL.asc (sl_wInc (i := 0) huw rfl (.inl rfl) rfl rfl rfl (SL.atR (R' := [some (.adr aw), some (.frz (eInt many_))]) (sf_ifR (ST.eq (SC.t (sc_gt (SX.b (se_wAt (i := 0) huw rfl (.inl rfl) rfl rfl rfl)) (SX.b (se_lenL (ea := eInt) rfl T.z_len (SX.b (se_wDraws (i := 0) huw rfl (.inl rfl) rfl rfl rfl))))) rfl) (by first | with_reducible rfl | (simp only [pure_bind, bind_assoc, bind_pure, tt_if, bif_and, bif_or]; done) | (simp only [pure_bind, bind_assoc, bind_pure, tt_if, bif_and, bif_or]; with_reducible rfl) | (simp only [pure_bind, bind_assoc, bind_pure, tt_if, bif_and, bif_or]; rfl) | rfl)) (SL.atR (R' := [some (.adr aw), some (.frz (eInt many_))]) (sf_ret se_int) rfl) (SL.atR (R' := [some (.adr aw), some (.frz (eInt many_))]) (sf_ret (SX.eq (se_mod (SX.b (se_int1 rfl T.z_int (SX.b (se_ixL (ea := eInt) (SX.b (se_wDraws (i := 0) huw rfl (.inl rfl) rfl rfl rfl)) (SX.b (se_sub (SX.b (se_wAt (i := 0) huw rfl (.inl rfl) rfl rfl rfl)) (SX.b se_int))) (fun _ _ => rfl))))) (SX.b (se_var (ea := eInt) (d := many_) (i := 1) rfl (.inl rfl) rfl rfl rfl))) (by first | with_reducible rfl | (simp only [pure_bind, bind_assoc, bind_pure, tt_if, bif_and, bif_or]; done) | (simp only [pure_bind, bind_assoc, bind_pure, tt_if, bif_and, bif_or]; with_reducible rfl) | (simp only [pure_bind, bind_assoc, bind_pure, tt_if, bif_and, bif_or]; rfl) | rfl))) rfl)) rfl))) rfl)
theorem ok__law_next (T : Tp K mg) : FnOk P w K mg base CX0 1 T.f3 T.d3 p3 (spW K w drawsW (fun g : Int => [eInt g]) eInt (fun g => m__law_next g)) :=
  fn_world T.F3 sc3 (fun _ => rfl) (by decide) fun cdv A outer s H E aw hr g => bd__law_next T cdv A outer s H E aw hr g
theorem bd__law_common (T : Tp K mg) (cdv : Value) (A : Around) (outer : List Env) (s : Shared) (H : Hp) (E : XK) (hr : Room 0 (A.deeper (envOfC "_law_common" (defScope (topS 27)) s.heap.objs.size T.f4 cdv))) (a_ : Int) (b_ : Int) : SF (cx0 P w K mg base N4 "_law_common" (topS 27) T.f4 cdv A outer s H E) (m := Option) wd0 W0 H [some (.frz (eInt a_)), some (.frz (eInt b_)), none] (defBody (topS 27)) eInt (m__law_common a_ b_) :=
  have nd := sc4.nd
  (SL.atR (R' := [some (.frz (eInt a_)), some (.frz (eInt b_)), none]) (sf_forG (Rl := fun d : Int × Int => [some (.frz (eInt d.1)), some (.frz (eInt d.2)), none]) (d0 := (a_, b_)) (g := (gName 2)) (is := [2]) (dts := (fun a => [eInt a])) PassesOwn.never rfl (SI.eq (si_range1 rfl T.z_range (SX.b se_int)) (by first | with_reducible rfl | (simp only [pure_bind, bind_assoc, bind_pure, tt_if, bif_and, bif_or]; done) | (simp only [pure_bind, bind_assoc, bind_pure, tt_if, bif_and, bif_or]; with_reducible rfl) | (simp only [pure_bind, bind_assoc, bind_pure, tt_if, bif_and, bif_or]; rfl) | rfl)) (pg_name (i := 2) nd rfl (.inl rfl)) g_name (subC (subC (subN subE))) (fun _ => ltAll 3 rfl rfl) (fun turn_ d_ => (SL.atR (R' := [some (.frz (eInt d_.1)), some (.frz (eInt d_.2)), some (.frz (eInt turn_))]) (sl_ifG (Rn := fun d : Unit => [some (.frz (eInt d_.1)), some (.frz (eInt d_.2)), some (.frz (eInt turn_))]) (ST.eq (SC.t (sc_eqT eq_int (by decide) hr.units (SX.b (se_var (ea := eInt) (d := d_.2) (i := 1) rfl (.inl rfl) rfl rfl rfl)) (SX.b se_int)) rfl) (by first | with_reducible rfl | (simp only [pure_bind, bind_assoc, bind_pure, tt_if, bif_and, bif_or]; done) | (simp only [pure_bind, bind_assoc, bind_pure, tt_if, bif_and, bif_or]; with_reducible rfl) | (simp only [pure_bind, bind_assoc, bind_pure, tt_if, bif_and, bif_or]; rfl) | rfl)) (SL.atR (R' := [some (.frz (eInt d_.1)), some (.frz (eInt d_.2)), some (.frz (eInt turn_))]) (sl_break (d_.1, d_.2) (subC (subC (subN subE)))) rfl) (sl_nil () (subC (subC (subC subE)))) (fun d_3 => (SL.atR (R' := [some (.frz (eInt d_.1)), some (.frz (eInt d_.2)), some (.frz (eInt turn_))]) (sl_par2 (i := 0) (j := 1) rfl nd rfl rfl (by decide) rfl rfl (ltAll 3 rfl rfl) (SM.eq (sm_consF (se_var (ea := eInt) (d := d_.2) (i := 1) rfl (.inl rfl) rfl rfl rfl) (sm_oneF (se_mod (SX.b (se_var (ea := eInt) (d := d_.1) (i := 0) rfl (.inl rfl) rfl rfl rfl)) (SX.b (se_var (ea := eInt) (d := d_.2) (i := 1) rfl (.inl rfl) rfl rfl rfl))))) (by first | with_reducible rfl | (simp only [pure_bind, bind_assoc, bind_pure, tt_if, bif_and, bif_or]; done) | (simp only [pure_bind, bind_assoc, bind_pure, tt_if, bif_and, bif_or]; with_reducible rfl) | (simp only [pure_bind, bind_assoc, bind_pure, tt_if, bif_and, bif_or]; rfl) | rfl)) (fun _ => rfl) (fun p_ => (sl_nil (p_.1, p_.2) (subC (subC (subN subE))))) rfl rfl) rfl))) rfl)) (fun d_2 => (SL.atR (R' := [some (.frz (eInt d_2.1)), some (.frz (eInt d_2.2)), none]) (sf_ret (SX.eq (se_absI rfl T.z_abs (SX.b (se_var (ea := eInt) (d := d_2.1) (i := 0) rfl (.inl rfl) rfl rfl rfl))) (by first | with_reducible rfl | (simp only [pure_bind, bind_assoc, bind_pure, tt_if, bif_and, bif_or]; done) | (simp only [pure_bind, bind_assoc, bind_pure, tt_if, bif_and, bif_or]; with_reducible rfl) | (simp only [pure_bind, bind_assoc, bind_pure, tt_if, bif_and, bif_or]; rfl) | rfl))) rfl)) (fun _ => rfl)) rfl)
theorem ok__law_common (T : Tp K mg) : FnOk P w K mg base CX0 1 T.f4 T.d4 p4 (spP K w (fun g : Int × Int => [eInt g.1, eInt g.2]) eInt (fun g => m__law_common g.1 g.2)) :=
  fn_pure T.F4 sc4 (fun _ => rfl) (by decide) fun cdv A outer s H E hr g => bd__law_common T cdv A outer s H E hr g.1 g.2
theorem bd__law_below (T : Tp K mg) (cdv : Value) (A : Around) (outer : List Env) (s : Shared) (H : Hp) (E : XK) (hr : Room 0 (A.deeper (envOfC "_law_below" (defScope (topS 32)) s.heap.objs.size T.f5 cdv))) (one_ : (Int × Int)) (other_ : (Int × Int)) : SF (cx0 P w K mg base N5 "_law_below" (topS 32) T.f5 cdv A outer s H E) (m := Option) wd0 W0 H [some (.frz ((eT2 eInt eInt) one_)), some (.frz ((eT2 eInt eInt) other_))] (defBody (topS 32)) eBool (m__law_below one_ other_) :=
  have nd := sc5.nd
  (SL.atR (R' := [some (.frz ((eT2 eInt eInt) one_)), some (.frz ((eT2 eInt eInt) other_))]) (sf_ret (SX.eq (SC.e (sc_lt (SX.b (se_mul (SX.b (se_ixCI (ea := (eT2 eInt eInt)) (ec := eInt) (i := 0) (f := fun p => p.1) (SX.b (se_var (ea := (eT2 eInt eInt)) (d := one_) (i := 0) rfl (.inl rfl) rfl rfl rfl)) (SX.b se_int) (fun _ _ => rfl) (fun p => ⟨_, rfl, rfl⟩))) (SX.b (se_ixCI (ea := (eT2 eInt eInt)) (ec := eInt) (i := 1) (f := fun p => p.2) (SX.b (se_var (ea := (eT2 eInt eInt)) (d := other_) (i := 1) rfl (.inl rfl) rfl rfl rfl)) (SX.b se_int) (fun _ _ => rfl) (fun p => ⟨_, rfl, rfl⟩))))) (SX.b (se_mul (SX.b (se_ixCI (ea := (eT2 eInt eInt)) (ec := eInt) (i := 0) (f := fun p => p.1) (SX.b (se_var (ea := (eT2 eInt eInt)) (d := other_) (i := 1) rfl (.inl rfl) rfl rfl rfl)) (SX.b se_int) (fun _ _ => rfl) (fun p => ⟨_, rfl, rfl⟩))) (SX.b (se_ixCI (ea := (eT2 eInt eInt)) (ec := eInt) (i := 1) (f := fun p => p.2) (SX.b (se_var (ea := (eT2 eInt eInt)) (d := one_) (i := 0) rfl (.inl rfl) rfl rfl rfl)) (SX.b se_int) (fun _ _ => rfl) (fun p => ⟨_, rfl, rfl⟩)))))) rfl) (by first | with_reducible rfl | (simp only [pure_bind, bind_assoc, bind_pure, tt_if, bif_and, bif_or]; done) | (simp only [pure_bind, bind_assoc, bind_pure, tt_if, bif_and, bif_or]; with_reducible rfl) | (simp only [pure_bind, bind_assoc, bind_pure, tt_if, bif_and, bif_or]; rfl) | rfl))) rfl)
theorem ok__law_below (T : Tp K mg) : FnOk P w K mg base CX0 1 T.f5 T.d5 p5 (spP K w (fun g : (Int × Int) × (Int × Int) => [(eT2 eInt eInt) g.1, (eT2 eInt eInt) g.2]) eBool (fun g => m__law_below g.1 g.2)) :=
  fn_pure T.F5 sc5 (fun _ => rfl) (by decide) fun cdv A outer s H E hr g => bd__law_below T cdv A outer s H E hr g.1 g.2
theorem bd__law_orders (T : Tp K mg) (cdv : Value) (A : Around) (outer : List Env) (s : Shared) (H : Hp) (E : XK) (hr : Room 0 (A.deeper (envOfC "_law_orders" (defScope (topS 34)) s.heap.objs.size T.f6 cdv))) (things_ : (List Int)) : SF (cx0 P w K mg base N6 "_law_orders" (topS 34) T.f6 cdv A outer s H E) (m := Option) wd0 W0 H [some (.frz ((eTup eInt) things_)), none, none, none, none, none] (defBody (topS 34)) (eLst (eTup eInt)) (m__law_orders things_) :=
  have nd := sc6.nd
  (SL.atR (R' := [some (.frz ((eTup eInt) things_)), none, none, none, none, none]) (SL.asc (sl_set (i := 1) (ea := (eLst (eTup eInt))) nd rfl (.inl rfl) (ltR 6 rfl rfl) (SX.eq (SX.f (so_lst (ea := (eTup eInt)) (f := (fun g => [g])) (sa_one (ea := (eTup eInt)) (se_tup0 (ea := eInt))) (fun _ => rfl) (fun _ => Nat.le_of_ble_eq_true rfl))) (by first | with_reducible rfl | (simp only [pure_bind, bind_assoc, bind_pure, tt_if, bif_and, bif_or]; done) | (simp only [pure_bind, bind_assoc, bind_pure, tt_if, bif_and, bif_or]; with_reducible rfl) | (simp only [pure_bind, bind_assoc, bind_pure, tt_if, bif_and, bif_or]; rfl) | rfl)) (fun rows_ => (SL.atR (R' := [some (.frz ((eTup eInt) things_)), some (.frz ((eLst (eTup eInt)) rows_)), none, none, none, none]) (SL.asc2 (sl_forP (Rl := fun d : (List (List Int)) => [some (.frz ((eTup eInt) things_)), some (.frz ((eLst (eTup eInt)) d)), none, none, none, none]) (d0 := rows_) (g := (gName 2)) (is := [2]) (dts := (fun a => [eInt a])) PassesOwn.never rfl (SI.eq (si_range1 rfl T.z_range (SX.b (se_lenT (ea := eInt) rfl T.z_len (SX.b (se_var (ea := (eTup eInt)) (d := things_) (i := 0) rfl (.inl rfl) rfl rfl rfl))))) (by first | with_reducible rfl | (simp only [pure_bind, bind_assoc, bind_pure, tt_if, bif_and, bif_or]; done) | (simp only [pure_bind, bind_assoc, bind_pure, tt_if, bif_and, bif_or]; with_reducible rfl) | (simp only [pure_bind, bind_assoc, bind_pure, tt_if, bif_and, bif_or]; rfl) | rfl)) (pg_name (i := 2) nd rfl (.inl rfl)) g_name (subC (subC (subN (subN (subN (subN subE)))))) (fun _ => ltAll 6 rfl rfl) (fun k_ d_ => (SL.atR (R' := [some (.frz ((eTup eInt) things_)), some (.frz ((eLst (eTup eInt)) d_)), some (.frz (eInt k_)), none, none, none]) (SL.asc (sl_set (i := 3) (ea := (eLst (eTup eInt))) nd rfl (.inl rfl) (ltR 6 rfl rfl) (SX.f (so_nil (ea := (eTup eInt)))) (fun longer_ => (SL.atR (R' := [some (.frz ((eTup eInt) things_)), some (.frz ((eLst (eTup eInt)) d_)), some (.frz (eInt k_)), some (.frz ((eLst (eTup eInt)) longer_)), none, none]) (SL.asc2 (sl_forP (Rl := fun d : (List (List Int)) => [some (.frz ((eTup eInt) things_)), some (.frz ((eLst (eTup eInt)) d_)), some (.frz (eInt k_)), some (.frz ((eLst (eTup eInt)) d)), none, none]) (d0 := longer_) (g := (gName 4)) (is := [4]) (dts := (fun a => [(eTup eInt) a])) PassesOwn.never rfl (SI.eq (si_lst (ea := (eTup eInt)) (se_var (ea := (eLst (eTup eInt))) (d := d_) (i := 1) rfl (.inl rfl) rfl rfl rfl) (fun h => h)) (by first | with_reducible rfl | (simp only [pure_bind, bind_assoc, bind_pure, tt_if, bif_and, bif_or]; done) | (simp only [pure_bind, bind_assoc, bind_pure, tt_if, bif_and, bif_or]; with_reducible rfl) | (simp only [pure_bind, bind_assoc, bind_pure, tt_if, bif_and, bif_or]; rfl) | rfl)) (pg_name (i := 4) nd rfl (.inr rfl)) g_name (subC (subC (subC (subC (subN (subN subE)))))) (fun _ => ltAll 6 rfl rfl) (fun row_ d_3 => (SL.atR (R' := [some (.frz ((eTup eInt) things_)), some (.frz ((eLst (eTup eInt)) d_)), some (.frz (eInt k_)), some (.frz ((eLst (eTup eInt)) d_3)), some (.frz ((eTup eInt) row_)), none]) (SL.asc (sl_set (i := 3) (ea := (eLst (eTup eInt))) nd rfl (.inl rfl) (ltR 6 rfl rfl) (SX.eq (SX.f (so_catL (SX.b (se_var (ea := (eLst (eTup eInt))) (d := d_3) (i := 3) rfl (.inl rfl) rfl rfl rfl)) (SX.ob (so_comp (eb := (eTup eInt)) (own := [("thing", 5)]) (g := (gName 5)) (is := [5]) (dts := (fun a => [eInt a])) (mt := fun thing_ => (pure (!decide (thing_ ∈ row_)))) (me := fun thing_ => (fromO (catG row_ [thing_]))) rfl nd (si_tup (ea := eInt) (SX.b (se_var (ea := (eTup eInt)) (d := things_) (i := 0) rfl (.inl rfl) rfl rfl rfl)) (fun h => h.firms)) (blkOk_by rfl) (fun _ _ _ _ _ => (pg_name (i := 5) nd rfl (.inl rfl))) g_name (by decide) (ltAll 6 rfl rfl) (fun thing_ _ _ _ _ _ => (SIf.eq (sf_one (SC.t (sc_niT eq_int (by decide) hr.units (SX.b (se_var (ea := eInt) (d := thing_) (i := 5) rfl (.inl rfl) rfl rfl rfl)) (SX.b (se_var (ea := (eTup eInt)) (d := row_) (i := 4) rfl (.inr (.inl rfl)) rfl rfl rfl))) rfl)) (by first | with_reducible rfl | (simp only [pure_bind, bind_assoc, bind_pure, tt_if, bif_and, bif_or]; done) | (simp only [pure_bind, bind_assoc, bind_pure, tt_if, bif_and, bif_or]; with_reducible rfl) | (simp only [pure_bind, bind_assoc, bind_pure, tt_if, bif_and, bif_or]; rfl) | rfl))) (fun thing_ _ _ _ _ _ => (SX.eq (se_catT (SX.b (se_var (ea := (eTup eInt)) (d := row_) (i := 4) rfl (.inr (.inl rfl)) rfl rfl rfl)) (SX.b (se_tupH (ea := eInt) (f := (fun g => [g])) (sa_one (ea := eInt) (se_var (ea := eInt) (d := thing_) (i := 5) rfl (.inl rfl) rfl rfl rfl)) (fun _ => rfl) (fun _ => Nat.le_of_ble_eq_true rfl)))) (by first | with_reducible rfl | (simp only [pure_bind, bind_assoc, bind_pure, tt_if, bif_and, bif_or]; done) | (simp only [pure_bind, bind_assoc, bind_pure, tt_if, bif_and, bif_or]; with_reducible rfl) | (simp only [pure_bind, bind_assoc, bind_pure, tt_if, bif_and, bif_or]; rfl) | rfl))))))) (by first | with_reducible rfl | (simp only [pure_bind, bind_assoc, bind_pure, tt_if, bif_and, bif_or]; done) | (simp only [pure_bind, bind_assoc, bind_pure, tt_if, bif_and, bif_or]; with_reducible rfl) | (simp only [pure_bind, bind_assoc, bind_pure, tt_if, bif_and, bif_or]; rfl) | rfl)) (fun longer_2 => (sp_nil longer_2 (subC (subC (subC (subC (subN (subN subE)))))))) rfl (.inr rfl))) rfl)) (fun d_4 => (SL.atR (R' := [some (.frz ((eTup eInt) things_)), some (.frz ((eLst (eTup eInt)) d_)), some (.frz (eInt k_)), some (.frz ((eLst (eTup eInt)) d_4)), none, none]) (SL.asc (sl_set (i := 1) (ea := (eLst (eTup eInt))) nd rfl (.inl rfl) (ltR 6 rfl rfl) (se_var (ea := (eLst (eTup eInt))) (d := d_4) (i := 3) rfl (.inl rfl) rfl rfl rfl) (fun rows_2 => (sp_nil rows_2 (subC (subC (subN (subN (subN (subN subE)))))))) rfl (.inr rfl))) rfl)) (fun _ => rfl))) rfl)) rfl (.inr rfl))) rfl)) (fun d_2 => (SL.atR (R' := [some (.frz ((eTup eInt) things_)), some (.frz ((eLst (eTup eInt)) d_2)), none, none, none, none]) (sf_ret (se_var (ea := (eLst (eTup eInt))) (d := d_2) (i := 1) rfl (.inl rfl) rfl rfl rfl)) rfl)) (fun _ => rfl))) rfl)) rfl (.inr rfl))) rfl)
theorem ok__law_orders (T : Tp K mg) : FnOk P w K mg base CX0 1 T.f6 T.d6 p6 (spP K w (fun g : (List Int) => [(eTup eInt) g]) (eLst (eTup eInt)) (fun g => m__law_orders g)) :=
  fn_pure T.F6 sc6 (fun _ => rfl) (by decide) fun cdv A outer s H E hr g => bd__law_orders T cdv A outer s H E hr g
theorem bd_fraction (T : Tp K mg) (cdv : Value) (A : Around) (outer : List Env) (s : Shared) (H : Hp) (E : XK) (hr : Room 1 (A.deeper (envOfC "fraction" (defScope (topS 2)) s.heap.objs.size T.f7 cdv))) (a_ : Int) (b_ : Int) : SF (cx0 P w K mg base N7 "fraction" (topS 2) T.f7 cdv A outer s H E) (m := Option) wd0 W0 H [some (.frz (eInt a_)), some (.frz (eInt b_)), none] (defBody (topS 2)) (eT2 eInt eInt) (m_fraction a_ b_) :=
  have nd := sc7.nd
  (SL.atR (R' := [some (.frz (eInt a_)), some (.frz (eInt b_)), none]) (SL.asc (sl_set (i := 2) (ea := eInt) nd rfl (.inl rfl) (ltR 3 rfl rfl) (SX.eq (se_call (FnOk.mono (ok_common T) (by decide)) hr rfl T.g0 T.F0.kp T.b0 (sa_cons (ea := eInt) (eg := fun g : Int => [eInt g]) (se_var (ea := eInt) (d := a_) (i := 0) rfl (.inl rfl) rfl rfl rfl) (sa_one (ea := eInt) (se_var (ea := eInt) (d := b_) (i := 1) rfl (.inl rfl) rfl rfl rfl))) rfl rfl rfl) (by first | with_reducible rfl | (simp only [pure_bind, bind_assoc, bind_pure, tt_if, bif_and, bif_or]; done) | (simp only [pure_bind, bind_assoc, bind_pure, tt_if, bif_and, bif_or]; with_reducible rfl) | (simp only [pure_bind, bind_assoc, bind_pure, tt_if, bif_and, bif_or]; rfl) | rfl)) (fun by_ => (SL.atR (R' := [some (.frz (eInt a_)), some (.frz (eInt b_)), some (.frz (eInt by_))]) (SL.asc2 (sl_ifP (Rn := fun d : Int => [some (.frz (eInt a_)), some (.frz (eInt b_)), some (.frz (eInt d))]) (ST.eq (SC.t (sc_lt (SX.b (se_var (ea := eInt) (d := b_) (i := 1) rfl (.inl rfl) rfl rfl rfl)) (SX.b se_int)) rfl) (by first | with_reducible rfl | (simp only [pure_bind, bind_assoc, bind_pure, tt_if, bif_and, bif_or]; done) | (simp only [pure_bind, bind_assoc, bind_pure, tt_if, bif_and, bif_or]; with_reducible rfl) | (simp only [pure_bind, bind_assoc, bind_pure, tt_if, bif_and, bif_or]; rfl) | rfl)) (SL.atR (R' := [some (.frz (eInt a_)), some (.frz (eInt b_)), some (.frz (eInt by_))]) (SL.asc (sl_set (i := 2) (ea := eInt) nd rfl (.inl rfl) (ltR 3 rfl rfl) (SX.eq (se_neg (SX.b (se_var (ea := eInt) (d := by_) (i := 2) rfl (.inl rfl) rfl rfl rfl))) (by first | with_reducible rfl | (simp only [pure_bind, bind_assoc, bind_pure, tt_if, bif_and, bif_or]; done) | (simp only [pure_bind, bind_assoc, bind_pure, tt_if, bif_and, bif_or]; with_reducible rfl) | (simp only [pure_bind, bind_assoc, bind_pure, tt_if, bif_and, bif_or]; rfl) | rfl)) (fun by_2 => (sp_nil by_2 (subC (subC (subC subE))))) rfl (.inr rfl))) rfl) (sp_nil by_ (subC (subC (subC subE)))) (fun d_ => (SL.atR (R' := [some (.frz (eInt a_)), some (.frz (eInt b_)), some (.frz (eInt d_))]) (sf_ret (SX.eq (se_tup (et := (eT2 eInt eInt)) (sa_cons (ea := eInt) (eg := fun g : Int => [eInt g]) (se_fdiv (SX.b (se_var (ea := eInt) (d := a_) (i := 0) rfl (.inl rfl) rfl rfl rfl)) (SX.b (se_var (ea := eInt) (d := d_) (i := 2) rfl (.inl rfl) rfl rfl rfl))) (sa_one (ea := eInt) (se_fdiv (SX.b (se_var (ea := eInt) (d := b_) (i := 1) rfl (.inl rfl) rfl rfl rfl)) (SX.b (se_var (ea := eInt) (d := d_) (i := 2) rfl (.inl rfl) rfl rfl rfl))))) (fun _ => rfl) (fun _ => Nat.le_of_ble_eq_true rfl)) (by first | with_reducible rfl | (simp only [pure_bind, bind_assoc, bind_pure, tt_if, bif_and, bif_or]; done) | (simp only [pure_bind, bind_assoc, bind_pure, tt_if, bif_and, bif_or]; with_reducible rfl) | (simp only [pure_bind, bind_assoc, bind_pure, tt_if, bif_and, bif_or]; rfl) | rfl))) rfl)))) rfl)) rfl (.inr rfl))) rfl)
theorem ok_fraction (T : Tp K mg) : FnOk P w K mg base CX0 2 T.f7 T.d7 p7 (spP K w (fun g : Int × Int => [eInt g.1, eInt g.2]) (eT2 eInt eInt) (fun g => m_fraction g.1 g.2)) :=
  fn_pure T.F7 sc7 (fun _ => rfl) (by decide) fun cdv A outer s H E hr g => bd_fraction T cdv A outer s H E hr g.1 g.2
theorem bd__law_pick (T : Tp K mg) (cdv : Value) (A : Around) (outer : List Env) (s : Shared) (H : Hp) (E : XK) (aw : Addr) (hr : Room 1 (A.deeper (envOfC "_law_pick" (defScope (topS 26)) s.heap.objs.size T.f8 cdv))) (rows_ : (List (Int × Int))) : SF (cx0 P w K mg base N8 "_law_pick" (topS 26) T.f8 cdv A outer s H E) (m := WM DW) (drawsW aw) W0 H [some (.adr aw), some (.frz ((eLst (eT2 eInt eInt)) rows_))] (defBody (topS 26)) (eT2 eInt eInt) (m__law_pick rows_) :=
  have nd := sc8.nd
  have huw : _ := Nat.lt_of_le_of_lt (Nat.add_le_add_left (by decide : 1 ≤ 64) _) hr.units
  (SL.atR (R' := [some (.adr aw), some (.frz ((eLst (eT2 eInt eInt)) rows_))]) (sf_ret (SX.eq (se_ixL (ea := (eT2 eInt eInt)) (SX.b (se_var (ea := (eLst (eT2 eInt eInt))) (d := rows_) (i := 1) rfl (.inl rfl) rfl rfl rfl)) (SX.b (se_callW (i := 0) (FnOk.mono (ok__law_next T) (by decide)) hr rfl T.g3 T.F3.kp T.b3 rfl (.inl rfl) rfl rfl rfl (sa_one (ea := eInt) (se_lenL (ea := (eT2 eInt eInt)) rfl T.z_len (SX.b (se_var (ea := (eLst (eT2 eInt eInt))) (d := rows_) (i := 1) rfl (.inl rfl) rfl rfl rfl)))) rfl rfl rfl)) (fun _ _ => rfl)) (by first | with_reducible rfl | (simp only [pure_bind, bind_assoc, bind_pure, tt_if, bif_and, bif_or]; done) | (simp only [pure_bind, bind_assoc, bind_pure, tt_if, bif_and, bif_or]; with_reducible rfl) | (simp only [pure_bind, bind_assoc, bind_pure, tt_if, bif_and, bif_or]; rfl) | rfl))) rfl)
theorem ok__law_pick (T : Tp K mg) : FnOk P w K mg base CX0 2 T.f8 T.d8 p8 (spW K w drawsW (fun g : (List (Int × Int)) => [(eLst (eT2 eInt eInt)) g]) (eT2 eInt eInt) (fun g => m__law_pick g)) :=
  fn_world T.F8 sc8 (fun _ => rfl) (by decide) fun cdv A outer s H E aw hr g => bd__law_pick T cdv A outer s H E aw hr g
theorem bd__law_frac (T : Tp K mg) (cdv : Value) (A : Around) (outer : List Env) (s : Shared) (H : Hp) (E : XK) (hr : Room 1 (A.deeper (envOfC "_law_frac" (defScope (topS 28)) s.heap.objs.size T.f9 cdv))) (a_ : Int) (b_ : Int) : SF (cx0 P w K mg base N9 "_law_frac" (topS 28) T.f9 cdv A outer s H E) (m := Option) wd0 W0 H [some (.frz (eInt a_)), some (.frz (eInt b_)), none] (defBody (topS 28)) (eT2 eInt eInt) (m__law_frac a_ b_) :=
  have nd := sc9.nd
  (SL.atR (R' := [some (.frz (eInt a_)), some (.frz (eInt b_)), none]) (SL.asc (sl_set (i := 2) (ea := eInt) nd rfl (.inl rfl) (ltR 3 rfl rfl) (SX.eq (se_call (FnOk.mono (ok__law_common T) (by decide)) hr rfl T.g4 T.F4.kp T.b4 (sa_cons (ea := eInt) (eg := fun g : Int => [eInt g]) (se_var (ea := eInt) (d := a_) (i := 0) rfl (.inl rfl) rfl rfl rfl) (sa_one (ea := eInt) (se_var (ea := eInt) (d := b_) (i := 1) rfl (.inl rfl) rfl rfl rfl))) rfl rfl rfl) (by first | with_reducible rfl | (simp only [pure_bind, bind_assoc, bind_pure, tt_if, bif_and, bif_or]; done) | (simp only [pure_bind, bind_assoc, bind_pure, tt_if, bif_and, bif_or]; with_reducible rfl) | (simp only [pure_bind, bind_assoc, bind_pure, tt_if, bif_and, bif_or]; rfl) | rfl)) (fun by_ => (SL.atR (R' := [some (.frz (eInt a_)), some (.frz (eInt b_)), some (.frz (eInt by_))]) (SL.asc2 (sl_ifP (Rn := fun d : Int => [some (.frz (eInt a_)), some (.frz (eInt b_)), some (.frz (eInt d))]) (ST.eq (SC.t (sc_lt (SX.b (se_var (ea := eInt) (d := b_) (i := 1) rfl (.inl rfl) rfl rfl rfl)) (SX.b se_int)) rfl) (by first | with_reducible rfl | (simp only [pure_bind, bind_assoc, bind_pure, tt_if, bif_and, bif_or]; done) | (simp only [pure_bind, bind_assoc, bind_pure, tt_if, bif_and, bif_or]; with_reducible rfl) | (simp only [pure_bind, bind_assoc, bind_pure, tt_if, bif_and, bif_or]; rfl) | rfl)) (SL.atR (R' := [some (.frz (eInt a_)), some (.frz (eInt b_)), some (.frz (eInt by_))]) (SL.asc (sl_set (i := 2) (ea := eInt) nd rfl (.inl rfl) (ltR 3 rfl rfl) (SX.eq (se_neg (SX.b (se_var (ea := eInt) (d := by_) (i := 2) rfl (.inl rfl) rfl rfl rfl))) (by first | with_reducible rfl | (simp only [pure_bind, bind_assoc, bind_pure, tt_if, bif_and, bif_or]; done) | (simp only [pure_bind, bind_assoc, bind_pure, tt_if, bif_and, bif_or]; with_reducible rfl) | (simp only [pure_bind, bind_assoc, bind_pure, tt_if, bif_and, bif_or]; rfl) | rfl)) (fun by_2 => (sp_nil by_2 (subC (subC (subC subE))))) rfl (.inr rfl))) rfl) (sp_nil by_ (subC (subC (subC subE)))) (fun d_ => (SL.atR (R' := [some (.frz (eInt a_)), some (.frz (eInt b_)), some (.frz (eInt d_))]) (sf_ret (SX.eq (se_tup (et := (eT2 eInt eInt)) (sa_cons (ea := eInt) (eg := fun g : Int => [eInt g]) (se_fdiv (SX.b (se_var (ea := eInt) (d := a_) (i := 0) rfl (.inl rfl) rfl rfl rfl)) (SX.b (se_var (ea := eInt) (d := d_) (i := 2) rfl (.inl rfl) rfl rfl rfl))) (sa_one (ea := eInt) (se_fdiv (SX.b (se_var (ea := eInt) (d := b_) (i := 1) rfl (.inl rfl) rfl rfl rfl)) (SX.b (se_var (ea := eInt) (d := d_) (i := 2) rfl (.inl rfl) rfl rfl rfl))))) (fun _ => rfl) (fun _ => Nat.le_of_ble_eq_true rfl)) (by first | with_reducible rfl | (simp only [pure_bind, bind_assoc, bind_pure, tt_if, bif_and, bif_or]; done) | (simp only [pure_bind, bind_assoc, bind_pure, tt_if, bif_and, bif_or]; with_reducible rfl) | (simp only [pure_bind, bind_assoc, bind_pure, tt_if, bif_and, bif_or]; rfl) | rfl))) rfl)))) rfl)) rfl (.inr rfl))) rfl)
theorem ok__law_frac (T : Tp K mg) : FnOk P w K mg base CX0 2 T.f9 T.d9 p9 (spP K w (fun g : Int × Int => [eInt g.1, eInt g.2]) (eT2 eInt eInt) (fun g => m__law_frac g.1 g.2)) :=
  fn_pure T.F9 sc9 (fun _ => rfl) (by decide) fun cdv A outer s H E hr g => bd__law_frac T cdv A outer s H E hr g.1 g.2
theorem bd_plus (T : Tp K mg) (cdv : Value) (A : Around) (outer : List Env) (s : Shared) (H : Hp) (E : XK) (hr : Room 2 (A.deeper (envOfC "plus" (defScope (topS 3)) s.heap.objs.size T.f10 cdv))) (one_ : (Int × Int)) (other_ : (Int × Int)) : SF (cx0 P w K mg base N10 "plus" (topS 3) T.f10 cdv A outer s H E) (m := Option) wd0 W0 H [some (.frz ((eT2 eInt eInt) one_)), some (.frz ((eT2 eInt eInt) other_))] (defBody (topS 3)) (eT2 eInt eInt) (m_plus one_ other_) :=
  have nd := sc10.nd
  (SL.atR (R' := [some (.frz ((eT2 eInt eInt) one_)), some (.frz ((eT2 eInt eInt) other_))]) (sf_ret (SX.eq (se_call (FnOk.mono (ok_fraction T) (by decide)) hr rfl T.g7 T.F7.kp T.b7 (sa_cons (ea := eInt) (eg := fun g : Int => [eInt g]) (se_add (SX.b (se_mul (SX.b (se_ixCI (ea := (eT2 eInt eInt)) (ec := eInt) (i := 0) (f := fun p => p.1) (SX.b (se_var (ea := (eT2 eInt eInt)) (d := one_) (i := 0) rfl (.inl rfl) rfl rfl rfl)) (SX.b se_int) (fun _ _ => rfl) (fun p => ⟨_, rfl, rfl⟩))) (SX.b (se_ixCI (ea := (eT2 eInt eInt)) (ec := eInt) (i := 1) (f := fun p => p.2) (SX.b (se_var (ea := (eT2 eInt eInt)) (d := other_) (i := 1) rfl (.inl rfl) rfl rfl rfl)) (SX.b se_int) (fun _ _ => rfl) (fun p => ⟨_, rfl, rfl⟩))))) (SX.b (se_mul (SX.b (se_ixCI (ea := (eT2 eInt eInt)) (ec := eInt) (i := 0) (f := fun p => p.1) (SX.b (se_var (ea := (eT2 eInt eInt)) (d := other_) (i := 1) rfl (.inl rfl) rfl rfl rfl)) (SX.b se_int) (fun _ _ => rfl) (fun p => ⟨_, rfl, rfl⟩))) (SX.b (se_ixCI (ea := (eT2 eInt eInt)) (ec := eInt) (i := 1) (f := fun p => p.2) (SX.b (se_var (ea := (eT2 eInt eInt)) (d := one_) (i := 0) rfl (.inl rfl) rfl rfl rfl)) (SX.b se_int) (fun _ _ => rfl) (fun p => ⟨_, rfl, rfl⟩)))))) (sa_one (ea := eInt) (se_mul (SX.b (se_ixCI (ea := (eT2 eInt eInt)) (ec := eInt) (i := 1) (f := fun p => p.2) (SX.b (se_var (ea := (eT2 eInt eInt)) (d := one_) (i := 0) rfl (.inl rfl) rfl rfl rfl)) (SX.b se_int) (fun _ _ => rfl) (fun p => ⟨_, rfl, rfl⟩))) (SX.b (se_ixCI (ea := (eT2 eInt eInt)) (ec := eInt) (i := 1) (f := fun p => p.2) (SX.b (se_var (ea := (eT2 eInt eInt)) (d := other_) (i := 1) rfl (.inl rfl) rfl rfl rfl)) (SX.b se_int) (fun _ _ => rfl) (fun p => ⟨_, rfl, rfl⟩)))))) rfl rfl rfl) (by first | with_reducible rfl | (simp only [pure_bind, bind_assoc, bind_pure, tt_if, bif_and, bif_or]; done) | (simp only [pure_bind, bind_assoc, bind_pure, tt_if, bif_and, bif_or]; with_reducible rfl) | (simp only [pure_bind, bind_assoc, bind_pure, tt_if, bif_and, bif_or]; rfl) | rfl))) rfl)
theorem ok_plus (T : Tp K mg) : FnOk P w K mg base CX0 3 T.f10 T.d10 p10 (spP K w (fun g : (Int × Int) × (Int × Int) => [(eT2 eInt eInt) g.1, (eT2 eInt eInt) g.2]) (eT2 eInt eInt) (fun g => m_plus g.1 g.2)) :=
  fn_pure T.F10 sc10 (fun _ => rfl) (by decide) fun cdv A outer s H E hr g => bd_plus T cdv A outer s H E hr g.1 g.2
theorem bd_minus (T : Tp K mg) (cdv : Value) (A : Around) (outer : List Env) (s : Shared) (H : Hp) (E : XK) (hr : Room 2 (A.deeper (envOfC "minus" (defScope (topS 4)) s.heap.objs.size T.f11 cdv))) (one_ : (Int × Int)) (other_ : (Int × Int)) : SF (cx0 P w K mg base N11 "minus" (topS 4) T.f11 cdv A outer s H E) (m := Option) wd0 W0 H [some (.frz ((eT2 eInt eInt) one_)), some (.frz ((eT2 eInt eInt) other_))] (defBody (topS 4)) (eT2 eInt eInt) (m_minus one_ other_) :=
  have nd := sc11.nd
  (SL.atR (R' := [some (.frz ((eT2 eInt eInt) one_)), some (.frz ((eT2 eInt eInt) other_))]) (sf_ret (SX.eq (se_call (FnOk.mono (ok_fraction T) (by decide)) hr rfl T.g7 T.F7.kp T.b7 (sa_cons (ea := eInt) (eg := fun g : Int => [eInt g]) (se_sub (SX.b (se_mul (SX.b (se_ixCI (ea := (eT2 eInt eInt)) (ec := eInt) (i := 0) (f := fun p => p.1) (SX.b (se_var (ea := (eT2 eInt eInt)) (d := one_) (i := 0) rfl (.inl rfl) rfl rfl rfl)) (SX.b se_int) (fun _ _ => rfl) (fun p => ⟨_, rfl, rfl⟩))) (SX.b (se_ixCI (ea := (eT2 eInt eInt)) (ec := eInt) (i := 1) (f := fun p => p.2) (SX.b (se_var (ea := (eT2 eInt eInt)) (d := other_) (i := 1) rfl (.inl rfl) rfl rfl rfl)) (SX.b se_int) (fun _ _ => rfl) (fun p => ⟨_, rfl, rfl⟩))))) (SX.b (se_mul (SX.b (se_ixCI (ea := (eT2 eInt eInt)) (ec := eInt) (i := 0) (f := fun p => p.1) (SX.b (se_var (ea := (eT2 eInt eInt)) (d := other_) (i := 1) rfl (.inl rfl) rfl rfl rfl)) (SX.b se_int) (fun _ _ => rfl) (fun p => ⟨_, rfl, rfl⟩))) (SX.b (se_ixCI (ea := (eT2 eInt eInt)) (ec := eInt) (i := 1) (f := fun p => p.2) (SX.b (se_var (ea := (eT2 eInt eInt)) (d := one_) (i := 0) rfl (.inl rfl) rfl rfl rfl)) (SX.b se_int) (fun _ _ => rfl) (fun p => ⟨_, rfl, rfl⟩)))))) (sa_one (ea := eInt) (se_mul (SX.b (se_ixCI (ea := (eT2 eInt eInt)) (ec := eInt) (i := 1) (f := fun p => p.2) (SX.b (se_var (ea := (eT2 eInt eInt)) (d := one_) (i := 0) rfl (.inl rfl) rfl rfl rfl)) (SX.b se_int) (fun _ _ => rfl) (fun p => ⟨_, rfl, rfl⟩))) (SX.b (se_ixCI (ea := (eT2 eInt eInt)) (ec := eInt) (i := 1) (f := fun p => p.2) (SX.b (se_var (ea := (eT2 eInt eInt)) (d := other_) (i := 1) rfl (.inl rfl) rfl rfl rfl)) (SX.b se_int) (fun _ _ => rfl) (fun p => ⟨_, rfl, rfl⟩)))))) rfl rfl rfl) (by first | with_reducible rfl | (simp only [pure_bind, bind_assoc, bind_pure, tt_if, bif_and, bif_or]; done) | (simp only [pure_bind, bind_assoc, bind_pure, tt_if, bif_and, bif_or]; with_reducible rfl) | (simp only [pure_bind, bind_assoc, bind_pure, tt_if, bif_and, bif_or]; rfl) | rfl))) rfl)
theorem ok_minus (T : Tp K mg) : FnOk P w K mg base CX0 3 T.f11 T.d11 p11 (spP K w (fun g : (Int × Int) × (Int × Int) => [(eT2 eInt eInt) g.1, (eT2 eInt eInt) g.2]) (eT2 eInt eInt) (fun g => m_minus g.1 g.2)) :=
  fn_pure T.F11 sc11 (fun _ => rfl) (by decide) fun cdv A outer s H E hr g => bd_minus T cdv A outer s H E hr g.1 g.2
theorem bd_times (T : Tp K mg) (cdv : Value) (A : Around) (outer : List Env) (s : Shared) (H : Hp) (E : XK) (hr : Room 2 (A.deeper (envOfC "times" (defScope (topS 5)) s.heap.objs.size T.f12 cdv))) (one_ : (Int × Int)) (other_ : (Int × Int)) : SF (cx0 P w K mg base N12 "times" (topS 5) T.f12 cdv A outer s H E) (m := Option) wd0 W0 H [some (.frz ((eT2 eInt eInt) one_)), some (.frz ((eT2 eInt eInt) other_))] (defBody (topS 5)) (eT2 eInt eInt) (m_times one_ other_) :=
  have nd := sc12.nd
  (SL.atR (R' := [some (.frz ((eT2 eInt eInt) one_)), some (.frz ((eT2 eInt eInt) other_))]) (sf_ret (SX.eq (se_call (FnOk.mono (ok_fraction T) (by decide)) hr rfl T.g7 T.F7.kp T.b7 (sa_cons (ea := eInt) (eg := fun g : Int => [eInt g]) (se_mul (SX.b (se_ixCI (ea := (eT2 eInt eInt)) (ec := eInt) (i := 0) (f := fun p => p.1) (SX.b (se_var (ea := (eT2 eInt eInt)) (d := one_) (i := 0) rfl (.inl rfl) rfl rfl rfl)) (SX.b se_int) (fun _ _ => rfl) (fun p => ⟨_, rfl, rfl⟩))) (SX.b (se_ixCI (ea := (eT2 eInt eInt)) (ec := eInt) (i := 0) (f := fun p => p.1) (SX.b (se_var (ea := (eT2 eInt eInt)) (d := other_) (i := 1) rfl (.inl rfl) rfl rfl rfl)) (SX.b se_int) (fun _ _ => rfl) (fun p => ⟨_, rfl, rfl⟩)))) (sa_one (ea := eInt) (se_mul (SX.b (se_ixCI (ea := (eT2 eInt eInt)) (ec := eInt) (i := 1) (f := fun p => p.2) (SX.b (se_var (ea := (eT2 eInt eInt)) (d := one_) (i := 0) rfl (.inl rfl) rfl rfl rfl)) (SX.b se_int) (fun _ _ => rfl) (fun p => ⟨_, rfl, rfl⟩))) (SX.b (se_ixCI (ea := (eT2 eInt eInt)) (ec := eInt) (i := 1) (f := fun p => p.2) (SX.b (se_var (ea := (eT2 eInt eInt)) (d := other_) (i := 1) rfl (.inl rfl) rfl rfl rfl)) (SX.b se_int) (fun _ _ => rfl) (fun p => ⟨_, rfl, rfl⟩)))))) rfl rfl rfl) (by first | with_reducible rfl | (simp only [pure_bind, bind_assoc, bind_pure, tt_if, bif_and, bif_or]; done) | (simp only [pure_bind, bind_assoc, bind_pure, tt_if, bif_and, bif_or]; with_reducible rfl) | (simp only [pure_bind, bind_assoc, bind_pure, tt_if, bif_and, bif_or]; rfl) | rfl))) rfl)
theorem ok_times (T : Tp K mg) : FnOk P w K mg base CX0 3 T.f12 T.d12 p12 (spP K w (fun g : (Int × Int) × (Int × Int) => [(eT2 eInt eInt) g.1, (eT2 eInt eInt) g.2]) (eT2 eInt eInt) (fun g => m_times g.1 g.2)) :=
  fn_pure T.F12 sc12 (fun _ => rfl) (by decide) fun cdv A outer s H E hr g => bd_times T cdv A outer s H E hr g.1 g.2
theorem bd_parted (T : Tp K mg) (cdv : Value) (A : Around) (outer : List Env) (s : Shared) (H : Hp) (E : XK) (hr : Room 2 (A.deeper (envOfC "parted" (defScope (topS 6)) s.heap.objs.size T.f13 cdv))) (one_ : (Int × Int)) (other_ : (Int × Int)) : SF (cx0 P w K mg base N13 "parted" (topS 6) T.f13 cdv A outer s H E) (m := Option) wd0 W0 H [some (.frz ((eT2 eInt eInt) one_)), some (.frz ((eT2 eInt eInt) other_))] (defBody (topS 6)) (eT2 eInt eInt) (m_parted one_ other_) :=
  have nd := sc13.nd
  (SL.atR (R' := [some (.frz ((eT2 eInt eInt) one_)), some (.frz ((eT2 eInt eInt) other_))]) (sf_ret (SX.eq (se_call (FnOk.mono (ok_fraction T) (by decide)) hr rfl T.g7 T.F7.kp T.b7 (sa_cons (ea := eInt) (eg := fun g : Int => [eInt g]) (se_mul (SX.b (se_ixCI (ea := (eT2 eInt eInt)) (ec := eInt) (i := 0) (f := fun p => p.1) (SX.b (se_var (ea := (eT2 eInt eInt)) (d := one_) (i := 0) rfl (.inl rfl) rfl rfl rfl)) (SX.b se_int) (fun _ _ => rfl) (fun p => ⟨_, rfl, rfl⟩))) (SX.b (se_ixCI (ea := (eT2 eInt eInt)) (ec := eInt) (i := 1) (f := fun p => p.2) (SX.b (se_var (ea := (eT2 eInt eInt)) (d := other_) (i := 1) rfl (.inl rfl) rfl rfl rfl)) (SX.b se_int) (fun _ _ => rfl) (fun p => ⟨_, rfl, rfl⟩)))) (sa_one (ea := eInt) (se_mul (SX.b (se_ixCI (ea := (eT2 eInt eInt)) (ec := eInt) (i := 1) (f := fun p => p.2) (SX.b (se_var (ea := (eT2 eInt eInt)) (d := one_) (i := 0) rfl (.inl rfl) rfl rfl rfl)) (SX.b se_int) (fun _ _ => rfl) (fun p => ⟨_, rfl, rfl⟩))) (SX.b (se_ixCI (ea := (eT2 eInt eInt)) (ec := eInt) (i := 0) (f := fun p => p.1) (SX.b (se_var (ea := (eT2 eInt eInt)) (d := other_) (i := 1) rfl (.inl rfl) rfl rfl rfl)) (SX.b se_int) (fun _ _ => rfl) (fun p => ⟨_, rfl, rfl⟩)))))) rfl rfl rfl) (by first | with_reducible rfl | (simp only [pure_bind, bind_assoc, bind_pure, tt_if, bif_and, bif_or]; done) | (simp only [pure_bind, bind_assoc, bind_pure, tt_if, bif_and, bif_or]; with_reducible rfl) | (simp only [pure_bind, bind_assoc, bind_pure, tt_if, bif_and, bif_or]; rfl) | rfl))) rfl)
theorem ok_parted (T : Tp K mg) : FnOk P w K mg base CX0 3 T.f13 T.d13 p13 (spP K w (fun g : (Int × Int) × (Int × Int) => [(eT2 eInt eInt) g.1, (eT2 eInt eInt) g.2]) (eT2 eInt eInt) (fun g => m_parted g.1 g.2)) :=
  fn_pure T.F13 sc13 (fun _ => rfl) (by decide) fun cdv A outer s H E hr g => bd_parted T cdv A outer s H E hr g.1 g.2
theorem bd_chances_of (T : Tp K mg) (cdv : Value) (A : Around) (outer : List Env) (s : Shared) (H : Hp) (E : XK) (hr : Room 2 (A.deeper (envOfC "chances_of" (defScope (topS 12)) s.heap.objs.size T.f14 cdv))) (odds_ : (List Int)) : SF (cx0 P w K mg base N14 "chances_of" (topS 12) T.f14 cdv A outer s H E) (m := Option) wd0 W0 H [some (.frz ((eTup eInt) odds_)), none, none] (defBody (topS 12)) (eLst (eT2 eInt eInt)) (m_chances_of odds_) :=
  have nd := sc14.nd
  (SL.atR (R' := [some (.frz ((eTup eInt) odds_)), none, none]) (SL.asc (sl_set (i := 1) (ea := eInt) nd rfl (.inr rfl) (ltR 3 rfl rfl) (SX.eq (se_sumT rfl rfl T.z_sum (SX.b (se_var (ea := (eTup eInt)) (d := odds_) (i := 0) rfl (.inl rfl) rfl rfl rfl))) (by first | with_reducible rfl | (simp only [pure_bind, bind_assoc, bind_pure, tt_if, bif_and, bif_or]; done) | (simp only [pure_bind, bind_assoc, bind_pure, tt_if, bif_and, bif_or]; with_reducible rfl) | (simp only [pure_bind, bind_assoc, bind_pure, tt_if, bif_and, bif_or]; rfl) | rfl)) (fun whole_ => (SL.atR (R' := [some (.frz ((eTup eInt) odds_)), some (.frz (eInt whole_)), none]) (sf_ret (SX.eq (SX.f (so_comp (eb := (eT2 eInt eInt)) (own := [("own", 2)]) (g := (gName 2)) (is := [2]) (dts := (fun a => [eInt a])) (mt := fun own_ => pure true) (me := fun own_ => (fromO (m_fraction own_ whole_))) rfl nd (si_tup (ea := eInt) (SX.b (se_var (ea := (eTup eInt)) (d := odds_) (i := 0) rfl (.inl rfl) rfl rfl rfl)) (fun h => h.firms)) (blkOk_by rfl) (fun _ _ _ _ _ => (pg_name (i := 2) nd rfl (.inl rfl))) g_name (by decide) (ltAll 3 rfl rfl) (fun own_ _ _ _ _ _ => sf_nil) (fun own_ _ _ _ _ _ => (SX.eq (se_call (FnOk.mono (ok_fraction T) (by decide)) hr rfl T.g7 T.F7.kp T.b7 (sa_cons (ea := eInt) (eg := fun g : Int => [eInt g]) (se_var (ea := eInt) (d := own_) (i := 2) rfl (.inl rfl) rfl rfl rfl) (sa_one (ea := eInt) (se_var (ea := eInt) (d := whole_) (i := 1) rfl (.inr (.inl rfl)) rfl rfl rfl))) rfl rfl rfl) (by first | with_reducible rfl | (simp only [pure_bind, bind_assoc, bind_pure, tt_if, bif_and, bif_or]; done) | (simp only [pure_bind, bind_assoc, bind_pure, tt_if, bif_and, bif_or]; with_reducible rfl) | (simp only [pure_bind, bind_assoc, bind_pure, tt_if, bif_and, bif_or]; rfl) | rfl))))) (by first | with_reducible rfl | (simp only [pure_bind, bind_assoc, bind_pure, tt_if, bif_and, bif_or]; done) | (simp only [pure_bind, bind_assoc, bind_pure, tt_if, bif_and, bif_or]; with_reducible rfl) | (simp only [pure_bind, bind_assoc, bind_pure, tt_if, bif_and, bif_or]; rfl) | rfl))) rfl)) rfl (.inl rfl))) rfl)
theorem ok_chances_of (T : Tp K mg) : FnOk P w K mg base CX0 3 T.f14 T.d14 p14 (spP K w (fun g : (List Int) => [(eTup eInt) g]) (eLst (eT2 eInt eInt)) (fun g => m_chances_of g)) :=
  fn_pure T.F14 sc14 (fun _ => rfl) (by decide) fun cdv A outer s H E hr g => bd_chances_of T cdv A outer s H E hr g
theorem bd__law_add (T : Tp K mg) (cdv : Value) (A : Around) (outer : List Env) (s : Shared) (H : Hp) (E : XK) (hr : Room 2 (A.deeper (envOfC "_law_add" (defScope (topS 29)) s.heap.objs.size T.f15 cdv))) (one_ : (Int × Int)) (other_ : (Int × Int)) : SF (cx0 P w K mg base N15 "_law_add" (topS 29) T.f15 cdv A outer s H E) (m := Option) wd0 W0 H [some (.frz ((eT2 eInt eInt) one_)), some (.frz ((eT2 eInt eInt) other_))] (defBody (topS 29)) (eT2 eInt eInt) (m__law_add one_ other_) :=
  have nd := sc15.nd
  (SL.atR (R' := [some (.frz ((eT2 eInt eInt) one_)), some (.frz ((eT2 eInt eInt) other_))]) (sf_ret (SX.eq (se_call (FnOk.mono (ok__law_frac T) (by decide)) hr rfl T.g9 T.F9.kp T.b9 (sa_cons (ea := eInt) (eg := fun g : Int => [eInt g]) (se_add (SX.b (se_mul (SX.b (se_ixCI (ea := (eT2 eInt eInt)) (ec := eInt) (i := 0) (f := fun p => p.1) (SX.b (se_var (ea := (eT2 eInt eInt)) (d := one_) (i := 0) rfl (.inl rfl) rfl rfl rfl)) (SX.b se_int) (fun _ _ => rfl) (fun p => ⟨_, rfl, rfl⟩))) (SX.b (se_ixCI (ea := (eT2 eInt eInt)) (ec := eInt) (i := 1) (f := fun p => p.2) (SX.b (se_var (ea := (eT2 eInt eInt)) (d := other_) (i := 1) rfl (.inl rfl) rfl rfl rfl)) (SX.b se_int) (fun _ _ => rfl) (fun p => ⟨_, rfl, rfl⟩))))) (SX.b (se_mul (SX.b (se_ixCI (ea := (eT2 eInt eInt)) (ec := eInt) (i := 0) (f := fun p => p.1) (SX.b (se_var (ea := (eT2 eInt eInt)) (d := other_) (i := 1) rfl (.inl rfl) rfl rfl rfl)) (SX.b se_int) (fun _ _ => rfl) (fun p => ⟨_, rfl, rfl⟩))) (SX.b (se_ixCI (ea := (eT2 eInt eInt)) (ec := eInt) (i := 1) (f := fun p => p.2) (SX.b (se_var (ea := (eT2 eInt eInt)) (d := one_) (i := 0) rfl (.inl rfl) rfl rfl rfl)) (SX.b se_int) (fun _ _ => rfl) (fun p => ⟨_, rfl, rfl⟩)))))) (sa_one (ea := eInt) (se_mul (SX.b (se_ixCI (ea := (eT2 eInt eInt)) (ec := eInt) (i := 1) (f := fun p => p.2) (SX.b (se_var (ea := (eT2 eInt eInt)) (d := one_) (i := 0) rfl (.inl rfl) rfl rfl rfl)) (SX.b se_int) (fun _ _ => rfl) (fun p => ⟨_, rfl, rfl⟩))) (SX.b (se_ixCI (ea := (eT2 eInt eInt)) (ec := eInt) (i := 1) (f := fun p => p.2) (SX.b (se_var (ea := (eT2 eInt eInt)) (d := other_) (i := 1) rfl (.inl rfl) rfl rfl rfl)) (SX.b se_int) (fun _ _ => rfl) (fun p => ⟨_, rfl, rfl⟩)))))) rfl rfl rfl) (by first | with_reducible rfl | (simp only [pure_bind, bind_assoc, bind_pure, tt_if, bif_and, bif_or]; done) | (simp only [pure_bind, bind_assoc, bind_pure, tt_if, bif_and, bif_or]; with_reducible rfl) | (simp only [pure_bind, bind_assoc, bind_pure, tt_if, bif_and, bif_or]; rfl) | rfl))) rfl)
theorem ok__law_add (T : Tp K mg) : FnOk P w K mg base CX0 3 T.f15 T.d15 p15 (spP K w (fun g : (Int × Int) × (Int × Int) => [(eT2 eInt eInt) g.1, (eT2 eInt eInt) g.2]) (eT2 eInt eInt) (fun g => m__law_add g.1 g.2)) :=
  fn_pure T.F15 sc15 (fun _ => rfl) (by decide) fun cdv A outer s H E hr g => bd__law_add T cdv A outer s H E hr g.1 g.2
theorem bd__law_less (T : Tp K mg) (cdv : Value) (A : Around) (outer : List Env) (s : Shared) (H : Hp) (E : XK) (hr : Room 2 (A.deeper (envOfC "_law_less" (defScope (topS 30)) s.heap.objs.size T.f16 cdv))) (one_ : (Int × Int)) (other_ : (Int × Int)) : SF (cx0 P w K mg base N16 "_law_less" (topS 30) T.f16 cdv A outer s H E) (m := Option) wd0 W0 H [some (.frz ((eT2 eInt eInt) one_)), some (.frz ((eT2 eInt eInt) other_))] (defBody (topS 30)) (eT2 eInt eInt) (m__law_less one_ other_) :=
  have nd := sc16.nd
  (SL.atR (R' := [some (.frz ((eT2 eInt eInt) one_)), some (.frz ((eT2 eInt eInt) other_))]) (sf_ret (SX.eq (se_call (FnOk.mono (ok__law_frac T) (by decide)) hr rfl T.g9 T.F9.kp T.b9 (sa_cons (ea := eInt) (eg := fun g : Int => [eInt g]) (se_sub (SX.b (se_mul (SX.b (se_ixCI (ea := (eT2 eInt eInt)) (ec := eInt) (i := 0) (f := fun p => p.1) (SX.b (se_var (ea := (eT2 eInt eInt)) (d := one_) (i := 0) rfl (.inl rfl) rfl rfl rfl)) (SX.b se_int) (fun _ _ => rfl) (fun p => ⟨_, rfl, rfl⟩))) (SX.b (se_ixCI (ea := (eT2 eInt eInt)) (ec := eInt) (i := 1) (f := fun p => p.2) (SX.b (se_var (ea := (eT2 eInt eInt)) (d := other_) (i := 1) rfl (.inl rfl) rfl rfl rfl)) (SX.b se_int) (fun _ _ => rfl) (fun p => ⟨_, rfl, rfl⟩))))) (SX.b (se_mul (SX.b (se_ixCI (ea := (eT2 eInt eInt)) (ec := eInt) (i := 0) (f := fun p => p.1) (SX.b (se_var (ea := (eT2 eInt eInt)) (d := other_) (i := 1) rfl (.inl rfl) rfl rfl rfl)) (SX.b se_int) (fun _ _ => rfl) (fun p => ⟨_, rfl, rfl⟩))) (SX.b (se_ixCI (ea := (eT2 eInt eInt)) (ec := eInt) (i := 1) (f := fun p => p.2) (SX.b (se_var (ea := (eT2 eInt eInt)) (d := one_) (i := 0) rfl (.inl rfl) rfl rfl rfl)) (SX.b se_int) (fun _ _ => rfl) (fun p => ⟨_, rfl, rfl⟩)))))) (sa_one (ea := eInt) (se_mul (SX.b (se_ixCI (ea := (eT2 eInt eInt)) (ec := eInt) (i := 1) (f := fun p => p.2) (SX.b (se_var (ea := (eT2 eInt eInt)) (d := one_) (i := 0) rfl (.inl rfl) rfl rfl rfl)) (SX.b se_int) (fun _ _ => rfl) (fun p => ⟨_, rfl, rfl⟩))) (SX.b (se_ixCI (ea := (eT2 eInt eInt)) (ec := eInt) (i := 1) (f := fun p => p.2) (SX.b (se_var (ea := (eT2 eInt eInt)) (d := other_) (i := 1) rfl (.inl rfl) rfl rfl rfl)) (SX.b se_int) (fun _ _ => rfl) (fun p => ⟨_, rfl, rfl⟩)))))) rfl rfl rfl) (by first | with_reducible rfl | (simp only [pure_bind, bind_assoc, bind_pure, tt_if, bif_and, bif_or]; done) | (simp only [pure_bind, bind_assoc, bind_pure, tt_if, bif_and, bif_or]; with_reducible rfl) | (simp only [pure_bind, bind_assoc, bind_pure, tt_if, bif_and, bif_or]; rfl) | rfl))) rfl)
theorem ok__law_less (T : Tp K mg) : FnOk P w K mg base CX0 3 T.f16 T.d16 p16 (spP K w (fun g : (Int × Int) × (Int × Int) => [(eT2 eInt eInt) g.1, (eT2 eInt eInt) g.2]) (eT2 eInt eInt) (fun g => m__law_less g.1 g.2)) :=
  fn_pure T.F16 sc16 (fun _ => rfl) (by decide) fun cdv A outer s H E hr g => bd__law_less T cdv A outer s H E hr g.1 g.2
theorem bd__law_mul (T : Tp K mg) (cdv : Value) (A : Around) (outer : List Env) (s : Shared) (H : Hp) (E : XK) (hr : Room 2 (A.deeper (envOfC "_law_mul" (defScope (topS 31)) s.heap.objs.size T.f17 cdv))) (one_ : (Int × Int)) (other_ : (Int × Int)) : SF (cx0 P w K mg base N17 "_law_mul" (topS 31) T.f17 cdv A outer s H E) (m := Option) wd0 W0 H [some (.frz ((eT2 eInt eInt) one_)), some (.frz ((eT2 eInt eInt) other_))] (defBody (topS 31)) (eT2 eInt eInt) (m__law_mul one_ other_) :=
  have nd := sc17.nd
  (SL.atR (R' := [some (.frz ((eT2 eInt eInt) one_)), some (.frz ((eT2 eInt eInt) other_))]) (sf_ret (SX.eq (se_call (FnOk.mono (ok__law_frac T) (by decide)) hr rfl T.g9 T.F9.kp T.b9 (sa_cons (ea := eInt) (eg := fun g : Int => [eInt g]) (se_mul (SX.b (se_ixCI (ea := (eT2 eInt eInt)) (ec := eInt) (i := 0) (f := fun p => p.1) (SX.b (se_var (ea := (eT2 eInt eInt)) (d := one_) (i := 0) rfl (.inl rfl) rfl rfl rfl)) (SX.b se_int) (fun _ _ => rfl) (fun p => ⟨_, rfl, rfl⟩))) (SX.b (se_ixCI (ea := (eT2 eInt eInt)) (ec := eInt) (i := 0) (f := fun p => p.1) (SX.b (se_var (ea := (eT2 eInt eInt)) (d := other_) (i := 1) rfl (.inl rfl) rfl rfl rfl)) (SX.b se_int) (fun _ _ => rfl) (fun p => ⟨_, rfl, rfl⟩)))) (sa_one (ea := eInt) (se_mul (SX.b (se_ixCI (ea := (eT2 eInt eInt)) (ec := eInt) (i := 1) (f := fun p => p.2) (SX.b (se_var (ea := (eT2 eInt eInt)) (d := one_) (i := 0) rfl (.inl rfl) rfl rfl rfl)) (SX.b se_int) (fun _ _ => rfl) (fun p => ⟨_, rfl, rfl⟩))) (SX.b (se_ixCI (ea := (eT2 eInt eInt)) (ec := eInt) (i := 1) (f := fun p => p.2) (SX.b (se_var (ea := (eT2 eInt eInt)) (d := other_) (i := 1) rfl (.inl rfl) rfl rfl rfl)) (SX.b se_int) (fun _ _ => rfl) (fun p => ⟨_, rfl, rfl⟩)))))) rfl rfl rfl) (by first | with_reducible rfl | (simp only [pure_bind, bind_assoc, bind_pure, tt_if, bif_and, bif_or]; done) | (simp only [pure_bind, bind_assoc, bind_pure, tt_if, bif_and, bif_or]; with_reducible rfl) | (simp only [pure_bind, bind_assoc, bind_pure, tt_if, bif_and, bif_or]; rfl) | rfl))) rfl)
theorem ok__law_mul (T : Tp K mg) : FnOk P w K mg base CX0 3 T.f17 T.d17 p17 (spP K w (fun g : (Int × Int) × (Int × Int) => [(eT2 eInt eInt) g.1, (eT2 eInt eInt) g.2]) (eT2 eInt eInt) (fun g => m__law_mul g.1 g.2)) :=
  fn_pure T.F17 sc17 (fun _ => rfl) (by decide) fun cdv A outer s H E hr g => bd__law_mul T cdv A outer s H E hr g.1 g.2
theorem bd_total (T : Tp K mg) (cdv : Value) (A : Around) (outer : List Env) (s : Shared) (H : Hp) (E : XK) (hr : Room 3 (A.deeper (envOfC "total" (defScope (topS 8)) s.heap.objs.size T.f18 cdv))) (fractions_ : (List (Int × Int))) : SF (cx0 P w K mg base N18 "total" (topS 8) T.f18 cdv A outer s H E) (m := Option) wd0 W0 H [some (.frz ((eLst (eT2 eInt eInt)) fractions_)), none, none] (defBody (topS 8)) (eT2 eInt eInt) (m_total fractions_) :=
  have nd := sc18.nd
  (SL.atR (R' := [some (.frz ((eLst (eT2 eInt eInt)) fractions_)), none, none]) (SL.asc (sl_set (i := 1) (ea := (eT2 eInt eInt)) nd rfl (.inl rfl) (ltR 3 rfl rfl) (SX.eq (se_tup (et := (eT2 eInt eInt)) (sa_cons (ea := eInt) (eg := fun g : Int => [eInt g]) se_int (sa_one (ea := eInt) se_int)) (fun _ => rfl) (fun _ => Nat.le_of_ble_eq_true rfl)) (by first | with_reducible rfl | (simp only [pure_bind, bind_assoc, bind_pure, tt_if, bif_and, bif_or]; done) | (simp only [pure_bind, bind_assoc, bind_pure, tt_if, bif_and, bif_or]; with_reducible rfl) | (simp only [pure_bind, bind_assoc, bind_pure, tt_if, bif_and, bif_or]; rfl) | rfl)) (fun found_ => (SL.atR (R' := [some (.frz ((eLst (eT2 eInt eInt)) fractions_)), some (.frz ((eT2 eInt eInt) found_)), none]) (SL.asc2 (sl_forP (Rl := fun d : (Int × Int) => [some (.frz ((eLst (eT2 eInt eInt)) fractions_)), some (.frz ((eT2 eInt eInt) d)), none]) (d0 := found_) (g := (gName 2)) (is := [2]) (dts := (fun a => [(eT2 eInt eInt) a])) PassesOwn.never rfl (SI.eq (si_lst (ea := (eT2 eInt eInt)) (se_var (ea := (eLst (eT2 eInt eInt))) (d := fractions_) (i := 0) rfl (.inl rfl) rfl rfl rfl) (fun h => h)) (by first | with_reducible rfl | (simp only [pure_bind, bind_assoc, bind_pure, tt_if, bif_and, bif_or]; done) | (simp only [pure_bind, bind_assoc, bind_pure, tt_if, bif_and, bif_or]; with_reducible rfl) | (simp only [pure_bind, bind_assoc, bind_pure, tt_if, bif_and, bif_or]; rfl) | rfl)) (pg_name (i := 2) nd rfl (.inl rfl)) g_name (subC (subC (subN subE))) (fun _ => ltAll 3 rfl rfl) (fun one_ d_ => (SL.atR (R' := [some (.frz ((eLst (eT2 eInt eInt)) fractions_)), some (.frz ((eT2 eInt eInt) d_)), some (.frz ((eT2 eInt eInt) one_))]) (SL.asc (sl_set (i := 1) (ea := (eT2 eInt eInt)) nd rfl (.inl rfl) (ltR 3 rfl rfl) (SX.eq (se_call (FnOk.mono (ok_plus T) (by decide)) hr rfl T.g10 T.F10.kp T.b10 (sa_cons (ea := (eT2 eInt eInt)) (eg := fun g : (Int × Int) => [(eT2 eInt eInt) g]) (se_var (ea := (eT2 eInt eInt)) (d := d_) (i := 1) rfl (.inl rfl) rfl rfl rfl) (sa_one (ea := (eT2 eInt eInt)) (se_var (ea := (eT2 eInt eInt)) (d := one_) (i := 2) rfl (.inl rfl) rfl rfl rfl))) rfl rfl rfl) (by first | with_reducible rfl | (simp only [pure_bind, bind_assoc, bind_pure, tt_if, bif_and, bif_or]; done) | (simp only [pure_bind, bind_assoc, bind_pure, tt_if, bif_and, bif_or]; with_reducible rfl) | (simp only [pure_bind, bind_assoc, bind_pure, tt_if, bif_and, bif_or]; rfl) | rfl)) (fun found_2 => (sp_nil found_2 (subC (subC (subN subE))))) rfl (.inr rfl))) rfl)) (fun d_2 => (SL.atR (R' := [some (.frz ((eLst (eT2 eInt eInt)) fractions_)), some (.frz ((eT2 eInt eInt) d_2)), none]) (sf_ret (se_var (ea := (eT2 eInt eInt)) (d := d_2) (i := 1) rfl (.inl rfl) rfl rfl rfl)) rfl)) (fun _ => rfl))) rfl)) rfl (.inr rfl))) rfl)
theorem ok_total (T : Tp K mg) : FnOk P w K mg base CX0 4 T.f18 T.d18 p18 (spP K w (fun g : (List (Int × Int)) => [(eLst (eT2 eInt eInt)) g]) (eT2 eInt eInt) (fun g => m_total g)) :=
  fn_pure T.F18 sc18 (fun _ => rfl) (by decide) fun cdv A outer s H E hr g => bd_total T cdv A outer s H E hr g
theorem bd_missed (T : Tp K mg) (cdv : Value) (A : Around) (outer : List Env) (s : Shared) (H : Hp) (E : XK) (hr : Room 3 (A.deeper (envOfC "missed" (defScope (topS 13)) s.heap.objs.size T.f19 cdv))) (sights_ : (List (Int × Int))) (plan_ : (List Int)) : SF (cx0 P w K mg base N19 "missed" (topS 13) T.f19 cdv A outer s H E) (m := Option) wd0 W0 H [some (.frz ((eTup (eT2 eInt eInt)) sights_)), some (.frz ((eTup eInt) plan_)), none, none] (defBody (topS 13)) (eLst (eT2 eInt eInt)) (m_missed sights_ plan_) :=
  have nd := sc19.nd
  (SL.atR (R' := [some (.frz ((eTup (eT2 eInt eInt)) sights_)), some (.frz ((eTup eInt) plan_)), none, none]) (SL.asc (sl_setO (i := 2) (ea := (eT2 eInt eInt)) nd rfl (.inl rfl) (ltR 4 rfl rfl) (SX.eq (so_repL (so_lst (ea := (eT2 eInt eInt)) (f := (fun g => [g])) (sa_one (ea := (eT2 eInt eInt)) (se_glob (ea := (eT2 eInt eInt)) (d := ((1 : Int), (1 : Int))) rfl T.c_WHOLE rfl)) (fun _ => rfl) (fun _ => Nat.le_of_ble_eq_true rfl)) (SX.b (se_lenT (ea := (eT2 eInt eInt)) rfl T.z_len (SX.b (se_var (ea := (eTup (eT2 eInt eInt))) (d := sights_) (i := 0) rfl (.inl rfl) rfl rfl rfl))))) (by first | with_reducible rfl | (simp only [pure_bind, bind_assoc, bind_pure, tt_if, bif_and, bif_or]; done) | (simp only [pure_bind, bind_assoc, bind_pure, tt_if, bif_and, bif_or]; with_reducible rfl) | (simp only [pure_bind, bind_assoc, bind_pure, tt_if, bif_and, bif_or]; rfl) | rfl)) (fun found_ => (SL.atR (R' := [some (.frz ((eTup (eT2 eInt eInt)) sights_)), some (.frz ((eTup eInt) plan_)), some (.own (List.map (eT2 eInt eInt) found_)), none]) (SL.asc2 (sl_forP (Rl := fun d : (List (Int × Int)) => [some (.frz ((eTup (eT2 eInt eInt)) sights_)), some (.frz ((eTup eInt) plan_)), some (.own (List.map (eT2 eInt eInt) d)), none]) (d0 := found_) (g := (gName 3)) (is := [3]) (dts := (fun a => [eInt a])) PassesOwn.never rfl (SI.eq (si_tup (ea := eInt) (SX.b (se_var (ea := (eTup eInt)) (d := plan_) (i := 1) rfl (.inl rfl) rfl rfl rfl)) (fun h => h)) (by first | with_reducible rfl | (simp only [pure_bind, bind_assoc, bind_pure, tt_if, bif_and, bif_or]; done) | (simp only [pure_bind, bind_assoc, bind_pure, tt_if, bif_and, bif_or]; with_reducible rfl) | (simp only [pure_bind, bind_assoc, bind_pure, tt_if, bif_and, bif_or]; rfl) | rfl)) (pg_name (i := 3) nd rfl (.inl rfl)) g_name (subC (subC (subC (subN subE)))) (fun _ => ltAll 4 rfl rfl) (fun k_ d_ => (SL.atR (R' := [some (.frz ((eTup (eT2 eInt eInt)) sights_)), some (.frz ((eTup eInt) plan_)), some (.own (List.map (eT2 eInt eInt) d_)), some (.frz (eInt k_))]) (SL.asc3 (sl_setI (i := 2) (ea := (eT2 eInt eInt)) (xs := d_) rfl (.inl rfl) rfl rfl rfl (SX.eq (se_call (FnOk.mono (ok_times T) (by decide)) hr rfl T.g12 T.F12.kp T.b12 (sa_cons (ea := (eT2 eInt eInt)) (eg := fun g : (Int × Int) => [(eT2 eInt eInt) g]) (se_ixL (ea := (eT2 eInt eInt)) (sb_own (ea := (eT2 eInt eInt)) (d := d_) (i := 2) rfl (.inl rfl) rfl rfl rfl) (SX.b (se_var (ea := eInt) (d := k_) (i := 3) rfl (.inl rfl) rfl rfl rfl)) (fun _ _ => rfl)) (sa_one (ea := (eT2 eInt eInt)) (se_call (FnOk.mono (ok_minus T) (by decide)) hr rfl T.g11 T.F11.kp T.b11 (sa_cons (ea := (eT2 eInt eInt)) (eg := fun g : (Int × Int) => [(eT2 eInt eInt) g]) (se_glob (ea := (eT2 eInt eInt)) (d := ((1 : Int), (1 : Int))) rfl T.c_WHOLE rfl) (sa_one (ea := (eT2 eInt eInt)) (se_ixT (ea := (eT2 eInt eInt)) (SX.b (se_var (ea := (eTup (eT2 eInt eInt))) (d := sights_) (i := 0) rfl (.inl rfl) rfl rfl rfl)) (SX.b (se_var (ea := eInt) (d := k_) (i := 3) rfl (.inl rfl) rfl rfl rfl)) (fun _ _ => rfl)))) rfl rfl rfl))) rfl rfl rfl) (by first | with_reducible rfl | (simp only [pure_bind, bind_assoc, bind_pure, tt_if, bif_and, bif_or]; done) | (simp only [pure_bind, bind_assoc, bind_pure, tt_if, bif_and, bif_or]; with_reducible rfl) | (simp only [pure_bind, bind_assoc, bind_pure, tt_if, bif_and, bif_or]; rfl) | rfl)) (SX.b (se_var (ea := eInt) (d := k_) (i := 3) rfl (.inl rfl) rfl rfl rfl)) (fun found_2 => (sp_nil found_2 (subC (subC (subC (subN subE)))))) rfl rfl (fun _ => rfl) rfl)) rfl)) (fun d_2 => (SL.lock 2 rfl (SL.atR (R' := [some (.frz ((eTup (eT2 eInt eInt)) sights_)), some (.frz ((eTup eInt) plan_)), some (.frz ((eLst (eT2 eInt eInt)) d_2)), none]) (sf_ret (se_var (ea := (eLst (eT2 eInt eInt))) (d := d_2) (i := 2) rfl (.inl rfl) rfl rfl rfl)) rfl))) (fun _ => rfl))) rfl)) rfl (.inr rfl))) rfl)
theorem ok_missed (T : Tp K mg) : FnOk P w K mg base CX0 4 T.f19 T.d19 p19 (spP K w (fun g : (List (Int × Int)) × (List Int) => [(eTup (eT2 eInt eInt)) g.1, (eTup eInt) g.2]) (eLst (eT2 eInt eInt)) (fun g => m_missed g.1 g.2)) :=
  fn_pure T.F19 sc19 (fun _ => rfl) (by decide) fun cdv A outer s H E hr g => bd_missed T cdv A outer s H E hr g.1 g.2
theorem bd_order_of (T : Tp K mg) (cdv : Value) (A : Around) (outer : List Env) (s : Shared) (H : Hp) (E : XK) (hr : Room 3 (A.deeper (envOfC "order_of" (defScope (topS 22)) s.heap.objs.size T.f20 cdv))) (odds_ : (List Int)) (costs_ : (List Int)) : SF (cx0 P w K mg base N20 "order_of" (topS 22) T.f20 cdv A outer s H E) (m := Option) wd0 W0 H [some (.frz ((eTup eInt) odds_)), some (.frz ((eTup eInt) costs_)), none, none, none, none, none, none, none] (defBody (topS 22)) (eT2 (eT2 eInt eInt) (eTup eInt)) (m_order_of odds_ costs_) :=
  have nd := sc20.nd
  (SL.atR (R' := [some (.frz ((eTup eInt) odds_)), some (.frz ((eTup eInt) costs_)), none, none, none, none, none, none, none]) (SL.asc (sl_par3 (i := 2) (j := 3) (l := 4) rfl nd rfl rfl rfl (by decide) (by decide) (by decide) rfl rfl rfl (ltAll 9 rfl rfl) (SM.eq (sm_consF (se_call (FnOk.mono (ok_chances_of T) (by decide)) hr rfl T.g14 T.F14.kp T.b14 (sa_one (ea := (eTup eInt)) (se_var (ea := (eTup eInt)) (d := odds_) (i := 0) rfl (.inl rfl) rfl rfl rfl)) rfl rfl rfl) (sm_consF (SX.f (so_listR1 rfl rfl T.z_list rfl T.z_range (SX.b (se_lenT (ea := eInt) rfl T.z_len (SX.b (se_var (ea := (eTup eInt)) (d := odds_) (i := 0) rfl (.inl rfl) rfl rfl rfl)))))) (sm_oneF (se_tup0 (ea := eInt))))) (by first | with_reducible rfl | (simp only [pure_bind, bind_assoc, bind_pure, tt_if, bif_and, bif_or]; done) | (simp only [pure_bind, bind_assoc, bind_pure, tt_if, bif_and, bif_or]; with_reducible rfl) | (simp only [pure_bind, bind_assoc, bind_pure, tt_if, bif_and, bif_or]; rfl) | rfl)) (fun _ => rfl) (fun p_ => (SL.atR (R' := [some (.frz ((eTup eInt) odds_)), some (.frz ((eTup eInt) costs_)), some (.frz ((eLst (eT2 eInt eInt)) p_.1)), some (.frz ((eLst eInt) p_.2.1)), some (.frz ((eTup eInt) p_.2.2)), none, none, none, none]) (SL.asc (sl_whP (Rl := fun d : (List Int) × (List Int) => [some (.frz ((eTup eInt) odds_)), some (.frz ((eTup eInt) costs_)), some (.frz ((eLst (eT2 eInt eInt)) p_.1)), some (.frz ((eLst eInt) d.1)), some (.frz ((eTup eInt) d.2)), none, none, none, none]) (d0 := (p_.2.1, p_.2.2)) PassesOwn.never (subC (subC (subC (subC (subC (subN (subN (subN (subN subE))))))))) (fun d_ => (ST.eq (SC.t (sc_neT (eq_lst eq_int) (by decide) hr.units (SX.b (se_var (ea := (eLst eInt)) (d := d_.1) (i := 3) rfl (.inl rfl) rfl rfl rfl)) (SX.ob (so_nil (ea := eInt)))) rfl) (by first | with_reducible rfl | (simp only [pure_bind, bind_assoc, bind_pure, tt_if, bif_and, bif_or]; done) | (simp only [pure_bind, bind_assoc, bind_pure, tt_if, bif_and, bif_or]; with_reducible rfl) | (simp only [pure_bind, bind_assoc, bind_pure, tt_if, bif_and, bif_or]; rfl) | rfl))) (fun d_ => (SL.atR (R' := [some (.frz ((eTup eInt) odds_)), some (.frz ((eTup eInt) costs_)), some (.frz ((eLst (eT2 eInt eInt)) p_.1)), some (.frz ((eLst eInt) d_.1)), some (.frz ((eTup eInt) d_.2)), none, none, none, none]) (SL.asc (sl_set (i := 5) (ea := eInt) nd rfl (.inr rfl) (ltR 9 rfl rfl) (SX.eq (se_ixL (ea := eInt) (SX.b (se_var (ea := (eLst eInt)) (d := d_.1) (i := 3) rfl (.inl rfl) rfl rfl rfl)) (SX.b se_int) (fun _ _ => rfl)) (by first | with_reducible rfl | (simp only [pure_bind, bind_assoc, bind_pure, tt_if, bif_and, bif_or]; done) | (simp only [pure_bind, bind_assoc, bind_pure, tt_if, bif_and, bif_or]; with_reducible rfl) | (simp only [pure_bind, bind_assoc, bind_pure, tt_if, bif_and, bif_or]; rfl) | rfl)) (fun best_ => (SL.atR (R' := [some (.frz ((eTup eInt) odds_)), some (.frz ((eTup eInt) costs_)), some (.frz ((eLst (eT2 eInt eInt)) p_.1)), some (.frz ((eLst eInt) d_.1)), some (.frz ((eTup eInt) d_.2)), some (.frz (eInt best_)), none, none, none]) (SL.asc2 (sl_forP (Rl := fun d : Int => [some (.frz ((eTup eInt) odds_)), some (.frz ((eTup eInt) costs_)), some (.frz ((eLst (eT2 eInt eInt)) p_.1)), some (.frz ((eLst eInt) d_.1)), some (.frz ((eTup eInt) d_.2)), some (.frz (eInt d)), none, none, none]) (d0 := best_) (g := (gName 6)) (is := [6]) (dts := (fun a => [eInt a])) PassesOwn.never rfl (SI.eq (si_lst (ea := eInt) (se_var (ea := (eLst eInt)) (d := d_.1) (i := 3) rfl (.inl rfl) rfl rfl rfl) (fun h => h)) (by first | with_reducible rfl | (simp only [pure_bind, bind_assoc, bind_pure, tt_if, bif_and, bif_or]; done) | (simp only [pure_bind, bind_assoc, bind_pure, tt_if, bif_and, bif_or]; with_reducible rfl) | (simp only [pure_bind, bind_assoc, bind_pure, tt_if, bif_and, bif_or]; rfl) | rfl)) (pg_name (i := 6) nd rfl (.inl rfl)) g_name (subC (subC (subC (subC (subC (subC (subN (subN (subN subE))))))))) (fun _ => ltAll 9 rfl rfl) (fun k_ d_3 => (SL.atR (R' := [some (.frz ((eTup eInt) odds_)), some (.frz ((eTup eInt) costs_)), some (.frz ((eLst (eT2 eInt eInt)) p_.1)), some (.frz ((eLst eInt) d_.1)), some (.frz ((eTup eInt) d_.2)), some (.frz (eInt d_3)), some (.frz (eInt k_)), none, none]) (SL.asc (sl_set (i := 5) (ea := eInt) nd rfl (.inr rfl) (ltR 9 rfl rfl) (SX.eq (sx_if kF_ok (SX.t (se_call (FnOk.mono (ok_is_less T) (by decide)) hr rfl T.g1 T.F1.kp T.b1 (sa_cons (ea := (eT2 eInt eInt)) (eg := fun g : (Int × Int) => [(eT2 eInt eInt) g]) (se_call (FnOk.mono (ok_times T) (by decide)) hr rfl T.g12 T.F12.kp T.b12 (sa_cons (ea := (eT2 eInt eInt)) (eg := fun g : (Int × Int) => [(eT2 eInt eInt) g]) (se_ixL (ea := (eT2 eInt eInt)) (SX.b (se_var (ea := (eLst (eT2 eInt eInt))) (d := p_.1) (i := 2) rfl (.inl rfl) rfl rfl rfl)) (SX.b (se_var (ea := eInt) (d := d_3) (i := 5) rfl (.inr (.inl rfl)) rfl rfl rfl)) (fun _ _ => rfl)) (sa_one (ea := (eT2 eInt eInt)) (se_tup (et := (eT2 eInt eInt)) (sa_cons (ea := eInt) (eg := fun g : Int => [eInt g]) (se_ixT (ea := eInt) (SX.b (se_var (ea := (eTup eInt)) (d := costs_) (i := 1) rfl (.inl rfl) rfl rfl rfl)) (SX.b (se_var (ea := eInt) (d := k_) (i := 6) rfl (.inl rfl) rfl rfl rfl)) (fun _ _ => rfl)) (sa_one (ea := eInt) se_int)) (fun _ => rfl) (fun _ => Nat.le_of_ble_eq_true rfl)))) rfl rfl rfl) (sa_one (ea := (eT2 eInt eInt)) (se_call (FnOk.mono (ok_times T) (by decide)) hr rfl T.g12 T.F12.kp T.b12 (sa_cons (ea := (eT2 eInt eInt)) (eg := fun g : (Int × Int) => [(eT2 eInt eInt) g]) (se_ixL (ea := (eT2 eInt eInt)) (SX.b (se_var (ea := (eLst (eT2 eInt eInt))) (d := p_.1) (i := 2) rfl (.inl rfl) rfl rfl rfl)) (SX.b (se_var (ea := eInt) (d := k_) (i := 6) rfl (.inl rfl) rfl rfl rfl)) (fun _ _ => rfl)) (sa_one (ea := (eT2 eInt eInt)) (se_tup (et := (eT2 eInt eInt)) (sa_cons (ea := eInt) (eg := fun g : Int => [eInt g]) (se_ixT (ea := eInt) (SX.b (se_var (ea := (eTup eInt)) (d := costs_) (i := 1) rfl (.inl rfl) rfl rfl rfl)) (SX.b (se_var (ea := eInt) (d := d_3) (i := 5) rfl (.inr (.inl rfl)) rfl rfl rfl)) (fun _ _ => rfl)) (sa_one (ea := eInt) se_int)) (fun _ => rfl) (fun _ => Nat.le_of_ble_eq_true rfl)))) rfl rfl rfl))) rfl rfl rfl) (fun _ => rfl)) (se_var (ea := eInt) (d := k_) (i := 6) rfl (.inl rfl) rfl rfl rfl) (se_var (ea := eInt) (d := d_3) (i := 5) rfl (.inr (.inl rfl)) rfl rfl rfl)) (by first | with_reducible rfl | (simp only [pure_bind, bind_assoc, bind_pure, tt_if, bif_and, bif_or]; done) | (simp only [pure_bind, bind_assoc, bind_pure, tt_if, bif_and, bif_or]; with_reducible rfl) | (simp only [pure_bind, bind_assoc, bind_pure, tt_if, bif_and, bif_or]; rfl) | rfl)) (fun best_2 => (sp_nil best_2 (subC (subC (subC (subC (subC (subC (subN (subN (subN subE))))))))))) rfl (.inl rfl))) rfl)) (fun d_4 => (SL.atR (R' := [some (.frz ((eTup eInt) odds_)), some (.frz ((eTup eInt) costs_)), some (.frz ((eLst (eT2 eInt eInt)) p_.1)), some (.frz ((eLst eInt) d_.1)), some (.frz ((eTup eInt) d_.2)), some (.frz (eInt d_4)), none, none, none]) (SL.asc (sl_par2 (i := 3) (j := 4) rfl nd rfl rfl (by decide) rfl rfl (ltAll 9 rfl rfl) (SM.eq (sm_consF (SX.f (so_comp (eb := eInt) (own := [("k", 6)]) (g := (gName 6)) (is := [6]) (dts := (fun a => [eInt a])) (mt := fun k_2 => (pure (!decide (k_2 = d_4)))) (me := fun k_2 => (pure k_2)) rfl nd (si_lst (ea := eInt) (se_var (ea := (eLst eInt)) (d := d_.1) (i := 3) rfl (.inl rfl) rfl rfl rfl) (fun h => h.firms)) (blkOk_by rfl) (fun _ _ _ _ _ => (pg_name (i := 6) nd rfl (.inl rfl))) g_name (by decide) (ltAll 9 rfl rfl) (fun k_2 _ _ _ _ _ => (SIf.eq (sf_one (SC.t (sc_neT eq_int (by decide) hr.units (SX.b (se_var (ea := eInt) (d := k_2) (i := 6) rfl (.inl rfl) rfl rfl rfl)) (SX.b (se_var (ea := eInt) (d := d_4) (i := 5) rfl (.inr (.inl rfl)) rfl rfl rfl))) rfl)) (by first | with_reducible rfl | (simp only [pure_bind, bind_assoc, bind_pure, tt_if, bif_and, bif_or]; done) | (simp only [pure_bind, bind_assoc, bind_pure, tt_if, bif_and, bif_or]; with_reducible rfl) | (simp only [pure_bind, bind_assoc, bind_pure, tt_if, bif_and, bif_or]; rfl) | rfl))) (fun k_2 _ _ _ _ _ => (se_var (ea := eInt) (d := k_2) (i := 6) rfl (.inl rfl) rfl rfl rfl)))) (sm_oneF (se_catT (SX.b (se_var (ea := (eTup eInt)) (d := d_.2) (i := 4) rfl (.inl rfl) rfl rfl rfl)) (SX.b (se_tupH (ea := eInt) (f := (fun g => [g])) (sa_one (ea := eInt) (se_var (ea := eInt) (d := d_4) (i := 5) rfl (.inr (.inl rfl)) rfl rfl rfl)) (fun _ => rfl) (fun _ => Nat.le_of_ble_eq_true rfl)))))) (by first | with_reducible rfl | (simp only [pure_bind, bind_assoc, bind_pure, tt_if, bif_and, bif_or]; done) | (simp only [pure_bind, bind_assoc, bind_pure, tt_if, bif_and, bif_or]; with_reducible rfl) | (simp only [pure_bind, bind_assoc, bind_pure, tt_if, bif_and, bif_or]; rfl) | rfl)) (fun _ => rfl) (fun p_2 => (sp_nil (p_2.1, p_2.2) (subC (subC (subC (subC (subC (subN (subN (subN (subN subE))))))))))) rfl rfl)) rfl)) (fun _ => rfl))) rfl)) rfl (.inl rfl))) rfl)) (fun d_2 => (SL.atR (R' := [some (.frz ((eTup eInt) odds_)), some (.frz ((eTup eInt) costs_)), some (.frz ((eLst (eT2 eInt eInt)) p_.1)), some (.frz ((eLst eInt) d_2.1)), some (.frz ((eTup eInt) d_2.2)), none, none, none, none]) (SL.asc (sl_par2 (i := 7) (j := 8) rfl nd rfl rfl (by decide) rfl rfl (ltAll 9 rfl rfl) (SM.eq (sm_consF (se_glob (ea := (eT2 eInt eInt)) (d := ((0 : Int), (1 : Int))) rfl T.c_NOTHING rfl) (sm_oneF se_int)) (by first | with_reducible rfl | (simp only [pure_bind, bind_assoc, bind_pure, tt_if, bif_and, bif_or]; done) | (simp only [pure_bind, bind_assoc, bind_pure, tt_if, bif_and, bif_or]; with_reducible rfl) | (simp only [pure_bind, bind_assoc, bind_pure, tt_if, bif_and, bif_or]; rfl) | rfl)) (fun _ => rfl) (fun p_3 => (SL.atR (R' := [some (.frz ((eTup eInt) odds_)), some (.frz ((eTup eInt) costs_)), some (.frz ((eLst (eT2 eInt eInt)) p_.1)), some (.frz ((eLst eInt) d_2.1)), some (.frz ((eTup eInt) d_2.2)), none, none, some (.frz ((eT2 eInt eInt) p_3.1)), some (.frz (eInt p_3.2))]) (SL.asc2 (sl_forP (Rl := fun d : Int × (Int × Int) => [some (.frz ((eTup eInt) odds_)), some (.frz ((eTup eInt) costs_)), some (.frz ((eLst (eT2 eInt eInt)) p_.1)), some (.frz ((eLst eInt) d_2.1)), some (.frz ((eTup eInt) d_2.2)), none, none, some (.frz ((eT2 eInt eInt) d.2)), some (.frz (eInt d.1))]) (d0 := (p_3.2, p_3.1)) (g := (gName 6)) (is := [6]) (dts := (fun a => [eInt a])) PassesOwn.never rfl (SI.eq (si_tup (ea := eInt) (SX.b (se_var (ea := (eTup eInt)) (d := d_2.2) (i := 4) rfl (.inl rfl) rfl rfl rfl)) (fun h => h)) (by first | with_reducible rfl | (simp only [pure_bind, bind_assoc, bind_pure, tt_if, bif_and, bif_or]; done) | (simp only [pure_bind, bind_assoc, bind_pure, tt_if, bif_and, bif_or]; with_reducible rfl) | (simp only [pure_bind, bind_assoc, bind_pure, tt_if, bif_and, bif_or]; rfl) | rfl)) (pg_name (i := 6) nd rfl (.inl rfl)) g_name (subC (subC (subC (subC (subC (subN (subN (subC (subC subE))))))))) (fun _ => ltAll 9 rfl rfl) (fun k_3 d_5 => (SL.atR (R' := [some (.frz ((eTup eInt) odds_)), some (.frz ((eTup eInt) costs_)), some (.frz ((eLst (eT2 eInt eInt)) p_.1)), some (.frz ((eLst eInt) d_2.1)), some (.frz ((eTup eInt) d_2.2)), none, some (.frz (eInt k_3)), some (.frz ((eT2 eInt eInt) d_5.2)), some (.frz (eInt d_5.1))]) (SL.asc (sl_augI (i := 8) (n := d_5.1) ip_add nd rfl (.inl rfl) rfl (ltR 9 rfl rfl) (SX.eq (se_ixT (ea := eInt) (SX.b (se_var (ea := (eTup eInt)) (d := costs_) (i := 1) rfl (.inl rfl) rfl rfl rfl)) (SX.b (se_var (ea := eInt) (d := k_3) (i := 6) rfl (.inl rfl) rfl rfl rfl)) (fun _ _ => rfl)) (by first | with_reducible rfl | (simp only [pure_bind, bind_assoc, bind_pure, tt_if, bif_and, bif_or]; done) | (simp only [pure_bind, bind_assoc, bind_pure, tt_if, bif_and, bif_or]; with_reducible rfl) | (simp only [pure_bind, bind_assoc, bind_pure, tt_if, bif_and, bif_or]; rfl) | rfl)) (fun a_ => (SL.atR (R' := [some (.frz ((eTup eInt) odds_)), some (.frz ((eTup eInt) costs_)), some (.frz ((eLst (eT2 eInt eInt)) p_.1)), some (.frz ((eLst eInt) d_2.1)), some (.frz ((eTup eInt) d_2.2)), none, some (.frz (eInt k_3)), some (.frz ((eT2 eInt eInt) d_5.2)), some (.frz (eInt (d_5.1 + a_)))]) (SL.asc (sl_set (i := 7) (ea := (eT2 eInt eInt)) nd rfl (.inl rfl) (ltR 9 rfl rfl) (SX.eq (se_call (FnOk.mono (ok_plus T) (by decide)) hr rfl T.g10 T.F10.kp T.b10 (sa_cons (ea := (eT2 eInt eInt)) (eg := fun g : (Int × Int) => [(eT2 eInt eInt) g]) (se_var (ea := (eT2 eInt eInt)) (d := d_5.2) (i := 7) rfl (.inl rfl) rfl rfl rfl) (sa_one (ea := (eT2 eInt eInt)) (se_call (FnOk.mono (ok_times T) (by decide)) hr rfl T.g12 T.F12.kp T.b12 (sa_cons (ea := (eT2 eInt eInt)) (eg := fun g : (Int × Int) => [(eT2 eInt eInt) g]) (se_ixL (ea := (eT2 eInt eInt)) (SX.b (se_var (ea := (eLst (eT2 eInt eInt))) (d := p_.1) (i := 2) rfl (.inl rfl) rfl rfl rfl)) (SX.b (se_var (ea := eInt) (d := k_3) (i := 6) rfl (.inl rfl) rfl rfl rfl)) (fun _ _ => rfl)) (sa_one (ea := (eT2 eInt eInt)) (se_tup (et := (eT2 eInt eInt)) (sa_cons (ea := eInt) (eg := fun g : Int => [eInt g]) (se_var (ea := eInt) (d := (d_5.1 + a_)) (i := 8) rfl (.inl rfl) rfl rfl rfl) (sa_one (ea := eInt) se_int)) (fun _ => rfl) (fun _ => Nat.le_of_ble_eq_true rfl)))) rfl rfl rfl))) rfl rfl rfl) (by first | with_reducible rfl | (simp only [pure_bind, bind_assoc, bind_pure, tt_if, bif_and, bif_or]; done) | (simp only [pure_bind, bind_assoc, bind_pure, tt_if, bif_and, bif_or]; with_reducible rfl) | (simp only [pure_bind, bind_assoc, bind_pure, tt_if, bif_and, bif_or]; rfl) | rfl)) (fun mean_ => (sp_nil ((d_5.1 + a_), mean_) (subC (subC (subC (subC (subC (subN (subN (subC (subC subE))))))))))) rfl (.inr rfl))) rfl)) (.inr rfl))) rfl)) (fun d_6 => (SL.atR (R' := [some (.frz ((eTup eInt) odds_)), some (.frz ((eTup eInt) costs_)), some (.frz ((eLst (eT2 eInt eInt)) p_.1)), some (.frz ((eLst eInt) d_2.1)), some (.frz ((eTup eInt) d_2.2)), none, none, some (.frz ((eT2 eInt eInt) d_6.2)), some (.frz (eInt d_6.1))]) (sf_ret (SX.eq (se_tup (et := (eT2 (eT2 eInt eInt) (eTup eInt))) (sa_cons (ea := (eT2 eInt eInt)) (eg := fun g : (List Int) => [(eTup eInt) g]) (se_var (ea := (eT2 eInt eInt)) (d := d_6.2) (i := 7) rfl (.inl rfl) rfl rfl rfl) (sa_one (ea := (eTup eInt)) (se_var (ea := (eTup eInt)) (d := d_2.2) (i := 4) rfl (.inl rfl) rfl rfl rfl))) (fun _ => rfl) (fun _ => Nat.le_of_ble_eq_true rfl)) (by first | with_reducible rfl | (simp only [pure_bind, bind_assoc, bind_pure, tt_if, bif_and, bif_or]; done) | (simp only [pure_bind, bind_assoc, bind_pure, tt_if, bif_and, bif_or]; with_reducible rfl) | (simp only [pure_bind, bind_assoc, bind_pure, tt_if, bif_and, bif_or]; rfl) | rfl))) rfl)) (fun _ => rfl))) rfl)) rfl rfl)) rfl)))) rfl)) rfl rfl)) rfl)
theorem ok_order_of (T : Tp K mg) : FnOk P w K mg base CX0 4 T.f20 T.d20 p20 (spP K w (fun g : (List Int) × (List Int) => [(eTup eInt) g.1, (eTup eInt) g.2]) (eT2 (eT2 eInt eInt) (eTup eInt)) (fun g => m_order_of g.1 g.2)) :=
  fn_pure T.F20 sc20 (fun _ => rfl) (by decide) fun cdv A outer s H E hr g => bd_order_of T cdv A outer s H E hr g.1 g.2
theorem bd__law_total (T : Tp K mg) (cdv : Value) (A : Around) (outer : List Env) (s : Shared) (H : Hp) (E : XK) (hr : Room 3 (A.deeper (envOfC "_law_total" (defScope (topS 33)) s.heap.objs.size T.f21 cdv))) (rows_ : (List (Int × Int))) : SF (cx0 P w K mg base N21 "_law_total" (topS 33) T.f21 cdv A outer s H E) (m := Option) wd0 W0 H [some (.frz ((eLst (eT2 eInt eInt)) rows_)), none, none] (defBody (topS 33)) (eT2 eInt eInt) (m__law_total rows_) :=
  have nd := sc21.nd
  (SL.atR (R' := [some (.frz ((eLst (eT2 eInt eInt)) rows_)), none, none]) (SL.asc (sl_set (i := 1) (ea := (eT2 eInt eInt)) nd rfl (.inl rfl) (ltR 3 rfl rfl) (SX.eq (se_tup (et := (eT2 eInt eInt)) (sa_cons (ea := eInt) (eg := fun g : Int => [eInt g]) se_int (sa_one (ea := eInt) se_int)) (fun _ => rfl) (fun _ => Nat.le_of_ble_eq_true rfl)) (by first | with_reducible rfl | (simp only [pure_bind, bind_assoc, bind_pure, tt_if, bif_and, bif_or]; done) | (simp only [pure_bind, bind_assoc, bind_pure, tt_if, bif_and, bif_or]; with_reducible rfl) | (simp only [pure_bind, bind_assoc, bind_pure, tt_if, bif_and, bif_or]; rfl) | rfl)) (fun found_ => (SL.atR (R' := [some (.frz ((eLst (eT2 eInt eInt)) rows_)), some (.frz ((eT2 eInt eInt) found_)), none]) (SL.asc2 (sl_forP (Rl := fun d : (Int × Int) => [some (.frz ((eLst (eT2 eInt eInt)) rows_)), some (.frz ((eT2 eInt eInt) d)), none]) (d0 := found_) (g := (gName 2)) (is := [2]) (dts := (fun a => [(eT2 eInt eInt) a])) PassesOwn.never rfl (SI.eq (si_lst (ea := (eT2 eInt eInt)) (se_var (ea := (eLst (eT2 eInt eInt))) (d := rows_) (i := 0) rfl (.inl rfl) rfl rfl rfl) (fun h => h)) (by first | with_reducible rfl | (simp only [pure_bind, bind_assoc, bind_pure, tt_if, bif_and, bif_or]; done) | (simp only [pure_bind, bind_assoc, bind_pure, tt_if, bif_and, bif_or]; with_reducible rfl) | (simp only [pure_bind, bind_assoc, bind_pure, tt_if, bif_and, bif_or]; rfl) | rfl)) (pg_name (i := 2) nd rfl (.inl rfl)) g_name (subC (subC (subN subE))) (fun _ => ltAll 3 rfl rfl) (fun one_ d_ => (SL.atR (R' := [some (.frz ((eLst (eT2 eInt eInt)) rows_)), some (.frz ((eT2 eInt eInt) d_)), some (.frz ((eT2 eInt eInt) one_))]) (SL.asc (sl_set (i := 1) (ea := (eT2 eInt eInt)) nd rfl (.inl rfl) (ltR 3 rfl rfl) (SX.eq (se_call (FnOk.mono (ok__law_add T) (by decide)) hr rfl T.g15 T.F15.kp T.b15 (sa_cons (ea := (eT2 eInt eInt)) (eg := fun g : (Int × Int) => [(eT2 eInt eInt) g]) (se_var (ea := (eT2 eInt eInt)) (d := d_) (i := 1) rfl (.inl rfl) rfl rfl rfl) (sa_one (ea := (eT2 eInt eInt)) (se_var (ea := (eT2 eInt eInt)) (d := one_) (i := 2) rfl (.inl rfl) rfl rfl rfl))) rfl rfl rfl) (by first | with_reducible rfl | (simp only [pure_bind, bind_assoc, bind_pure, tt_if, bif_and, bif_or]; done) | (simp only [pure_bind, bind_assoc, bind_pure, tt_if, bif_and, bif_or]; with_reducible rfl) | (simp only [pure_bind, bind_assoc, bind_pure, tt_if, bif_and, bif_or]; rfl) | rfl)) (fun found_2 => (sp_nil found_2 (subC (subC (subN subE))))) rfl (.inr rfl))) rfl)) (fun d_2 => (SL.atR (R' := [some (.frz ((eLst (eT2 eInt eInt)) rows_)), some (.frz ((eT2 eInt eInt) d_2)), none]) (sf_ret (se_var (ea := (eT2 eInt eInt)) (d := d_2) (i := 1) rfl (.inl rfl) rfl rfl rfl)) rfl)) (fun _ => rfl))) rfl)) rfl (.inr rfl))) rfl)
theorem ok__law_total (T : Tp K mg) : FnOk P w K mg base CX0 4 T.f21 T.d21 p21 (spP K w (fun g : (List (Int × Int)) => [(eLst (eT2 eInt eInt)) g]) (eT2 eInt eInt) (fun g => m__law_total g)) :=
  fn_pure T.F21 sc21 (fun _ => rfl) (by decide) fun cdv A outer s H E hr g => bd__law_total T cdv A outer s H E hr g
theorem bd__law_left (T : Tp K mg) (cdv : Value) (A : Around) (outer : List Env) (s : Shared) (H : Hp) (E : XK) (hr : Room 3 (A.deeper (envOfC "_law_left" (defScope (topS 35)) s.heap.objs.size T.f22 cdv))) (odds_ : (List Int)) (sights_ : (List (Int × Int))) (plan_ : (List Int)) : SF (cx0 P w K mg base N22 "_law_left" (topS 35) T.f22 cdv A outer s H E) (m := Option) wd0 W0 H [some (.frz ((eTup eInt) odds_)), some (.frz ((eTup (eT2 eInt eInt)) sights_)), some (.frz ((eTup eInt) plan_)), none, none, none] (defBody (topS 35)) (eLst (eT2 eInt eInt)) (m__law_left odds_ sights_ plan_) :=
  have nd := sc22.nd
  (SL.atR (R' := [some (.frz ((eTup eInt) odds_)), some (.frz ((eTup (eT2 eInt eInt)) sights_)), some (.frz ((eTup eInt) plan_)), none, none, none]) (SL.asc (sl_setLc (eb := (eT2 eInt eInt)) (i := 3) (own := [("own", 5)]) (g := (gName 5)) (is := [5]) (dts := (fun a => [eInt a])) (mt := fun own_ => pure true) (me := fun own_ => (fromO (m__law_frac own_ (List.sum odds_)))) rfl rfl (ltR 6 rfl rfl) (sw_true rfl rfl rfl rfl) rfl nd (si_tup (ea := eInt) (SX.b (se_var (ea := (eTup eInt)) (d := odds_) (i := 0) rfl (.inr (.inl rfl)) rfl rfl rfl)) (fun h => h.firms)) (blkOk_by rfl) (fun _ _ _ _ _ => (pg_name (i := 5) nd rfl (.inl rfl))) g_name (by decide) (ltAll 6 rfl rfl) (fun own_ _ _ _ _ _ => sf_nil) (fun own_ _ _ _ _ _ => (SX.eq (se_call (FnOk.mono (ok__law_frac T) (by decide)) hr rfl T.g9 T.F9.kp T.b9 (sa_cons (ea := eInt) (eg := fun g : Int => [eInt g]) (se_var (ea := eInt) (d := own_) (i := 5) rfl (.inl rfl) rfl rfl rfl) (sa_one (ea := eInt) (se_sumT rfl rfl T.z_sum (SX.b (se_var (ea := (eTup eInt)) (d := odds_) (i := 0) rfl (.inr (.inl rfl)) rfl rfl rfl))))) rfl rfl rfl) (by first | with_reducible rfl | (simp only [pure_bind, bind_assoc, bind_pure, tt_if, bif_and, bif_or]; done) | (simp only [pure_bind, bind_assoc, bind_pure, tt_if, bif_and, bif_or]; with_reducible rfl) | (simp only [pure_bind, bind_assoc, bind_pure, tt_if, bif_and, bif_or]; rfl) | rfl))) (by first | with_reducible rfl | (simp only [pure_bind, bind_assoc, bind_pure, tt_if, bif_and, bif_or]; done) | (simp only [pure_bind, bind_assoc, bind_pure, tt_if, bif_and, bif_or]; with_reducible rfl) | (simp only [pure_bind, bind_assoc, bind_pure, tt_if, bif_and, bif_or]; rfl) | rfl) (fun found_ => (SL.atR (R' := [some (.frz ((eTup eInt) odds_)), some (.frz ((eTup (eT2 eInt eInt)) sights_)), some (.frz ((eTup eInt) plan_)), some (.own (List.map (eT2 eInt eInt) found_)), none, none]) (SL.asc2 (sl_forP (Rl := fun d : (List (Int × Int)) => [some (.frz ((eTup eInt) odds_)), some (.frz ((eTup (eT2 eInt eInt)) sights_)), some (.frz ((eTup eInt) plan_)), some (.own (List.map (eT2 eInt eInt) d)), none, none]) (d0 := found_) (g := (gName 4)) (is := [4]) (dts := (fun a => [eInt a])) PassesOwn.never rfl (SI.eq (si_tup (ea := eInt) (SX.b (se_var (ea := (eTup eInt)) (d := plan_) (i := 2) rfl (.inl rfl) rfl rfl rfl)) (fun h => h)) (by first | with_reducible rfl | (simp only [pure_bind, bind_assoc, bind_pure, tt_if, bif_and, bif_or]; done) | (simp only [pure_bind, bind_assoc, bind_pure, tt_if, bif_and, bif_or]; with_reducible rfl) | (simp only [pure_bind, bind_assoc, bind_pure, tt_if, bif_and, bif_or]; rfl) | rfl)) (pg_name (i := 4) nd rfl (.inl rfl)) g_name (subC (subC (subC (subC (subN (subN subE)))))) (fun _ => ltAll 6 rfl rfl) (fun k_ d_ => (SL.atR (R' := [some (.frz ((eTup eInt) odds_)), some (.frz ((eTup (eT2 eInt eInt)) sights_)), some (.frz ((eTup eInt) plan_)), some (.own (List.map (eT2 eInt eInt) d_)), some (.frz (eInt k_)), none]) (SL.asc3 (sl_setI (i := 3) (ea := (eT2 eInt eInt)) (xs := d_) rfl (.inl rfl) rfl rfl rfl (SX.eq (se_call (FnOk.mono (ok__law_mul T) (by decide)) hr rfl T.g17 T.F17.kp T.b17 (sa_cons (ea := (eT2 eInt eInt)) (eg := fun g : (Int × Int) => [(eT2 eInt eInt) g]) (se_ixL (ea := (eT2 eInt eInt)) (sb_own (ea := (eT2 eInt eInt)) (d := d_) (i := 3) rfl (.inl rfl) rfl rfl rfl) (SX.b (se_var (ea := eInt) (d := k_) (i := 4) rfl (.inl rfl) rfl rfl rfl)) (fun _ _ => rfl)) (sa_one (ea := (eT2 eInt eInt)) (se_call (FnOk.mono (ok__law_less T) (by decide)) hr rfl T.g16 T.F16.kp T.b16 (sa_cons (ea := (eT2 eInt eInt)) (eg := fun g : (Int × Int) => [(eT2 eInt eInt) g]) (se_tup (et := (eT2 eInt eInt)) (sa_cons (ea := eInt) (eg := fun g : Int => [eInt g]) se_int (sa_one (ea := eInt) se_int)) (fun _ => rfl) (fun _ => Nat.le_of_ble_eq_true rfl)) (sa_one (ea := (eT2 eInt eInt)) (se_ixT (ea := (eT2 eInt eInt)) (SX.b (se_var (ea := (eTup (eT2 eInt eInt))) (d := sights_) (i := 1) rfl (.inl rfl) rfl rfl rfl)) (SX.b (se_var (ea := eInt) (d := k_) (i := 4) rfl (.inl rfl) rfl rfl rfl)) (fun _ _ => rfl)))) rfl rfl rfl))) rfl rfl rfl) (by first | with_reducible rfl | (simp only [pure_bind, bind_assoc, bind_pure, tt_if, bif_and, bif_or]; done) | (simp only [pure_bind, bind_assoc, bind_pure, tt_if, bif_and, bif_or]; with_reducible rfl) | (simp only [pure_bind, bind_assoc, bind_pure, tt_if, bif_and, bif_or]; rfl) | rfl)) (SX.b (se_var (ea := eInt) (d := k_) (i := 4) rfl (.inl rfl) rfl rfl rfl)) (fun found_2 => (sp_nil found_2 (subC (subC (subC (subC (subN (subN subE)))))))) rfl rfl (fun _ => rfl) rfl)) rfl)) (fun d_2 => (SL.lock 3 rfl (SL.atR (R' := [some (.frz ((eTup eInt) odds_)), some (.frz ((eTup (eT2 eInt eInt)) sights_)), some (.frz ((eTup eInt) plan_)), some (.frz ((eLst (eT2 eInt eInt)) d_2)), none, none]) (sf_ret (se_var (ea := (eLst (eT2 eInt eInt))) (d := d_2) (i := 3) rfl (.inl rfl) rfl rfl rfl)) rfl))) (fun _ => rfl))) rfl)))) rfl)
theorem ok__law_left (T : Tp K mg) : FnOk P w K mg base CX0 4 T.f22 T.d22 p22 (spP K w (fun g : (List Int) × (List (Int × Int)) × (List Int) => [(eTup eInt) g.1, (eTup (eT2 eInt eInt)) g.2.1, (eTup eInt) g.2.2]) (eLst (eT2 eInt eInt)) (fun g => m__law_left g.1 g.2.1 g.2.2)) :=
  fn_pure T.F22 sc22 (fun _ => rfl) (by decide) fun cdv A outer s H E hr g => bd__law_left T cdv A outer s H E hr g.1 g.2.1 g.2.2
theorem bd_still_there (T : Tp K mg) (cdv : Value) (A : Around) (outer : List Env) (s : Shared) (H : Hp) (E : XK) (hr : Room 4 (A.deeper (envOfC "still_there" (defScope (topS 14)) s.heap.objs.size T.f23 cdv))) (odds_ : (List Int)) (sights_ : (List (Int × Int))) (plan_ : (List Int)) : SF (cx0 P w K mg base N23 "still_there" (topS 14) T.f23 cdv A outer s H E) (m := Option) wd0 W0 H [some (.frz ((eTup eInt) odds_)), some (.frz ((eTup (eT2 eInt eInt)) sights_)), some (.frz ((eTup eInt) plan_)), none, none] (defBody (topS 14)) (eLst (eT2 eInt eInt)) (m_still_there odds_ sights_ plan_) :=
  have nd := sc23.nd
  (SL.atR (R' := [some (.frz ((eTup eInt) odds_)), some (.frz ((eTup (eT2 eInt eInt)) sights_)), some (.frz ((eTup eInt) plan_)), none, none]) (sf_ret (SX.eq (SX.f (so_comp (eb := (eT2 eInt eInt)) (own := [("chance", 3), ("miss", 4)]) (g := (gTup _ 2 (gNames [3, 4]))) (is := [3, 4]) (dts := (fun a : ((Int × Int) × (Int × Int)) => [(eT2 eInt eInt) a.1, (eT2 eInt eInt) a.2])) (mt := fun p_ => pure true) (me := fun p_ => (fromO (m_times p_.1 p_.2))) rfl nd (si_zipL (ea := (eT2 eInt eInt)) (eb := (eT2 eInt eInt)) rfl T.z_zip (se_call (FnOk.mono (ok_chances_of T) (by decide)) hr rfl T.g14 T.F14.kp T.b14 (sa_one (ea := (eTup eInt)) (se_var (ea := (eTup eInt)) (d := odds_) (i := 0) rfl (.inl rfl) rfl rfl rfl)) rfl rfl rfl) (se_call (FnOk.mono (ok_missed T) (by decide)) hr rfl T.g19 T.F19.kp T.b19 (sa_cons (ea := (eTup (eT2 eInt eInt))) (eg := fun g : (List Int) => [(eTup eInt) g]) (se_var (ea := (eTup (eT2 eInt eInt))) (d := sights_) (i := 1) rfl (.inl rfl) rfl rfl rfl) (sa_one (ea := (eTup eInt)) (se_var (ea := (eTup eInt)) (d := plan_) (i := 2) rfl (.inl rfl) rfl rfl rfl))) rfl rfl rfl) (fun h => h.firms)) (blkOk_by rfl) (fun _ _ _ _ _ => (pg_tup rfl (pgs_cons (pg_name (i := 3) nd rfl (.inl rfl)) (pgs_cons (pg_name (i := 4) nd rfl (.inl rfl)) pgs_nil)))) (g_tup (is := [3, 4]) (dts := (fun a : ((Int × Int) × (Int × Int)) => [(eT2 eInt eInt) a.1, (eT2 eInt eInt) a.2])) (fun _ => rfl) (fun _ => rfl)) (by decide) (ltAll 5 rfl rfl) (fun p_ _ _ _ _ _ => sf_nil) (fun p_ _ _ _ _ _ => (SX.eq (se_call (FnOk.mono (ok_times T) (by decide)) hr rfl T.g12 T.F12.kp T.b12 (sa_cons (ea := (eT2 eInt eInt)) (eg := fun g : (Int × Int) => [(eT2 eInt eInt) g]) (se_var (ea := (eT2 eInt eInt)) (d := p_.1) (i := 3) rfl (.inl rfl) rfl rfl rfl) (sa_one (ea := (eT2 eInt eInt)) (se_var (ea := (eT2 eInt eInt)) (d := p_.2) (i := 4) rfl (.inl rfl) rfl rfl rfl))) rfl rfl rfl) (by first | with_reducible rfl | (simp only [pure_bind, bind_assoc, bind_pure, tt_if, bif_and, bif_or]; done) | (simp only [pure_bind, bind_assoc, bind_pure, tt_if, bif_and, bif_or]; with_reducible rfl) | (simp only [pure_bind, bind_assoc, bind_pure, tt_if, bif_and, bif_or]; rfl) | rfl))))) (by first | with_reducible rfl | (simp only [pure_bind, bind_assoc, bind_pure, tt_if, bif_and, bif_or]; done) | (simp only [pure_bind, bind_assoc, bind_pure, tt_if, bif_and, bif_or]; with_reducible rfl) | (simp only [pure_bind, bind_assoc, bind_pure, tt_if, bif_and, bif_or]; rfl) | rfl))) rfl)
theorem ok_still_there (T : Tp K mg) : FnOk P w K mg base CX0 5 T.f23 T.d23 p23 (spP K w (fun g : (List Int) × (List (Int × Int)) × (List Int) => [(eTup eInt) g.1, (eTup (eT2 eInt eInt)) g.2.1, (eTup eInt) g.2.2]) (eLst (eT2 eInt eInt)) (fun g => m_still_there g.1 g.2.1 g.2.2)) :=
  fn_pure T.F23 sc23 (fun _ => rfl) (by decide) fun cdv A outer s H E hr g => bd_still_there T cdv A outer s H E hr g.1 g.2.1 g.2.2
theorem bd__law_chance (T : Tp K mg) (cdv : Value) (A : Around) (outer : List Env) (s : Shared) (H : Hp) (E : XK) (hr : Room 4 (A.deeper (envOfC "_law_chance" (defScope (topS 36)) s.heap.objs.size T.f24 cdv))) (odds_ : (List Int)) (sights_ : (List (Int × Int))) (plan_ : (List Int)) : SF (cx0 P w K mg base N24 "_law_chance" (topS 36) T.f24 cdv A outer s H E) (m := Option) wd0 W0 H [some (.frz ((eTup eInt) odds_)), some (.frz ((eTup (eT2 eInt eInt)) sights_)), some (.frz ((eTup eInt) plan_))] (defBody (topS 36)) (eT2 eInt eInt) (m__law_chance odds_ sights_ plan_) :=
  have nd := sc24.nd
  (SL.atR (R' := [some (.frz ((eTup eInt) odds_)), some (.frz ((eTup (eT2 eInt eInt)) sights_)), some (.frz ((eTup eInt) plan_))]) (sf_ret (SX.eq (se_call (FnOk.mono (ok__law_less T) (by decide)) hr rfl T.g16 T.F16.kp T.b16 (sa_cons (ea := (eT2 eInt eInt)) (eg := fun g : (Int × Int) => [(eT2 eInt eInt) g]) (se_tup (et := (eT2 eInt eInt)) (sa_cons (ea := eInt) (eg := fun g : Int => [eInt g]) se_int (sa_one (ea := eInt) se_int)) (fun _ => rfl) (fun _ => Nat.le_of_ble_eq_true rfl)) (sa_one (ea := (eT2 eInt eInt)) (se_call (FnOk.mono (ok__law_total T) (by decide)) hr rfl T.g21 T.F21.kp T.b21 (sa_one (ea := (eLst (eT2 eInt eInt))) (se_call (FnOk.mono (ok__law_left T) (by decide)) hr rfl T.g22 T.F22.kp T.b22 (sa_cons (ea := (eTup eInt)) (eg := fun g : (List (Int × Int)) × (List Int) => [(eTup (eT2 eInt eInt)) g.1, (eTup eInt) g.2]) (se_var (ea := (eTup eInt)) (d := odds_) (i := 0) rfl (.inl rfl) rfl rfl rfl) (sa_cons (ea := (eTup (eT2 eInt eInt))) (eg := fun g : (List Int) => [(eTup eInt) g]) (se_var (ea := (eTup (eT2 eInt eInt))) (d := sights_) (i := 1) rfl (.inl rfl) rfl rfl rfl) (sa_one (ea := (eTup eInt)) (se_var (ea := (eTup eInt)) (d := plan_) (i := 2) rfl (.inl rfl) rfl rfl rfl)))) rfl rfl rfl)) rfl rfl rfl))) rfl rfl rfl) (by first | with_reducible rfl | (simp only [pure_bind, bind_assoc, bind_pure, tt_if, bif_and, bif_or]; done) | (simp only [pure_bind, bind_assoc, bind_pure, tt_if, bif_and, bif_or]; with_reducible rfl) | (simp only [pure_bind, bind_assoc, bind_pure, tt_if, bif_and, bif_or]; rfl) | rfl))) rfl)
theorem ok__law_chance (T : Tp K mg) : FnOk P w K mg base CX0 5 T.f24 T.d24 p24 (spP K w (fun g : (List Int) × (List (Int × Int)) × (List Int) => [(eTup eInt) g.1, (eTup (eT2 eInt eInt)) g.2.1, (eTup eInt) g.2.2]) (eT2 eInt eInt) (fun g => m__law_chance g.1 g.2.1 g.2.2)) :=
  fn_pure T.F24 sc24 (fun _ => rfl) (by decide) fun cdv A outer s H E hr g => bd__law_chance T cdv A outer s H E hr g.1 g.2.1 g.2.2
theorem bd__law_next_look (T : Tp K mg) (cdv : Value) (A : Around) (outer : List Env) (s : Shared) (H : Hp) (E : XK) (hr : Room 4 (A.deeper (envOfC "_law_next_look" (defScope (topS 37)) s.heap.objs.size T.f25 cdv))) (odds_ : (List Int)) (sights_ : (List (Int × Int))) (plan_ : (List Int)) : SF (cx0 P w K mg base N25 "_law_next_look" (topS 37) T.f25 cdv A outer s H E) (m := Option) wd0 W0 H [some (.frz ((eTup eInt) odds_)), some (.frz ((eTup (eT2 eInt eInt)) sights_)), some (.frz ((eTup eInt) plan_)), none, none, none, none] (defBody (topS 37)) eInt (m__law_next_look odds_ sights_ plan_) :=
  have nd := sc25.nd
  (SL.atR (R' := [some (.frz ((eTup eInt) odds_)), some (.frz ((eTup (eT2 eInt eInt)) sights_)), some (.frz ((eTup eInt) plan_)), none, none, none, none]) (SL.asc (sl_par2 (i := 3) (j := 4) rfl nd rfl rfl (by decide) rfl rfl (ltAll 7 rfl rfl) (SM.eq (sm_consF (se_call (FnOk.mono (ok__law_left T) (by decide)) hr rfl T.g22 T.F22.kp T.b22 (sa_cons (ea := (eTup eInt)) (eg := fun g : (List (Int × Int)) × (List Int) => [(eTup (eT2 eInt eInt)) g.1, (eTup eInt) g.2]) (se_var (ea := (eTup eInt)) (d := odds_) (i := 0) rfl (.inl rfl) rfl rfl rfl) (sa_cons (ea := (eTup (eT2 eInt eInt))) (eg := fun g : (List Int) => [(eTup eInt) g]) (se_var (ea := (eTup (eT2 eInt eInt))) (d := sights_) (i := 1) rfl (.inl rfl) rfl rfl rfl) (sa_one (ea := (eTup eInt)) (se_var (ea := (eTup eInt)) (d := plan_) (i := 2) rfl (.inl rfl) rfl rfl rfl)))) rfl rfl rfl) (sm_oneF (SX.mapI (ea := eNon) (eb := (eOpt (eT2 (eT2 eInt eInt) eInt))) (f := (fun _ => none)) se_non kF_ok (fun _ => rfl)))) (by first | with_reducible rfl | (simp only [pure_bind, bind_assoc, bind_pure, tt_if, bif_and, bif_or]; done) | (simp only [pure_bind, bind_assoc, bind_pure, tt_if, bif_and, bif_or]; with_reducible rfl) | (simp only [pure_bind, bind_assoc, bind_pure, tt_if, bif_and, bif_or]; rfl) | rfl)) (fun _ => rfl) (fun p_ => (SL.atR (R' := [some (.frz ((eTup eInt) odds_)), some (.frz ((eTup (eT2 eInt eInt)) sights_)), some (.frz ((eTup eInt) plan_)), some (.frz ((eLst (eT2 eInt eInt)) p_.1)), some (.frz ((eOpt (eT2 (eT2 eInt eInt) eInt)) p_.2)), none, none]) (SL.asc2 (sl_forP (Rl := fun d : (Option ((Int × Int) × Int)) => [some (.frz ((eTup eInt) odds_)), some (.frz ((eTup (eT2 eInt eInt)) sights_)), some (.frz ((eTup eInt) plan_)), some (.frz ((eLst (eT2 eInt eInt)) p_.1)), some (.frz ((eOpt (eT2 (eT2 eInt eInt) eInt)) d)), none, none]) (d0 := p_.2) (g := (gName 5)) (is := [5]) (dts := (fun a => [eInt a])) PassesOwn.never rfl (SI.eq (si_range1 rfl T.z_range (SX.b (se_lenT (ea := eInt) rfl T.z_len (SX.b (se_var (ea := (eTup eInt)) (d := odds_) (i := 0) rfl (.inl rfl) rfl rfl rfl))))) (by first | with_reducible rfl | (simp only [pure_bind, bind_assoc, bind_pure, tt_if, bif_and, bif_or]; done) | (simp only [pure_bind, bind_assoc, bind_pure, tt_if, bif_and, bif_or]; with_reducible rfl) | (simp only [pure_bind, bind_assoc, bind_pure, tt_if, bif_and, bif_or]; rfl) | rfl)) (pg_name (i := 5) nd rfl (.inl rfl)) g_name (subC (subC (subC (subC (subC (subN (subN subE))))))) (fun _ => ltAll 7 rfl rfl) (fun k_ d_ => (SL.atR (R' := [some (.frz ((eTup eInt) odds_)), some (.frz ((eTup (eT2 eInt eInt)) sights_)), some (.frz ((eTup eInt) plan_)), some (.frz ((eLst (eT2 eInt eInt)) p_.1)), some (.frz ((eOpt (eT2 (eT2 eInt eInt) eInt)) d_)), some (.frz (eInt k_)), none]) (SL.asc (sl_set (i := 6) (ea := (eT2 eInt eInt)) nd rfl (.inl rfl) (ltR 7 rfl rfl) (SX.eq (se_call (FnOk.mono (ok__law_mul T) (by decide)) hr rfl T.g17 T.F17.kp T.b17 (sa_cons (ea := (eT2 eInt eInt)) (eg := fun g : (Int × Int) => [(eT2 eInt eInt) g]) (se_ixL (ea := (eT2 eInt eInt)) (SX.b (se_var (ea := (eLst (eT2 eInt eInt))) (d := p_.1) (i := 3) rfl (.inl rfl) rfl rfl rfl)) (SX.b (se_var (ea := eInt) (d := k_) (i := 5) rfl (.inl rfl) rfl rfl rfl)) (fun _ _ => rfl)) (sa_one (ea := (eT2 eInt eInt)) (se_ixT (ea := (eT2 eInt eInt)) (SX.b (se_var (ea := (eTup (eT2 eInt eInt))) (d := sights_) (i := 1) rfl (.inl rfl) rfl rfl rfl)) (SX.b (se_var (ea := eInt) (d := k_) (i := 5) rfl (.inl rfl) rfl rfl rfl)) (fun _ _ => rfl)))) rfl rfl rfl) (by first | with_reducible rfl | (simp only [pure_bind, bind_assoc, bind_pure, tt_if, bif_and, bif_or]; done) | (simp only [pure_bind, bind_assoc, bind_pure, tt_if, bif_and, bif_or]; with_reducible rfl) | (simp only [pure_bind, bind_assoc, bind_pure, tt_if, bif_and, bif_or]; rfl) | rfl)) (fun worth_ => (SL.atR (R' := [some (.frz ((eTup eInt) odds_)), some (.frz ((eTup (eT2 eInt eInt)) sights_)), some (.frz ((eTup eInt) plan_)), some (.frz ((eLst (eT2 eInt eInt)) p_.1)), some (.frz ((eOpt (eT2 (eT2 eInt eInt) eInt)) d_)), some (.frz (eInt k_)), some (.frz ((eT2 eInt eInt) worth_))]) (SL.asc (sl_set (i := 4) (ea := (eOpt (eT2 (eT2 eInt eInt) eInt))) nd rfl (.inl rfl) (ltR 7 rfl rfl) (SX.eq (sx_if kF_ok (SW.t (sw_or (SC.t (sc_is (ea := (eOpt (eT2 (eT2 eInt eInt) eInt))) (SX.b (se_var (ea := (eOpt (eT2 (eT2 eInt eInt) eInt))) (d := d_) (i := 4) rfl (.inl rfl) rfl rfl rfl))) rfl) (sw_or1 (SX.t (se_call (FnOk.mono (ok__law_below T) (by decide)) hr rfl T.g5 T.F5.kp T.b5 (sa_cons (ea := (eT2 eInt eInt)) (eg := fun g : (Int × Int) => [(eT2 eInt eInt) g]) (se_ixCI (ea := (eT2 (eT2 eInt eInt) eInt)) (ec := (eT2 eInt eInt)) (i := 0) (f := fun p => p.1) (SX.b (SX.get (se_var (ea := (eOpt (eT2 (eT2 eInt eInt) eInt))) (d := d_) (i := 4) rfl (.inl rfl) rfl rfl rfl))) (SX.b se_int) (fun _ _ => rfl) (fun p => ⟨_, rfl, rfl⟩)) (sa_one (ea := (eT2 eInt eInt)) (se_var (ea := (eT2 eInt eInt)) (d := worth_) (i := 6) rfl (.inl rfl) rfl rfl rfl))) rfl rfl rfl) (fun _ => rfl))))) (SX.mapI (ea := (eT2 (eT2 eInt eInt) eInt)) (eb := (eOpt (eT2 (eT2 eInt eInt) eInt))) (f := some) (se_tup (et := (eT2 (eT2 eInt eInt) eInt)) (sa_cons (ea := (eT2 eInt eInt)) (eg := fun g : Int => [eInt g]) (se_var (ea := (eT2 eInt eInt)) (d := worth_) (i := 6) rfl (.inl rfl) rfl rfl rfl) (sa_one (ea := eInt) (se_var (ea := eInt) (d := k_) (i := 5) rfl (.inl rfl) rfl rfl rfl))) (fun _ => rfl) (fun _ => Nat.le_of_ble_eq_true rfl)) kF_ok (fun _ => rfl)) (se_var (ea := (eOpt (eT2 (eT2 eInt eInt) eInt))) (d := d_) (i := 4) rfl (.inl rfl) rfl rfl rfl)) (by first | with_reducible rfl | (simp only [pure_bind, bind_assoc, bind_pure, tt_if, bif_and, bif_or]; done) | (simp only [pure_bind, bind_assoc, bind_pure, tt_if, bif_and, bif_or]; with_reducible rfl) | (simp only [pure_bind, bind_assoc, bind_pure, tt_if, bif_and, bif_or]; rfl) | rfl)) (fun best_ => (sp_nil best_ (subC (subC (subC (subC (subC (subN (subN subE))))))))) rfl (.inr rfl))) rfl)) rfl (.inr rfl))) rfl)) (fun d_2 => (SL.atR (R' := [some (.frz ((eTup eInt) odds_)), some (.frz ((eTup (eT2 eInt eInt)) sights_)), some (.frz ((eTup eInt) plan_)), some (.frz ((eLst (eT2 eInt eInt)) p_.1)), some (.frz ((eOpt (eT2 (eT2 eInt eInt) eInt)) d_2)), none, none]) (sf_ret (SX.eq (se_ixCI (ea := (eT2 (eT2 eInt eInt) eInt)) (ec := eInt) (i := 1) (f := fun p => p.2) (SX.b (SX.get (se_var (ea := (eOpt (eT2 (eT2 eInt eInt) eInt))) (d := d_2) (i := 4) rfl (.inl rfl) rfl rfl rfl))) (SX.b se_int) (fun _ _ => rfl) (fun p => ⟨_, rfl, rfl⟩)) (by first | with_reducible rfl | (simp only [pure_bind, bind_assoc, bind_pure, tt_if, bif_and, bif_or]; done) | (simp only [pure_bind, bind_assoc, bind_pure, tt_if, bif_and, bif_or]; with_reducible rfl) | (simp only [pure_bind, bind_assoc, bind_pure, tt_if, bif_and, bif_or]; rfl) | rfl))) rfl)) (fun _ => rfl))) rfl)) rfl rfl)) rfl)
theorem ok__law_next_look (T : Tp K mg) : FnOk P w K mg base CX0 5 T.f25 T.d25 p25 (spP K w (fun g : (List Int) × (List (Int × Int)) × (List Int) => [(eTup eInt) g.1, (eTup (eT2 eInt eInt)) g.2.1, (eTup eInt) g.2.2]) eInt (fun g => m__law_next_look g.1 g.2.1 g.2.2)) :=
  fn_pure T.F25 sc25 (fun _ => rfl) (by decide) fun cdv A outer s H E hr g => bd__law_next_look T cdv A outer s H E hr g.1 g.2.1 g.2.2
theorem bd_found_by (T : Tp K mg) (cdv : Value) (A : Around) (outer : List Env) (s : Shared) (H : Hp) (E : XK) (hr : Room 5 (A.deeper (envOfC "found_by" (defScope (topS 15)) s.heap.objs.size T.f26 cdv))) (odds_ : (List Int)) (sights_ : (List (Int × Int))) (plan_ : (List Int)) : SF (cx0 P w K mg base N26 "found_by" (topS 15) T.f26 cdv A outer s H E) (m := Option) wd0 W0 H [some (.frz ((eTup eInt) odds_)), some (.frz ((eTup (eT2 eInt eInt)) sights_)), some (.frz ((eTup eInt) plan_))] (defBody (topS 15)) (eT2 eInt eInt) (m_found_by odds_ sights_ plan_) :=
  have nd := sc26.nd
  (SL.atR (R' := [some (.frz ((eTup eInt) odds_)), some (.frz ((eTup (eT2 eInt eInt)) sights_)), some (.frz ((eTup eInt) plan_))]) (sf_ret (SX.eq (se_call (FnOk.mono (ok_minus T) (by decide)) hr rfl T.g11 T.F11.kp T.b11 (sa_cons (ea := (eT2 eInt eInt)) (eg := fun g : (Int × Int) => [(eT2 eInt eInt) g]) (se_glob (ea := (eT2 eInt eInt)) (d := ((1 : Int), (1 : Int))) rfl T.c_WHOLE rfl) (sa_one (ea := (eT2 eInt eInt)) (se_call (FnOk.mono (ok_total T) (by decide)) hr rfl T.g18 T.F18.kp T.b18 (sa_one (ea := (eLst (eT2 eInt eInt))) (se_call (FnOk.mono (ok_still_there T) (by decide)) hr rfl T.g23 T.F23.kp T.b23 (sa_cons (ea := (eTup eInt)) (eg := fun g : (List (Int × Int)) × (List Int) => [(eTup (eT2 eInt eInt)) g.1, (eTup eInt) g.2]) (se_var (ea := (eTup eInt)) (d := odds_) (i := 0) rfl (.inl rfl) rfl rfl rfl) (sa_cons (ea := (eTup (eT2 eInt eInt))) (eg := fun g : (List Int) => [(eTup eInt) g]) (se_var (ea := (eTup (eT2 eInt eInt))) (d := sights_) (i := 1) rfl (.inl rfl) rfl rfl rfl) (sa_one (ea := (eTup eInt)) (se_var (ea := (eTup eInt)) (d := plan_) (i := 2) rfl (.inl rfl) rfl rfl rfl)))) rfl rfl rfl)) rfl rfl rfl))) rfl rfl rfl) (by first | with_reducible rfl | (simp only [pure_bind, bind_assoc, bind_pure, tt_if, bif_and, bif_or]; done) | (simp only [pure_bind, bind_assoc, bind_pure, tt_if, bif_and, bif_or]; with_reducible rfl) | (simp only [pure_bind, bind_assoc, bind_pure, tt_if, bif_and, bif_or]; rfl) | rfl))) rfl)
theorem ok_found_by (T : Tp K mg) : FnOk P w K mg base CX0 6 T.f26 T.d26 p26 (spP K w (fun g : (List Int) × (List (Int × Int)) × (List Int) => [(eTup eInt) g.1, (eTup (eT2 eInt eInt)) g.2.1, (eTup eInt) g.2.2]) (eT2 eInt eInt) (fun g => m_found_by g.1 g.2.1 g.2.2)) :=
  fn_pure T.F26 sc26 (fun _ => rfl) (by decide) fun cdv A outer s H E hr g => bd_found_by T cdv A outer s H E hr g.1 g.2.1 g.2.2
theorem bd_left_odds (T : Tp K mg) (cdv : Value) (A : Around) (outer : List Env) (s : Shared) (H : Hp) (E : XK) (hr : Room 5 (A.deeper (envOfC "left_odds" (defScope (topS 16)) s.heap.objs.size T.f27 cdv))) (odds_ : (List Int)) (sights_ : (List (Int × Int))) (plan_ : (List Int)) : SF (cx0 P w K mg base N27 "left_odds" (topS 16) T.f27 cdv A outer s H E) (m := Option) wd0 W0 H [some (.frz ((eTup eInt) odds_)), some (.frz ((eTup (eT2 eInt eInt)) sights_)), some (.frz ((eTup eInt) plan_)), none, none, none] (defBody (topS 16)) (eOpt (eTup (eT2 eInt eInt))) (m_left_odds odds_ sights_ plan_) :=
  have nd := sc27.nd
  (SL.atR (R' := [some (.frz ((eTup eInt) odds_)), some (.frz ((eTup (eT2 eInt eInt)) sights_)), some (.frz ((eTup eInt) plan_)), none, none, none]) (SL.asc (sl_set (i := 3) (ea := (eLst (eT2 eInt eInt))) nd rfl (.inl rfl) (ltR 6 rfl rfl) (SX.eq (se_call (FnOk.mono (ok_still_there T) (by decide)) hr rfl T.g23 T.F23.kp T.b23 (sa_cons (ea := (eTup eInt)) (eg := fun g : (List (Int × Int)) × (List Int) => [(eTup (eT2 eInt eInt)) g.1, (eTup eInt) g.2]) (se_var (ea := (eTup eInt)) (d := odds_) (i := 0) rfl (.inl rfl) rfl rfl rfl) (sa_cons (ea := (eTup (eT2 eInt eInt))) (eg := fun g : (List Int) => [(eTup eInt) g]) (se_var (ea := (eTup (eT2 eInt eInt))) (d := sights_) (i := 1) rfl (.inl rfl) rfl rfl rfl) (sa_one (ea := (eTup eInt)) (se_var (ea := (eTup eInt)) (d := plan_) (i := 2) rfl (.inl rfl) rfl rfl rfl)))) rfl rfl rfl) (by first | with_reducible rfl | (simp only [pure_bind, bind_assoc, bind_pure, tt_if, bif_and, bif_or]; done) | (simp only [pure_bind, bind_assoc, bind_pure, tt_if, bif_and, bif_or]; with_reducible rfl) | (simp only [pure_bind, bind_assoc, bind_pure, tt_if, bif_and, bif_or]; rfl) | rfl)) (fun told_ => (SL.atR (R' := [some (.frz ((eTup eInt) odds_)), some (.frz ((eTup (eT2 eInt eInt)) sights_)), some (.frz ((eTup eInt) plan_)), some (.frz ((eLst (eT2 eInt eInt)) told_)), none, none]) (SL.asc (sl_set (i := 4) (ea := (eT2 eInt eInt)) nd rfl (.inr rfl) (ltR 6 rfl rfl) (SX.eq (se_call (FnOk.mono (ok_total T) (by decide)) hr rfl T.g18 T.F18.kp T.b18 (sa_one (ea := (eLst (eT2 eInt eInt))) (se_var (ea := (eLst (eT2 eInt eInt))) (d := told_) (i := 3) rfl (.inl rfl) rfl rfl rfl)) rfl rfl rfl) (by first | with_reducible rfl | (simp only [pure_bind, bind_assoc, bind_pure, tt_if, bif_and, bif_or]; done) | (simp only [pure_bind, bind_assoc, bind_pure, tt_if, bif_and, bif_or]; with_reducible rfl) | (simp only [pure_bind, bind_assoc, bind_pure, tt_if, bif_and, bif_or]; rfl) | rfl)) (fun whole_ => (SL.atR (R' := [some (.frz ((eTup eInt) odds_)), some (.frz ((eTup (eT2 eInt eInt)) sights_)), some (.frz ((eTup eInt) plan_)), some (.frz ((eLst (eT2 eInt eInt)) told_)), some (.frz ((eT2 eInt eInt) whole_)), none]) (sf_ret (SX.eq (sx_if kF_ok (SC.t (sc_gt (SX.b (se_ixCI (ea := (eT2 eInt eInt)) (ec := eInt) (i := 0) (f := fun p => p.1) (SX.b (se_var (ea := (eT2 eInt eInt)) (d := whole_) (i := 4) rfl (.inr (.inl rfl)) rfl rfl rfl)) (SX.b se_int) (fun _ _ => rfl) (fun p => ⟨_, rfl, rfl⟩))) (SX.b se_int)) rfl) (SX.mapI (ea := (eTup (eT2 eInt eInt))) (eb := (eOpt (eTup (eT2 eInt eInt)))) (f := some) (se_tupleL (ea := (eT2 eInt eInt)) rfl T.z_tuple (SX.ob (so_comp (eb := (eT2 eInt eInt)) (own := [("own", 5)]) (g := (gName 5)) (is := [5]) (dts := (fun a => [(eT2 eInt eInt) a])) (mt := fun own_ => pure true) (me := fun own_ => (fromO (m_parted own_ whole_))) rfl nd (si_lst (ea := (eT2 eInt eInt)) (se_var (ea := (eLst (eT2 eInt eInt))) (d := told_) (i := 3) rfl (.inl rfl) rfl rfl rfl) (fun h => h.firms)) (blkOk_by rfl) (fun _ _ _ _ _ => (pg_name (i := 5) nd rfl (.inl rfl))) g_name (by decide) (ltAll 6 rfl rfl) (fun own_ _ _ _ _ _ => sf_nil) (fun own_ _ _ _ _ _ => (SX.eq (se_call (FnOk.mono (ok_parted T) (by decide)) hr rfl T.g13 T.F13.kp T.b13 (sa_cons (ea := (eT2 eInt eInt)) (eg := fun g : (Int × Int) => [(eT2 eInt eInt) g]) (se_var (ea := (eT2 eInt eInt)) (d := own_) (i := 5) rfl (.inl rfl) rfl rfl rfl) (sa_one (ea := (eT2 eInt eInt)) (se_var (ea := (eT2 eInt eInt)) (d := whole_) (i := 4) rfl (.inr (.inl rfl)) rfl rfl rfl))) rfl rfl rfl) (by first | with_reducible rfl | (simp only [pure_bind, bind_assoc, bind_pure, tt_if, bif_and, bif_or]; done) | (simp only [pure_bind, bind_assoc, bind_pure, tt_if, bif_and, bif_or]; with_reducible rfl) | (simp only [pure_bind, bind_assoc, bind_pure, tt_if, bif_and, bif_or]; rfl) | rfl)))))) kF_ok (fun _ => rfl)) (SX.mapI (ea := eNon) (eb := (eOpt (eTup (eT2 eInt eInt)))) (f := (fun _ => none)) se_non kF_ok (fun _ => rfl))) (by first | with_reducible rfl | (simp only [pure_bind, bind_assoc, bind_pure, tt_if, bif_and, bif_or]; done) | (simp only [pure_bind, bind_assoc, bind_pure, tt_if, bif_and, bif_or]; with_reducible rfl) | (simp only [pure_bind, bind_assoc, bind_pure, tt_if, bif_and, bif_or]; rfl) | rfl))) rfl)) rfl (.inl rfl))) rfl)) rfl (.inr rfl))) rfl)
theorem ok_left_odds (T : Tp K mg) : FnOk P w K mg base CX0 6 T.f27 T.d27 p27 (spP K w (fun g : (List Int) × (List (Int × Int)) × (List Int) => [(eTup eInt) g.1, (eTup (eT2 eInt eInt)) g.2.1, (eTup eInt) g.2.2]) (eOpt (eTup (eT2 eInt eInt))) (fun g => m_left_odds g.1 g.2.1 g.2.2)) :=
  fn_pure T.F27 sc27 (fun _ => rfl) (by decide) fun cdv A outer s H E hr g => bd_left_odds T cdv A outer s H E hr g.1 g.2.1 g.2.2
theorem bd_most_worth (T : Tp K mg) (cdv : Value) (A : Around) (outer : List Env) (s : Shared) (H : Hp) (E : XK) (hr : Room 5 (A.deeper (envOfC "most_worth" (defScope (topS 17)) s.heap.objs.size T.f28 cdv))) (odds_ : (List Int)) (sights_ : (List (Int × Int))) (plan_ : (List Int)) : SF (cx0 P w K mg base N28 "most_worth" (topS 17) T.f28 cdv A outer s H E) (m := Option) wd0 W0 H [some (.frz ((eTup eInt) odds_)), some (.frz ((eTup (eT2 eInt eInt)) sights_)), some (.frz ((eTup eInt) plan_)), none, none, none, none] (defBody (topS 17)) eInt (m_most_worth odds_ sights_ plan_) :=
  have nd := sc28.nd
  (SL.atR (R' := [some (.frz ((eTup eInt) odds_)), some (.frz ((eTup (eT2 eInt eInt)) sights_)), some (.frz ((eTup eInt) plan_)), none, none, none, none]) (SL.asc (sl_set (i := 3) (ea := (eLst (eT2 eInt eInt))) nd rfl (.inr rfl) (ltR 7 rfl rfl) (SX.eq (se_call (FnOk.mono (ok_still_there T) (by decide)) hr rfl T.g23 T.F23.kp T.b23 (sa_cons (ea := (eTup eInt)) (eg := fun g : (List (Int × Int)) × (List Int) => [(eTup (eT2 eInt eInt)) g.1, (eTup eInt) g.2]) (se_var (ea := (eTup eInt)) (d := odds_) (i := 0) rfl (.inl rfl) rfl rfl rfl) (sa_cons (ea := (eTup (eT2 eInt eInt))) (eg := fun g : (List Int) => [(eTup eInt) g]) (se_var (ea := (eTup (eT2 eInt eInt))) (d := sights_) (i := 1) rfl (.inr (.inl rfl)) rfl rfl rfl) (sa_one (ea := (eTup eInt)) (se_var (ea := (eTup eInt)) (d := plan_) (i := 2) rfl (.inl rfl) rfl rfl rfl)))) rfl rfl rfl) (by first | with_reducible rfl | (simp only [pure_bind, bind_assoc, bind_pure, tt_if, bif_and, bif_or]; done) | (simp only [pure_bind, bind_assoc, bind_pure, tt_if, bif_and, bif_or]; with_reducible rfl) | (simp only [pure_bind, bind_assoc, bind_pure, tt_if, bif_and, bif_or]; rfl) | rfl)) (fun told_ => (SL.atR (R' := [some (.frz ((eTup eInt) odds_)), some (.frz ((eTup (eT2 eInt eInt)) sights_)), some (.frz ((eTup eInt) plan_)), some (.frz ((eLst (eT2 eInt eInt)) told_)), none, none, none]) (SL.asc (sl_setLc (eb := (eT2 eInt eInt)) (i := 4) (own := [("k", 6)]) (g := (gName 6)) (is := [6]) (dts := (fun a => [eInt a])) (mt := fun k_ => pure true) (me := fun k_ => (fromO (L2.atI told_ k_) >>= fun v4 => fromO (L2.atI sights_ k_) >>= fun v5 => fromO (m_times v4 v5))) rfl rfl (ltR 7 rfl rfl) (sw_true rfl rfl rfl rfl) rfl nd (si_range1 rfl T.z_range (SX.b (se_lenL (ea := (eT2 eInt eInt)) rfl T.z_len (SX.b (se_var (ea := (eLst (eT2 eInt eInt))) (d := told_) (i := 3) rfl (.inr (.inl rfl)) rfl rfl rfl))))) (blkOk_by rfl) (fun _ _ _ _ _ => (pg_name (i := 6) nd rfl (.inl rfl))) g_name (by decide) (ltAll 7 rfl rfl) (fun k_ _ _ _ _ _ => sf_nil) (fun k_ _ _ _ _ _ => (SX.eq (se_call (FnOk.mono (ok_times T) (by decide)) hr rfl T.g12 T.F12.kp T.b12 (sa_cons (ea := (eT2 eInt eInt)) (eg := fun g : (Int × Int) => [(eT2 eInt eInt) g]) (se_ixL (ea := (eT2 eInt eInt)) (SX.b (se_var (ea := (eLst (eT2 eInt eInt))) (d := told_) (i := 3) rfl (.inr (.inl rfl)) rfl rfl rfl)) (SX.b (se_var (ea := eInt) (d := k_) (i := 6) rfl (.inl rfl) rfl rfl rfl)) (fun _ _ => rfl)) (sa_one (ea := (eT2 eInt eInt)) (se_ixT (ea := (eT2 eInt eInt)) (SX.b (se_var (ea := (eTup (eT2 eInt eInt))) (d := sights_) (i := 1) rfl (.inr (.inl rfl)) rfl rfl rfl)) (SX.b (se_var (ea := eInt) (d := k_) (i := 6) rfl (.inl rfl) rfl rfl rfl)) (fun _ _ => rfl)))) rfl rfl rfl) (by first | with_reducible rfl | (simp only [pure_bind, bind_assoc, bind_pure, tt_if, bif_and, bif_or]; done) | (simp only [pure_bind, bind_assoc, bind_pure, tt_if, bif_and, bif_or]; with_reducible rfl) | (simp only [pure_bind, bind_assoc, bind_pure, tt_if, bif_and, bif_or]; rfl) | rfl))) (by first | with_reducible rfl | (simp only [pure_bind, bind_assoc, bind_pure, tt_if, bif_and, bif_or]; done) | (simp only [pure_bind, bind_assoc, bind_pure, tt_if, bif_and, bif_or]; with_reducible rfl) | (simp only [pure_bind, bind_assoc, bind_pure, tt_if, bif_and, bif_or]; rfl) | rfl) (fun worths_ => (SL.lock 4 rfl (SL.atR (R' := [some (.frz ((eTup eInt) odds_)), some (.frz ((eTup (eT2 eInt eInt)) sights_)), some (.frz ((eTup eInt) plan_)), some (.frz ((eLst (eT2 eInt eInt)) told_)), some (.frz ((eLst (eT2 eInt eInt)) worths_)), none, none]) (SL.asc (sl_set (i := 5) (ea := eInt) nd rfl (.inl rfl) (ltR 7 rfl rfl) se_int (fun best_ => (SL.atR (R' := [some (.frz ((eTup eInt) odds_)), some (.frz ((eTup (eT2 eInt eInt)) sights_)), some (.frz ((eTup eInt) plan_)), some (.frz ((eLst (eT2 eInt eInt)) told_)), some (.frz ((eLst (eT2 eInt eInt)) worths_)), some (.frz (eInt best_)), none]) (SL.asc2 (sl_forP (Rl := fun d : Int => [some (.frz ((eTup eInt) odds_)), some (.frz ((eTup (eT2 eInt eInt)) sights_)), some (.frz ((eTup eInt) plan_)), some (.frz ((eLst (eT2 eInt eInt)) told_)), some (.frz ((eLst (eT2 eInt eInt)) worths_)), some (.frz (eInt d)), none]) (d0 := best_) (g := (gName 6)) (is := [6]) (dts := (fun a => [eInt a])) PassesOwn.never rfl (SI.eq (si_range1 rfl T.z_range (SX.b (se_lenL (ea := (eT2 eInt eInt)) rfl T.z_len (SX.b (se_var (ea := (eLst (eT2 eInt eInt))) (d := worths_) (i := 4) rfl (.inl rfl) rfl rfl rfl))))) (by first | with_reducible rfl | (simp only [pure_bind, bind_assoc, bind_pure, tt_if, bif_and, bif_or]; done) | (simp only [pure_bind, bind_assoc, bind_pure, tt_if, bif_and, bif_or]; with_reducible rfl) | (simp only [pure_bind, bind_assoc, bind_pure, tt_if, bif_and, bif_or]; rfl) | rfl)) (pg_name (i := 6) nd rfl (.inl rfl)) g_name (subC (subC (subC (subC (subC (subC (subN subE))))))) (fun _ => ltAll 7 rfl rfl) (fun k_2 d_ => (SL.atR (R' := [some (.frz ((eTup eInt) odds_)), some (.frz ((eTup (eT2 eInt eInt)) sights_)), some (.frz ((eTup eInt) plan_)), some (.frz ((eLst (eT2 eInt eInt)) told_)), some (.frz ((eLst (eT2 eInt eInt)) worths_)), some (.frz (eInt d_)), some (.frz (eInt k_2))]) (SL.asc (sl_set (i := 5) (ea := eInt) nd rfl (.inl rfl) (ltR 7 rfl rfl) (SX.eq (sx_if kF_ok (SX.t (se_call (FnOk.mono (ok_is_less T) (by decide)) hr rfl T.g1 T.F1.kp T.b1 (sa_cons (ea := (eT2 eInt eInt)) (eg := fun g : (Int × Int) => [(eT2 eInt eInt) g]) (se_ixL (ea := (eT2 eInt eInt)) (SX.b (se_var (ea := (eLst (eT2 eInt eInt))) (d := worths_) (i := 4) rfl (.inl rfl) rfl rfl rfl)) (SX.b (se_var (ea := eInt) (d := d_) (i := 5) rfl (.inl rfl) rfl rfl rfl)) (fun _ _ => rfl)) (sa_one (ea := (eT2 eInt eInt)) (se_ixL (ea := (eT2 eInt eInt)) (SX.b (se_var (ea := (eLst (eT2 eInt eInt))) (d := worths_) (i := 4) rfl (.inl rfl) rfl rfl rfl)) (SX.b (se_var (ea := eInt) (d := k_2) (i := 6) rfl (.inl rfl) rfl rfl rfl)) (fun _ _ => rfl)))) rfl rfl rfl) (fun _ => rfl)) (se_var (ea := eInt) (d := k_2) (i := 6) rfl (.inl rfl) rfl rfl rfl) (se_var (ea := eInt) (d := d_) (i := 5) rfl (.inl rfl) rfl rfl rfl)) (by first | with_reducible rfl | (simp only [pure_bind, bind_assoc, bind_pure, tt_if, bif_and, bif_or]; done) | (simp only [pure_bind, bind_assoc, bind_pure, tt_if, bif_and, bif_or]; with_reducible rfl) | (simp only [pure_bind, bind_assoc, bind_pure, tt_if, bif_and, bif_or]; rfl) | rfl)) (fun best_2 => (sp_nil best_2 (subC (subC (subC (subC (subC (subC (subN subE))))))))) rfl (.inr rfl))) rfl)) (fun d_2 => (SL.atR (R' := [some (.frz ((eTup eInt) odds_)), some (.frz ((eTup (eT2 eInt eInt)) sights_)), some (.frz ((eTup eInt) plan_)), some (.frz ((eLst (eT2 eInt eInt)) told_)), some (.frz ((eLst (eT2 eInt eInt)) worths_)), some (.frz (eInt d_2)), none]) (sf_ret (se_var (ea := eInt) (d := d_2) (i := 5) rfl (.inl rfl) rfl rfl rfl)) rfl)) (fun _ => rfl))) rfl)) rfl (.inr rfl))) rfl))))) rfl)) rfl (.inl rfl))) rfl)
theorem ok_most_worth (T : Tp K mg) : FnOk P w K mg base CX0 6 T.f28 T.d28 p28 (spP K w (fun g : (List Int) × (List (Int × Int)) × (List Int) => [(eTup eInt) g.1, (eTup (eT2 eInt eInt)) g.2.1, (eTup eInt) g.2.2]) eInt (fun g => m_most_worth g.1 g.2.1 g.2.2)) :=
  fn_pure T.F28 sc28 (fun _ => rfl) (by decide) fun cdv A outer s H E hr g => bd_most_worth T cdv A outer s H E hr g.1 g.2.1 g.2.2
theorem bd_best_start (T : Tp K mg) (cdv : Value) (A : Around) (outer : List Env) (s : Shared) (H : Hp) (E : XK) (hr : Room 6 (A.deeper (envOfC "best_start" (defScope (topS 18)) s.heap.objs.size T.f29 cdv))) (odds_ : (List Int)) (sights_ : (List (Int × Int))) : SF (cx0 P w K mg base N29 "best_start" (topS 18) T.f29 cdv A outer s H E) (m := Option) wd0 W0 H [some (.frz ((eTup eInt) odds_)), some (.frz ((eTup (eT2 eInt eInt)) sights_))] (defBody (topS 18)) eInt (m_best_start odds_ sights_) :=
  have nd := sc29.nd
  (SL.atR (R' := [some (.frz ((eTup eInt) odds_)), some (.frz ((eTup (eT2 eInt eInt)) sights_))]) (sf_ret (SX.eq (se_call (FnOk.mono (ok_most_worth T) (by decide)) hr rfl T.g28 T.F28.kp T.b28 (sa_cons (ea := (eTup eInt)) (eg := fun g : (List (Int × Int)) × (List Int) => [(eTup (eT2 eInt eInt)) g.1, (eTup eInt) g.2]) (se_var (ea := (eTup eInt)) (d := odds_) (i := 0) rfl (.inl rfl) rfl rfl rfl) (sa_cons (ea := (eTup (eT2 eInt eInt))) (eg := fun g : (List Int) => [(eTup eInt) g]) (se_var (ea := (eTup (eT2 eInt eInt))) (d := sights_) (i := 1) rfl (.inl rfl) rfl rfl rfl) (sa_one (ea := (eTup eInt)) (se_tup0 (ea := eInt))))) rfl rfl rfl) (by first | with_reducible rfl | (simp only [pure_bind, bind_assoc, bind_pure, tt_if, bif_and, bif_or]; done) | (simp only [pure_bind, bind_assoc, bind_pure, tt_if, bif_and, bif_or]; with_reducible rfl) | (simp only [pure_bind, bind_assoc, bind_pure, tt_if, bif_and, bif_or]; rfl) | rfl))) rfl)
theorem ok_best_start (T : Tp K mg) : FnOk P w K mg base CX0 7 T.f29 T.d29 p29 (spP K w (fun g : (List Int) × (List (Int × Int)) => [(eTup eInt) g.1, (eTup (eT2 eInt eInt)) g.2]) eInt (fun g => m_best_start g.1 g.2)) :=
  fn_pure T.F29 sc29 (fun _ => rfl) (by decide) fun cdv A outer s H E hr g => bd_best_start T cdv A outer s H E hr g.1 g.2
theorem bd_best_plan (T : Tp K mg) (cdv : Value) (A : Around) (outer : List Env) (s : Shared) (H : Hp) (E : XK) (hr : Room 6 (A.deeper (envOfC "best_plan" (defScope (topS 19)) s.heap.objs.size T.f30 cdv))) (odds_ : (List Int)) (sights_ : (List (Int × Int))) (many_ : Int) : SF (cx0 P w K mg base N30 "best_plan" (topS 19) T.f30 cdv A outer s H E) (m := Option) wd0 W0 H [some (.frz ((eTup eInt) odds_)), some (.frz ((eTup (eT2 eInt eInt)) sights_)), some (.frz (eInt many_)), none, none] (defBody (topS 19)) (eT2 (eT2 eInt eInt) (eTup eInt)) (m_best_plan odds_ sights_ many_) :=
  have nd := sc30.nd
  (SL.atR (R' := [some (.frz ((eTup eInt) odds_)), some (.frz ((eTup (eT2 eInt eInt)) sights_)), some (.frz (eInt many_)), none, none]) (SL.asc (sl_set (i := 3) (ea := (eTup eInt)) nd rfl (.inl rfl) (ltR 5 rfl rfl) (se_tup0 (ea := eInt)) (fun plan_ => (SL.atR (R' := [some (.frz ((eTup eInt) odds_)), some (.frz ((eTup (eT2 eInt eInt)) sights_)), some (.frz (eInt many_)), some (.frz ((eTup eInt) plan_)), none]) (SL.asc2 (sl_forP (Rl := fun d : (List Int) => [some (.frz ((eTup eInt) odds_)), some (.frz ((eTup (eT2 eInt eInt)) sights_)), some (.frz (eInt many_)), some (.frz ((eTup eInt) d)), none]) (d0 := plan_) (g := (gName 4)) (is := [4]) (dts := (fun a => [eInt a])) PassesOwn.never rfl (SI.eq (si_range1 rfl T.z_range (SX.b (se_var (ea := eInt) (d := many_) (i := 2) rfl (.inl rfl) rfl rfl rfl))) (by first | with_reducible rfl | (simp only [pure_bind, bind_assoc, bind_pure, tt_if, bif_and, bif_or]; done) | (simp only [pure_bind, bind_assoc, bind_pure, tt_if, bif_and, bif_or]; with_reducible rfl) | (simp only [pure_bind, bind_assoc, bind_pure, tt_if, bif_and, bif_or]; rfl) | rfl)) (pg_name (i := 4) nd rfl (.inl rfl)) g_name (subC (subC (subC (subC (subN subE))))) (fun _ => ltAll 5 rfl rfl) (fun __ d_ => (SL.atR (R' := [some (.frz ((eTup eInt) odds_)), some (.frz ((eTup (eT2 eInt eInt)) sights_)), some (.frz (eInt many_)), some (.frz ((eTup eInt) d_)), some (.frz (eInt __))]) (SL.asc (sl_set (i := 3) (ea := (eTup eInt)) nd rfl (.inl rfl) (ltR 5 rfl rfl) (SX.eq (se_catT (SX.b (se_var (ea := (eTup eInt)) (d := d_) (i := 3) rfl (.inl rfl) rfl rfl rfl)) (SX.b (se_tupH (ea := eInt) (f := (fun g => [g])) (sa_one (ea := eInt) (se_call (FnOk.mono (ok_most_worth T) (by decide)) hr rfl T.g28 T.F28.kp T.b28 (sa_cons (ea := (eTup eInt)) (eg := fun g : (List (Int × Int)) × (List Int) => [(eTup (eT2 eInt eInt)) g.1, (eTup eInt) g.2]) (se_var (ea := (eTup eInt)) (d := odds_) (i := 0) rfl (.inl rfl) rfl rfl rfl) (sa_cons (ea := (eTup (eT2 eInt eInt))) (eg := fun g : (List Int) => [(eTup eInt) g]) (se_var (ea := (eTup (eT2 eInt eInt))) (d := sights_) (i := 1) rfl (.inl rfl) rfl rfl rfl) (sa_one (ea := (eTup eInt)) (se_var (ea := (eTup eInt)) (d := d_) (i := 3) rfl (.inl rfl) rfl rfl rfl)))) rfl rfl rfl)) (fun _ => rfl) (fun _ => Nat.le_of_ble_eq_true rfl)))) (by first | with_reducible rfl | (simp only [pure_bind, bind_assoc, bind_pure, tt_if, bif_and, bif_or]; done) | (simp only [pure_bind, bind_assoc, bind_pure, tt_if, bif_and, bif_or]; with_reducible rfl) | (simp only [pure_bind, bind_assoc, bind_pure, tt_if, bif_and, bif_or]; rfl) | rfl)) (fun plan_2 => (sp_nil plan_2 (subC (subC (subC (subC (subN subE))))))) rfl (.inr rfl))) rfl)) (fun d_2 => (SL.atR (R' := [some (.frz ((eTup eInt) odds_)), some (.frz ((eTup (eT2 eInt eInt)) sights_)), some (.frz (eInt many_)), some (.frz ((eTup eInt) d_2)), none]) (sf_ret (SX.eq (se_tup (et := (eT2 (eT2 eInt eInt) (eTup eInt))) (sa_cons (ea := (eT2 eInt eInt)) (eg := fun g : (List Int) => [(eTup eInt) g]) (se_call (FnOk.mono (ok_found_by T) (by decide)) hr rfl T.g26 T.F26.kp T.b26 (sa_cons (ea := (eTup eInt)) (eg := fun g : (List (Int × Int)) × (List Int) => [(eTup (eT2 eInt eInt)) g.1, (eTup eInt) g.2]) (se_var (ea := (eTup eInt)) (d := odds_) (i := 0) rfl (.inl rfl) rfl rfl rfl) (sa_cons (ea := (eTup (eT2 eInt eInt))) (eg := fun g : (List Int) => [(eTup eInt) g]) (se_var (ea := (eTup (eT2 eInt eInt))) (d := sights_) (i := 1) rfl (.inl rfl) rfl rfl rfl) (sa_one (ea := (eTup eInt)) (se_var (ea := (eTup eInt)) (d := d_2) (i := 3) rfl (.inl rfl) rfl rfl rfl)))) rfl rfl rfl) (sa_one (ea := (eTup eInt)) (se_var (ea := (eTup eInt)) (d := d_2) (i := 3) rfl (.inl rfl) rfl rfl rfl))) (fun _ => rfl) (fun _ => Nat.le_of_ble_eq_true rfl)) (by first | with_reducible rfl | (simp only [pure_bind, bind_assoc, bind_pure, tt_if, bif_and, bif_or]; done) | (simp only [pure_bind, bind_assoc, bind_pure, tt_if, bif_and, bif_or]; with_reducible rfl) | (simp only [pure_bind, bind_assoc, bind_pure, tt_if, bif_and, bif_or]; rfl) | rfl))) rfl)) (fun _ => rfl))) rfl)) rfl (.inr rfl))) rfl)
theorem ok_best_plan (T : Tp K mg) : FnOk P w K mg base CX0 7 T.f30 T.d30 p30 (spP K w (fun g : (List Int) × (List (Int × Int)) × Int => [(eTup eInt) g.1, (eTup (eT2 eInt eInt)) g.2.1, eInt g.2.2]) (eT2 (eT2 eInt eInt) (eTup eInt)) (fun g => m_best_plan g.1 g.2.1 g.2.2)) :=
  fn_pure T.F30 sc30 (fun _ => rfl) (by decide) fun cdv A outer s H E hr g => bd_best_plan T cdv A outer s H E hr g.1 g.2.1 g.2.2
theorem bd_mean_looks (T : Tp K mg) (cdv : Value) (A : Around) (outer : List Env) (s : Shared) (H : Hp) (E : XK) (hr : Room 6 (A.deeper (envOfC "mean_looks" (defScope (topS 21)) s.heap.objs.size T.f31 cdv))) (odds_ : (List Int)) (sights_ : (List (Int × Int))) (plan_ : (List Int)) : SF (cx0 P w K mg base N31 "mean_looks" (topS 21) T.f31 cdv A outer s H E) (m := Option) wd0 W0 H [some (.frz ((eTup eInt) odds_)), some (.frz ((eTup (eT2 eInt eInt)) sights_)), some (.frz ((eTup eInt) plan_)), none, none] (defBody (topS 21)) (eT2 eInt eInt) (m_mean_looks odds_ sights_ plan_) :=
  have nd := sc31.nd
  (SL.atR (R' := [some (.frz ((eTup eInt) odds_)), some (.frz ((eTup (eT2 eInt eInt)) sights_)), some (.frz ((eTup eInt) plan_)), none, none]) (SL.asc (sl_set (i := 3) (ea := (eT2 eInt eInt)) nd rfl (.inl rfl) (ltR 5 rfl rfl) (se_glob (ea := (eT2 eInt eInt)) (d := ((0 : Int), (1 : Int))) rfl T.c_NOTHING rfl) (fun found_ => (SL.atR (R' := [some (.frz ((eTup eInt) odds_)), some (.frz ((eTup (eT2 eInt eInt)) sights_)), some (.frz ((eTup eInt) plan_)), some (.frz ((eT2 eInt eInt) found_)), none]) (SL.asc2 (sl_forP (Rl := fun d : (Int × Int) => [some (.frz ((eTup eInt) odds_)), some (.frz ((eTup (eT2 eInt eInt)) sights_)), some (.frz ((eTup eInt) plan_)), some (.frz ((eT2 eInt eInt) d)), none]) (d0 := found_) (g := (gName 4)) (is := [4]) (dts := (fun a => [eInt a])) PassesOwn.never rfl (SI.eq (si_range1 rfl T.z_range (SX.b (se_lenT (ea := eInt) rfl T.z_len (SX.b (se_var (ea := (eTup eInt)) (d := plan_) (i := 2) rfl (.inl rfl) rfl rfl rfl))))) (by first | with_reducible rfl | (simp only [pure_bind, bind_assoc, bind_pure, tt_if, bif_and, bif_or]; done) | (simp only [pure_bind, bind_assoc, bind_pure, tt_if, bif_and, bif_or]; with_reducible rfl) | (simp only [pure_bind, bind_assoc, bind_pure, tt_if, bif_and, bif_or]; rfl) | rfl)) (pg_name (i := 4) nd rfl (.inl rfl)) g_name (subC (subC (subC (subC (subN subE))))) (fun _ => ltAll 5 rfl rfl) (fun k_ d_ => (SL.atR (R' := [some (.frz ((eTup eInt) odds_)), some (.frz ((eTup (eT2 eInt eInt)) sights_)), some (.frz ((eTup eInt) plan_)), some (.frz ((eT2 eInt eInt) d_)), some (.frz (eInt k_))]) (SL.asc (sl_set (i := 3) (ea := (eT2 eInt eInt)) nd rfl (.inl rfl) (ltR 5 rfl rfl) (SX.eq (se_call (FnOk.mono (ok_plus T) (by decide)) hr rfl T.g10 T.F10.kp T.b10 (sa_cons (ea := (eT2 eInt eInt)) (eg := fun g : (Int × Int) => [(eT2 eInt eInt) g]) (se_var (ea := (eT2 eInt eInt)) (d := d_) (i := 3) rfl (.inl rfl) rfl rfl rfl) (sa_one (ea := (eT2 eInt eInt)) (se_call (FnOk.mono (ok_minus T) (by decide)) hr rfl T.g11 T.F11.kp T.b11 (sa_cons (ea := (eT2 eInt eInt)) (eg := fun g : (Int × Int) => [(eT2 eInt eInt) g]) (se_glob (ea := (eT2 eInt eInt)) (d := ((1 : Int), (1 : Int))) rfl T.c_WHOLE rfl) (sa_one (ea := (eT2 eInt eInt)) (se_call (FnOk.mono (ok_found_by T) (by decide)) hr rfl T.g26 T.F26.kp T.b26 (sa_cons (ea := (eTup eInt)) (eg := fun g : (List (Int × Int)) × (List Int) => [(eTup (eT2 eInt eInt)) g.1, (eTup eInt) g.2]) (se_var (ea := (eTup eInt)) (d := odds_) (i := 0) rfl (.inl rfl) rfl rfl rfl) (sa_cons (ea := (eTup (eT2 eInt eInt))) (eg := fun g : (List Int) => [(eTup eInt) g]) (se_var (ea := (eTup (eT2 eInt eInt))) (d := sights_) (i := 1) rfl (.inl rfl) rfl rfl rfl) (sa_one (ea := (eTup eInt)) (se_sliceT (SX.b (se_var (ea := (eTup eInt)) (d := plan_) (i := 2) rfl (.inl rfl) rfl rfl rfl)) sq_none (sq_some (se_var (ea := eInt) (d := k_) (i := 4) rfl (.inl rfl) rfl rfl rfl)))))) rfl rfl rfl))) rfl rfl rfl))) rfl rfl rfl) (by first | with_reducible rfl | (simp only [pure_bind, bind_assoc, bind_pure, tt_if, bif_and, bif_or]; done) | (simp only [pure_bind, bind_assoc, bind_pure, tt_if, bif_and, bif_or]; with_reducible rfl) | (simp only [pure_bind, bind_assoc, bind_pure, tt_if, bif_and, bif_or]; rfl) | rfl)) (fun found_2 => (sp_nil found_2 (subC (subC (subC (subC (subN subE))))))) rfl (.inr rfl))) rfl)) (fun d_2 => (SL.atR (R' := [some (.frz ((eTup eInt) odds_)), some (.frz ((eTup (eT2 eInt eInt)) sights_)), some (.frz ((eTup eInt) plan_)), some (.frz ((eT2 eInt eInt) d_2)), none]) (sf_ret (se_var (ea := (eT2 eInt eInt)) (d := d_2) (i := 3) rfl (.inl rfl) rfl rfl rfl)) rfl)) (fun _ => rfl))) rfl)) rfl (.inr rfl))) rfl)
theorem ok_mean_looks (T : Tp K mg) : FnOk P w K mg base CX0 7 T.f31 T.d31 p31 (spP K w (fun g : (List Int) × (List (Int × Int)) × (List Int) => [(eTup eInt) g.1, (eTup (eT2 eInt eInt)) g.2.1, (eTup eInt) g.2.2]) (eT2 eInt eInt) (fun g => m_mean_looks g.1 g.2.1 g.2.2)) :=
  fn_pure T.F31 sc31 (fun _ => rfl) (by decide) fun cdv A outer s H E hr g => bd_mean_looks T cdv A outer s H E hr g.1 g.2.1 g.2.2
theorem bd_looks_for (T : Tp K mg) (cdv : Value) (A : Around) (outer : List Env) (s : Shared) (H : Hp) (E : XK) (hr : Room 7 (A.deeper (envOfC "looks_for" (defScope (topS 20)) s.heap.objs.size T.f32 cdv))) (odds_ : (List Int)) (sights_ : (List (Int × Int))) (least_ : (Int × Int)) : SF (cx0 P w K mg base N32 "looks_for" (topS 20) T.f32 cdv A outer s H E) (m := Option) wd0 W0 H [some (.frz ((eTup eInt) odds_)), some (.frz ((eTup (eT2 eInt eInt)) sights_)), some (.frz ((eT2 eInt eInt) least_)), none] (defBody (topS 20)) (eOpt eInt) (m_looks_for odds_ sights_ least_) :=
  have nd := sc32.nd
  (SL.atR (R' := [some (.frz ((eTup eInt) odds_)), some (.frz ((eTup (eT2 eInt eInt)) sights_)), some (.frz ((eT2 eInt eInt) least_)), none]) (sf_forG (Rl := fun d : Unit => [some (.frz ((eTup eInt) odds_)), some (.frz ((eTup (eT2 eInt eInt)) sights_)), some (.frz ((eT2 eInt eInt) least_)), none]) (d0 := ()) (g := (gName 3)) (is := [3]) (dts := (fun a => [eInt a])) PassesOwn.never rfl (SI.eq (si_range1 rfl T.z_range (SX.b se_int)) (by first | with_reducible rfl | (simp only [pure_bind, bind_assoc, bind_pure, tt_if, bif_and, bif_or]; done) | (simp only [pure_bind, bind_assoc, bind_pure, tt_if, bif_and, bif_or]; with_reducible rfl) | (simp only [pure_bind, bind_assoc, bind_pure, tt_if, bif_and, bif_or]; rfl) | rfl)) (pg_name (i := 3) nd rfl (.inl rfl)) g_name (subC (subC (subC (subN subE)))) (fun _ => ltAll 4 rfl rfl) (fun many_ d_ => (SL.atR (R' := [some (.frz ((eTup eInt) odds_)), some (.frz ((eTup (eT2 eInt eInt)) sights_)), some (.frz ((eT2 eInt eInt) least_)), some (.frz (eInt many_))]) (sl_ifR (ST.eq (st_not (SX.t (se_call (FnOk.mono (ok_is_less T) (by decide)) hr rfl T.g1 T.F1.kp T.b1 (sa_cons (ea := (eT2 eInt eInt)) (eg := fun g : (Int × Int) => [(eT2 eInt eInt) g]) (se_ixCI (ea := (eT2 (eT2 eInt eInt) (eTup eInt))) (ec := (eT2 eInt eInt)) (i := 0) (f := fun p => p.1) (SX.b (se_call (FnOk.mono (ok_best_plan T) (by decide)) hr rfl T.g30 T.F30.kp T.b30 (sa_cons (ea := (eTup eInt)) (eg := fun g : (List (Int × Int)) × Int => [(eTup (eT2 eInt eInt)) g.1, eInt g.2]) (se_var (ea := (eTup eInt)) (d := odds_) (i := 0) rfl (.inl rfl) rfl rfl rfl) (sa_cons (ea := (eTup (eT2 eInt eInt))) (eg := fun g : Int => [eInt g]) (se_var (ea := (eTup (eT2 eInt eInt))) (d := sights_) (i := 1) rfl (.inl rfl) rfl rfl rfl) (sa_one (ea := eInt) (se_var (ea := eInt) (d := many_) (i := 3) rfl (.inl rfl) rfl rfl rfl)))) rfl rfl rfl)) (SX.b se_int) (fun _ _ => rfl) (fun p => ⟨_, rfl, rfl⟩)) (sa_one (ea := (eT2 eInt eInt)) (se_var (ea := (eT2 eInt eInt)) (d := least_) (i := 2) rfl (.inl rfl) rfl rfl rfl))) rfl rfl rfl) (fun _ => rfl))) (by first | with_reducible rfl | (simp only [pure_bind, bind_assoc, bind_pure, tt_if, bif_and, bif_or]; done) | (simp only [pure_bind, bind_assoc, bind_pure, tt_if, bif_and, bif_or]; with_reducible rfl) | (simp only [pure_bind, bind_assoc, bind_pure, tt_if, bif_and, bif_or]; rfl) | rfl)) (SL.atR (R' := [some (.frz ((eTup eInt) odds_)), some (.frz ((eTup (eT2 eInt eInt)) sights_)), some (.frz ((eT2 eInt eInt) least_)), some (.frz (eInt many_))]) (sf_ret (SX.eq (SX.mapI (ea := eInt) (eb := (eOpt eInt)) (f := some) (se_var (ea := eInt) (d := many_) (i := 3) rfl (.inl rfl) rfl rfl rfl) kF_ok (fun _ => rfl)) (by first | with_reducible rfl | (simp only [pure_bind, bind_assoc, bind_pure, tt_if, bif_and, bif_or]; done) | (simp only [pure_bind, bind_assoc, bind_pure, tt_if, bif_and, bif_or]; with_reducible rfl) | (simp only [pure_bind, bind_assoc, bind_pure, tt_if, bif_and, bif_or]; rfl) | rfl))) rfl) (sl_nil () (subC (subC (subC (subN subE)))))) rfl)) (fun d_2 => (SL.atR (R' := [some (.frz ((eTup eInt) odds_)), some (.frz ((eTup (eT2 eInt eInt)) sights_)), some (.frz ((eT2 eInt eInt) least_)), none]) (sf_ret (SX.eq (SX.mapI (ea := eNon) (eb := (eOpt eInt)) (f := (fun _ => none)) se_non kF_ok (fun _ => rfl)) (by first | with_reducible rfl | (simp only [pure_bind, bind_assoc, bind_pure, tt_if, bif_and, bif_or]; done) | (simp only [pure_bind, bind_assoc, bind_pure, tt_if, bif_and, bif_or]; with_reducible rfl) | (simp only [pure_bind, bind_assoc, bind_pure, tt_if, bif_and, bif_or]; rfl) | rfl))) rfl)) (fun _ => rfl)) rfl)
theorem ok_looks_for (T : Tp K mg) : FnOk P w K mg base CX0 8 T.f32 T.d32 p32 (spP K w (fun g : (List Int) × (List (Int × Int)) × (Int × Int) => [(eTup eInt) g.1, (eTup (eT2 eInt eInt)) g.2.1, (eT2 eInt eInt) g.2.2]) (eOpt eInt) (fun g => m_looks_for g.1 g.2.1 g.2.2)) :=
  fn_pure T.F32 sc32 (fun _ => rfl) (by decide) fun cdv A outer s H E hr g => bd_looks_for T cdv A outer s H E hr g.1 g.2.1 g.2.2
theorem bd_lawb (T : Tp K mg) (cdv : Value) (A : Around) (outer : List Env) (s : Shared) (H : Hp) (E : XK) (aw : Addr) (hr : Room 8 (A.deeper (envOfC "law" (defScope (topS 38)) s.heap.objs.size T.f33 cdv))) (script_ : List Int) : SF (cx0 P w K mg base N33 "law" (topS 38) T.f33 cdv A outer s H E) (m := WM DW) (drawsW aw) W0 H [some (.scr script_), some (.adr aw), none, none, none, none, none, none, none, none, none, none, none, none, none, none, none, none, none, none, none, none, none, none, none, none, none, none, none] ((defBody (topS 38)).drop 1) eBool (m_lawb script_) :=
  have nd := sc33.nd
  have huw : _ := Nat.lt_of_le_of_lt (Nat.add_le_add_left (by decide : 1 ≤ 64) _) hr.units
  (SL.atR (R' := [some (.scr script_), some (.adr aw), none, none, none, none, none, none, none, none, none, none, none, none, none, none, none, none, none, none, none, none, none, none, none, none, none, none, none]) (sf_forG (Rl := fun d : Unit => [some (.scr script_), some (.adr aw), none, none, none, none, none, none, none, none, none, none, none, none, none, none, none, none, none, none, none, none, none, none, none, none, none, none, none]) (d0 := ()) (g := (gName 2)) (is := [2]) (dts := (fun a => [eInt a])) PassesOwn.never rfl (SI.eq (si_range1 rfl T.z_range (SX.b se_int)) (by first | with_reducible rfl | (simp only [pure_bind, bind_assoc, bind_pure, tt_if, bif_and, bif_or]; done) | (simp only [pure_bind, bind_assoc, bind_pure, tt_if, bif_and, bif_or]; with_reducible rfl) | (simp only [pure_bind, bind_assoc, bind_pure, tt_if, bif_and, bif_or]; rfl) | rfl)) (pg_name (i := 2) nd rfl (.inl rfl)) g_name (subC (subC (subN (subN (subN (subN (subN (subN (subN (subN (subN (subN (subN (subN (subN (subN (subN (subN (subN (subN (subN (subN (subN (subN (subN (subN (subN (subN (subN subE))))))))))))))))))))))))))))) (fun _ => ltAll 29 rfl rfl) (fun turn_ d_ => (SL.atR (R' := [some (.scr script_), some (.adr aw), some (.frz (eInt turn_)), none, none, none, none, none, none, none, none, none, none, none, none, none, none, none, none, none, none, none, none, none, none, none, none, none, none]) (sl_set (i := 3) (ea := eInt) nd rfl (.inr rfl) (ltR 29 rfl rfl) (SX.eq (se_add (SX.b se_int) (SX.b (se_callW (i := 1) (FnOk.mono (ok__law_next T) (by decide)) hr rfl T.g3 T.F3.kp T.b3 rfl (.inr (.inl rfl)) rfl rfl rfl (sa_one (ea := eInt) se_int) rfl rfl rfl))) (by first | with_reducible rfl | (simp only [pure_bind, bind_assoc, bind_pure, tt_if, bif_and, bif_or]; done) | (simp only [pure_bind, bind_assoc, bind_pure, tt_if, bif_and, bif_or]; with_reducible rfl) | (simp only [pure_bind, bind_assoc, bind_pure, tt_if, bif_and, bif_or]; rfl) | rfl)) (fun many_ => (SL.atR (R' := [some (.scr script_), some (.adr aw), some (.frz (eInt turn_)), some (.frz (eInt many_)), none, none, none, none, none, none, none, none, none, none, none, none, none, none, none, none, none, none, none, none, none, none, none, none, none]) (sl_set (i := 4) (ea := (eTup eInt)) nd rfl (.inr rfl) (ltR 29 rfl rfl) (SX.eq (se_catT (SX.b (se_tupleL (ea := eInt) rfl T.z_tuple (SX.ob (so_comp (eb := eInt) (own := [("k", 12)]) (g := (gName 12)) (is := [12]) (dts := (fun a => [eInt a])) (mt := fun k_ => pure true) (me := fun k_ => (m__law_next (5 : Int))) rfl nd (si_range1 rfl T.z_range (SX.b (se_sub (SX.b (se_var (ea := eInt) (d := many_) (i := 3) rfl (.inr (.inl rfl)) rfl rfl rfl)) (SX.b se_int)))) (blkOk_by rfl) (fun _ _ _ _ _ => (pg_name (i := 12) nd rfl (.inl rfl))) g_name (by decide) (ltAll 29 rfl rfl) (fun k_ _ _ _ _ _ => sf_nil) (fun k_ _ _ _ _ _ => (SX.eq (se_callW (i := 1) (FnOk.mono (ok__law_next T) (by decide)) hr rfl T.g3 T.F3.kp T.b3 rfl (.inr (.inl rfl)) rfl rfl rfl (sa_one (ea := eInt) se_int) rfl rfl rfl) (by first | with_reducible rfl | (simp only [pure_bind, bind_assoc, bind_pure, tt_if, bif_and, bif_or]; done) | (simp only [pure_bind, bind_assoc, bind_pure, tt_if, bif_and, bif_or]; with_reducible rfl) | (simp only [pure_bind, bind_assoc, bind_pure, tt_if, bif_and, bif_or]; rfl) | rfl))))))) (SX.b (se_tupH (ea := eInt) (f := (fun g => [g])) (sa_one (ea := eInt) (se_add (SX.b se_int) (SX.b (se_callW (i := 1) (FnOk.mono (ok__law_next T) (by decide)) hr rfl T.g3 T.F3.kp T.b3 rfl (.inr (.inl rfl)) rfl rfl rfl (sa_one (ea := eInt) se_int) rfl rfl rfl)))) (fun _ => rfl) (fun _ => Nat.le_of_ble_eq_true rfl)))) (by first | with_reducible rfl | (simp only [pure_bind, bind_assoc, bind_pure, tt_if, bif_and, bif_or]; done) | (simp only [pure_bind, bind_assoc, bind_pure, tt_if, bif_and, bif_or]; with_reducible rfl) | (simp only [pure_bind, bind_assoc, bind_pure, tt_if, bif_and, bif_or]; rfl) | rfl)) (fun odds_ => (SL.atR (R' := [some (.scr script_), some (.adr aw), some (.frz (eInt turn_)), some (.frz (eInt many_)), some (.frz ((eTup eInt) odds_)), none, none, none, none, none, none, none, none, none, none, none, none, none, none, none, none, none, none, none, none, none, none, none, none]) (sl_set (i := 5) (ea := (eTup (eT2 eInt eInt))) nd rfl (.inr rfl) (ltR 29 rfl rfl) (SX.eq (se_tupleL (ea := (eT2 eInt eInt)) rfl T.z_tuple (SX.ob (so_comp (eb := (eT2 eInt eInt)) (own := [("k", 12)]) (g := (gName 12)) (is := [12]) (dts := (fun a => [eInt a])) (mt := fun k_2 => pure true) (me := fun k_2 => (m__law_pick [((0 : Int), (1 : Int)), ((1 : Int), (3 : Int)), ((1 : Int), (2 : Int)), ((3 : Int), (4 : Int)), ((1 : Int), (1 : Int))])) rfl nd (si_range1 rfl T.z_range (SX.b (se_var (ea := eInt) (d := many_) (i := 3) rfl (.inr (.inl rfl)) rfl rfl rfl))) (blkOk_by rfl) (fun _ _ _ _ _ => (pg_name (i := 12) nd rfl (.inl rfl))) g_name (by decide) (ltAll 29 rfl rfl) (fun k_2 _ _ _ _ _ => sf_nil) (fun k_2 _ _ _ _ _ => (SX.eq (se_callW (i := 1) (FnOk.mono (ok__law_pick T) (by decide)) hr rfl T.g8 T.F8.kp T.b8 rfl (.inr (.inl rfl)) rfl rfl rfl (sa_one (ea := (eLst (eT2 eInt eInt))) (SX.f (so_lst (ea := (eT2 eInt eInt)) (f := (fun g => [g.1, g.2.1, g.2.2.1, g.2.2.2.1, g.2.2.2.2])) (sa_cons (ea := (eT2 eInt eInt)) (eg := fun g : (Int × Int) × (Int × Int) × (Int × Int) × (Int × Int) => [(eT2 eInt eInt) g.1, (eT2 eInt eInt) g.2.1, (eT2 eInt eInt) g.2.2.1, (eT2 eInt eInt) g.2.2.2]) (se_tup (et := (eT2 eInt eInt)) (sa_cons (ea := eInt) (eg := fun g : Int => [eInt g]) se_int (sa_one (ea := eInt) se_int)) (fun _ => rfl) (fun _ => Nat.le_of_ble_eq_true rfl)) (sa_cons (ea := (eT2 eInt eInt)) (eg := fun g : (Int × Int) × (Int × Int) × (Int × Int) => [(eT2 eInt eInt) g.1, (eT2 eInt eInt) g.2.1, (eT2 eInt eInt) g.2.2]) (se_tup (et := (eT2 eInt eInt)) (sa_cons (ea := eInt) (eg := fun g : Int => [eInt g]) se_int (sa_one (ea := eInt) se_int)) (fun _ => rfl) (fun _ => Nat.le_of_ble_eq_true rfl)) (sa_cons (ea := (eT2 eInt eInt)) (eg := fun g : (Int × Int) × (Int × Int) => [(eT2 eInt eInt) g.1, (eT2 eInt eInt) g.2]) (se_tup (et := (eT2 eInt eInt)) (sa_cons (ea := eInt) (eg := fun g : Int => [eInt g]) se_int (sa_one (ea := eInt) se_int)) (fun _ => rfl) (fun _ => Nat.le_of_ble_eq_true rfl)) (sa_cons (ea := (eT2 eInt eInt)) (eg := fun g : (Int × Int) => [(eT2 eInt eInt) g]) (se_tup (et := (eT2 eInt eInt)) (sa_cons (ea := eInt) (eg := fun g : Int => [eInt g]) se_int (sa_one (ea := eInt) se_int)) (fun _ => rfl) (fun _ => Nat.le_of_ble_eq_true rfl)) (sa_one (ea := (eT2 eInt eInt)) (se_tup (et := (eT2 eInt eInt)) (sa_cons (ea := eInt) (eg := fun g : Int => [eInt g]) se_int (sa_one (ea := eInt) se_int)) (fun _ => rfl) (fun _ => Nat.le_of_ble_eq_true rfl))))))) (fun _ => rfl) (fun _ => Nat.le_of_ble_eq_true rfl)))) rfl rfl rfl) (by first | with_reducible rfl | (simp only [pure_bind, bind_assoc, bind_pure, tt_if, bif_and, bif_or]; done) | (simp only [pure_bind, bind_assoc, bind_pure, tt_if, bif_and, bif_or]; with_reducible rfl) | (simp only [pure_bind, bind_assoc, bind_pure, tt_if, bif_and, bif_or]; rfl) | rfl)))))) (by first | with_reducible rfl | (simp only [pure_bind, bind_assoc, bind_pure, tt_if, bif_and, bif_or]; done) | (simp only [pure_bind, bind_assoc, bind_pure, tt_if, bif_and, bif_or]; with_reducible rfl) | (simp only [pure_bind, bind_assoc, bind_pure, tt_if, bif_and, bif_or]; rfl) | rfl)) (fun sights_ => (SL.atR (R' := [some (.scr script_), some (.adr aw), some (.frz (eInt turn_)), some (.frz (eInt many_)), some (.frz ((eTup eInt) odds_)), some (.frz ((eTup (eT2 eInt eInt)) sights_)), none, none, none, none, none, none, none, none, none, none, none, none, none, none, none, none, none, none, none, none, none, none, none]) (sl_set (i := 6) (ea := (eTup eInt)) nd rfl (.inl rfl) (ltR 29 rfl rfl) (SX.eq (se_tupleL (ea := eInt) rfl T.z_tuple (SX.ob (so_comp (eb := eInt) (own := [("k", 12)]) (g := (gName 12)) (is := [12]) (dts := (fun a => [eInt a])) (mt := fun k_3 => pure true) (me := fun k_3 => (m__law_next many_)) rfl nd (si_range1 rfl T.z_range (SX.b (se_callW (i := 1) (FnOk.mono (ok__law_next T) (by decide)) hr rfl T.g3 T.F3.kp T.b3 rfl (.inr (.inl rfl)) rfl rfl rfl (sa_one (ea := eInt) se_int) rfl rfl rfl))) (blkOk_by rfl) (fun _ _ _ _ _ => (pg_name (i := 12) nd rfl (.inl rfl))) g_name (by decide) (ltAll 29 rfl rfl) (fun k_3 _ _ _ _ _ => sf_nil) (fun k_3 _ _ _ _ _ => (SX.eq (se_callW (i := 1) (FnOk.mono (ok__law_next T) (by decide)) hr rfl T.g3 T.F3.kp T.b3 rfl (.inr (.inl rfl)) rfl rfl rfl (sa_one (ea := eInt) (se_var (ea := eInt) (d := many_) (i := 3) rfl (.inr (.inl rfl)) rfl rfl rfl)) rfl rfl rfl) (by first | with_reducible rfl | (simp only [pure_bind, bind_assoc, bind_pure, tt_if, bif_and, bif_or]; done) | (simp only [pure_bind, bind_assoc, bind_pure, tt_if, bif_and, bif_or]; with_reducible rfl) | (simp only [pure_bind, bind_assoc, bind_pure, tt_if, bif_and, bif_or]; rfl) | rfl)))))) (by first | with_reducible rfl | (simp only [pure_bind, bind_assoc, bind_pure, tt_if, bif_and, bif_or]; done) | (simp only [pure_bind, bind_assoc, bind_pure, tt_if, bif_and, bif_or]; with_reducible rfl) | (simp only [pure_bind, bind_assoc, bind_pure, tt_if, bif_and, bif_or]; rfl) | rfl)) (fun plan_ => (SL.atR (R' := [some (.scr script_), some (.adr aw), some (.frz (eInt turn_)), some (.frz (eInt many_)), some (.frz ((eTup eInt) odds_)), some (.frz ((eTup (eT2 eInt eInt)) sights_)), some (.frz ((eTup eInt) plan_)), none, none, none, none, none, none, none, none, none, none, none, none, none, none, none, none, none, none, none, none, none, none]) (sl_set (i := 7) (ea := (eT2 eInt eInt)) nd rfl (.inl rfl) (ltR 29 rfl rfl) (SX.eq (se_call (FnOk.mono (ok__law_chance T) (by decide)) hr rfl T.g24 T.F24.kp T.b24 (sa_cons (ea := (eTup eInt)) (eg := fun g : (List (Int × Int)) × (List Int) => [(eTup (eT2 eInt eInt)) g.1, (eTup eInt) g.2]) (se_var (ea := (eTup eInt)) (d := odds_) (i := 4) rfl (.inr (.inl rfl)) rfl rfl rfl) (sa_cons (ea := (eTup (eT2 eInt eInt))) (eg := fun g : (List Int) => [(eTup eInt) g]) (se_var (ea := (eTup (eT2 eInt eInt))) (d := sights_) (i := 5) rfl (.inr (.inl rfl)) rfl rfl rfl) (sa_one (ea := (eTup eInt)) (se_var (ea := (eTup eInt)) (d := plan_) (i := 6) rfl (.inl rfl) rfl rfl rfl)))) rfl rfl rfl) (by first | with_reducible rfl | (simp only [pure_bind, bind_assoc, bind_pure, tt_if, bif_and, bif_or]; done) | (simp only [pure_bind, bind_assoc, bind_pure, tt_if, bif_and, bif_or]; with_reducible rfl) | (simp only [pure_bind, bind_assoc, bind_pure, tt_if, bif_and, bif_or]; rfl) | rfl)) (fun chance_ => (SL.atR (R' := [some (.scr script_), some (.adr aw), some (.frz (eInt turn_)), some (.frz (eInt many_)), some (.frz ((eTup eInt) odds_)), some (.frz ((eTup (eT2 eInt eInt)) sights_)), some (.frz ((eTup eInt) plan_)), some (.frz ((eT2 eInt eInt) chance_)), none, none, none, none, none, none, none, none, none, none, none, none, none, none, none, none, none, none, none, none, none]) (sl_ifR (ST.eq (SC.t (sc_neT (eq_t2 eq_int eq_int) (by decide) hr.units (SX.b (se_call (FnOk.mono (ok_found_by T) (by decide)) hr rfl T.g26 T.F26.kp T.b26 (sa_cons (ea := (eTup eInt)) (eg := fun g : (List (Int × Int)) × (List Int) => [(eTup (eT2 eInt eInt)) g.1, (eTup eInt) g.2]) (se_var (ea := (eTup eInt)) (d := odds_) (i := 4) rfl (.inr (.inl rfl)) rfl rfl rfl) (sa_cons (ea := (eTup (eT2 eInt eInt))) (eg := fun g : (List Int) => [(eTup eInt) g]) (se_var (ea := (eTup (eT2 eInt eInt))) (d := sights_) (i := 5) rfl (.inr (.inl rfl)) rfl rfl rfl) (sa_one (ea := (eTup eInt)) (se_var (ea := (eTup eInt)) (d := plan_) (i := 6) rfl (.inl rfl) rfl rfl rfl)))) rfl rfl rfl)) (SX.b (se_var (ea := (eT2 eInt eInt)) (d := chance_) (i := 7) rfl (.inl rfl) rfl rfl rfl))) rfl) (by first | with_reducible rfl | (simp only [pure_bind, bind_assoc, bind_pure, tt_if, bif_and, bif_or]; done) | (simp only [pure_bind, bind_assoc, bind_pure, tt_if, bif_and, bif_or]; with_reducible rfl) | (simp only [pure_bind, bind_assoc, bind_pure, tt_if, bif_and, bif_or]; rfl) | rfl)) (SL.atR (R' := [some (.scr script_), some (.adr aw), some (.frz (eInt turn_)), some (.frz (eInt many_)), some (.frz ((eTup eInt) odds_)), some (.frz ((eTup (eT2 eInt eInt)) sights_)), some (.frz ((eTup eInt) plan_)), some (.frz ((eT2 eInt eInt) chance_)), none, none, none, none, none, none, none, none, none, none, none, none, none, none, none, none, none, none, none, none, none]) (sf_ret se_bool) rfl) (SL.atR (R' := [some (.scr script_), some (.adr aw), some (.frz (eInt turn_)), some (.frz (eInt many_)), some (.frz ((eTup eInt) odds_)), some (.frz ((eTup (eT2 eInt eInt)) sights_)), some (.frz ((eTup eInt) plan_)), some (.frz ((eT2 eInt eInt) chance_)), none, none, none, none, none, none, none, none, none, none, none, none, none, none, none, none, none, none, none, none, none]) (sl_set (i := 8) (ea := (eLst (eT2 eInt eInt))) nd rfl (.inl rfl) (ltR 29 rfl rfl) (SX.eq (se_call (FnOk.mono (ok__law_left T) (by decide)) hr rfl T.g22 T.F22.kp T.b22 (sa_cons (ea := (eTup eInt)) (eg := fun g : (List (Int × Int)) × (List Int) => [(eTup (eT2 eInt eInt)) g.1, (eTup eInt) g.2]) (se_var (ea := (eTup eInt)) (d := odds_) (i := 4) rfl (.inr (.inl rfl)) rfl rfl rfl) (sa_cons (ea := (eTup (eT2 eInt eInt))) (eg := fun g : (List Int) => [(eTup eInt) g]) (se_var (ea := (eTup (eT2 eInt eInt))) (d := sights_) (i := 5) rfl (.inr (.inl rfl)) rfl rfl rfl) (sa_one (ea := (eTup eInt)) (se_var (ea := (eTup eInt)) (d := plan_) (i := 6) rfl (.inl rfl) rfl rfl rfl)))) rfl rfl rfl) (by first | with_reducible rfl | (simp only [pure_bind, bind_assoc, bind_pure, tt_if, bif_and, bif_or]; done) | (simp only [pure_bind, bind_assoc, bind_pure, tt_if, bif_and, bif_or]; with_reducible rfl) | (simp only [pure_bind, bind_assoc, bind_pure, tt_if, bif_and, bif_or]; rfl) | rfl)) (fun told_ => (SL.atR (R' := [some (.scr script_), some (.adr aw), some (.frz (eInt turn_)), some (.frz (eInt many_)), some (.frz ((eTup eInt) odds_)), some (.frz ((eTup (eT2 eInt eInt)) sights_)), some (.frz ((eTup eInt) plan_)), some (.frz ((eT2 eInt eInt) chance_)), some (.frz ((eLst (eT2 eInt eInt)) told_)), none, none, none, none, none, none, none, none, none, none, none, none, none, none, none, none, none, none, none, none]) (sl_set (i := 9) (ea := (eT2 eInt eInt)) nd rfl (.inr rfl) (ltR 29 rfl rfl) (SX.eq (se_call (FnOk.mono (ok__law_total T) (by decide)) hr rfl T.g21 T.F21.kp T.b21 (sa_one (ea := (eLst (eT2 eInt eInt))) (se_var (ea := (eLst (eT2 eInt eInt))) (d := told_) (i := 8) rfl (.inl rfl) rfl rfl rfl)) rfl rfl rfl) (by first | with_reducible rfl | (simp only [pure_bind, bind_assoc, bind_pure, tt_if, bif_and, bif_or]; done) | (simp only [pure_bind, bind_assoc, bind_pure, tt_if, bif_and, bif_or]; with_reducible rfl) | (simp only [pure_bind, bind_assoc, bind_pure, tt_if, bif_and, bif_or]; rfl) | rfl)) (fun whole_ => (SL.atR (R' := [some (.scr script_), some (.adr aw), some (.frz (eInt turn_)), some (.frz (eInt many_)), some (.frz ((eTup eInt) odds_)), some (.frz ((eTup (eT2 eInt eInt)) sights_)), some (.frz ((eTup eInt) plan_)), some (.frz ((eT2 eInt eInt) chance_)), some (.frz ((eLst (eT2 eInt eInt)) told_)), some (.frz ((eT2 eInt eInt) whole_)), none, none, none, none, none, none, none, none, none, none, none, none, none, none, none, none, none, none, none]) (sl_set (i := 10) (ea := (eOpt (eTup (eT2 eInt eInt)))) nd rfl (.inl rfl) (ltR 29 rfl rfl) (SX.eq (sx_if kF_ok (SC.t (sc_gt (SX.b (se_ixCI (ea := (eT2 eInt eInt)) (ec := eInt) (i := 0) (f := fun p => p.1) (SX.b (se_var (ea := (eT2 eInt eInt)) (d := whole_) (i := 9) rfl (.inr (.inl rfl)) rfl rfl rfl)) (SX.b se_int) (fun _ _ => rfl) (fun p => ⟨_, rfl, rfl⟩))) (SX.b se_int)) rfl) (SX.mapI (ea := (eTup (eT2 eInt eInt))) (eb := (eOpt (eTup (eT2 eInt eInt)))) (f := some) (se_tupleL (ea := (eT2 eInt eInt)) rfl T.z_tuple (SX.ob (so_comp (eb := (eT2 eInt eInt)) (own := [("own", 14)]) (g := (gName 14)) (is := [14]) (dts := (fun a => [(eT2 eInt eInt) a])) (mt := fun own_ => pure true) (me := fun own_ => (fromO (mulG own_.1 whole_.2) >>= fun v20 => fromO (mulG own_.2 whole_.1) >>= fun v21 => fromO (m__law_frac v20 v21))) rfl nd (si_lst (ea := (eT2 eInt eInt)) (se_var (ea := (eLst (eT2 eInt eInt))) (d := told_) (i := 8) rfl (.inl rfl) rfl rfl rfl) (fun h => h.firms)) (blkOk_by rfl) (fun _ _ _ _ _ => (pg_name (i := 14) nd rfl (.inl rfl))) g_name (by decide) (ltAll 29 rfl rfl) (fun own_ _ _ _ _ _ => sf_nil) (fun own_ _ _ _ _ _ => (SX.eq (se_call (FnOk.mono (ok__law_frac T) (by decide)) hr rfl T.g9 T.F9.kp T.b9 (sa_cons (ea := eInt) (eg := fun g : Int => [eInt g]) (se_mul (SX.b (se_ixCI (ea := (eT2 eInt eInt)) (ec := eInt) (i := 0) (f := fun p => p.1) (SX.b (se_var (ea := (eT2 eInt eInt)) (d := own_) (i := 14) rfl (.inl rfl) rfl rfl rfl)) (SX.b se_int) (fun _ _ => rfl) (fun p => ⟨_, rfl, rfl⟩))) (SX.b (se_ixCI (ea := (eT2 eInt eInt)) (ec := eInt) (i := 1) (f := fun p => p.2) (SX.b (se_var (ea := (eT2 eInt eInt)) (d := whole_) (i := 9) rfl (.inr (.inl rfl)) rfl rfl rfl)) (SX.b se_int) (fun _ _ => rfl) (fun p => ⟨_, rfl, rfl⟩)))) (sa_one (ea := eInt) (se_mul (SX.b (se_ixCI (ea := (eT2 eInt eInt)) (ec := eInt) (i := 1) (f := fun p => p.2) (SX.b (se_var (ea := (eT2 eInt eInt)) (d := own_) (i := 14) rfl (.inl rfl) rfl rfl rfl)) (SX.b se_int) (fun _ _ => rfl) (fun p => ⟨_, rfl, rfl⟩))) (SX.b (se_ixCI (ea := (eT2 eInt eInt)) (ec := eInt) (i := 0) (f := fun p => p.1) (SX.b (se_var (ea := (eT2 eInt eInt)) (d := whole_) (i := 9) rfl (.inr (.inl rfl)) rfl rfl rfl)) (SX.b se_int) (fun _ _ => rfl) (fun p => ⟨_, rfl, rfl⟩)))))) rfl rfl rfl) (by first | with_reducible rfl | (simp only [pure_bind, bind_assoc, bind_pure, tt_if, bif_and, bif_or]; done) | (simp only [pure_bind, bind_assoc, bind_pure, tt_if, bif_and, bif_or]; with_reducible rfl) | (simp only [pure_bind, bind_assoc, bind_pure, tt_if, bif_and, bif_or]; rfl) | rfl)))))) kF_ok (fun _ => rfl)) (SX.mapI (ea := eNon) (eb := (eOpt (eTup (eT2 eInt eInt)))) (f := (fun _ => none)) se_non kF_ok (fun _ => rfl))) (by first | with_reducible rfl | (simp only [pure_bind, bind_assoc, bind_pure, tt_if, bif_and, bif_or]; done) | (simp only [pure_bind, bind_assoc, bind_pure, tt_if, bif_and, bif_or]; with_reducible rfl) | (simp only [pure_bind, bind_assoc, bind_pure, tt_if, bif_and, bif_or]; rfl) | rfl)) (fun due_ => (SL.atR (R' := [some (.scr script_), some (.adr aw), some (.frz (eInt turn_)), some (.frz (eInt many_)), some (.frz ((eTup eInt) odds_)), some (.frz ((eTup (eT2 eInt eInt)) sights_)), some (.frz ((eTup eInt) plan_)), some (.frz ((eT2 eInt eInt) chance_)), some (.frz ((eLst (eT2 eInt eInt)) told_)), some (.frz ((eT2 eInt eInt) whole_)), some (.frz ((eOpt (eTup (eT2 eInt eInt))) due_)), none, none, none, none, none, none, none, none, none, none, none, none, none, none, none, none, none, none]) (sl_ifR (ST.eq (SC.t (sc_neT (eq_opt (eq_tup (eq_t2 eq_int eq_int)) (fun _ => rfl)) (by decide) hr.units (SX.b (se_call (FnOk.mono (ok_left_odds T) (by decide)) hr rfl T.g27 T.F27.kp T.b27 (sa_cons (ea := (eTup eInt)) (eg := fun g : (List (Int × Int)) × (List Int) => [(eTup (eT2 eInt eInt)) g.1, (eTup eInt) g.2]) (se_var (ea := (eTup eInt)) (d := odds_) (i := 4) rfl (.inr (.inl rfl)) rfl rfl rfl) (sa_cons (ea := (eTup (eT2 eInt eInt))) (eg := fun g : (List Int) => [(eTup eInt) g]) (se_var (ea := (eTup (eT2 eInt eInt))) (d := sights_) (i := 5) rfl (.inr (.inl rfl)) rfl rfl rfl) (sa_one (ea := (eTup eInt)) (se_var (ea := (eTup eInt)) (d := plan_) (i := 6) rfl (.inl rfl) rfl rfl rfl)))) rfl rfl rfl)) (SX.b (se_var (ea := (eOpt (eTup (eT2 eInt eInt)))) (d := due_) (i := 10) rfl (.inl rfl) rfl rfl rfl))) rfl) (by first | with_reducible rfl | (simp only [pure_bind, bind_assoc, bind_pure, tt_if, bif_and, bif_or]; done) | (simp only [pure_bind, bind_assoc, bind_pure, tt_if, bif_and, bif_or]; with_reducible rfl) | (simp only [pure_bind, bind_assoc, bind_pure, tt_if, bif_and, bif_or]; rfl) | rfl)) (SL.atR (R' := [some (.scr script_), some (.adr aw), some (.frz (eInt turn_)), some (.frz (eInt many_)), some (.frz ((eTup eInt) odds_)), some (.frz ((eTup (eT2 eInt eInt)) sights_)), some (.frz ((eTup eInt) plan_)), some (.frz ((eT2 eInt eInt) chance_)), some (.frz ((eLst (eT2 eInt eInt)) told_)), some (.frz ((eT2 eInt eInt) whole_)), some (.frz ((eOpt (eTup (eT2 eInt eInt))) due_)), none, none, none, none, none, none, none, none, none, none, none, none, none, none, none, none, none, none]) (sf_ret se_bool) rfl) (SL.atR (R' := [some (.scr script_), some (.adr aw), some (.frz (eInt turn_)), some (.frz (eInt many_)), some (.frz ((eTup eInt) odds_)), some (.frz ((eTup (eT2 eInt eInt)) sights_)), some (.frz ((eTup eInt) plan_)), some (.frz ((eT2 eInt eInt) chance_)), some (.frz ((eLst (eT2 eInt eInt)) told_)), some (.frz ((eT2 eInt eInt) whole_)), some (.frz ((eOpt (eTup (eT2 eInt eInt))) due_)), none, none, none, none, none, none, none, none, none, none, none, none, none, none, none, none, none, none]) (sl_set (i := 11) (ea := (eT2 eInt eInt)) nd rfl (.inl rfl) (ltR 29 rfl rfl) (SX.eq (se_tup (et := (eT2 eInt eInt)) (sa_cons (ea := eInt) (eg := fun g : Int => [eInt g]) se_int (sa_one (ea := eInt) se_int)) (fun _ => rfl) (fun _ => Nat.le_of_ble_eq_true rfl)) (by first | with_reducible rfl | (simp only [pure_bind, bind_assoc, bind_pure, tt_if, bif_and, bif_or]; done) | (simp only [pure_bind, bind_assoc, bind_pure, tt_if, bif_and, bif_or]; with_reducible rfl) | (simp only [pure_bind, bind_assoc, bind_pure, tt_if, bif_and, bif_or]; rfl) | rfl)) (fun mean_ => (SL.atR (R' := [some (.scr script_), some (.adr aw), some (.frz (eInt turn_)), some (.frz (eInt many_)), some (.frz ((eTup eInt) odds_)), some (.frz ((eTup (eT2 eInt eInt)) sights_)), some (.frz ((eTup eInt) plan_)), some (.frz ((eT2 eInt eInt) chance_)), some (.frz ((eLst (eT2 eInt eInt)) told_)), some (.frz ((eT2 eInt eInt) whole_)), some (.frz ((eOpt (eTup (eT2 eInt eInt))) due_)), some (.frz ((eT2 eInt eInt) mean_)), none, none, none, none, none, none, none, none, none, none, none, none, none, none, none, none, none]) (sl_forP (Rl := fun d : (Int × Int) => [some (.scr script_), some (.adr aw), some (.frz (eInt turn_)), some (.frz (eInt many_)), some (.frz ((eTup eInt) odds_)), some (.frz ((eTup (eT2 eInt eInt)) sights_)), some (.frz ((eTup eInt) plan_)), some (.frz ((eT2 eInt eInt) chance_)), some (.frz ((eLst (eT2 eInt eInt)) told_)), some (.frz ((eT2 eInt eInt) whole_)), some (.frz ((eOpt (eTup (eT2 eInt eInt))) due_)), some (.frz ((eT2 eInt eInt) d)), none, none, none, none, none, none, none, none, none, none, none, none, none, none, none, none, none]) (d0 := mean_) (g := (gName 12)) (is := [12]) (dts := (fun a => [eInt a])) PassesOwn.never rfl (SI.eq (si_range1 rfl T.z_range (SX.b (se_lenT (ea := eInt) rfl T.z_len (SX.b (se_var (ea := (eTup eInt)) (d := plan_) (i := 6) rfl (.inl rfl) rfl rfl rfl))))) (by first | with_reducible rfl | (simp only [pure_bind, bind_assoc, bind_pure, tt_if, bif_and, bif_or]; done) | (simp only [pure_bind, bind_assoc, bind_pure, tt_if, bif_and, bif_or]; with_reducible rfl) | (simp only [pure_bind, bind_assoc, bind_pure, tt_if, bif_and, bif_or]; rfl) | rfl)) (pg_name (i := 12) nd rfl (.inl rfl)) g_name (subC (subC (subC (subC (subC (subC (subC (subC (subC (subC (subC (subC (subN (subN (subN (subN (subN (subN (subN (subN (subN (subN (subN (subN (subN (subN (subN (subN (subN subE))))))))))))))))))))))))))))) (fun _ => ltAll 29 rfl rfl) (fun k_4 d_3 => (SL.atR (R' := [some (.scr script_), some (.adr aw), some (.frz (eInt turn_)), some (.frz (eInt many_)), some (.frz ((eTup eInt) odds_)), some (.frz ((eTup (eT2 eInt eInt)) sights_)), some (.frz ((eTup eInt) plan_)), some (.frz ((eT2 eInt eInt) chance_)), some (.frz ((eLst (eT2 eInt eInt)) told_)), some (.frz ((eT2 eInt eInt) whole_)), some (.frz ((eOpt (eTup (eT2 eInt eInt))) due_)), some (.frz ((eT2 eInt eInt) d_3)), some (.frz (eInt k_4)), none, none, none, none, none, none, none, none, none, none, none, none, none, none, none, none]) (SL.asc (sl_set (i := 11) (ea := (eT2 eInt eInt)) nd rfl (.inl rfl) (ltR 29 rfl rfl) (SX.eq (se_call (FnOk.mono (ok__law_add T) (by decide)) hr rfl T.g15 T.F15.kp T.b15 (sa_cons (ea := (eT2 eInt eInt)) (eg := fun g : (Int × Int) => [(eT2 eInt eInt) g]) (se_var (ea := (eT2 eInt eInt)) (d := d_3) (i := 11) rfl (.inl rfl) rfl rfl rfl) (sa_one (ea := (eT2 eInt eInt)) (se_call (FnOk.mono (ok__law_less T) (by decide)) hr rfl T.g16 T.F16.kp T.b16 (sa_cons (ea := (eT2 eInt eInt)) (eg := fun g : (Int × Int) => [(eT2 eInt eInt) g]) (se_tup (et := (eT2 eInt eInt)) (sa_cons (ea := eInt) (eg := fun g : Int => [eInt g]) se_int (sa_one (ea := eInt) se_int)) (fun _ => rfl) (fun _ => Nat.le_of_ble_eq_true rfl)) (sa_one (ea := (eT2 eInt eInt)) (se_call (FnOk.mono (ok__law_chance T) (by decide)) hr rfl T.g24 T.F24.kp T.b24 (sa_cons (ea := (eTup eInt)) (eg := fun g : (List (Int × Int)) × (List Int) => [(eTup (eT2 eInt eInt)) g.1, (eTup eInt) g.2]) (se_var (ea := (eTup eInt)) (d := odds_) (i := 4) rfl (.inr (.inl rfl)) rfl rfl rfl) (sa_cons (ea := (eTup (eT2 eInt eInt))) (eg := fun g : (List Int) => [(eTup eInt) g]) (se_var (ea := (eTup (eT2 eInt eInt))) (d := sights_) (i := 5) rfl (.inr (.inl rfl)) rfl rfl rfl) (sa_one (ea := (eTup eInt)) (se_sliceT (SX.b (se_var (ea := (eTup eInt)) (d := plan_) (i := 6) rfl (.inl rfl) rfl rfl rfl)) sq_none (sq_some (se_var (ea := eInt) (d := k_4) (i := 12) rfl (.inl rfl) rfl rfl rfl)))))) rfl rfl rfl))) rfl rfl rfl))) rfl rfl rfl) (by first | with_reducible rfl | (simp only [pure_bind, bind_assoc, bind_pure, tt_if, bif_and, bif_or]; done) | (simp only [pure_bind, bind_assoc, bind_pure, tt_if, bif_and, bif_or]; with_reducible rfl) | (simp only [pure_bind, bind_assoc, bind_pure, tt_if, bif_and, bif_or]; rfl) | rfl)) (fun mean_2 => (sp_nil mean_2 (subC (subC (subC (subC (subC (subC (subC (subC (subC (subC (subC (subC (subN (subN (subN (subN (subN (subN (subN (subN (subN (subN (subN (subN (subN (subN (subN (subN (subN subE))))))))))))))))))))))))))))))) rfl (.inr rfl))) rfl)) (fun d_4 => (SL.atR (R' := [some (.scr script_), some (.adr aw), some (.frz (eInt turn_)), some (.frz (eInt many_)), some (.frz ((eTup eInt) odds_)), some (.frz ((eTup (eT2 eInt eInt)) sights_)), some (.frz ((eTup eInt) plan_)), some (.frz ((eT2 eInt eInt) chance_)), some (.frz ((eLst (eT2 eInt eInt)) told_)), some (.frz ((eT2 eInt eInt) whole_)), some (.frz ((eOpt (eTup (eT2 eInt eInt))) due_)), some (.frz ((eT2 eInt eInt) d_4)), none, none, none, none, none, none, none, none, none, none, none, none, none, none, none, none, none]) (sl_ifR (ST.eq (SC.t (sc_neT (eq_t2 eq_int eq_int) (by decide) hr.units (SX.b (se_call (FnOk.mono (ok_mean_looks T) (by decide)) hr rfl T.g31 T.F31.kp T.b31 (sa_cons (ea := (eTup eInt)) (eg := fun g : (List (Int × Int)) × (List Int) => [(eTup (eT2 eInt eInt)) g.1, (eTup eInt) g.2]) (se_var (ea := (eTup eInt)) (d := odds_) (i := 4) rfl (.inr (.inl rfl)) rfl rfl rfl) (sa_cons (ea := (eTup (eT2 eInt eInt))) (eg := fun g : (List Int) => [(eTup eInt) g]) (se_var (ea := (eTup (eT2 eInt eInt))) (d := sights_) (i := 5) rfl (.inr (.inl rfl)) rfl rfl rfl) (sa_one (ea := (eTup eInt)) (se_var (ea := (eTup eInt)) (d := plan_) (i := 6) rfl (.inl rfl) rfl rfl rfl)))) rfl rfl rfl)) (SX.b (se_var (ea := (eT2 eInt eInt)) (d := d_4) (i := 11) rfl (.inl rfl) rfl rfl rfl))) rfl) (by first | with_reducible rfl | (simp only [pure_bind, bind_assoc, bind_pure, tt_if, bif_and, bif_or]; done) | (simp only [pure_bind, bind_assoc, bind_pure, tt_if, bif_and, bif_or]; with_reducible rfl) | (simp only [pure_bind, bind_assoc, bind_pure, tt_if, bif_and, bif_or]; rfl) | rfl)) (SL.atR (R' := [some (.scr script_), some (.adr aw), some (.frz (eInt turn_)), some (.frz (eInt many_)), some (.frz ((eTup eInt) odds_)), some (.frz ((eTup (eT2 eInt eInt)) sights_)), some (.frz ((eTup eInt) plan_)), some (.frz ((eT2 eInt eInt) chance_)), some (.frz ((eLst (eT2 eInt eInt)) told_)), some (.frz ((eT2 eInt eInt) whole_)), some (.frz ((eOpt (eTup (eT2 eInt eInt))) due_)), some (.frz ((eT2 eInt eInt) d_4)), none, none, none, none, none, none, none, none, none, none, none, none, none, none, none, none, none]) (sf_ret se_bool) rfl) (SL.atR (R' := [some (.scr script_), some (.adr aw), some (.frz (eInt turn_)), some (.frz (eInt many_)), some (.frz ((eTup eInt) odds_)), some (.frz ((eTup (eT2 eInt eInt)) sights_)), some (.frz ((eTup eInt) plan_)), some (.frz ((eT2 eInt eInt) chance_)), some (.frz ((eLst (eT2 eInt eInt)) told_)), some (.frz ((eT2 eInt eInt) whole_)), some (.frz ((eOpt (eTup (eT2 eInt eInt))) due_)), some (.frz ((eT2 eInt eInt) d_4)), none, none, none, none, none, none, none, none, none, none, none, none, none, none, none, none, none]) (sl_par3 (i := 13) (j := 14) (l := 15) rfl nd rfl rfl rfl (by decide) (by decide) (by decide) rfl rfl rfl (ltAll 29 rfl rfl) (SM.eq (sm_consF (se_callW (i := 1) (FnOk.mono (ok__law_next T) (by decide)) hr rfl T.g3 T.F3.kp T.b3 rfl (.inr (.inl rfl)) rfl rfl rfl (sa_one (ea := eInt) se_int) rfl rfl rfl) (sm_consF (se_tup0 (ea := eInt)) (sm_oneF (SX.f (so_lst (ea := (eTup eInt)) (f := (fun g => [g])) (sa_one (ea := (eTup eInt)) (se_tup0 (ea := eInt))) (fun _ => rfl) (fun _ => Nat.le_of_ble_eq_true rfl)))))) (by first | with_reducible rfl | (simp only [pure_bind, bind_assoc, bind_pure, tt_if, bif_and, bif_or]; done) | (simp only [pure_bind, bind_assoc, bind_pure, tt_if, bif_and, bif_or]; with_reducible rfl) | (simp only [pure_bind, bind_assoc, bind_pure, tt_if, bif_and, bif_or]; rfl) | rfl)) (fun _ => rfl) (fun p_ => (SL.atR (R' := [some (.scr script_), some (.adr aw), some (.frz (eInt turn_)), some (.frz (eInt many_)), some (.frz ((eTup eInt) odds_)), some (.frz ((eTup (eT2 eInt eInt)) sights_)), some (.frz ((eTup eInt) plan_)), some (.frz ((eT2 eInt eInt) chance_)), some (.frz ((eLst (eT2 eInt eInt)) told_)), some (.frz ((eT2 eInt eInt) whole_)), some (.frz ((eOpt (eTup (eT2 eInt eInt))) due_)), some (.frz ((eT2 eInt eInt) d_4)), none, some (.frz (eInt p_.1)), some (.frz ((eTup eInt) p_.2.1)), some (.frz ((eLst (eTup eInt)) p_.2.2)), none, none, none, none, none, none, none, none, none, none, none, none, none]) (sl_forP (Rl := fun d : (List Int) × (List (List Int)) => [some (.scr script_), some (.adr aw), some (.frz (eInt turn_)), some (.frz (eInt many_)), some (.frz ((eTup eInt) odds_)), some (.frz ((eTup (eT2 eInt eInt)) sights_)), some (.frz ((eTup eInt) plan_)), some (.frz ((eT2 eInt eInt) chance_)), some (.frz ((eLst (eT2 eInt eInt)) told_)), some (.frz ((eT2 eInt eInt) whole_)), some (.frz ((eOpt (eTup (eT2 eInt eInt))) due_)), some (.frz ((eT2 eInt eInt) d_4)), none, some (.frz (eInt p_.1)), some (.frz ((eTup eInt) d.1)), some (.frz ((eLst (eTup eInt)) d.2)), none, none, none, none, none, none, none, none, none, none, none, none, none]) (d0 := (p_.2.1, p_.2.2)) (g := (gName 12)) (is := [12]) (dts := (fun a => [eInt a])) PassesOwn.never rfl (SI.eq (si_range1 rfl T.z_range (SX.b (se_var (ea := eInt) (d := p_.1) (i := 13) rfl (.inl rfl) rfl rfl rfl))) (by first | with_reducible rfl | (simp only [pure_bind, bind_assoc, bind_pure, tt_if, bif_and, bif_or]; done) | (simp only [pure_bind, bind_assoc, bind_pure, tt_if, bif_and, bif_or]; with_reducible rfl) | (simp only [pure_bind, bind_assoc, bind_pure, tt_if, bif_and, bif_or]; rfl) | rfl)) (pg_name (i := 12) nd rfl (.inl rfl)) g_name (subC (subC (subC (subC (subC (subC (subC (subC (subC (subC (subC (subC (subN (subC (subC (subC (subN (subN (subN (subN (subN (subN (subN (subN (subN (subN (subN (subN (subN subE))))))))))))))))))))))))))))) (fun _ => ltAll 29 rfl rfl) (fun k_5 d_5 => (SL.atR (R' := [some (.scr script_), some (.adr aw), some (.frz (eInt turn_)), some (.frz (eInt many_)), some (.frz ((eTup eInt) odds_)), some (.frz ((eTup (eT2 eInt eInt)) sights_)), some (.frz ((eTup eInt) plan_)), some (.frz ((eT2 eInt eInt) chance_)), some (.frz ((eLst (eT2 eInt eInt)) told_)), some (.frz ((eT2 eInt eInt) whole_)), some (.frz ((eOpt (eTup (eT2 eInt eInt))) due_)), some (.frz ((eT2 eInt eInt) d_4)), some (.frz (eInt k_5)), some (.frz (eInt p_.1)), some (.frz ((eTup eInt) d_5.1)), some (.frz ((eLst (eTup eInt)) d_5.2)), none, none, none, none, none, none, none, none, none, none, none, none, none]) (SL.asc (sl_par2 (i := 14) (j := 16) rfl nd rfl rfl (by decide) rfl rfl (ltAll 29 rfl rfl) (SM.eq (sm_consF (se_catT (SX.b (se_var (ea := (eTup eInt)) (d := d_5.1) (i := 14) rfl (.inl rfl) rfl rfl rfl)) (SX.b (se_tupH (ea := eInt) (f := (fun g => [g])) (sa_one (ea := eInt) (se_call (FnOk.mono (ok__law_next_look T) (by decide)) hr rfl T.g25 T.F25.kp T.b25 (sa_cons (ea := (eTup eInt)) (eg := fun g : (List (Int × Int)) × (List Int) => [(eTup (eT2 eInt eInt)) g.1, (eTup eInt) g.2]) (se_var (ea := (eTup eInt)) (d := odds_) (i := 4) rfl (.inr (.inl rfl)) rfl rfl rfl) (sa_cons (ea := (eTup (eT2 eInt eInt))) (eg := fun g : (List Int) => [(eTup eInt) g]) (se_var (ea := (eTup (eT2 eInt eInt))) (d := sights_) (i := 5) rfl (.inr (.inl rfl)) rfl rfl rfl) (sa_one (ea := (eTup eInt)) (se_var (ea := (eTup eInt)) (d := d_5.1) (i := 14) rfl (.inl rfl) rfl rfl rfl)))) rfl rfl rfl)) (fun _ => rfl) (fun _ => Nat.le_of_ble_eq_true rfl)))) (sm_oneF (SX.f (so_nil (ea := (eTup eInt)))))) (by first | with_reducible rfl | (simp only [pure_bind, bind_assoc, bind_pure, tt_if, bif_and, bif_or]; done) | (simp only [pure_bind, bind_assoc, bind_pure, tt_if, bif_and, bif_or]; with_reducible rfl) | (simp only [pure_bind, bind_assoc, bind_pure, tt_if, bif_and, bif_or]; rfl) | rfl)) (fun _ => rfl) (fun p_2 => (SL.atR (R' := [some (.scr script_), some (.adr aw), some (.frz (eInt turn_)), some (.frz (eInt many_)), some (.frz ((eTup eInt) odds_)), some (.frz ((eTup (eT2 eInt eInt)) sights_)), some (.frz ((eTup eInt) plan_)), some (.frz ((eT2 eInt eInt) chance_)), some (.frz ((eLst (eT2 eInt eInt)) told_)), some (.frz ((eT2 eInt eInt) whole_)), some (.frz ((eOpt (eTup (eT2 eInt eInt))) due_)), some (.frz ((eT2 eInt eInt) d_4)), some (.frz (eInt k_5)), some (.frz (eInt p_.1)), some (.frz ((eTup eInt) p_2.1)), some (.frz ((eLst (eTup eInt)) d_5.2)), some (.frz ((eLst (eTup eInt)) p_2.2)), none, none, none, none, none, none, none, none, none, none, none, none]) (SL.asc2 (sl_forP (Rl := fun d : (List (List Int)) => [some (.scr script_), some (.adr aw), some (.frz (eInt turn_)), some (.frz (eInt many_)), some (.frz ((eTup eInt) odds_)), some (.frz ((eTup (eT2 eInt eInt)) sights_)), some (.frz ((eTup eInt) plan_)), some (.frz ((eT2 eInt eInt) chance_)), some (.frz ((eLst (eT2 eInt eInt)) told_)), some (.frz ((eT2 eInt eInt) whole_)), some (.frz ((eOpt (eTup (eT2 eInt eInt))) due_)), some (.frz ((eT2 eInt eInt) d_4)), some (.frz (eInt k_5)), some (.frz (eInt p_.1)), some (.frz ((eTup eInt) p_2.1)), some (.frz ((eLst (eTup eInt)) d_5.2)), some (.frz ((eLst (eTup eInt)) d)), none, none, none, none, none, none, none, none, none, none, none, none]) (d0 := p_2.2) (g := (gName 17)) (is := [17]) (dts := (fun a => [(eTup eInt) a])) PassesOwn.never rfl (SI.eq (si_lst (ea := (eTup eInt)) (se_var (ea := (eLst (eTup eInt))) (d := d_5.2) (i := 15) rfl (.inl rfl) rfl rfl rfl) (fun h => h)) (by first | with_reducible rfl | (simp only [pure_bind, bind_assoc, bind_pure, tt_if, bif_and, bif_or]; done) | (simp only [pure_bind, bind_assoc, bind_pure, tt_if, bif_and, bif_or]; with_reducible rfl) | (simp only [pure_bind, bind_assoc, bind_pure, tt_if, bif_and, bif_or]; rfl) | rfl)) (pg_name (i := 17) nd rfl (.inr rfl)) g_name (subC (subC (subC (subC (subC (subC (subC (subC (subC (subC (subC (subC (subC (subC (subC (subC (subC (subN (subN (subN (subN (subN (subN (subN (subN (subN (subN (subN (subN subE))))))))))))))))))))))))))))) (fun _ => ltAll 29 rfl rfl) (fun row_ d_7 => (SL.atR (R' := [some (.scr script_), some (.adr aw), some (.frz (eInt turn_)), some (.frz (eInt many_)), some (.frz ((eTup eInt) odds_)), some (.frz ((eTup (eT2 eInt eInt)) sights_)), some (.frz ((eTup eInt) plan_)), some (.frz ((eT2 eInt eInt) chance_)), some (.frz ((eLst (eT2 eInt eInt)) told_)), some (.frz ((eT2 eInt eInt) whole_)), some (.frz ((eOpt (eTup (eT2 eInt eInt))) due_)), some (.frz ((eT2 eInt eInt) d_4)), some (.frz (eInt k_5)), some (.frz (eInt p_.1)), some (.frz ((eTup eInt) p_2.1)), some (.frz ((eLst (eTup eInt)) d_5.2)), some (.frz ((eLst (eTup eInt)) d_7)), some (.frz ((eTup eInt) row_)), none, none, none, none, none, none, none, none, none, none, none]) (SL.asc (sl_set (i := 16) (ea := (eLst (eTup eInt))) nd rfl (.inl rfl) (ltR 29 rfl rfl) (SX.eq (SX.f (so_catL (SX.b (se_var (ea := (eLst (eTup eInt))) (d := d_7) (i := 16) rfl (.inl rfl) rfl rfl rfl)) (SX.ob (so_comp (eb := (eTup eInt)) (own := [("n", 28)]) (g := (gName 28)) (is := [28]) (dts := (fun a => [eInt a])) (mt := fun n_ => pure true) (me := fun n_ => (fromO (catG row_ [n_]))) rfl nd (si_range1 rfl T.z_range (SX.b (se_var (ea := eInt) (d := many_) (i := 3) rfl (.inr (.inl rfl)) rfl rfl rfl))) (blkOk_by rfl) (fun _ _ _ _ _ => (pg_name (i := 28) nd rfl (.inl rfl))) g_name (by decide) (ltAll 29 rfl rfl) (fun n_ _ _ _ _ _ => sf_nil) (fun n_ _ _ _ _ _ => (SX.eq (se_catT (SX.b (se_var (ea := (eTup eInt)) (d := row_) (i := 17) rfl (.inr (.inl rfl)) rfl rfl rfl)) (SX.b (se_tupH (ea := eInt) (f := (fun g => [g])) (sa_one (ea := eInt) (se_var (ea := eInt) (d := n_) (i := 28) rfl (.inl rfl) rfl rfl rfl)) (fun _ => rfl) (fun _ => Nat.le_of_ble_eq_true rfl)))) (by first | with_reducible rfl | (simp only [pure_bind, bind_assoc, bind_pure, tt_if, bif_and, bif_or]; done) | (simp only [pure_bind, bind_assoc, bind_pure, tt_if, bif_and, bif_or]; with_reducible rfl) | (simp only [pure_bind, bind_assoc, bind_pure, tt_if, bif_and, bif_or]; rfl) | rfl))))))) (by first | with_reducible rfl | (simp only [pure_bind, bind_assoc, bind_pure, tt_if, bif_and, bif_or]; done) | (simp only [pure_bind, bind_assoc, bind_pure, tt_if, bif_and, bif_or]; with_reducible rfl) | (simp only [pure_bind, bind_assoc, bind_pure, tt_if, bif_and, bif_or]; rfl) | rfl)) (fun longer_ => (sp_nil longer_ (subC (subC (subC (subC (subC (subC (subC (subC (subC (subC (subC (subC (subC (subC (subC (subC (subC (subN (subN (subN (subN (subN (subN (subN (subN (subN (subN (subN (subN subE))))))))))))))))))))))))))))))) rfl (.inr rfl))) rfl)) (fun d_8 => (SL.atR (R' := [some (.scr script_), some (.adr aw), some (.frz (eInt turn_)), some (.frz (eInt many_)), some (.frz ((eTup eInt) odds_)), some (.frz ((eTup (eT2 eInt eInt)) sights_)), some (.frz ((eTup eInt) plan_)), some (.frz ((eT2 eInt eInt) chance_)), some (.frz ((eLst (eT2 eInt eInt)) told_)), some (.frz ((eT2 eInt eInt) whole_)), some (.frz ((eOpt (eTup (eT2 eInt eInt))) due_)), some (.frz ((eT2 eInt eInt) d_4)), some (.frz (eInt k_5)), some (.frz (eInt p_.1)), some (.frz ((eTup eInt) p_2.1)), some (.frz ((eLst (eTup eInt)) d_5.2)), some (.frz ((eLst (eTup eInt)) d_8)), none, none, none, none, none, none, none, none, none, none, none, none]) (SL.asc (sl_set (i := 15) (ea := (eLst (eTup eInt))) nd rfl (.inl rfl) (ltR 29 rfl rfl) (se_var (ea := (eLst (eTup eInt))) (d := d_8) (i := 16) rfl (.inl rfl) rfl rfl rfl) (fun plans_ => (sp_nil (p_2.1, plans_) (subC (subC (subC (subC (subC (subC (subC (subC (subC (subC (subC (subC (subN (subC (subC (subC (subN (subN (subN (subN (subN (subN (subN (subN (subN (subN (subN (subN (subN subE))))))))))))))))))))))))))))))) rfl (.inr rfl))) rfl)) (fun _ => rfl))) rfl)) rfl rfl)) rfl)) (fun d_6 => (SL.atR (R' := [some (.scr script_), some (.adr aw), some (.frz (eInt turn_)), some (.frz (eInt many_)), some (.frz ((eTup eInt) odds_)), some (.frz ((eTup (eT2 eInt eInt)) sights_)), some (.frz ((eTup eInt) plan_)), some (.frz ((eT2 eInt eInt) chance_)), some (.frz ((eLst (eT2 eInt eInt)) told_)), some (.frz ((eT2 eInt eInt) whole_)), some (.frz ((eOpt (eTup (eT2 eInt eInt))) due_)), some (.frz ((eT2 eInt eInt) d_4)), none, some (.frz (eInt p_.1)), some (.frz ((eTup eInt) d_6.1)), some (.frz ((eLst (eTup eInt)) d_6.2)), none, none, none, none, none, none, none, none, none, none, none, none, none]) (sl_set (i := 18) (ea := (eT2 eInt eInt)) nd rfl (.inr rfl) (ltR 29 rfl rfl) (SX.eq (se_call (FnOk.mono (ok__law_chance T) (by decide)) hr rfl T.g24 T.F24.kp T.b24 (sa_cons (ea := (eTup eInt)) (eg := fun g : (List (Int × Int)) × (List Int) => [(eTup (eT2 eInt eInt)) g.1, (eTup eInt) g.2]) (se_var (ea := (eTup eInt)) (d := odds_) (i := 4) rfl (.inr (.inl rfl)) rfl rfl rfl) (sa_cons (ea := (eTup (eT2 eInt eInt))) (eg := fun g : (List Int) => [(eTup eInt) g]) (se_var (ea := (eTup (eT2 eInt eInt))) (d := sights_) (i := 5) rfl (.inr (.inl rfl)) rfl rfl rfl) (sa_one (ea := (eTup eInt)) (se_var (ea := (eTup eInt)) (d := d_6.1) (i := 14) rfl (.inl rfl) rfl rfl rfl)))) rfl rfl rfl) (by first | with_reducible rfl | (simp only [pure_bind, bind_assoc, bind_pure, tt_if, bif_and, bif_or]; done) | (simp only [pure_bind, bind_assoc, bind_pure, tt_if, bif_and, bif_or]; with_reducible rfl) | (simp only [pure_bind, bind_assoc, bind_pure, tt_if, bif_and, bif_or]; rfl) | rfl)) (fun top_ => (SL.atR (R' := [some (.scr script_), some (.adr aw), some (.frz (eInt turn_)), some (.frz (eInt many_)), some (.frz ((eTup eInt) odds_)), some (.frz ((eTup (eT2 eInt eInt)) sights_)), some (.frz ((eTup eInt) plan_)), some (.frz ((eT2 eInt eInt) chance_)), some (.frz ((eLst (eT2 eInt eInt)) told_)), some (.frz ((eT2 eInt eInt) whole_)), some (.frz ((eOpt (eTup (eT2 eInt eInt))) due_)), some (.frz ((eT2 eInt eInt) d_4)), none, some (.frz (eInt p_.1)), some (.frz ((eTup eInt) d_6.1)), some (.frz ((eLst (eTup eInt)) d_6.2)), none, none, some (.frz ((eT2 eInt eInt) top_)), none, none, none, none, none, none, none, none, none, none]) (sl_ifR (ST.eq (SW.t (sw_or (SC.t (sc_neT (eq_t2 (eq_t2 eq_int eq_int) (eq_tup eq_int)) (by decide) hr.units (SX.b (se_call (FnOk.mono (ok_best_plan T) (by decide)) hr rfl T.g30 T.F30.kp T.b30 (sa_cons (ea := (eTup eInt)) (eg := fun g : (List (Int × Int)) × Int => [(eTup (eT2 eInt eInt)) g.1, eInt g.2]) (se_var (ea := (eTup eInt)) (d := odds_) (i := 4) rfl (.inr (.inl rfl)) rfl rfl rfl) (sa_cons (ea := (eTup (eT2 eInt eInt))) (eg := fun g : Int => [eInt g]) (se_var (ea := (eTup (eT2 eInt eInt))) (d := sights_) (i := 5) rfl (.inr (.inl rfl)) rfl rfl rfl) (sa_one (ea := eInt) (se_var (ea := eInt) (d := p_.1) (i := 13) rfl (.inl rfl) rfl rfl rfl)))) rfl rfl rfl)) (SX.b (se_tup (et := (eT2 (eT2 eInt eInt) (eTup eInt))) (sa_cons (ea := (eT2 eInt eInt)) (eg := fun g : (List Int) => [(eTup eInt) g]) (se_var (ea := (eT2 eInt eInt)) (d := top_) (i := 18) rfl (.inr (.inl rfl)) rfl rfl rfl) (sa_one (ea := (eTup eInt)) (se_var (ea := (eTup eInt)) (d := d_6.1) (i := 14) rfl (.inl rfl) rfl rfl rfl))) (fun _ => rfl) (fun _ => Nat.le_of_ble_eq_true rfl)))) rfl) (sw_or1 (SC.t (sc_neT (eq_lst (eq_tup eq_int)) (by decide) hr.units (SX.ob (so_comp (eb := (eTup eInt)) (own := [("row", 17)]) (g := (gName 17)) (is := [17]) (dts := (fun a => [(eTup eInt) a])) (mt := fun row_2 => (fromO (m__law_chance odds_ sights_ row_2) >>= fun v41 => fromO (m__law_below top_ v41))) (me := fun row_2 => (pure row_2)) rfl nd (si_lst (ea := (eTup eInt)) (se_var (ea := (eLst (eTup eInt))) (d := d_6.2) (i := 15) rfl (.inl rfl) rfl rfl rfl) (fun h => h.firms)) (blkOk_by rfl) (fun _ _ _ _ _ => (pg_name (i := 17) nd rfl (.inl rfl))) g_name (by decide) (ltAll 29 rfl rfl) (fun row_2 _ _ _ _ _ => (SIf.eq (sf_one (SX.t (se_call (FnOk.mono (ok__law_below T) (by decide)) hr rfl T.g5 T.F5.kp T.b5 (sa_cons (ea := (eT2 eInt eInt)) (eg := fun g : (Int × Int) => [(eT2 eInt eInt) g]) (se_var (ea := (eT2 eInt eInt)) (d := top_) (i := 18) rfl (.inr (.inl rfl)) rfl rfl rfl) (sa_one (ea := (eT2 eInt eInt)) (se_call (FnOk.mono (ok__law_chance T) (by decide)) hr rfl T.g24 T.F24.kp T.b24 (sa_cons (ea := (eTup eInt)) (eg := fun g : (List (Int × Int)) × (List Int) => [(eTup (eT2 eInt eInt)) g.1, (eTup eInt) g.2]) (se_var (ea := (eTup eInt)) (d := odds_) (i := 4) rfl (.inr (.inl rfl)) rfl rfl rfl) (sa_cons (ea := (eTup (eT2 eInt eInt))) (eg := fun g : (List Int) => [(eTup eInt) g]) (se_var (ea := (eTup (eT2 eInt eInt))) (d := sights_) (i := 5) rfl (.inr (.inl rfl)) rfl rfl rfl) (sa_one (ea := (eTup eInt)) (se_var (ea := (eTup eInt)) (d := row_2) (i := 17) rfl (.inl rfl) rfl rfl rfl)))) rfl rfl rfl))) rfl rfl rfl) (fun _ => rfl))) (by first | with_reducible rfl | (simp only [pure_bind, bind_assoc, bind_pure, tt_if, bif_and, bif_or]; done) | (simp only [pure_bind, bind_assoc, bind_pure, tt_if, bif_and, bif_or]; with_reducible rfl) | (simp only [pure_bind, bind_assoc, bind_pure, tt_if, bif_and, bif_or]; rfl) | rfl))) (fun row_2 _ _ _ _ _ => (se_var (ea := (eTup eInt)) (d := row_2) (i := 17) rfl (.inl rfl) rfl rfl rfl)))) (SX.ob (so_nil (ea := (eTup eInt))))) rfl)))) (by first | with_reducible rfl | (simp only [pure_bind, bind_assoc, bind_pure, tt_if, bif_and, bif_or]; done) | (simp only [pure_bind, bind_assoc, bind_pure, tt_if, bif_and, bif_or]; with_reducible rfl) | (simp only [pure_bind, bind_assoc, bind_pure, tt_if, bif_and, bif_or]; rfl) | rfl)) (SL.atR (R' := [some (.scr script_), some (.adr aw), some (.frz (eInt turn_)), some (.frz (eInt many_)), some (.frz ((eTup eInt) odds_)), some (.frz ((eTup (eT2 eInt eInt)) sights_)), some (.frz ((eTup eInt) plan_)), some (.frz ((eT2 eInt eInt) chance_)), some (.frz ((eLst (eT2 eInt eInt)) told_)), some (.frz ((eT2 eInt eInt) whole_)), some (.frz ((eOpt (eTup (eT2 eInt eInt))) due_)), some (.frz ((eT2 eInt eInt) d_4)), none, some (.frz (eInt p_.1)), some (.frz ((eTup eInt) d_6.1)), some (.frz ((eLst (eTup eInt)) d_6.2)), none, none, some (.frz ((eT2 eInt eInt) top_)), none, none, none, none, none, none, none, none, none, none]) (sf_ret se_bool) rfl) (SL.atR (R' := [some (.scr script_), some (.adr aw), some (.frz (eInt turn_)), some (.frz (eInt many_)), some (.frz ((eTup eInt) odds_)), some (.frz ((eTup (eT2 eInt eInt)) sights_)), some (.frz ((eTup eInt) plan_)), some (.frz ((eT2 eInt eInt) chance_)), some (.frz ((eLst (eT2 eInt eInt)) told_)), some (.frz ((eT2 eInt eInt) whole_)), some (.frz ((eOpt (eTup (eT2 eInt eInt))) due_)), some (.frz ((eT2 eInt eInt) d_4)), none, some (.frz (eInt p_.1)), some (.frz ((eTup eInt) d_6.1)), some (.frz ((eLst (eTup eInt)) d_6.2)), none, none, some (.frz ((eT2 eInt eInt) top_)), none, none, none, none, none, none, none, none, none, none]) (sl_ifR (ST.eq (SC.t (sc_neT eq_int (by decide) hr.units (SX.b (se_call (FnOk.mono (ok_best_start T) (by decide)) hr rfl T.g29 T.F29.kp T.b29 (sa_cons (ea := (eTup eInt)) (eg := fun g : (List (Int × Int)) => [(eTup (eT2 eInt eInt)) g]) (se_var (ea := (eTup eInt)) (d := odds_) (i := 4) rfl (.inr (.inl rfl)) rfl rfl rfl) (sa_one (ea := (eTup (eT2 eInt eInt))) (se_var (ea := (eTup (eT2 eInt eInt))) (d := sights_) (i := 5) rfl (.inr (.inl rfl)) rfl rfl rfl))) rfl rfl rfl)) (SX.b (se_call (FnOk.mono (ok__law_next_look T) (by decide)) hr rfl T.g25 T.F25.kp T.b25 (sa_cons (ea := (eTup eInt)) (eg := fun g : (List (Int × Int)) × (List Int) => [(eTup (eT2 eInt eInt)) g.1, (eTup eInt) g.2]) (se_var (ea := (eTup eInt)) (d := odds_) (i := 4) rfl (.inr (.inl rfl)) rfl rfl rfl) (sa_cons (ea := (eTup (eT2 eInt eInt))) (eg := fun g : (List Int) => [(eTup eInt) g]) (se_var (ea := (eTup (eT2 eInt eInt))) (d := sights_) (i := 5) rfl (.inr (.inl rfl)) rfl rfl rfl) (sa_one (ea := (eTup eInt)) (se_tup0 (ea := eInt))))) rfl rfl rfl))) rfl) (by first | with_reducible rfl | (simp only [pure_bind, bind_assoc, bind_pure, tt_if, bif_and, bif_or]; done) | (simp only [pure_bind, bind_assoc, bind_pure, tt_if, bif_and, bif_or]; with_reducible rfl) | (simp only [pure_bind, bind_assoc, bind_pure, tt_if, bif_and, bif_or]; rfl) | rfl)) (SL.atR (R' := [some (.scr script_), some (.adr aw), some (.frz (eInt turn_)), some (.frz (eInt many_)), some (.frz ((eTup eInt) odds_)), some (.frz ((eTup (eT2 eInt eInt)) sights_)), some (.frz ((eTup eInt) plan_)), some (.frz ((eT2 eInt eInt) chance_)), some (.frz ((eLst (eT2 eInt eInt)) told_)), some (.frz ((eT2 eInt eInt) whole_)), some (.frz ((eOpt (eTup (eT2 eInt eInt))) due_)), some (.frz ((eT2 eInt eInt) d_4)), none, some (.frz (eInt p_.1)), some (.frz ((eTup eInt) d_6.1)), some (.frz ((eLst (eTup eInt)) d_6.2)), none, none, some (.frz ((eT2 eInt eInt) top_)), none, none, none, none, none, none, none, none, none, none]) (sf_ret se_bool) rfl) (SL.atR (R' := [some (.scr script_), some (.adr aw), some (.frz (eInt turn_)), some (.frz (eInt many_)), some (.frz ((eTup eInt) odds_)), some (.frz ((eTup (eT2 eInt eInt)) sights_)), some (.frz ((eTup eInt) plan_)), some (.frz ((eT2 eInt eInt) chance_)), some (.frz ((eLst (eT2 eInt eInt)) told_)), some (.frz ((eT2 eInt eInt) whole_)), some (.frz ((eOpt (eTup (eT2 eInt eInt))) due_)), some (.frz ((eT2 eInt eInt) d_4)), none, some (.frz (eInt p_.1)), some (.frz ((eTup eInt) d_6.1)), some (.frz ((eLst (eTup eInt)) d_6.2)), none, none, some (.frz ((eT2 eInt eInt) top_)), none, none, none, none, none, none, none, none, none, none]) (sl_par3 (i := 19) (j := 14) (l := 20) rfl nd rfl rfl rfl (by decide) (by decide) (by decide) rfl rfl rfl (ltAll 29 rfl rfl) (SM.eq (sm_consF (se_callW (i := 1) (FnOk.mono (ok__law_pick T) (by decide)) hr rfl T.g8 T.F8.kp T.b8 rfl (.inr (.inl rfl)) rfl rfl rfl (sa_one (ea := (eLst (eT2 eInt eInt))) (SX.f (so_lst (ea := (eT2 eInt eInt)) (f := (fun g => [g.1, g.2.1, g.2.2.1, g.2.2.2])) (sa_cons (ea := (eT2 eInt eInt)) (eg := fun g : (Int × Int) × (Int × Int) × (Int × Int) => [(eT2 eInt eInt) g.1, (eT2 eInt eInt) g.2.1, (eT2 eInt eInt) g.2.2]) (se_tup (et := (eT2 eInt eInt)) (sa_cons (ea := eInt) (eg := fun g : Int => [eInt g]) se_int (sa_one (ea := eInt) se_int)) (fun _ => rfl) (fun _ => Nat.le_of_ble_eq_true rfl)) (sa_cons (ea := (eT2 eInt eInt)) (eg := fun g : (Int × Int) × (Int × Int) => [(eT2 eInt eInt) g.1, (eT2 eInt eInt) g.2]) (se_tup (et := (eT2 eInt eInt)) (sa_cons (ea := eInt) (eg := fun g : Int => [eInt g]) se_int (sa_one (ea := eInt) se_int)) (fun _ => rfl) (fun _ => Nat.le_of_ble_eq_true rfl)) (sa_cons (ea := (eT2 eInt eInt)) (eg := fun g : (Int × Int) => [(eT2 eInt eInt) g]) (se_tup (et := (eT2 eInt eInt)) (sa_cons (ea := eInt) (eg := fun g : Int => [eInt g]) se_int (sa_one (ea := eInt) se_int)) (fun _ => rfl) (fun _ => Nat.le_of_ble_eq_true rfl)) (sa_one (ea := (eT2 eInt eInt)) (se_tup (et := (eT2 eInt eInt)) (sa_cons (ea := eInt) (eg := fun g : Int => [eInt g]) se_int (sa_one (ea := eInt) se_int)) (fun _ => rfl) (fun _ => Nat.le_of_ble_eq_true rfl)))))) (fun _ => rfl) (fun _ => Nat.le_of_ble_eq_true rfl)))) rfl rfl rfl) (sm_consF (se_tup0 (ea := eInt)) (sm_oneF (SX.mapI (ea := eNon) (eb := (eOpt eInt)) (f := (fun _ => none)) se_non kF_ok (fun _ => rfl))))) (by first | with_reducible rfl | (simp only [pure_bind, bind_assoc, bind_pure, tt_if, bif_and, bif_or]; done) | (simp only [pure_bind, bind_assoc, bind_pure, tt_if, bif_and, bif_or]; with_reducible rfl) | (simp only [pure_bind, bind_assoc, bind_pure, tt_if, bif_and, bif_or]; rfl) | rfl)) (fun _ => rfl) (fun p_3 => (SL.atR (R' := [some (.scr script_), some (.adr aw), some (.frz (eInt turn_)), some (.frz (eInt many_)), some (.frz ((eTup eInt) odds_)), some (.frz ((eTup (eT2 eInt eInt)) sights_)), some (.frz ((eTup eInt) plan_)), some (.frz ((eT2 eInt eInt) chance_)), some (.frz ((eLst (eT2 eInt eInt)) told_)), some (.frz ((eT2 eInt eInt) whole_)), some (.frz ((eOpt (eTup (eT2 eInt eInt))) due_)), some (.frz ((eT2 eInt eInt) d_4)), none, some (.frz (eInt p_.1)), some (.frz ((eTup eInt) p_3.2.1)), some (.frz ((eLst (eTup eInt)) d_6.2)), none, none, some (.frz ((eT2 eInt eInt) top_)), some (.frz ((eT2 eInt eInt) p_3.1)), some (.frz ((eOpt eInt) p_3.2.2)), none, none, none, none, none, none, none, none]) (sl_forP (Rl := fun d : (Option Int) × (List Int) => [some (.scr script_), some (.adr aw), some (.frz (eInt turn_)), some (.frz (eInt many_)), some (.frz ((eTup eInt) odds_)), some (.frz ((eTup (eT2 eInt eInt)) sights_)), some (.frz ((eTup eInt) plan_)), some (.frz ((eT2 eInt eInt) chance_)), some (.frz ((eLst (eT2 eInt eInt)) told_)), some (.frz ((eT2 eInt eInt) whole_)), some (.frz ((eOpt (eTup (eT2 eInt eInt))) due_)), some (.frz ((eT2 eInt eInt) d_4)), none, some (.frz (eInt p_.1)), some (.frz ((eTup eInt) d.2)), some (.frz ((eLst (eTup eInt)) d_6.2)), none, none, some (.frz ((eT2 eInt eInt) top_)), some (.frz ((eT2 eInt eInt) p_3.1)), some (.frz ((eOpt eInt) d.1)), none, none, none, none, none, none, none, none]) (d0 := (p_3.2.2, p_3.2.1)) (g := (gName 12)) (is := [12]) (dts := (fun a => [eInt a])) PassesOwn.never rfl (SI.eq (si_range1 rfl T.z_range (SX.b se_int)) (by first | with_reducible rfl | (simp only [pure_bind, bind_assoc, bind_pure, tt_if, bif_and, bif_or]; done) | (simp only [pure_bind, bind_assoc, bind_pure, tt_if, bif_and, bif_or]; with_reducible rfl) | (simp only [pure_bind, bind_assoc, bind_pure, tt_if, bif_and, bif_or]; rfl) | rfl)) (pg_name (i := 12) nd rfl (.inl rfl)) g_name (subC (subC (subC (subC (subC (subC (subC (subC (subC (subC (subC (subC (subN (subC (subC (subC (subN (subN (subC (subC (subC (subN (subN (subN (subN (subN (subN (subN (subN subE))))))))))))))))))))))))))))) (fun _ => ltAll 29 rfl rfl) (fun k_6 d_9 => (SL.atR (R' := [some (.scr script_), some (.adr aw), some (.frz (eInt turn_)), some (.frz (eInt many_)), some (.frz ((eTup eInt) odds_)), some (.frz ((eTup (eT2 eInt eInt)) sights_)), some (.frz ((eTup eInt) plan_)), some (.frz ((eT2 eInt eInt) chance_)), some (.frz ((eLst (eT2 eInt eInt)) told_)), some (.frz ((eT2 eInt eInt) whole_)), some (.frz ((eOpt (eTup (eT2 eInt eInt))) due_)), some (.frz ((eT2 eInt eInt) d_4)), some (.frz (eInt k_6)), some (.frz (eInt p_.1)), some (.frz ((eTup eInt) d_9.2)), some (.frz ((eLst (eTup eInt)) d_6.2)), none, none, some (.frz ((eT2 eInt eInt) top_)), some (.frz ((eT2 eInt eInt) p_3.1)), some (.frz ((eOpt eInt) d_9.1)), none, none, none, none, none, none, none, none]) (SL.asc (sl_set (i := 20) (ea := (eOpt eInt)) nd rfl (.inl rfl) (ltR 29 rfl rfl) (SX.eq (sx_if kF_ok (SW.t (sw_and (SC.t (sc_is (ea := (eOpt eInt)) (SX.b (se_var (ea := (eOpt eInt)) (d := d_9.1) (i := 20) rfl (.inl rfl) rfl rfl rfl))) rfl) (sw_and1 (st_not (SX.t (se_call (FnOk.mono (ok__law_below T) (by decide)) hr rfl T.g5 T.F5.kp T.b5 (sa_cons (ea := (eT2 eInt eInt)) (eg := fun g : (Int × Int) => [(eT2 eInt eInt) g]) (se_call (FnOk.mono (ok__law_chance T) (by decide)) hr rfl T.g24 T.F24.kp T.b24 (sa_cons (ea := (eTup eInt)) (eg := fun g : (List (Int × Int)) × (List Int) => [(eTup (eT2 eInt eInt)) g.1, (eTup eInt) g.2]) (se_var (ea := (eTup eInt)) (d := odds_) (i := 4) rfl (.inr (.inl rfl)) rfl rfl rfl) (sa_cons (ea := (eTup (eT2 eInt eInt))) (eg := fun g : (List Int) => [(eTup eInt) g]) (se_var (ea := (eTup (eT2 eInt eInt))) (d := sights_) (i := 5) rfl (.inr (.inl rfl)) rfl rfl rfl) (sa_one (ea := (eTup eInt)) (se_var (ea := (eTup eInt)) (d := d_9.2) (i := 14) rfl (.inl rfl) rfl rfl rfl)))) rfl rfl rfl) (sa_one (ea := (eT2 eInt eInt)) (se_var (ea := (eT2 eInt eInt)) (d := p_3.1) (i := 19) rfl (.inl rfl) rfl rfl rfl))) rfl rfl rfl) (fun _ => rfl)))))) (SX.mapI (ea := eInt) (eb := (eOpt eInt)) (f := some) (se_var (ea := eInt) (d := k_6) (i := 12) rfl (.inl rfl) rfl rfl rfl) kF_ok (fun _ => rfl)) (se_var (ea := (eOpt eInt)) (d := d_9.1) (i := 20) rfl (.inl rfl) rfl rfl rfl)) (by first | with_reducible rfl | (simp only [pure_bind, bind_assoc, bind_pure, tt_if, bif_and, bif_or]; done) | (simp only [pure_bind, bind_assoc, bind_pure, tt_if, bif_and, bif_or]; with_reducible rfl) | (simp only [pure_bind, bind_assoc, bind_pure, tt_if, bif_and, bif_or]; rfl) | rfl)) (fun found_ => (SL.atR (R' := [some (.scr script_), some (.adr aw), some (.frz (eInt turn_)), some (.frz (eInt many_)), some (.frz ((eTup eInt) odds_)), some (.frz ((eTup (eT2 eInt eInt)) sights_)), some (.frz ((eTup eInt) plan_)), some (.frz ((eT2 eInt eInt) chance_)), some (.frz ((eLst (eT2 eInt eInt)) told_)), some (.frz ((eT2 eInt eInt) whole_)), some (.frz ((eOpt (eTup (eT2 eInt eInt))) due_)), some (.frz ((eT2 eInt eInt) d_4)), some (.frz (eInt k_6)), some (.frz (eInt p_.1)), some (.frz ((eTup eInt) d_9.2)), some (.frz ((eLst (eTup eInt)) d_6.2)), none, none, some (.frz ((eT2 eInt eInt) top_)), some (.frz ((eT2 eInt eInt) p_3.1)), some (.frz ((eOpt eInt) found_)), none, none, none, none, none, none, none, none]) (SL.asc (sl_set (i := 14) (ea := (eTup eInt)) nd rfl (.inl rfl) (ltR 29 rfl rfl) (SX.eq (se_catT (SX.b (se_var (ea := (eTup eInt)) (d := d_9.2) (i := 14) rfl (.inl rfl) rfl rfl rfl)) (SX.b (se_tupH (ea := eInt) (f := (fun g => [g])) (sa_one (ea := eInt) (se_call (FnOk.mono (ok__law_next_look T) (by decide)) hr rfl T.g25 T.F25.kp T.b25 (sa_cons (ea := (eTup eInt)) (eg := fun g : (List (Int × Int)) × (List Int) => [(eTup (eT2 eInt eInt)) g.1, (eTup eInt) g.2]) (se_var (ea := (eTup eInt)) (d := odds_) (i := 4) rfl (.inr (.inl rfl)) rfl rfl rfl) (sa_cons (ea := (eTup (eT2 eInt eInt))) (eg := fun g : (List Int) => [(eTup eInt) g]) (se_var (ea := (eTup (eT2 eInt eInt))) (d := sights_) (i := 5) rfl (.inr (.inl rfl)) rfl rfl rfl) (sa_one (ea := (eTup eInt)) (se_var (ea := (eTup eInt)) (d := d_9.2) (i := 14) rfl (.inl rfl) rfl rfl rfl)))) rfl rfl rfl)) (fun _ => rfl) (fun _ => Nat.le_of_ble_eq_true rfl)))) (by first | with_reducible rfl | (simp only [pure_bind, bind_assoc, bind_pure, tt_if, bif_and, bif_or]; done) | (simp only [pure_bind, bind_assoc, bind_pure, tt_if, bif_and, bif_or]; with_reducible rfl) | (simp only [pure_bind, bind_assoc, bind_pure, tt_if, bif_and, bif_or]; rfl) | rfl)) (fun own_2 => (sp_nil (found_, own_2) (subC (subC (subC (subC (subC (subC (subC (subC (subC (subC (subC (subC (subN (subC (subC (subC (subN (subN (subC (subC (subC (subN (subN (subN (subN (subN (subN (subN (subN subE))))))))))))))))))))))))))))))) rfl (.inr rfl))) rfl)) rfl (.inr rfl))) rfl)) (fun d_10 => (SL.atR (R' := [some (.scr script_), some (.adr aw), some (.frz (eInt turn_)), some (.frz (eInt many_)), some (.frz ((eTup eInt) odds_)), some (.frz ((eTup (eT2 eInt eInt)) sights_)), some (.frz ((eTup eInt) plan_)), some (.frz ((eT2 eInt eInt) chance_)), some (.frz ((eLst (eT2 eInt eInt)) told_)), some (.frz ((eT2 eInt eInt) whole_)), some (.frz ((eOpt (eTup (eT2 eInt eInt))) due_)), some (.frz ((eT2 eInt eInt) d_4)), none, some (.frz (eInt p_.1)), some (.frz ((eTup eInt) d_10.2)), some (.frz ((eLst (eTup eInt)) d_6.2)), none, none, some (.frz ((eT2 eInt eInt) top_)), some (.frz ((eT2 eInt eInt) p_3.1)), some (.frz ((eOpt eInt) d_10.1)), none, none, none, none, none, none, none, none]) (sl_set (i := 8) (ea := (eOpt eInt)) nd rfl (.inl rfl) (ltR 29 rfl rfl) (SX.eq (se_call (FnOk.mono (ok_looks_for T) (by decide)) hr rfl T.g32 T.F32.kp T.b32 (sa_cons (ea := (eTup eInt)) (eg := fun g : (List (Int × Int)) × (Int × Int) => [(eTup (eT2 eInt eInt)) g.1, (eT2 eInt eInt) g.2]) (se_var (ea := (eTup eInt)) (d := odds_) (i := 4) rfl (.inr (.inl rfl)) rfl rfl rfl) (sa_cons (ea := (eTup (eT2 eInt eInt))) (eg := fun g : (Int × Int) => [(eT2 eInt eInt) g]) (se_var (ea := (eTup (eT2 eInt eInt))) (d := sights_) (i := 5) rfl (.inr (.inl rfl)) rfl rfl rfl) (sa_one (ea := (eT2 eInt eInt)) (se_var (ea := (eT2 eInt eInt)) (d := p_3.1) (i := 19) rfl (.inl rfl) rfl rfl rfl)))) rfl rfl rfl) (by first | with_reducible rfl | (simp only [pure_bind, bind_assoc, bind_pure, tt_if, bif_and, bif_or]; done) | (simp only [pure_bind, bind_assoc, bind_pure, tt_if, bif_and, bif_or]; with_reducible rfl) | (simp only [pure_bind, bind_assoc, bind_pure, tt_if, bif_and, bif_or]; rfl) | rfl)) (fun told_2 => (SL.atR (R' := [some (.scr script_), some (.adr aw), some (.frz (eInt turn_)), some (.frz (eInt many_)), some (.frz ((eTup eInt) odds_)), some (.frz ((eTup (eT2 eInt eInt)) sights_)), some (.frz ((eTup eInt) plan_)), some (.frz ((eT2 eInt eInt) chance_)), some (.frz ((eOpt eInt) told_2)), some (.frz ((eT2 eInt eInt) whole_)), some (.frz ((eOpt (eTup (eT2 eInt eInt))) due_)), some (.frz ((eT2 eInt eInt) d_4)), none, some (.frz (eInt p_.1)), some (.frz ((eTup eInt) d_10.2)), some (.frz ((eLst (eTup eInt)) d_6.2)), none, none, some (.frz ((eT2 eInt eInt) top_)), some (.frz ((eT2 eInt eInt) p_3.1)), some (.frz ((eOpt eInt) d_10.1)), none, none, none, none, none, none, none, none]) (sl_ifR (ST.eq (SW.t (sw_or (SW.t (sw_and (SC.t (sc_isnot (ea := (eOpt eInt)) (SX.b (se_var (ea := (eOpt eInt)) (d := d_10.1) (i := 20) rfl (.inl rfl) rfl rfl rfl))) rfl) (sw_and1 (SC.t (sc_neT (eq_opt eq_int (fun _ => rfl)) (by decide) hr.units (SX.b (se_var (ea := (eOpt eInt)) (d := told_2) (i := 8) rfl (.inl rfl) rfl rfl rfl)) (SX.b (se_var (ea := (eOpt eInt)) (d := d_10.1) (i := 20) rfl (.inl rfl) rfl rfl rfl))) rfl)))) (sw_or1 (SW.t (sw_and (SC.t (sc_is (ea := (eOpt eInt)) (SX.b (se_var (ea := (eOpt eInt)) (d := d_10.1) (i := 20) rfl (.inl rfl) rfl rfl rfl))) rfl) (sw_and (SC.t (sc_isnot (ea := (eOpt eInt)) (SX.b (se_var (ea := (eOpt eInt)) (d := told_2) (i := 8) rfl (.inl rfl) rfl rfl rfl))) rfl) (sw_and1 (SC.t (sc_lt (SX.b (SX.get (se_var (ea := (eOpt eInt)) (d := told_2) (i := 8) rfl (.inl rfl) rfl rfl rfl))) (SX.b se_int)) rfl)))))))) (by first | with_reducible rfl | (simp only [pure_bind, bind_assoc, bind_pure, tt_if, bif_and, bif_or]; done) | (simp only [pure_bind, bind_assoc, bind_pure, tt_if, bif_and, bif_or]; with_reducible rfl) | (simp only [pure_bind, bind_assoc, bind_pure, tt_if, bif_and, bif_or]; rfl) | rfl)) (SL.atR (R' := [some (.scr script_), some (.adr aw), some (.frz (eInt turn_)), some (.frz (eInt many_)), some (.frz ((eTup eInt) odds_)), some (.frz ((eTup (eT2 eInt eInt)) sights_)), some (.frz ((eTup eInt) plan_)), some (.frz ((eT2 eInt eInt) chance_)), some (.frz ((eOpt eInt) told_2)), some (.frz ((eT2 eInt eInt) whole_)), some (.frz ((eOpt (eTup (eT2 eInt eInt))) due_)), some (.frz ((eT2 eInt eInt) d_4)), none, some (.frz (eInt p_.1)), some (.frz ((eTup eInt) d_10.2)), some (.frz ((eLst (eTup eInt)) d_6.2)), none, none, some (.frz ((eT2 eInt eInt) top_)), some (.frz ((eT2 eInt eInt) p_3.1)), some (.frz ((eOpt eInt) d_10.1)), none, none, none, none, none, none, none, none]) (sf_ret se_bool) rfl) (SL.atR (R' := [some (.scr script_), some (.adr aw), some (.frz (eInt turn_)), some (.frz (eInt many_)), some (.frz ((eTup eInt) odds_)), some (.frz ((eTup (eT2 eInt eInt)) sights_)), some (.frz ((eTup eInt) plan_)), some (.frz ((eT2 eInt eInt) chance_)), some (.frz ((eOpt eInt) told_2)), some (.frz ((eT2 eInt eInt) whole_)), some (.frz ((eOpt (eTup (eT2 eInt eInt))) due_)), some (.frz ((eT2 eInt eInt) d_4)), none, some (.frz (eInt p_.1)), some (.frz ((eTup eInt) d_10.2)), some (.frz ((eLst (eTup eInt)) d_6.2)), none, none, some (.frz ((eT2 eInt eInt) top_)), some (.frz ((eT2 eInt eInt) p_3.1)), some (.frz ((eOpt eInt) d_10.1)), none, none, none, none, none, none, none, none]) (sl_parN (n := 0) (is := [21, 22]) rfl (pg_tup rfl (pgs_cons (pg_name (i := 21) nd rfl (.inr rfl)) (pgs_cons (pg_name (i := 22) nd rfl (.inr rfl)) pgs_nil))) (ltAll 29 rfl rfl) (SM.eq (sm_consF (se_tupleL (ea := eInt) rfl T.z_tuple (SX.ob (so_comp (eb := eInt) (own := [("k", 12)]) (g := (gName 12)) (is := [12]) (dts := (fun a => [eInt a])) (mt := fun k_7 => pure true) (me := fun k_7 => (m__law_next (6 : Int) >>= fun v59 => pure ((1 : Int) + v59))) rfl nd (si_range1 rfl T.z_range (SX.b (se_var (ea := eInt) (d := many_) (i := 3) rfl (.inr (.inl rfl)) rfl rfl rfl))) (blkOk_by rfl) (fun _ _ _ _ _ => (pg_name (i := 12) nd rfl (.inl rfl))) g_name (by decide) (ltAll 29 rfl rfl) (fun k_7 _ _ _ _ _ => sf_nil) (fun k_7 _ _ _ _ _ => (SX.eq (se_add (SX.b se_int) (SX.b (se_callW (i := 1) (FnOk.mono (ok__law_next T) (by decide)) hr rfl T.g3 T.F3.kp T.b3 rfl (.inr (.inl rfl)) rfl rfl rfl (sa_one (ea := eInt) se_int) rfl rfl rfl))) (by first | with_reducible rfl | (simp only [pure_bind, bind_assoc, bind_pure, tt_if, bif_and, bif_or]; done) | (simp only [pure_bind, bind_assoc, bind_pure, tt_if, bif_and, bif_or]; with_reducible rfl) | (simp only [pure_bind, bind_assoc, bind_pure, tt_if, bif_and, bif_or]; rfl) | rfl)))))) (sm_oneF (SX.mapI (ea := eNon) (eb := (eOpt (eT2 (eT2 eInt eInt) (eTup eInt)))) (f := (fun _ => none)) se_non kF_ok (fun _ => rfl)))) (by first | with_reducible rfl | (simp only [pure_bind, bind_assoc, bind_pure, tt_if, bif_and, bif_or]; done) | (simp only [pure_bind, bind_assoc, bind_pure, tt_if, bif_and, bif_or]; with_reducible rfl) | (simp only [pure_bind, bind_assoc, bind_pure, tt_if, bif_and, bif_or]; rfl) | rfl)) (fun _ => rfl) (by decide) (fun p_4 => (SL.atR (R' := [some (.scr script_), some (.adr aw), some (.frz (eInt turn_)), some (.frz (eInt many_)), some (.frz ((eTup eInt) odds_)), some (.frz ((eTup (eT2 eInt eInt)) sights_)), some (.frz ((eTup eInt) plan_)), some (.frz ((eT2 eInt eInt) chance_)), some (.frz ((eOpt eInt) told_2)), some (.frz ((eT2 eInt eInt) whole_)), some (.frz ((eOpt (eTup (eT2 eInt eInt))) due_)), some (.frz ((eT2 eInt eInt) d_4)), none, some (.frz (eInt p_.1)), some (.frz ((eTup eInt) d_10.2)), some (.frz ((eLst (eTup eInt)) d_6.2)), none, none, some (.frz ((eT2 eInt eInt) top_)), some (.frz ((eT2 eInt eInt) p_3.1)), some (.frz ((eOpt eInt) d_10.1)), some (.frz ((eTup eInt) p_4.1)), some (.frz ((eOpt (eT2 (eT2 eInt eInt) (eTup eInt))) p_4.2)), none, none, none, none, none, none]) (sl_setO (i := 23) (ea := (eT2 eInt eInt)) nd rfl (.inl rfl) (ltR 29 rfl rfl) (so_nil (ea := (eT2 eInt eInt))) (fun means_ => (SL.atR (R' := [some (.scr script_), some (.adr aw), some (.frz (eInt turn_)), some (.frz (eInt many_)), some (.frz ((eTup eInt) odds_)), some (.frz ((eTup (eT2 eInt eInt)) sights_)), some (.frz ((eTup eInt) plan_)), some (.frz ((eT2 eInt eInt) chance_)), some (.frz ((eOpt eInt) told_2)), some (.frz ((eT2 eInt eInt) whole_)), some (.frz ((eOpt (eTup (eT2 eInt eInt))) due_)), some (.frz ((eT2 eInt eInt) d_4)), none, some (.frz (eInt p_.1)), some (.frz ((eTup eInt) d_10.2)), some (.frz ((eLst (eTup eInt)) d_6.2)), none, none, some (.frz ((eT2 eInt eInt) top_)), some (.frz ((eT2 eInt eInt) p_3.1)), some (.frz ((eOpt eInt) d_10.1)), some (.frz ((eTup eInt) p_4.1)), some (.frz ((eOpt (eT2 (eT2 eInt eInt) (eTup eInt))) p_4.2)), some (.own (List.map (eT2 eInt eInt) means_)), none, none, none, none, none]) (sl_forP (Rl := fun d : (Int × Int) × (List (Int × Int)) × (Option ((Int × Int) × (List Int))) => [some (.scr script_), some (.adr aw), some (.frz (eInt turn_)), some (.frz (eInt many_)), some (.frz ((eTup eInt) odds_)), some (.frz ((eTup (eT2 eInt eInt)) sights_)), some (.frz ((eTup eInt) plan_)), some (.frz ((eT2 eInt eInt) chance_)), some (.frz ((eOpt eInt) told_2)), some (.frz ((eT2 eInt eInt) whole_)), some (.frz ((eOpt (eTup (eT2 eInt eInt))) due_)), some (.frz ((eT2 eInt eInt) d.1)), none, some (.frz (eInt p_.1)), some (.frz ((eTup eInt) d_10.2)), some (.frz ((eLst (eTup eInt)) d_6.2)), none, none, some (.frz ((eT2 eInt eInt) top_)), some (.frz ((eT2 eInt eInt) p_3.1)), some (.frz ((eOpt eInt) d_10.1)), some (.frz ((eTup eInt) p_4.1)), some (.frz ((eOpt (eT2 (eT2 eInt eInt) (eTup eInt))) d.2.2)), some (.own (List.map (eT2 eInt eInt) d.2.1)), none, none, none, none, none]) (d0 := (d_4, means_, p_4.2)) (g := (gName 24)) (is := [24]) (dts := (fun a => [(eTup eInt) a])) PassesOwn.never rfl (SI.eq (si_lst (ea := (eTup eInt)) (se_call (FnOk.mono (ok__law_orders T) (by decide)) hr rfl T.g6 T.F6.kp T.b6 (sa_one (ea := (eTup eInt)) (se_tupR1 rfl rfl T.z_tuple rfl T.z_range (SX.b (se_var (ea := eInt) (d := many_) (i := 3) rfl (.inr (.inl rfl)) rfl rfl rfl)))) rfl rfl rfl) (fun h => h)) (by first | with_reducible rfl | (simp only [pure_bind, bind_assoc, bind_pure, tt_if, bif_and, bif_or]; done) | (simp only [pure_bind, bind_assoc, bind_pure, tt_if, bif_and, bif_or]; with_reducible rfl) | (simp only [pure_bind, bind_assoc, bind_pure, tt_if, bif_and, bif_or]; rfl) | rfl)) (pg_name (i := 24) nd rfl (.inr rfl)) g_name (subC (subC (subC (subC (subC (subC (subC (subC (subC (subC (subC (subC (subN (subC (subC (subC (subN (subN (subC (subC (subC (subC (subC (subC (subN (subN (subN (subN (subN subE))))))))))))))))))))))))))))) (fun _ => ltAll 29 rfl rfl) (fun order_ d_11 => (SL.atR (R' := [some (.scr script_), some (.adr aw), some (.frz (eInt turn_)), some (.frz (eInt many_)), some (.frz ((eTup eInt) odds_)), some (.frz ((eTup (eT2 eInt eInt)) sights_)), some (.frz ((eTup eInt) plan_)), some (.frz ((eT2 eInt eInt) chance_)), some (.frz ((eOpt eInt) told_2)), some (.frz ((eT2 eInt eInt) whole_)), some (.frz ((eOpt (eTup (eT2 eInt eInt))) due_)), some (.frz ((eT2 eInt eInt) d_11.1)), none, some (.frz (eInt p_.1)), some (.frz ((eTup eInt) d_10.2)), some (.frz ((eLst (eTup eInt)) d_6.2)), none, none, some (.frz ((eT2 eInt eInt) top_)), some (.frz ((eT2 eInt eInt) p_3.1)), some (.frz ((eOpt eInt) d_10.1)), some (.frz ((eTup eInt) p_4.1)), some (.frz ((eOpt (eT2 (eT2 eInt eInt) (eTup eInt))) d_11.2.2)), some (.own (List.map (eT2 eInt eInt) d_11.2.1)), some (.frz ((eTup eInt) order_)), none, none, none, none]) (SL.asc (sl_unpack (g := (gTup _ 2 (gNames [25, 11]))) (is := [25, 11]) (dts := (fun a : (Int × (Int × Int)) => [eInt a.1, (eT2 eInt eInt) a.2])) (pg_tup rfl (pgs_cons (pg_name (i := 25) nd rfl (.inl rfl)) (pgs_cons (pg_name (i := 11) nd rfl (.inl rfl)) pgs_nil))) (g_tup (is := [25, 11]) (dts := (fun a : (Int × (Int × Int)) => [eInt a.1, (eT2 eInt eInt) a.2])) (fun _ => rfl) (fun _ => rfl)) (ltAll 29 rfl rfl) (SX.eq (se_tup (et := (eT2 eInt (eT2 eInt eInt))) (sa_cons (ea := eInt) (eg := fun g : (Int × Int) => [(eT2 eInt eInt) g]) se_int (sa_one (ea := (eT2 eInt eInt)) (se_tup (et := (eT2 eInt eInt)) (sa_cons (ea := eInt) (eg := fun g : Int => [eInt g]) se_int (sa_one (ea := eInt) se_int)) (fun _ => rfl) (fun _ => Nat.le_of_ble_eq_true rfl)))) (fun _ => rfl) (fun _ => Nat.le_of_ble_eq_true rfl)) (by first | with_reducible rfl | (simp only [pure_bind, bind_assoc, bind_pure, tt_if, bif_and, bif_or]; done) | (simp only [pure_bind, bind_assoc, bind_pure, tt_if, bif_and, bif_or]; with_reducible rfl) | (simp only [pure_bind, bind_assoc, bind_pure, tt_if, bif_and, bif_or]; rfl) | rfl)) (fun p_5 => (SL.atR (R' := [some (.scr script_), some (.adr aw), some (.frz (eInt turn_)), some (.frz (eInt many_)), some (.frz ((eTup eInt) odds_)), some (.frz ((eTup (eT2 eInt eInt)) sights_)), some (.frz ((eTup eInt) plan_)), some (.frz ((eT2 eInt eInt) chance_)), some (.frz ((eOpt eInt) told_2)), some (.frz ((eT2 eInt eInt) whole_)), some (.frz ((eOpt (eTup (eT2 eInt eInt))) due_)), some (.frz ((eT2 eInt eInt) p_5.2)), none, some (.frz (eInt p_.1)), some (.frz ((eTup eInt) d_10.2)), some (.frz ((eLst (eTup eInt)) d_6.2)), none, none, some (.frz ((eT2 eInt eInt) top_)), some (.frz ((eT2 eInt eInt) p_3.1)), some (.frz ((eOpt eInt) d_10.1)), some (.frz ((eTup eInt) p_4.1)), some (.frz ((eOpt (eT2 (eT2 eInt eInt) (eTup eInt))) d_11.2.2)), some (.own (List.map (eT2 eInt eInt) d_11.2.1)), some (.frz ((eTup eInt) order_)), some (.frz (eInt p_5.1)), none, none, none]) (SL.asc2 (sl_forP (Rl := fun d : Int × (Int × Int) => [some (.scr script_), some (.adr aw), some (.frz (eInt turn_)), some (.frz (eInt many_)), some (.frz ((eTup eInt) odds_)), some (.frz ((eTup (eT2 eInt eInt)) sights_)), some (.frz ((eTup eInt) plan_)), some (.frz ((eT2 eInt eInt) chance_)), some (.frz ((eOpt eInt) told_2)), some (.frz ((eT2 eInt eInt) whole_)), some (.frz ((eOpt (eTup (eT2 eInt eInt))) due_)), some (.frz ((eT2 eInt eInt) d.2)), none, some (.frz (eInt p_.1)), some (.frz ((eTup eInt) d_10.2)), some (.frz ((eLst (eTup eInt)) d_6.2)), none, none, some (.frz ((eT2 eInt eInt) top_)), some (.frz ((eT2 eInt eInt) p_3.1)), some (.frz ((eOpt eInt) d_10.1)), some (.frz ((eTup eInt) p_4.1)), some (.frz ((eOpt (eT2 (eT2 eInt eInt) (eTup eInt))) d_11.2.2)), some (.own (List.map (eT2 eInt eInt) d_11.2.1)), some (.frz ((eTup eInt) order_)), some (.frz (eInt d.1)), none, none, none]) (d0 := (p_5.1, p_5.2)) (g := (gName 12)) (is := [12]) (dts := (fun a => [eInt a])) PassesOwn.never rfl (SI.eq (si_tup (ea := eInt) (SX.b (se_var (ea := (eTup eInt)) (d := order_) (i := 24) rfl (.inr (.inl rfl)) rfl rfl rfl)) (fun h => h)) (by first | with_reducible rfl | (simp only [pure_bind, bind_assoc, bind_pure, tt_if, bif_and, bif_or]; done) | (simp only [pure_bind, bind_assoc, bind_pure, tt_if, bif_and, bif_or]; with_reducible rfl) | (simp only [pure_bind, bind_assoc, bind_pure, tt_if, bif_and, bif_or]; rfl) | rfl)) (pg_name (i := 12) nd rfl (.inl rfl)) g_name (subC (subC (subC (subC (subC (subC (subC (subC (subC (subC (subC (subC (subN (subC (subC (subC (subN (subN (subC (subC (subC (subC (subC (subC (subC (subC (subN (subN (subN subE))))))))))))))))))))))))))))) (fun _ => ltAll 29 rfl rfl) (fun k_8 d_13 => (SL.atR (R' := [some (.scr script_), some (.adr aw), some (.frz (eInt turn_)), some (.frz (eInt many_)), some (.frz ((eTup eInt) odds_)), some (.frz ((eTup (eT2 eInt eInt)) sights_)), some (.frz ((eTup eInt) plan_)), some (.frz ((eT2 eInt eInt) chance_)), some (.frz ((eOpt eInt) told_2)), some (.frz ((eT2 eInt eInt) whole_)), some (.frz ((eOpt (eTup (eT2 eInt eInt))) due_)), some (.frz ((eT2 eInt eInt) d_13.2)), some (.frz (eInt k_8)), some (.frz (eInt p_.1)), some (.frz ((eTup eInt) d_10.2)), some (.frz ((eLst (eTup eInt)) d_6.2)), none, none, some (.frz ((eT2 eInt eInt) top_)), some (.frz ((eT2 eInt eInt) p_3.1)), some (.frz ((eOpt eInt) d_10.1)), some (.frz ((eTup eInt) p_4.1)), some (.frz ((eOpt (eT2 (eT2 eInt eInt) (eTup eInt))) d_11.2.2)), some (.own (List.map (eT2 eInt eInt) d_11.2.1)), some (.frz ((eTup eInt) order_)), some (.frz (eInt d_13.1)), none, none, none]) (SL.asc (sl_augI (i := 25) (n := d_13.1) ip_add nd rfl (.inl rfl) rfl (ltR 29 rfl rfl) (SX.eq (se_ixT (ea := eInt) (SX.b (se_var (ea := (eTup eInt)) (d := p_4.1) (i := 21) rfl (.inr (.inl rfl)) rfl rfl rfl)) (SX.b (se_var (ea := eInt) (d := k_8) (i := 12) rfl (.inl rfl) rfl rfl rfl)) (fun _ _ => rfl)) (by first | with_reducible rfl | (simp only [pure_bind, bind_assoc, bind_pure, tt_if, bif_and, bif_or]; done) | (simp only [pure_bind, bind_assoc, bind_pure, tt_if, bif_and, bif_or]; with_reducible rfl) | (simp only [pure_bind, bind_assoc, bind_pure, tt_if, bif_and, bif_or]; rfl) | rfl)) (fun a_ => (SL.atR (R' := [some (.scr script_), some (.adr aw), some (.frz (eInt turn_)), some (.frz (eInt many_)), some (.frz ((eTup eInt) odds_)), some (.frz ((eTup (eT2 eInt eInt)) sights_)), some (.frz ((eTup eInt) plan_)), some (.frz ((eT2 eInt eInt) chance_)), some (.frz ((eOpt eInt) told_2)), some (.frz ((eT2 eInt eInt) whole_)), some (.frz ((eOpt (eTup (eT2 eInt eInt))) due_)), some (.frz ((eT2 eInt eInt) d_13.2)), some (.frz (eInt k_8)), some (.frz (eInt p_.1)), some (.frz ((eTup eInt) d_10.2)), some (.frz ((eLst (eTup eInt)) d_6.2)), none, none, some (.frz ((eT2 eInt eInt) top_)), some (.frz ((eT2 eInt eInt) p_3.1)), some (.frz ((eOpt eInt) d_10.1)), some (.frz ((eTup eInt) p_4.1)), some (.frz ((eOpt (eT2 (eT2 eInt eInt) (eTup eInt))) d_11.2.2)), some (.own (List.map (eT2 eInt eInt) d_11.2.1)), some (.frz ((eTup eInt) order_)), some (.frz (eInt (d_13.1 + a_))), none, none, none]) (SL.asc (sl_set (i := 11) (ea := (eT2 eInt eInt)) nd rfl (.inl rfl) (ltR 29 rfl rfl) (SX.eq (se_call (FnOk.mono (ok__law_add T) (by decide)) hr rfl T.g15 T.F15.kp T.b15 (sa_cons (ea := (eT2 eInt eInt)) (eg := fun g : (Int × Int) => [(eT2 eInt eInt) g]) (se_var (ea := (eT2 eInt eInt)) (d := d_13.2) (i := 11) rfl (.inl rfl) rfl rfl rfl) (sa_one (ea := (eT2 eInt eInt)) (se_call (FnOk.mono (ok__law_frac T) (by decide)) hr rfl T.g9 T.F9.kp T.b9 (sa_cons (ea := eInt) (eg := fun g : Int => [eInt g]) (se_mul (SX.b (se_ixT (ea := eInt) (SX.b (se_var (ea := (eTup eInt)) (d := odds_) (i := 4) rfl (.inr (.inl rfl)) rfl rfl rfl)) (SX.b (se_var (ea := eInt) (d := k_8) (i := 12) rfl (.inl rfl) rfl rfl rfl)) (fun _ _ => rfl))) (SX.b (se_var (ea := eInt) (d := (d_13.1 + a_)) (i := 25) rfl (.inl rfl) rfl rfl rfl))) (sa_one (ea := eInt) (se_sumT rfl rfl T.z_sum (SX.b (se_var (ea := (eTup eInt)) (d := odds_) (i := 4) rfl (.inr (.inl rfl)) rfl rfl rfl))))) rfl rfl rfl))) rfl rfl rfl) (by first | with_reducible rfl | (simp only [pure_bind, bind_assoc, bind_pure, tt_if, bif_and, bif_or]; done) | (simp only [pure_bind, bind_assoc, bind_pure, tt_if, bif_and, bif_or]; with_reducible rfl) | (simp only [pure_bind, bind_assoc, bind_pure, tt_if, bif_and, bif_or]; rfl) | rfl)) (fun mean_3 => (sp_nil ((d_13.1 + a_), mean_3) (subC (subC (subC (subC (subC (subC (subC (subC (subC (subC (subC (subC (subN (subC (subC (subC (subN (subN (subC (subC (subC (subC (subC (subC (subC (subC (subN (subN (subN subE))))))))))))))))))))))))))))))) rfl (.inr rfl))) rfl)) (.inr rfl))) rfl)) (fun d_14 => (SL.atR (R' := [some (.scr script_), some (.adr aw), some (.frz (eInt turn_)), some (.frz (eInt many_)), some (.frz ((eTup eInt) odds_)), some (.frz ((eTup (eT2 eInt eInt)) sights_)), some (.frz ((eTup eInt) plan_)), some (.frz ((eT2 eInt eInt) chance_)), some (.frz ((eOpt eInt) told_2)), some (.frz ((eT2 eInt eInt) whole_)), some (.frz ((eOpt (eTup (eT2 eInt eInt))) due_)), some (.frz ((eT2 eInt eInt) d_14.2)), none, some (.frz (eInt p_.1)), some (.frz ((eTup eInt) d_10.2)), some (.frz ((eLst (eTup eInt)) d_6.2)), none, none, some (.frz ((eT2 eInt eInt) top_)), some (.frz ((eT2 eInt eInt) p_3.1)), some (.frz ((eOpt eInt) d_10.1)), some (.frz ((eTup eInt) p_4.1)), some (.frz ((eOpt (eT2 (eT2 eInt eInt) (eTup eInt))) d_11.2.2)), some (.own (List.map (eT2 eInt eInt) d_11.2.1)), some (.frz ((eTup eInt) order_)), some (.frz (eInt d_14.1)), none, none, none]) (SL.asc2 (sl_append (i := 23) (ea := (eT2 eInt eInt)) (xs := d_11.2.1) rfl (.inl rfl) rfl rfl rfl (se_var (ea := (eT2 eInt eInt)) (d := d_14.2) (i := 11) rfl (.inl rfl) rfl rfl rfl) (fun means_2 => (SL.atR (R' := [some (.scr script_), some (.adr aw), some (.frz (eInt turn_)), some (.frz (eInt many_)), some (.frz ((eTup eInt) odds_)), some (.frz ((eTup (eT2 eInt eInt)) sights_)), some (.frz ((eTup eInt) plan_)), some (.frz ((eT2 eInt eInt) chance_)), some (.frz ((eOpt eInt) told_2)), some (.frz ((eT2 eInt eInt) whole_)), some (.frz ((eOpt (eTup (eT2 eInt eInt))) due_)), some (.frz ((eT2 eInt eInt) d_14.2)), none, some (.frz (eInt p_.1)), some (.frz ((eTup eInt) d_10.2)), some (.frz ((eLst (eTup eInt)) d_6.2)), none, none, some (.frz ((eT2 eInt eInt) top_)), some (.frz ((eT2 eInt eInt) p_3.1)), some (.frz ((eOpt eInt) d_10.1)), some (.frz ((eTup eInt) p_4.1)), some (.frz ((eOpt (eT2 (eT2 eInt eInt) (eTup eInt))) d_11.2.2)), some (.own (List.map (eT2 eInt eInt) means_2)), some (.frz ((eTup eInt) order_)), some (.frz (eInt d_14.1)), none, none, none]) (SL.asc (sl_setLc (eb := eInt) (i := 26) (own := [("n", 28)]) (g := (gName 28)) (is := [28]) (dts := (fun a => [eInt a])) (mt := fun n_2 => (fromO (L2.atI order_ (n_2 - (1 : Int))) >>= fun v69 => fromO (L2.atI odds_ v69) >>= fun v70 => fromO (L2.atI order_ n_2) >>= fun v71 => fromO (L2.atI p_4.1 v71) >>= fun v72 => fromO (mulG v70 v72) >>= fun v73 => fromO (L2.atI order_ n_2) >>= fun v74 => fromO (L2.atI odds_ v74) >>= fun v75 => fromO (L2.atI order_ (n_2 - (1 : Int))) >>= fun v76 => fromO (L2.atI p_4.1 v76) >>= fun v77 => fromO (mulG v75 v77) >>= fun v78 => pure (decide (v73 < v78)))) (me := fun n_2 => (pure n_2)) rfl rfl (ltR 29 rfl rfl) (sw_true rfl rfl rfl rfl) rfl nd (si_range2 rfl T.z_range (SX.b se_int) (SX.b (se_var (ea := eInt) (d := many_) (i := 3) rfl (.inr (.inl rfl)) rfl rfl rfl))) (blkOk_by rfl) (fun _ _ _ _ _ => (pg_name (i := 28) nd rfl (.inl rfl))) g_name (by decide) (ltAll 29 rfl rfl) (fun n_2 _ _ _ _ _ => (SIf.eq (sf_one (SC.t (sc_lt (SX.b (se_mul (SX.b (se_ixT (ea := eInt) (SX.b (se_var (ea := (eTup eInt)) (d := odds_) (i := 4) rfl (.inr (.inl rfl)) rfl rfl rfl)) (SX.b (se_ixT (ea := eInt) (SX.b (se_var (ea := (eTup eInt)) (d := order_) (i := 24) rfl (.inr (.inl rfl)) rfl rfl rfl)) (SX.b (se_sub (SX.b (se_var (ea := eInt) (d := n_2) (i := 28) rfl (.inl rfl) rfl rfl rfl)) (SX.b se_int))) (fun _ _ => rfl))) (fun _ _ => rfl))) (SX.b (se_ixT (ea := eInt) (SX.b (se_var (ea := (eTup eInt)) (d := p_4.1) (i := 21) rfl (.inr (.inl rfl)) rfl rfl rfl)) (SX.b (se_ixT (ea := eInt) (SX.b (se_var (ea := (eTup eInt)) (d := order_) (i := 24) rfl (.inr (.inl rfl)) rfl rfl rfl)) (SX.b (se_var (ea := eInt) (d := n_2) (i := 28) rfl (.inl rfl) rfl rfl rfl)) (fun _ _ => rfl))) (fun _ _ => rfl))))) (SX.b (se_mul (SX.b (se_ixT (ea := eInt) (SX.b (se_var (ea := (eTup eInt)) (d := odds_) (i := 4) rfl (.inr (.inl rfl)) rfl rfl rfl)) (SX.b (se_ixT (ea := eInt) (SX.b (se_var (ea := (eTup eInt)) (d := order_) (i := 24) rfl (.inr (.inl rfl)) rfl rfl rfl)) (SX.b (se_var (ea := eInt) (d := n_2) (i := 28) rfl (.inl rfl) rfl rfl rfl)) (fun _ _ => rfl))) (fun _ _ => rfl))) (SX.b (se_ixT (ea := eInt) (SX.b (se_var (ea := (eTup eInt)) (d := p_4.1) (i := 21) rfl (.inr (.inl rfl)) rfl rfl rfl)) (SX.b (se_ixT (ea := eInt) (SX.b (se_var (ea := (eTup eInt)) (d := order_) (i := 24) rfl (.inr (.inl rfl)) rfl rfl rfl)) (SX.b (se_sub (SX.b (se_var (ea := eInt) (d := n_2) (i := 28) rfl (.inl rfl) rfl rfl rfl)) (SX.b se_int))) (fun _ _ => rfl))) (fun _ _ => rfl)))))) rfl)) (by first | with_reducible rfl | (simp only [pure_bind, bind_assoc, bind_pure, tt_if, bif_and, bif_or]; done) | (simp only [pure_bind, bind_assoc, bind_pure, tt_if, bif_and, bif_or]; with_reducible rfl) | (simp only [pure_bind, bind_assoc, bind_pure, tt_if, bif_and, bif_or]; rfl) | rfl))) (fun n_2 _ _ _ _ _ => (se_var (ea := eInt) (d := n_2) (i := 28) rfl (.inl rfl) rfl rfl rfl)) (by first | with_reducible rfl | (simp only [pure_bind, bind_assoc, bind_pure, tt_if, bif_and, bif_or]; done) | (simp only [pure_bind, bind_assoc, bind_pure, tt_if, bif_and, bif_or]; with_reducible rfl) | (simp only [pure_bind, bind_assoc, bind_pure, tt_if, bif_and, bif_or]; rfl) | rfl) (fun falls_ => (SL.lock 26 rfl (SL.atR (R' := [some (.scr script_), some (.adr aw), some (.frz (eInt turn_)), some (.frz (eInt many_)), some (.frz ((eTup eInt) odds_)), some (.frz ((eTup (eT2 eInt eInt)) sights_)), some (.frz ((eTup eInt) plan_)), some (.frz ((eT2 eInt eInt) chance_)), some (.frz ((eOpt eInt) told_2)), some (.frz ((eT2 eInt eInt) whole_)), some (.frz ((eOpt (eTup (eT2 eInt eInt))) due_)), some (.frz ((eT2 eInt eInt) d_14.2)), none, some (.frz (eInt p_.1)), some (.frz ((eTup eInt) d_10.2)), some (.frz ((eLst (eTup eInt)) d_6.2)), none, none, some (.frz ((eT2 eInt eInt) top_)), some (.frz ((eT2 eInt eInt) p_3.1)), some (.frz ((eOpt eInt) d_10.1)), some (.frz ((eTup eInt) p_4.1)), some (.frz ((eOpt (eT2 (eT2 eInt eInt) (eTup eInt))) d_11.2.2)), some (.own (List.map (eT2 eInt eInt) means_2)), some (.frz ((eTup eInt) order_)), some (.frz (eInt d_14.1)), some (.frz ((eLst eInt) falls_)), none, none]) (SL.asc (sl_setLc (eb := eInt) (i := 27) (own := [("n", 28)]) (g := (gName 28)) (is := [28]) (dts := (fun a => [eInt a])) (mt := fun n_3 => (fromO (L2.atI order_ (n_3 - (1 : Int))) >>= fun v80 => fromO (L2.atI odds_ v80) >>= fun v81 => fromO (L2.atI order_ n_3) >>= fun v82 => fromO (L2.atI p_4.1 v82) >>= fun v83 => fromO (mulG v81 v83) >>= fun v84 => fromO (L2.atI order_ n_3) >>= fun v85 => fromO (L2.atI odds_ v85) >>= fun v86 => fromO (L2.atI order_ (n_3 - (1 : Int))) >>= fun v87 => fromO (L2.atI p_4.1 v87) >>= fun v88 => fromO (mulG v86 v88) >>= fun v89 => (if (decide (v84 = v89)) = true then (fromO (L2.atI order_ (n_3 - (1 : Int))) >>= fun v90 => fromO (L2.atI order_ n_3) >>= fun v91 => pure (decide (v91 < v90))) else pure false))) (me := fun n_3 => (pure n_3)) rfl rfl (ltR 29 rfl rfl) (sw_true rfl rfl rfl rfl) rfl nd (si_range2 rfl T.z_range (SX.b se_int) (SX.b (se_var (ea := eInt) (d := many_) (i := 3) rfl (.inr (.inl rfl)) rfl rfl rfl))) (blkOk_by rfl) (fun _ _ _ _ _ => (pg_name (i := 28) nd rfl (.inl rfl))) g_name (by decide) (ltAll 29 rfl rfl) (fun n_3 _ _ _ _ _ => (SIf.eq (sf_one (SW.t (sw_and (SC.t (sc_eqT eq_int (by decide) hr.units (SX.b (se_mul (SX.b (se_ixT (ea := eInt) (SX.b (se_var (ea := (eTup eInt)) (d := odds_) (i := 4) rfl (.inr (.inl rfl)) rfl rfl rfl)) (SX.b (se_ixT (ea := eInt) (SX.b (se_var (ea := (eTup eInt)) (d := order_) (i := 24) rfl (.inr (.inl rfl)) rfl rfl rfl)) (SX.b (se_sub (SX.b (se_var (ea := eInt) (d := n_3) (i := 28) rfl (.inl rfl) rfl rfl rfl)) (SX.b se_int))) (fun _ _ => rfl))) (fun _ _ => rfl))) (SX.b (se_ixT (ea := eInt) (SX.b (se_var (ea := (eTup eInt)) (d := p_4.1) (i := 21) rfl (.inr (.inl rfl)) rfl rfl rfl)) (SX.b (se_ixT (ea := eInt) (SX.b (se_var (ea := (eTup eInt)) (d := order_) (i := 24) rfl (.inr (.inl rfl)) rfl rfl rfl)) (SX.b (se_var (ea := eInt) (d := n_3) (i := 28) rfl (.inl rfl) rfl rfl rfl)) (fun _ _ => rfl))) (fun _ _ => rfl))))) (SX.b (se_mul (SX.b (se_ixT (ea := eInt) (SX.b (se_var (ea := (eTup eInt)) (d := odds_) (i := 4) rfl (.inr (.inl rfl)) rfl rfl rfl)) (SX.b (se_ixT (ea := eInt) (SX.b (se_var (ea := (eTup eInt)) (d := order_) (i := 24) rfl (.inr (.inl rfl)) rfl rfl rfl)) (SX.b (se_var (ea := eInt) (d := n_3) (i := 28) rfl (.inl rfl) rfl rfl rfl)) (fun _ _ => rfl))) (fun _ _ => rfl))) (SX.b (se_ixT (ea := eInt) (SX.b (se_var (ea := (eTup eInt)) (d := p_4.1) (i := 21) rfl (.inr (.inl rfl)) rfl rfl rfl)) (SX.b (se_ixT (ea := eInt) (SX.b (se_var (ea := (eTup eInt)) (d := order_) (i := 24) rfl (.inr (.inl rfl)) rfl rfl rfl)) (SX.b (se_sub (SX.b (se_var (ea := eInt) (d := n_3) (i := 28) rfl (.inl rfl) rfl rfl rfl)) (SX.b se_int))) (fun _ _ => rfl))) (fun _ _ => rfl)))))) rfl) (sw_and1 (SC.t (sc_gt (SX.b (se_ixT (ea := eInt) (SX.b (se_var (ea := (eTup eInt)) (d := order_) (i := 24) rfl (.inr (.inl rfl)) rfl rfl rfl)) (SX.b (se_sub (SX.b (se_var (ea := eInt) (d := n_3) (i := 28) rfl (.inl rfl) rfl rfl rfl)) (SX.b se_int))) (fun _ _ => rfl))) (SX.b (se_ixT (ea := eInt) (SX.b (se_var (ea := (eTup eInt)) (d := order_) (i := 24) rfl (.inr (.inl rfl)) rfl rfl rfl)) (SX.b (se_var (ea := eInt) (d := n_3) (i := 28) rfl (.inl rfl) rfl rfl rfl)) (fun _ _ => rfl)))) rfl))))) (by first | with_reducible rfl | (simp only [pure_bind, bind_assoc, bind_pure, tt_if, bif_and, bif_or]; done) | (simp only [pure_bind, bind_assoc, bind_pure, tt_if, bif_and, bif_or]; with_reducible rfl) | (simp only [pure_bind, bind_assoc, bind_pure, tt_if, bif_and, bif_or]; rfl) | rfl))) (fun n_3 _ _ _ _ _ => (se_var (ea := eInt) (d := n_3) (i := 28) rfl (.inl rfl) rfl rfl rfl)) (by first | with_reducible rfl | (simp only [pure_bind, bind_assoc, bind_pure, tt_if, bif_and, bif_or]; done) | (simp only [pure_bind, bind_assoc, bind_pure, tt_if, bif_and, bif_or]; with_reducible rfl) | (simp only [pure_bind, bind_assoc, bind_pure, tt_if, bif_and, bif_or]; rfl) | rfl) (fun even_ => (SL.lock 27 rfl (SL.atR (R' := [some (.scr script_), some (.adr aw), some (.frz (eInt turn_)), some (.frz (eInt many_)), some (.frz ((eTup eInt) odds_)), some (.frz ((eTup (eT2 eInt eInt)) sights_)), some (.frz ((eTup eInt) plan_)), some (.frz ((eT2 eInt eInt) chance_)), some (.frz ((eOpt eInt) told_2)), some (.frz ((eT2 eInt eInt) whole_)), some (.frz ((eOpt (eTup (eT2 eInt eInt))) due_)), some (.frz ((eT2 eInt eInt) d_14.2)), none, some (.frz (eInt p_.1)), some (.frz ((eTup eInt) d_10.2)), some (.frz ((eLst (eTup eInt)) d_6.2)), none, none, some (.frz ((eT2 eInt eInt) top_)), some (.frz ((eT2 eInt eInt) p_3.1)), some (.frz ((eOpt eInt) d_10.1)), some (.frz ((eTup eInt) p_4.1)), some (.frz ((eOpt (eT2 (eT2 eInt eInt) (eTup eInt))) d_11.2.2)), some (.own (List.map (eT2 eInt eInt) means_2)), some (.frz ((eTup eInt) order_)), some (.frz (eInt d_14.1)), some (.frz ((eLst eInt) falls_)), some (.frz ((eLst eInt) even_)), none]) (SL.asc (sl_set (i := 22) (ea := (eOpt (eT2 (eT2 eInt eInt) (eTup eInt)))) nd rfl (.inr rfl) (ltR 29 rfl rfl) (SX.eq (sx_if kF_ok (SW.t (sw_and (SC.t (sc_eqT (eq_lst eq_int) (by decide) hr.units (SX.b (se_var (ea := (eLst eInt)) (d := falls_) (i := 26) rfl (.inl rfl) rfl rfl rfl)) (SX.ob (so_nil (ea := eInt)))) rfl) (sw_and1 (SC.t (sc_eqT (eq_lst eq_int) (by decide) hr.units (SX.b (se_var (ea := (eLst eInt)) (d := even_) (i := 27) rfl (.inl rfl) rfl rfl rfl)) (SX.ob (so_nil (ea := eInt)))) rfl)))) (SX.mapI (ea := (eT2 (eT2 eInt eInt) (eTup eInt))) (eb := (eOpt (eT2 (eT2 eInt eInt) (eTup eInt)))) (f := some) (se_tup (et := (eT2 (eT2 eInt eInt) (eTup eInt))) (sa_cons (ea := (eT2 eInt eInt)) (eg := fun g : (List Int) => [(eTup eInt) g]) (se_var (ea := (eT2 eInt eInt)) (d := d_14.2) (i := 11) rfl (.inl rfl) rfl rfl rfl) (sa_one (ea := (eTup eInt)) (se_var (ea := (eTup eInt)) (d := order_) (i := 24) rfl (.inr (.inl rfl)) rfl rfl rfl))) (fun _ => rfl) (fun _ => Nat.le_of_ble_eq_true rfl)) kF_ok (fun _ => rfl)) (se_var (ea := (eOpt (eT2 (eT2 eInt eInt) (eTup eInt)))) (d := d_11.2.2) (i := 22) rfl (.inr (.inl rfl)) rfl rfl rfl)) (by first | with_reducible rfl | (simp only [pure_bind, bind_assoc, bind_pure, tt_if, bif_and, bif_or]; done) | (simp only [pure_bind, bind_assoc, bind_pure, tt_if, bif_and, bif_or]; with_reducible rfl) | (simp only [pure_bind, bind_assoc, bind_pure, tt_if, bif_and, bif_or]; rfl) | rfl)) (fun best_ => (sp_nil (d_14.2, means_2, best_) (subC (subC (subC (subC (subC (subC (subC (subC (subC (subC (subC (subC (subN (subC (subC (subC (subN (subN (subC (subC (subC (subC (subC (subC (subN (subN (subN (subN (subN subE))))))))))))))))))))))))))))))) rfl (.inl rfl))) rfl))))) rfl))))) rfl)) rfl rfl rfl rfl rfl)) rfl)) (fun _ => rfl))) rfl)) rfl rfl rfl)) rfl)) (fun d_12 => (SL.lock 23 rfl (SL.atR (R' := [some (.scr script_), some (.adr aw), some (.frz (eInt turn_)), some (.frz (eInt many_)), some (.frz ((eTup eInt) odds_)), some (.frz ((eTup (eT2 eInt eInt)) sights_)), some (.frz ((eTup eInt) plan_)), some (.frz ((eT2 eInt eInt) chance_)), some (.frz ((eOpt eInt) told_2)), some (.frz ((eT2 eInt eInt) whole_)), some (.frz ((eOpt (eTup (eT2 eInt eInt))) due_)), some (.frz ((eT2 eInt eInt) d_12.1)), none, some (.frz (eInt p_.1)), some (.frz ((eTup eInt) d_10.2)), some (.frz ((eLst (eTup eInt)) d_6.2)), none, none, some (.frz ((eT2 eInt eInt) top_)), some (.frz ((eT2 eInt eInt) p_3.1)), some (.frz ((eOpt eInt) d_10.1)), some (.frz ((eTup eInt) p_4.1)), some (.frz ((eOpt (eT2 (eT2 eInt eInt) (eTup eInt))) d_12.2.2)), some (.frz ((eLst (eT2 eInt eInt)) d_12.2.1)), none, none, none, none, none]) (sl_ifR (ST.eq (SW.t (sw_or (SC.t (sc_neT (eq_opt (eq_t2 (eq_t2 eq_int eq_int) (eq_tup eq_int)) (fun _ => rfl)) (by decide) hr.units (SX.b (SX.mapI (ea := (eT2 (eT2 eInt eInt) (eTup eInt))) (eb := (eOpt (eT2 (eT2 eInt eInt) (eTup eInt)))) (f := some) (se_call (FnOk.mono (ok_order_of T) (by decide)) hr rfl T.g20 T.F20.kp T.b20 (sa_cons (ea := (eTup eInt)) (eg := fun g : (List Int) => [(eTup eInt) g]) (se_var (ea := (eTup eInt)) (d := odds_) (i := 4) rfl (.inr (.inl rfl)) rfl rfl rfl) (sa_one (ea := (eTup eInt)) (se_var (ea := (eTup eInt)) (d := p_4.1) (i := 21) rfl (.inr (.inl rfl)) rfl rfl rfl))) rfl rfl rfl) kF_ok (fun _ => rfl))) (SX.b (se_var (ea := (eOpt (eT2 (eT2 eInt eInt) (eTup eInt)))) (d := d_12.2.2) (i := 22) rfl (.inr (.inl rfl)) rfl rfl rfl))) rfl) (sw_or1 (SC.t (sc_neT (eq_lst (eq_t2 eq_int eq_int)) (by decide) hr.units (SX.ob (so_comp (eb := (eT2 eInt eInt)) (own := [("mean", 11)]) (g := (gName 11)) (is := [11]) (dts := (fun a => [(eT2 eInt eInt) a])) (mt := fun mean_4 => (fromO d_12.2.2 >>= fun v95 => fromO (m__law_below mean_4 v95.1))) (me := fun mean_4 => (pure mean_4)) rfl nd (si_lst (ea := (eT2 eInt eInt)) (se_var (ea := (eLst (eT2 eInt eInt))) (d := d_12.2.1) (i := 23) rfl (.inl rfl) rfl rfl rfl) (fun h => h.firms)) (blkOk_by rfl) (fun _ _ _ _ _ => (pg_name (i := 11) nd rfl (.inl rfl))) g_name (by decide) (ltAll 29 rfl rfl) (fun mean_4 _ _ _ _ _ => (SIf.eq (sf_one (SX.t (se_call (FnOk.mono (ok__law_below T) (by decide)) hr rfl T.g5 T.F5.kp T.b5 (sa_cons (ea := (eT2 eInt eInt)) (eg := fun g : (Int × Int) => [(eT2 eInt eInt) g]) (se_var (ea := (eT2 eInt eInt)) (d := mean_4) (i := 11) rfl (.inl rfl) rfl rfl rfl) (sa_one (ea := (eT2 eInt eInt)) (se_ixCI (ea := (eT2 (eT2 eInt eInt) (eTup eInt))) (ec := (eT2 eInt eInt)) (i := 0) (f := fun p => p.1) (SX.b (SX.get (se_var (ea := (eOpt (eT2 (eT2 eInt eInt) (eTup eInt)))) (d := d_12.2.2) (i := 22) rfl (.inr (.inl rfl)) rfl rfl rfl))) (SX.b se_int) (fun _ _ => rfl) (fun p => ⟨_, rfl, rfl⟩)))) rfl rfl rfl) (fun _ => rfl))) (by first | with_reducible rfl | (simp only [pure_bind, bind_assoc, bind_pure, tt_if, bif_and, bif_or]; done) | (simp only [pure_bind, bind_assoc, bind_pure, tt_if, bif_and, bif_or]; with_reducible rfl) | (simp only [pure_bind, bind_assoc, bind_pure, tt_if, bif_and, bif_or]; rfl) | rfl))) (fun mean_4 _ _ _ _ _ => (se_var (ea := (eT2 eInt eInt)) (d := mean_4) (i := 11) rfl (.inl rfl) rfl rfl rfl)))) (SX.ob (so_nil (ea := (eT2 eInt eInt))))) rfl)))) (by first | with_reducible rfl | (simp only [pure_bind, bind_assoc, bind_pure, tt_if, bif_and, bif_or]; done) | (simp only [pure_bind, bind_assoc, bind_pure, tt_if, bif_and, bif_or]; with_reducible rfl) | (simp only [pure_bind, bind_assoc, bind_pure, tt_if, bif_and, bif_or]; rfl) | rfl)) (SL.atR (R' := [some (.scr script_), some (.adr aw), some (.frz (eInt turn_)), some (.frz (eInt many_)), some (.frz ((eTup eInt) odds_)), some (.frz ((eTup (eT2 eInt eInt)) sights_)), some (.frz ((eTup eInt) plan_)), some (.frz ((eT2 eInt eInt) chance_)), some (.frz ((eOpt eInt) told_2)), some (.frz ((eT2 eInt eInt) whole_)), some (.frz ((eOpt (eTup (eT2 eInt eInt))) due_)), some (.frz ((eT2 eInt eInt) d_12.1)), none, some (.frz (eInt p_.1)), some (.frz ((eTup eInt) d_10.2)), some (.frz ((eLst (eTup eInt)) d_6.2)), none, none, some (.frz ((eT2 eInt eInt) top_)), some (.frz ((eT2 eInt eInt) p_3.1)), some (.frz ((eOpt eInt) d_10.1)), some (.frz ((eTup eInt) p_4.1)), some (.frz ((eOpt (eT2 (eT2 eInt eInt) (eTup eInt))) d_12.2.2)), some (.frz ((eLst (eT2 eInt eInt)) d_12.2.1)), none, none, none, none, none]) (sf_ret se_bool) rfl) (sl_nil () (subC (subC (subN (subN (subN (subN (subN (subN (subN (subN (subN (subN (subN (subN (subN (subN (subN (subN (subN (subN (subN (subN (subN (subN (subN (subN (subN (subN (subN subE))))))))))))))))))))))))))))))) rfl))) (fun _ => rfl)) rfl)) rfl (.inr rfl)) rfl)) rfl rfl rfl) rfl)) rfl)) rfl (.inr rfl)) rfl)) (fun _ => rfl)) rfl)) rfl rfl) rfl)) rfl)) rfl)) rfl (.inl rfl)) rfl)) (fun _ => rfl)) rfl)) rfl rfl) rfl)) rfl)) (fun _ => rfl)) rfl)) rfl (.inr rfl)) rfl)) rfl)) rfl (.inr rfl)) rfl)) rfl (.inl rfl)) rfl)) rfl (.inr rfl)) rfl)) rfl)) rfl (.inr rfl)) rfl)) rfl (.inr rfl)) rfl)) rfl (.inl rfl)) rfl)) rfl (.inl rfl)) rfl)) rfl (.inl rfl)) rfl)) (fun d_2 => (SL.atR (R' := [some (.scr script_), some (.adr aw), none, none, none, none, none, none, none, none, none, none, none, none, none, none, none, none, none, none, none, none, none, none, none, none, none, none, none]) (sf_ret se_bool) rfl)) (fun _ => rfl)) rfl)
theorem ok_law (T : Tp K mg) : FnOk P w K mg base CX0 9 T.f33 T.d33 p33 (spLaw K w m_law) :=
  fn_law T.F33 sc33 rfl (by decide) fun cdv A outer s H E hr ns =>
    sf_world (i := 0) (iw := 1) sc33.nd (FnOk.mono (ok__law_draws T) (by decide)) hr rfl T.g2 T.F2.kp T.b2 rfl (.inl rfl) rfl rfl rfl rfl rfl rfl rfl rfl (.inr rfl) (.inl rfl) (ltR 29 rfl rfl)
      (by intro y hy z e; subst e; have : z = Slot.scr ns := by simpa [slots0] using hy
          subst this; exact fun h => h) rfl fun aw => bd_lawb T cdv A outer s H E aw hr ns
end
end K23

namespace K23
open TT PySem L2
open TT.PyM (fromO)
theorem d_plus : m_plus = plusM := rfl
theorem d_minus : m_minus = minusM := rfl
theorem d_times : m_times = timesM := rfl
theorem d_frac : m_fraction = fractionM := rfl
theorem d_ladd : m__law_add = lawAddM := rfl
theorem d_lless : m__law_less = lawLessM := rfl
theorem d_lmul : m__law_mul = lawMulM := rfl
theorem d_lfrac : m__law_frac = lawFracM := rfl
theorem d_is_less : m_is_less = lessM := rfl
theorem d_below : m__law_below = lessM := rfl
/-- a fold, by what is behind -/
theorem fold_pre {α δ : Type} {f : α → δ → Option δ} {xs : List α} (s : List α → δ) (h : ∀ pre x post, pre ++ x :: post = xs → f x (s pre) = some (s (pre ++ [x]))) : foldL f xs (s []) = some (s xs) := by
  have : ∀ (post pre : List α), pre ++ post = xs → foldL f post (s pre) = some (s xs) := by
    intro post
    induction post with
    | nil => intro pre e; rw [List.append_nil] at e; rw [e]; rfl
    | cons x post ih =>
      intro pre e
      rw [fold_go (h pre x post e)]
      exact ih (pre ++ [x]) (by simpa using e)
  exact this xs [] rfl
/-- sums -/
def sm (f : Nat → Rat) : Nat → Rat
  | 0 => 0
  | m + 1 => sm f m + f m
theorem sm_congr {f g : Nat → Rat} : ∀ {n : Nat}, (∀ k, k < n → f k = g k) → sm f n = sm g n
  | 0, _ => rfl
  | n + 1, h => by
    show sm f n + f n = sm g n + g n
    rw [sm_congr fun k hk => h k (by omega), h n (by omega)]
theorem fq_zero : Fq 1 0 (0 : Rat) := ⟨Nat.le_refl _, Nat.le_refl _⟩
theorem fq_one : Fq 1 1 (1 : Rat) := ⟨Nat.le_refl _, Nat.le_refl _⟩
theorem qf_zero : qf 0 = ((0 : Int), (1 : Int)) := rfl
theorem qf_one : qf 1 = ((1 : Int), (1 : Int)) := rfl
theorem sm_fq {f : Nat → Rat} {N c : Nat} : ∀ {n : Nat}, (∀ k, k < n → Fq N c (f k)) → Fq (N ^ n) (n * c) (sm f n)
  | 0, _ => by rw [Nat.zero_mul]; exact fq_zero
  | n + 1, h => by
    have := (sm_fq (n := n) fun k hk => h k (by omega)).add (h n (by omega))
    rw [Nat.pow_succ, Nat.add_mul, Nat.one_mul]
    exact this
/-- a total, n of them -/
theorem total_eq {f : Nat → Rat} {N c n : Nat} (hN : 1 ≤ N) (h : ∀ k, k < n → Fq N c (f k)) (hb : (n * c + c) * N ^ n * N < BW) (hb1 : N ^ n * N < BW) : m_total ((List.range n).map fun k => qf (f k)) = some (qf (sm f n)) := by
  unfold m_total
  simp only [o_fromO, o_pure, o_bind]
  rw [o_go (a := qf (sm f n))]
  have : ∀ m, m ≤ n → foldL (m := Option) (fun one_ d_ => m_plus d_ one_ >>= fun found_2 => some found_2) ((List.range m).map fun k => qf (f k)) ((0 : Int), (1 : Int)) = some (qf (sm f m)) := by
    intro m
    induction m with
    | zero => intro _; rfl
    | succ m ih =>
      intro hm
      rw [List.range_succ, List.map_append]
      have fa : ∀ (xs ys : List (Int × Int)) (d : Int × Int), foldL (m := Option) (fun one_ d_ => m_plus d_ one_ >>= fun found_2 => some found_2) (xs ++ ys) d = foldL (m := Option) (fun one_ d_ => m_plus d_ one_ >>= fun found_2 => some found_2) xs d >>= foldL (m := Option) (fun one_ d_ => m_plus d_ one_ >>= fun found_2 => some found_2) ys := by
        intro xs
        induction xs with
        | nil => intro ys d; rfl
        | cons x xs ih =>
          intro ys d
          rw [List.cons_append, fold_cons, fold_cons]
          cases (m_plus d x >>= fun found_2 => some found_2) with
          | none => rfl
          | some e => exact ih ys e
      rw [fa, ih (by omega), o_bind]
      have f1 := sm_fq (n := m) fun k hk => h k (by omega)
      have f2 := h m (by omega)
      have pm : N ^ m ≤ N ^ n := Nat.pow_le_pow_right hN (by omega)
      have p1 : 1 ≤ N ^ n := Nat.pow_pos hN
      have q1 : N ^ m * N ≤ N ^ n * N := Nat.mul_le_mul_right _ pm
      have q2 : m * c * N ^ m ≤ (n * c + c) * N ^ n * N := Nat.le_trans (Nat.mul_le_mul (Nat.le_trans (Nat.mul_le_mul_right c (by omega : m ≤ n)) (Nat.le_add_right _ _)) pm) (Nat.le_mul_of_pos_right _ hN)
      have q3 : c * N ≤ (n * c + c) * N ^ n * N := by
        have : c ≤ (n * c + c) * N ^ n := Nat.le_trans (Nat.le_add_left c (n * c)) (Nat.le_mul_of_pos_right _ p1)
        exact Nat.mul_le_mul_right N this
      have q4 : N ^ m ≤ N ^ n * N := Nat.le_trans pm (Nat.le_mul_of_pos_right _ hN)
      have q5 : N ≤ N ^ n * N := Nat.le_mul_of_pos_left _ p1
      refine (fold_go (e := qf (sm f (m + 1))) ?_).trans rfl
      rw [d_plus, qplus (Nat.lt_of_le_of_lt (Nat.le_trans f1.m q2) hb) (Nat.lt_of_le_of_lt (Nat.le_trans f2.m q3) hb) (Nat.lt_of_le_of_lt (Nat.le_trans f1.d q4) hb1) (Nat.lt_of_le_of_lt (Nat.le_trans f2.d q5) hb1) (Nat.lt_of_le_of_lt (Nat.le_trans (Nat.mul_le_mul f1.d f2.d) q1) hb1), o_bind]
      rfl
  exact this n (Nat.le_refl n)
theorem lawTotal_eq {f : Nat → Rat} {N c n : Nat} (hN : 1 ≤ N) (h : ∀ k, k < n → Fq N c (f k)) (hb : (n * c + c) * N ^ n * N < BW) (hb1 : N ^ n * N < BL) : m__law_total ((List.range n).map fun k => qf (f k)) = some (qf (sm f n)) := by
  unfold m__law_total
  simp only [o_fromO, o_pure, o_bind]
  rw [o_go (a := qf (sm f n))]
  have bw := bl_bw
  have : ∀ m, m ≤ n → foldL (m := Option) (fun one_ d_ => m__law_add d_ one_ >>= fun found_2 => some found_2) ((List.range m).map fun k => qf (f k)) ((0 : Int), (1 : Int)) = some (qf (sm f m)) := by
    intro m
    induction m with
    | zero => intro _; rfl
    | succ m ih =>
      intro hm
      rw [List.range_succ, List.map_append]
      have fa : ∀ (xs ys : List (Int × Int)) (d : Int × Int), foldL (m := Option) (fun one_ d_ => m__law_add d_ one_ >>= fun found_2 => some found_2) (xs ++ ys) d = foldL (m := Option) (fun one_ d_ => m__law_add d_ one_ >>= fun found_2 => some found_2) xs d >>= foldL (m := Option) (fun one_ d_ => m__law_add d_ one_ >>= fun found_2 => some found_2) ys := by
        intro xs
        induction xs with
        | nil => intro ys d; rfl
        | cons x xs ih =>
          intro ys d
          rw [List.cons_append, fold_cons, fold_cons]
          cases (m__law_add d x >>= fun found_2 => some found_2) with
          | none => rfl
          | some e => exact ih ys e
      rw [fa, ih (by omega), o_bind]
      have f1 := sm_fq (n := m) fun k hk => h k (by omega)
      have f2 := h m (by omega)
      have pm : N ^ m ≤ N ^ n := Nat.pow_le_pow_right hN (by omega)
      have p1 : 1 ≤ N ^ n := Nat.pow_pos hN
      have q1 : N ^ m * N ≤ N ^ n * N := Nat.mul_le_mul_right _ pm
      have q2 : m * c * N ^ m ≤ (n * c + c) * N ^ n * N := Nat.le_trans (Nat.mul_le_mul (Nat.le_trans (Nat.mul_le_mul_right c (by omega : m ≤ n)) (Nat.le_add_right _ _)) pm) (Nat.le_mul_of_pos_right _ hN)
      have q3 : c * N ≤ (n * c + c) * N ^ n * N := by
        have : c ≤ (n * c + c) * N ^ n := Nat.le_trans (Nat.le_add_left c (n * c)) (Nat.le_mul_of_pos_right _ p1)
        exact Nat.mul_le_mul_right N this
      have q4 : N ^ m ≤ N ^ n * N := Nat.le_trans pm (Nat.le_mul_of_pos_right _ hN)
      have q5 : N ≤ N ^ n * N := Nat.le_mul_of_pos_left _ p1
      have hb2 := Nat.lt_trans hb1 bw
      refine (fold_go (e := qf (sm f (m + 1))) ?_).trans rfl
      rw [d_ladd, qlawAdd (Nat.lt_of_le_of_lt (Nat.le_trans f1.m q2) hb) (Nat.lt_of_le_of_lt (Nat.le_trans f2.m q3) hb) (Nat.lt_of_le_of_lt (Nat.le_trans f1.d q4) hb2) (Nat.lt_of_le_of_lt (Nat.le_trans f2.d q5) hb2) (Nat.lt_of_le_of_lt (Nat.le_trans (Nat.mul_le_mul f1.d f2.d) q1) hb1), o_bind]
      rfl
  exact this n (Nat.le_refl n)
/-! ### the chances -/
def rt (p : Int × Int) : Rat := Rat.divInt p.1 p.2
def ch (odds : List Int) (k : Nat) : Rat := Rat.divInt (odds.getD k 0) odds.sum
def qq (sights : List (Int × Int)) (k : Nat) : Rat := 1 - rt (sights.getD k (0, 1))
def lf (odds : List Int) (sights : List (Int × Int)) (plan : List Int) (k : Nat) : Rat := ch odds k * qq sights k ^ plan.count (k : Int)
structure Set' (odds : List Int) (sights : List (Int × Int)) : Prop where
  len : sights.length = odds.length
  n1 : 1 ≤ odds.length
  n3 : odds.length ≤ 3
  T1 : 1 ≤ odds.sum
  T2 : odds.sum ≤ 12
  od : ∀ x ∈ odds, 0 ≤ x ∧ x ≤ 12
  si : ∀ p ∈ sights, qf (rt p) = p ∧ 0 ≤ rt p ∧ rt p ≤ 1 ∧ Fq 4 1 (rt p)
theorem range_getD {α β : Type} {xs : List α} {d : α} (f : α → β) : (List.range xs.length).map (fun k => f (xs.getD k d)) = xs.map f := by
  refine List.ext_getElem (by simp) fun i a b => ?_
  simp only [List.getElem_map, List.getElem_range]
  rw [List.getD_eq_getElem?_getD, List.getElem?_eq_getElem (by simpa using b)]
  rfl
section
variable {odds : List Int} {sights : List (Int × Int)} (S : Set' odds sights)
include S
theorem od_at {k : Nat} (hk : k < odds.length) : 0 ≤ odds.getD k 0 ∧ odds.getD k 0 ≤ 12 := S.od _ (by rw [List.getD_eq_getElem?_getD, List.getElem?_eq_getElem hk]; exact List.getElem_mem hk)
theorem si_at {k : Nat} (hk : k < odds.length) : L2.atI sights (k : Int) = some (sights.getD k (0, 1)) ∧ qf (rt (sights.getD k (0, 1))) = sights.getD k (0, 1) ∧ 0 ≤ rt (sights.getD k (0, 1)) ∧ rt (sights.getD k (0, 1)) ≤ 1 ∧ Fq 4 1 (rt (sights.getD k (0, 1))) := by
  have hk' : k < sights.length := by rw [S.len]; exact hk
  have e : sights.getD k (0, 1) = sights[k] := by rw [List.getD_eq_getElem?_getD, List.getElem?_eq_getElem hk']; rfl
  rw [e]
  exact ⟨at_nat (List.getElem?_eq_getElem hk'), S.si _ (List.getElem_mem hk')⟩
theorem ch_fq {k : Nat} (hk : k < odds.length) : Fq 12 1 (ch odds k) := by
  have := od_at S hk
  have := S.T1
  have := S.T2
  exact .of (by omega) (by omega) (by omega)
theorem q_fq {k : Nat} (hk : k < odds.length) : Fq 4 2 (qq sights k) := by
  have := fq_one.sub (si_at S hk).2.2.2.2
  exact this
theorem q01 {k : Nat} (hk : k < odds.length) : 0 ≤ qq sights k ∧ qq sights k ≤ 1 := by
  obtain ⟨_, _, a, b, _⟩ := si_at S hk
  unfold qq
  exact ⟨by grind, by grind⟩
theorem qp_fq {k : Nat} (hk : k < odds.length) : ∀ c : Nat, Fq (4 ^ c) (2 ^ c) (qq sights k ^ c)
  | 0 => by rw [Rat.pow_zero]; exact fq_one
  | c + 1 => by
    rw [Rat.pow_succ, Nat.pow_succ, Nat.pow_succ]
    exact (qp_fq hk c).mul (q_fq S hk)
theorem lf_fq {k : Nat} (hk : k < odds.length) {plan : List Int} {m : Nat} (hm : plan.length ≤ m) : Fq (12 * 4 ^ m) (1 * 2 ^ m) (lf odds sights plan k) := by
  have cl : plan.count (k : Int) ≤ m := Nat.le_trans List.count_le_length hm
  exact ((ch_fq S hk).mul (qp_fq S hk _)).le (Nat.mul_le_mul_left _ (Nat.pow_le_pow_right (by decide) cl)) (Nat.mul_le_mul_left _ (Nat.pow_le_pow_right (by decide) cl))
/-! bounds, for plans of up to fifty looks; for the law's own of up to nine -/
omit S in
theorem b50 {c : Nat} (h : c ≤ 50) : 12 * 4 ^ c ≤ 12 * 4 ^ 50 ∧ 1 * 2 ^ c ≤ 2 ^ 50 := ⟨Nat.mul_le_mul_left _ (Nat.pow_le_pow_right (by decide) h), by rw [Nat.one_mul]; exact Nat.pow_le_pow_right (by decide) h⟩
theorem lfB {k : Nat} (hk : k < odds.length) {plan : List Int} (hm : plan.length ≤ 50) : Fq (12 * 4 ^ 50) (2 ^ 50) (lf odds sights plan k) := (lf_fq S hk hm).le (Nat.le_refl _) (by decide)
theorem lfL {k : Nat} (hk : k < odds.length) {plan : List Int} (hm : plan.length ≤ 9) : Fq (12 * 4 ^ 9) (2 ^ 9) (lf odds sights plan k) := (lf_fq S hk hm).le (Nat.le_refl _) (by decide)
end
theorem bw_big {n : Nat} (h : n ≤ 2 ^ 600) : n < BW := Nat.lt_of_le_of_lt h (Nat.pow_lt_pow_right (by decide) (by decide))
theorem bl_big {n : Nat} (h : n ≤ 2 ^ 170) : n < BL := Nat.lt_of_le_of_lt h (Nat.pow_lt_pow_right (by decide) (by decide))
section
variable {odds : List Int} {sights : List (Int × Int)} (S : Set' odds sights)
include S
theorem chances_eq : m_chances_of odds = some ((List.range odds.length).map fun k => qf (ch odds k)) := by
  unfold m_chances_of
  simp only [o_fromO, o_pure, o_bind]
  have t1 := S.T1
  have t2 := S.T2
  rw [comp_allS (q := fun own => qf (Rat.divInt own odds.sum)) (fun x hx => by
    rw [d_frac, fracW (by omega) (bw_big (by have : odds.sum.natAbs ≤ 12 := by omega
                                             exact Nat.le_trans this (by decide)))])]
  congr 1
  exact (range_getD (d := (0 : Int)) fun own => qf (Rat.divInt own odds.sum)).symm
theorem lawChances_eq : compL (m := Option) (fun _ => some true) (fun own_ => m__law_frac own_ (List.sum odds)) odds = some ((List.range odds.length).map fun k => qf (ch odds k)) := by
  have t1 := S.T1
  have t2 := S.T2
  rw [comp_allS (q := fun own => qf (Rat.divInt own odds.sum)) (fun x hx => by
    rw [d_lfrac, lawFracW (by omega) (bl_big (by have : odds.sum.natAbs ≤ 12 := by omega
                                                 exact Nat.le_trans this (by decide)))])]
  congr 1
  exact (range_getD (d := (0 : Int)) fun own => qf (Rat.divInt own odds.sum)).symm
omit S in
theorem set_map {n k : Nat} (f : Nat → Int × Int) (v : Int × Int) (hk : k < n) : ((List.range n).map f).set k v = (List.range n).map fun j => if j = k then v else f j := by
  refine List.ext_getElem (by simp) fun i a b => ?_
  simp only [List.getElem_set, List.getElem_map, List.getElem_range]
  by_cases z : k = i
  · subst z; rw [if_pos rfl]
  · rw [if_neg z, if_neg (fun y => z y.symm)]
omit S in
theorem map_at {n k : Nat} (f : Nat → Int × Int) (hk : k < n) : L2.atI ((List.range n).map f) (k : Int) = some (f k) := at_nat (by simp [hk])
omit S in
theorem count_snoc (pre : List Int) (x : Int) (k : Int) : (pre ++ [x]).count k = pre.count k + if x = k then 1 else 0 := by
  rw [List.count_append]
  congr 1
  by_cases z : x = k
  · subst z; simp
  · rw [if_neg z, List.count_eq_zero]; simpa using fun y => z y.symm
/-- what is missed -/
theorem missed_eq {plan : List Int} (hp : ∀ x ∈ plan, 0 ≤ x ∧ x < odds.length) (hl : plan.length ≤ 50) : m_missed sights plan = some ((List.range odds.length).map fun k => qf (qq sights k ^ plan.count (k : Int))) := by
  have n3 := S.n3
  unfold m_missed
  simp only [o_fromO, o_pure]
  have rep : repLG [((1 : Int), (1 : Int))] (sights.length : Int) = some ((List.range odds.length).map fun k => qf (qq sights k ^ ([] : List Int).count (k : Int))) := by
    unfold repLG
    have := S.len
    rw [if_pos ⟨by omega, by omega, by simp; omega⟩]
    congr 1
    rw [Int.toNat_natCast, S.len]
    have : ∀ n : Nat, (List.replicate n [((1 : Int), (1 : Int))]).flatten = (List.range n).map fun k => qf (qq sights k ^ ([] : List Int).count (k : Int)) := fun n => by
      have e : (fun k => qf (qq sights k ^ ([] : List Int).count (k : Int))) = fun _ : Nat => ((1 : Int), (1 : Int)) := by
        funext k
        rw [List.count_nil, Rat.pow_zero]
        rfl
      rw [e]
      induction n with
      | zero => rfl
      | succ n ih => rw [List.replicate_succ, List.flatten_cons, ih, List.range_succ_eq_map, List.map_cons, List.map_map]; rfl
    exact this _
  rw [rep, o_bind, o_bind]
  rw [o_go (fold_pre (fun pre => (List.range odds.length).map fun k => qf (qq sights k ^ pre.count (k : Int))) fun pre x post e => ?_)]
  obtain ⟨x1, x2⟩ := hp x (by rw [← e]; simp)
  obtain ⟨k, rfl⟩ : ∃ k : Nat, x = (k : Int) := ⟨x.toNat, by omega⟩
  have hk : k < odds.length := by omega
  have lp : pre.length ≤ 50 := by rw [← e] at hl; simp at hl; omega
  have cl : pre.count (k : Int) ≤ 50 := Nat.le_trans List.count_le_length lp
  obtain ⟨s1, s2, s3, s4, s5⟩ := si_at S hk
  have f1 := (qp_fq S hk (pre.count (k : Int))).le (Nat.pow_le_pow_right (by decide) cl) (Nat.pow_le_pow_right (by decide) cl)
  have f2 := q_fq S hk
  have mm : m_minus ((1 : Int), (1 : Int)) (sights.getD k (0, 1)) = some (qf (qq sights k)) := by
    have := qminus (x := 1) (y := rt (sights.getD k (0, 1))) (bw_big (Nat.le_trans fq_one.m (by decide))) (bw_big (Nat.le_trans s5.m (by decide))) (bw_big (Nat.le_trans fq_one.d (by decide))) (bw_big (Nat.le_trans s5.d (by decide))) (bw_big (Nat.le_trans (Nat.mul_le_mul fq_one.d s5.d) (by decide)))
    rw [s2, qf_one] at this
    exact this
  rw [map_at _ hk, o_bind, s1, o_bind, mm, o_bind, d_times, qtimes (bw_big (Nat.le_trans f1.m (by decide))) (bw_big (Nat.le_trans f2.m (by decide))) (bw_big (Nat.le_trans f1.d (by decide))) (bw_big (Nat.le_trans f2.d (by decide))) (bw_big (Nat.le_trans (Nat.mul_le_mul f1.d f2.d) (by decide))), o_bind, o_bind, setG_nat (by simpa using hk), o_bind, set_map _ _ hk]
  congr 1
  refine List.map_congr_left fun j hj => ?_
  rw [count_snoc]
  by_cases z : j = k
  · subst z
    rw [if_pos rfl, if_pos rfl, Rat.pow_succ]
  · rw [if_neg z, if_neg (by omega), Nat.add_zero]
/-- what is still there -/
theorem still_eq {plan : List Int} (hp : ∀ x ∈ plan, 0 ≤ x ∧ x < odds.length) (hl : plan.length ≤ 50) : m_still_there odds sights plan = some ((List.range odds.length).map fun k => qf (lf odds sights plan k)) := by
  unfold m_still_there
  simp only [o_fromO, o_pure]
  rw [chances_eq S, o_bind, missed_eq S hp hl, o_bind, List.zip_map', TT.comp_map, comp_allS (q := fun k => qf (lf odds sights plan k)) (fun k hk => ?_)]
  have hk := List.mem_range.mp hk
  have cl : plan.count (k : Int) ≤ 50 := Nat.le_trans List.count_le_length hl
  have f1 := ch_fq S hk
  have f2 := (qp_fq S hk (plan.count (k : Int))).le (Nat.pow_le_pow_right (by decide) cl) (Nat.pow_le_pow_right (by decide) cl)
  rw [d_times, qtimes (bw_big (Nat.le_trans f1.m (by decide))) (bw_big (Nat.le_trans f2.m (by decide))) (bw_big (Nat.le_trans f1.d (by decide))) (bw_big (Nat.le_trans f2.d (by decide))) (bw_big (Nat.le_trans (Nat.mul_le_mul f1.d f2.d) (by decide)))]
  rfl
theorem lawLeft_eq {plan : List Int} (hp : ∀ x ∈ plan, 0 ≤ x ∧ x < odds.length) (hl : plan.length ≤ 9) : m__law_left odds sights plan = some ((List.range odds.length).map fun k => qf (lf odds sights plan k)) := by
  unfold m__law_left
  simp only [o_fromO, o_pure]
  rw [lawChances_eq S, o_bind, o_bind]
  have e0 : ((List.range odds.length).map fun k => qf (ch odds k)) = (List.range odds.length).map fun k => qf (lf odds sights [] k) := by
    refine List.map_congr_left fun k _ => ?_
    unfold lf
    rw [List.count_nil, Rat.pow_zero, Rat.mul_one]
  rw [e0, o_go (fold_pre (fun pre => (List.range odds.length).map fun k => qf (lf odds sights pre k)) fun pre x post e => ?_)]
  obtain ⟨x1, x2⟩ := hp x (by rw [← e]; simp)
  obtain ⟨k, rfl⟩ : ∃ k : Nat, x = (k : Int) := ⟨x.toNat, by omega⟩
  have hk : k < odds.length := by omega
  have lp : pre.length ≤ 9 := by rw [← e] at hl; simp at hl; omega
  obtain ⟨s1, s2, s3, s4, s5⟩ := si_at S hk
  have f1 := lfL S hk lp
  have f2 := q_fq S hk
  have mm : m__law_less ((1 : Int), (1 : Int)) (sights.getD k (0, 1)) = some (qf (qq sights k)) := by
    have := qlawLess (x := 1) (y := rt (sights.getD k (0, 1))) (bw_big (Nat.le_trans fq_one.m (by decide))) (bw_big (Nat.le_trans s5.m (by decide))) (bw_big (Nat.le_trans fq_one.d (by decide))) (bw_big (Nat.le_trans s5.d (by decide))) (bl_big (Nat.le_trans (Nat.mul_le_mul fq_one.d s5.d) (by decide)))
    rw [s2, qf_one] at this
    exact this
  rw [map_at _ hk, o_bind, s1, o_bind, mm, o_bind, d_lmul, qlawMul (bw_big (Nat.le_trans f1.m (by decide))) (bw_big (Nat.le_trans f2.m (by decide))) (bw_big (Nat.le_trans f1.d (by decide))) (bw_big (Nat.le_trans f2.d (by decide))) (bl_big (Nat.le_trans (Nat.mul_le_mul f1.d f2.d) (by decide))), o_bind, o_bind, setG_nat (by simpa using hk), o_bind, set_map _ _ hk]
  congr 1
  refine List.map_congr_left fun j hj => ?_
  unfold lf
  rw [count_snoc]
  by_cases z : j = k
  · subst z
    rw [if_pos rfl, if_pos rfl, Rat.pow_succ, Rat.mul_assoc]
  · rw [if_neg z, if_neg (by omega), Nat.add_zero]
end
/-! ### the chance of a plan -/
def lost (odds : List Int) (sights : List (Int × Int)) (plan : List Int) : Rat := sm (lf odds sights plan) odds.length
def chance (odds : List Int) (sights : List (Int × Int)) (plan : List Int) : Rat := 1 - lost odds sights plan
theorem pw_le {a b c : Nat} (h : a ≤ b) (hc : 1 ≤ c) : c ^ a ≤ c ^ b := Nat.pow_le_pow_right hc h
section
variable {odds : List Int} {sights : List (Int × Int)} (S : Set' odds sights)
include S
theorem lost_fq {plan : List Int} (hl : plan.length ≤ 50) : Fq ((12 * 4 ^ 50) ^ 3) (3 * 2 ^ 50) (lost odds sights plan) :=
  (sm_fq fun k hk => lfB S hk hl).le (pw_le S.n3 (by decide)) (Nat.mul_le_mul_right _ S.n3)
theorem lost_fqL {plan : List Int} (hl : plan.length ≤ 9) : Fq ((12 * 4 ^ 9) ^ 3) (3 * 2 ^ 9) (lost odds sights plan) :=
  (sm_fq fun k hk => lfL S hk hl).le (pw_le S.n3 (by decide)) (Nat.mul_le_mul_right _ S.n3)
theorem chance_fq {plan : List Int} (hl : plan.length ≤ 50) : Fq (1 * (12 * 4 ^ 50) ^ 3) (1 + 3 * 2 ^ 50) (chance odds sights plan) := fq_one.sub (lost_fq S hl)
theorem chance_fqL {plan : List Int} (hl : plan.length ≤ 9) : Fq (1 * (12 * 4 ^ 9) ^ 3) (1 + 3 * 2 ^ 9) (chance odds sights plan) := fq_one.sub (lost_fqL S hl)
theorem tot_eq {plan : List Int} (hl : plan.length ≤ 50) : m_total ((List.range odds.length).map fun k => qf (lf odds sights plan k)) = some (qf (lost odds sights plan)) := by
  have n3 := S.n3
  have p3 := pw_le (c := 12 * 4 ^ 50) n3 (by decide)
  refine total_eq (N := 12 * 4 ^ 50) (c := 2 ^ 50) (by decide) (fun k hk => lfB S hk hl) (bw_big ?_) (bw_big ?_)
  · exact Nat.le_trans (Nat.mul_le_mul (Nat.mul_le_mul (Nat.add_le_add_right (Nat.mul_le_mul_right _ n3) _) p3) (Nat.le_refl _)) (by decide)
  · exact Nat.le_trans (Nat.mul_le_mul_right _ p3) (by decide)
theorem lawTot_eq {plan : List Int} (hl : plan.length ≤ 9) : m__law_total ((List.range odds.length).map fun k => qf (lf odds sights plan k)) = some (qf (lost odds sights plan)) := by
  have n3 := S.n3
  have p3 := pw_le (c := 12 * 4 ^ 9) n3 (by decide)
  refine lawTotal_eq (N := 12 * 4 ^ 9) (c := 2 ^ 9) (by decide) (fun k hk => lfL S hk hl) (bw_big ?_) (bl_big ?_)
  · exact Nat.le_trans (Nat.mul_le_mul (Nat.mul_le_mul (Nat.add_le_add_right (Nat.mul_le_mul_right _ n3) _) p3) (Nat.le_refl _)) (by decide)
  · exact Nat.le_trans (Nat.mul_le_mul_right _ p3) (by decide)
theorem found_eq {plan : List Int} (hp : ∀ x ∈ plan, 0 ≤ x ∧ x < odds.length) (hl : plan.length ≤ 50) : m_found_by odds sights plan = some (qf (chance odds sights plan)) := by
  unfold m_found_by
  simp only [o_fromO]
  have f := lost_fq S hl
  have mm := qminus (x := 1) (y := lost odds sights plan) (bw_big (Nat.le_trans fq_one.m (by decide))) (bw_big (Nat.le_trans f.m (by decide))) (bw_big (Nat.le_trans fq_one.d (by decide))) (bw_big (Nat.le_trans f.d (by decide))) (bw_big (Nat.le_trans (Nat.mul_le_mul fq_one.d f.d) (by decide)))
  rw [still_eq S hp hl, o_bind, tot_eq S hl, o_bind, d_minus]
  exact mm
theorem lawChance_eq {plan : List Int} (hp : ∀ x ∈ plan, 0 ≤ x ∧ x < odds.length) (hl : plan.length ≤ 9) : m__law_chance odds sights plan = some (qf (chance odds sights plan)) := by
  unfold m__law_chance
  simp only [o_fromO]
  have f := lost_fqL S hl
  have mm := qlawLess (x := 1) (y := lost odds sights plan) (bw_big (Nat.le_trans fq_one.m (by decide))) (bw_big (Nat.le_trans f.m (by decide))) (bw_big (Nat.le_trans fq_one.d (by decide))) (bw_big (Nat.le_trans f.d (by decide))) (bl_big (Nat.le_trans (Nat.mul_le_mul fq_one.d f.d) (by decide)))
  rw [lawLeft_eq S hp hl, o_bind, lawTot_eq S hl, o_bind, d_lless]
  exact mm
/-- the odds that are left -/
def leftQ (odds : List Int) (sights : List (Int × Int)) (plan : List Int) : Option (List (Int × Int)) := if 0 < lost odds sights plan then some ((List.range odds.length).map fun k => qf (lf odds sights plan k / lost odds sights plan)) else none
omit S in
theorem num_pos (x : Rat) : decide (0 < (qf x).1) = decide (0 < x) := decide_eq_decide.mpr (by
  rw [Rat.lt_iff]
  show 0 < x.num ↔ _
  have : (0 : Rat).num = 0 := rfl
  rw [this, Int.zero_mul]
  have : ((0 : Rat).den : Int) = 1 := rfl
  rw [this, Int.mul_one])
omit S in
theorem div_divInt (x y : Rat) (h : 0 < y.num) : x / y = Rat.divInt (x.num * y.den) (x.den * y.num) := by
  have hy : y = Rat.divInt y.num y.den := (Rat.num_divInt_den y).symm
  have hx : x = Rat.divInt x.num x.den := (Rat.num_divInt_den x).symm
  have : y⁻¹ = Rat.divInt y.den y.num := by
    conv => lhs; rw [hy]
    rw [Rat.inv_divInt]
  rw [Rat.div_def, this]
  conv => lhs; rw [hx]
  rw [Rat.divInt_mul_divInt]
theorem left_eq {plan : List Int} (hp : ∀ x ∈ plan, 0 ≤ x ∧ x < odds.length) (hl : plan.length ≤ 50) : m_left_odds odds sights plan = some (leftQ odds sights plan) := by
  unfold m_left_odds
  simp only [o_fromO, o_pure]
  rw [still_eq S hp hl, o_bind, tot_eq S hl, o_bind, num_pos]
  unfold leftQ
  have f := lost_fq S hl
  by_cases z : 0 < lost odds sights plan
  · rw [if_pos (decide_eq_true z), if_pos z]
    have z' : 0 < (lost odds sights plan).num := by
      have := num_pos (lost odds sights plan)
      rw [decide_eq_true z] at this
      exact of_decide_eq_true this
    rw [TT.comp_map, comp_allS (q := fun k => qf (lf odds sights plan k / lost odds sights plan)) (fun k hk => ?_), o_bind]
    have hk := List.mem_range.mp hk
    have g := lfB S hk hl
    unfold m_parted
    simp only [o_fromO]
    have dd := den_pos (lf odds sights plan k)
    rw [mulW (i := (qf (lf odds sights plan k)).1) (j := (qf (lost odds sights plan)).2) (bw_big (Nat.le_trans g.m (by decide))) (by show ((lost odds sights plan).den : Int).natAbs < BW; rw [Int.natAbs_natCast]; exact bw_big (Nat.le_trans f.d (by decide))), o_bind,
      mulW (i := (qf (lf odds sights plan k)).2) (j := (qf (lost odds sights plan)).1) (by show ((lf odds sights plan k).den : Int).natAbs < BW; rw [Int.natAbs_natCast]; exact bw_big (Nat.le_trans g.d (by decide))) (bw_big (Nat.le_trans f.m (by decide))), o_bind, d_frac]
    rw [div_divInt _ _ z']
    exact fracW (Int.mul_pos dd z') (by
      rw [Int.natAbs_mul]
      exact bw_big (Nat.le_trans (Nat.mul_le_mul (show ((lf odds sights plan k).den : Int).natAbs ≤ 12 * 4 ^ 50 from by rw [Int.natAbs_natCast]; exact g.d) f.m) (by decide)))
  · rw [if_neg (by simpa using z), if_neg z]
theorem lawLeft2_eq {plan : List Int} (hl : plan.length ≤ 9) : (if (decide ((0 : Int) < (qf (lost odds sights plan)).1)) = true then (compL (m := Option) (fun own_ => some true) (fun own_ : Int × Int => mulG own_.1 (qf (lost odds sights plan)).2 >>= fun v20 => mulG own_.2 (qf (lost odds sights plan)).1 >>= fun v21 => m__law_frac v20 v21) ((List.range odds.length).map fun k => qf (lf odds sights plan k)) >>= fun v22 => some (some v22)) else some none) = some (leftQ odds sights plan) := by
  rw [num_pos]
  unfold leftQ
  have f := lost_fqL S hl
  by_cases z : 0 < lost odds sights plan
  · rw [if_pos (decide_eq_true z), if_pos z]
    have z' : 0 < (lost odds sights plan).num := by
      have := num_pos (lost odds sights plan)
      rw [decide_eq_true z] at this
      exact of_decide_eq_true this
    rw [TT.comp_map, comp_allS (q := fun k => qf (lf odds sights plan k / lost odds sights plan)) (fun k hk => ?_), o_bind]
    have hk := List.mem_range.mp hk
    have g := lfL S hk hl
    have dd := den_pos (lf odds sights plan k)
    rw [mulW (i := (qf (lf odds sights plan k)).1) (j := (qf (lost odds sights plan)).2) (bw_big (Nat.le_trans g.m (by decide))) (by show ((lost odds sights plan).den : Int).natAbs < BW; rw [Int.natAbs_natCast]; exact bw_big (Nat.le_trans f.d (by decide))), o_bind,
      mulW (i := (qf (lf odds sights plan k)).2) (j := (qf (lost odds sights plan)).1) (by show ((lf odds sights plan k).den : Int).natAbs < BW; rw [Int.natAbs_natCast]; exact bw_big (Nat.le_trans g.d (by decide))) (bw_big (Nat.le_trans f.m (by decide))), o_bind, d_lfrac]
    rw [div_divInt _ _ z']
    exact lawFracW (Int.mul_pos dd z') (by
      rw [Int.natAbs_mul]
      exact bl_big (Nat.le_trans (Nat.mul_le_mul (show ((lf odds sights plan k).den : Int).natAbs ≤ 12 * 4 ^ 9 from by rw [Int.natAbs_natCast]; exact g.d) f.m) (by decide)))
  · rw [if_neg (by simpa using z), if_neg z]
end
/-! ### the square most worth a look -/
/-- the first of the greatest -/
def am (w : Nat → Rat) : Nat → Nat
  | 0 => 0
  | m + 1 => if w (am w m) < w m then m else am w m
theorem am_spec {w : Nat → Rat} : ∀ m, am w (m + 1) ≤ m ∧ ∀ k, k ≤ m → w k ≤ w (am w (m + 1))
  | 0 => by
    have : am w 1 = 0 := by show (if w (am w 0) < w 0 then 0 else am w 0) = 0; split <;> rfl
    rw [this]
    exact ⟨Nat.le_refl _, fun k hk => by rw [show k = 0 by omega]; exact Rat.le_refl⟩
  | m + 1 => by
    obtain ⟨a, b⟩ := am_spec (w := w) m
    show (if w (am w (m + 1)) < w (m + 1) then m + 1 else am w (m + 1)) ≤ m + 1 ∧ ∀ k, k ≤ m + 1 → w k ≤ w (if w (am w (m + 1)) < w (m + 1) then m + 1 else am w (m + 1))
    split
    · rename_i h
      refine ⟨Nat.le_refl _, fun k hk => ?_⟩
      rcases Nat.lt_or_ge k (m + 1) with z | z
      · have := b k (by omega)
        grind
      · rw [show k = m + 1 by omega]; exact Rat.le_refl
    · rename_i h
      refine ⟨by omega, fun k hk => ?_⟩
      rcases Nat.lt_or_ge k (m + 1) with z | z
      · exact b k (by omega)
      · rw [show k = m + 1 by omega]
        grind
def worth (odds : List Int) (sights : List (Int × Int)) (plan : List Int) (k : Nat) : Rat := lf odds sights plan k * rt (sights.getD k (0, 1))
def look (odds : List Int) (sights : List (Int × Int)) (plan : List Int) : Nat := am (worth odds sights plan) odds.length
section
variable {odds : List Int} {sights : List (Int × Int)} (S : Set' odds sights)
include S
theorem look_lt (plan : List Int) : look odds sights plan < odds.length := by
  have n1 := S.n1
  obtain ⟨m, e⟩ : ∃ m, odds.length = m + 1 := ⟨odds.length - 1, by omega⟩
  unfold look
  rw [e]
  have := (am_spec (w := worth odds sights plan) m).1
  omega
theorem look_best (plan : List Int) {k : Nat} (hk : k < odds.length) : worth odds sights plan k ≤ worth odds sights plan (look odds sights plan) := by
  have n1 := S.n1
  obtain ⟨m, e⟩ : ∃ m, odds.length = m + 1 := ⟨odds.length - 1, by omega⟩
  unfold look
  rw [e]
  exact (am_spec (w := worth odds sights plan) m).2 k (by omega)
theorem worth_fq {k : Nat} (hk : k < odds.length) {plan : List Int} (hm : plan.length ≤ 50) : Fq (12 * 4 ^ 50 * 4) (2 ^ 50 * 1) (worth odds sights plan k) := (lfB S hk hm).mul (si_at S hk).2.2.2.2
theorem worth_fqL {k : Nat} (hk : k < odds.length) {plan : List Int} (hm : plan.length ≤ 9) : Fq (12 * 4 ^ 9 * 4) (2 ^ 9 * 1) (worth odds sights plan k) := (lfL S hk hm).mul (si_at S hk).2.2.2.2
theorem most_eq {plan : List Int} (hp : ∀ x ∈ plan, 0 ≤ x ∧ x < odds.length) (hl : plan.length ≤ 50) : m_most_worth odds sights plan = some (look odds sights plan : Int) := by
  have n1 := S.n1
  have n3 := S.n3
  unfold m_most_worth
  simp only [o_fromO, o_pure]
  rw [still_eq S hp hl, o_bind, List.length_map, List.length_range, range_nat (by omega), o_bind, comp_rangeS (q := fun k => qf (worth odds sights plan k)) (fun k hk => ?_), o_bind, o_bind, List.length_map, List.length_range, range_nat (by omega), o_bind]
  · have step := fold_range (n := odds.length) (f := fun (k_2 : Int) (d_ : Int) => (L2.atI ((List.range odds.length).map fun k => qf (worth odds sights plan k)) d_ >>= fun v8 => L2.atI ((List.range odds.length).map fun k => qf (worth odds sights plan k)) k_2 >>= fun v9 => m_is_less v8 v9 >>= fun v7 => some (if v7 = true then k_2 else d_)) >>= fun best_2 => some best_2)
      (fun m => (am (worth odds sights plan) m : Int)) (fun k hk => by
        have hb : am (worth odds sights plan) k < odds.length := by
          cases k with
          | zero => exact n1
          | succ m => have := (am_spec (w := worth odds sights plan) m).1; omega
        show (L2.atI ((List.range odds.length).map fun k => qf (worth odds sights plan k)) ((am (worth odds sights plan) k : Nat) : Int) >>= _) >>= _ = _
        rw [map_at _ hb, o_bind, map_at _ hk, o_bind, d_is_less]
        have f1 := worth_fq S hb hl
        have f2 := worth_fq S hk hl
        rw [qless (bw_big (Nat.le_trans f1.m (by decide))) (bw_big (Nat.le_trans f2.m (by decide))) (bw_big (Nat.le_trans f1.d (by decide))) (bw_big (Nat.le_trans f2.d (by decide))), o_bind, o_bind]
        congr 1
        show (if decide (worth odds sights plan (am (worth odds sights plan) k) < worth odds sights plan k) = true then (k : Int) else (am (worth odds sights plan) k : Int)) = ((if worth odds sights plan (am (worth odds sights plan) k) < worth odds sights plan k then k else am (worth odds sights plan) k : Nat) : Int)
        split <;> rename_i h
        · rw [if_pos (of_decide_eq_true h)]
        · rw [if_neg (by simpa using h)])
    have e0 : ((am (worth odds sights plan) 0 : Nat) : Int) = 0 := rfl
    simp only [e0] at step
    rw [o_go step]
    rfl
  · obtain ⟨s1, s2, s3, s4, s5⟩ := si_at S hk
    have f1 := lfB S hk hl
    have := qtimes (x := lf odds sights plan k) (y := rt (sights.getD k (0, 1))) (bw_big (Nat.le_trans f1.m (by decide))) (bw_big (Nat.le_trans s5.m (by decide))) (bw_big (Nat.le_trans f1.d (by decide))) (bw_big (Nat.le_trans s5.d (by decide))) (bw_big (Nat.le_trans (Nat.mul_le_mul f1.d s5.d) (by decide)))
    rw [s2] at this
    rw [map_at _ hk, o_bind, s1, o_bind, d_times]
    exact this
theorem next_eq {plan : List Int} (hp : ∀ x ∈ plan, 0 ≤ x ∧ x < odds.length) (hl : plan.length ≤ 9) : m__law_next_look odds sights plan = some (look odds sights plan : Int) := by
  have n1 := S.n1
  have n3 := S.n3
  unfold m__law_next_look
  simp only [o_fromO, o_pure]
  rw [lawLeft_eq S hp hl, o_bind, o_bind, range_nat (by omega), o_bind]
  have step := fold_range (n := odds.length) (f := fun (k_ : Int) (d_ : Option ((Int × Int) × Int)) => (L2.atI ((List.range odds.length).map fun k => qf (lf odds sights plan k)) k_ >>= fun v4 => L2.atI sights k_ >>= fun v5 => m__law_mul v4 v5) >>= fun worth_ =>
      ((if (isNon ((eOpt (eT2 (eT2 eInt eInt) eInt)) d_)) = true then some true else (d_ >>= fun v7 => m__law_below v7.1 worth_)) >>= fun v8 => some (if v8 = true then some (worth_, k_) else d_)) >>= fun best_ => some best_)
      (fun m => if m = 0 then none else some (qf (worth odds sights plan (am (worth odds sights plan) m)), (am (worth odds sights plan) m : Int))) (fun k hk => by
        obtain ⟨s1, s2, s3, s4, s5⟩ := si_at S hk
        have f0 := lfL S hk hl
        have mm := qlawMul (x := lf odds sights plan k) (y := rt (sights.getD k (0, 1))) (bw_big (Nat.le_trans f0.m (by decide))) (bw_big (Nat.le_trans s5.m (by decide))) (bw_big (Nat.le_trans f0.d (by decide))) (bw_big (Nat.le_trans s5.d (by decide))) (bl_big (Nat.le_trans (Nat.mul_le_mul f0.d s5.d) (by decide)))
        rw [s2] at mm
        have mm : m__law_mul (qf (lf odds sights plan k)) (sights.getD k (0, 1)) = some (qf (worth odds sights plan k)) := mm
        rw [map_at _ hk, o_bind, s1, o_bind, mm, o_bind, if_neg (Nat.succ_ne_zero k)]
        cases k with
        | zero =>
          rw [if_pos rfl]
          have : am (worth odds sights plan) 1 = 0 := by show (if worth odds sights plan (am (worth odds sights plan) 0) < worth odds sights plan 0 then 0 else am (worth odds sights plan) 0) = 0; split <;> rfl
          rw [this]
          rfl
        | succ m =>
          rw [if_neg (Nat.succ_ne_zero m)]
          have hb : am (worth odds sights plan) (m + 1) < odds.length := by have := (am_spec (w := worth odds sights plan) m).1; omega
          have f1 := worth_fqL S hb hl
          have f2 := worth_fqL S hk hl
          show ((some (qf (worth odds sights plan (am (worth odds sights plan) (m + 1))), (am (worth odds sights plan) (m + 1) : Int)) >>= fun v7 => m__law_below v7.1 (qf (worth odds sights plan (m + 1)))) >>= _) >>= _ = _
          rw [o_bind, d_below, qless (bw_big (Nat.le_trans f1.m (by decide))) (bw_big (Nat.le_trans f2.m (by decide))) (bw_big (Nat.le_trans f1.d (by decide))) (bw_big (Nat.le_trans f2.d (by decide))), o_bind, o_bind]
          congr 1
          have e : am (worth odds sights plan) (m + 1 + 1) = if worth odds sights plan (am (worth odds sights plan) (m + 1)) < worth odds sights plan (m + 1) then m + 1 else am (worth odds sights plan) (m + 1) := rfl
          rw [e]
          by_cases h : worth odds sights plan (am (worth odds sights plan) (m + 1)) < worth odds sights plan (m + 1)
          · rw [if_pos (decide_eq_true h), if_pos h]
          · rw [if_neg (by simpa using h), if_neg h])
  simp only [if_true] at step
  rw [o_go step, if_neg (by omega), o_bind]
  rfl
end
/-! ### no plan is better than the eager one -/
def gp (odds : List Int) (sights : List (Int × Int)) : Nat → List Int
  | 0 => []
  | L + 1 => gp odds sights L ++ [(look odds sights (gp odds sights L) : Int)]
/-- what the next look at a square adds, so many looks behind -/
def gain (odds : List Int) (sights : List (Int × Int)) (k j : Nat) : Rat := ch odds k * qq sights k ^ j * rt (sights.getD k (0, 1))
def stay (odds : List Int) (sights : List (Int × Int)) (k j : Nat) : Rat := ch odds k * qq sights k ^ j
theorem gp_len {odds : List Int} {sights : List (Int × Int)} : ∀ L, (gp odds sights L).length = L
  | 0 => rfl
  | L + 1 => by
    show (gp odds sights L ++ [_]).length = L + 1
    rw [List.length_append, gp_len L]
    rfl
section
variable {odds : List Int} {sights : List (Int × Int)} (S : Set' odds sights)
include S
theorem gp_in : ∀ L, ∀ x ∈ gp odds sights L, 0 ≤ x ∧ x < odds.length
  | 0, x, h => by cases h
  | L + 1, x, h => by
    rcases List.mem_append.mp h with h | h
    · exact gp_in L x h
    · rw [List.mem_singleton.mp h]
      have := look_lt S (gp odds sights L)
      omega
theorem best_plan_eq {L : Nat} (hL : L ≤ 45) : m_best_plan odds sights (L : Int) = some (qf (chance odds sights (gp odds sights L)), gp odds sights L) := by
  unfold m_best_plan
  simp only [o_fromO, o_pure, o_bind]
  rw [range_nat (by omega), o_bind]
  have step := fold_range (n := L) (f := fun (__ : Int) (d_ : List Int) => (m_most_worth odds sights d_ >>= fun v2 => catG d_ [v2]) >>= fun plan_2 => some plan_2) (fun m => gp odds sights m) (fun k hk => by
    have lk := gp_len (odds := odds) (sights := sights) k
    show (m_most_worth odds sights (gp odds sights k) >>= _) >>= _ = _
    rw [most_eq S (gp_in S k) (by omega), o_bind, cat_some (by simp; omega), o_bind]
    rfl)
  have g0 : gp odds sights 0 = [] := rfl
  rw [g0] at step
  rw [o_go step, found_eq S (gp_in S L) (by rw [gp_len]; omega), o_bind]
theorem ch_nn {k : Nat} (hk : k < odds.length) : 0 ≤ ch odds k := Rat.divInt_nonneg (od_at S hk).1 (by have := S.T1; omega)
theorem gain_nn {k : Nat} (hk : k < odds.length) (j : Nat) : 0 ≤ gain odds sights k j := Rat.mul_nonneg (Rat.mul_nonneg (ch_nn S hk) (Rat.pow_nonneg (q01 S hk).1)) (si_at S hk).2.2.1
theorem gain_step {k : Nat} (hk : k < odds.length) (j : Nat) : gain odds sights k (j + 1) ≤ gain odds sights k j := by
  have e : gain odds sights k (j + 1) = gain odds sights k j * qq sights k := by
    unfold gain
    rw [Rat.pow_succ]
    grind
  have h := Rat.mul_nonneg (gain_nn S hk j) (show 0 ≤ 1 - qq sights k by have := (q01 S hk).2; grind)
  grind
theorem gain_le {k : Nat} (hk : k < odds.length) (j : Nat) : ∀ d, gain odds sights k (j + d) ≤ gain odds sights k j
  | 0 => Rat.le_refl
  | d + 1 => Rat.le_trans (gain_step S hk (j + d)) (gain_le hk j d)
theorem stay_step (k j : Nat) : stay odds sights k (j + 1) = stay odds sights k j - gain odds sights k j := by
  unfold stay gain
  rw [Rat.pow_succ]
  have : rt (sights.getD k (0, 1)) = 1 - qq sights k := by unfold qq; grind
  rw [this]
  grind
theorem stay_up {k : Nat} (hk : k < odds.length) (g : Nat) {m : Rat} (hm : gain odds sights k g ≤ m) : ∀ d : Nat, stay odds sights k (g + d) ≥ stay odds sights k g - (d : Rat) * m
  | 0 => by
    have : ((0 : Nat) : Rat) = 0 := rfl
    rw [this, Nat.add_zero]
    grind
  | d + 1 => by
    have ih := stay_up hk g hm d
    have e := stay_step S (odds := odds) (sights := sights) k (g + d)
    have a := gain_le S hk g d
    have c : ((d + 1 : Nat) : Rat) = (d : Rat) + 1 := Rat.natCast_add d 1
    rw [c, ← Nat.add_assoc, e]
    grind
theorem stay_down {k : Nat} (hk : k < odds.length) (c : Nat) {m : Rat} : ∀ d : Nat, (d ≠ 0 → m ≤ gain odds sights k (c + d - 1)) → stay odds sights k c ≥ stay odds sights k (c + d) + (d : Rat) * m
  | 0, _ => by
    have : ((0 : Nat) : Rat) = 0 := rfl
    rw [this, Nat.add_zero]
    grind
  | d + 1, h => by
    have h1 := h (by omega)
    rw [show c + (d + 1) - 1 = c + d by omega] at h1
    have ih := stay_down hk c (m := m) d (fun z => by
      have := gain_le S hk (c + d - 1) 1
      rw [show c + d - 1 + 1 = c + d by omega] at this
      exact Rat.le_trans h1 this)
    have e := stay_step S (odds := odds) (sights := sights) k (c + d)
    have cc : ((d + 1 : Nat) : Rat) = (d : Rat) + 1 := Rat.natCast_add d 1
    rw [cc, ← Nat.add_assoc, e]
    grind
theorem stay_any {k : Nat} (hk : k < odds.length) (g c : Nat) {m : Rat} (h1 : gain odds sights k g ≤ m) (h2 : g ≠ 0 → m ≤ gain odds sights k (g - 1)) : stay odds sights k c ≥ stay odds sights k g + ((g : Rat) - (c : Rat)) * m := by
  rcases Nat.le_total g c with h | h
  · obtain ⟨d, rfl⟩ : ∃ d, c = g + d := ⟨c - g, by omega⟩
    have := stay_up S hk g h1 d
    rw [Rat.natCast_add]
    grind
  · obtain ⟨d, rfl⟩ : ∃ d, g = c + d := ⟨g - c, by omega⟩
    have := stay_down S hk c (m := m) d (fun z => h2 (by omega))
    rw [Rat.natCast_add]
    grind
omit S in
theorem lf_stay (plan : List Int) (k : Nat) : lf odds sights plan k = stay odds sights k (plan.count (k : Int)) := rfl
omit S in
theorem worth_gain (plan : List Int) (k : Nat) : worth odds sights plan k = gain odds sights k (plan.count (k : Int)) := rfl
/-- what an eager plan keeps -/
theorem eager : ∀ L, ∀ i, i < odds.length → (gp odds sights L).count (i : Int) ≠ 0 → ∀ k, k < odds.length → gain odds sights k ((gp odds sights L).count (k : Int)) ≤ gain odds sights i ((gp odds sights L).count (i : Int) - 1)
  | 0, i, _, h, _, _ => by simp [gp] at h
  | L + 1, i, hi, h, k, hk => by
    have bl := look_lt S (gp odds sights L)
    have best := look_best S (gp odds sights L) hk
    rw [worth_gain, worth_gain] at best
    have ih := eager L i hi
    have e : gp odds sights (L + 1) = gp odds sights L ++ [(look odds sights (gp odds sights L) : Int)] := rfl
    rw [e, count_snoc] at h ⊢
    rw [count_snoc]
    generalize gp odds sights L = P at *
    generalize hb : look odds sights P = b at *
    have mono : gain odds sights k (P.count (k : Int) + if (b : Int) = (k : Int) then 1 else 0) ≤ gain odds sights k (P.count (k : Int)) := gain_le S hk _ _
    refine Rat.le_trans mono ?_
    by_cases z : b = i
    · subst z
      rw [if_pos rfl, Nat.add_sub_cancel]
      exact best
    · rw [if_neg (by omega), Nat.add_zero] at h ⊢
      exact ih h k hk
omit S in
theorem sm_ge {f g : Nat → Rat} {a b : Nat → Rat} {m : Rat} : ∀ {n : Nat}, (∀ k, k < n → f k ≥ g k + (a k - b k) * m) → sm f n ≥ sm g n + (sm a n - sm b n) * m
  | 0, _ => by show (0 : Rat) ≥ 0 + (0 - 0) * m; grind
  | n + 1, h => by
    have ih := sm_ge (n := n) fun k hk => h k (by omega)
    have := h n (by omega)
    show sm f n + f n ≥ sm g n + g n + (sm a n + a n - (sm b n + b n)) * m
    grind
omit S in
theorem sm_one {x : Int} : ∀ {n : Nat}, sm (fun k => if x = (k : Int) then 1 else 0) n = if 0 ≤ x ∧ x < n then 1 else 0
  | 0 => by rw [if_neg (by omega)]; rfl
  | n + 1 => by
    show sm (fun k => if x = (k : Int) then 1 else 0) n + (if x = (n : Int) then 1 else 0) = _
    rw [sm_one]
    by_cases z : x = n
    · rw [if_neg (by omega), if_pos z, if_pos (by omega)]; exact Rat.zero_add 1
    · rw [if_neg z]
      by_cases y : 0 ≤ x ∧ x < n
      · rw [if_pos y, if_pos (by omega)]; exact Rat.add_zero 1
      · rw [if_neg y, if_neg (by omega)]; exact Rat.add_zero 0
omit S in
theorem sm_add {f g : Nat → Rat} : ∀ {n : Nat}, sm (fun k => f k + g k) n = sm f n + sm g n
  | 0 => (Rat.add_zero 0).symm
  | n + 1 => by
    show sm _ n + (f n + g n) = sm f n + f n + (sm g n + g n)
    rw [sm_add]
    grind
omit S in
theorem sm_zero : ∀ n : Nat, sm (fun _ => 0) n = 0
  | 0 => rfl
  | n + 1 => by show sm _ n + 0 = 0; rw [sm_zero n]; exact Rat.add_zero 0
omit S in
/-- all looks, square by square -/
theorem sm_count {n : Nat} : ∀ {plan : List Int}, (∀ x ∈ plan, 0 ≤ x ∧ x < n) → sm (fun k => ((plan.count (k : Int) : Nat) : Rat)) n = (plan.length : Rat)
  | [], _ => by
    simp only [List.count_nil, List.length_nil]
    exact sm_zero n
  | x :: plan, h => by
    have ih := sm_count (n := n) (plan := plan) fun y hy => h y (List.mem_cons_of_mem _ hy)
    have hx := h x List.mem_cons_self
    have e : sm (fun k => (((x :: plan).count (k : Int) : Nat) : Rat)) n = sm (fun k => ((plan.count (k : Int) : Nat) : Rat) + if x = (k : Int) then 1 else 0) n := sm_congr fun k _ => by
      rw [List.count_cons]
      by_cases z : x = (k : Int)
      · rw [if_pos z, if_pos (by simpa using z)]
        exact Rat.natCast_add _ 1
      · rw [if_neg z, if_neg (by simpa using z), Nat.add_zero, Rat.add_zero]
    rw [e, sm_add, ih, sm_one, if_pos hx, List.length_cons]
    exact (Rat.natCast_add _ 1).symm
theorem no_better {L : Nat} {plan : List Int} (hp : ∀ x ∈ plan, 0 ≤ x ∧ x < odds.length) (hl : plan.length = L) : ¬ chance odds sights (gp odds sights L) < chance odds sights plan := by
  have key : lost odds sights plan ≥ lost odds sights (gp odds sights L) + ((((gp odds sights L).length : Nat) : Rat) - (plan.length : Rat)) * gain odds sights (look odds sights (gp odds sights L)) ((gp odds sights L).count (look odds sights (gp odds sights L) : Int)) := by
    have := sm_ge (f := lf odds sights plan) (g := lf odds sights (gp odds sights L)) (a := fun k => (((gp odds sights L).count (k : Int) : Nat) : Rat)) (b := fun k => ((plan.count (k : Int) : Nat) : Rat)) (m := gain odds sights (look odds sights (gp odds sights L)) ((gp odds sights L).count (look odds sights (gp odds sights L) : Int))) (n := odds.length) (fun k hk => by
      rw [lf_stay, lf_stay]
      exact stay_any S hk _ _ (look_best S (gp odds sights L) hk) (fun z => eager S L k hk z _ (look_lt S _)))
    rw [sm_count (gp_in S L), sm_count hp] at this
    exact this
  rw [gp_len, hl] at key
  unfold chance
  grind
end
/-! ### the mean of looks -/
def meanQ (odds : List Int) (sights : List (Int × Int)) (plan : List Int) : Nat → Rat := sm fun k => 1 - chance odds sights (plan.take k)
section
variable {odds : List Int} {sights : List (Int × Int)} (S : Set' odds sights)
include S
theorem un_fq {plan : List Int} (hl : plan.length ≤ 4) (k : Nat) : Fq (1 * (1 * (12 * 4 ^ 4) ^ 3)) (1 + (1 + 3 * (1 * 2 ^ 4))) (1 - chance odds sights (plan.take k)) :=
  fq_one.sub (fq_one.sub ((sm_fq fun j hj => lf_fq S hj (m := 4) (by rw [List.length_take]; omega)).le (pw_le S.n3 (by decide)) (Nat.mul_le_mul_right _ S.n3)))
theorem mean_fq {plan : List Int} (hl : plan.length ≤ 4) {k : Nat} (hk : k ≤ 4) : Fq ((1 * (1 * (12 * 4 ^ 4) ^ 3)) ^ 4) (4 * (1 + (1 + 3 * (1 * 2 ^ 4)))) (meanQ odds sights plan k) :=
  (sm_fq fun j _ => un_fq S hl j).le (pw_le hk (by decide)) (Nat.mul_le_mul_right _ hk)
theorem take_in {plan : List Int} (hp : ∀ x ∈ plan, 0 ≤ x ∧ x < odds.length) (k : Nat) : ∀ x ∈ plan.take k, 0 ≤ x ∧ x < odds.length := fun x hx => hp x (List.mem_of_mem_take hx)
theorem mean_eq {plan : List Int} (hp : ∀ x ∈ plan, 0 ≤ x ∧ x < odds.length) (hl : plan.length ≤ 4) : m_mean_looks odds sights plan = some (qf (meanQ odds sights plan plan.length)) := by
  unfold m_mean_looks
  simp only [o_fromO, o_pure, o_bind]
  rw [range_nat (by omega), o_bind]
  have step := fold_range (n := plan.length) (f := fun (k_ : Int) (d_ : Int × Int) => (m_found_by odds sights (cutA plan none (some k_)) >>= fun v4 => m_minus ((1 : Int), (1 : Int)) v4 >>= fun v3 => m_plus d_ v3) >>= fun found_2 => some found_2) (fun m => qf (meanQ odds sights plan m)) (fun k hk => by
    have lt : (plan.take k).length ≤ 50 := by rw [List.length_take]; omega
    have f := chance_fq S lt
    have g := un_fq S hl k
    have h := mean_fq S hl (k := k) (by omega)
    have mm := qminus (x := 1) (y := chance odds sights (plan.take k)) (bw_big (Nat.le_trans fq_one.m (by decide))) (bw_big (Nat.le_trans f.m (by decide))) (bw_big (Nat.le_trans fq_one.d (by decide))) (bw_big (Nat.le_trans f.d (by decide))) (bw_big (Nat.le_trans (Nat.mul_le_mul fq_one.d f.d) (by decide)))
    rw [qf_one] at mm
    rw [cut_to, found_eq S (take_in S hp k) lt, o_bind, d_minus, mm, o_bind, d_plus, qplus (bw_big (Nat.le_trans h.m (by decide))) (bw_big (Nat.le_trans g.m (by decide))) (bw_big (Nat.le_trans h.d (by decide))) (bw_big (Nat.le_trans g.d (by decide))) (bw_big (Nat.le_trans (Nat.mul_le_mul h.d g.d) (by decide))), o_bind]
    rfl)
  have e0 : qf (meanQ odds sights plan 0) = ((0 : Int), (1 : Int)) := rfl
  rw [e0] at step
  rw [o_go step]
theorem lawMean_eq {plan : List Int} (hp : ∀ x ∈ plan, 0 ≤ x ∧ x < odds.length) (hl : plan.length ≤ 4) : foldL (m := Option) (fun (k_4 : Int) (d_3 : Int × Int) => (m__law_chance odds sights (cutA plan none (some k_4)) >>= fun v28 => m__law_less ((1 : Int), (1 : Int)) v28 >>= fun v27 => m__law_add d_3 v27) >>= fun mean_2 => some mean_2) (rangeL 0 plan.length) ((0 : Int), (1 : Int)) = some (qf (meanQ odds sights plan plan.length)) := by
  have step := fold_range (n := plan.length) (f := fun (k_4 : Int) (d_3 : Int × Int) => (m__law_chance odds sights (cutA plan none (some k_4)) >>= fun v28 => m__law_less ((1 : Int), (1 : Int)) v28 >>= fun v27 => m__law_add d_3 v27) >>= fun mean_2 => some mean_2) (fun m => qf (meanQ odds sights plan m)) (fun k hk => by
    have lt : (plan.take k).length ≤ 9 := by rw [List.length_take]; omega
    have f := chance_fqL S lt
    have g := un_fq S hl k
    have h := mean_fq S hl (k := k) (by omega)
    have h3 : Fq ((1 * (1 * (12 * 4 ^ 4) ^ 3)) ^ 3) (4 * (1 + (1 + 3 * (1 * 2 ^ 4)))) (meanQ odds sights plan k) := (sm_fq fun j _ => un_fq S hl j).le (pw_le (by omega) (by decide)) (Nat.mul_le_mul_right _ (by omega))
    have mm := qlawLess (x := 1) (y := chance odds sights (plan.take k)) (bw_big (Nat.le_trans fq_one.m (by decide))) (bw_big (Nat.le_trans f.m (by decide))) (bw_big (Nat.le_trans fq_one.d (by decide))) (bw_big (Nat.le_trans f.d (by decide))) (bl_big (Nat.le_trans (Nat.mul_le_mul fq_one.d f.d) (by decide)))
    rw [qf_one] at mm
    rw [cut_to, lawChance_eq S (take_in S hp k) lt, o_bind, d_lless, mm, o_bind, d_ladd, qlawAdd (bw_big (Nat.le_trans h.m (by decide))) (bw_big (Nat.le_trans g.m (by decide))) (bw_big (Nat.le_trans h.d (by decide))) (bw_big (Nat.le_trans g.d (by decide))) (bl_big (Nat.le_trans (Nat.mul_le_mul h3.d g.d) (by decide))), o_bind]
    rfl)
  have e0 : qf (meanQ odds sights plan 0) = ((0 : Int), (1 : Int)) := rfl
  rw [e0] at step
  exact step
end
/-! ### all plans -/
def pl (n : Nat) : Nat → List (List Int)
  | 0 => [[]]
  | L + 1 => (pl n L).flatMap fun row => (rangeL 0 n).map fun x => row ++ [x]
theorem pl_in {n : Nat} : ∀ {L : Nat}, ∀ row ∈ pl n L, row.length = L ∧ ∀ x ∈ row, 0 ≤ x ∧ x < n
  | 0, row, h => by
    rw [List.mem_singleton.mp h]
    exact ⟨rfl, fun x hx => by cases hx⟩
  | L + 1, row, h => by
    obtain ⟨r, hr, h⟩ := List.mem_flatMap.mp h
    obtain ⟨x, hx, rfl⟩ := List.mem_map.mp h
    obtain ⟨a, b⟩ := pl_in r hr
    rw [mem_rangeL] at hx
    refine ⟨by rw [List.length_append, a]; rfl, fun y hy => ?_⟩
    rcases List.mem_append.mp hy with q | q
    · exact b y q
    · rw [List.mem_singleton.mp q]; omega
theorem pl_len {n : Nat} : ∀ L, (pl n L).length = n ^ L
  | 0 => rfl
  | L + 1 => by
    show ((pl n L).flatMap fun row => (rangeL 0 n).map fun x => row ++ [x]).length = _
    rw [List.length_flatMap]
    simp only [List.length_map, rangeL_len]
    rw [List.map_const', List.sum_replicate_nat, pl_len L, Nat.pow_succ]
section
variable {odds : List Int} {sights : List (Int × Int)} (S : Set' odds sights)
include S
theorem plans_eq {L : Nat} (hL : L ≤ 4) : foldL (m := Option) (fun (k_5 : Int) (d_5 : List Int × List (List Int)) => (m__law_next_look odds sights d_5.1 >>= fun v32 => catG d_5.1 [v32] >>= fun v33 => some (v33, ([] : List (List Int)))) >>= fun p_2 =>
    some d_5.2 >>= fun xs => foldL (fun row_ d_7 => (rangeG 0 (odds.length : Int) >>= fun v34 => compL (fun n_ => some true) (fun n_ => catG row_ [n_]) v34 >>= fun v36 => catG d_7 v36) >>= fun longer_ => some longer_) xs p_2.2 >>= fun d_8 =>
    some d_8 >>= fun plans_ => some (p_2.1, plans_)) (rangeL 0 L) (([] : List Int), [([] : List Int)]) = some (gp odds sights L, pl odds.length L) := by
  have n3 := S.n3
  have step := fold_range (n := L) (f := fun (k_5 : Int) (d_5 : List Int × List (List Int)) => (m__law_next_look odds sights d_5.1 >>= fun v32 => catG d_5.1 [v32] >>= fun v33 => some (v33, ([] : List (List Int)))) >>= fun p_2 =>
    some d_5.2 >>= fun xs => foldL (fun row_ d_7 => (rangeG 0 (odds.length : Int) >>= fun v34 => compL (fun n_ => some true) (fun n_ => catG row_ [n_]) v34 >>= fun v36 => catG d_7 v36) >>= fun longer_ => some longer_) xs p_2.2 >>= fun d_8 =>
    some d_8 >>= fun plans_ => some (p_2.1, plans_)) (fun m => (gp odds sights m, pl odds.length m)) (fun k hk => by
      have lk := gp_len (odds := odds) (sights := sights) k
      have plk := pl_len (n := odds.length) k
      have pk : odds.length ^ k ≤ 81 := Nat.le_trans (Nat.pow_le_pow_left n3 k) (Nat.le_trans (Nat.pow_le_pow_right (by decide) (by omega : k ≤ 4)) (by decide))
      show ((m__law_next_look odds sights (gp odds sights k) >>= _) >>= _) = _
      rw [next_eq S (gp_in S k) (by omega), o_bind, cat_some (by simp; omega), o_bind, o_bind, o_bind]
      rw [o_go (fold_flat (g := fun row => (rangeL 0 odds.length).map fun x => row ++ [x]) (B := 3) (fun row _ => by rw [List.length_map, rangeL_len]; exact n3) (fun row hrow acc ha => by
        have rl := (pl_in row hrow).1
        rw [range_nat (by omega), o_bind, comp_allS (q := fun x => row ++ [x]) (fun x _ => cat_some (by simp; omega)), o_bind, cat_some (by rw [List.length_map, rangeL_len]; omega), o_bind]) (by
        show 0 + (pl odds.length k).length * 3 ≤ 1000000
        omega)), o_bind]
      rfl)
  have e0 : (gp odds sights 0, pl odds.length 0) = (([] : List Int), [([] : List Int)]) := rfl
  rw [e0] at step
  exact step
end
/-! ### how many looks -/
section
variable {odds : List Int} {sights : List (Int × Int)} (S : Set' odds sights) {least : Int × Int} (hq : qf (rt least) = least) (hf : Fq 10 1 (rt least))
include S hq hf
theorem enough {L : Nat} (hL : L ≤ 45) : lessM (qf (chance odds sights (gp odds sights L))) least = some (decide (chance odds sights (gp odds sights L) < rt least)) := by
  have f := chance_fq S (plan := gp odds sights L) (by rw [gp_len]; omega)
  have := qless (x := chance odds sights (gp odds sights L)) (y := rt least) (bw_big (Nat.le_trans f.m (by decide))) (bw_big (Nat.le_trans hf.m (by decide))) (bw_big (Nat.le_trans f.d (by decide))) (bw_big (Nat.le_trans hf.d (by decide)))
  rw [hq] at this
  exact this
theorem looks_eq : m_looks_for odds sights least = some ((rangeL 0 41).find? fun x => !decide (chance odds sights (gp odds sights x.toNat) < rt least)) := by
  unfold m_looks_for
  simp only [o_fromO, o_pure, o_bind]
  rw [range_some (by decide), o_bind, show (41 - 0 : Int).toNat = 41 by decide]
  rw [o_go (loop_find (g := fun x : Int => if (!decide (chance odds sights (gp odds sights x.toNat) < rt least)) = true then some (some x) else none) (fun x hx => by
    obtain ⟨k, rfl, hk⟩ := mem_range0 hx
    rw [best_plan_eq S (by omega), o_bind, d_is_less, enough S hq hf (by omega), o_bind, o_bind, Int.toNat_natCast]
    cases decide (chance odds sights (gp odds sights k) < rt least) <;> rfl))]
  have : ∀ (p : Int → Bool) (xs : List Int), xs.findSome? (fun x => if p x = true then some (some x) else none) = (xs.find? p).map some := fun p xs => by
    induction xs with
    | nil => rfl
    | cons x xs ih =>
      rw [List.findSome?_cons, List.find?_cons]
      cases p x with
      | true => rfl
      | false => exact ih
  rw [this]
  cases (rangeL 0 41).find? fun x => !decide (chance odds sights (gp odds sights x.toNat) < rt least) <;> rfl
theorem lawLooks_eq : foldL (m := Option) (fun (k_6 : Int) (d_9 : Option Int × List Int) => ((if (isNon ((eOpt eInt) d_9.1)) = true then (m__law_chance odds sights d_9.2 >>= fun v49 => m__law_below v49 least >>= fun v48 => some (!v48)) else some false) >>= fun v50 => some (if v50 = true then some k_6 else d_9.1)) >>= fun found_ =>
    (m__law_next_look odds sights d_9.2 >>= fun v51 => catG d_9.2 [v51]) >>= fun own_2 => some (found_, own_2)) (rangeL 0 8) ((none : Option Int), ([] : List Int)) = some ((rangeL 0 8).find? (fun x => !decide (chance odds sights (gp odds sights x.toNat) < rt least)), gp odds sights 8) := by
  have step := fold_range (n := 8) (f := fun (k_6 : Int) (d_9 : Option Int × List Int) => ((if (isNon ((eOpt eInt) d_9.1)) = true then (m__law_chance odds sights d_9.2 >>= fun v49 => m__law_below v49 least >>= fun v48 => some (!v48)) else some false) >>= fun v50 => some (if v50 = true then some k_6 else d_9.1)) >>= fun found_ =>
    (m__law_next_look odds sights d_9.2 >>= fun v51 => catG d_9.2 [v51]) >>= fun own_2 => some (found_, own_2)) (fun m => ((rangeL 0 m).find? (fun x => !decide (chance odds sights (gp odds sights x.toNat) < rt least)), gp odds sights m)) (fun k hk => by
      have lk := gp_len (odds := odds) (sights := sights) k
      have e : rangeL 0 (k + 1) = rangeL 0 k ++ [(k : Int)] := by rw [rangeL_app 0 k 1, Int.zero_add]; rfl
      show ((if (isNon ((eOpt eInt) ((rangeL 0 k).find? (fun x => !decide (chance odds sights (gp odds sights x.toNat) < rt least))))) = true then (m__law_chance odds sights (gp odds sights k) >>= _) else some false) >>= _) >>= _ = _
      rw [lawChance_eq S (gp_in S k) (by omega), o_bind, d_below, enough S hq hf (by omega), o_bind]
      simp only []
      rw [next_eq S (gp_in S k) (by omega), o_bind, cat_some (by simp; omega), e, List.find?_append]
      cases (rangeL 0 k).find? (fun x => !decide (chance odds sights (gp odds sights x.toNat) < rt least)) with
      | some v => rfl
      | none =>
        show ((some (!decide (chance odds sights (gp odds sights k) < rt least))) >>= _) >>= _ = _
        rw [o_bind, o_bind, o_bind, List.find?_cons, Int.toNat_natCast]
        cases decide (chance odds sights (gp odds sights k) < rt least) <;> rfl)
  exact step
end
theorem told_ok (p : Int → Bool) : (if ((!isNon ((eOpt eInt) ((rangeL 0 8).find? p))) && (!decide ((rangeL 0 41).find? p = (rangeL 0 8).find? p))) = true then some true else (if (isNon ((eOpt eInt) ((rangeL 0 8).find? p))) = true then (if (!isNon ((eOpt eInt) ((rangeL 0 41).find? p))) = true then ((rangeL 0 41).find? p >>= fun v54 => some (decide (v54 < (8 : Int)))) else some false) else some false)) = some false := by
  have e : rangeL 0 41 = rangeL 0 8 ++ rangeL 8 33 := rangeL_app 0 8 33
  rw [e, List.find?_append]
  cases (rangeL 0 8).find? p with
  | some v => simp [isNon, eOpt]
  | none =>
    cases h : (rangeL 8 33).find? p with
    | none => rfl
    | some v =>
      have := mem_rangeL.mp (List.mem_of_find?_eq_some h)
      show (some v >>= fun v54 => some (decide (v54 < (8 : Int)))) = _
      rw [o_bind]
      congr 1
      exact decide_eq_false (by omega)
/-! ### orders -/
/-- the costs, the mean times all chances, order by order -/
def cum (costs : List Int) (pre : List Int) : Int := (pre.map fun k => costs.getD k.toNat 0).sum
def tot (odds costs : List Int) : List Int → Int → Int
  | [], _ => 0
  | k :: r, c => odds.getD k.toNat 0 * (c + costs.getD k.toNat 0) + tot odds costs r (c + costs.getD k.toNat 0)
structure Cost (odds costs : List Int) : Prop where
  len : costs.length = odds.length
  co : ∀ x ∈ costs, 1 ≤ x ∧ x ≤ 6
section
variable {odds costs : List Int} {sights : List (Int × Int)} (S : Set' odds sights) (Co : Cost odds costs)
include S Co
theorem co_at {k : Nat} (hk : k < odds.length) : L2.atI costs (k : Int) = some (costs.getD k 0) ∧ 1 ≤ costs.getD k 0 ∧ costs.getD k 0 ≤ 6 := by
  have hk' : k < costs.length := by rw [Co.len]; exact hk
  refine ⟨at_getD hk', Co.co _ (by rw [List.getD_eq_getElem?_getD, List.getElem?_eq_getElem hk']; exact List.getElem_mem hk')⟩
theorem nf_sumT {a b : Int} (ha : Bd 100000 a) (hb : Bd 100000 b) : lawAddM (nf a odds.sum) (nf b odds.sum) = some (nf (a + b) odds.sum) ∧ plusM (nf a odds.sum) (nf b odds.sum) = some (nf (a + b) odds.sum) := by
  have t1 := S.T1
  have t2 := S.T2
  have tb : Bd 12 odds.sum := Bd.of (by omega) (by omega)
  have e : nf (a * odds.sum + b * odds.sum) (odds.sum * odds.sum) = nf (a + b) odds.sum := by
    rw [← Int.add_mul]
    exact nf_scale (by omega) (by omega)
  rw [lawAddB (by omega) (by omega) (ha.le) (hb.le) ((tb.mul tb).le), plusB (by omega) (by omega) (ha.le) (hb.le) ((tb.mul tb).le), e]
  exact ⟨rfl, rfl⟩
/-- the law's mean -/
theorem lawOrd : ∀ (ord : List Int) (c a : Int), (∀ k ∈ ord, 0 ≤ k ∧ k < odds.length) → 0 ≤ c → c ≤ 100 → ord.length ≤ 4 → 0 ≤ a → a + ord.length * 1512 ≤ 50000 → c + ord.length * 6 ≤ 100 →
    foldL (m := Option) (fun (k_8 : Int) (d_13 : Int × (Int × Int)) => L2.atI costs k_8 >>= fun a_ => (L2.atI odds k_8 >>= fun v66 => mulG v66 (d_13.1 + a_) >>= fun v67 => m__law_frac v67 (List.sum odds) >>= fun v65 => m__law_add d_13.2 v65) >>= fun mean_3 => some ((d_13.1 + a_), mean_3)) ord (c, nf a odds.sum) = some (c + cum costs ord, nf (a + tot odds costs ord c) odds.sum)
  | [], c, a, _, _, _, _, _, _, _ => by
    show some (c, nf a odds.sum) = some (c + 0, nf (a + 0) odds.sum)
    rw [Int.add_zero, Int.add_zero]
  | k :: r, c, a, hp, c0, c1, hl, a0, ab, cb => by
    obtain ⟨k1, k2⟩ := hp k List.mem_cons_self
    obtain ⟨j, rfl⟩ : ∃ j : Nat, k = (j : Int) := ⟨k.toNat, by omega⟩
    have hj : j < odds.length := by omega
    obtain ⟨e1, e2, e3⟩ := co_at S Co hj
    obtain ⟨o1, o2⟩ := od_at S hj
    have t1 := S.T1
    have t2 := S.T2
    simp only [List.length_cons] at hl ab cb
    have ob : Bd 12 (odds.getD j 0) := Bd.of (by omega) (by omega)
    have cbd : Bd 126 (c + costs.getD j 0) := Bd.of (by omega) (by omega)
    have pb := ob.mul cbd
    have pn : 0 ≤ odds.getD j 0 * (c + costs.getD j 0) := Int.mul_nonneg o1 (by omega)
    have pu := pb.both.2
    refine (fold_go (e := (c + costs.getD j 0, nf (a + odds.getD j 0 * (c + costs.getD j 0)) odds.sum)) ?_).trans ?_
    · rw [e1, o_bind, at_getD hj, o_bind, mulB ob.le cbd.le, o_bind, d_lfrac, lawFracB (by omega) (Bd.of (by omega) (by omega)), o_bind, d_ladd, (nf_sumT S Co (Bd.of (by omega) (by omega)) (Bd.of (by omega) (by omega))).1, o_bind]
    · rw [lawOrd r _ _ (fun x hx => hp x (List.mem_cons_of_mem _ hx)) (by omega) (by omega) (by omega) (by omega) (by omega) (by omega)]
      congr 1
      refine Prod.ext ?_ ?_
      · show c + costs.getD j 0 + cum costs r = c + cum costs ((j : Int) :: r)
        unfold cum
        rw [List.map_cons, List.sum_cons, Int.toNat_natCast]
        omega
      · show nf (a + odds.getD j 0 * (c + costs.getD j 0) + tot odds costs r (c + costs.getD j 0)) odds.sum = nf (a + tot odds costs ((j : Int) :: r) c) odds.sum
        rw [tot, Int.toNat_natCast, Int.add_assoc]
/-- the program's mean -/
theorem progOrd : ∀ (ord : List Int) (c a : Int), (∀ k ∈ ord, 0 ≤ k ∧ k < odds.length) → 0 ≤ c → c ≤ 100 → ord.length ≤ 4 → 0 ≤ a → a + ord.length * 1512 ≤ 50000 → c + ord.length * 6 ≤ 100 →
    foldL (m := Option) (fun (k_3 : Int) (d_5 : Int × (Int × Int)) => L2.atI costs k_3 >>= fun a_ => (L2.atI ((List.range odds.length).map fun k => qf (ch odds k)) k_3 >>= fun v16 => m_times v16 ((d_5.1 + a_), (1 : Int)) >>= fun v15 => m_plus d_5.2 v15) >>= fun mean_ => some ((d_5.1 + a_), mean_)) ord (c, nf a odds.sum) = some (c + cum costs ord, nf (a + tot odds costs ord c) odds.sum)
  | [], c, a, _, _, _, _, _, _, _ => by
    show some (c, nf a odds.sum) = some (c + 0, nf (a + 0) odds.sum)
    rw [Int.add_zero, Int.add_zero]
  | k :: r, c, a, hp, c0, c1, hl, a0, ab, cb => by
    obtain ⟨k1, k2⟩ := hp k List.mem_cons_self
    obtain ⟨j, rfl⟩ : ∃ j : Nat, k = (j : Int) := ⟨k.toNat, by omega⟩
    have hj : j < odds.length := by omega
    obtain ⟨e1, e2, e3⟩ := co_at S Co hj
    obtain ⟨o1, o2⟩ := od_at S hj
    have t1 := S.T1
    have t2 := S.T2
    simp only [List.length_cons] at hl ab cb
    have ob : Bd 12 (odds.getD j 0) := Bd.of (by omega) (by omega)
    have cbd : Bd 126 (c + costs.getD j 0) := Bd.of (by omega) (by omega)
    have pb := ob.mul cbd
    have pn : 0 ≤ odds.getD j 0 * (c + costs.getD j 0) := Int.mul_nonneg o1 (by omega)
    have pu := pb.both.2
    have tm := timesB (a := odds.getD j 0) (b := odds.sum) (c := c + costs.getD j 0) (d := 1) (by omega) (by omega) ob.le cbd.le (Bd.of (by omega) (by omega))
    rw [nf_one, Int.mul_one, nf_qf _ (by omega : odds.sum ≠ 0)] at tm
    refine (fold_go (e := (c + costs.getD j 0, nf (a + odds.getD j 0 * (c + costs.getD j 0)) odds.sum)) ?_).trans ?_
    · have tm' : m_times (qf (ch odds j)) (c + costs.getD j 0, 1) = some (nf (odds.getD j 0 * (c + costs.getD j 0)) odds.sum) := tm
      rw [e1, o_bind, map_at _ hj, o_bind, tm', o_bind, d_plus, (nf_sumT S Co (Bd.of (by omega) (by omega)) (Bd.of (by omega) (by omega))).2, o_bind]
    · rw [progOrd r _ _ (fun x hx => hp x (List.mem_cons_of_mem _ hx)) (by omega) (by omega) (by omega) (by omega) (by omega) (by omega)]
      congr 1
      refine Prod.ext ?_ ?_
      · show c + costs.getD j 0 + cum costs r = c + cum costs ((j : Int) :: r)
        unfold cum
        rw [List.map_cons, List.sum_cons, Int.toNat_natCast]
        omega
      · show nf (a + odds.getD j 0 * (c + costs.getD j 0) + tot odds costs r (c + costs.getD j 0)) odds.sum = nf (a + tot odds costs ((j : Int) :: r) c) odds.sum
        rw [tot, Int.toNat_natCast, Int.add_assoc]
end
/-! ### the program's order -/
/-- one is worth less than another -/
def lt2 (odds costs : List Int) (i j : Int) : Bool := decide (odds.getD i.toNat 0 * costs.getD j.toNat 0 < odds.getD j.toNat 0 * costs.getD i.toNat 0)
def eq2 (odds costs : List Int) (i j : Int) : Bool := decide (odds.getD i.toNat 0 * costs.getD j.toNat 0 = odds.getD j.toNat 0 * costs.getD i.toNat 0)
def pickO (L : Int → Int → Bool) (left : List Int) : Int := left.foldl (fun b k => if L b k = true then k else b) (left.headD 0)
def selO (L : Int → Int → Bool) : Nat → List Int → List Int
  | 0, _ => []
  | m + 1, left => if left = [] then [] else pickO L left :: selO L m (left.filter fun k => !decide (k = pickO L left))
theorem pickO_in (L : Int → Int → Bool) {left : List Int} (h : left ≠ []) : pickO L left ∈ left := by
  have : ∀ (xs : List Int) (b : Int), xs.foldl (fun b k => if L b k = true then k else b) b ∈ b :: xs := by
    intro xs
    induction xs with
    | nil => intro b; simp
    | cons x xs ih =>
      intro b
      rw [List.foldl_cons]
      split
      · have := ih x
        exact List.mem_cons_of_mem _ this
      · have := ih b
        rcases List.mem_cons.mp this with q | q
        · rw [q]; simp
        · exact List.mem_cons_of_mem _ (List.mem_cons_of_mem _ q)
  cases left with
  | nil => exact absurd rfl h
  | cons x xs =>
    have := this (x :: xs) x
    unfold pickO
    rcases List.mem_cons.mp this with q | q
    · show List.foldl _ x (x :: xs) ∈ _
      rw [q]; simp
    · exact q
theorem filter_lt {left : List Int} {b : Int} (h : b ∈ left) : (left.filter fun k => !decide (k = b)).length < left.length := by
  rcases Nat.lt_or_ge (left.filter fun k => !decide (k = b)).length left.length with z | z
  · exact z
  · have e := List.length_filter_eq_length_iff.mp (Nat.le_antisymm (List.length_filter_le _ _) z)
    have := e b h
    simp at this
theorem selO_more (L : Int → Int → Bool) : ∀ (m : Nat) (left : List Int), left.length ≤ m → selO L m left = selO L left.length left
  | 0, left, h => by
    have : left = [] := List.length_eq_zero_iff.mp (by omega)
    subst this
    rfl
  | m + 1, left, h => by
    cases hl : left.length with
    | zero =>
      have : left = [] := List.length_eq_zero_iff.mp hl
      subst this
      rfl
    | succ j =>
      have ne : left ≠ [] := fun z => by rw [z] at hl; cases hl
      have fl := filter_lt (pickO_in L ne)
      show (if left = [] then [] else _) = (if left = [] then [] else _)
      rw [if_neg ne, if_neg ne, selO_more L m _ (by omega), selO_more L j _ (by omega)]
section
variable {odds costs : List Int} {sights : List (Int × Int)} (S : Set' odds sights) (Co : Cost odds costs)
include S Co
theorem tim {i j : Nat} (hi : i < odds.length) (hj : j < odds.length) : m_times (qf (ch odds i)) (costs.getD j 0, 1) = some (nf (odds.getD i 0 * costs.getD j 0) odds.sum) := by
  obtain ⟨o1, o2⟩ := od_at S hi
  obtain ⟨_, e2, e3⟩ := co_at S Co hj
  have t1 := S.T1
  have t2 := S.T2
  have tm := timesB (a := odds.getD i 0) (b := odds.sum) (c := costs.getD j 0) (d := 1) (by omega) (by omega) (Bd.of (n := 12) (by omega) (by omega)).le (Bd.of (n := 6) (by omega) (by omega)).le (Bd.of (by omega) (by omega))
  rw [nf_one, Int.mul_one, nf_qf _ (by omega : odds.sum ≠ 0)] at tm
  exact tm
theorem cmp {i j : Nat} (hi : i < odds.length) (hj : j < odds.length) : lessM (nf (odds.getD i 0 * costs.getD j 0) odds.sum) (nf (odds.getD j 0 * costs.getD i 0) odds.sum) = some (lt2 odds costs i j) := by
  obtain ⟨o1, o2⟩ := od_at S hi
  obtain ⟨p1, p2⟩ := od_at S hj
  obtain ⟨_, e2, e3⟩ := co_at S Co hj
  obtain ⟨_, f2, f3⟩ := co_at S Co hi
  have t1 := S.T1
  have t2 := S.T2
  have b1 : Bd 72 (odds.getD i 0 * costs.getD j 0) := (Bd.of (n := 12) (by omega) (by omega)).mul (Bd.of (n := 6) (by omega) (by omega))
  have b2 : Bd 72 (odds.getD j 0 * costs.getD i 0) := (Bd.of (n := 12) (by omega) (by omega)).mul (Bd.of (n := 6) (by omega) (by omega))
  have tb : Bd 12 odds.sum := Bd.of (by omega) (by omega)
  rw [lessB (by omega) (by omega) b1.le b2.le ((tb.mul tb).le)]
  unfold lt2
  simp only [Int.toNat_natCast]
  congr 1
  exact decide_eq_decide.mpr ⟨fun h => Int.lt_of_mul_lt_mul_right h (by omega), fun h => Int.mul_lt_mul_of_pos_right h (by omega)⟩
theorem pick_eq {left : List Int} (hl : ∀ k ∈ left, 0 ≤ k ∧ k < odds.length) (ne : left ≠ []) : (L2.atI left (0 : Int) >>= fun best_ => foldL (m := Option) (fun (k_ d_3 : Int) => (L2.atI ((List.range odds.length).map fun k => qf (ch odds k)) d_3 >>= fun v6 => L2.atI costs k_ >>= fun v7 => m_times v6 (v7, (1 : Int)) >>= fun v5 => L2.atI ((List.range odds.length).map fun k => qf (ch odds k)) k_ >>= fun v9 => L2.atI costs d_3 >>= fun v10 => m_times v9 (v10, (1 : Int)) >>= fun v8 => m_is_less v5 v8 >>= fun v4 => some (if v4 = true then k_ else d_3)) >>= fun best_2 => some best_2) left best_) = some (pickO (lt2 odds costs) left) := by
  obtain ⟨x, xs, rfl⟩ : ∃ x xs, left = x :: xs := by cases left with | nil => exact absurd rfl ne | cons x xs => exact ⟨x, xs, rfl⟩
  rw [at0, o_bind]
  refine (fold_some (g := fun b k => if lt2 odds costs b k = true then k else b) (fun b => 0 ≤ b ∧ b < odds.length) (hl x List.mem_cons_self) fun k hk b hb => ?_).1
  obtain ⟨k1, k2⟩ := hl k hk
  obtain ⟨i, rfl⟩ : ∃ i : Nat, k = (i : Int) := ⟨k.toNat, by omega⟩
  obtain ⟨j, rfl⟩ : ∃ j : Nat, b = (j : Int) := ⟨b.toNat, by omega⟩
  have hi : i < odds.length := by omega
  have hj : j < odds.length := by omega
  refine ⟨?_, ?_⟩
  · rw [map_at _ hj, o_bind, (co_at S Co hi).1, o_bind, tim S Co hj hi, o_bind, map_at _ hi, o_bind, (co_at S Co hj).1, o_bind, tim S Co hi hj, o_bind, d_is_less, cmp S Co hj hi, o_bind, o_bind]
  · split
    · exact ⟨k1, k2⟩
    · exact hb
theorem order_eq : m_order_of odds costs = some (nf (tot odds costs (selO (lt2 odds costs) odds.length (rangeL 0 odds.length)) 0) odds.sum, selO (lt2 odds costs) odds.length (rangeL 0 odds.length)) := by
  have n3 := S.n3
  have t1 := S.T1
  unfold m_order_of
  simp only [o_fromO, o_pure]
  rw [chances_eq S, o_bind, range_nat (by omega), o_bind, o_bind]
  generalize hall : selO (lt2 odds costs) odds.length (rangeL 0 odds.length) = all
  obtain ⟨r, er, ⟨ri, rl, rn⟩, rc⟩ := whileM_inv (c := fun d_ : List Int × List Int => some (!decide (d_.1 = []))) (b := fun d_ : List Int × List Int => L2.atI d_.1 (0 : Int) >>= fun best_ =>
      some d_.1 >>= fun xs => foldL (m := Option) (fun (k_ d_3 : Int) => (L2.atI ((List.range odds.length).map fun k => qf (ch odds k)) d_3 >>= fun v6 => L2.atI costs k_ >>= fun v7 => m_times v6 (v7, (1 : Int)) >>= fun v5 => L2.atI ((List.range odds.length).map fun k => qf (ch odds k)) k_ >>= fun v9 => L2.atI costs d_3 >>= fun v10 => m_times v9 (v10, (1 : Int)) >>= fun v8 => m_is_less v5 v8 >>= fun v4 => some (if v4 = true then k_ else d_3)) >>= fun best_2 => some best_2) xs best_ >>= fun d_4 =>
      (compL (fun k_2 => some (!decide (k_2 = d_4))) (fun k_2 => some k_2) d_.1 >>= fun v11 => catG d_.2 [d_4] >>= fun v12 => some (v11, v12)) >>= fun p_2 => some (p_2.1, p_2.2))
    (fun d => d.2 ++ selO (lt2 odds costs) d.1.length d.1 = all ∧ (∀ k ∈ d.1 ++ d.2, 0 ≤ k ∧ k < odds.length) ∧ d.1.length + d.2.length ≤ odds.length) (fun d => d.1.length) (d := (rangeL 0 odds.length, [])) (fun d ⟨i1, i2, i3⟩ => by
      obtain ⟨left, ord⟩ := d
      simp only at i1 i2 i3
      refine ⟨!decide (left = []), rfl, fun z => ?_⟩
      have ne : left ≠ [] := by simpa using z
      have hp := pick_eq S Co (left := left) (fun k hk => i2 k (List.mem_append_left _ hk)) ne
      have pin := pickO_in (lt2 odds costs) ne
      have fl := filter_lt pin
      obtain ⟨x, xs, hx⟩ : ∃ x xs, left = x :: xs := by cases left with | nil => exact absurd rfl ne | cons x xs => exact ⟨x, xs, rfl⟩
      have hd : L2.atI left (0 : Int) = some x := by rw [hx]; exact at0 x xs
      rw [hd, o_bind] at hp
      refine ⟨(left.filter fun k => !decide (k = pickO (lt2 odds costs) left), ord ++ [pickO (lt2 odds costs) left]), ?_, ⟨?_, ?_, ?_⟩, fl⟩
      · show (L2.atI left (0 : Int) >>= _) = _
        rw [hd, o_bind, o_bind, hp, o_bind, comp_some (p := fun k => !decide (k = pickO (lt2 odds costs) left)) (q := fun x => x) (fun _ _ => rfl) (fun _ _ _ => rfl), List.map_id', o_bind, cat_some (by simp; omega), o_bind, o_bind]
      · show (ord ++ [pickO (lt2 odds costs) left]) ++ selO (lt2 odds costs) (left.filter fun k => !decide (k = pickO (lt2 odds costs) left)).length (left.filter fun k => !decide (k = pickO (lt2 odds costs) left)) = all
        rw [← i1, List.append_assoc]
        congr 1
        have : left.length = (left.length - 1) + 1 := by rw [hx]; simp
        rw [this]
        show _ = (if left = [] then [] else _)
        rw [if_neg ne, selO_more _ (left.length - 1) _ (by omega)]
        rfl
      · intro k hk
        rcases List.mem_append.mp hk with q | q
        · exact i2 k (List.mem_append_left _ (List.mem_filter.mp q).1)
        · rcases List.mem_append.mp q with q | q
          · exact i2 k (List.mem_append_right _ q)
          · rw [List.mem_singleton.mp q]
            exact i2 _ (List.mem_append_left _ pin)
      · show (left.filter fun k => !decide (k = pickO (lt2 odds costs) left)).length + (ord ++ [pickO (lt2 odds costs) left]).length ≤ odds.length
        rw [List.length_append, List.length_singleton]
        omega) ⟨by rw [List.nil_append, rangeL_len]; exact hall, fun k hk => by
        rw [List.append_nil] at hk
        have := mem_rangeL.mp hk
        omega, by rw [rangeL_len]; simp⟩
  rw [er, o_bind]
  have r1 : r.1 = [] := by simpa using rc
  rw [r1] at ri
  have r2 : r.2 = all := by
    have : selO (lt2 odds costs) ([] : List Int).length [] = [] := rfl
    rw [this, List.append_nil] at ri
    exact ri
  rw [r1, r2, List.length_nil, Nat.zero_add] at rn
  rw [r2] at rl
  have z : nf 0 odds.sum = ((0 : Int), (1 : Int)) := nf_zero (by omega)
  have pm := progOrd S Co all 0 0 (fun k hk => rl k (List.mem_append_right _ hk)) (by omega) (by omega) (by omega) (by omega) (by omega) (by omega)
  rw [z, Int.zero_add, Int.zero_add] at pm
  rw [r2, o_bind, o_bind, o_go pm]
end
/-! ### the law's orders -/
def fallsL (odds costs ord : List Int) : List Int := (rangeL 1 (odds.length - 1)).filter fun i => lt2 odds costs (ord.getD (i - 1).toNat 0) (ord.getD i.toNat 0)
def evenL (odds costs ord : List Int) : List Int := (rangeL 1 (odds.length - 1)).filter fun i => eq2 odds costs (ord.getD (i - 1).toNat 0) (ord.getD i.toNat 0) && decide (ord.getD i.toNat 0 < ord.getD (i - 1).toNat 0)
def okO (odds costs ord : List Int) : Bool := decide (fallsL odds costs ord = []) && decide (evenL odds costs ord = [])
section
variable {odds costs : List Int} {sights : List (Int × Int)} (S : Set' odds sights) (Co : Cost odds costs)
include S Co
theorem ord_at {ord : List Int} (ho : ord.length = odds.length) (hi : ∀ k ∈ ord, 0 ≤ k ∧ k < odds.length) {i : Int} (h : 0 ≤ i ∧ i < odds.length) : L2.atI ord i = some (ord.getD i.toNat 0) ∧ 0 ≤ ord.getD i.toNat 0 ∧ ord.getD i.toNat 0 < odds.length := by
  obtain ⟨j, rfl⟩ : ∃ j : Nat, i = (j : Int) := ⟨i.toNat, by omega⟩
  have hj : j < ord.length := by omega
  rw [Int.toNat_natCast]
  refine ⟨at_getD hj, hi _ ?_⟩
  rw [List.getD_eq_getElem?_getD, List.getElem?_eq_getElem hj]
  exact List.getElem_mem hj
theorem mul_oc {i j : Int} (hi : 0 ≤ i ∧ i < odds.length) (hj : 0 ≤ j ∧ j < odds.length) : L2.atI odds i = some (odds.getD i.toNat 0) ∧ L2.atI costs j = some (costs.getD j.toNat 0) ∧ mulG (odds.getD i.toNat 0) (costs.getD j.toNat 0) = some (odds.getD i.toNat 0 * costs.getD j.toNat 0) := by
  obtain ⟨a, rfl⟩ : ∃ a : Nat, i = (a : Int) := ⟨i.toNat, by omega⟩
  obtain ⟨b, rfl⟩ : ∃ b : Nat, j = (b : Int) := ⟨j.toNat, by omega⟩
  have ha : a < odds.length := by omega
  have hb : b < odds.length := by omega
  obtain ⟨o1, o2⟩ := od_at S ha
  obtain ⟨e1, e2, e3⟩ := co_at S Co hb
  simp only [Int.toNat_natCast]
  exact ⟨at_getD ha, e1, mulB (Bd.of (by omega) (by omega)) (Bd.of (by omega) (by omega))⟩
/-- one turn of the law's walk over the orders -/
theorem turn_eq {ord : List Int} (ho : ord.length = odds.length) (hi : ∀ k ∈ ord, 0 ≤ k ∧ k < odds.length) (d_11 : (Int × Int) × List (Int × Int) × Option ((Int × Int) × List Int)) (hd : d_11.2.1.length ≤ 1000) :
    (some ((0 : Int), ((0 : Int), (1 : Int))) >>= fun p_5 =>
    some ord >>= fun xs => foldL (m := Option) (fun (k_8 : Int) (d_13 : Int × (Int × Int)) => L2.atI costs k_8 >>= fun a_ => (L2.atI odds k_8 >>= fun v66 => mulG v66 (d_13.1 + a_) >>= fun v67 => m__law_frac v67 (List.sum odds) >>= fun v65 => m__law_add d_13.2 v65) >>= fun mean_3 => some ((d_13.1 + a_), mean_3)) xs (p_5.1, p_5.2) >>= fun d_14 =>
    some d_14.2 >>= fun a => appG d_11.2.1 a >>= fun means_2 =>
    (rangeG (1 : Int) (odds.length : Int) >>= fun v68 => compL (fun n_2 => L2.atI ord (n_2 - (1 : Int)) >>= fun v69 => L2.atI odds v69 >>= fun v70 => L2.atI ord n_2 >>= fun v71 => L2.atI costs v71 >>= fun v72 => mulG v70 v72 >>= fun v73 => L2.atI ord n_2 >>= fun v74 => L2.atI odds v74 >>= fun v75 => L2.atI ord (n_2 - (1 : Int)) >>= fun v76 => L2.atI costs v76 >>= fun v77 => mulG v75 v77 >>= fun v78 => some (decide (v73 < v78))) (fun n_2 => some n_2) v68) >>= fun falls_ =>
    (rangeG (1 : Int) (odds.length : Int) >>= fun v79 => compL (fun n_3 => L2.atI ord (n_3 - (1 : Int)) >>= fun v80 => L2.atI odds v80 >>= fun v81 => L2.atI ord n_3 >>= fun v82 => L2.atI costs v82 >>= fun v83 => mulG v81 v83 >>= fun v84 => L2.atI ord n_3 >>= fun v85 => L2.atI odds v85 >>= fun v86 => L2.atI ord (n_3 - (1 : Int)) >>= fun v87 => L2.atI costs v87 >>= fun v88 => mulG v86 v88 >>= fun v89 => (if (decide (v84 = v89)) = true then (L2.atI ord (n_3 - (1 : Int)) >>= fun v90 => L2.atI ord n_3 >>= fun v91 => some (decide (v91 < v90))) else some false)) (fun n_3 => some n_3) v79) >>= fun even_ =>
    some (if ((decide (falls_ = [])) && (decide (even_ = []))) = true then some (d_14.2, ord) else d_11.2.2) >>= fun best_ => some (d_14.2, means_2, best_)) =
    some (nf (tot odds costs ord 0) odds.sum, d_11.2.1 ++ [nf (tot odds costs ord 0) odds.sum], if okO odds costs ord = true then some (nf (tot odds costs ord 0) odds.sum, ord) else d_11.2.2) := by
  have n1 := S.n1
  have n3 := S.n3
  have t1 := S.T1
  have z : nf 0 odds.sum = ((0 : Int), (1 : Int)) := nf_zero (by omega)
  have pm := lawOrd S Co ord 0 0 hi (by omega) (by omega) (by omega) (by omega) (by omega) (by omega)
  rw [z, Int.zero_add, Int.zero_add] at pm
  have cnt : ((odds.length : Int) - 1).toNat = odds.length - 1 := by omega
  rw [o_bind, o_bind, o_go pm, o_bind, app_some (by omega), o_bind, range_some (by omega), o_bind, cnt]
  rw [comp_some (p := fun i => lt2 odds costs (ord.getD (i - 1).toNat 0) (ord.getD i.toNat 0)) (q := fun x => x) (fun i hi' => ?_) (fun _ _ _ => rfl), List.map_id', o_bind, o_bind]
  · rw [comp_some (p := fun i => eq2 odds costs (ord.getD (i - 1).toNat 0) (ord.getD i.toNat 0) && decide (ord.getD i.toNat 0 < ord.getD (i - 1).toNat 0)) (q := fun x => x) (fun i hi' => ?_) (fun _ _ _ => rfl), List.map_id', o_bind, o_bind]
    · rfl
    · have hr := mem_rangeL.mp hi'
      obtain ⟨a1, a2⟩ := ord_at S Co ho hi (i := i - 1) (by omega)
      obtain ⟨b1, b2⟩ := ord_at S Co ho hi (i := i) (by omega)
      obtain ⟨m1, m2, m3⟩ := mul_oc S Co a2 b2
      obtain ⟨k1, k2, k3⟩ := mul_oc S Co b2 a2
      rw [a1, o_bind, m1, o_bind, b1, o_bind, m2, o_bind, m3, o_bind, o_bind, k1, o_bind, o_bind, k2, o_bind, k3, o_bind]
      unfold eq2
      by_cases e : odds.getD (ord.getD (i - 1).toNat 0).toNat 0 * costs.getD (ord.getD i.toNat 0).toNat 0 = odds.getD (ord.getD i.toNat 0).toNat 0 * costs.getD (ord.getD (i - 1).toNat 0).toNat 0
      · rw [if_pos (decide_eq_true e), o_bind, o_bind, decide_eq_true e, Bool.true_and]
      · rw [if_neg (by simpa using e), decide_eq_false e, Bool.false_and]
  · have hr := mem_rangeL.mp hi'
    obtain ⟨a1, a2⟩ := ord_at S Co ho hi (i := i - 1) (by omega)
    obtain ⟨b1, b2⟩ := ord_at S Co ho hi (i := i) (by omega)
    obtain ⟨m1, m2, m3⟩ := mul_oc S Co a2 b2
    obtain ⟨k1, k2, k3⟩ := mul_oc S Co b2 a2
    rw [a1, o_bind, m1, o_bind, b1, o_bind, m2, o_bind, m3, o_bind, o_bind, k1, o_bind, o_bind, k2, o_bind, k3, o_bind]
    rfl
end
theorem ordsA : m__law_orders (rangeL 0 1) = some [[0]] := by decide +kernel
theorem ordsB : m__law_orders (rangeL 0 2) = some [[0, 1], [1, 0]] := by decide +kernel
theorem ordsC : m__law_orders (rangeL 0 3) = some [[0, 1, 2], [0, 2, 1], [1, 0, 2], [1, 2, 0], [2, 0, 1], [2, 1, 0]] := by decide +kernel
def oA (L E : Int → Int → Bool) (ord : List Int) (n : Nat) : Bool := decide (((rangeL 1 (n - 1)).filter fun i => L (ord.getD (i - 1).toNat 0) (ord.getD i.toNat 0)) = []) && decide (((rangeL 1 (n - 1)).filter fun i => E (ord.getD (i - 1).toNat 0) (ord.getD i.toNat 0) && decide (ord.getD i.toNat 0 < ord.getD (i - 1).toNat 0)) = [])
theorem ok_oA (odds costs ord : List Int) : okO odds costs ord = oA (lt2 odds costs) (eq2 odds costs) ord odds.length := rfl
def Ly (a b c d e f : Bool) (i j : Int) : Bool := if i.toNat = 0 then (if j.toNat = 1 then a else if j.toNat = 2 then b else false) else if i.toNat = 1 then (if j.toNat = 0 then c else if j.toNat = 2 then d else false) else if i.toNat = 2 then (if j.toNat = 0 then e else if j.toNat = 1 then f else false) else false
def Ey (a b c d e f : Bool) (i j : Int) : Bool := !Ly a b c d e f i j && !Ly a b c d e f j i
theorem comb3 : ∀ a b c d e f : Bool, (a && c) = false → (b && e) = false → (d && f) = false →
  ((!a && !d) → !b) → ((!b && !f) → !a) → ((!c && !b) → !d) → ((!d && !e) → !c) → ((!e && !a) → !f) → ((!f && !c) → !e) →
  [[(0 : Int), 1, 2], [0, 2, 1], [1, 0, 2], [1, 2, 0], [2, 0, 1], [2, 1, 0]].filter (fun o => oA (Ly a b c d e f) (Ey a b c d e f) o 3) = [selO (Ly a b c d e f) 3 [0, 1, 2]] := by decide +kernel
theorem comb2 : ∀ a b c d e f : Bool, (a && c) = false → 
  [[(0 : Int), 1], [1, 0]].filter (fun o => oA (Ly a b c d e f) (Ey a b c d e f) o 2) = [selO (Ly a b c d e f) 2 [0, 1]] := by decide +kernel
theorem comb1 : ∀ a b c d e f : Bool,
  [[(0 : Int)]].filter (fun o => oA (Ly a b c d e f) (Ey a b c d e f) o 1) = [selO (Ly a b c d e f) 1 [0]] := by decide +kernel
def ords (n : Nat) : List (List Int) := if n = 1 then [[0]] else if n = 2 then [[0, 1], [1, 0]] else [[0, 1, 2], [0, 2, 1], [1, 0, 2], [1, 2, 0], [2, 0, 1], [2, 1, 0]]
theorem ords_in : (∀ o ∈ ords 1, o.length = 1 ∧ ∀ k ∈ o, 0 ≤ k ∧ k < 1) ∧ (∀ o ∈ ords 2, o.length = 2 ∧ ∀ k ∈ o, 0 ≤ k ∧ k < 2) ∧ (∀ o ∈ ords 3, o.length = 3 ∧ ∀ k ∈ o, 0 ≤ k ∧ k < 3) := by decide +kernel
theorem eq2_lt (odds costs : List Int) : eq2 odds costs = fun i j => !lt2 odds costs i j && !lt2 odds costs j i := by
  funext i j
  unfold eq2 lt2
  by_cases h : odds.getD i.toNat 0 * costs.getD j.toNat 0 = odds.getD j.toNat 0 * costs.getD i.toNat 0
  · rw [decide_eq_true h, decide_eq_false (by omega), decide_eq_false (by omega)]; rfl
  · rw [decide_eq_false h]
    by_cases g : odds.getD i.toNat 0 * costs.getD j.toNat 0 < odds.getD j.toNat 0 * costs.getD i.toNat 0
    · rw [decide_eq_true g]; rfl
    · rw [decide_eq_true (p := odds.getD j.toNat 0 * costs.getD i.toNat 0 < odds.getD i.toNat 0 * costs.getD j.toNat 0) (by omega)]; simp
theorem lt2_Ly {odds costs : List Int} (h1 : odds.length ≤ 3) (h2 : costs.length ≤ 3) : lt2 odds costs = Ly (lt2 odds costs 0 1) (lt2 odds costs 0 2) (lt2 odds costs 1 0) (lt2 odds costs 1 2) (lt2 odds costs 2 0) (lt2 odds costs 2 1) := by
  have oo : ∀ k, 3 ≤ k → odds.getD k 0 = 0 := fun k hk => by rw [List.getD_eq_getElem?_getD, List.getElem?_eq_none (by omega)]; rfl
  have cc : ∀ k, 3 ≤ k → costs.getD k 0 = 0 := fun k hk => by rw [List.getD_eq_getElem?_getD, List.getElem?_eq_none (by omega)]; rfl
  funext i j
  unfold lt2 Ly
  generalize i.toNat = m
  generalize j.toNat = n
  have hm : m = 0 ∨ m = 1 ∨ m = 2 ∨ 3 ≤ m := by omega
  have hn : n = 0 ∨ n = 1 ∨ n = 2 ∨ 3 ≤ n := by omega
  have irr : ∀ x y : Int, decide (x * y < x * y) = false := fun x y => decide_eq_false (by omega)
  rcases hm with rfl | rfl | rfl | hm <;> rcases hn with rfl | rfl | rfl | hn
  all_goals first
    | rfl
    | exact irr _ _
    | (have h0 := oo _ hn; have h3 := cc _ hn; rw [h0, h3, Int.mul_zero, Int.zero_mul]; simp [show n ≠ 0 by omega, show n ≠ 1 by omega, show n ≠ 2 by omega])
    | (have h0 := oo _ hm; have h3 := cc _ hm; rw [h0, h3, Int.mul_zero, Int.zero_mul]; simp [show m ≠ 0 by omega, show m ≠ 1 by omega, show m ≠ 2 by omega])
section
variable {odds costs : List Int} {sights : List (Int × Int)} (S : Set' odds sights) (Co : Cost odds costs)
include S Co
theorem lt_asym (i j : Int) : (lt2 odds costs i j && lt2 odds costs j i) = false := by
  unfold lt2
  by_cases g : odds.getD i.toNat 0 * costs.getD j.toNat 0 < odds.getD j.toNat 0 * costs.getD i.toNat 0
  · rw [decide_eq_false (p := odds.getD j.toNat 0 * costs.getD i.toNat 0 < odds.getD i.toNat 0 * costs.getD j.toNat 0) (by omega), Bool.and_false]
  · rw [decide_eq_false g]; rfl
theorem lt_trans {i j k : Nat} (hi : i < odds.length) (hj : j < odds.length) (hk : k < odds.length) : (!lt2 odds costs i j && !lt2 odds costs j k) = true → (!lt2 odds costs i k) = true := by
  intro h
  obtain ⟨h1, h2⟩ := Bool.and_eq_true _ _ ▸ h
  unfold lt2 at *
  simp only [Int.toNat_natCast, Bool.not_eq_true', decide_eq_false_iff_not, Int.not_lt] at *
  obtain ⟨_, ci, _⟩ := co_at S Co hi
  obtain ⟨_, cj, _⟩ := co_at S Co hj
  obtain ⟨_, ck, _⟩ := co_at S Co hk
  have a1 := Int.mul_le_mul_of_nonneg_right h1 (by omega : 0 ≤ costs.getD k 0)
  have a2 := Int.mul_le_mul_of_nonneg_right h2 (by omega : 0 ≤ costs.getD i 0)
  refine Int.le_of_mul_le_mul_left (a := costs.getD j 0) ?_ (by omega)
  grind
/-- one right order, the program's -/
theorem one_order : (ords odds.length).filter (okO odds costs) = [selO (lt2 odds costs) odds.length (rangeL 0 odds.length)] := by
  have h3 := S.n3
  have h1 := S.n1
  have e := lt2_Ly (odds := odds) (costs := costs) h3 (by rw [Co.len]; exact h3)
  have f : okO odds costs = fun o => oA (Ly (lt2 odds costs 0 1) (lt2 odds costs 0 2) (lt2 odds costs 1 0) (lt2 odds costs 1 2) (lt2 odds costs 2 0) (lt2 odds costs 2 1)) (Ey (lt2 odds costs 0 1) (lt2 odds costs 0 2) (lt2 odds costs 1 0) (lt2 odds costs 1 2) (lt2 odds costs 2 0) (lt2 odds costs 2 1)) o odds.length := by
    funext o
    rw [ok_oA, eq2_lt]
    unfold Ey
    rw [← e]
  have as := fun i j => lt_asym S Co i j
  have tr := fun {i j k : Nat} hi hj hk => lt_trans S Co (i := i) (j := j) (k := k) hi hj hk
  have hn : odds.length = 1 ∨ odds.length = 2 ∨ odds.length = 3 := by omega
  rw [f, show selO (lt2 odds costs) = selO (Ly (lt2 odds costs 0 1) (lt2 odds costs 0 2) (lt2 odds costs 1 0) (lt2 odds costs 1 2) (lt2 odds costs 2 0) (lt2 odds costs 2 1)) from congrArg selO e]
  rcases hn with hn | hn | hn <;> rw [hn] at tr ⊢
  · exact comb1 _ _ _ _ _ _
  · exact comb2 _ _ _ _ _ _ (as 0 1)
  · refine comb3 _ _ _ _ _ _ (as 0 1) (as 0 2) (as 1 2) ?_ ?_ ?_ ?_ ?_ ?_
    · exact tr (i := 0) (j := 1) (k := 2) (by decide) (by decide) (by decide)
    · exact tr (i := 0) (j := 2) (k := 1) (by decide) (by decide) (by decide)
    · exact tr (i := 1) (j := 0) (k := 2) (by decide) (by decide) (by decide)
    · exact tr (i := 1) (j := 2) (k := 0) (by decide) (by decide) (by decide)
    · exact tr (i := 2) (j := 0) (k := 1) (by decide) (by decide) (by decide)
    · exact tr (i := 2) (j := 1) (k := 0) (by decide) (by decide) (by decide)
/-- no order's mean is below it -/
theorem not_below : ∀ o ∈ ords odds.length, tot odds costs (selO (lt2 odds costs) odds.length (rangeL 0 odds.length)) 0 ≤ tot odds costs o 0 := by
  have h3 := S.n3
  have h1 := S.n1
  have hm : selO (lt2 odds costs) odds.length (rangeL 0 odds.length) ∈ (ords odds.length).filter (okO odds costs) := by rw [one_order S Co]; exact List.mem_singleton.mpr rfl
  obtain ⟨m1, m2⟩ := List.mem_filter.mp hm
  generalize selO (lt2 odds costs) odds.length (rangeL 0 odds.length) = P at m1 m2
  have tr := fun {i j k : Nat} hi hj hk => lt_trans S Co (i := i) (j := j) (k := k) hi hj hk
  have hn : odds.length = 1 ∨ odds.length = 2 ∨ odds.length = 3 := by omega
  rw [ok_oA] at m2
  rcases hn with hn | hn | hn <;> rw [hn] at tr m1 m2 ⊢ <;> intro o ho
  · have e1 : P = [0] := List.mem_singleton.mp m1
    have e2 : o = [0] := List.mem_singleton.mp ho
    rw [e1, e2]
    exact Int.le_refl _
  · have t : ∀ o ∈ ords 2, o = [0, 1] ∨ o = [1, 0] := by decide +kernel
    have key : ∀ (L E : Int → Int → Bool) (x y : Int), oA L E [x, y] 2 = true → (!L x y) = true := by
      intro L E x y h
      unfold oA at h
      rw [Bool.and_eq_true] at h
      have h := of_decide_eq_true h.1
      have g : ∀ i ∈ rangeL 1 1, ¬ L ([x, y].getD (i - 1).toNat 0) ([x, y].getD i.toNat 0) = true := List.filter_eq_nil_iff.mp h
      have g1 : ¬ L x y = true := g 1 (by decide)
      simp [g1]
    have use : ∀ x y : Nat, oA (lt2 odds costs) (eq2 odds costs) [(x : Int), y] 2 = true → odds.getD y 0 * costs.getD x 0 ≤ odds.getD x 0 * costs.getD y 0 := by
      intro x y h
      have a := key _ _ _ _ h
      unfold lt2 at a
      simp only [Int.toNat_natCast, Bool.not_eq_true', decide_eq_false_iff_not, Int.not_lt] at a
      exact a
    have tt : ∀ x y : Nat, tot odds costs [(x : Int), y] 0 = odds.getD x 0 * costs.getD x 0 + odds.getD y 0 * costs.getD x 0 + odds.getD y 0 * costs.getD y 0 := by
      intro x y
      simp only [tot, Int.toNat_natCast]
      grind
    have t0 := tt 0 1
    have t1 := tt 1 0
    simp only [Int.natCast_zero, Int.natCast_one] at t0 t1
    rcases t P m1 with rfl | rfl
    · have u := use 0 1 m2
      rcases t o ho with rfl | rfl <;> omega
    · have u := use 1 0 m2
      rcases t o ho with rfl | rfl <;> omega
  · have t : ∀ o ∈ ords 3, o = [0, 1, 2] ∨ o = [0, 2, 1] ∨ o = [1, 0, 2] ∨ o = [1, 2, 0] ∨ o = [2, 0, 1] ∨ o = [2, 1, 0] := by decide +kernel
    have key : ∀ (L E : Int → Int → Bool) (x y z : Int), oA L E [x, y, z] 3 = true → (!L x y) = true ∧ (!L y z) = true := by
      intro L E x y z h
      unfold oA at h
      rw [Bool.and_eq_true] at h
      have h := of_decide_eq_true h.1
      have g : ∀ i ∈ rangeL 1 2, ¬ L ([x, y, z].getD (i - 1).toNat 0) ([x, y, z].getD i.toNat 0) = true := List.filter_eq_nil_iff.mp h
      have g1 : ¬ L x y = true := g 1 (by decide)
      have g2 : ¬ L y z = true := g 2 (by decide)
      simp [g1, g2]
    have use : ∀ x y z : Nat, x < 3 → y < 3 → z < 3 → oA (lt2 odds costs) (eq2 odds costs) [(x : Int), y, z] 3 = true → odds.getD y 0 * costs.getD x 0 ≤ odds.getD x 0 * costs.getD y 0 ∧ odds.getD z 0 * costs.getD y 0 ≤ odds.getD y 0 * costs.getD z 0 ∧ odds.getD z 0 * costs.getD x 0 ≤ odds.getD x 0 * costs.getD z 0 := by
      intro x y z hx hy hz h
      obtain ⟨a, b⟩ := key _ _ _ _ _ h
      have c := tr (i := x) (j := y) (k := z) hx hy hz (by rw [a, b]; rfl)
      unfold lt2 at a b c
      simp only [Int.toNat_natCast, Bool.not_eq_true', decide_eq_false_iff_not, Int.not_lt] at a b c
      exact ⟨a, b, c⟩
    have tt : ∀ x y z : Nat, tot odds costs [(x : Int), y, z] 0 = odds.getD x 0 * costs.getD x 0 + odds.getD y 0 * costs.getD x 0 + odds.getD y 0 * costs.getD y 0 + odds.getD z 0 * costs.getD x 0 + odds.getD z 0 * costs.getD y 0 + odds.getD z 0 * costs.getD z 0 := by
      intro x y z
      simp only [tot, Int.toNat_natCast]
      grind
    have t0 := tt 0 1 2
    have t1 := tt 0 2 1
    have t2 := tt 1 0 2
    have t3 := tt 1 2 0
    have t4 := tt 2 0 1
    have t5 := tt 2 1 0
    simp only [Int.natCast_zero, Int.natCast_one, Int.cast_ofNat_Int] at t0 t1 t2 t3 t4 t5
    rcases t P m1 with rfl | rfl | rfl | rfl | rfl | rfl
    · have u := use 0 1 2 (by decide) (by decide) (by decide) m2
      rcases t o ho with rfl | rfl | rfl | rfl | rfl | rfl <;> omega
    · have u := use 0 2 1 (by decide) (by decide) (by decide) m2
      rcases t o ho with rfl | rfl | rfl | rfl | rfl | rfl <;> omega
    · have u := use 1 0 2 (by decide) (by decide) (by decide) m2
      rcases t o ho with rfl | rfl | rfl | rfl | rfl | rfl <;> omega
    · have u := use 1 2 0 (by decide) (by decide) (by decide) m2
      rcases t o ho with rfl | rfl | rfl | rfl | rfl | rfl <;> omega
    · have u := use 2 0 1 (by decide) (by decide) (by decide) m2
      rcases t o ho with rfl | rfl | rfl | rfl | rfl | rfl <;> omega
    · have u := use 2 1 0 (by decide) (by decide) (by decide) m2
      rcases t o ho with rfl | rfl | rfl | rfl | rfl | rfl <;> omega
theorem tot_b : ∀ (ord : List Int) (c : Int), (∀ k ∈ ord, 0 ≤ k ∧ k < odds.length) → 0 ≤ c → c + ord.length * 6 ≤ 100 → 0 ≤ tot odds costs ord c ∧ tot odds costs ord c ≤ ord.length * 1200
  | [], _, _, _, _ => ⟨Int.le_refl (0 : Int), Int.le_refl (0 : Int)⟩
  | k :: r, c, h, h0, hb => by
    have hk := h k List.mem_cons_self
    obtain ⟨i, rfl⟩ : ∃ i : Nat, k = (i : Int) := ⟨k.toNat, by omega⟩
    have hi : i < odds.length := by omega
    obtain ⟨o1, o2⟩ := od_at S hi
    obtain ⟨_, e2, e3⟩ := co_at S Co hi
    simp only [List.length_cons, Int.natCast_add, Int.natCast_one] at hb ⊢
    have ih := tot_b r (c + costs.getD i 0) (fun x hx => h x (List.mem_cons_of_mem _ hx)) (by omega) (by omega)
    show 0 ≤ odds.getD (i : Int).toNat 0 * (c + costs.getD (i : Int).toNat 0) + tot odds costs r (c + costs.getD (i : Int).toNat 0) ∧ odds.getD (i : Int).toNat 0 * (c + costs.getD (i : Int).toNat 0) + tot odds costs r (c + costs.getD (i : Int).toNat 0) ≤ _
    rw [Int.toNat_natCast]
    have m1 : 0 ≤ odds.getD i 0 * (c + costs.getD i 0) := Int.mul_nonneg o1 (by omega)
    have m2 : odds.getD i 0 * (c + costs.getD i 0) ≤ 12 * 100 := Int.mul_le_mul o2 (by omega) (by omega) (by decide)
    omega
theorem below_no {o p : List Int} (lo : o.length ≤ 3) (lp : p.length ≤ 3) (ho : ∀ k ∈ o, 0 ≤ k ∧ k < odds.length) (hp : ∀ k ∈ p, 0 ≤ k ∧ k < odds.length) (h : tot odds costs p 0 ≤ tot odds costs o 0) : lessM (nf (tot odds costs o 0) odds.sum) (nf (tot odds costs p 0) odds.sum) = some false := by
  have t1 := S.T1
  have t2 := S.T2
  obtain ⟨a1, a2⟩ := tot_b S Co o 0 ho (by omega) (by omega)
  obtain ⟨b1, b2⟩ := tot_b S Co p 0 hp (by omega) (by omega)
  have tb : Bd 12 odds.sum := Bd.of (by omega) (by omega)
  have ba : Bd 3600 (tot odds costs o 0) := Bd.of (by omega) (by omega)
  have bb : Bd 3600 (tot odds costs p 0) := Bd.of (by omega) (by omega)
  rw [lessB (by omega) (by omega) ba.le bb.le ((tb.mul tb).le)]
  congr 1
  refine decide_eq_false fun q => ?_
  have := Int.lt_of_mul_lt_mul_right q (by omega)
  omega
end
theorem ords_law {n : Nat} (h1 : 1 ≤ n) (h3 : n ≤ 3) : m__law_orders (rangeL 0 n) = some (ords n) ∧ ((ords n).length ≤ 6 ∧ ∀ o ∈ ords n, o.length = n ∧ ∀ k ∈ o, 0 ≤ k ∧ k < n) := by
  obtain ⟨oi1, oi2, oi3⟩ := ords_in
  have hn : n = 1 ∨ n = 2 ∨ n = 3 := by omega
  rcases hn with rfl | rfl | rfl
  · exact ⟨ordsA, by decide, oi1⟩
  · exact ⟨ordsB, by decide, oi2⟩
  · exact ⟨ordsC, by decide, oi3⟩
theorem fold_last {α : Type} (ok : List Int → Bool) (v : List Int → α) : ∀ (os : List (List Int)) (b : Option (α × List Int)), os.foldl (fun b o => if ok o = true then some (v o, o) else b) b = match (os.filter ok).getLast? with | none => b | some o => some (v o, o)
  | [], b => rfl
  | o :: os, b => by
    rw [List.foldl_cons, fold_last ok v os, List.filter_cons]
    cases ho : ok o with
    | false => simp
    | true =>
      rw [if_pos rfl, if_pos rfl, List.getLast?_cons]
      cases (os.filter ok).getLast? <;> rfl
theorem sum5 : ∀ (xs : List Int), (∀ x ∈ xs, 0 ≤ x ∧ x < 5) → 0 ≤ xs.sum ∧ xs.sum ≤ 4 * xs.length
  | [], _ => ⟨Int.le_refl (0 : Int), Int.le_refl (0 : Int)⟩
  | x :: xs, h => by
    have := sum5 xs fun y hy => h y (List.mem_cons_of_mem _ hy)
    have := h x List.mem_cons_self
    rw [List.sum_cons, List.length_cons]
    omega
theorem rows5 : ∀ p ∈ [((0 : Int), (1 : Int)), ((1 : Int), (3 : Int)), ((1 : Int), (2 : Int)), ((3 : Int), (4 : Int)), ((1 : Int), (1 : Int))], qf (rt p) = p ∧ 0 ≤ rt p ∧ rt p ≤ 1 := by decide +kernel
theorem rows5f : ∀ p ∈ [((0 : Int), (1 : Int)), ((1 : Int), (3 : Int)), ((1 : Int), (2 : Int)), ((3 : Int), (4 : Int)), ((1 : Int), (1 : Int))], Fq 4 1 (rt p) := by
  intro p hp
  simp only [List.mem_cons, List.not_mem_nil, or_false] at hp
  rcases hp with rfl | rfl | rfl | rfl | rfl <;> exact ⟨by decide +kernel, by decide +kernel⟩
theorem rows4 : ∀ p ∈ [((0 : Int), (1 : Int)), ((1 : Int), (3 : Int)), ((1 : Int), (2 : Int)), ((9 : Int), (10 : Int))], qf (rt p) = p := by decide +kernel
theorem rows4f : ∀ p ∈ [((0 : Int), (1 : Int)), ((1 : Int), (3 : Int)), ((1 : Int), (2 : Int)), ((9 : Int), (10 : Int))], Fq 10 1 (rt p) := by
  intro p hp
  simp only [List.mem_cons, List.not_mem_nil, or_false] at hp
  rcases hp with rfl | rfl | rfl | rfl <;> exact ⟨by decide +kernel, by decide +kernel⟩
theorem law_true (ns : List Int) (h : ns.length ≤ 63) : m_law ns = some true := by
  refine law_of (n := 300) rfl h (by decide) ?_
  unfold m_lawb
  simp only [w_pure, w_bind, w_ite, w_comp, w_fold]
  have hn : m__law_next = nextM := rfl
  have hpk : ∀ rows : List (Int × Int), rows ≠ [] → Good (m__law_pick rows) (· ∈ rows) := fun rows h => Good.pick h
  rw [hn]
  refine Good.go (range_some (by decide)) ?_
  refine Good.turns (fun turn _ => ?_) (Good.fromO rfl rfl)
  refine Good.bind (P := fun m : Int => 1 ≤ m ∧ m ≤ 3) (Good.bind (Good.nextM (by decide)) fun v hv => Good.fromO rfl ⟨by omega, by omega⟩) fun many hm => ?_
  obtain ⟨n, rfl⟩ : ∃ n : Nat, many = (n : Int) := ⟨many.toNat, by omega⟩
  refine Good.bind (P := fun o : List Int => o.length = n ∧ 1 ≤ o.sum ∧ o.sum ≤ 12 ∧ ∀ x ∈ o, 0 ≤ x ∧ x ≤ 12) (Good.go (range_some (by omega)) (Good.bind (Good.compS (Q := fun x : Int => 0 ≤ x ∧ x < 5) fun k _ => Good.nextM (by decide)) fun a ha => Good.bind (Good.nextM (by decide)) fun v hv => Good.fromO (a := a ++ [1 + v]) (cat_some (by
    rw [rangeL_len] at ha
    show a.length + 1 ≤ _
    omega)) (by
    rw [rangeL_len] at ha
    obtain ⟨s1, s2⟩ := sum5 a ha.2
    refine ⟨by rw [List.length_append, List.length_singleton]; omega, by rw [List.sum_append, List.sum_singleton]; omega, by rw [List.sum_append, List.sum_singleton]; omega, fun x hx => ?_⟩
    rcases List.mem_append.mp hx with q | q
    · have := ha.2 x q
      omega
    · rw [List.mem_singleton.mp q]
      omega))) fun odds ho => ?_
  obtain ⟨rfl, os1, os2, ox⟩ := ho
  refine Good.bind (P := fun s : List (Int × Int) => s.length = odds.length ∧ ∀ p ∈ s, p ∈ [((0 : Int), (1 : Int)), ((1 : Int), (3 : Int)), ((1 : Int), (2 : Int)), ((3 : Int), (4 : Int)), ((1 : Int), (1 : Int))]) (Good.go (range_nat (by omega)) ((Good.compS fun k _ => hpk _ (by decide)).imp fun ys hy => ⟨by rw [hy.1, rangeL_len], hy.2⟩)) fun sights hs => ?_
  have S : Set' odds sights := ⟨hs.1, by omega, by omega, os1, os2, ox, fun p hp => ⟨(rows5 p (hs.2 p hp)).1, (rows5 p (hs.2 p hp)).2.1, (rows5 p (hs.2 p hp)).2.2, rows5f p (hs.2 p hp)⟩⟩
  refine Good.bind (P := fun s : List Int => s.length ≤ 4 ∧ ∀ p ∈ s, 0 ≤ p ∧ p < odds.length) (Good.bind (Good.nextM (by decide)) fun v hv => Good.go (range_some (by omega)) ((Good.compS (Q := fun p : Int => 0 ≤ p ∧ p < odds.length) fun k _ => Good.nextM (by omega)).imp fun ys hy => ⟨by rw [hy.1, rangeL_len]; omega, hy.2⟩)) fun plan hpl => ?_
  obtain ⟨l4, pin⟩ := hpl
  refine Good.go (a := qf (chance odds sights plan)) (lawChance_eq S pin (by omega)) ?_
  refine Good.no (by rw [found_eq S pin (by omega), o_bind]; simp) ?_
  refine Good.go (lawLeft_eq S pin (by omega)) ?_
  refine Good.go (lawTot_eq S (plan := plan) (by omega)) ?_
  refine Good.go (a := leftQ odds sights plan) (lawLeft2_eq S (by omega)) ?_
  refine Good.no (by rw [left_eq S pin (by omega), o_bind]; simp) ?_
  refine Good.go (a := ((0 : Int), (1 : Int))) rfl ?_
  refine Good.go (range_nat (by omega)) ?_
  refine Good.go (lawMean_eq S pin l4) ?_
  refine Good.no (by rw [mean_eq S pin l4, o_bind]; simp) ?_
  refine Good.bind (P := fun p : Int × List Int × List (List Int) => ∃ L : Nat, L ≤ 4 ∧ p = ((L : Int), [], [[]])) (Good.bind (Good.nextM (by decide)) fun v hv => Good.fromO rfl ⟨v.toNat, by omega, by rw [show ((v.toNat : Nat) : Int) = v by omega]⟩) fun p hp => ?_
  obtain ⟨L, hL, rfl⟩ := hp
  refine Good.go (range_nat (by show L ≤ _; omega)) ?_
  refine Good.go (a := (gp odds sights L, pl odds.length L)) (plans_eq S hL) ?_
  have gl := gp_len (odds := odds) (sights := sights) L
  refine Good.go (a := qf (chance odds sights (gp odds sights L))) (lawChance_eq S (gp_in S L) (by show (gp odds sights L).length ≤ 9; omega)) ?_
  refine Good.no (by
    rw [best_plan_eq S (by omega), o_bind, if_neg (by simp), comp_some (p := fun _ => false) (q := fun x => x) (fun row hrow => ?_) (fun _ _ _ => rfl), o_bind]
    · simp
    · obtain ⟨rl, ri⟩ := pl_in row hrow
      have f := chance_fq S (plan := gp odds sights L) (by omega)
      have g := chance_fq S (plan := row) (by omega)
      rw [lawChance_eq S ri (by omega), o_bind, d_below, qless (bw_big (Nat.le_trans f.m (by decide))) (bw_big (Nat.le_trans g.m (by decide))) (bw_big (Nat.le_trans f.d (by decide))) (bw_big (Nat.le_trans g.d (by decide))), decide_eq_false (no_better S ri rl)]) ?_
  refine Good.no (by
    rw [show m_best_start odds sights = m_most_worth odds sights [] from rfl, most_eq S (fun x hx => by cases hx) (by decide), o_bind, next_eq S (fun x hx => by cases hx) (by decide), o_bind]
    simp) ?_
  refine Good.bind (P := fun p : (Int × Int) × List Int × Option Int => p.1 ∈ [((0 : Int), (1 : Int)), ((1 : Int), (3 : Int)), ((1 : Int), (2 : Int)), ((9 : Int), (10 : Int))] ∧ p.2 = ([], none)) (Good.bind (hpk _ (by decide)) fun v hv => Good.fromO rfl ⟨hv, rfl⟩) fun p hp => ?_
  obtain ⟨least, own, fnd⟩ := p
  obtain ⟨hl, hp⟩ := hp
  obtain ⟨rfl, rfl⟩ := Prod.mk.inj hp
  have hq := rows4 least hl
  have hf := rows4f least hl
  refine Good.go (range_some (by decide)) ?_
  refine Good.go (lawLooks_eq S hq hf) ?_
  refine Good.go (looks_eq S hq hf) ?_
  refine Good.no (told_ok (fun x => !decide (chance odds sights (gp odds sights x.toNat) < rt least))) ?_
  refine Good.bind (P := fun p : List Int × Option ((Int × Int) × List Int) => (p.1.length = odds.length ∧ ∀ x ∈ p.1, 1 ≤ x ∧ x ≤ 6) ∧ p.2 = none) (Good.go (range_nat (by omega)) (Good.bind (Good.compS (Q := fun x : Int => 1 ≤ x ∧ x ≤ 6) fun k _ => Good.bind (Good.nextM (by decide)) fun v hv => Good.fromO rfl ⟨by omega, by omega⟩) fun cs hcs => Good.fromO rfl ⟨⟨by rw [hcs.1, rangeL_len], hcs.2⟩, rfl⟩)) fun p hp => ?_
  obtain ⟨costs, bst⟩ := p
  obtain ⟨⟨c1, c2⟩, rfl⟩ := hp
  have Co : Cost odds costs := ⟨c1, c2⟩
  obtain ⟨ol, o6, oin⟩ := ords_law (n := odds.length) (by omega) (by omega)
  refine Good.fromO (a := .nx ()) ?_ rfl
  refine (o_go (a := ([] : List (Int × Int))) rfl).trans ?_
  refine (o_go (a := ords odds.length) (by rw [range_nat (by omega), o_bind]; exact ol)).trans ?_
  generalize hP : selO (lt2 odds costs) odds.length (rangeL 0 odds.length) = P
  have nb := not_below S Co
  have one := one_order S Co
  rw [hP] at nb one
  have hPin : P ∈ ords odds.length := (List.mem_filter.mp (by rw [one]; exact List.mem_singleton.mpr rfl)).1
  have hb : (ords odds.length).foldl (fun (b : Option ((Int × Int) × List Int)) o => if okO odds costs o = true then some (nf (tot odds costs o 0) odds.sum, o) else b) none = some (nf (tot odds costs P 0) odds.sum, P) := by
    rw [fold_last, one]
    rfl
  refine (o_go (fold_pre (s := fun pre => ((pre.getLast?.map fun o => nf (tot odds costs o 0) odds.sum).getD (qf (meanQ odds sights plan plan.length)), pre.map (fun o => nf (tot odds costs o 0) odds.sum), pre.foldl (fun (b : Option ((Int × Int) × List Int)) o => if okO odds costs o = true then some (nf (tot odds costs o 0) odds.sum, o) else b) none)) (fun pre x post e => ?_))).trans ?_
  · have hx : x ∈ ords odds.length := by rw [← e]; simp
    have le : pre.length ≤ 6 := by
      have := congrArg List.length e
      rw [List.length_append] at this
      omega
    refine (turn_eq S Co (oin x hx).1 (oin x hx).2 _ (by show (pre.map _).length ≤ _; rw [List.length_map]; omega)).trans ?_
    rw [List.getLast?_append, List.map_append, List.foldl_append]
    rfl
  · refine (o_no ?_).trans rfl
    simp only [hb]
    rw [order_eq S Co, hP, o_bind, if_neg (by simp), comp_some (p := fun _ => false) (q := fun x => x) (fun x hx => ?_) (fun _ _ _ => rfl), o_bind]
    · simp
    · obtain ⟨o, ho, rfl⟩ := List.mem_map.mp hx
      rw [o_bind, d_below]
      exact below_no S Co (by rw [(oin o ho).1]; omega) (by rw [(oin P hPin).1]; omega) (oin o ho).2 (oin P hPin).2 (nb o ho)
end K23

/-! ### what the top has written; the law's own head -/
namespace K23
open PySem PySem.Spec PyProof.Rows L2 TT
open TT.PyM (fromO)
theorem all_mk {l : PySem.W.OpenLaw} {w : World} {K : PySem.W.Frag} {h : Heap} {mg : Str → Option Value} {fa : Addr} (X : K.In h) (G : h.Ns mainGlobals mg) (hfa : mg "law" = some (.ref fa))
    {x0 : Addr} {od0 an0 : Option Addr} {sl0 : Array (Option Value)} {oc0 kV0 dc0 pm0 cd0 ct0 : Value}
    (a0 : PySem.W.nsIn K mainGlobals "common" = some (some (.ref x0))) (l0 : K.lookup x0 = some ⟨oc0, od0, .func (PySem.W.fnOf "common" "common" (defArgs (topS 1)) (defBody (topS 1)) (defScope (topS 1)) .none kV0 dc0 pm0 an0 cd0 ct0), sl0⟩) (c0 : PySem.W.codeIn K cd0 "common" = true) (k0 : PySem.W.keepIn K (.ref x0) = true)
    {x1 : Addr} {od1 an1 : Option Addr} {sl1 : Array (Option Value)} {oc1 kV1 dc1 pm1 cd1 ct1 : Value}
    (a1 : PySem.W.nsIn K mainGlobals "is_less" = some (some (.ref x1))) (l1 : K.lookup x1 = some ⟨oc1, od1, .func (PySem.W.fnOf "is_less" "is_less" (defArgs (topS 7)) (defBody (topS 7)) (defScope (topS 7)) .none kV1 dc1 pm1 an1 cd1 ct1), sl1⟩) (c1 : PySem.W.codeIn K cd1 "is_less" = true) (k1 : PySem.W.keepIn K (.ref x1) = true)
    {x2 : Addr} {od2 an2 : Option Addr} {sl2 : Array (Option Value)} {oc2 kV2 dc2 pm2 cd2 ct2 : Value}
    (a2 : PySem.W.nsIn K mainGlobals "_law_draws" = some (some (.ref x2))) (l2 : K.lookup x2 = some ⟨oc2, od2, .func (PySem.W.fnOf "_law_draws" "_law_draws" (defArgs (topS 24)) (defBody (topS 24)) (defScope (topS 24)) .none kV2 dc2 pm2 an2 cd2 ct2), sl2⟩) (c2 : PySem.W.codeIn K cd2 "_law_draws" = true) (k2 : PySem.W.keepIn K (.ref x2) = true)
    {x3 : Addr} {od3 an3 : Option Addr} {sl3 : Array (Option Value)} {oc3 kV3 dc3 pm3 cd3 ct3 : Value}
    (a3 : PySem.W.nsIn K mainGlobals "_law_next" = some (some (.ref x3))) (l3 : K.lookup x3 = some ⟨oc3, od3, .func (PySem.W.fnOf "_law_next" "_law_next" (defArgs (topS 25)) (defBody (topS 25)) (defScope (topS 25)) .none kV3 dc3 pm3 an3 cd3 ct3), sl3⟩) (c3 : PySem.W.codeIn K cd3 "_law_next" = true) (k3 : PySem.W.keepIn K (.ref x3) = true)
    {x4 : Addr} {od4 an4 : Option Addr} {sl4 : Array (Option Value)} {oc4 kV4 dc4 pm4 cd4 ct4 : Value}
    (a4 : PySem.W.nsIn K mainGlobals "_law_common" = some (some (.ref x4))) (l4 : K.lookup x4 = some ⟨oc4, od4, .func (PySem.W.fnOf "_law_common" "_law_common" (defArgs (topS 27)) (defBody (topS 27)) (defScope (topS 27)) .none kV4 dc4 pm4 an4 cd4 ct4), sl4⟩) (c4 : PySem.W.codeIn K cd4 "_law_common" = true) (k4 : PySem.W.keepIn K (.ref x4) = true)
    {x5 : Addr} {od5 an5 : Option Addr} {sl5 : Array (Option Value)} {oc5 kV5 dc5 pm5 cd5 ct5 : Value}
    (a5 : PySem.W.nsIn K mainGlobals "_law_below" = some (some (.ref x5))) (l5 : K.lookup x5 = some ⟨oc5, od5, .func (PySem.W.fnOf "_law_below" "_law_below" (defArgs (topS 32)) (defBody (topS 32)) (defScope (topS 32)) .none kV5 dc5 pm5 an5 cd5 ct5), sl5⟩) (c5 : PySem.W.codeIn K cd5 "_law_below" = true) (k5 : PySem.W.keepIn K (.ref x5) = true)
    {x6 : Addr} {od6 an6 : Option Addr} {sl6 : Array (Option Value)} {oc6 kV6 dc6 pm6 cd6 ct6 : Value}
    (a6 : PySem.W.nsIn K mainGlobals "_law_orders" = some (some (.ref x6))) (l6 : K.lookup x6 = some ⟨oc6, od6, .func (PySem.W.fnOf "_law_orders" "_law_orders" (defArgs (topS 34)) (defBody (topS 34)) (defScope (topS 34)) .none kV6 dc6 pm6 an6 cd6 ct6), sl6⟩) (c6 : PySem.W.codeIn K cd6 "_law_orders" = true) (k6 : PySem.W.keepIn K (.ref x6) = true)
    {x7 : Addr} {od7 an7 : Option Addr} {sl7 : Array (Option Value)} {oc7 kV7 dc7 pm7 cd7 ct7 : Value}
    (a7 : PySem.W.nsIn K mainGlobals "fraction" = some (some (.ref x7))) (l7 : K.lookup x7 = some ⟨oc7, od7, .func (PySem.W.fnOf "fraction" "fraction" (defArgs (topS 2)) (defBody (topS 2)) (defScope (topS 2)) .none kV7 dc7 pm7 an7 cd7 ct7), sl7⟩) (c7 : PySem.W.codeIn K cd7 "fraction" = true) (k7 : PySem.W.keepIn K (.ref x7) = true)
    {x8 : Addr} {od8 an8 : Option Addr} {sl8 : Array (Option Value)} {oc8 kV8 dc8 pm8 cd8 ct8 : Value}
    (a8 : PySem.W.nsIn K mainGlobals "_law_pick" = some (some (.ref x8))) (l8 : K.lookup x8 = some ⟨oc8, od8, .func (PySem.W.fnOf "_law_pick" "_law_pick" (defArgs (topS 26)) (defBody (topS 26)) (defScope (topS 26)) .none kV8 dc8 pm8 an8 cd8 ct8), sl8⟩) (c8 : PySem.W.codeIn K cd8 "_law_pick" = true) (k8 : PySem.W.keepIn K (.ref x8) = true)
    {x9 : Addr} {od9 an9 : Option Addr} {sl9 : Array (Option Value)} {oc9 kV9 dc9 pm9 cd9 ct9 : Value}
    (a9 : PySem.W.nsIn K mainGlobals "_law_frac" = some (some (.ref x9))) (l9 : K.lookup x9 = some ⟨oc9, od9, .func (PySem.W.fnOf "_law_frac" "_law_frac" (defArgs (topS 28)) (defBody (topS 28)) (defScope (topS 28)) .none kV9 dc9 pm9 an9 cd9 ct9), sl9⟩) (c9 : PySem.W.codeIn K cd9 "_law_frac" = true) (k9 : PySem.W.keepIn K (.ref x9) = true)
    {x10 : Addr} {od10 an10 : Option Addr} {sl10 : Array (Option Value)} {oc10 kV10 dc10 pm10 cd10 ct10 : Value}
    (a10 : PySem.W.nsIn K mainGlobals "plus" = some (some (.ref x10))) (l10 : K.lookup x10 = some ⟨oc10, od10, .func (PySem.W.fnOf "plus" "plus" (defArgs (topS 3)) (defBody (topS 3)) (defScope (topS 3)) .none kV10 dc10 pm10 an10 cd10 ct10), sl10⟩) (c10 : PySem.W.codeIn K cd10 "plus" = true) (k10 : PySem.W.keepIn K (.ref x10) = true)
    {x11 : Addr} {od11 an11 : Option Addr} {sl11 : Array (Option Value)} {oc11 kV11 dc11 pm11 cd11 ct11 : Value}
    (a11 : PySem.W.nsIn K mainGlobals "minus" = some (some (.ref x11))) (l11 : K.lookup x11 = some ⟨oc11, od11, .func (PySem.W.fnOf "minus" "minus" (defArgs (topS 4)) (defBody (topS 4)) (defScope (topS 4)) .none kV11 dc11 pm11 an11 cd11 ct11), sl11⟩) (c11 : PySem.W.codeIn K cd11 "minus" = true) (k11 : PySem.W.keepIn K (.ref x11) = true)
    {x12 : Addr} {od12 an12 : Option Addr} {sl12 : Array (Option Value)} {oc12 kV12 dc12 pm12 cd12 ct12 : Value}
    (a12 : PySem.W.nsIn K mainGlobals "times" = some (some (.ref x12))) (l12 : K.lookup x12 = some ⟨oc12, od12, .func (PySem.W.fnOf "times" "times" (defArgs (topS 5)) (defBody (topS 5)) (defScope (topS 5)) .none kV12 dc12 pm12 an12 cd12 ct12), sl12⟩) (c12 : PySem.W.codeIn K cd12 "times" = true) (k12 : PySem.W.keepIn K (.ref x12) = true)
    {x13 : Addr} {od13 an13 : Option Addr} {sl13 : Array (Option Value)} {oc13 kV13 dc13 pm13 cd13 ct13 : Value}
    (a13 : PySem.W.nsIn K mainGlobals "parted" = some (some (.ref x13))) (l13 : K.lookup x13 = some ⟨oc13, od13, .func (PySem.W.fnOf "parted" "parted" (defArgs (topS 6)) (defBody (topS 6)) (defScope (topS 6)) .none kV13 dc13 pm13 an13 cd13 ct13), sl13⟩) (c13 : PySem.W.codeIn K cd13 "parted" = true) (k13 : PySem.W.keepIn K (.ref x13) = true)
    {x14 : Addr} {od14 an14 : Option Addr} {sl14 : Array (Option Value)} {oc14 kV14 dc14 pm14 cd14 ct14 : Value}
    (a14 : PySem.W.nsIn K mainGlobals "chances_of" = some (some (.ref x14))) (l14 : K.lookup x14 = some ⟨oc14, od14, .func (PySem.W.fnOf "chances_of" "chances_of" (defArgs (topS 12)) (defBody (topS 12)) (defScope (topS 12)) .none kV14 dc14 pm14 an14 cd14 ct14), sl14⟩) (c14 : PySem.W.codeIn K cd14 "chances_of" = true) (k14 : PySem.W.keepIn K (.ref x14) = true)
    {x15 : Addr} {od15 an15 : Option Addr} {sl15 : Array (Option Value)} {oc15 kV15 dc15 pm15 cd15 ct15 : Value}
    (a15 : PySem.W.nsIn K mainGlobals "_law_add" = some (some (.ref x15))) (l15 : K.lookup x15 = some ⟨oc15, od15, .func (PySem.W.fnOf "_law_add" "_law_add" (defArgs (topS 29)) (defBody (topS 29)) (defScope (topS 29)) .none kV15 dc15 pm15 an15 cd15 ct15), sl15⟩) (c15 : PySem.W.codeIn K cd15 "_law_add" = true) (k15 : PySem.W.keepIn K (.ref x15) = true)
    {x16 : Addr} {od16 an16 : Option Addr} {sl16 : Array (Option Value)} {oc16 kV16 dc16 pm16 cd16 ct16 : Value}
    (a16 : PySem.W.nsIn K mainGlobals "_law_less" = some (some (.ref x16))) (l16 : K.lookup x16 = some ⟨oc16, od16, .func (PySem.W.fnOf "_law_less" "_law_less" (defArgs (topS 30)) (defBody (topS 30)) (defScope (topS 30)) .none kV16 dc16 pm16 an16 cd16 ct16), sl16⟩) (c16 : PySem.W.codeIn K cd16 "_law_less" = true) (k16 : PySem.W.keepIn K (.ref x16) = true)
    {x17 : Addr} {od17 an17 : Option Addr} {sl17 : Array (Option Value)} {oc17 kV17 dc17 pm17 cd17 ct17 : Value}
    (a17 : PySem.W.nsIn K mainGlobals "_law_mul" = some (some (.ref x17))) (l17 : K.lookup x17 = some ⟨oc17, od17, .func (PySem.W.fnOf "_law_mul" "_law_mul" (defArgs (topS 31)) (defBody (topS 31)) (defScope (topS 31)) .none kV17 dc17 pm17 an17 cd17 ct17), sl17⟩) (c17 : PySem.W.codeIn K cd17 "_law_mul" = true) (k17 : PySem.W.keepIn K (.ref x17) = true)
    {x18 : Addr} {od18 an18 : Option Addr} {sl18 : Array (Option Value)} {oc18 kV18 dc18 pm18 cd18 ct18 : Value}
    (a18 : PySem.W.nsIn K mainGlobals "total" = some (some (.ref x18))) (l18 : K.lookup x18 = some ⟨oc18, od18, .func (PySem.W.fnOf "total" "total" (defArgs (topS 8)) (defBody (topS 8)) (defScope (topS 8)) .none kV18 dc18 pm18 an18 cd18 ct18), sl18⟩) (c18 : PySem.W.codeIn K cd18 "total" = true) (k18 : PySem.W.keepIn K (.ref x18) = true)
    {x19 : Addr} {od19 an19 : Option Addr} {sl19 : Array (Option Value)} {oc19 kV19 dc19 pm19 cd19 ct19 : Value}
    (a19 : PySem.W.nsIn K mainGlobals "missed" = some (some (.ref x19))) (l19 : K.lookup x19 = some ⟨oc19, od19, .func (PySem.W.fnOf "missed" "missed" (defArgs (topS 13)) (defBody (topS 13)) (defScope (topS 13)) .none kV19 dc19 pm19 an19 cd19 ct19), sl19⟩) (c19 : PySem.W.codeIn K cd19 "missed" = true) (k19 : PySem.W.keepIn K (.ref x19) = true)
    {x20 : Addr} {od20 an20 : Option Addr} {sl20 : Array (Option Value)} {oc20 kV20 dc20 pm20 cd20 ct20 : Value}
    (a20 : PySem.W.nsIn K mainGlobals "order_of" = some (some (.ref x20))) (l20 : K.lookup x20 = some ⟨oc20, od20, .func (PySem.W.fnOf "order_of" "order_of" (defArgs (topS 22)) (defBody (topS 22)) (defScope (topS 22)) .none kV20 dc20 pm20 an20 cd20 ct20), sl20⟩) (c20 : PySem.W.codeIn K cd20 "order_of" = true) (k20 : PySem.W.keepIn K (.ref x20) = true)
    {x21 : Addr} {od21 an21 : Option Addr} {sl21 : Array (Option Value)} {oc21 kV21 dc21 pm21 cd21 ct21 : Value}
    (a21 : PySem.W.nsIn K mainGlobals "_law_total" = some (some (.ref x21))) (l21 : K.lookup x21 = some ⟨oc21, od21, .func (PySem.W.fnOf "_law_total" "_law_total" (defArgs (topS 33)) (defBody (topS 33)) (defScope (topS 33)) .none kV21 dc21 pm21 an21 cd21 ct21), sl21⟩) (c21 : PySem.W.codeIn K cd21 "_law_total" = true) (k21 : PySem.W.keepIn K (.ref x21) = true)
    {x22 : Addr} {od22 an22 : Option Addr} {sl22 : Array (Option Value)} {oc22 kV22 dc22 pm22 cd22 ct22 : Value}
    (a22 : PySem.W.nsIn K mainGlobals "_law_left" = some (some (.ref x22))) (l22 : K.lookup x22 = some ⟨oc22, od22, .func (PySem.W.fnOf "_law_left" "_law_left" (defArgs (topS 35)) (defBody (topS 35)) (defScope (topS 35)) .none kV22 dc22 pm22 an22 cd22 ct22), sl22⟩) (c22 : PySem.W.codeIn K cd22 "_law_left" = true) (k22 : PySem.W.keepIn K (.ref x22) = true)
    {x23 : Addr} {od23 an23 : Option Addr} {sl23 : Array (Option Value)} {oc23 kV23 dc23 pm23 cd23 ct23 : Value}
    (a23 : PySem.W.nsIn K mainGlobals "still_there" = some (some (.ref x23))) (l23 : K.lookup x23 = some ⟨oc23, od23, .func (PySem.W.fnOf "still_there" "still_there" (defArgs (topS 14)) (defBody (topS 14)) (defScope (topS 14)) .none kV23 dc23 pm23 an23 cd23 ct23), sl23⟩) (c23 : PySem.W.codeIn K cd23 "still_there" = true) (k23 : PySem.W.keepIn K (.ref x23) = true)
    {x24 : Addr} {od24 an24 : Option Addr} {sl24 : Array (Option Value)} {oc24 kV24 dc24 pm24 cd24 ct24 : Value}
    (a24 : PySem.W.nsIn K mainGlobals "_law_chance" = some (some (.ref x24))) (l24 : K.lookup x24 = some ⟨oc24, od24, .func (PySem.W.fnOf "_law_chance" "_law_chance" (defArgs (topS 36)) (defBody (topS 36)) (defScope (topS 36)) .none kV24 dc24 pm24 an24 cd24 ct24), sl24⟩) (c24 : PySem.W.codeIn K cd24 "_law_chance" = true) (k24 : PySem.W.keepIn K (.ref x24) = true)
    {x25 : Addr} {od25 an25 : Option Addr} {sl25 : Array (Option Value)} {oc25 kV25 dc25 pm25 cd25 ct25 : Value}
    (a25 : PySem.W.nsIn K mainGlobals "_law_next_look" = some (some (.ref x25))) (l25 : K.lookup x25 = some ⟨oc25, od25, .func (PySem.W.fnOf "_law_next_look" "_law_next_look" (defArgs (topS 37)) (defBody (topS 37)) (defScope (topS 37)) .none kV25 dc25 pm25 an25 cd25 ct25), sl25⟩) (c25 : PySem.W.codeIn K cd25 "_law_next_look" = true) (k25 : PySem.W.keepIn K (.ref x25) = true)
    {x26 : Addr} {od26 an26 : Option Addr} {sl26 : Array (Option Value)} {oc26 kV26 dc26 pm26 cd26 ct26 : Value}
    (a26 : PySem.W.nsIn K mainGlobals "found_by" = some (some (.ref x26))) (l26 : K.lookup x26 = some ⟨oc26, od26, .func (PySem.W.fnOf "found_by" "found_by" (defArgs (topS 15)) (defBody (topS 15)) (defScope (topS 15)) .none kV26 dc26 pm26 an26 cd26 ct26), sl26⟩) (c26 : PySem.W.codeIn K cd26 "found_by" = true) (k26 : PySem.W.keepIn K (.ref x26) = true)
    {x27 : Addr} {od27 an27 : Option Addr} {sl27 : Array (Option Value)} {oc27 kV27 dc27 pm27 cd27 ct27 : Value}
    (a27 : PySem.W.nsIn K mainGlobals "left_odds" = some (some (.ref x27))) (l27 : K.lookup x27 = some ⟨oc27, od27, .func (PySem.W.fnOf "left_odds" "left_odds" (defArgs (topS 16)) (defBody (topS 16)) (defScope (topS 16)) .none kV27 dc27 pm27 an27 cd27 ct27), sl27⟩) (c27 : PySem.W.codeIn K cd27 "left_odds" = true) (k27 : PySem.W.keepIn K (.ref x27) = true)
    {x28 : Addr} {od28 an28 : Option Addr} {sl28 : Array (Option Value)} {oc28 kV28 dc28 pm28 cd28 ct28 : Value}
    (a28 : PySem.W.nsIn K mainGlobals "most_worth" = some (some (.ref x28))) (l28 : K.lookup x28 = some ⟨oc28, od28, .func (PySem.W.fnOf "most_worth" "most_worth" (defArgs (topS 17)) (defBody (topS 17)) (defScope (topS 17)) .none kV28 dc28 pm28 an28 cd28 ct28), sl28⟩) (c28 : PySem.W.codeIn K cd28 "most_worth" = true) (k28 : PySem.W.keepIn K (.ref x28) = true)
    {x29 : Addr} {od29 an29 : Option Addr} {sl29 : Array (Option Value)} {oc29 kV29 dc29 pm29 cd29 ct29 : Value}
    (a29 : PySem.W.nsIn K mainGlobals "best_start" = some (some (.ref x29))) (l29 : K.lookup x29 = some ⟨oc29, od29, .func (PySem.W.fnOf "best_start" "best_start" (defArgs (topS 18)) (defBody (topS 18)) (defScope (topS 18)) .none kV29 dc29 pm29 an29 cd29 ct29), sl29⟩) (c29 : PySem.W.codeIn K cd29 "best_start" = true) (k29 : PySem.W.keepIn K (.ref x29) = true)
    {x30 : Addr} {od30 an30 : Option Addr} {sl30 : Array (Option Value)} {oc30 kV30 dc30 pm30 cd30 ct30 : Value}
    (a30 : PySem.W.nsIn K mainGlobals "best_plan" = some (some (.ref x30))) (l30 : K.lookup x30 = some ⟨oc30, od30, .func (PySem.W.fnOf "best_plan" "best_plan" (defArgs (topS 19)) (defBody (topS 19)) (defScope (topS 19)) .none kV30 dc30 pm30 an30 cd30 ct30), sl30⟩) (c30 : PySem.W.codeIn K cd30 "best_plan" = true) (k30 : PySem.W.keepIn K (.ref x30) = true)
    {x31 : Addr} {od31 an31 : Option Addr} {sl31 : Array (Option Value)} {oc31 kV31 dc31 pm31 cd31 ct31 : Value}
    (a31 : PySem.W.nsIn K mainGlobals "mean_looks" = some (some (.ref x31))) (l31 : K.lookup x31 = some ⟨oc31, od31, .func (PySem.W.fnOf "mean_looks" "mean_looks" (defArgs (topS 21)) (defBody (topS 21)) (defScope (topS 21)) .none kV31 dc31 pm31 an31 cd31 ct31), sl31⟩) (c31 : PySem.W.codeIn K cd31 "mean_looks" = true) (k31 : PySem.W.keepIn K (.ref x31) = true)
    {x32 : Addr} {od32 an32 : Option Addr} {sl32 : Array (Option Value)} {oc32 kV32 dc32 pm32 cd32 ct32 : Value}
    (a32 : PySem.W.nsIn K mainGlobals "looks_for" = some (some (.ref x32))) (l32 : K.lookup x32 = some ⟨oc32, od32, .func (PySem.W.fnOf "looks_for" "looks_for" (defArgs (topS 20)) (defBody (topS 20)) (defScope (topS 20)) .none kV32 dc32 pm32 an32 cd32 ct32), sl32⟩) (c32 : PySem.W.codeIn K cd32 "looks_for" = true) (k32 : PySem.W.keepIn K (.ref x32) = true)
    {x33 : Addr} {od33 an33 : Option Addr} {sl33 : Array (Option Value)} {oc33 kV33 dc33 pm33 cd33 ct33 : Value}
    (a33 : PySem.W.nsIn K mainGlobals "law" = some (some (.ref x33))) (l33 : K.lookup x33 = some ⟨oc33, od33, .func (PySem.W.fnOf "law" "law" (defArgs (topS 38)) (defBody (topS 38)) (defScope (topS 38)) .none kV33 dc33 pm33 an33 cd33 ct33), sl33⟩) (c33 : PySem.W.codeIn K cd33 "law" = true) (k33 : PySem.W.keepIn K (.ref x33) = true)
    {q_NOTHING : Addr} {dd_NOTHING : Option Addr} {n_NOTHING : Nat} {sl_NOTHING : Array (Option Value)} {t_NOTHING_0 t_NOTHING_1 : Tok} (ca_NOTHING : PySem.W.nsIn K mainGlobals "NOTHING" = some (some (.ref q_NOTHING))) (cl_NOTHING : K.lookup q_NOTHING = some ⟨.type "tuple", dd_NOTHING, .seq [.int 0 t_NOTHING_0, .int 1 t_NOTHING_1].toArray n_NOTHING, sl_NOTHING⟩)
    {q_WHOLE : Addr} {dd_WHOLE : Option Addr} {n_WHOLE : Nat} {sl_WHOLE : Array (Option Value)} {t_WHOLE_0 t_WHOLE_1 : Tok} (ca_WHOLE : PySem.W.nsIn K mainGlobals "WHOLE" = some (some (.ref q_WHOLE))) (cl_WHOLE : K.lookup q_WHOLE = some ⟨.type "tuple", dd_WHOLE, .seq [.int 1 t_WHOLE_0, .int 1 t_WHOLE_1].toArray n_WHOLE, sl_WHOLE⟩)
    (z_abs : PySem.W.nsIn K mainGlobals "abs" = some none)
    (z_int : PySem.W.nsIn K mainGlobals "int" = some none)
    (z_len : PySem.W.nsIn K mainGlobals "len" = some none)
    (z_list : PySem.W.nsIn K mainGlobals "list" = some none)
    (z_range : PySem.W.nsIn K mainGlobals "range" = some none)
    (z_sum : PySem.W.nsIn K mainGlobals "sum" = some none)
    (z_tuple : PySem.W.nsIn K mainGlobals "tuple" = some none)
    (z_zip : PySem.W.nsIn K mainGlobals "zip" = some none)
    : ∃ fd : FuncData, (∀ (s : Shared) (v : Value), BindsTo s fd ⟨[v], []⟩ [("script", v)]) ∧ ∀ base : Heap, K.In base → base.Ns mainGlobals mg → FnOk l.prog w K mg base CX0 9 fa fd p33 (spLaw K w m_law) := by
  have e := hfa.symm.trans (PySem.W.mg_of X G a33)
  cases e
  have F0 := fun_mk (st := topS 1) l0 c0 k0
  have b0 := F0.binds (ps := p0) fun _ _ _ _ _ _ us hl => match us, hl with | [_, _], _ => rfl
  have F1 := fun_mk (st := topS 7) l1 c1 k1
  have b1 := F1.binds (ps := p1) fun _ _ _ _ _ _ us hl => match us, hl with | [_, _], _ => rfl
  have F2 := fun_mk (st := topS 24) l2 c2 k2
  have b2 := F2.binds (ps := p2) fun _ _ _ _ _ _ us hl => match us, hl with | [_, _], _ => rfl
  have F3 := fun_mk (st := topS 25) l3 c3 k3
  have b3 := F3.binds (ps := p3) fun _ _ _ _ _ _ us hl => match us, hl with | [_, _], _ => rfl
  have F4 := fun_mk (st := topS 27) l4 c4 k4
  have b4 := F4.binds (ps := p4) fun _ _ _ _ _ _ us hl => match us, hl with | [_, _], _ => rfl
  have F5 := fun_mk (st := topS 32) l5 c5 k5
  have b5 := F5.binds (ps := p5) fun _ _ _ _ _ _ us hl => match us, hl with | [_, _], _ => rfl
  have F6 := fun_mk (st := topS 34) l6 c6 k6
  have b6 := F6.binds (ps := p6) fun _ _ _ _ _ _ us hl => match us, hl with | [_], _ => rfl
  have F7 := fun_mk (st := topS 2) l7 c7 k7
  have b7 := F7.binds (ps := p7) fun _ _ _ _ _ _ us hl => match us, hl with | [_, _], _ => rfl
  have F8 := fun_mk (st := topS 26) l8 c8 k8
  have b8 := F8.binds (ps := p8) fun _ _ _ _ _ _ us hl => match us, hl with | [_, _], _ => rfl
  have F9 := fun_mk (st := topS 28) l9 c9 k9
  have b9 := F9.binds (ps := p9) fun _ _ _ _ _ _ us hl => match us, hl with | [_, _], _ => rfl
  have F10 := fun_mk (st := topS 3) l10 c10 k10
  have b10 := F10.binds (ps := p10) fun _ _ _ _ _ _ us hl => match us, hl with | [_, _], _ => rfl
  have F11 := fun_mk (st := topS 4) l11 c11 k11
  have b11 := F11.binds (ps := p11) fun _ _ _ _ _ _ us hl => match us, hl with | [_, _], _ => rfl
  have F12 := fun_mk (st := topS 5) l12 c12 k12
  have b12 := F12.binds (ps := p12) fun _ _ _ _ _ _ us hl => match us, hl with | [_, _], _ => rfl
  have F13 := fun_mk (st := topS 6) l13 c13 k13
  have b13 := F13.binds (ps := p13) fun _ _ _ _ _ _ us hl => match us, hl with | [_, _], _ => rfl
  have F14 := fun_mk (st := topS 12) l14 c14 k14
  have b14 := F14.binds (ps := p14) fun _ _ _ _ _ _ us hl => match us, hl with | [_], _ => rfl
  have F15 := fun_mk (st := topS 29) l15 c15 k15
  have b15 := F15.binds (ps := p15) fun _ _ _ _ _ _ us hl => match us, hl with | [_, _], _ => rfl
  have F16 := fun_mk (st := topS 30) l16 c16 k16
  have b16 := F16.binds (ps := p16) fun _ _ _ _ _ _ us hl => match us, hl with | [_, _], _ => rfl
  have F17 := fun_mk (st := topS 31) l17 c17 k17
  have b17 := F17.binds (ps := p17) fun _ _ _ _ _ _ us hl => match us, hl with | [_, _], _ => rfl
  have F18 := fun_mk (st := topS 8) l18 c18 k18
  have b18 := F18.binds (ps := p18) fun _ _ _ _ _ _ us hl => match us, hl with | [_], _ => rfl
  have F19 := fun_mk (st := topS 13) l19 c19 k19
  have b19 := F19.binds (ps := p19) fun _ _ _ _ _ _ us hl => match us, hl with | [_, _], _ => rfl
  have F20 := fun_mk (st := topS 22) l20 c20 k20
  have b20 := F20.binds (ps := p20) fun _ _ _ _ _ _ us hl => match us, hl with | [_, _], _ => rfl
  have F21 := fun_mk (st := topS 33) l21 c21 k21
  have b21 := F21.binds (ps := p21) fun _ _ _ _ _ _ us hl => match us, hl with | [_], _ => rfl
  have F22 := fun_mk (st := topS 35) l22 c22 k22
  have b22 := F22.binds (ps := p22) fun _ _ _ _ _ _ us hl => match us, hl with | [_, _, _], _ => rfl
  have F23 := fun_mk (st := topS 14) l23 c23 k23
  have b23 := F23.binds (ps := p23) fun _ _ _ _ _ _ us hl => match us, hl with | [_, _, _], _ => rfl
  have F24 := fun_mk (st := topS 36) l24 c24 k24
  have b24 := F24.binds (ps := p24) fun _ _ _ _ _ _ us hl => match us, hl with | [_, _, _], _ => rfl
  have F25 := fun_mk (st := topS 37) l25 c25 k25
  have b25 := F25.binds (ps := p25) fun _ _ _ _ _ _ us hl => match us, hl with | [_, _, _], _ => rfl
  have F26 := fun_mk (st := topS 15) l26 c26 k26
  have b26 := F26.binds (ps := p26) fun _ _ _ _ _ _ us hl => match us, hl with | [_, _, _], _ => rfl
  have F27 := fun_mk (st := topS 16) l27 c27 k27
  have b27 := F27.binds (ps := p27) fun _ _ _ _ _ _ us hl => match us, hl with | [_, _, _], _ => rfl
  have F28 := fun_mk (st := topS 17) l28 c28 k28
  have b28 := F28.binds (ps := p28) fun _ _ _ _ _ _ us hl => match us, hl with | [_, _, _], _ => rfl
  have F29 := fun_mk (st := topS 18) l29 c29 k29
  have b29 := F29.binds (ps := p29) fun _ _ _ _ _ _ us hl => match us, hl with | [_, _], _ => rfl
  have F30 := fun_mk (st := topS 19) l30 c30 k30
  have b30 := F30.binds (ps := p30) fun _ _ _ _ _ _ us hl => match us, hl with | [_, _, _], _ => rfl
  have F31 := fun_mk (st := topS 21) l31 c31 k31
  have b31 := F31.binds (ps := p31) fun _ _ _ _ _ _ us hl => match us, hl with | [_, _, _], _ => rfl
  have F32 := fun_mk (st := topS 20) l32 c32 k32
  have b32 := F32.binds (ps := p32) fun _ _ _ _ _ _ us hl => match us, hl with | [_, _, _], _ => rfl
  have F33 := fun_mk (st := topS 38) l33 c33 k33
  have b33 := F33.binds (ps := p33) fun _ _ _ _ _ _ us hl => match us, hl with | [_], _ => rfl
  exact ⟨PySem.W.fnOf "law" "law" (defArgs (topS 38)) (defBody (topS 38)) (defScope (topS 38)) .none kV33 dc33 pm33 an33 cd33 ct33, fun s v => .of_eq rfl, fun base _ _ => ok_law ⟨x0, _, F0, (PySem.W.mg_of X G a0), b0, x1, _, F1, (PySem.W.mg_of X G a1), b1, x2, _, F2, (PySem.W.mg_of X G a2), b2, x3, _, F3, (PySem.W.mg_of X G a3), b3, x4, _, F4, (PySem.W.mg_of X G a4), b4, x5, _, F5, (PySem.W.mg_of X G a5), b5, x6, _, F6, (PySem.W.mg_of X G a6), b6, x7, _, F7, (PySem.W.mg_of X G a7), b7, x8, _, F8, (PySem.W.mg_of X G a8), b8, x9, _, F9, (PySem.W.mg_of X G a9), b9, x10, _, F10, (PySem.W.mg_of X G a10), b10, x11, _, F11, (PySem.W.mg_of X G a11), b11, x12, _, F12, (PySem.W.mg_of X G a12), b12, x13, _, F13, (PySem.W.mg_of X G a13), b13, x14, _, F14, (PySem.W.mg_of X G a14), b14, x15, _, F15, (PySem.W.mg_of X G a15), b15, x16, _, F16, (PySem.W.mg_of X G a16), b16, x17, _, F17, (PySem.W.mg_of X G a17), b17, x18, _, F18, (PySem.W.mg_of X G a18), b18, x19, _, F19, (PySem.W.mg_of X G a19), b19, x20, _, F20, (PySem.W.mg_of X G a20), b20, x21, _, F21, (PySem.W.mg_of X G a21), b21, x22, _, F22, (PySem.W.mg_of X G a22), b22, x23, _, F23, (PySem.W.mg_of X G a23), b23, x24, _, F24, (PySem.W.mg_of X G a24), b24, x25, _, F25, (PySem.W.mg_of X G a25), b25, x26, _, F26, (PySem.W.mg_of X G a26), b26, x27, _, F27, (PySem.W.mg_of X G a27), b27, x28, _, F28, (PySem.W.mg_of X G a28), b28, x29, _, F29, (PySem.W.mg_of X G a29), b29, x30, _, F30, (PySem.W.mg_of X G a30), b30, x31, _, F31, (PySem.W.mg_of X G a31), b31, x32, _, F32, (PySem.W.mg_of X G a32), b32, fa, _, F33, (PySem.W.mg_of X G a33), b33, (PySem.W.mg_none_of X G z_abs), (PySem.W.mg_none_of X G z_int), (PySem.W.mg_none_of X G z_len), (PySem.W.mg_none_of X G z_list), (PySem.W.mg_none_of X G z_range), (PySem.W.mg_none_of X G z_sum), (PySem.W.mg_none_of X G z_tuple), (PySem.W.mg_none_of X G z_zip), (glob_tup (vs := [.int 0, .int 1]) X G ca_NOTHING cl_NOTHING (Nat.le_of_ble_eq_true rfl) (.cons ⟨_, rfl⟩ (.cons ⟨_, rfl⟩ Paired.nil)) (fun _ _ => (.cons (.int _) (.cons (.int _) Reps.nil)))), (glob_tup (vs := [.int 1, .int 1]) X G ca_WHOLE cl_WHOLE (Nat.le_of_ble_eq_true rfl) (.cons ⟨_, rfl⟩ (.cons ⟨_, rfl⟩ Paired.nil)) (fun _ _ => (.cons (.int _) (.cons (.int _) Reps.nil))))⟩⟩
end K23
open PySem PySem.W PyProof.Rows
set_option maxHeartbeats 0 in
theorem PySem.Challenge.cw_tidestold_k23_whole_looking_for_a_wreck_holds : PySem.Challenge.rw_tidestold_k23_whole_looking_for_a_wreck.Holds := by
  w_on; o_law; k_head; (case hw => w_witness2)
  k_fill
  refine L2.walk_of (l := PySem.Challenge.rw_tidestold_k23_whole_looking_for_a_wreck) (n := 63) (k := 9) (x := "script") (CX := fun _ => L2.CX0) (sp := fun w => TT.spLaw _ w K23.m_law) rfl (by decide) rfl ⟨rfl, by decide, by decide⟩ (fun w h Y => PySem.W.kIn_of Y) ?F (fun _ _ a ns hl o hS => TT.spLaw_true o hS (K23.law_true ns hl)) (fun _ _ _ _ _ h => h)
  case F =>
    intro w mg fa h KX G hmg
    refine' K23.all_mk KX G hmg ?a0 ?l0 ?c0 ?k0 ?a1 ?l1 ?c1 ?k1 ?a2 ?l2 ?c2 ?k2 ?a3 ?l3 ?c3 ?k3 ?a4 ?l4 ?c4 ?k4 ?a5 ?l5 ?c5 ?k5 ?a6 ?l6 ?c6 ?k6 ?a7 ?l7 ?c7 ?k7 ?a8 ?l8 ?c8 ?k8 ?a9 ?l9 ?c9 ?k9 ?a10 ?l10 ?c10 ?k10 ?a11 ?l11 ?c11 ?k11 ?a12 ?l12 ?c12 ?k12 ?a13 ?l13 ?c13 ?k13 ?a14 ?l14 ?c14 ?k14 ?a15 ?l15 ?c15 ?k15 ?a16 ?l16 ?c16 ?k16 ?a17 ?l17 ?c17 ?k17 ?a18 ?l18 ?c18 ?k18 ?a19 ?l19 ?c19 ?k19 ?a20 ?l20 ?c20 ?k20 ?a21 ?l21 ?c21 ?k21 ?a22 ?l22 ?c22 ?k22 ?a23 ?l23 ?c23 ?k23 ?a24 ?l24 ?c24 ?k24 ?a25 ?l25 ?c25 ?k25 ?a26 ?l26 ?c26 ?k26 ?a27 ?l27 ?c27 ?k27 ?a28 ?l28 ?c28 ?k28 ?a29 ?l29 ?c29 ?k29 ?a30 ?l30 ?c30 ?k30 ?a31 ?l31 ?c31 ?k31 ?a32 ?l32 ?c32 ?k32 ?a33 ?l33 ?c33 ?k33 ?ca_NOTHING ?cl_NOTHING ?ca_WHOLE ?cl_WHOLE ?z_abs ?z_int ?z_len ?z_list ?z_range ?z_sum ?z_tuple ?z_zip
    (case a0 => k_is)
    (case l0 => k_is)
    (case c0 => k_is)
    (case k0 => k_is)
    (case a1 => k_is)
    (case l1 => k_is)
    (case c1 => k_is)
    (case k1 => k_is)
    (case a2 => k_is)
    (case l2 => k_is)
    (case c2 => k_is)
    (case k2 => k_is)
    (case a3 => k_is)
    (case l3 => k_is)
    (case c3 => k_is)
    (case k3 => k_is)
    (case a4 => k_is)
    (case l4 => k_is)
    (case c4 => k_is)
    (case k4 => k_is)
    (case a5 => k_is)
    (case l5 => k_is)
    (case c5 => k_is)
    (case k5 => k_is)
    (case a6 => k_is)
    (case l6 => k_is)
    (case c6 => k_is)
    (case k6 => k_is)
    (case a7 => k_is)
    (case l7 => k_is)
    (case c7 => k_is)
    (case k7 => k_is)
    (case a8 => k_is)
    (case l8 => k_is)
    (case c8 => k_is)
    (case k8 => k_is)
    (case a9 => k_is)
    (case l9 => k_is)
    (case c9 => k_is)
    (case k9 => k_is)
    (case a10 => k_is)
    (case l10 => k_is)
    (case c10 => k_is)
    (case k10 => k_is)
    (case a11 => k_is)
    (case l11 => k_is)
    (case c11 => k_is)
    (case k11 => k_is)
    (case a12 => k_is)
    (case l12 => k_is)
    (case c12 => k_is)
    (case k12 => k_is)
    (case a13 => k_is)
    (case l13 => k_is)
    (case c13 => k_is)
    (case k13 => k_is)
    (case a14 => k_is)
    (case l14 => k_is)
    (case c14 => k_is)
    (case k14 => k_is)
    (case a15 => k_is)
    (case l15 => k_is)
    (case c15 => k_is)
    (case k15 => k_is)
    (case a16 => k_is)
    (case l16 => k_is)
    (case c16 => k_is)
    (case k16 => k_is)
    (case a17 => k_is)
    (case l17 => k_is)
    (case c17 => k_is)
    (case k17 => k_is)
    (case a18 => k_is)
    (case l18 => k_is)
    (case c18 => k_is)
    (case k18 => k_is)
    (case a19 => k_is)
    (case l19 => k_is)
    (case c19 => k_is)
    (case k19 => k_is)
    (case a20 => k_is)
    (case l20 => k_is)
    (case c20 => k_is)
    (case k20 => k_is)
    (case a21 => k_is)
    (case l21 => k_is)
    (case c21 => k_is)
    (case k21 => k_is)
    (case a22 => k_is)
    (case l22 => k_is)
    (case c22 => k_is)
    (case k22 => k_is)
    (case a23 => k_is)
    (case l23 => k_is)
    (case c23 => k_is)
    (case k23 => k_is)
    (case a24 => k_is)
    (case l24 => k_is)
    (case c24 => k_is)
    (case k24 => k_is)
    (case a25 => k_is)
    (case l25 => k_is)
    (case c25 => k_is)
    (case k25 => k_is)
    (case a26 => k_is)
    (case l26 => k_is)
    (case c26 => k_is)
    (case k26 => k_is)
    (case a27 => k_is)
    (case l27 => k_is)
    (case c27 => k_is)
    (case k27 => k_is)
    (case a28 => k_is)
    (case l28 => k_is)
    (case c28 => k_is)
    (case k28 => k_is)
    (case a29 => k_is)
    (case l29 => k_is)
    (case c29 => k_is)
    (case k29 => k_is)
    (case a30 => k_is)
    (case l30 => k_is)
    (case c30 => k_is)
    (case k30 => k_is)
    (case a31 => k_is)
    (case l31 => k_is)
    (case c31 => k_is)
    (case k31 => k_is)
    (case a32 => k_is)
    (case l32 => k_is)
    (case c32 => k_is)
    (case k32 => k_is)
    (case a33 => k_is)
    (case l33 => k_is)
    (case c33 => k_is)
    (case k33 => k_is)
    (case ca_NOTHING => k_is)
    (case cl_NOTHING => k_is)
    (case ca_WHOLE => k_is)
    (case cl_WHOLE => k_is)
    (case z_abs => k_is)
    (case z_int => k_is)
    (case z_len => k_is)
    (case z_list => k_is)
    (case z_range => k_is)
    (case z_sum => k_is)
    (case z_tuple => k_is)
    (case z_zip => k_is)

