import PyProof.Rows.All
import Wide.All
import OpenK.AllK
import Wide.FinOn
import HandS.ForMost
import HandS.TupAny
import HandS.TupMul
import HandS.WordsExc
import HandS.ExcInit
import HandS.CallSlots
import KE.SortData
import KE.DataFind
import KE.DataIsa
import KE.DataAny
import KE.DatumIndex
import KE.KDictKeyed
import HandS.Wide
import HandS.Style
import HandS.Zip
import HandS.Conv
import HandS.TryOnly
import KE.DataMinMax
import KE.DataEq
import PyProof.SeqIndex
import KE.KTupSum
import KE.KDictPairs
import HandS.TupLen
import KE.KDictDisplayH
import HandS.Dict
import HandS.TupSets
import HandS.ExcOwn
import HandS.ExcValue
import KE.KDictCopyH
import KE.KDictSum
import PyProof.Rows.Range3
import KE.KEqDict
import PyProof.DictUpdate
import HandS.ExcField
import HandS.ExcIs
import KE.KIsAll
import KE.RegKIsAll
import PySem.Challenge.RW_tidestold_k42_whole_points_of_the_compas
set_option Elab.async false
set_option linter.all false
set_option autoImplicit false
set_option maxRecDepth 100000
set_option maxHeartbeats 0
/-! A typed layer over the hand layer: values as data, judgements that carry a typed mirror. -/
namespace TT
open PySem PySem.Spec PyProof.Rows L2

/-! ### data held by a value -/
/-- a list that nobody writes any more -/
def FzL (K : PySem.W.Frag) (H : Hp) (a : Addr) (vs : List V) : Prop := ∃ o, H a = some (.frz o (.lst vs))
theorem FzL.sq {K : PySem.W.Frag} {H : Hp} {a : Addr} {vs : List V} (h : FzL K H a vs) : SqL K H a vs := .inl (.inr h)
/-! a key as data -/
mutual
def nkOf : PyData → Option NestedKey
  | .none => some .none
  | .bool b => some (.num (if b = true then 1 else 0))
  | .int i => some (.num i)
  | .str x => some (.text x)
  | .tuple xs => (nksOf xs).map .tup
  | .list _ => none
  | .dict _ => none
def nksOf : List PyData → Option (List NestedKey)
  | [] => some []
  | x :: xs => match nkOf x, nksOf xs with
    | some k, some ks => some (k :: ks)
    | _, _ => none
end
/-- a dict's object, entry by entry -/
def DObj (w : World) (o : Obj) (ents : List (NestedKey × V × V)) : Prop :=
  o.ExactDict ∧ (∃ es n, o.data = .dict es n ∧ Paired (fun (e : DictEntry) (x : NestedKey × V × V) => e.hash = x.1.hash w ∧ RelV x.2.1 e.key ∧ RelV x.2.2 e.val) es.toList ents) ∧ (ents.map (·.1)).Nodup

/-- a dict that may be written: its object -/
def DN (a : Addr) (o : Obj) : HO := .ext fun h => h.get? a = some o

mutual
inductive Rep (K : PySem.W.Frag) (w : World) (H : Hp) : V → PyData → Prop
  | non : Rep K w H .non .none
  | bl (b : Bool) : Rep K w H (.bl b) (.bool b)
  | int (i : Int) : Rep K w H (.int i) (.int i)
  | str (x : Str) : Rep K w H (.str x) (.str x)
  | tup {a vs ds} : SqT K H a vs → Reps K w H vs ds → Rep K w H (.ref a) (.tuple ds)
  | lst {a vs ds} : FzL K H a vs → Reps K w H vs ds → Rep K w H (.ref a) (.list ds)
  | dct {a o u ents kvs} : H a = some (.frz o u) → (a == sysModules) = false → DObj w o ents → ents.length ≤ sizeLine → kvs.map (fun p => nkOf p.1) = ents.map (fun x => some x.1) →
      Reps K w H (ents.map (fun x => x.2.1)) (kvs.map (·.1)) → Reps K w H (ents.map (fun x => x.2.2)) (kvs.map (·.2)) → Rep K w H (.ref a) (.dict kvs)
inductive Reps (K : PySem.W.Frag) (w : World) (H : Hp) : List V → List PyData → Prop
  | nil : Reps K w H [] []
  | cons {v d vs ds} : Rep K w H v d → Reps K w H vs ds → Reps K w H (v :: vs) (d :: ds)
end

/-- what stands for good: tuples and what is locked -/
def Firm : HO → Prop
  | .tup _ => True
  | .frz _ _ => True
  | _ => False
/-- a heap's firm things are in another one -/
def Firms (H H' : Hp) : Prop := ∀ b o, H b = some o → Firm o → H' b = some o
theorem SqT.firm {K : PySem.W.Frag} {H H' : Hp} {a : Addr} {vs : List V} (f : Firms H H') (h : SqT K H a vs) : SqT K H' a vs := by
  rcases h with (h | ⟨o, h⟩) | h
  · exact .inl (.inl (f _ _ h trivial))
  · exact .inl (.inr ⟨o, f _ _ h trivial⟩)
  · exact .inr h
theorem FzL.firm {K : PySem.W.Frag} {H H' : Hp} {a : Addr} {vs : List V} (f : Firms H H') (h : FzL K H a vs) : FzL K H' a vs := by
  obtain ⟨o, h⟩ := h
  exact ⟨o, f _ _ h trivial⟩
section
variable {K : PySem.W.Frag} {w : World} {H H' : Hp}
mutual
theorem Rep.firm (f : Firms H H') : ∀ {v d}, Rep K w H v d → Rep K w H' v d
  | _, _, .non => .non
  | _, _, .bl b => .bl b
  | _, _, .int i => .int i
  | _, _, .str x => .str x
  | _, _, .tup h r => .tup (SqT.firm f h) (Reps.firm f r)
  | _, _, .lst h r => .lst (FzL.firm f h) (Reps.firm f r)
  | _, _, .dct h h1 h2 hz h3 r1 r2 => .dct (f _ _ h trivial) h1 h2 hz h3 (Reps.firm f r1) (Reps.firm f r2)
theorem Reps.firm (f : Firms H H') : ∀ {vs ds}, Reps K w H vs ds → Reps K w H' vs ds
  | _, _, .nil => .nil
  | _, _, .cons r t => .cons (Rep.firm f r) (Reps.firm f t)
end
theorem Reps.length : ∀ {vs ds}, Reps K w H vs ds → vs.length = ds.length
  | _, _, .nil => rfl
  | _, _, .cons _ t => by rw [List.length_cons, List.length_cons, Reps.length t]
theorem Reps.get : ∀ {vs ds} {i : Nat} {d : PyData}, Reps K w H vs ds → ds[i]? = some d → ∃ v, vs[i]? = some v ∧ Rep K w H v d
  | _, _, _, _, .nil, e => by simp at e
  | _, _, 0, _, .cons r _, e => by simp at e; subst e; exact ⟨_, rfl, r⟩
  | _, _, i + 1, _, .cons _ t, e => by
    obtain ⟨v, h1, h2⟩ := Reps.get (i := i) t (by simpa using e)
    exact ⟨v, by simpa using h1, h2⟩
theorem Reps.getV : ∀ {vs ds} {i : Nat} {v : V}, Reps K w H vs ds → vs[i]? = some v → ∃ d, ds[i]? = some d ∧ Rep K w H v d
  | _, _, _, _, .nil, e => by simp at e
  | _, _, 0, _, .cons r _, e => by simp at e; subst e; exact ⟨_, rfl, r⟩
  | _, _, i + 1, _, .cons _ t, e => by
    obtain ⟨d, h1, h2⟩ := Reps.getV (i := i) t (by simpa using e)
    exact ⟨d, by simpa using h1, h2⟩
theorem Reps.append : ∀ {vs ws : List V} {ds es : List PyData}, Reps K w H vs ds → Reps K w H ws es → Reps K w H (vs ++ ws) (ds ++ es)
  | _, _, _, _, .nil, s => s
  | _, _, _, _, .cons r t, s => .cons r (Reps.append t s)
theorem Reps.take : ∀ {vs : List V} {ds : List PyData} (n : Nat), Reps K w H vs ds → Reps K w H (vs.take n) (ds.take n)
  | _, _, 0, _ => .nil
  | _, _, _ + 1, .nil => .nil
  | _, _, n + 1, .cons r t => .cons r (Reps.take n t)
theorem Reps.drop : ∀ {vs : List V} {ds : List PyData} (n : Nat), Reps K w H vs ds → Reps K w H (vs.drop n) (ds.drop n)
  | _, _, 0, r => r
  | _, _, _ + 1, .nil => .nil
  | _, _, n + 1, .cons _ t => Reps.drop n t
theorem Reps.set {v : V} {d : PyData} (r : Rep K w H v d) : ∀ {vs : List V} {ds : List PyData} (i : Nat), Reps K w H vs ds → Reps K w H (vs.set i v) (ds.set i d)
  | _, _, _, .nil => .nil
  | _, _, 0, .cons _ t => .cons r t
  | _, _, i + 1, .cons q t => .cons q (Reps.set r i t)
theorem Reps.reverse : ∀ {vs : List V} {ds : List PyData}, Reps K w H vs ds → Reps K w H vs.reverse ds.reverse
  | _, _, .nil => .nil
  | _, _, .cons r t => by
    rw [List.reverse_cons, List.reverse_cons]
    exact (Reps.reverse t).append (.cons r .nil)
theorem Reps.inv {v : V} {vs : List V} {ds : List PyData} (h : Reps K w H (v :: vs) ds) : ∃ d es, ds = d :: es ∧ Rep K w H v d ∧ Reps K w H vs es := by
  cases h with
  | cons r t => exact ⟨_, _, rfl, r, t⟩
theorem Reps.inv' {d : PyData} {vs : List V} {ds : List PyData} (h : Reps K w H vs (d :: ds)) : ∃ v ws, vs = v :: ws ∧ Rep K w H v d ∧ Reps K w H ws ds := by
  cases h with
  | cons r t => exact ⟨_, _, rfl, r, t⟩
end

/-! ### the heap's own reading -/
section
variable {X : Cx} {pins : List (Addr × Obj)} {σ : L2.St} {H : Hp} {s : Shared}
theorem Inv.fzL (I : Inv X pins σ H s) {a : Addr} {vs : List V} (h : FzL X.K H a vs) : ∃ its : List Value, Vals vs its ∧ PlainL s.heap a its.toArray ∧ vs.length ≤ sizeLine := I.list h.sq
theorem pairedReads {α : Type} {f : α → V} {g : α → Value} : ∀ {es : List DictEntry} {ents : List (NestedKey × V × V)}, Paired (fun (e : DictEntry) (x : NestedKey × V × V) => e.hash = x.1.hash X.w ∧ RelV x.2.1 e.key ∧ RelV x.2.2 e.val) es ents →
    Vals (ents.map (fun x => x.2.1)) (es.map (·.key)) ∧ Vals (ents.map (fun x => x.2.2)) (es.map (·.val))
  | _, _, .nil => ⟨.nil, .nil⟩
  | _, _, .cons r t => by
    obtain ⟨h1, h2⟩ := pairedReads (f := f) (g := g) t
    exact ⟨.cons r.2.1 h1, .cons r.2.2 h2⟩
mutual
theorem Inv.reads (I : Inv X pins σ H s) : ∀ {v : V} {d : PyData} {u : Value}, Rep X.K X.w H v d → RelV v u → ∃ as, Reads s.heap u d as
  | _, _, _, .non, r => by cases r; exact ⟨_, .none⟩
  | _, _, _, .bl b, r => by cases r; exact ⟨_, .bool b⟩
  | _, _, _, .int i, r => by obtain ⟨t, rfl⟩ := r; exact ⟨_, .int i t⟩
  | _, _, _, .str x, r => by obtain ⟨t, rfl⟩ := r; exact ⟨_, .str x t⟩
  | _, _, _, .tup h t, r => by
    cases r
    obtain ⟨its, rv, ⟨o, ho, hc, n, hd⟩, _⟩ := I.tuple h
    obtain ⟨as, ra⟩ := Inv.readsAll I t rv
    exact ⟨_, .tuple ho hc hd (by simpa using ra)⟩
  | _, _, _, .lst h t, r => by
    cases r
    obtain ⟨its, rv, ⟨o, n, ho, hc, hx, hd⟩, _⟩ := Inv.fzL I h
    obtain ⟨as, ra⟩ := Inv.readsAll I t rv
    exact ⟨_, .list ho hc hd (by simpa using ra)⟩
  | _, _, _, .dct h h1 h2 hz h3 t1 t2, r => by
    cases r
    obtain ⟨ho, _⟩ := I.hok _ _ h
    obtain ⟨⟨hc, _, _⟩, ⟨es, n, hd, hp⟩, _⟩ := h2
    obtain ⟨k1, k2⟩ := pairedReads (X := X) (α := Nat) (f := fun _ => .non) (g := fun _ => .none) hp
    obtain ⟨as, ra⟩ := Inv.readsAll I t1 k1
    obtain ⟨bs, rb⟩ := Inv.readsAll I t2 k2
    exact ⟨_, .dict ho hc hd ra rb⟩
theorem Inv.readsAll (I : Inv X pins σ H s) : ∀ {vs : List V} {ds : List PyData} {us : List Value}, Reps X.K X.w H vs ds → Vals vs us → ∃ as, ReadsAll s.heap us ds as
  | _, _, _, .nil, r => by cases r; exact ⟨_, .nil⟩
  | _, _, _, .cons h t, r => by
    cases r with
    | cons r1 r2 =>
      obtain ⟨as, ra⟩ := Inv.reads I h r1
      obtain ⟨bs, rb⟩ := Inv.readsAll I t r2
      exact ⟨_, .cons ra rb⟩
end
end
end TT

namespace TT
open PySem PySem.Spec PyProof.Rows L2

/-! ### the mirror's monads -/
/-- an error of the program's own: its class's name, what it carries -/
structure Exc where
  cls : Str
  arg : PyData
/-- what a run gives: nothing (no promise), or a value or an error, with the state -/
abbrev Res (S α : Type) := Option (Except Exc α × S)
def Res.bind {S α β : Type} (x : Res S α) (f : α → S → Res S β) : Res S β := match x with
  | none => none
  | some (.ok a, s) => f a s
  | some (.error e, s) => some (.error e, s)
class PyM (m : Type → Type) [Monad m] where
  S : Type
  run : {α : Type} → m α → S → Res S α
  run_pure : ∀ {α : Type} (a : α) (s : S), run (pure a) s = some (.ok a, s)
  run_bind : ∀ {α β : Type} (x : m α) (f : α → m β) (s : S), run (x >>= f) s = Res.bind (run x s) fun a s' => run (f a) s'
  fromO : {α : Type} → Option α → m α
  run_fromO : ∀ {α : Type} (o : Option α) (s : S), run (fromO o) s = o.map fun a => (Except.ok a, s)
  sup : {α : Type} → (Nat → m α) → m α
  run_sup : ∀ {α : Type} (f : Nat → m α) (s : S) (r : Except Exc α × S), run (sup f) s = some r → ∃ n, run (f n) s = some r
open PyM (fromO)
open Classical in
/-- the first that is something -/
noncomputable def supO {α : Type} (f : Nat → Option α) : Option α := if h : ∃ n, (f n).isSome = true then f (choose h) else none
theorem supO_some {α : Type} {f : Nat → Option α} {a : α} (h : supO f = some a) : ∃ n, f n = some a := by
  unfold supO at h
  split at h
  · exact ⟨_, h⟩
  · cases h
/-- no error comes of it -/
class NoErr (m : Type → Type) [Monad m] [PyM m] : Prop where
  ok : ∀ {α : Type} (x : m α) (s : PyM.S m) e s', PyM.run x s ≠ some (.error e, s')
noncomputable instance : PyM Option where
  S := Unit
  run x _ := x.map fun a => (.ok a, ())
  run_pure _ _ := rfl
  run_bind x f s := by cases x <;> rfl
  fromO o := o
  run_fromO o s := rfl
  sup f := supO f
  run_sup f s r h := by
    obtain ⟨a, h1, h2⟩ := Option.map_eq_some_iff.mp h
    obtain ⟨n, hn⟩ := supO_some h1
    exact ⟨n, by show Option.map _ (f n) = _; rw [hn, ← h2]; rfl⟩
instance : NoErr Option where
  ok x s e s' := by
    show Option.map _ x ≠ _
    cases x <;> simp
/-- values or errors -/
abbrev EM := ExceptT Exc Option
noncomputable instance : PyM EM where
  S := Unit
  run x _ := Option.map (fun r => (r, ())) x.run
  run_pure _ _ := rfl
  run_bind x f s := by
    show Option.map _ (ExceptT.run (ExceptT.bind x f)) = _
    show Option.map _ (Option.bind x _) = Res.bind (Option.map _ (show Option _ from x)) _
    cases (show Option _ from x) with
    | none => rfl
    | some r => cases r <;> rfl
  fromO o := ExceptT.mk (o.map .ok)
  run_fromO o s := by cases o <;> rfl
  sup f := ExceptT.mk (supO fun n => (f n).run)
  run_sup f s r h := by
    obtain ⟨a, h1, h2⟩ := Option.map_eq_some_iff.mp h
    obtain ⟨n, hn⟩ := supO_some (f := fun n => (f n).run) h1
    exact ⟨n, by show Option.map _ ((f n).run) = _; rw [hn, ← h2]; rfl⟩
/-- a state beside -/
abbrev WM (S : Type) := StateT S Option
noncomputable instance (S : Type) : PyM (WM S) where
  S := S
  run x s := (x.run s).map fun p => (.ok p.1, p.2)
  run_pure _ _ := rfl
  run_bind x f s := by
    show Option.map _ (Option.bind (x s) _) = Res.bind (Option.map _ (x s)) _
    cases x s <;> rfl
  fromO o := StateT.mk fun s => o.map fun a => (a, s)
  run_fromO o s := by cases o <;> rfl
  sup f := StateT.mk fun s => supO fun n => (f n).run s
  run_sup f s r h := by
    obtain ⟨a, h1, h2⟩ := Option.map_eq_some_iff.mp h
    obtain ⟨n, hn⟩ := supO_some (f := fun n => (f n).run s) h1
    exact ⟨n, by show Option.map _ ((f n).run s) = _; rw [hn, ← h2]; rfl⟩
instance (S : Type) : NoErr (WM S) where
  ok x s e s' := by
    show Option.map _ (StateT.run x s) ≠ _
    cases StateT.run x s <;> simp

/-! ### the world beside: objects that callees may write -/
structure Wd (K : PySem.W.Frag) (w : World) (m : Type → Type) [Monad m] [PyM m] where
  rel : PyM.S m → Hp → Prop
  mt : Addr → Prop
  exc : Exc → Value → Option Addr → Hp → Prop
  keep : ∀ s H H', rel s H → (∀ b o, H b = some o → H' b = some o) → rel s H'
  other : ∀ s H b o, rel s H → ¬ mt b → (∀ c u, H c = some u → Firm u → c ≠ b) → rel s (upd H b o)
  there : ∀ s H b, rel s H → mt b → ∃ o, H b = some o ∧ ¬ Firm o
/-- nothing beside -/
def wd0 {K : PySem.W.Frag} {w : World} {m : Type → Type} [Monad m] [PyM m] (ex : Exc → Value → Option Addr → Hp → Prop := fun _ _ _ _ => False) : Wd K w m where
  rel _ _ := True
  mt _ := False
  exc := ex
  keep _ _ _ _ _ := trivial
  other _ _ _ _ _ _ _ := trivial
  there _ _ _ _ h := h.elim

/-- all that was tracked, but what the world may write, is as it was -/
def Ext (mt : Addr → Prop) (H H' : Hp) : Prop := ∀ b o, H b = some o → (¬ mt b ∨ Firm o) → H' b = some o
theorem Ext.refl {mt : Addr → Prop} {H : Hp} : Ext mt H H := fun _ _ h _ => h
theorem Ext.trans {mt : Addr → Prop} {H H1 H2 : Hp} (a : Ext mt H H1) (b : Ext mt H1 H2) : Ext mt H H2 := fun c o h k => b c o (a c o h k) k
theorem Ext.firms {mt : Addr → Prop} {H H' : Hp} (a : Ext mt H H') : Firms H H' := fun b o h f => a b o h (.inr f)
theorem Ext.of_same {mt : Addr → Prop} {H H' : Hp} (a : Same H H') : Ext mt H H' := fun b o h _ => a b o h
theorem firms_upd' {H : Hp} {a : Addr} {u u' : HO} (h : H a = some u) (n : ¬ Firm u) : Firms H (upd H a u') := fun b o e f => by
  by_cases hb : b = a
  · subst hb; rw [h] at e; cases e; exact absurd f n
  · rw [upd_ne hb]; exact e
theorem Same.new {H : Hp} {p : Addr} {o : HO} (h : H p = none) : Same H (upd H p o) := fun b x e => by
  rw [upd_ne (ne_of_none e h)]
  exact e

/-! ### the slots -/
inductive Slot where
  /-- a value that nobody writes -/
  | frz (d : PyData)
  /-- a list of the def's own -/
  | own (ds : List PyData)
  /-- a dict of the def's own -/
  | ownD (kvs : List (PyData × PyData))
  /-- the object at an address -/
  | adr (a : Addr)
  /-- the script -/
  | scr (ns : List Int)
def Slot.Own : Slot → Prop
  | .own _ => True
  | .ownD _ => True
  | _ => False
/-- a dict that may be written, as data -/
inductive DCell (K : PySem.W.Frag) (w : World) (H : Hp) : HO → Addr → List (PyData × PyData) → Prop
  | n {ents a o kvs} : (a == sysModules) = false → DObj w o ents → ents.length ≤ sizeLine → kvs.map (fun p => nkOf p.1) = ents.map (fun x => some x.1) → Reps K w H (ents.map (fun x => x.2.1)) (kvs.map (·.1)) → Reps K w H (ents.map (fun x => x.2.2)) (kvs.map (·.2)) → DCell K w H (DN a o) a kvs
theorem DCell.firm {K : PySem.W.Frag} {w : World} {H H' : Hp} {u : HO} {a : Addr} {kvs : List (PyData × PyData)} (f : Firms H H') (h : DCell K w H u a kvs) : DCell K w H' u a kvs := by
  cases h with
  | n g1 g2 g3 h1 h2 h3 => exact .n g1 g2 g3 h1 (Reps.firm f h2) (Reps.firm f h3)
theorem DCell.soft {K : PySem.W.Frag} {w : World} {H : Hp} {u : HO} {a : Addr} {kvs : List (PyData × PyData)} (h : DCell K w H u a kvs) : ¬ Firm u := by
  cases h <;> exact fun z => z
abbrev Slots := List (Option Slot)

section
variable {K : PySem.W.Frag} {w : World}
def SlotOk (K : PySem.W.Frag) (w : World) (mt : Addr → Prop) (H0 H : Hp) : Slot → V → Prop
  | .frz d, v => Rep K w H v d
  | .own ds, v => ∃ a vs, v = .ref a ∧ H a = some (.lst vs) ∧ Reps K w H vs ds ∧ H0 a = none ∧ ¬ mt a
  | .ownD kvs, v => ∃ a u, v = .ref a ∧ H a = some u ∧ DCell K w H u a kvs ∧ H0 a = none ∧ ¬ mt a
  | .adr a, v => v = .ref a
  | .scr ns, v => ∃ a, v = .ref a ∧ SqL K H a (ns.map V.int) ∧ ((∃ o, H a = some (.frz o (.lst (ns.map V.int)))) ∨ ∃ o its n, K.lookup a = some o ∧ o.cls = .type "list" ∧ o.dict = none ∧ o.data = .seq its n ∧ its.size ≤ sizeLine ∧ Vals (ns.map V.int) its.toList)
theorem SlotOk.ext {mt : Addr → Prop} {H0 H H' : Hp} (e : Ext mt H H') : ∀ {x : Slot} {v : V}, SlotOk K w mt H0 H x v → SlotOk K w mt H0 H' x v
  | .frz _, _, h => Rep.firm e.firms h
  | .own _, _, ⟨a, vs, h1, h2, h3, h4, h5⟩ => ⟨a, vs, h1, e a _ h2 (.inl h5), Reps.firm e.firms h3, h4, h5⟩
  | .ownD _, _, ⟨a, u, h1, h2, h3, h4, h5⟩ => ⟨a, u, h1, e a _ h2 (.inl h5), h3.firm e.firms, h4, h5⟩
  | .adr _, _, h => h
  | .scr _, _, ⟨a, h1, h2, h3⟩ => ⟨a, h1, by
    rcases h3 with ⟨o, h3⟩ | h3
    · exact .inl (.inr ⟨o, e.firms _ _ h3 trivial⟩)
    · exact .inr h3, by
    rcases h3 with ⟨o, h3⟩ | h3
    · exact .inl ⟨o, e.firms _ _ h3 trivial⟩
    · exact .inr h3⟩

structure Cfg {m : Type → Type} [Monad m] [PyM m] (C : Wd K w m) (H0 : Hp) (R : Slots) (s : PyM.S m) (σ : L2.St) (H : Hp) : Prop where
  len : σ.length = R.length
  base : Ext C.mt H0 H
  rel : C.rel s H
  slot : ∀ (i : Nat) (x : Slot), R[i]? = some (some x) → ∃ v, σ[i]? = some (some v) ∧ SlotOk K w C.mt H0 H x v
  apart : ∀ (i j : Nat) (x y : Slot), i ≠ j → R[i]? = some (some x) → R[j]? = some (some y) → x.Own → y.Own → σ[i]? ≠ σ[j]?
section
variable {m : Type → Type} [Monad m] [PyM m] {C : Wd K w m} {H0 : Hp} {R R' : Slots} {s s' : PyM.S m} {σ : L2.St} {H H' : Hp}
theorem Cfg.ext (c : Cfg C H0 R s σ H) (e : Ext C.mt H H') (r : C.rel s' H') : Cfg C H0 R s' σ H' :=
  ⟨c.len, c.base.trans e, r, fun i x h => let ⟨v, h1, h2⟩ := c.slot i x h; ⟨v, h1, SlotOk.ext e h2⟩, c.apart⟩
theorem Cfg.same (c : Cfg C H0 R s σ H) (e : Same H H') : Cfg C H0 R s σ H' := c.ext (.of_same e) (C.keep _ _ _ c.rel e)
/-- fewer slots told -/
def SubS : Slots → Slots → Prop
  | [], [] => True
  | none :: r, _ :: r' => SubS r r'
  | some x :: r, y :: r' => y = some x ∧ SubS r r'
  | none :: _, [] => False
  | some _ :: _, [] => False
  | [], _ :: _ => False
theorem SubS.len : ∀ {R R' : Slots}, SubS R R' → R.length = R'.length
  | [], [], _ => rfl
  | none :: r, y :: r', h => by rw [List.length_cons, List.length_cons, SubS.len (R := r) (R' := r') h]
  | some x :: r, y :: r', h => by rw [List.length_cons, List.length_cons, SubS.len (R := r) (R' := r') h.2]
  | none :: _, [], h => h.elim
  | some _ :: _, [], h => h.elim
  | [], _ :: _, h => h.elim
theorem SubS.at : ∀ {R R' : Slots}, SubS R R' → ∀ (i : Nat) (x : Slot), R[i]? = some (some x) → R'[i]? = some (some x)
  | [], _, _, i, x, h => by simp at h
  | none :: r, y :: r', h, 0, x, e => by simp at e
  | none :: r, y :: r', h, i + 1, x, e => by
    have := SubS.at (R := r) (R' := r') h i x (by simpa using e)
    simpa using this
  | some z :: r, y :: r', h, 0, x, e => by
    simp at e ⊢
    rw [h.1, e]
  | some z :: r, y :: r', h, i + 1, x, e => by
    have := SubS.at (R := r) (R' := r') h.2 i x (by simpa using e)
    simpa using this
  | none :: _, [], h, _, _, _ => h.elim
  | some _ :: _, [], h, _, _, _ => h.elim
theorem Cfg.sub (c : Cfg C H0 R s σ H) (h : SubS R' R) : Cfg C H0 R' s σ H :=
  ⟨c.len.trans h.len.symm, c.base, c.rel, fun i x e => c.slot i x (h.at i x e), fun i j x y n e1 e2 => c.apart i j x y n (h.at i x e1) (h.at j y e2)⟩
theorem SubS.refl : ∀ R : Slots, SubS R R
  | [] => trivial
  | none :: r => SubS.refl r
  | some _ :: r => ⟨rfl, SubS.refl r⟩
/-- a slot gets data -/
theorem Cfg.setF {i : Nat} {v : V} {d : PyData} (c : Cfg C H0 R s σ H) (hi : i < R.length) (r : Rep K w H v d) : Cfg C H0 (R.set i (some (.frz d))) s (σ.set i (some v)) H := by
  have hi' : i < σ.length := by rw [c.len]; exact hi
  refine ⟨by rw [List.length_set, List.length_set]; exact c.len, c.base, c.rel, fun j x h => ?_, fun j l x y n h1 h2 ox oy => ?_⟩
  · by_cases e : i = j
    · subst e
      rw [List.getElem?_set_self hi] at h
      cases h
      exact ⟨v, List.getElem?_set_self hi', r⟩
    · rw [List.getElem?_set_ne e] at h ⊢
      exact c.slot j x h
  · have nj : i ≠ j := fun e => by
      subst e
      rw [List.getElem?_set_self hi] at h1
      cases h1
      exact ox
    have nl : i ≠ l := fun e => by
      subst e
      rw [List.getElem?_set_self hi] at h2
      cases h2
      exact oy
    rw [List.getElem?_set_ne nj] at h1 ⊢
    rw [List.getElem?_set_ne nl] at h2 ⊢
    exact c.apart j l x y n h1 h2 ox oy
/-- a slot gets a list of its own -/
theorem Cfg.setO {i : Nat} {a : Addr} {vs : List V} {ds : List PyData} (c : Cfg C H0 R s σ H) (hi : i < R.length) (h : H a = some (.lst vs)) (r : Reps K w H vs ds) (h0 : H0 a = none) (hm : ¬ C.mt a)
    (new : ∀ (j : Nat) (y : Slot), R[j]? = some (some y) → y.Own → σ[j]? ≠ some (some (.ref a))) : Cfg C H0 (R.set i (some (.own ds))) s (σ.set i (some (.ref a))) H := by
  have hi' : i < σ.length := by rw [c.len]; exact hi
  refine ⟨by rw [List.length_set, List.length_set]; exact c.len, c.base, c.rel, fun j x h => ?_, fun j l x y n h1 h2 ox oy => ?_⟩
  · by_cases e : i = j
    · subst e
      rw [List.getElem?_set_self hi] at h
      cases h
      exact ⟨_, List.getElem?_set_self hi', a, vs, rfl, by assumption, r, h0, hm⟩
    · rw [List.getElem?_set_ne e] at h ⊢
      exact c.slot j x h
  · by_cases e1 : i = j
    · subst e1
      rw [List.getElem?_set_self hi']
      rw [List.getElem?_set_ne n] at h2 ⊢
      exact fun q => new l y h2 oy q.symm
    · rw [List.getElem?_set_ne e1] at h1 ⊢
      by_cases e2 : i = l
      · subst e2
        rw [List.getElem?_set_self hi']
        exact new j x h1 ox
      · rw [List.getElem?_set_ne e2] at h2 ⊢
        exact c.apart j l x y n h1 h2 ox oy
/-- a slot gets a dict of its own -/
theorem Cfg.setD {i : Nat} {a : Addr} {u : HO} {kvs : List (PyData × PyData)} (c : Cfg C H0 R s σ H) (hi : i < R.length) (h : H a = some u) (r : DCell K w H u a kvs) (h0 : H0 a = none) (hm : ¬ C.mt a)
    (new : ∀ (j : Nat) (y : Slot), R[j]? = some (some y) → y.Own → σ[j]? ≠ some (some (.ref a))) : Cfg C H0 (R.set i (some (.ownD kvs))) s (σ.set i (some (.ref a))) H := by
  have hi' : i < σ.length := by rw [c.len]; exact hi
  refine ⟨by rw [List.length_set, List.length_set]; exact c.len, c.base, c.rel, fun j x h => ?_, fun j l x y n h1 h2 ox oy => ?_⟩
  · by_cases e : i = j
    · subst e
      rw [List.getElem?_set_self hi] at h
      cases h
      exact ⟨_, List.getElem?_set_self hi', a, u, rfl, by assumption, r, h0, hm⟩
    · rw [List.getElem?_set_ne e] at h ⊢
      exact c.slot j x h
  · by_cases e1 : i = j
    · subst e1
      rw [List.getElem?_set_self hi']
      rw [List.getElem?_set_ne n] at h2 ⊢
      exact fun q => new l y h2 oy q.symm
    · rw [List.getElem?_set_ne e1] at h1 ⊢
      by_cases e2 : i = l
      · subst e2
        rw [List.getElem?_set_self hi']
        exact new j x h1 ox
      · rw [List.getElem?_set_ne e2] at h2 ⊢
        exact c.apart j l x y n h1 h2 ox oy
/-- a list of its own is changed -/
theorem Cfg.updO {i : Nat} {a : Addr} {vs ws : List V} {ds es : List PyData} (c : Cfg C H0 R s σ H) (hR : R[i]? = some (some (.own ds))) (ha : σ[i]? = some (some (.ref a))) (h : H a = some (.lst vs)) (r : Reps K w H ws es) :
    Cfg C H0 (R.set i (some (.own es))) s σ (upd H a (.lst ws)) := by
  obtain ⟨v, e, a', vs', e1, e2, e3, e4, e5⟩ := c.slot i _ hR
  rw [ha] at e; cases e
  cases e1
  have hi : i < R.length := (List.getElem?_eq_some_iff.mp hR).1
  have nf : ∀ b u, H b = some u → Firm u → b ≠ a := fun b u hu f z => by subst z; rw [h] at hu; cases hu; exact f
  have fm : Firms H (upd H a (.lst ws)) := firms_upd' h (fun z => z)
  refine ⟨by rw [List.length_set]; exact c.len, fun b o hb k => ?_, C.other _ _ _ _ c.rel e5 nf, fun j x h1 => ?_, fun j l x y n h1 h2 ox oy => ?_⟩
  · rw [upd_ne (ne_of_none hb e4)]
    exact c.base b o hb k
  · by_cases e : i = j
    · subst e
      rw [List.getElem?_set_self hi] at h1
      cases h1
      exact ⟨_, ha, a, ws, rfl, upd_same, Reps.firm fm r, e4, e5⟩
    · rw [List.getElem?_set_ne e] at h1
      obtain ⟨v, h2, h3⟩ := c.slot j x h1
      refine ⟨v, h2, ?_⟩
      cases x with
      | frz d => exact Rep.firm fm h3
      | adr b => exact h3
      | scr ns =>
        obtain ⟨b, k1, k2, k3⟩ := h3
        refine ⟨b, k1, ?_, ?_⟩
        · rcases k3 with ⟨o, k3⟩ | k3
          · exact .inl (.inr ⟨o, fm _ _ k3 trivial⟩)
          · exact .inr k3
        · rcases k3 with ⟨o, k3⟩ | k3
          · exact .inl ⟨o, fm _ _ k3 trivial⟩
          · exact .inr k3
      | ownD kvs =>
        obtain ⟨b, u, rfl, k1, k2, k3, k4⟩ := h3
        have ne : b ≠ a := fun z => by
          subst z
          exact c.apart i j _ _ e hR h1 trivial trivial (ha.trans h2.symm)
        exact ⟨b, u, rfl, by rw [upd_ne ne]; exact k1, k2.firm fm, k3, k4⟩
      | own ds' =>
        obtain ⟨b, us, rfl, k1, k2, k3, k4⟩ := h3
        have ne : b ≠ a := fun z => by
          subst z
          exact c.apart i j _ _ e hR h1 trivial trivial (ha.trans h2.symm)
        exact ⟨b, us, rfl, by rw [upd_ne ne]; exact k1, Reps.firm fm k2, k3, k4⟩
  · by_cases e1 : i = j
    · subst e1
      rw [List.getElem?_set_ne n] at h2
      exact c.apart i l _ y n hR h2 trivial oy
    · rw [List.getElem?_set_ne e1] at h1
      by_cases e2 : i = l
      · subst e2
        exact c.apart j i x _ n h1 hR ox trivial
      · rw [List.getElem?_set_ne e2] at h2
        exact c.apart j l x y n h1 h2 ox oy
/-- a dict of its own is changed -/
theorem Cfg.updD {i : Nat} {a : Addr} {u u' : HO} {ds es : List (PyData × PyData)} (c : Cfg C H0 R s σ H) (hR : R[i]? = some (some (.ownD ds))) (ha : σ[i]? = some (some (.ref a))) (h : H a = some u) (n : ¬ Firm u) (r : DCell K w H u' a es) :
    Cfg C H0 (R.set i (some (.ownD es))) s σ (upd H a u') := by
  obtain ⟨v, e, a', u0, e1, e2, e3, e4, e5⟩ := c.slot i _ hR
  rw [ha] at e; cases e
  cases e1
  have hi : i < R.length := (List.getElem?_eq_some_iff.mp hR).1
  have nf : ∀ b u, H b = some u → Firm u → b ≠ a := fun b u hu f z => by subst z; rw [h] at hu; cases hu; exact n f
  have fm : Firms H (upd H a u') := firms_upd' h n
  refine ⟨by rw [List.length_set]; exact c.len, fun b o hb k => ?_, C.other _ _ _ _ c.rel e5 nf, fun j x h1 => ?_, fun j l x y n h1 h2 ox oy => ?_⟩
  · rw [upd_ne (ne_of_none hb e4)]
    exact c.base b o hb k
  · by_cases e : i = j
    · subst e
      rw [List.getElem?_set_self hi] at h1
      cases h1
      exact ⟨_, ha, a, u', rfl, upd_same, r.firm fm, e4, e5⟩
    · rw [List.getElem?_set_ne e] at h1
      obtain ⟨v, h2, h3⟩ := c.slot j x h1
      refine ⟨v, h2, ?_⟩
      cases x with
      | frz d => exact Rep.firm fm h3
      | adr b => exact h3
      | scr ns =>
        obtain ⟨b, k1, k2, k3⟩ := h3
        refine ⟨b, k1, ?_, ?_⟩
        · rcases k3 with ⟨o, k3⟩ | k3
          · exact .inl (.inr ⟨o, fm _ _ k3 trivial⟩)
          · exact .inr k3
        · rcases k3 with ⟨o, k3⟩ | k3
          · exact .inl ⟨o, fm _ _ k3 trivial⟩
          · exact .inr k3
      | ownD kvs =>
        obtain ⟨b, u, rfl, k1, k2, k3, k4⟩ := h3
        have ne : b ≠ a := fun z => by
          subst z
          exact c.apart i j _ _ e hR h1 trivial trivial (ha.trans h2.symm)
        exact ⟨b, u, rfl, by rw [upd_ne ne]; exact k1, k2.firm fm, k3, k4⟩
      | own ds' =>
        obtain ⟨b, us, rfl, k1, k2, k3, k4⟩ := h3
        have ne : b ≠ a := fun z => by
          subst z
          exact c.apart i j _ _ e hR h1 trivial trivial (ha.trans h2.symm)
        exact ⟨b, us, rfl, by rw [upd_ne ne]; exact k1, Reps.firm fm k2, k3, k4⟩
  · by_cases e1 : i = j
    · subst e1
      rw [List.getElem?_set_ne n] at h2
      exact c.apart i l _ y n hR h2 trivial oy
    · rw [List.getElem?_set_ne e1] at h1
      by_cases e2 : i = l
      · subst e2
        exact c.apart j i x _ n h1 hR ox trivial
      · rw [List.getElem?_set_ne e2] at h2
        exact c.apart j l x y n h1 h2 ox oy
end

/-! ### what an expression's value may be -/
/-- the heap ahead, the heap behind, the value, the data -/
abbrev Kd := Hp → Hp → V → PyData → Prop
/-- data that nobody writes -/
def kF (K : PySem.W.Frag) (w : World) (mt : Addr → Prop) : Kd := fun _ H' v d => Rep K w H' v d
/-- such, or a list that is only read here -/
def kB (K : PySem.W.Frag) (w : World) (mt : Addr → Prop) : Kd := fun _ H' v d => Rep K w H' v d ∨ (∃ a vs ds, v = .ref a ∧ d = .list ds ∧ H' a = some (.lst vs) ∧ Reps K w H' vs ds ∧ ¬ mt a) ∨ ∃ a u kvs, v = .ref a ∧ d = .dict kvs ∧ H' a = some u ∧ DCell K w H' u a kvs ∧ ¬ mt a
/-- a new list -/
def kO (K : PySem.W.Frag) (w : World) (mt : Addr → Prop) : Kd := fun H H' v d => ∃ a vs ds, v = .ref a ∧ d = .list ds ∧ H' a = some (.lst vs) ∧ Reps K w H' vs ds ∧ H a = none
/-- a new dict -/
def kOD (K : PySem.W.Frag) (w : World) (mt : Addr → Prop) : Kd := fun H H' v d => ∃ a u kvs, v = .ref a ∧ d = .dict kvs ∧ H' a = some u ∧ DCell K w H' u a kvs ∧ H a = none
structure KdOk (k : Kd) : Prop where
  back : ∀ H H1 H2 v d, (∀ a, H1 a = none → H a = none) → k H1 H2 v d → k H H2 v d
theorem kF_ok {mt : Addr → Prop} : KdOk (kF K w mt) := ⟨fun _ _ _ _ _ _ h => h⟩
theorem kB_ok {mt : Addr → Prop} : KdOk (kB K w mt) := ⟨fun _ _ _ _ _ _ h => h⟩
theorem kO_ok {mt : Addr → Prop} : KdOk (kO K w mt) := ⟨fun H H1 H2 v d h ⟨a, vs, ds, e1, e2, e3, e4, e5⟩ => ⟨a, vs, ds, e1, e2, e3, e4, h a e5⟩⟩
theorem kOD_ok {mt : Addr → Prop} : KdOk (kOD K w mt) := ⟨fun H H1 H2 v d h ⟨a, vs, ds, e1, e2, e3, e4, e5⟩ => ⟨a, vs, ds, e1, e2, e3, e4, h a e5⟩⟩
theorem kB.ext {mt : Addr → Prop} {H H1 H2 : Hp} {v : V} {d : PyData} (e : Ext mt H1 H2) (h : kB K w mt H H1 v d) : kB K w mt H H2 v d := by
  rcases h with h | ⟨a, vs, ds, h1, h2, h3, h4, h5⟩ | ⟨a, u, kvs, h1, h2, h3, h4, h5⟩
  · exact .inl (Rep.firm e.firms h)
  · exact .inr (.inl ⟨a, vs, ds, h1, h2, e a _ h3 (.inl h5), Reps.firm e.firms h4, h5⟩)
  · exact .inr (.inr ⟨a, u, kvs, h1, h2, e a _ h3 (.inl h5), h4.firm e.firms, h5⟩)
theorem kF.ext {mt : Addr → Prop} {H H1 H2 : Hp} {v : V} {d : PyData} (e : Ext mt H1 H2) (h : kF K w mt H H1 v d) : kF K w mt H H2 v d := Rep.firm e.firms h
end

/-! ### the judgement of an expression -/
section
variable {K : PySem.W.Frag} {w : World} {m : Type → Type} [Monad m] [PyM m]
/-- behind a run: the value's wish, or the error's -/
def After (C : Wd K w m) (W : WX) (k : Kd) {α : Type} (e : α → PyData) (σ : L2.St) (H : Hp) (Q : VK) : Res (PyM.S m) α → Prop
  | none => False
  | some (.ok a, s') => ∀ v H', Ext C.mt H H' → C.rel s' H' → k H H' v (e a) → Q v H'
  | some (.error x, s') => ∀ cls d H', Ext C.mt H H' → C.rel s' H' → C.exc x cls d H' → W cls d σ H'
def tR (C : Wd K w m) (W : WX) (H0 : Hp) (R : Slots) (k : Kd) {α : Type} (e : α → PyData) (mm : m α) : TE := fun σ H Q => ∃ s, Cfg C H0 R s σ H ∧ After C W k e σ H Q (PyM.run mm s)
structure SX (X : Cx) (C : Wd X.K X.w m) (W : WX) (H0 : Hp) (R : Slots) (k : Kd) (ex : Expr) {α : Type} (e : α → PyData) (mm : m α) : Prop where
  run : PE X ex (tR C W H0 R k e mm)
abbrev SE (X : Cx) (C : Wd X.K X.w m) (W : WX) (H0 : Hp) (R : Slots) (ex : Expr) {α : Type} (e : α → PyData) (mm : m α) : Prop := SX X C W H0 R (kF X.K X.w C.mt) ex e mm
abbrev SB (X : Cx) (C : Wd X.K X.w m) (W : WX) (H0 : Hp) (R : Slots) (ex : Expr) {α : Type} (e : α → PyData) (mm : m α) : Prop := SX X C W H0 R (kB X.K X.w C.mt) ex e mm
abbrev SD (X : Cx) (C : Wd X.K X.w m) (W : WX) (H0 : Hp) (R : Slots) (ex : Expr) {α : Type} (e : α → PyData) (mm : m α) : Prop := SX X C W H0 R (kOD X.K X.w C.mt) ex e mm
abbrev SO (X : Cx) (C : Wd X.K X.w m) (W : WX) (H0 : Hp) (R : Slots) (ex : Expr) {α : Type} (e : α → PyData) (mm : m α) : Prop := SX X C W H0 R (kO X.K X.w C.mt) ex e mm
theorem _root_.L2.PE.weak {X : Cx} {ex : Expr} {t t' : TE} (h : PE X ex t) (i : ∀ σ H Q, t' σ H Q → t σ H Q) : PE X ex t' := ⟨fun pins s σ H Q I q => h.run pins s σ H Q I (i σ H Q q)⟩
theorem _root_.L2.PT.weak {X : Cx} {ex : Expr} {t t' : TT} (h : PT X ex t) (i : ∀ σ H Q, t' σ H Q → t σ H Q) : PT X ex t' := ⟨fun pins s σ H Q I q => h.run pins s σ H Q I (i σ H Q q)⟩
theorem _root_.L2.PSs.weak {X : Cx} {sts : List Stmt} {t t' : TS} (h : PSs X sts t) (i : ∀ D σ H, t' D σ H → t D σ H) : PSs X sts t' := ⟨fun pins s σ H D I q => h.run pins s σ H D I (i D σ H q)⟩
theorem _root_.L2.PS.weak {X : Cx} {st : Stmt} {t t' : TS} (h : PS X st t) (i : ∀ D σ H, t' D σ H → t D σ H) : PS X st t' := ⟨fun pins s σ H D I q => h.run pins s σ H D I (i D σ H q)⟩

variable {C : Wd K w m} {W : WX} {H0 : Hp} {R : Slots} {k k' : Kd} {α β : Type} {ea : α → PyData} {eb : β → PyData} {σ : L2.St} {H : Hp} {Q : VK}
theorem none_back {mt : Addr → Prop} {H H1 : Hp} (e : Ext mt H H1) (t : ∀ b, mt b → ∃ o, H1 b = some o) : ∀ a, H1 a = none → H a = none := fun a h => by
  cases q : H a with
  | none => rfl
  | some o =>
    by_cases hm : mt a
    · obtain ⟨o', h'⟩ := t a hm
      rw [h] at h'; cases h'
    · rw [e a o q (.inl hm)] at h; cases h
/-- the wish of a run that goes on from H, asked of a run from the older heap -/
theorem After.back (kk : KdOk k) {H1 : Hp} {s1 : PyM.S m} (e : Ext C.mt H H1) (r1 : C.rel s1 H1) {r : Res (PyM.S m) α} (h : After C W k ea σ H Q r) : After C W k ea σ H1 Q r := by
  match r, h with
  | some (.ok a, s'), h => exact fun v H' e' rl kv => h v H' (e.trans e') rl (kk.back _ _ _ _ _ (none_back e fun b hb => let ⟨o, ho, _⟩ := C.there _ _ _ r1 hb; ⟨o, ho⟩) kv)
  | some (.error x, s'), h => exact fun cls d H' e' rl kv => h cls d H' (e.trans e') rl kv
/-- one part is evaluated, then the rest -/
theorem tR_bind (kk' : KdOk k') {ma : m α} {f : α → m β} (h : tR C W H0 R k' eb (ma >>= f) σ H Q) :
    tR C W H0 R k ea ma σ H fun v H1 => ∃ a, Ext C.mt H H1 ∧ k H H1 v (ea a) ∧ tR C W H0 R k' eb (f a) σ H1 Q := by
  obtain ⟨s, c, h⟩ := h
  refine ⟨s, c, ?_⟩
  rw [PyM.run_bind] at h
  cases q : PyM.run ma s with
  | none => rw [q] at h; exact h
  | some p =>
    obtain ⟨r, s1⟩ := p
    rw [q] at h
    cases r with
    | error x => exact h
    | ok a => exact fun v H1 e rl kv => ⟨a, e, kv, s1, c.ext e rl, After.back kk' e rl h⟩
/-- the end: a value without another change than new things -/
theorem tR_done {o : Option α} (h : tR C W H0 R k ea (fromO o) σ H Q) : ∃ a, o = some a ∧ (∃ s, Cfg C H0 R s σ H) ∧ ∀ v H', Same H H' → k H H' v (ea a) → Q v H' := by
  obtain ⟨s, c, h⟩ := h
  rw [PyM.run_fromO] at h
  cases o with
  | none => exact h.elim
  | some a => exact ⟨a, rfl, ⟨s, c⟩, fun v H' e kv => h v H' (.of_same e) (C.keep _ _ _ c.rel e) kv⟩
theorem tR_pure {a : α} (h : tR C W H0 R k ea (pure a) σ H Q) : (∃ s, Cfg C H0 R s σ H) ∧ ∀ v H', Same H H' → k H H' v (ea a) → Q v H' := by
  obtain ⟨s, c, h⟩ := h
  rw [PyM.run_pure] at h
  exact ⟨⟨s, c⟩, fun v H' e kv => h v H' (.of_same e) (C.keep _ _ _ c.rel e) kv⟩
theorem tR_imp {mm : m α} (h : tR C W H0 R k ea mm σ H Q) {Q' : VK} (i : ∀ v H', Q v H' → Q' v H') : tR C W H0 R k ea mm σ H Q' := by
  obtain ⟨s, c, h⟩ := h
  refine ⟨s, c, ?_⟩
  cases q : PyM.run mm s with
  | none => rw [q] at h; exact h
  | some p =>
    obtain ⟨r, s1⟩ := p
    rw [q] at h
    cases r with
    | error x => exact h
    | ok a => exact fun v H1 e rl kv => i _ _ (h v H1 e rl kv)
theorem tR_kind {mm : m α} (h : tR C W H0 R k' ea mm σ H Q) (i : ∀ H' v d, Ext C.mt H H' → (∀ b, H' b = none → H b = none) → (∀ b, C.mt b → ∃ o, H b = some o ∧ ¬ Firm o) → k H H' v d → k' H H' v d) : tR C W H0 R k ea mm σ H Q := by
  obtain ⟨s, c, h⟩ := h
  refine ⟨s, c, ?_⟩
  cases q : PyM.run mm s with
  | none => rw [q] at h; exact h
  | some p =>
    obtain ⟨r, s1⟩ := p
    rw [q] at h
    cases r with
    | error x => exact h
    | ok a => exact fun v H1 e rl kv => h v H1 e rl (i H1 v _ e (none_back e fun b hb => let ⟨o, ho, _⟩ := C.there _ _ _ rl hb; ⟨o, ho⟩) (fun b hb => C.there _ _ _ c.rel hb) kv)
end
section
variable {X : Cx} {m : Type → Type} [Monad m] [PyM m] {C : Wd X.K X.w m} {W : WX} {H0 : Hp} {R : Slots} {ex : Expr} {α : Type} {e : α → PyData} {mm : m α}
/-- frozen data may be read -/
theorem SX.b (h : SE X C W H0 R ex e mm) : SB X C W H0 R ex e mm := ⟨h.run.weak fun σ H Q q => tR_kind q fun _ _ _ _ _ _ k => .inl k⟩
/-- a new list may be read -/
theorem SX.ob (h : SO X C W H0 R ex e mm) : SB X C W H0 R ex e mm := ⟨h.run.weak fun σ H Q q => tR_kind q fun H' v d _ _ th ⟨a, vs, ds, h1, h2, h3, h4, h5⟩ => .inr (.inl ⟨a, vs, ds, h1, h2, h3, h4, fun z => by
  obtain ⟨o, ho, _⟩ := th a z
  rw [h5] at ho; cases ho⟩)⟩
/-- a new dict may be read -/
theorem SX.obd (h : SX X C W H0 R (kOD X.K X.w C.mt) ex e mm) : SB X C W H0 R ex e mm := ⟨h.run.weak fun σ H Q q => tR_kind q fun H' v d _ _ th ⟨a, u, ds, h1, h2, h3, h4, h5⟩ => .inr (.inr ⟨a, u, ds, h1, h2, h3, h4, fun z => by
  obtain ⟨o, ho, _⟩ := th a z
  rw [h5] at ho; cases ho⟩)⟩
end

/-! ### freezing -/
/-- a list is locked for good -/
theorem Inv.freeze {X : Cx} {pins : List (Addr × Obj)} {σ : L2.St} {H : Hp} {s : Shared} {a : Addr} {vs : List V} (I : Inv X pins σ H s) (h : H a = some (.lst vs)) : ∃ o, Inv X pins σ (upd H a (.frz o (.lst vs))) s := by
  obtain ⟨hz, its, n, rv, he⟩ := I.hok a _ h
  refine ⟨_, I.write (o := .frz _ (.lst vs)) (t' := s.toks) (by rw [h]; trivial) (.inl rfl) (fun b u _ q => q) ⟨_, he⟩ ⟨he, hz, its, n, rv, he⟩⟩
/-- a dict is locked for good -/
theorem Inv.freezeD {X : Cx} {pins : List (Addr × Obj)} {σ : L2.St} {H : Hp} {s : Shared} {a : Addr} {kvs : List (PyData × PyData)} {K : PySem.W.Frag} {u : HO} (I : Inv X pins σ H s) (h : H a = some u) (d : DCell X.K X.w H u a kvs) : ∃ o, Inv X pins σ (upd H a (.frz o u)) s ∧ (Firms H (upd H a (.frz o u)) → Rep X.K X.w (upd H a (.frz o u)) (.ref a) (.dict kvs)) := by
  cases d with
  | n hs hd hz h1 h2 h3 =>
    rename_i o
    have hk := I.hok a _ h
    have ho : s.heap.get? a = some o := hk.1
    exact ⟨o, I.write (o := .frz o _) (t' := s.toks) (by rw [h]; trivial) (.inl rfl) (fun b u _ q => q) ⟨_, ho⟩ ⟨ho, hk⟩, fun f => .dct upd_same hs hd hz h1 (Reps.firm f h2) (Reps.firm f h3)⟩
theorem _root_.L2.PE.frozenD {X : Cx} {ex : Expr} {t : TE} (h : PE X ex t) : PE X ex fun σ H Q => t σ H fun v H' => Q v H' ∨ ∃ a u kvs, H' a = some u ∧ DCell X.K X.w H' u a kvs ∧ ∀ o, (Firms H' (upd H' a (.frz o u)) → Rep X.K X.w (upd H' a (.frz o u)) (.ref a) (.dict kvs)) → Q v (upd H' a (.frz o u)) := by
  refine ⟨fun pins s σ H Q I q => thn (h.run pins s σ H _ I q) fun u s' ⟨v, H', I', r, q⟩ => ?_⟩
  rcases q with q | ⟨a, u, kvs, ha, hd, q⟩
  · exact ⟨v, H', I', r, q⟩
  · obtain ⟨o, J, g⟩ := Inv.freezeD (K := X.K) I' ha hd
    exact ⟨v, _, J, r, q o g⟩
theorem _root_.L2.PE.frozen {X : Cx} {ex : Expr} {t : TE} (h : PE X ex t) : PE X ex fun σ H Q => t σ H fun v H' => Q v H' ∨ ∃ a vs, H' a = some (.lst vs) ∧ ∀ o, Q v (upd H' a (.frz o (.lst vs))) := by
  refine ⟨fun pins s σ H Q I q => thn (h.run pins s σ H _ I q) fun u s' ⟨v, H', I', r, q⟩ => ?_⟩
  rcases q with q | ⟨a, vs, ha, q⟩
  · exact ⟨v, H', I', r, q⟩
  · obtain ⟨o, J⟩ := Inv.freeze I' ha
    exact ⟨v, _, J, r, q o⟩
section
variable {K : PySem.W.Frag} {w : World}
theorem firms_freeze {H : Hp} {a : Addr} {u u' : HO} (h : H a = some u) (n : ¬ Firm u) : Firms H (upd H a u') := fun b o e f => by
  by_cases hb : b = a
  · subst hb; rw [h] at e; cases e; exact absurd f n
  · rw [upd_ne hb]; exact e
end
section
variable {X : Cx} {m : Type → Type} [Monad m] [PyM m] {C : Wd X.K X.w m} {W : WX} {H0 : Hp} {R : Slots} {ex : Expr} {α : Type} {e : α → PyData} {mm : m α}
/-- a new list becomes data -/
theorem SX.f (h : SO X C W H0 R ex e mm) : SE X C W H0 R ex e mm := by
  refine ⟨(PE.frozen h.run).weak fun σ H Q q => ?_⟩
  obtain ⟨s, c, q⟩ := q
  refine ⟨s, c, ?_⟩
  cases z : PyM.run mm s with
  | none => rw [z] at q; exact q
  | some p =>
    obtain ⟨r, s1⟩ := p
    rw [z] at q
    cases r with
    | error x => exact q
    | ok a =>
      rintro v H' ex rl ⟨b, vs, ds, rfl, e2, e3, e4, e5⟩
      have nm : ¬ C.mt b := fun z => by
        obtain ⟨o, ho, _⟩ := C.there _ _ _ c.rel z
        rw [e5] at ho; cases ho
      have ne : ∀ b' u, H' b' = some u → Firm u → b' ≠ b := fun b' u hu f z => by subst z; rw [e3] at hu; cases hu; exact f
      refine .inr ⟨b, vs, e3, fun o => q _ _ (fun b' u hu k => ?_) (C.other _ _ _ _ rl nm ne) ?_⟩
      · have h1 := ex b' u hu k
        rw [upd_ne (ne_of_none hu e5)]
        exact h1
      · show Rep _ _ _ _ (e a)
        rw [e2]
        exact .lst ⟨o, upd_same⟩ (Reps.firm (firms_freeze e3 (fun z => z)) e4)
/-- a new dict becomes data -/
theorem SX.fd (h : SX X C W H0 R (kOD X.K X.w C.mt) ex e mm) : SE X C W H0 R ex e mm := by
  refine ⟨(PE.frozenD h.run).weak fun σ H Q q => ?_⟩
  obtain ⟨s, c, q⟩ := q
  refine ⟨s, c, ?_⟩
  cases z : PyM.run mm s with
  | none => rw [z] at q; exact q
  | some p =>
    obtain ⟨r, s1⟩ := p
    rw [z] at q
    cases r with
    | error x => exact q
    | ok a =>
      rintro v H' ex rl ⟨b, u, ds, rfl, e2, e3, e4, e5⟩
      have nm : ¬ C.mt b := fun z => by
        obtain ⟨o, ho, _⟩ := C.there _ _ _ c.rel z
        rw [e5] at ho; cases ho
      have ne : ∀ b' u', H' b' = some u' → Firm u' → b' ≠ b := fun b' u' hu f z => by subst z; rw [e3] at hu; cases hu; exact e4.soft f
      refine .inr ⟨b, u, ds, e3, e4, fun o g => q _ _ (fun b' u' hu k => ?_) (C.other _ _ _ _ rl nm ne) ?_⟩
      · have h1 := ex b' u' hu k
        rw [upd_ne (ne_of_none hu e5)]
        exact h1
      · show Rep _ _ _ _ (e a)
        rw [e2]
        exact g (firms_freeze e3 e4.soft)

end
end TT

namespace TT
open PyM (fromO)
open PySem PySem.Spec PyProof.Rows L2

/-! ### encoders -/
abbrev eInt : Int → PyData := .int
abbrev eBool : Bool → PyData := .bool
abbrev eStr : Str → PyData := .str
abbrev eNon : Unit → PyData := fun _ => .none
abbrev eAny : PyData → PyData := fun d => d
def eOpt {α : Type} (e : α → PyData) : Option α → PyData
  | none => .none
  | some a => e a
def eTup {α : Type} (e : α → PyData) : List α → PyData := fun xs => .tuple (xs.map e)
def eLst {α : Type} (e : α → PyData) : List α → PyData := fun xs => .list (xs.map e)
def eNil : Unit → PyData := fun _ => .tuple []
def eT1 {α : Type} (e : α → PyData) : α → PyData := fun p => .tuple [e p]
def eT2 {α β : Type} (e : α → PyData) (f : β → PyData) : α × β → PyData := fun p => .tuple [e p.1, f p.2]
def eT3 {α β γ : Type} (e : α → PyData) (f : β → PyData) (g : γ → PyData) : α × β × γ → PyData := fun p => .tuple [e p.1, f p.2.1, g p.2.2]
def eT4 {α β γ δ : Type} (e : α → PyData) (f : β → PyData) (g : γ → PyData) (h : δ → PyData) : α × β × γ × δ → PyData := fun p => .tuple [e p.1, f p.2.1, g p.2.2.1, h p.2.2.2]
def eT5 {α β γ δ ε : Type} (e : α → PyData) (f : β → PyData) (g : γ → PyData) (h : δ → PyData) (i : ε → PyData) : α × β × γ × δ × ε → PyData := fun p => .tuple [e p.1, f p.2.1, g p.2.2.1, h p.2.2.2.1, i p.2.2.2.2]

section
variable {K : PySem.W.Frag} {w : World} {mt : Addr → Prop} {H H' : Hp} {v : V}
theorem kB_int {i : Int} (h : kB K w mt H H' v (.int i)) : v = .int i := by
  rcases h with h | ⟨_, _, _, _, e, _⟩ | ⟨_, _, _, _, e, _⟩
  · cases h; rfl
  · cases e
  · cases e
theorem kB_bool {i : Bool} (h : kB K w mt H H' v (.bool i)) : v = .bl i := by
  rcases h with h | ⟨_, _, _, _, e, _⟩ | ⟨_, _, _, _, e, _⟩
  · cases h; rfl
  · cases e
  · cases e
theorem kB_str {i : Str} (h : kB K w mt H H' v (.str i)) : v = .str i := by
  rcases h with h | ⟨_, _, _, _, e, _⟩ | ⟨_, _, _, _, e, _⟩
  · cases h; rfl
  · cases e
  · cases e
theorem kB_non (h : kB K w mt H H' v .none) : v = .non := by
  rcases h with h | ⟨_, _, _, _, e, _⟩ | ⟨_, _, _, _, e, _⟩
  · cases h; rfl
  · cases e
  · cases e
theorem kB_tup {ds : List PyData} (h : kB K w mt H H' v (.tuple ds)) : ∃ a vs, v = .ref a ∧ SqT K H' a vs ∧ Reps K w H' vs ds := by
  rcases h with h | ⟨_, _, _, _, e, _⟩ | ⟨_, _, _, _, e, _⟩
  · cases h with
    | tup h r => exact ⟨_, _, rfl, h, r⟩
  · cases e
  · cases e
theorem kB_rd {ds : List PyData} (h : kB K w mt H H' v (.list ds)) : ∃ a vs, v = .ref a ∧ Rd H' a (.lst vs) ∧ Reps K w H' vs ds := by
  rcases h with h | ⟨a, vs, ds', h1, e, h2, h3, _⟩ | ⟨_, _, _, _, e, _⟩
  · cases h with
    | lst h r => exact ⟨_, _, rfl, .inr h, r⟩
  · cases e
    exact ⟨a, vs, h1, .inl h2, h3⟩
  · cases e
theorem kB_lst {ds : List PyData} (h : kB K w mt H H' v (.list ds)) : ∃ a vs, v = .ref a ∧ SqL K H' a vs ∧ Reps K w H' vs ds :=
  let ⟨a, vs, h1, h2, h3⟩ := kB_rd h; ⟨a, vs, h1, .inl h2, h3⟩
end

section
variable {X : Cx} {m : Type → Type} [Monad m] [PyM m] {C : Wd X.K X.w m} {W : WX} {H0 : Hp} {R : Slots} {k : Kd} {α β γ : Type} {ea : α → PyData} {eb : β → PyData} {ec : γ → PyData}
variable {a b : Expr} {ma : m α} {mb : m β} {pos : Pos}
theorem SX.weak {ex : Expr} {t : TE} {e : α → PyData} {mm : m α} (h : PE X ex t) (i : ∀ σ H Q, tR C W H0 R k e mm σ H Q → t σ H Q) : SX X C W H0 R k ex e mm := ⟨h.weak i⟩
/-- the monad's term may be said otherwise -/
theorem SX.eq {ex : Expr} {e : α → PyData} {mm mm' : m α} (h : SX X C W H0 R k ex e mm) (q : mm' = mm) : SX X C W H0 R k ex e mm' := by rw [q]; exact h
/-- the value may be said otherwise -/
theorem SX.map {ex : Expr} {e : α → PyData} {mm : m α} (h : SX X C W H0 R k ex e mm) (kk : KdOk k) (f : α → β) (q : ∀ a, eb (f a) = e a) : SX X C W H0 R k ex eb (mm >>= fun a => pure (f a)) :=
  .weak h.run fun σ H Q q1 => by
    obtain ⟨s, c, h⟩ := q1
    refine ⟨s, c, ?_⟩
    rw [PyM.run_bind] at h
    cases z : PyM.run mm s with
    | none => rw [z] at h; exact h
    | some p =>
      obtain ⟨r, s1⟩ := p
      rw [z] at h
      cases r with
      | error x => exact h
      | ok a =>
        have h' : After C W k eb σ H Q (PyM.run (pure (f a)) s1) := h
        rw [PyM.run_pure] at h'
        exact fun v H1 e rl kv => h' v H1 e rl (by rw [q]; exact kv)

/-! ### names and constants -/
theorem se_var {i : Nat} {x : Str} {d : α} (hN : X.N[i]? = some x) (hv : Vis X.env.scope x) (hR : R[i]? = some (some (.frz (ea d)))) (hd : (x == ("__debug__" : Str)) = false) (hcd : (x == ("__classdict__" : Str)) = false) :
    SE X C W H0 R (.Name x pos) ea (pure d) := .weak (pe_var hN hv hd hcd) fun σ H Q h => by
  obtain ⟨⟨s, c⟩, q⟩ := tR_pure h
  obtain ⟨v, e, ok⟩ := c.slot i _ hR
  exact ⟨v, e, q v H (.refl H) ok⟩
theorem sb_own {i : Nat} {x : Str} {d : List α} (hN : X.N[i]? = some x) (hv : Vis X.env.scope x) (hR : R[i]? = some (some (.own (d.map ea)))) (hd : (x == ("__debug__" : Str)) = false) (hcd : (x == ("__classdict__" : Str)) = false) :
    SB X C W H0 R (.Name x pos) (eLst ea) (pure d) := .weak (pe_var hN hv hd hcd) fun σ H Q h => by
  obtain ⟨⟨s, c⟩, q⟩ := tR_pure h
  obtain ⟨v, e, a, vs, h1, h2, h3, h4, h5⟩ := c.slot i _ hR
  exact ⟨v, e, q v H (.refl H) (.inr (.inl ⟨a, vs, _, h1, rfl, h2, h3, h5⟩))⟩
theorem se_int {i : Int} {j} : SE X C W H0 R (.Constant (.int i) j pos) eInt (pure i) := .weak pe_int fun σ H Q h => (tR_pure h).2 _ H (.refl H) (.int i)
theorem se_bool {i : Bool} {j} : SE X C W H0 R (.Constant (.bool i) j pos) eBool (pure i) := .weak pe_bl fun σ H Q h => (tR_pure h).2 _ H (.refl H) (.bl i)
theorem se_str {x : Str} {j} : SE X C W H0 R (.Constant (.str x) j pos) eStr (pure x) := .weak pe_str fun σ H Q h => (tR_pure h).2 _ H (.refl H) (.str x)
theorem se_non {j} : SE X C W H0 R (.Constant .none j pos) eNon (pure ()) := .weak pe_non fun σ H Q h => (tR_pure h).2 _ H (.refl H) .non
theorem se_non_any {j} : SE X C W H0 R (.Constant .none j pos) eAny (pure PyData.none) := .weak pe_non fun σ H Q h => (tR_pure h).2 _ H (.refl H) .non
theorem se_non_opt {j} : SE X C W H0 R (.Constant .none j pos) (eOpt ea) (pure none) := .weak pe_non fun σ H Q h => (tR_pure h).2 _ H (.refl H) .non

/-! ### two operands -/
theorem tR_two {tb : TE} (kk : KdOk k) {g : α → β → m γ} {σ : L2.St} {H : Hp} {Q : VK} (h : tR C W H0 R k ec (ma >>= fun i => mb >>= fun j => g i j) σ H Q) {r : V → V → Hp → Prop}
    (i : ∀ x y H i j, kB X.K X.w C.mt H H x (ea i) → kB X.K X.w C.mt H H y (eb j) → tR C W H0 R k ec (g i j) σ H Q → r x y H) :
    tR C W H0 R (kB X.K X.w C.mt) ea ma σ H fun x H1 => tR C W H0 R (kB X.K X.w C.mt) eb mb σ H1 fun y H2 => r x y H2 :=
  tR_imp (tR_bind kk h) fun x H1 ⟨a, e1, k1, h1⟩ => tR_imp (tR_bind kk h1) fun y H2 ⟨b, e2, k2, h2⟩ => i x y H2 a b (kB.ext e2 k1) k2 h2
theorem sx_bin {op : Operator} {r : R2} (kk : KdOk k) (ho : OpR X (binaryOp op) r) (ha : SB X C W H0 R a ea ma) (hb : SB X C W H0 R b eb mb) {g : α → β → m γ}
    (h : ∀ x y σ H Q i j, kB X.K X.w C.mt H H x (ea i) → kB X.K X.w C.mt H H y (eb j) → tR C W H0 R k ec (g i j) σ H Q → r x y H Q) :
    SX X C W H0 R k (.BinOp a op b pos) ec (ma >>= fun i => mb >>= fun j => g i j) :=
  .weak (pe_op ho ha.run hb.run) fun σ H Q q => tR_two (tb := fun _ _ _ => True) kk q fun x y H2 i j k1 k2 q2 => h x y σ H2 Q i j k1 k2 q2
/-- a comparison, as a value or as a test -/
structure SC (X : Cx) (C : Wd X.K X.w m) (W : WX) (H0 : Hp) (R : Slots) (op : CmpOp) (a b : Expr) (mm : m Bool) : Prop where
  run : PC X op a b (tR C W H0 R (kF X.K X.w C.mt) eBool mm)
theorem SC.e {op : CmpOp} {mm : m Bool} (h : SC X C W H0 R op a b mm) (hm : behindInMarks op b = false) : SE X C W H0 R (.Compare a [op] [b] pos) eBool mm := ⟨pe_cmp h.run hm⟩
theorem sc_cmp {op : CmpOp} {r : R2} (ho : OpR X (compareOp op) r) (ha : SB X C W H0 R a ea ma) (hb : SB X C W H0 R b eb mb) {g : α → β → m Bool}
    (h : ∀ x y σ H Q i j, kB X.K X.w C.mt H H x (ea i) → kB X.K X.w C.mt H H y (eb j) → tR C W H0 R (kF X.K X.w C.mt) eBool (g i j) σ H Q → r x y H Q) :
    SC X C W H0 R op a b (ma >>= fun i => mb >>= fun j => g i j) :=
  ⟨⟨fun pins s σ H Q I q => binT ha.run hb.run I (tR_two (tb := fun _ _ _ => True) (r := fun x y H => r x y H Q) kF_ok q fun x y H2 i j k1 k2 q2 => h x y σ H2 Q i j k1 k2 q2) fun v u s2 x y H2 I2 rx ry q => ho pins s2 σ H2 x y v u Q I2 rx ry q⟩⟩
/-- a one-place thing -/
theorem tR_one (kk : KdOk k) {g : α → m γ} {σ : L2.St} {H : Hp} {Q : VK} (h : tR C W H0 R k ec (ma >>= fun i => g i) σ H Q) {r : V → Hp → Prop}
    (i : ∀ x H i, kB X.K X.w C.mt H H x (ea i) → tR C W H0 R k ec (g i) σ H Q → r x H) : tR C W H0 R (kB X.K X.w C.mt) ea ma σ H r :=
  tR_imp (tR_bind kk h) fun x H1 ⟨a, e1, k1, h1⟩ => i x H1 a k1 h1

/-! ### ints -/
variable {mi mj : m Int}
def mulG (i j : Int) : Option Int := if i.natAbs < 2 ^ 4000 ∧ j.natAbs < 2 ^ 4000 then some (i * j) else none
def divG (i j : Int) : Option Int := if (0 < j ∧ j.natAbs < 2 ^ 4000) ∨ (j ≠ 0 ∧ j.natAbs < 1073741824) then some (i.fdiv j) else none
def modG (i j : Int) : Option Int := if j ≠ 0 then some (i.fmod j) else none
def powG (i j : Int) : Option Int := if 0 ≤ j ∧ j ≤ 1000 ∧ i.natAbs < 2 ^ 64 then some (i ^ j.toNat) else none
theorem op_fdivG : OpR X (binaryOp .FloorDiv) (rI (fun _ j => (0 < j ∧ j.natAbs < 2 ^ 4000) ∨ (j ≠ 0 ∧ j.natAbs < 1073741824)) fun i j => .int (i.fdiv j)) := opI fun i j _ _ _ _ _ hc q => by
  rcases hc with ⟨h1, h2⟩ | ⟨h1, h2⟩
  · exact floordiv_int (by omega) q (.inl (PyProof.noPylong_of_log2 (wide_div (i := i) h1 h2 (by decide) (by decide)).2))
  · exact floordiv_int h1 q (.inl (PyProof.noPylong_small h2))
theorem se_add (ha : SB X C W H0 R a eInt mi) (hb : SB X C W H0 R b eInt mj) : SE X C W H0 R (.BinOp a .Add b pos) eInt (mi >>= fun i => mj >>= fun j => pure (i + j)) :=
  sx_bin kF_ok op_add ha hb fun x y σ H Q i j k1 k2 q => ⟨i, j, kB_int k1, kB_int k2, (tR_pure q).2 _ H (.refl H) (.int _)⟩
theorem se_sub (ha : SB X C W H0 R a eInt mi) (hb : SB X C W H0 R b eInt mj) : SE X C W H0 R (.BinOp a .Sub b pos) eInt (mi >>= fun i => mj >>= fun j => pure (i - j)) :=
  sx_bin kF_ok op_sub ha hb fun x y σ H Q i j k1 k2 q => ⟨i, j, kB_int k1, kB_int k2, (tR_pure q).2 _ H (.refl H) (.int _)⟩
theorem se_mul (ha : SB X C W H0 R a eInt mi) (hb : SB X C W H0 R b eInt mj) : SE X C W H0 R (.BinOp a .Mult b pos) eInt (mi >>= fun i => mj >>= fun j => fromO (mulG i j)) :=
  sx_bin kF_ok op_mulW ha hb fun x y σ H Q i j k1 k2 q => by
    obtain ⟨c, e, _, q⟩ := tR_done q
    unfold mulG at e
    split at e
    · rename_i g
      cases e
      exact ⟨i, j, kB_int k1, kB_int k2, wide_mul g.1 g.2 (by decide) (by decide) (by decide), q _ H (.refl H) (.int _)⟩
    · cases e
theorem se_fdiv (ha : SB X C W H0 R a eInt mi) (hb : SB X C W H0 R b eInt mj) : SE X C W H0 R (.BinOp a .FloorDiv b pos) eInt (mi >>= fun i => mj >>= fun j => fromO (divG i j)) :=
  sx_bin kF_ok op_fdivG ha hb fun x y σ H Q i j k1 k2 q => by
    obtain ⟨c, e, _, q⟩ := tR_done q
    unfold divG at e
    split at e
    · rename_i g
      cases e
      exact ⟨i, j, kB_int k1, kB_int k2, g, q _ H (.refl H) (.int _)⟩
    · cases e
theorem se_mod (ha : SB X C W H0 R a eInt mi) (hb : SB X C W H0 R b eInt mj) : SE X C W H0 R (.BinOp a .Mod b pos) eInt (mi >>= fun i => mj >>= fun j => fromO (modG i j)) :=
  sx_bin kF_ok op_modN ha hb fun x y σ H Q i j k1 k2 q => by
    obtain ⟨c, e, _, q⟩ := tR_done q
    unfold modG at e
    split at e
    · rename_i g
      cases e
      exact ⟨i, j, kB_int k1, kB_int k2, g, q _ H (.refl H) (.int _)⟩
    · cases e
theorem se_pow (ha : SB X C W H0 R a eInt mi) (hb : SB X C W H0 R b eInt mj) : SE X C W H0 R (.BinOp a .Pow b pos) eInt (mi >>= fun i => mj >>= fun j => fromO (powG i j)) :=
  sx_bin kF_ok op_pow ha hb fun x y σ H Q i j k1 k2 q => by
    obtain ⟨c, e, _, q⟩ := tR_done q
    unfold powG at e
    split at e
    · rename_i g
      cases e
      exact ⟨i, j, kB_int k1, kB_int k2, ⟨g.1, Int.le_trans g.2.1 (by decide), g.2.2⟩, q _ H (.refl H) (.int _)⟩
    · cases e
theorem se_neg (ha : SB X C W H0 R a eInt mi) : SE X C W H0 R (.UnaryOp .USub a pos) eInt (mi >>= fun i => pure (-i)) :=
  .weak (pe_un un_neg ha.run) fun σ H Q q => tR_one kF_ok q fun x H1 i k1 q1 => ⟨i, kB_int k1, (tR_pure q1).2 _ H1 (.refl H1) (.int _)⟩

/-! ### comparisons of ints -/
theorem sc_lt (ha : SB X C W H0 R a eInt mi) (hb : SB X C W H0 R b eInt mj) : SC X C W H0 R .Lt a b (mi >>= fun i => mj >>= fun j => pure (decide (i < j))) :=
  sc_cmp op_lt ha hb fun x y σ H Q i j k1 k2 q => ⟨i, j, kB_int k1, kB_int k2, (tR_pure q).2 _ H (.refl H) (.bl _)⟩
theorem sc_le (ha : SB X C W H0 R a eInt mi) (hb : SB X C W H0 R b eInt mj) : SC X C W H0 R .LtE a b (mi >>= fun i => mj >>= fun j => pure (decide (i ≤ j))) :=
  sc_cmp op_le ha hb fun x y σ H Q i j k1 k2 q => ⟨i, j, kB_int k1, kB_int k2, (tR_pure q).2 _ H (.refl H) (.bl _)⟩
theorem sc_gt (ha : SB X C W H0 R a eInt mi) (hb : SB X C W H0 R b eInt mj) : SC X C W H0 R .Gt a b (mi >>= fun i => mj >>= fun j => pure (decide (j < i))) :=
  sc_cmp op_gt ha hb fun x y σ H Q i j k1 k2 q => ⟨i, j, kB_int k1, kB_int k2, (tR_pure q).2 _ H (.refl H) (.bl _)⟩
theorem sc_ge (ha : SB X C W H0 R a eInt mi) (hb : SB X C W H0 R b eInt mj) : SC X C W H0 R .GtE a b (mi >>= fun i => mj >>= fun j => pure (decide (j ≤ i))) :=
  sc_cmp op_ge ha hb fun x y σ H Q i j k1 k2 q => ⟨i, j, kB_int k1, kB_int k2, (tR_pure q).2 _ H (.refl H) (.bl _)⟩

/-! ### == and != of any data -/
theorem reps_plain {K : PySem.W.Frag} {w : World} {H : Hp} {a : Addr} {vs : List V} {ds : List PyData} (h : SqL K H a vs) : True := trivial
/-- what may be compared -/
def eqG (x y : PyData) : Option Bool := if x.plain = true ∧ y.plain = true ∧ min x.depth y.depth < 60 then some (PyData.eqv x y) else none
theorem Inv.readsB {pins : List (Addr × Obj)} {σ : L2.St} {H : Hp} {s : Shared} (I : Inv X pins σ H s) {mt : Addr → Prop} {H1 : Hp} {v : V} {d : PyData} {u : Value} (h : kB X.K X.w mt H1 H v d) (r : RelV v u) : ∃ as, Reads s.heap u d as := by
  rcases h with h | ⟨a, vs, ds, rfl, rfl, h2, h3, _⟩ | ⟨a, z, kvs, rfl, rfl, h2, h3, _⟩
  · exact Inv.reads I h r
  · cases r
    obtain ⟨its, rv, ⟨o, n, ho, hc, hx, hd⟩, _⟩ := I.list (.inl (.inl h2))
    obtain ⟨as, ra⟩ := Inv.readsAll I h3 rv
    exact ⟨_, .list ho hc hd (by simpa using ra)⟩
  · cases r
    cases h3 with
    | n hs dd hz g1 g2 g3 =>
      obtain ⟨hc, ⟨es, n, hd, hp⟩, _⟩ := dd
      have ho := (I.hok _ _ h2).1
      obtain ⟨k1, k2⟩ := pairedReads (X := X) (α := Nat) (f := fun _ => .non) (g := fun _ => .none) hp
      obtain ⟨as, ra⟩ := Inv.readsAll I g2 k1
      obtain ⟨bs, rb⟩ := Inv.readsAll I g3 k2
      exact ⟨_, .dict ho hc.1 hd ra rb⟩
def rDat (mt : Addr → Prop) (X : Cx) (g : PyData → PyData → Option Bool) : R2 := fun x y H Q => ∃ d e b, kB X.K X.w mt H H x d ∧ kB X.K X.w mt H H y e ∧ g d e = some b ∧ Q (.bl b) H
theorem op_eqG {mt : Addr → Prop} (hu : X.A.units + 64 < cLine) : OpR X (compareOp .Eq) (rDat mt X eqG) := by
  intro pins s σ H x y v u Q I rx ry h
  obtain ⟨d, e, b, hx, hy, g, q⟩ := h
  obtain ⟨as, ra⟩ := Inv.readsB I hx rx
  obtain ⟨bs, rb⟩ := Inv.readsB I hy ry
  unfold eqG at g
  split at g
  · rename_i c
    cases g
    exact SeqAt.eq_plain ra rb c.1 c.2.1 (by omega) (fin_bl I q rfl)
  · cases g
theorem op_neG {mt : Addr → Prop} (hu : X.A.units + 64 < cLine) : OpR X (compareOp .NotEq) (rDat mt X fun x y => (eqG x y).map not) := by
  intro pins s σ H x y v u Q I rx ry h
  obtain ⟨d, e, b, hx, hy, g, q⟩ := h
  obtain ⟨as, ra⟩ := Inv.readsB I hx rx
  obtain ⟨bs, rb⟩ := Inv.readsB I hy ry
  have g : (eqG d e).map not = some b := g
  unfold eqG at g
  split at g
  · rename_i c
    cases g
    exact SeqAt.ne_plain ra rb c.1 c.2.1 (by omega) (fin_bl I q rfl)
  · cases g
theorem sc_dat {op : CmpOp} {g : PyData → PyData → Option Bool} (ho : OpR X (compareOp op) (rDat C.mt X g)) (ha : SB X C W H0 R a ea ma) (hb : SB X C W H0 R b eb mb) :
    SC X C W H0 R op a b (ma >>= fun i => mb >>= fun j => fromO (g (ea i) (eb j))) :=
  sc_cmp ho ha hb fun x y σ H Q i j k1 k2 q => by
    obtain ⟨c, e, _, q⟩ := tR_done q
    exact ⟨_, _, c, k1, k2, e, q _ H (.refl H) (.bl _)⟩
theorem sc_eq (hu : X.A.units + 64 < cLine) (ha : SB X C W H0 R a ea ma) (hb : SB X C W H0 R b eb mb) : SC X C W H0 R .Eq a b (ma >>= fun i => mb >>= fun j => fromO (eqG (ea i) (eb j))) := sc_dat (op_eqG hu) ha hb
theorem sc_ne (hu : X.A.units + 64 < cLine) (ha : SB X C W H0 R a ea ma) (hb : SB X C W H0 R b eb mb) : SC X C W H0 R .NotEq a b (ma >>= fun i => mb >>= fun j => fromO ((eqG (ea i) (eb j)).map not)) := sc_dat (op_neG hu) ha hb
end
end TT

namespace TT
open PyM (fromO)
open PySem PySem.Spec PyProof.Rows L2

/-! ### tests -/
section
variable {K : PySem.W.Frag} {w : World} {m : Type → Type} [Monad m] [PyM m]
def AfterT (C : Wd K w m) (W : WX) (σ : L2.St) (H : Hp) (Q : Bool → Hp → Prop) : Res (PyM.S m) Bool → Prop
  | none => False
  | some (.ok a, s') => ∀ H', Ext C.mt H H' → C.rel s' H' → Q a H'
  | some (.error x, s') => ∀ cls d H', Ext C.mt H H' → C.rel s' H' → C.exc x cls d H' → W cls d σ H'
def tT (C : Wd K w m) (W : WX) (H0 : Hp) (R : Slots) (mm : m Bool) : TT := fun σ H Q => ∃ s, Cfg C H0 R s σ H ∧ AfterT C W σ H Q (PyM.run mm s)
structure ST (X : Cx) (C : Wd X.K X.w m) (W : WX) (H0 : Hp) (R : Slots) (ex : Expr) (mm : m Bool) : Prop where
  run : PT X ex (tT C W H0 R mm)
/-- a test whatever its whole is -/
structure SW (X : Cx) (C : Wd X.K X.w m) (W : WX) (H0 : Hp) (R : Slots) (ex : Expr) (mm : m Bool) : Prop where
  run : PW X ex (tT C W H0 R mm)
theorem SW.t {X : Cx} {C : Wd X.K X.w m} {W : WX} {H0 : Hp} {R : Slots} {ex : Expr} {mm : m Bool} (h : SW X C W H0 R ex mm) : ST X C W H0 R ex mm := ⟨h.run.pt⟩
theorem _root_.L2.PW.weak {X : Cx} {ex : Expr} {t t' : TT} (h : PW X ex t) (i : ∀ σ H Q, t' σ H Q → t σ H Q) : PW X ex t' := ⟨fun wh pins s σ H Q I q => h.run wh pins s σ H Q I (i σ H Q q)⟩
variable {C : Wd K w m} {W : WX} {H0 : Hp} {R : Slots} {k : Kd} {β : Type} {eb : β → PyData} {σ : L2.St} {H : Hp} {Q : VK}
theorem tT_bind (kk : KdOk k) {mc : m Bool} {f : Bool → m β} (h : tR C W H0 R k eb (mc >>= f) σ H Q) : tT C W H0 R mc σ H fun c H1 => tR C W H0 R k eb (f c) σ H1 Q := by
  obtain ⟨s, c, h⟩ := h
  refine ⟨s, c, ?_⟩
  rw [PyM.run_bind] at h
  cases q : PyM.run mc s with
  | none => rw [q] at h; exact h
  | some p =>
    obtain ⟨r, s1⟩ := p
    rw [q] at h
    cases r with
    | error x => exact h
    | ok a => exact fun H1 e rl => ⟨s1, c.ext e rl, After.back kk e rl h⟩
theorem tTT_bind {mc : m Bool} {f : Bool → m Bool} {Q : Bool → Hp → Prop} (h : tT C W H0 R (mc >>= f) σ H Q) : tT C W H0 R mc σ H fun c H1 => tT C W H0 R (f c) σ H1 Q := by
  obtain ⟨s, c, h⟩ := h
  refine ⟨s, c, ?_⟩
  rw [PyM.run_bind] at h
  cases q : PyM.run mc s with
  | none => rw [q] at h; exact h
  | some p =>
    obtain ⟨r, s1⟩ := p
    rw [q] at h
    cases r with
    | error x => exact h
    | ok a =>
      refine fun H1 e rl => ⟨s1, c.ext e rl, ?_⟩
      have h : AfterT C W σ H Q (PyM.run (f a) s1) := h
      cases z : PyM.run (f a) s1 with
      | none => rw [z] at h; exact h
      | some p2 =>
        obtain ⟨r2, s2⟩ := p2
        rw [z] at h
        cases r2 with
        | error x => exact fun cls d H' e' rl' => h cls d H' (e.trans e') rl'
        | ok a => exact fun H' e' rl' => h H' (e.trans e') rl'
theorem tT_pure {b : Bool} {Q : Bool → Hp → Prop} (h : tT C W H0 R (pure b) σ H Q) : Q b H := by
  obtain ⟨s, c, h⟩ := h
  rw [PyM.run_pure] at h
  exact h H .refl c.rel
/-- a bool's evaluation, as a test -/
theorem tT_of {mm : m Bool} {Q : Bool → Hp → Prop} (h : tT C W H0 R mm σ H Q) : tR C W H0 R (kF K w C.mt) eBool mm σ H fun x H' => ∃ c, x = .bl c ∧ Q c H' := by
  obtain ⟨s, c, h⟩ := h
  refine ⟨s, c, ?_⟩
  cases q : PyM.run mm s with
  | none => rw [q] at h; exact h
  | some p =>
    obtain ⟨r, s1⟩ := p
    rw [q] at h
    cases r with
    | error x => exact h
    | ok a => exact fun v H1 e rl kv => ⟨a, kB_bool (mt := C.mt) (H := H1) (.inl kv), h H1 e rl⟩
end
section
variable {X : Cx} {m : Type → Type} [Monad m] [PyM m] {C : Wd X.K X.w m} {W : WX} {H0 : Hp} {R : Slots} {k : Kd} {α β γ : Type} {ea : α → PyData} {eb : β → PyData} {ec : γ → PyData}
variable {a b c : Expr} {es : List Expr} {ma : m α} {mb : m β} {mi mj : m Int} {pos : Pos} {mc md : m Bool}
theorem SX.t (h : SE X C W H0 R a eBool mc) (he : ∀ whole, isTrue a X.env whole = (do let v ← whole; standAt a.pos; holding [v] (truthy v))) : ST X C W H0 R a mc :=
  ⟨(pt_val h.run he).weak fun σ H Q q => tT_of q⟩
theorem SC.t {op : CmpOp} (h : SC X C W H0 R op a b mc) (hm : behindInMarks op b = false) : ST X C W H0 R (.Compare a [op] [b] pos) mc := ⟨(pt_cmp h.run hm).weak fun σ H Q q => tT_of q⟩
theorem sw_and1 (h : ST X C W H0 R a mc) : SW X C W H0 R (.BoolOp .And [a] pos) mc := ⟨pw_and1 h.run⟩
theorem sw_or1 (h : ST X C W H0 R a mc) : SW X C W H0 R (.BoolOp .Or [a] pos) mc := ⟨pw_or1 h.run⟩
theorem sw_and (ha : ST X C W H0 R a mc) (hb : SW X C W H0 R (.BoolOp .And (b :: es) pos) md) : SW X C W H0 R (.BoolOp .And (a :: b :: es) pos) (mc >>= fun c => if c = true then md else pure false) :=
  ⟨(pw_and ha.run hb.run).weak fun σ H Q q => by
    obtain ⟨s, c, q⟩ := tTT_bind q
    refine ⟨s, c, ?_⟩
    cases z : PyM.run mc s with
    | none => rw [z] at q; exact q
    | some p =>
      obtain ⟨r, s1⟩ := p
      rw [z] at q
      cases r with
      | error x => exact q
      | ok a =>
        intro H' e rl
        have q := q H' e rl
        cases a with
        | true => exact q
        | false => exact tT_pure q⟩
theorem sw_or (ha : ST X C W H0 R a mc) (hb : SW X C W H0 R (.BoolOp .Or (b :: es) pos) md) : SW X C W H0 R (.BoolOp .Or (a :: b :: es) pos) (mc >>= fun c => if c = true then pure true else md) :=
  ⟨(pw_or ha.run hb.run).weak fun σ H Q q => by
    obtain ⟨s, c, q⟩ := tTT_bind q
    refine ⟨s, c, ?_⟩
    cases z : PyM.run mc s with
    | none => rw [z] at q; exact q
    | some p =>
      obtain ⟨r, s1⟩ := p
      rw [z] at q
      cases r with
      | error x => exact q
      | ok a =>
        intro H' e rl
        have q := q H' e rl
        cases a with
        | true => exact tT_pure q
        | false => exact q⟩
theorem st_not (ha : ST X C W H0 R a mc) : ST X C W H0 R (.UnaryOp .Not a pos) (mc >>= fun c => pure (!c)) :=
  ⟨(pt_not ha.run).weak fun σ H Q q => by
    obtain ⟨s, c, q⟩ := tTT_bind q
    refine ⟨s, c, ?_⟩
    cases z : PyM.run mc s with
    | none => rw [z] at q; exact q
    | some p =>
      obtain ⟨r, s1⟩ := p
      rw [z] at q
      cases r with
      | error x => exact q
      | ok a => exact fun H' e rl => tT_pure (q H' e rl)⟩
theorem kF_bool {K : PySem.W.Frag} {w : World} {mt : Addr → Prop} {H H' : Hp} {v : V} {i : Bool} (h : kF K w mt H H' v (.bool i)) : v = .bl i := kB_bool (mt := mt) (H := H) (.inl h)
/-- and, or, not as values -/
theorem se_and1 (h : SE X C W H0 R a eBool mc) : SE X C W H0 R (.BoolOp .And [a] pos) eBool mc := ⟨pe_one h.run⟩
theorem se_or1 (h : SE X C W H0 R a eBool mc) : SE X C W H0 R (.BoolOp .Or [a] pos) eBool mc := ⟨pe_one h.run⟩
theorem se_and (ha : SE X C W H0 R a eBool mc) (hb : SE X C W H0 R (.BoolOp .And (b :: es) pos) eBool md) : SE X C W H0 R (.BoolOp .And (a :: b :: es) pos) eBool (mc >>= fun c => if c = true then md else pure false) :=
  .weak (pe_and ha.run hb.run) fun σ H Q q => tR_imp (tR_bind kF_ok q) fun v H1 ⟨a, e, kv, q1⟩ => ⟨a, kF_bool kv, by
    cases a with
    | true => exact q1
    | false => exact (tR_pure q1).2 _ H1 (.refl H1) (.bl _)⟩
theorem se_or (ha : SE X C W H0 R a eBool mc) (hb : SE X C W H0 R (.BoolOp .Or (b :: es) pos) eBool md) : SE X C W H0 R (.BoolOp .Or (a :: b :: es) pos) eBool (mc >>= fun c => if c = true then pure true else md) :=
  .weak (pe_or ha.run hb.run) fun σ H Q q => tR_imp (tR_bind kF_ok q) fun v H1 ⟨a, e, kv, q1⟩ => ⟨a, kF_bool kv, by
    cases a with
    | true => exact (tR_pure q1).2 _ H1 (.refl H1) (.bl _)
    | false => exact q1⟩
theorem se_not (ha : SE X C W H0 R a eBool mc) : SE X C W H0 R (.UnaryOp .Not a pos) eBool (mc >>= fun c => pure (!c)) :=
  .weak (pe_not ha.run) fun σ H Q q => tR_imp (tR_bind kF_ok q) fun v H1 ⟨a, e, kv, q1⟩ => ⟨a, kF_bool kv, (tR_pure q1).2 _ H1 (.refl H1) (.bl _)⟩
theorem sx_if {na nb : m α} (kk : KdOk k) (hc : ST X C W H0 R c mc) (ha : SX X C W H0 R k a ea na) (hb : SX X C W H0 R k b ea nb) : SX X C W H0 R k (.IfExp c a b pos) ea (mc >>= fun c => if c = true then na else nb) :=
  .weak (pe_ifExp hc.run ha.run hb.run) fun σ H Q q => by
    obtain ⟨s, c, q⟩ := tT_bind kk q
    refine ⟨s, c, ?_⟩
    cases z : PyM.run mc s with
    | none => rw [z] at q; exact q
    | some p =>
      obtain ⟨r, s1⟩ := p
      rw [z] at q
      cases r with
      | error x => exact q
      | ok a =>
        intro H' e rl
        have q := q H' e rl
        cases a with
        | true => exact q
        | false => exact q
/-- is None -/
def isNon : PyData → Bool
  | .none => true
  | _ => false
theorem isNon_of {K : PySem.W.Frag} {w : World} {mt : Addr → Prop} {H H' : Hp} {v : V} {d : PyData} (h : kB K w mt H H' v d) : decide (v = .non) = isNon d := by
  rcases h with h | ⟨a, vs, ds, rfl, rfl, _⟩ | ⟨a, vs, ds, rfl, rfl, _⟩
  · cases h <;> simp [isNon]
  · simp [isNon]
  · simp [isNon]
theorem sc_is {j} {pos' : Pos} (ha : SB X C W H0 R a ea ma) : SC X C W H0 R .Is a (.Constant .none j pos') (ma >>= fun i => pure (isNon (ea i))) :=
  sc_cmp (mb := pure ()) (eb := eNon) op_isN ha (SX.b se_non) (g := fun i _ => pure (isNon (ea i))) (fun x y σ H Q i j k1 k2 q => ⟨kB_non k2, by rw [isNon_of k1]; exact (tR_pure q).2 _ H (.refl H) (.bl _)⟩) |> fun h => ⟨by
    have := h.run
    refine ⟨fun pins s σ H Q I q => this.run pins s σ H Q I ?_⟩
    obtain ⟨s, c, q⟩ := q
    refine ⟨s, c, ?_⟩
    have e : PyM.run (ma >>= fun i => (pure () : m Unit) >>= fun _ => pure (isNon (ea i))) s = PyM.run (ma >>= fun i => pure (isNon (ea i))) s := by
      rw [PyM.run_bind, PyM.run_bind]
      congr 1
      funext a s'
      rw [PyM.run_bind, PyM.run_pure]
      rfl
    rw [e]
    exact q⟩
theorem sc_isnot {j} {pos' : Pos} (ha : SB X C W H0 R a ea ma) : SC X C W H0 R .IsNot a (.Constant .none j pos') (ma >>= fun i => pure (!isNon (ea i))) :=
  sc_cmp (mb := pure ()) (eb := eNon) op_notN ha (SX.b se_non) (g := fun i _ => pure (!isNon (ea i))) (fun x y σ H Q i j k1 k2 q => ⟨kB_non k2, by rw [isNon_of k1]; exact (tR_pure q).2 _ H (.refl H) (.bl _)⟩) |> fun h => ⟨by
    have := h.run
    refine ⟨fun pins s σ H Q I q => this.run pins s σ H Q I ?_⟩
    obtain ⟨s, c, q⟩ := q
    refine ⟨s, c, ?_⟩
    have e : PyM.run (ma >>= fun i => (pure () : m Unit) >>= fun _ => pure (!isNon (ea i))) s = PyM.run (ma >>= fun i => pure (!isNon (ea i))) s := by
      rw [PyM.run_bind, PyM.run_bind]
      congr 1
      funext a s'
      rw [PyM.run_bind, PyM.run_pure]
      rfl
    rw [e]
    exact q⟩
end

/-! ### argument lists and displays -/
section
variable {K : PySem.W.Frag} {w : World} {m : Type → Type} [Monad m] [PyM m]
def AfterA (C : Wd K w m) (W : WX) {γ : Type} (eg : γ → List PyData) (σ : L2.St) (H : Hp) (Q : List V → Hp → Prop) : Res (PyM.S m) γ → Prop
  | none => False
  | some (.ok g, s') => ∀ vs H', Ext C.mt H H' → C.rel s' H' → Reps K w H' vs (eg g) → Q vs H'
  | some (.error x, s') => ∀ cls d H', Ext C.mt H H' → C.rel s' H' → C.exc x cls d H' → W cls d σ H'
def tA (C : Wd K w m) (W : WX) (H0 : Hp) (R : Slots) {γ : Type} (eg : γ → List PyData) (mm : m γ) : TA := fun σ H Q => ∃ s, Cfg C H0 R s σ H ∧ AfterA C W eg σ H Q (PyM.run mm s)
structure SA (X : Cx) (C : Wd X.K X.w m) (W : WX) (H0 : Hp) (R : Slots) (es : List Expr) {γ : Type} (eg : γ → List PyData) (mm : m γ) : Prop where
  run : PA X es (tA C W H0 R eg mm)
theorem _root_.L2.PA.weak {X : Cx} {es : List Expr} {t t' : TA} (h : PA X es t) (i : ∀ σ H Q, t' σ H Q → t σ H Q) : PA X es t' := ⟨fun pos pins s σ H Q I q => h.run pos pins s σ H Q I (i σ H Q q)⟩
end
section
variable {X : Cx} {m : Type → Type} [Monad m] [PyM m] {C : Wd X.K X.w m} {W : WX} {H0 : Hp} {R : Slots} {k : Kd} {α β γ : Type} {ea : α → PyData} {eb : β → PyData} {ec : γ → PyData}
variable {a b c : Expr} {es : List Expr} {ma : m α} {mb : m β} {mi mj : m Int} {pos : Pos} {mc md : m Bool} {eg : γ → List PyData} {mg : m γ}
theorem sa_one (ha : SE X C W H0 R a ea ma) (hs : starEach (a :: []) X.env = (false, eval a X.env) :: starEach [] X.env := by rfl) : SA X C W H0 R [a] (fun x => [ea x]) ma :=
  ⟨(pa_cons ha.run pa_nil hs).weak fun σ H Q q => by
    obtain ⟨s, c, q⟩ := q
    refine ⟨s, c, ?_⟩
    cases z : PyM.run ma s with
    | none => rw [z] at q; exact q
    | some p =>
      obtain ⟨r, s1⟩ := p
      rw [z] at q
      cases r with
      | error x => exact q
      | ok a => exact fun v H' e rl kv => q [v] H' e rl (.cons kv .nil)⟩
theorem sa_cons (ha : SE X C W H0 R a ea ma) (hb : SA X C W H0 R es eg mg) (hs : starEach (a :: es) X.env = (false, eval a X.env) :: starEach es X.env := by rfl) :
    SA X C W H0 R (a :: es) (fun p : α × γ => ea p.1 :: eg p.2) (ma >>= fun x => mg >>= fun g => pure (x, g)) :=
  ⟨(pa_cons ha.run hb.run hs).weak fun σ H Q q => by
    obtain ⟨s, c, q⟩ := q
    refine ⟨s, c, ?_⟩
    rw [PyM.run_bind] at q
    cases z : PyM.run ma s with
    | none => rw [z] at q; exact q
    | some p =>
      obtain ⟨r, s1⟩ := p
      rw [z] at q
      cases r with
      | error x => exact q
      | ok a =>
        intro v H1 e rl kv
        have q : AfterA C W (fun p : α × γ => ea p.1 :: eg p.2) σ H Q (PyM.run (mg >>= fun g => pure (a, g)) s1) := q
        rw [PyM.run_bind] at q
        refine ⟨s1, c.ext e rl, ?_⟩
        cases z2 : PyM.run mg s1 with
        | none => rw [z2] at q; exact q
        | some p2 =>
          obtain ⟨r2, s2⟩ := p2
          rw [z2] at q
          cases r2 with
          | error x => exact fun cls d H' e' rl' => q cls d H' (e.trans e') rl'
          | ok g =>
            have q : AfterA C W (fun p : α × γ => ea p.1 :: eg p.2) σ H Q (PyM.run (pure (a, g) : m (α × γ)) s2) := q
            rw [PyM.run_pure] at q
            exact fun vs H' e' rl' rs => q (v :: vs) H' (e.trans e') rl' (.cons (Rep.firm e'.firms kv) rs)⟩
theorem small64 {n : Nat} (h : n ≤ 64) : n ≤ sizeLine := Nat.le_trans h (by rw [sizeLine_eq]; decide)
theorem se_tup {et : γ → PyData} {x1 : Nat} (h : SA X C W H0 R es eg mg) (q : ∀ g, et g = .tuple (eg g)) (hl : ∀ g, (eg g).length ≤ 64) : SE X C W H0 R (.Tuple es x1 pos) et mg :=
  .weak (pe_tup h.run) fun σ H Q z => by
    obtain ⟨s, c, z⟩ := z
    refine ⟨s, c, ?_⟩
    cases y : PyM.run mg s with
    | none => rw [y] at z; exact z
    | some p =>
      obtain ⟨r, s1⟩ := p
      rw [y] at z
      cases r with
      | error x => exact z
      | ok g =>
        intro vs H' e rl rs
        refine ⟨small64 (by rw [rs.length]; exact hl g), fun p hp => z _ _ (e.trans (.of_same (Same.new hp))) (C.keep _ _ _ rl (Same.new hp)) ?_⟩
        show Rep _ _ _ _ (et g)
        rw [q]
        exact .tup (.of upd_same) (Reps.firm (fun b o h _ => Same.new hp b o h) rs)
theorem se_tup0 {x1} : SE X C W H0 R (.Tuple [] x1 pos) (eTup ea) (pure []) :=
  .weak (pe_tup pa_nil) fun σ H Q z => ⟨small64 (Nat.zero_le _), fun p hp => (tR_pure z).2 _ _ (Same.new hp) (.tup (.of upd_same) .nil)⟩
theorem so_nil : SO X C W H0 R (.List [] pos) (eLst ea) (pure []) :=
  .weak (pe_lst pa_nil) fun σ H Q z => ⟨small64 (Nat.zero_le _), fun p hp => (tR_pure z).2 _ _ (Same.new hp) ⟨p, [], [], rfl, rfl, upd_same, .nil, hp⟩⟩
theorem so_lst {f : γ → List α} (h : SA X C W H0 R es eg mg) (q : ∀ g, (f g).map ea = eg g) (hl : ∀ g, (eg g).length ≤ 64) : SO X C W H0 R (.List es pos) (eLst ea) (mg >>= fun g => pure (f g)) :=
  .weak (pe_lst h.run) fun σ H Q z => by
    obtain ⟨s, c, z⟩ := z
    refine ⟨s, c, ?_⟩
    rw [PyM.run_bind] at z
    cases y : PyM.run mg s with
    | none => rw [y] at z; exact z
    | some p =>
      obtain ⟨r, s1⟩ := p
      rw [y] at z
      cases r with
      | error x => exact z
      | ok g =>
        intro vs H' e rl rs
        have z : After C W (kO X.K X.w C.mt) (eLst ea) σ H Q (PyM.run (pure (f g)) s1) := z
        rw [PyM.run_pure] at z
        refine ⟨small64 (by rw [rs.length]; exact hl g), fun p hp => z _ _ (e.trans (.of_same (Same.new hp))) (C.keep _ _ _ rl (Same.new hp)) ⟨p, vs, eg g, rfl, ?_, upd_same, Reps.firm (fun b o h _ => Same.new hp b o h) rs, ?_⟩⟩
        · show PyData.list _ = _
          rw [q]
        · exact none_back e (fun b hb => let ⟨o, ho, _⟩ := C.there _ _ _ rl hb; ⟨o, ho⟩) p hp
/-- a tuple of things of one kind -/
theorem se_tupH {f : γ → List α} {x1 : Nat} (h : SA X C W H0 R es eg mg) (q : ∀ g, (f g).map ea = eg g) (hl : ∀ g, (eg g).length ≤ 64) : SE X C W H0 R (.Tuple es x1 pos) (eTup ea) (mg >>= fun g => pure (f g)) :=
  SX.map (se_tup (et := fun g => .tuple (eg g)) h (fun _ => rfl) hl) kF_ok f fun g => by show PyData.tuple _ = _; rw [q]

/-! ### subscripts -/
theorem Reps.atI {K : PySem.W.Frag} {w : World} {H : Hp} {vs : List V} {ds : List PyData} {i : Int} {d : PyData} (r : Reps K w H vs ds) (h : L2.atI ds i = some d) : ∃ v, L2.atI vs i = some v ∧ Rep K w H v d := by
  unfold L2.atI at h ⊢
  rw [r.length]
  cases e : ixN ds.length i with
  | none => rw [e] at h; cases h
  | some j =>
    rw [e] at h
    exact r.get h
theorem atI_map {f : α → β} {xs : List α} {i : Int} : L2.atI (xs.map f) i = (L2.atI xs i).map f := by
  unfold L2.atI
  rw [List.length_map]
  cases ixN xs.length i with
  | none => rfl
  | some j => exact List.getElem?_map
theorem sx_ix {r : R2} (kk : KdOk k) (hr : IxR X r) (ha : SB X C W H0 R a ea ma) (hb : SB X C W H0 R b eb mb) (hs : PlainIx b) {g : α → β → m γ}
    (h : ∀ x y σ H Q i j, kB X.K X.w C.mt H H x (ea i) → kB X.K X.w C.mt H H y (eb j) → tR C W H0 R k ec (g i j) σ H Q → r x y H Q) :
    SX X C W H0 R k (.Subscript a b pos) ec (ma >>= fun i => mb >>= fun j => g i j) :=
  .weak (pe_ix hr ha.run hb.run hs) fun σ H Q q => tR_two (tb := fun _ _ _ => True) kk q fun x y H2 i j k1 k2 q2 => h x y σ H2 Q i j k1 k2 q2
theorem se_ixT {mxs : m (List α)} (ha : SB X C W H0 R a (eTup ea) mxs) (hb : SB X C W H0 R b eInt mi) (hs : PlainIx b) : SE X C W H0 R (.Subscript a b pos) ea (mxs >>= fun xs => mi >>= fun i => fromO (L2.atI xs i)) :=
  sx_ix kF_ok ix_tup ha hb hs fun x y σ H Q xs i k1 k2 q => by
    obtain ⟨c, e, _, q⟩ := tR_done q
    obtain ⟨p, vs, rfl, h1, h2⟩ := kB_tup k1
    obtain ⟨v, e1, r⟩ := h2.atI (i := i) (d := ea c) (by rw [atI_map, e]; rfl)
    exact ⟨p, vs, i, v, rfl, kB_int k2, h1, e1, q v H (.refl H) r⟩
theorem se_ixL {mxs : m (List α)} (ha : SB X C W H0 R a (eLst ea) mxs) (hb : SB X C W H0 R b eInt mi) (hs : PlainIx b) : SE X C W H0 R (.Subscript a b pos) ea (mxs >>= fun xs => mi >>= fun i => fromO (L2.atI xs i)) :=
  sx_ix kF_ok ix_list ha hb hs fun x y σ H Q xs i k1 k2 q => by
    obtain ⟨c, e, _, q⟩ := tR_done q
    obtain ⟨p, vs, rfl, h1, h2⟩ := kB_lst k1
    obtain ⟨v, e1, r⟩ := h2.atI (i := i) (d := ea c) (by rw [atI_map, e]; rfl)
    exact ⟨p, vs, i, v, rfl, kB_int k2, h1, e1, q v H (.refl H) r⟩
/-- a written place of a tuple of known form -/
theorem se_ixC {i : Int} (ha : SB X C W H0 R a ea ma) (hb : SB X C W H0 R b eInt (pure i)) (hs : PlainIx b) (f : α → γ) (h : ∀ p, ∃ ds, ea p = .tuple ds ∧ L2.atI ds i = some (ec (f p))) :
    SE X C W H0 R (.Subscript a b pos) ec (ma >>= fun p => pure (f p)) :=
  .weak (pe_ix ix_tup ha.run hb.run hs) fun σ H Q q => tR_imp (tR_bind kF_ok q) fun x H1 ⟨p, e1, k1, q1⟩ => by
    obtain ⟨s, c, q1⟩ := q1
    rw [PyM.run_pure] at q1
    refine ⟨s, c, ?_⟩
    rw [PyM.run_pure]
    intro y H2 e rl ky
    obtain ⟨ds, h1, h2⟩ := h p
    have k1' := kB.ext e k1
    rw [h1] at k1'
    obtain ⟨t, vs, rfl, h3, h4⟩ := kB_tup k1'
    obtain ⟨v, e2, r⟩ := h4.atI h2
    refine ⟨t, vs, i, v, rfl, kB_int ky, h3, e2, ?_⟩
    exact q1 v H2 e rl r
end
end TT

namespace TT
open PyM (fromO)
open PySem PySem.Spec PyProof.Rows L2

/-! ### what a loop walks -/
structure Wk (K : PySem.W.Frag) (w : World) (P : Hp → Prop) (J : It) (ds : List PyData) : Prop where
  go : ∀ i H, P H → i < ds.length → J.go i H ∧ ∀ x H', J.yld i H x H' → Same H H' ∧ ∃ d, ds[i]? = some d ∧ Rep K w H' x d
  stop : ∀ i H, P H → ds.length ≤ i → J.stop i H
  len : ds.length ≤ sizeLine
/-- while what is firm stands; while all that was tracked stands -/
abbrev Pk := Hp → Hp → Prop
section
variable {K : PySem.W.Frag} {w : World} {m : Type → Type} [Monad m] [PyM m]
def AfterI (C : Wd K w m) (W : WX) (P : Pk) {α : Type} (e : α → PyData) (σ : L2.St) (H : Hp) (Q : It → Hp → Prop) : Res (PyM.S m) (List α) → Prop
  | none => False
  | some (.ok xs, s') => ∀ J H', Ext C.mt H H' → C.rel s' H' → Wk K w (P H') J (xs.map e) → Q J H'
  | some (.error x, s') => ∀ cls d H', Ext C.mt H H' → C.rel s' H' → C.exc x cls d H' → W cls d σ H'
def tI (C : Wd K w m) (W : WX) (H0 : Hp) (R : Slots) (P : Pk) {α : Type} (e : α → PyData) (mm : m (List α)) : TI := fun σ H Q => ∃ s, Cfg C H0 R s σ H ∧ AfterI C W P e σ H Q (PyM.run mm s)
structure SI (X : Cx) (C : Wd X.K X.w m) (W : WX) (H0 : Hp) (R : Slots) (P : Pk) (tg ex : Expr) {α : Type} (e : α → PyData) (mm : m (List α)) : Prop where
  run : PI X tg ex (tI C W H0 R P e mm)
end
theorem _root_.L2.PI.weak {X : Cx} {tg ex : Expr} {t t' : TI} (h : PI X tg ex t) (i : ∀ σ H Q, t' σ H Q → t σ H Q) : PI X tg ex t' := ⟨fun pins s σ H Q I q => h.run pins s σ H Q I (i σ H Q q)⟩
/-- lengths that the heap grants -/
def LenOk (K : PySem.W.Frag) (H : Hp) : Prop := (∀ a vs, SqL K H a vs → vs.length ≤ sizeLine) ∧ (∀ a vs, SqT K H a vs → vs.length ≤ sizeLine) ∧ (∀ a vs ws, SqL K H a vs → SqL K H a ws → vs = ws) ∧ (∀ a vs ws, SqT K H a vs → SqT K H a ws → vs = ws)
theorem Inv.lenOk {X : Cx} {pins : List (Addr × Obj)} {σ : L2.St} {H : Hp} {s : Shared} (I : Inv X pins σ H s) : LenOk X.K H :=
  ⟨fun a vs h => let ⟨_, _, _, z⟩ := I.list h; z, fun a vs h => let ⟨_, _, _, z⟩ := I.tuple h; z, fun a vs ws h h' => I.list_inj h h', fun a vs ws h h' => I.tuple_inj h h'⟩
theorem _root_.L2.PE.facts {X : Cx} {ex : Expr} {t : TE} (h : PE X ex t) : PE X ex fun σ H Q => t σ H fun v H' => LenOk X.K H' → Q v H' :=
  ⟨fun pins s σ H Q I q => thn (h.run pins s σ H _ I q) fun u s' ⟨v, H', I', r, q⟩ => ⟨v, H', I', r, q (Inv.lenOk I')⟩⟩
theorem _root_.L2.PA.facts {X : Cx} {es : List Expr} {t : TA} (h : PA X es t) : PA X es fun σ H Q => t σ H fun v H' => LenOk X.K H' → Q v H' :=
  ⟨fun pos pins s σ H Q I q => thn (h.run pos pins s σ H _ I q) fun u s' ⟨v, H', I', r, q⟩ => ⟨v, H', I', r, q (Inv.lenOk I')⟩⟩

section
variable {X : Cx} {m : Type → Type} [Monad m] [PyM m] {C : Wd X.K X.w m} {W : WX} {H0 : Hp} {R : Slots} {P : Pk} {α β γ : Type} {ea : α → PyData} {eb : β → PyData} {ec : γ → PyData}
variable {a b c tg : Expr} {es : List Expr} {ma : m α} {mb : m β} {mi mj : m Int} {pos p : Pos} {mxs : m (List α)}
theorem tI_of {σ : L2.St} {H : Hp} {Q : It → Hp → Prop} {k : Kd} {e : List α → PyData} (h : tI C W H0 R P ea mxs σ H Q) {Q' : VK}
    (i : ∀ xs s' v H', Ext C.mt H H' → C.rel s' H' → k H H' v (e xs) → (∀ J, Wk X.K X.w (P H') J (xs.map ea) → Q J H') → Q' v H') : tR C W H0 R k e mxs σ H Q' := by
  obtain ⟨s, c, h⟩ := h
  refine ⟨s, c, ?_⟩
  cases q : PyM.run mxs s with
  | none => rw [q] at h; exact h
  | some p =>
    obtain ⟨r, s1⟩ := p
    rw [q] at h
    cases r with
    | error x => exact h
    | ok xs => exact fun v H' e rl kv => i xs s1 v H' e rl kv fun J wk => h J H' e rl wk
theorem wk_tup {K : PySem.W.Frag} {w : World} {H : Hp} {a : Addr} {vs : List V} {ds : List PyData} (l : LenOk K H) (h : SqT K H a vs) (r : Reps K w H vs ds) (fs : ∀ {H'}, P H H' → Firms H H') : Wk K w (P H) (Itt K a) ds where
  go := fun i H' p hi => by
    obtain ⟨v, hv, rv⟩ := r.get (i := i) (List.getElem?_eq_getElem hi)
    refine ⟨⟨vs, v, SqT.firm (fs p) h, hv⟩, fun x H2 y => ?_⟩
    obtain ⟨rfl, y⟩ := y
    have e := y vs (SqT.firm (fs p) h)
    rw [hv] at e; cases e
    exact ⟨.refl _, _, List.getElem?_eq_getElem hi, Rep.firm (fs p) rv⟩
  stop := fun i H' p hi => ⟨vs, SqT.firm (fs p) h, by rw [r.length]; exact hi⟩
  len := by rw [← r.length]; exact l.2.1 _ _ h
theorem si_tup (ha : SB X C W H0 R a (eTup ea) mxs) (fs : ∀ {H H'}, P H H' → Firms H H') : SI X C W H0 R P tg a ea mxs :=
  ⟨(pi_tup (PE.facts ha.run)).weak fun σ H Q q => tI_of q fun xs s' v H' e rl kv f l => by
    obtain ⟨t, vs, rfl, h1, h2⟩ := kB_tup kv
    exact ⟨t, rfl, ⟨vs, h1⟩, f _ (wk_tup l h1 h2 fs)⟩⟩
theorem wk_lst {K : PySem.W.Frag} {w : World} {H : Hp} {a : Addr} {vs : List V} {ds : List PyData} (l : LenOk K H) (h : SqL K H a vs) (r : Reps K w H vs ds) (fs : ∀ {H'}, P H H' → Firms H H') (ls : ∀ {H'}, P H H' → SqL K H' a vs) : Wk K w (P H) (Itl K a) ds where
  go := fun i H' p hi => by
    obtain ⟨v, hv, rv⟩ := r.get (i := i) (List.getElem?_eq_getElem hi)
    refine ⟨⟨vs, v, ls p, hv⟩, fun x H2 y => ?_⟩
    obtain ⟨rfl, y⟩ := y
    have e := y vs (ls p)
    rw [hv] at e; cases e
    exact ⟨.refl _, _, List.getElem?_eq_getElem hi, Rep.firm (fs p) rv⟩
  stop := fun i H' p hi => ⟨vs, ls p, by rw [r.length]; exact hi⟩
  len := by rw [← r.length]; exact l.1 _ _ h
/-- a list that nobody writes any more -/
theorem si_lst (ha : SE X C W H0 R a (eLst ea) mxs) (fs : ∀ {H H'}, P H H' → Firms H H') : SI X C W H0 R P tg a ea mxs :=
  ⟨(pi_list (PE.facts ha.run)).weak fun σ H Q q => tI_of q fun xs s' v H' e rl kv f l => by
    have kv : Rep X.K X.w H' v (.list (xs.map ea)) := kv
    cases kv with
    | lst h r => exact ⟨_, rfl, ⟨_, h.sq⟩, f _ (wk_lst l h.sq r fs fun p => (h.firm (fs p)).sq)⟩⟩
/-- a list that is not written while it is walked -/
theorem si_lstB (ha : SB X C W H0 R a (eLst ea) mxs) : SI X C W H0 R (Ext C.mt) tg a ea mxs :=
  ⟨(pi_list (PE.facts ha.run)).weak fun σ H Q q => tI_of q fun xs s' v H' e rl kv f l => by
    rcases kv with h | ⟨t, vs, ds, h1, h2, h3, h4, h5⟩ | ⟨_, _, _, _, h2, _⟩
    · have kv : Rep X.K X.w H' v (.list (xs.map ea)) := h
      cases kv with
      | lst h9 r => exact ⟨_, rfl, ⟨_, h9.sq⟩, f _ (wk_lst l h9.sq r Ext.firms fun p => (h9.firm (Ext.firms p)).sq)⟩
    · have h2 : PyData.list (xs.map ea) = .list ds := h2
      injection h2 with h2
      subst h2
      exact ⟨t, h1, ⟨vs, .of h3⟩, f _ (wk_lst l (.of h3) h4 Ext.firms fun p => .of (p _ _ h3 (.inl h5)))⟩
    · cases (show PyData.list (xs.map ea) = .dict _ from h2)⟩
/-- lo, lo + 1, .. -/
def rangeL (lo : Int) : Nat → List Int
  | 0 => []
  | n + 1 => lo :: rangeL (lo + 1) n
theorem rangeL_len : ∀ (n : Nat) (lo : Int), (rangeL lo n).length = n
  | 0, _ => rfl
  | n + 1, lo => by show (rangeL (lo + 1) n).length + 1 = _; rw [rangeL_len n]
theorem rangeL_get : ∀ (n : Nat) (lo : Int) (i : Nat), i < n → (rangeL lo n)[i]? = some (lo + i)
  | 0, _, _, h => absurd h (Nat.not_lt_zero _)
  | n + 1, lo, 0, _ => by show some lo = _; simp
  | n + 1, lo, i + 1, h => by
    show (rangeL (lo + 1) n)[i]? = _
    rw [rangeL_get n (lo + 1) i (by omega)]
    congr 1
    omega
theorem wk_range {K : PySem.W.Frag} {w : World} {Q : Hp → Prop} {lo : Int} {n : Nat} (hn : n ≤ sizeLine) : Wk K w Q (Itr lo n) ((rangeL lo n).map eInt) where
  go := fun i H _ hi => by
    rw [List.length_map, rangeL_len] at hi
    refine ⟨hi, fun x H' y => ?_⟩
    obtain ⟨rfl, rfl⟩ := y
    exact ⟨.refl _, _, by rw [List.getElem?_map, rangeL_get n lo i hi]; rfl, .int _⟩
  stop := fun i H _ hi => by rw [List.length_map, rangeL_len] at hi; exact hi
  len := by rw [List.length_map, rangeL_len]; exact hn
/-- range(n), range(a, b) -/
def rangeG (lo hi : Int) : Option (List Int) := if -1000000000 ≤ lo ∧ lo ≤ 1000000000 ∧ -1000000000 ≤ hi ∧ hi ≤ 1000000000 ∧ hi - lo ≤ 16777216 then some (rangeL lo (hi - lo).toNat) else none
theorem rangeG_some {lo hi : Int} {xs : List Int} (h : rangeG lo hi = some xs) : (-1000000000 ≤ lo ∧ lo ≤ 1000000000 ∧ -1000000000 ≤ hi ∧ hi ≤ 1000000000 ∧ hi - lo ≤ 16777216) ∧ xs = rangeL lo (hi - lo).toNat := by
  unfold rangeG at h
  split at h
  · rename_i g
    cases h
    exact ⟨g, rfl⟩
  · cases h
theorem tI_done {o : Option (List α)} {σ : L2.St} {H : Hp} {Q : It → Hp → Prop} (h : tI C W H0 R P ea (fromO o) σ H Q) : ∃ xs, o = some xs ∧ ∀ J, Wk X.K X.w (P H) J (xs.map ea) → Q J H := by
  obtain ⟨s, c, h⟩ := h
  rw [PyM.run_fromO] at h
  cases o with
  | none => exact h.elim
  | some a => exact ⟨a, rfl, fun J wk => h J H .refl c.rel wk⟩
theorem tI_bind {f : α → m (List β)} {k : Kd} {σ : L2.St} {H : Hp} {Q : It → Hp → Prop} (h : tI C W H0 R P eb (ma >>= f) σ H Q) :
    tR C W H0 R k ea ma σ H fun v H1 => ∃ a, Ext C.mt H H1 ∧ k H H1 v (ea a) ∧ tI C W H0 R P eb (f a) σ H1 Q := by
  obtain ⟨s, c, h⟩ := h
  refine ⟨s, c, ?_⟩
  rw [PyM.run_bind] at h
  cases q : PyM.run ma s with
  | none => rw [q] at h; exact h
  | some p =>
    obtain ⟨r, s1⟩ := p
    rw [q] at h
    cases r with
    | error x => exact h
    | ok a =>
      refine fun v H1 e rl kv => ⟨a, e, kv, s1, c.ext e rl, ?_⟩
      have h : AfterI C W P eb σ H Q (PyM.run (f a) s1) := h
      cases z : PyM.run (f a) s1 with
      | none => rw [z] at h; exact h
      | some p2 =>
        obtain ⟨r2, s2⟩ := p2
        rw [z] at h
        cases r2 with
        | error x => exact fun cls d H' e' rl' => h cls d H' (e.trans e') rl'
        | ok a => exact fun J H' e' rl' wk => h J H' (e.trans e') rl' wk
theorem si_range1 (hg : Gl X "range") (hm : X.mg "range" = none) (ha : SB X C W H0 R a eInt mi) (hs : starEach [a] X.env = [(false, eval a X.env)] := by rfl) :
    SI X C W H0 R P tg (.Call (.Name "range" p) [a] [] pos) eInt (mi >>= fun i => fromO (rangeG 0 i)) :=
  ⟨(pi_range1 hg hm (pa_cons ha.run pa_nil (by rw [hs]; rfl)) hs).weak fun σ H Q q => tR_imp (tI_bind (k := kB X.K X.w C.mt) (ea := eInt) q) fun v H1 ⟨i, e, kv, q⟩ => by
    obtain ⟨xs, h, q⟩ := tI_done q
    obtain ⟨g, rfl⟩ := rangeG_some h
    refine ⟨i, by rw [kB_int kv], by omega, by omega, q _ ?_⟩
    rw [show (i - 0).toNat = i.toNat by omega]
    exact wk_range (by rw [sizeLine_eq]; omega)⟩
theorem si_range2 (hg : Gl X "range") (hm : X.mg "range" = none) (ha : SB X C W H0 R a eInt mi) (hb : SB X C W H0 R b eInt mj) (hs : starEach [a, b] X.env = [(false, eval a X.env), (false, eval b X.env)] := by rfl) (hs2 : starEach [b] X.env = [(false, eval b X.env)] := by rfl) :
    SI X C W H0 R P tg (.Call (.Name "range" p) [a, b] [] pos) eInt (mi >>= fun i => mj >>= fun j => fromO (rangeG i j)) :=
  ⟨(pi_range2 hg hm (pa_cons ha.run (pa_cons hb.run pa_nil (by rw [hs2]; rfl)) (by rw [hs, hs2])) hs hs2).weak fun σ H Q q => tR_imp (tI_bind (k := kB X.K X.w C.mt) (ea := eInt) q) fun v H1 ⟨i, e, kv, q⟩ => tR_imp (tI_bind (k := kB X.K X.w C.mt) (ea := eInt) q) fun v2 H2 ⟨j, e2, kv2, q⟩ => by
    obtain ⟨xs, h, q⟩ := tI_done q
    obtain ⟨g, rfl⟩ := rangeG_some h
    refine ⟨i, j, by rw [kB_int kv, kB_int kv2], ⟨by omega, by omega, by omega, by omega⟩, q _ ?_⟩
    exact wk_range (by rw [sizeLine_eq]; omega)⟩
end

/-! ### targets -/
/-- the slots is get the values vs -/
def setσ : L2.St → List Nat → List V → L2.St
  | σ, i :: is, v :: vs => setσ (σ.set i (some v)) is vs
  | σ, _, _ => σ
def setR : Slots → List Nat → List PyData → Slots
  | R, i :: is, d :: ds => setR (R.set i (some (.frz d))) is ds
  | R, _, _ => R
structure GOk (K : PySem.W.Frag) (w : World) (g : TG) {α : Type} (ea : α → PyData) (is : List Nat) (dts : α → List PyData) : Prop where
  run : ∀ a v σ H Q, Rep K w H v (ea a) → (∀ vs, Reps K w H vs (dts a) → Q (setσ σ is vs) H) → g v σ H Q
section
variable {K : PySem.W.Frag} {w : World} {m : Type → Type} [Monad m] [PyM m] {C : Wd K w m} {H0 : Hp} {R R' : Slots} {s s' : PyM.S m} {σ : L2.St} {H H' : Hp} {α : Type} {ea : α → PyData}
theorem setR_len : ∀ {is : List Nat} {ds : List PyData} {R : Slots}, (setR R is ds).length = R.length
  | [], _, _ => by simp [setR]
  | _ :: _, [], _ => by simp [setR]
  | i :: is, d :: ds, R => by show (setR _ is ds).length = _; rw [setR_len, List.length_set]
theorem Cfg.setAll : ∀ {is : List Nat} {ds : List PyData} {vs : List V} {R : Slots} {σ : L2.St}, Cfg C H0 R s σ H → (∀ i ∈ is, i < R.length) → Reps K w H vs ds → Cfg C H0 (setR R is ds) s (setσ σ is vs) H
  | [], _, _, _, _, c, _, _ => by simpa [setR, setσ] using c
  | _ :: _, _, _, _, _, c, _, .nil => by simpa [setR, setσ] using c
  | i :: is, _, _, R, σ, c, h, .cons r t => by
    show Cfg C H0 (setR _ is _) s (setσ _ is _) H
    exact Cfg.setAll (c.setF (h i (by simp)) r) (fun j hj => by rw [List.length_set]; exact h j (by simp [hj])) t
theorem g_name {i : Nat} : GOk K w (gName i) ea [i] (fun a => [ea a]) := ⟨fun a v σ H Q r q => q [v] (.cons r .nil)⟩
def gNames : List Nat → TGs
  | [] => gNil
  | i :: is => gCons (gName i) (gNames is)
theorem gNames_ok {K : PySem.W.Frag} {w : World} {H : Hp} {Q : L2.St → Hp → Prop} : ∀ {is : List Nat} {vs : List V} {σ : L2.St}, vs.length = is.length → Q (setσ σ is vs) H → gNames is vs σ H Q
  | [], [], σ, _, q => ⟨rfl, by simpa [setσ] using q⟩
  | i :: is, v :: vs, σ, h, q => ⟨v, vs, rfl, gNames_ok (K := K) (w := w) (is := is) (by simpa using h) q⟩
  | [], _ :: _, _, h, _ => by simp at h
  | _ :: _, [], _, h, _ => by simp at h
theorem g_tup {is : List Nat} {dts : α → List PyData} (h : ∀ a, ea a = .tuple (dts a)) (hl : ∀ a, (dts a).length = is.length) : GOk K w (gTup K is.length (gNames is)) ea is dts := ⟨fun a v σ H Q r q => by
  rw [h] at r
  cases r with
  | tup h r => exact ⟨_, _, rfl, h, by rw [r.length, hl], gNames_ok (K := K) (w := w) (by rw [r.length, hl]) (q _ r)⟩⟩
end
/-! ### the slots of a comprehension's block -/
def wipeR : Slots → List Nat → Slots
  | R, [] => R
  | R, v :: vs => (wipeR R vs).set v none
theorem wipeR_len {R : Slots} : ∀ vs, (wipeR R vs).length = R.length
  | [] => rfl
  | v :: vs => by show ((wipeR R vs).set v none).length = _; rw [List.length_set, wipeR_len vs]
theorem wipeR_at {R : Slots} {i : Nat} {x : Slot} : ∀ {vs : List Nat}, (wipeR R vs)[i]? = some (some x) → R[i]? = some (some x) ∧ i ∉ vs
  | [], h => ⟨h, by simp⟩
  | v :: vs, h => by
    have h : ((wipeR R vs).set v none)[i]? = some (some x) := h
    by_cases hi : v = i
    · subst hi
      by_cases hl : v < (wipeR R vs).length
      · rw [List.getElem?_set_self hl] at h; cases h
      · rw [List.getElem?_eq_none (by rw [List.length_set]; omega)] at h; cases h
    · rw [List.getElem?_set_ne hi] at h
      obtain ⟨h1, h2⟩ := wipeR_at h
      exact ⟨h1, by simp only [List.mem_cons, not_or]; exact ⟨fun e => hi e.symm, h2⟩⟩
theorem wipe_other {σ : L2.St} {i : Nat} : ∀ {vs : List Nat}, i ∉ vs → (wipe σ vs)[i]? = σ[i]?
  | [], _ => rfl
  | v :: vs, h => by
    show ((wipe σ vs).set v none)[i]? = _
    rw [List.getElem?_set_ne (fun e => h (by simp [e])), wipe_other fun q => h (by simp [q])]
theorem Cfg.wipe {K : PySem.W.Frag} {w : World} {m : Type → Type} [Monad m] [PyM m] {C : Wd K w m} {H0 : Hp} {R : Slots} {s : PyM.S m} {σ : L2.St} {H : Hp} (c : Cfg C H0 R s σ H) (vs : List Nat) : Cfg C H0 (wipeR R vs) s (L2.wipe σ vs) H :=
  ⟨by rw [wipeR_len, wipe_length]; exact c.len, c.base, c.rel, fun i x h => by
    obtain ⟨h1, h2⟩ := wipeR_at h
    rw [wipe_other h2]
    exact c.slot i x h1, fun i j x y n h1 h2 ox oy => by
    obtain ⟨a1, a2⟩ := wipeR_at h1
    obtain ⟨b1, b2⟩ := wipeR_at h2
    rw [wipe_other a2, wipe_other b2]
    exact c.apart i j x y n a1 b1 ox oy⟩
theorem wipe_set_in {σ : L2.St} {i : Nat} {x : Option V} : ∀ {vs : List Nat}, i ∈ vs → wipe (σ.set i x) vs = wipe σ vs
  | [], h => by simp at h
  | v :: vs, h => by
    show (wipe (σ.set i x) vs).set v none = (wipe σ vs).set v none
    by_cases hi : i ∈ vs
    · rw [wipe_set_in hi]
    · have e : i = v := by
        rcases List.mem_cons.mp h with e | e
        · exact e
        · exact absurd e hi
      subst e
      apply List.ext_getElem?
      intro j
      by_cases hj : i = j
      · subst hj
        have l1 : (wipe (σ.set i x) vs).length = (wipe σ vs).length := by rw [wipe_length, wipe_length, List.length_set]
        by_cases hl : i < (wipe σ vs).length
        · rw [List.getElem?_set_self hl, List.getElem?_set_self (by rw [l1]; exact hl)]
        · rw [List.getElem?_eq_none (by rw [List.length_set]; omega), List.getElem?_eq_none (by rw [List.length_set]; omega)]
      · rw [List.getElem?_set_ne hj, List.getElem?_set_ne hj]
        by_cases hv : j ∈ vs
        · have : ∀ (τ : L2.St) {us : List Nat}, j ∈ us → (wipe τ us)[j]? = if j < τ.length then some none else none := by
            intro τ us
            induction us with
            | nil => intro h; simp at h
            | cons u us ih =>
              intro h
              show ((wipe τ us).set u none)[j]? = _
              by_cases hu : u = j
              · subst hu
                by_cases hl : u < (wipe τ us).length
                · rw [List.getElem?_set_self hl, if_pos (by rw [wipe_length] at hl; exact hl)]
                · rw [List.getElem?_eq_none (by rw [List.length_set]; omega), if_neg (by rw [wipe_length] at hl; exact hl)]
              · rw [List.getElem?_set_ne hu]
                refine ih ?_
                rcases List.mem_cons.mp h with e | e
                · exact absurd e.symm hu
                · exact e
          rw [this _ hv, this _ hv, List.length_set]
        · rw [wipe_other hv, wipe_other hv, List.getElem?_set_ne hj]
theorem wipe_wipe {σ : L2.St} : ∀ {vs us : List Nat}, (∀ v ∈ us, v ∈ vs) → wipe (wipe σ us) vs = wipe σ vs
  | vs, [], _ => rfl
  | vs, u :: us, h => by
    show wipe ((wipe σ us).set u none) vs = _
    rw [wipe_set_in (h u (by simp)), wipe_wipe fun v hv => h v (by simp [hv])]
theorem wipe_setσ : ∀ {is : List Nat} {ws : List V} {σ : L2.St} {vs : List Nat}, (∀ i ∈ is, i ∈ vs) → wipe (setσ σ is ws) vs = wipe σ vs
  | [], _, _, _, _ => by simp [setσ]
  | _ :: _, [], _, _, _ => by simp [setσ]
  | i :: is, v :: ws, σ, vs, h => by
    show wipe (setσ _ is ws) vs = _
    rw [wipe_setσ fun j hj => h j (by simp [hj]), wipe_set_in (h i (by simp))]
end TT

namespace TT
open PyM (fromO)
open PySem PySem.Spec PyProof.Rows L2

/-- [f x for x in xs if g x] -/
def compL {m : Type → Type} [Monad m] {α β : Type} (g : α → m Bool) (f : α → m β) : List α → m (List β)
  | [] => pure []
  | x :: xs => g x >>= fun c => if c = true then f x >>= fun y => compL g f xs >>= fun ys => pure (y :: ys) else compL g f xs
/-- a clause's tests -/
structure SIf (X : Cx) {m : Type → Type} [Monad m] [PyM m] (C : Wd X.K X.w m) (W : WX) (H0 : Hp) (R : Slots) (ifs : List Expr) (mm : m Bool) : Prop where
  run : PTs X ifs (tT C W H0 R mm)
section
variable {X : Cx} {m : Type → Type} [Monad m] [PyM m] {C : Wd X.K X.w m} {W : WX} {H0 : Hp} {R : Slots} {mc : m Bool} {c : Expr}
theorem sf_nil : SIf X C W H0 R [] (pure true) := ⟨⟨fun pins s σ H Q I h => pts_nil.run pins s σ H Q I (tT_pure h)⟩⟩
theorem sf_one (h : ST X C W H0 R c mc) : SIf X C W H0 R [c] mc := ⟨pts_one h.run⟩
end
abbrev W0 : WX := fun _ _ _ _ => False
section
variable {X : Cx} {m : Type → Type} [Monad m] [PyM m] {C : Wd X.K X.w m} {W : WX} {H0 : Hp} {R : Slots} {α β : Type} {ea : α → PyData} {eb : β → PyData}
variable {elt tg iter : Expr} {ifs : List Expr} {scope : Scope} {own : List (Str × Nat)} {pos : Pos} {mi : m (List α)} {mt : α → m Bool} {me : α → m β} {g : TG} {is : List Nat} {dts : α → List PyData}
/-- what holds between a comprehension's turns -/
def CompW (X : Cx) (C : Wd X.K X.w m) (W : WX) (eb : β → PyData) (mt : α → m Bool) (me : α → m β) (xs : List α) (σ : L2.St) (H1 : Hp) (D : Addr) (Q : VK) (i k : Nat) (H2 : Hp) : Prop :=
  k = xs.length - i ∧ i ≤ xs.length ∧ ∃ (s2 : PyM.S m) (accV : List V) (acc : List β), Ext C.mt H1 H2 ∧ C.rel s2 H2 ∧ H2 D = some (.lst accV) ∧ Reps X.K X.w H2 accV (acc.map eb) ∧ acc.length ≤ i ∧
        After C W (kO X.K X.w C.mt) (fun ys => eLst eb (acc ++ ys)) σ H1 Q (PyM.run (compL mt me (xs.drop i)) s2)
/-- what goes on in a comprehension's turns -/
theorem tLc_ok [NoErr m] {vs : List Nat} (hgo : GOk X.K X.w g ea is dts) (hin : ∀ i ∈ is, i ∈ vs) (hlt : ∀ i ∈ is, i < R.length) {σ : L2.St} {H : Hp} {Q : VK}
    (q : tR C W H0 R (kO X.K X.w C.mt) (eLst eb) (mi >>= compL mt me) σ H Q) :
    tLc (tI C W H0 R (Ext C.mt) ea mi) g (fun σ H Q => ∃ a, tT C W0 H0 (setR (wipeR R vs) is (dts a)) (mt a) σ H Q) (fun σ H Q => ∃ a, tR C W0 H0 (setR (wipeR R vs) is (dts a)) (kF X.K X.w C.mt) eb (me a) σ H Q) vs σ H Q := by
  obtain ⟨s, c, q⟩ := q
  refine ⟨s, c, ?_⟩
  rw [PyM.run_bind] at q
  cases z : PyM.run mi s with
  | none => rw [z] at q; exact q
  | some p =>
    obtain ⟨r, s1⟩ := p
    rw [z] at q
    cases r with
    | error x => exact q
    | ok xs =>
      intro J H1 e1 rl1 wk D hD
      have c1 : Cfg C H0 R s1 σ H1 := c.ext e1 rl1
      have q : After C W (kO X.K X.w C.mt) (eLst eb) σ H Q (PyM.run (compL mt me xs) s1) := q
      have q := After.back (k := kO X.K X.w C.mt) kO_ok e1 rl1 q
      have nD : ¬ C.mt D := fun z => by
        obtain ⟨o, ho, _⟩ := C.there _ _ _ rl1 z
        rw [hD] at ho; cases ho
      have ex0 : Ext C.mt H1 (upd H1 D (.lst [])) := .of_same (Same.new hD)
      -- what holds between the turns
      refine ⟨CompW X C W eb mt me xs σ H1 D Q, ⟨xs.length, rfl, Nat.zero_le _, s1, [], [], ex0, C.keep _ _ _ rl1 (Same.new hD), upd_same, .nil, Nat.le_refl _, q⟩, ?_⟩
      rintro i k H2 ⟨rfl, hi, s2, accV, acc, e2, rl2, hD2, ra, hl, q2⟩
      by_cases hlt' : i < xs.length
      · obtain ⟨go, yl⟩ := wk.go i H2 e2 (by rw [List.length_map]; exact hlt')
        refine .inr ⟨go, CompW X C W eb mt me xs σ H1 D Q (i + 1) (xs.length - (i + 1)), fun H' hN => ⟨xs.length - (i + 1), by omega, hN⟩, ?_⟩
        · intro x H3 y
          obtain ⟨e3, d, hd, rx⟩ := yl x H3 y
          have hx : xs[i]? = some xs[i] := List.getElem?_eq_getElem hlt'
          rw [List.getElem?_map, hx] at hd
          have hd : some (ea xs[i]) = some d := hd
          cases hd
          refine hgo.run xs[i] x _ H3 _ rx fun ws rws => ⟨?_, xs[i], ?_⟩
          · rw [wipe_setσ hin, wipe_wipe fun v hv => hv]
          have rl3 : C.rel s2 H3 := C.keep _ _ _ rl2 e3
          have e13 : Ext C.mt H1 H3 := e2.trans (.of_same e3)
          have c3 : Cfg C H0 (setR (wipeR R vs) is (dts xs[i])) s2 (setσ (wipe σ vs) is ws) H3 := ((c1.ext e13 rl3).wipe vs).setAll (fun j hj => by rw [wipeR_len]; exact hlt j hj) rws
          refine ⟨s2, c3, ?_⟩
          have hdr : xs.drop i = xs[i] :: xs.drop (i + 1) := List.drop_eq_getElem_cons hlt'
          rw [hdr] at q2
          have q2 : After C W (kO X.K X.w C.mt) (fun ys => eLst eb (acc ++ ys)) σ H1 Q (PyM.run (mt xs[i] >>= fun c => if c = true then me xs[i] >>= fun y => compL mt me (xs.drop (i + 1)) >>= fun ys => pure (y :: ys) else compL mt me (xs.drop (i + 1))) s2) := q2
          rw [PyM.run_bind] at q2
          cases z2 : PyM.run (mt xs[i]) s2 with
          | none => rw [z2] at q2; exact q2
          | some p2 =>
            obtain ⟨r2, s3⟩ := p2
            cases r2 with
            | error x => exact absurd z2 (NoErr.ok _ _ _ _)
            | ok b =>
              rw [z2] at q2
              intro H4 e4 rl4
              have e14 : Ext C.mt H1 H4 := e13.trans e4
              have hD3 : H3 D = some (.lst accV) := e3 _ _ hD2
              have hD4 : H4 D = some (.lst accV) := e4 _ _ hD3 (.inl nD)
              cases b with
              | false =>
                rw [if_neg Bool.false_ne_true]
                exact ⟨rfl, hlt', s3, accV, acc, e14, rl4, hD4, Reps.firm e4.firms (Reps.firm (fun b o h _ => e3 b o h) ra), Nat.le_succ_of_le hl, q2⟩
              | true =>
                rw [if_pos rfl]
                have q2 : After C W (kO X.K X.w C.mt) (fun ys => eLst eb (acc ++ ys)) σ H1 Q (PyM.run (me xs[i] >>= fun y => compL mt me (xs.drop (i + 1)) >>= fun ys => pure (y :: ys)) s3) := q2
                rw [PyM.run_bind] at q2
                refine ⟨xs[i], s3, c3.ext e4 rl4, ?_⟩
                cases z3 : PyM.run (me xs[i]) s3 with
                | none => rw [z3] at q2; exact q2
                | some p3 =>
                  obtain ⟨r3, s4⟩ := p3
                  cases r3 with
                  | error x => exact absurd z3 (NoErr.ok _ _ _ _)
                  | ok y =>
                    rw [z3] at q2
                    intro v H5 e5 rl5 kv
                    have hD5 : H5 D = some (.lst accV) := e5 _ _ hD4 (.inl nD)
                    have nf : ∀ b u, H5 b = some u → Firm u → b ≠ D := fun b u hu f z => by subst z; rw [hD5] at hu; cases hu; exact f
                    have fm : Firms H5 (upd H5 D (.lst (accV ++ [v]))) := firms_upd' hD5 (fun z => z)
                    have ra5 : Reps X.K X.w H5 accV (acc.map eb) := Reps.firm e5.firms (Reps.firm e4.firms (Reps.firm (fun b o h _ => e3 b o h) ra))
                    have hlen : accV.length = acc.length := by rw [ra.length, List.length_map]
                    have hn := wk.len
                    rw [List.length_map] at hn
                    refine ⟨accV, hD5, by omega, rfl, hlt', s4, accV ++ [v], acc ++ [y], ?_, C.other _ _ _ _ rl5 nD nf, upd_same, ?_, ?_, ?_⟩
                    · intro b o hb k
                      rw [upd_ne (ne_of_none hb hD)]
                      exact (e14.trans e5) b o hb k
                    · rw [List.map_append]
                      exact Reps.append (Reps.firm fm ra5) (.cons (Rep.firm fm kv) .nil)
                    · rw [List.length_append]
                      simp
                      exact hl
                    · have q2 : After C W (kO X.K X.w C.mt) (fun ys => eLst eb (acc ++ ys)) σ H1 Q (PyM.run (compL mt me (xs.drop (i + 1)) >>= fun ys => pure (y :: ys)) s4) := q2
                      rw [PyM.run_bind] at q2
                      cases z4 : PyM.run (compL mt me (xs.drop (i + 1))) s4 with
                      | none => rw [z4] at q2; exact q2
                      | some p4 =>
                        obtain ⟨r4, s5⟩ := p4
                        rw [z4] at q2
                        cases r4 with
                        | error x => exact q2
                        | ok ys =>
                          have q2 : After C W (kO X.K X.w C.mt) (fun ys => eLst eb (acc ++ ys)) σ H1 Q (PyM.run (pure (y :: ys)) s5) := q2
                          rw [PyM.run_pure] at q2
                          intro v' H' e' rl' kv'
                          refine q2 v' H' e' rl' ?_
                          show kO X.K X.w C.mt H1 H' v' (eLst eb (acc ++ (y :: ys)))
                          have : acc ++ (y :: ys) = acc ++ [y] ++ ys := by simp
                          rw [this]
                          exact kv'
      · have hi' : i = xs.length := by omega
        subst hi'
        refine .inl ⟨wk.stop _ H2 e2 (by rw [List.length_map]; exact Nat.le_refl _), ?_⟩
        rw [List.drop_length] at q2
        have q2 : After C W (kO X.K X.w C.mt) (fun ys => eLst eb (acc ++ ys)) σ H1 Q (PyM.run (pure []) s2) := q2
        rw [PyM.run_pure] at q2
        refine q2 (.ref D) H2 e2 rl2 ⟨D, accV, acc.map eb, rfl, ?_, hD2, ra, hD⟩
        show PyData.list _ = _
        rw [List.append_nil]
theorem so_comp [NoErr m] (hc : X.calm = true) (hN : X.N.Nodup) (hi : SI X C W H0 R (Ext C.mt) tg iter ea mi) (ok : BlkOk X.N X.env.scope scope own)
    (hg : ∀ (s : Shared) (H : Hp) (Cc : Addr) (cl : List (Str × Addr)) (fp : List Addr), PG (X.blk s H scope (compEnvC scope cl Cc X.env) fp) tg g)
    (hgo : GOk X.K X.w g ea is dts) (hin : ∀ i ∈ is, i ∈ own.map (·.2)) (hlt : ∀ i ∈ is, i < R.length)
    (ht : ∀ (a : α) (s : Shared) (H : Hp) (Cc : Addr) (cl : List (Str × Addr)) (fp : List Addr), SIf (X.blk s H scope (compEnvC scope cl Cc X.env) fp) C W0 H0 (setR (wipeR R (own.map (·.2))) is (dts a)) ifs (mt a))
    (he : ∀ (a : α) (s : Shared) (H : Hp) (Cc : Addr) (cl : List (Str × Addr)) (fp : List Addr), SE (X.blk s H scope (compEnvC scope cl Cc X.env) fp) C W0 H0 (setR (wipeR R (own.map (·.2))) is (dts a)) elt eb (me a))
    (hs : ∀ x, foldedSetIterable iter X.env x = pure x := by intro _; rfl) :
    SO X C W H0 R (.ListComp elt [⟨tg, iter, ifs, 0⟩] scope pos) (eLst eb) (mi >>= compL mt me) :=
  .weak (pe_lc hc hN hi.run ok hg (tt := fun σ H Q => ∃ a, tT C W0 H0 (setR (wipeR R (own.map (·.2))) is (dts a)) (mt a) σ H Q)
      (te := fun σ H Q => ∃ a, tR C W0 H0 (setR (wipeR R (own.map (·.2))) is (dts a)) (kF X.K X.w C.mt) eb (me a) σ H Q)
      (fun s H Cc cl fp => ⟨fun pins s' σ H' Q I ⟨a, h⟩ => (ht a s H Cc cl fp).run.run pins s' σ H' Q I h⟩) (fun s H Cc cl fp => ⟨fun pins s' σ H' Q I ⟨a, h⟩ => (he a s H Cc cl fp).run.run pins s' σ H' Q I h⟩) hs)
    fun σ H Q q => tLc_ok hgo hin hlt q
end
end TT

namespace TT
open PyM (fromO)
open PySem PySem.Spec PyProof.Rows L2

/-- how a block ends: it goes on, it returns, it leaves the loop, it goes to the loop's next turn -/
inductive Out (ρ ε δ : Type) where
  | nx (d : δ)
  | rt (r : ρ)
  | bk (d : ε)
  | ct (d : ε)
section
variable {K : PySem.W.Frag} {w : World} {m : Type → Type} [Monad m] [PyM m]
def AfterS (C : Wd K w m) (W : WX) (H0 H : Hp) {ρ ε δ : Type} (er : ρ → PyData) (Rb : ε → Slots) (Rn : δ → Slots) (D : Ends) : Res (PyM.S m) (Out ρ ε δ) → Prop
  | none => False
  | some (.ok (.nx d), s') => ∀ σ' H', Firms H H' → Cfg C H0 (Rn d) s' σ' H' → D.nx σ' H'
  | some (.ok (.rt r), s') => ∀ v H', Ext C.mt H0 H' → C.rel s' H' → Rep K w H' v (er r) → D.rt v H'
  | some (.ok (.bk d), s') => ∀ σ' H', Firms H H' → Cfg C H0 (Rb d) s' σ' H' → D.bk σ' H'
  | some (.ok (.ct d), s') => ∀ σ' H', Firms H H' → Cfg C H0 (Rb d) s' σ' H' → D.ct σ' H'
  | some (.error x, s') => ∀ cls d σ' H', Ext C.mt H0 H' → C.rel s' H' → C.exc x cls d H' → W cls d σ' H'
def tS (C : Wd K w m) (W : WX) (H0 : Hp) (R : Slots) {ρ ε δ : Type} (er : ρ → PyData) (Rb : ε → Slots) (Rn : δ → Slots) (mm : m (Out ρ ε δ)) : TS := fun D σ H => ∃ s, Cfg C H0 R s σ H ∧ AfterS C W H0 H er Rb Rn D (PyM.run mm s)
theorem Firms.refl (H : Hp) : Firms H H := fun _ _ h _ => h
theorem Firms.trans {H H1 H2 : Hp} (a : Firms H H1) (b : Firms H1 H2) : Firms H H2 := fun c o h f => b c o (a c o h f) f
theorem AfterS.mono {C : Wd K w m} {W : WX} {H0 H H1 : Hp} {ρ ε δ : Type} {er : ρ → PyData} {Rb : ε → Slots} {Rn : δ → Slots} {D : Ends} (f : Firms H H1) : ∀ {r : Res (PyM.S m) (Out ρ ε δ)}, AfterS C W H0 H er Rb Rn D r → AfterS C W H0 H1 er Rb Rn D r
  | some (.ok (.nx d), s'), h => fun σ' H' f' c => h σ' H' (f.trans f') c
  | some (.ok (.rt r), s'), h => h
  | some (.ok (.bk d), s'), h => fun σ' H' f' c => h σ' H' (f.trans f') c
  | some (.ok (.ct d), s'), h => fun σ' H' f' c => h σ' H' (f.trans f') c
  | some (.error x, s'), h => h
end
structure SL (X : Cx) {m : Type → Type} [Monad m] [PyM m] (C : Wd X.K X.w m) (W : WX) (H0 : Hp) (R : Slots) (sts : List Stmt) {ρ ε δ : Type} (er : ρ → PyData) (Rb : ε → Slots) (Rn : δ → Slots) (mm : m (Out ρ ε δ)) : Prop where
  run : PSs X sts (tS C W H0 R er Rb Rn mm)
abbrev noE : Empty → Slots := fun e => e.elim
/-- a block that always returns -/
abbrev SF (X : Cx) {m : Type → Type} [Monad m] [PyM m] (C : Wd X.K X.w m) (W : WX) (H0 : Hp) (R : Slots) (sts : List Stmt) {ρ : Type} (er : ρ → PyData) (mm : m ρ) : Prop :=
  SL X C W H0 R sts er noE noE (mm >>= fun r => pure (Out.rt r))
/-- a block that always goes on -/
abbrev SP (X : Cx) {m : Type → Type} [Monad m] [PyM m] (C : Wd X.K X.w m) (W : WX) (H0 : Hp) (R : Slots) (sts : List Stmt) {δ : Type} (Rn : δ → Slots) (mm : m δ) : Prop :=
  SL X C W H0 R sts (ρ := Empty) (fun e => e.elim) noE Rn (mm >>= fun d => pure (Out.nx d))

section
variable {X : Cx} {m : Type → Type} [Monad m] [PyM m] {C : Wd X.K X.w m} {W : WX} {H0 : Hp} {R : Slots} {α β γ ρ ε δ : Type} {ea : α → PyData} {eb : β → PyData} {er : ρ → PyData} {Rb : ε → Slots} {Rn : δ → Slots}
variable {e : Expr} {st : Stmt} {rest sts : List Stmt} {me : m α} {pos : Pos} {mm mm' : m (Out ρ ε δ)}
theorem Res.bind_assoc {S α β γ : Type} (x : Res S α) (f : α → S → Res S β) (g : β → S → Res S γ) : Res.bind (Res.bind x f) g = Res.bind x fun a s => Res.bind (f a s) g := by
  match x with
  | none => rfl
  | some (.ok a, s) => rfl
  | some (.error e, s) => rfl
/-- two terms that run alike -/
def Alike {α : Type} (x y : m α) : Prop := ∀ s, PyM.run x s = PyM.run y s
theorem Alike.refl (x : m α) : Alike x x := fun _ => rfl
theorem Alike.symm {x y : m α} (h : Alike x y) : Alike y x := fun s => (h s).symm
theorem Alike.trans {x y z : m α} (h : Alike x y) (h' : Alike y z) : Alike x z := fun s => (h s).trans (h' s)
theorem alike_assoc (x : m α) (f : α → m β) (g : β → m γ) : Alike (x >>= f >>= g) (x >>= fun a => f a >>= g) := fun s => by
  rw [PyM.run_bind, PyM.run_bind, PyM.run_bind, Res.bind_assoc]
  congr 1
  funext a s'
  rw [PyM.run_bind]
theorem alike_bind {x : m α} {f g : α → m β} (h : ∀ a, Alike (f a) (g a)) : Alike (x >>= f) (x >>= g) := fun s => by
  rw [PyM.run_bind, PyM.run_bind]
  congr 1
  funext a s'
  exact h a s'
theorem alike_bind2 {x y : m α} {f g : α → m β} (hx : Alike x y) (h : ∀ a, Alike (f a) (g a)) : Alike (x >>= f) (y >>= g) := fun s => by
  rw [PyM.run_bind, PyM.run_bind, hx s]
  congr 1
  funext a s'
  exact h a s'
theorem alike_pure {a : α} {f : α → m β} : Alike (pure a >>= f) (f a) := fun s => by rw [PyM.run_bind, PyM.run_pure]; rfl
theorem SL.alike (h : SL X C W H0 R sts er Rb Rn mm) (a : Alike mm' mm) : SL X C W H0 R sts er Rb Rn mm' := ⟨h.run.weak fun D σ H ⟨s, c, q⟩ => ⟨s, c, by rw [← a s]; exact q⟩⟩
theorem SL.sub {R' : Slots} (h : SL X C W H0 R sts er Rb Rn mm) (i : SubS R R') : SL X C W H0 R' sts er Rb Rn mm := ⟨h.run.weak fun D σ H ⟨s, c, q⟩ => ⟨s, c.sub i, q⟩⟩
/-- an expression is evaluated for a statement -/
theorem tS_bind {k : Kd} {f : α → m (Out ρ ε δ)} {D : Ends} {σ : L2.St} {H : Hp} (h : tS C W H0 R er Rb Rn (me >>= f) D σ H) {Q : VK}
    (i : ∀ a v H', k H H' v (ea a) → Ext C.mt H H' → (∀ b, H' b = none → H b = none) → tS C W H0 R er Rb Rn (f a) D σ H' → Q v H') : tR C W H0 R k ea me σ H Q := by
  obtain ⟨s, c, h⟩ := h
  refine ⟨s, c, ?_⟩
  rw [PyM.run_bind] at h
  cases q : PyM.run me s with
  | none => rw [q] at h; exact h
  | some p =>
    obtain ⟨r, s1⟩ := p
    rw [q] at h
    cases r with
    | error x => exact fun cls d H' e rl ex => h cls d σ H' (c.base.trans e) rl ex
    | ok a => exact fun v H1 e rl kv => i a v H1 kv e (none_back e fun b hb => let ⟨o, ho, _⟩ := C.there _ _ _ rl hb; ⟨o, ho⟩) ⟨s1, c.ext e rl, AfterS.mono e.firms h⟩
theorem tS_test {mc : m Bool} {f : Bool → m (Out ρ ε δ)} {D : Ends} {σ : L2.St} {H : Hp} (h : tS C W H0 R er Rb Rn (mc >>= f) D σ H) : tT C W H0 R mc σ H fun b H' => tS C W H0 R er Rb Rn (f b) D σ H' := by
  obtain ⟨s, c, h⟩ := h
  refine ⟨s, c, ?_⟩
  rw [PyM.run_bind] at h
  cases q : PyM.run mc s with
  | none => rw [q] at h; exact h
  | some p =>
    obtain ⟨r, s1⟩ := p
    rw [q] at h
    cases r with
    | error x => exact fun cls d H' e rl ex => h cls d σ H' (c.base.trans e) rl ex
    | ok a => exact fun H1 e rl => ⟨s1, c.ext e rl, AfterS.mono e.firms h⟩

/-! ### blocks -/
theorem sl_nil (d : δ) (h : SubS (Rn d) R) : SL X C W H0 R [] er Rb Rn (pure (.nx d)) := ⟨pss_nil.weak fun D σ H ⟨s, c, q⟩ => by
  rw [PyM.run_pure] at q
  exact q σ H (Firms.refl H) (c.sub h)⟩
theorem sp_nil (d : δ) (h : SubS (Rn d) R) : SP X C W H0 R [] Rn (pure d) := (sl_nil d h).alike alike_pure
theorem sl_ret {me : m ρ} (h : SE X C W H0 R e er me) : SL X C W H0 R (.Return (some e) pos :: rest) er Rb Rn (me >>= fun r => pure (.rt r)) :=
  ⟨(pss_cons (ps_ret h.run) pss_never).weak fun D σ H q => by
    have := tS_bind (k := kF X.K X.w C.mt) (ea := er) q (Q := D.rt) fun a v H' kv e _ ⟨s, c, q⟩ => by
      rw [PyM.run_pure] at q
      exact q v H' c.base c.rel kv
    exact this⟩
theorem sf_ret {me : m ρ} (h : SE X C W H0 R e er me) : SF X C W H0 R (Stmt.Return (some e) pos :: rest) er me := sl_ret h
theorem sl_pass (h : SL X C W H0 R rest er Rb Rn mm) : SL X C W H0 R (.Pass pos :: rest) er Rb Rn mm := ⟨(pss_cons ps_pass h.run).weak fun D σ H q => q⟩
theorem sl_break (d : ε) (h : SubS (Rb d) R) : SL X C W H0 R (.Break pos :: rest) er Rb Rn (pure (.bk d)) := ⟨(pss_cons ps_break pss_never).weak fun D σ H ⟨s, c, q⟩ => by
  rw [PyM.run_pure] at q
  exact q σ H (Firms.refl H) (c.sub h)⟩
/-- x = e -/
theorem sl_set {i : Nat} {x : Str} {k : α → m (Out ρ ε δ)} {pos' : Pos} (hN : X.N.Nodup) (hi : X.N[i]? = some x) (hx : Loc X.env.scope x) (hl : i < R.length) (h : SE X C W H0 R e ea me) (hr : ∀ a, SL X C W H0 (R.set i (some (.frz (ea a)))) rest er Rb Rn (k a))
    (hs : swapsWith e (some (.Name x pos')) pos.line X.env = pure false) (hf : X.fn x = true ∨ X.env.scope.names.lookup x = some .local) : SL X C W H0 R (.Assign [.Name x pos'] e pos :: rest) er Rb Rn (me >>= k) :=
  ⟨(pss_cons (ps_set hN hi hx h.run hs hf) (u := fun D σ H => ∃ a, tS C W H0 (R.set i (some (.frz (ea a)))) er Rb Rn (k a) D σ H) ⟨fun pins s σ H D I ⟨a, q⟩ => (hr a).run.run pins s σ H D I q⟩).weak fun D σ H q =>
    tS_bind (k := kF X.K X.w C.mt) (ea := ea) q fun a v H' kv e _ ⟨s, c, q⟩ => ⟨a, s, c.setF hl kv, q⟩⟩
theorem sl_setO {i : Nat} {x : Str} {k : List α → m (Out ρ ε δ)} {pos' : Pos} {me : m (List α)} (hN : X.N.Nodup) (hi : X.N[i]? = some x) (hx : Loc X.env.scope x) (hl : i < R.length) (h : SO X C W H0 R e (eLst ea) me) (hr : ∀ a, SL X C W H0 (R.set i (some (.own (a.map ea)))) rest er Rb Rn (k a))
    (hs : swapsWith e (some (.Name x pos')) pos.line X.env = pure false) (hf : X.fn x = true ∨ X.env.scope.names.lookup x = some .local) : SL X C W H0 R (.Assign [.Name x pos'] e pos :: rest) er Rb Rn (me >>= k) :=
  ⟨(pss_cons (ps_set hN hi hx h.run hs hf) (u := fun D σ H => ∃ a : List α, tS C W H0 (R.set i (some (.own (a.map ea)))) er Rb Rn (k a) D σ H) ⟨fun pins s σ H D I ⟨a, q⟩ => (hr a).run.run pins s σ H D I q⟩).weak fun D σ H q => by
    obtain ⟨s0, c0, q0⟩ := id q
    refine tS_bind (k := kO X.K X.w C.mt) (ea := eLst ea) q fun a v H' ⟨b, vs, ds, h1, h2, h3, h4, h5⟩ e nb ⟨s, c, q⟩ => ⟨a, s, ?_, q⟩
    subst h1
    have h2 : PyData.list (a.map ea) = .list ds := h2
    injection h2 with h2
    subst h2
    have nm : ¬ C.mt b := fun z => by
      obtain ⟨o, ho, _⟩ := C.there _ _ _ c0.rel z
      rw [h5] at ho; cases ho
    have h0 : H0 b = none := by
      cases z : H0 b with
      | none => rfl
      | some o => rw [c0.base b o z (.inl nm)] at h5; cases h5
    refine c.setO hl h3 h4 h0 nm fun j y hy oy z => ?_
    obtain ⟨v, e1, ok⟩ := c0.slot j y hy
    rw [z] at e1; cases e1
    cases y with
    | ownD kvs =>
      obtain ⟨b', us, k1, k2, _⟩ := ok
      cases k1
      rw [h5] at k2; cases k2
    | own ds =>
      obtain ⟨b', us, k1, k2, _⟩ := ok
      cases k1
      rw [h5] at k2; cases k2
    | frz d => exact oy
    | adr d => exact oy
    | scr d => exact oy⟩
end
end TT

namespace TT
open PyM (fromO)
open PySem PySem.Spec PyProof.Rows L2

section
variable {m : Type → Type} [Monad m] {α δ ρ ε : Type}
def foldL (f : α → δ → m δ) : List α → δ → m δ
  | [], d => pure d
  | x :: xs, d => f x d >>= foldL f xs
/-- a turn's end, in a loop -/
def Out.loop (k : δ → m (δ ⊕ ρ)) : Out ρ δ δ → m (δ ⊕ ρ)
  | .nx d => k d
  | .ct d => k d
  | .bk d => pure (.inl d)
  | .rt r => pure (.inr r)
/-- a loop that may be left -/
def loopL (f : α → δ → m (Out ρ δ δ)) : List α → δ → m (δ ⊕ ρ)
  | [], d => pure (.inl d)
  | x :: xs, d => f x d >>= Out.loop (loopL f xs)
def thenL {ρ ε δ' : Type} (k : δ → m (Out ρ ε δ')) : δ ⊕ ρ → m (Out ρ ε δ')
  | .inl d => k d
  | .inr r => pure (.rt r)
def whileF [PyM m] (c : δ → m Bool) (b : δ → m (Out ρ δ δ)) : Nat → δ → m (δ ⊕ ρ)
  | 0, _ => fromO none
  | n + 1, d => c d >>= fun t => if t = true then b d >>= Out.loop (whileF c b n) else pure (.inl d)
noncomputable def whileG [PyM m] (c : δ → m Bool) (b : δ → m (Out ρ δ δ)) (d : δ) : m (δ ⊕ ρ) := PyM.sup fun n => whileF c b n d
def whileFP [PyM m] (c : δ → m Bool) (b : δ → m δ) : Nat → δ → m δ
  | 0, _ => fromO none
  | n + 1, d => c d >>= fun t => if t = true then b d >>= whileFP c b n else pure d
noncomputable def whileM [PyM m] (c : δ → m Bool) (b : δ → m δ) (d : δ) : m δ := PyM.sup fun n => whileFP c b n d
def Out.thn {ρ ε δ δ' : Type} (k : δ → m (Out ρ ε δ')) : Out ρ ε δ → m (Out ρ ε δ')
  | .nx d => k d
  | .rt r => pure (.rt r)
  | .bk d => pure (.bk d)
  | .ct d => pure (.ct d)
end

section
variable {X : Cx} {m : Type → Type} [Monad m] [PyM m] {C : Wd X.K X.w m} {W : WX} {H0 : Hp} {R : Slots} {α β γ ρ ε δ δ' : Type} {ea : α → PyData} {eb : β → PyData} {er : ρ → PyData} {Rb : ε → Slots} {Rn : δ → Slots} {Rn' : δ' → Slots}
variable {e c : Expr} {st : Stmt} {rest sts body : List Stmt} {me : m α} {mc : m Bool} {pos : Pos} {mm mm' : m (Out ρ ε δ)}
theorem tS_rt {ma : m ρ} {D D' : Ends} {σ : L2.St} {H : Hp} (h : tS C W H0 R er Rb Rn (ma >>= fun r => pure (Out.rt r)) D σ H) (e : D'.rt = D.rt) : tS C W H0 R er noE noE (ma >>= fun r => pure (Out.rt r)) D' σ H := by
  obtain ⟨s, c, h⟩ := h
  refine ⟨s, c, ?_⟩
  rw [PyM.run_bind] at h ⊢
  cases q : PyM.run ma s with
  | none => rw [q] at h; exact h
  | some p =>
    obtain ⟨r, s1⟩ := p
    rw [q] at h
    cases r with
    | error x => exact h
    | ok a =>
      show AfterS C W H0 H er noE noE D' (PyM.run (pure (Out.rt a)) s1)
      have h : AfterS C W H0 H er Rb Rn D (PyM.run (pure (Out.rt a)) s1) := h
      rw [PyM.run_pure] at h ⊢
      show ∀ v H', _ → _ → _ → D'.rt v H'
      rw [e]
      exact h
theorem sl_ifR {a : List Stmt} {ma : m ρ} (hc : ST X C W H0 R c mc) (ha : SF X C W H0 R a er ma) (hr : SL X C W H0 R rest er Rb Rn mm) :
    SL X C W H0 R (.If c a [] pos :: rest) er Rb Rn (mc >>= fun b => if b = true then ma >>= fun r => pure (.rt r) else mm) :=
  ⟨(pss_cons (ps_if hc.run ha.run pss_nil) hr.run).weak fun D σ H q => by
    have q := tS_test q
    obtain ⟨s, c, q⟩ := q
    refine ⟨s, c, ?_⟩
    cases z : PyM.run mc s with
    | none => rw [z] at q; exact q
    | some p =>
      obtain ⟨r, s1⟩ := p
      rw [z] at q
      cases r with
      | error x => exact q
      | ok b =>
        intro H' e rl
        have q := q H' e rl
        cases b with
        | true => exact tS_rt q rfl
        | false => exact q⟩
/-- both ways return -/
theorem sl_ifRR {a b : List Stmt} {ma mb : m ρ} (hc : ST X C W H0 R c mc) (ha : SF X C W H0 R a er ma) (hb : SF X C W H0 R b er mb) :
    SL X C W H0 R (.If c a b pos :: rest) er Rb Rn (mc >>= fun b => if b = true then ma >>= fun r => pure (.rt r) else mb >>= fun r => pure (.rt r)) :=
  ⟨(pss_cons (ps_if hc.run ha.run hb.run) pss_never).weak fun D σ H q => by
    have q := tS_test q
    obtain ⟨s, c, q⟩ := q
    refine ⟨s, c, ?_⟩
    cases z : PyM.run mc s with
    | none => rw [z] at q; exact q
    | some p =>
      obtain ⟨r, s1⟩ := p
      rw [z] at q
      cases r with
      | error x => exact q
      | ok b =>
        intro H' e rl
        have q := q H' e rl
        cases b with
        | true => exact tS_rt q rfl
        | false => exact tS_rt q rfl⟩
/-- the first part goes on with another state -/
theorem tS_thn {ma : m (Out ρ ε δ)} {k : δ → m (Out ρ ε δ')} {D D' : Ends} {σ : L2.St} {H : Hp} (h : tS C W H0 R er Rb Rn' (ma >>= Out.thn k) D σ H) (e1 : D'.rt = D.rt) (e2 : D'.bk = D.bk) (e3 : D'.ct = D.ct)
    (n : ∀ d s σ' H', Firms H H' → Cfg C H0 (Rn d) s σ' H' → AfterS C W H0 H' er Rb Rn' D (PyM.run (k d) s) → D'.nx σ' H') : tS C W H0 R er Rb Rn ma D' σ H := by
  obtain ⟨s, c, h⟩ := h
  refine ⟨s, c, ?_⟩
  rw [PyM.run_bind] at h
  cases q : PyM.run ma s with
  | none => rw [q] at h; exact h
  | some p =>
    obtain ⟨r, s1⟩ := p
    rw [q] at h
    cases r with
    | error x => exact h
    | ok o =>
      have h : AfterS C W H0 H er Rb Rn' D (PyM.run (Out.thn k o) s1) := h
      cases o with
      | nx d => exact fun σ' H' f cf => n d s1 σ' H' f cf (AfterS.mono f h)
      | rt r =>
        have h : AfterS C W H0 H er Rb Rn' D (PyM.run (pure (.rt r)) s1) := h
        rw [PyM.run_pure] at h
        show ∀ v H', _ → _ → _ → D'.rt v H'
        rw [e1]; exact h
      | bk d =>
        have h : AfterS C W H0 H er Rb Rn' D (PyM.run (pure (.bk d)) s1) := h
        rw [PyM.run_pure] at h
        show ∀ σ' H', _ → _ → D'.bk σ' H'
        rw [e2]; exact h
      | ct d =>
        have h : AfterS C W H0 H er Rb Rn' D (PyM.run (pure (.ct d)) s1) := h
        rw [PyM.run_pure] at h
        show ∀ σ' H', _ → _ → D'.ct σ' H'
        rw [e3]; exact h
theorem sl_ifG {a b : List Stmt} {ma mb : m (Out ρ ε δ)} {k : δ → m (Out ρ ε δ')} (hc : ST X C W H0 R c mc) (ha : SL X C W H0 R a er Rb Rn ma) (hb : SL X C W H0 R b er Rb Rn mb) (hr : ∀ d, SL X C W H0 (Rn d) rest er Rb Rn' (k d)) :
    SL X C W H0 R (.If c a b pos :: rest) er Rb Rn' (mc >>= fun t => (if t = true then ma else mb) >>= Out.thn k) :=
  ⟨(pss_cons (ps_if hc.run ha.run hb.run) (u := fun D σ H => ∃ d, tS C W H0 (Rn d) er Rb Rn' (k d) D σ H) ⟨fun pins s σ H D I ⟨d, q⟩ => (hr d).run.run pins s σ H D I q⟩).weak fun D σ H q => by
    have q := tS_test q
    obtain ⟨s, c, q⟩ := q
    refine ⟨s, c, ?_⟩
    cases z : PyM.run mc s with
    | none => rw [z] at q; exact q
    | some p =>
      obtain ⟨r, s1⟩ := p
      rw [z] at q
      cases r with
      | error x => exact q
      | ok b =>
        intro H' e rl
        have q := q H' e rl
        cases b with
        | true => exact tS_thn q rfl rfl rfl fun d s σ' H' f cf h => ⟨d, s, cf, h⟩
        | false => exact tS_thn q rfl rfl rfl fun d s σ' H' f cf h => ⟨d, s, cf, h⟩⟩
/-- a plain block within a block of any kind -/
theorem SP.up {ma : m δ} (h : SP X C W H0 R sts Rn ma) : SL X C W H0 R sts er Rb Rn (ma >>= fun d => pure (.nx d)) :=
  ⟨h.run.weak fun D σ H ⟨s, c, q⟩ => by
    refine ⟨s, c, ?_⟩
    rw [PyM.run_bind] at q ⊢
    cases z : PyM.run ma s with
    | none => rw [z] at q; exact q
    | some p =>
      obtain ⟨r, s1⟩ := p
      rw [z] at q
      cases r with
      | error x => exact q
      | ok d =>
        show AfterS C W H0 H _ noE Rn D (PyM.run (pure (.nx d)) s1)
        have q : AfterS C W H0 H er Rb Rn D (PyM.run (pure (.nx d)) s1) := q
        rw [PyM.run_pure] at q ⊢
        exact q⟩
theorem sl_ifP {a b : List Stmt} {ma mb : m δ} {k : δ → m (Out ρ ε δ')} (hc : ST X C W H0 R c mc) (ha : SP X C W H0 R a Rn ma) (hb : SP X C W H0 R b Rn mb) (hr : ∀ d, SL X C W H0 (Rn d) rest er Rb Rn' (k d)) :
    SL X C W H0 R (.If c a b pos :: rest) er Rb Rn' (mc >>= fun t => (if t = true then ma else mb) >>= k) :=
  (sl_ifG hc ha.up hb.up hr).alike (alike_bind fun t => by
    cases t with
    | true => exact Alike.symm (((alike_assoc ma (fun d => pure (Out.nx d)) (Out.thn k)).trans (alike_bind fun d => alike_pure)))
    | false => exact Alike.symm ((alike_assoc mb (fun d => pure (Out.nx d)) (Out.thn k)).trans (alike_bind fun d => alike_pure)))

/-! ### for -/
variable {tg iter : Expr} {mi : m (List α)} {g : TG} {is : List Nat} {dts : α → List PyData} {Rl : δ → Slots} {d0 : δ}
/-- what holds between a loop's turns -/
def ForW (X : Cx) (C : Wd X.K X.w m) (W : WX) (H0 : Hp) (er : ρ → PyData) (Rl : δ → Slots) (mb : α → δ → m (Out ρ δ δ)) (xs : List α) (H1 : Hp) (D : Ends) (i k : Nat) (σ : L2.St) (H : Hp) : Prop :=
  k = xs.length - i ∧ i ≤ xs.length ∧ ∃ d s, Firms H1 H ∧ Cfg C H0 (Rl d) s σ H ∧ match PyM.run (loopL mb (xs.drop i) d) s with
    | none => False
    | some (.ok (.inl d'), s') => ∀ σ' H', Firms H1 H' → Cfg C H0 (Rl d') s' σ' H' → D.nx σ' H'
    | some (.ok (.inr r), s') => ∀ v H', Ext C.mt H0 H' → C.rel s' H' → Rep X.K X.w H' v (er r) → D.rt v H'
    | some (.error x, s') => ∀ cls d σ' H', Ext C.mt H0 H' → C.rel s' H' → C.exc x cls d H' → W cls d σ' H'
theorem sl_forG {mb : α → δ → m (Out ρ δ δ)} {k : δ → m (Out ρ ε δ')} (hp : PassesOwn (model X.prog X.w) X.A X.env X.xe) (hc : X.calm = true) (hi : SI X C W H0 R Firms tg iter ea mi) (hg : PG X tg g) (hgo : GOk X.K X.w g ea is dts)
    (h0 : SubS (Rl d0) R) (hlt : ∀ d, ∀ i ∈ is, i < (Rl d).length) (hb : ∀ a d, SL X C W H0 (setR (Rl d) is (dts a)) body er Rl Rl (mb a d)) (hr : ∀ d, SL X C W H0 (Rl d) rest er Rb Rn' (k d))
    (hs : ∀ x, foldedSetIterable iter X.env x = pure x) : SL X C W H0 R (.For tg iter body [] pos :: rest) er Rb Rn' (mi >>= fun xs => loopL mb xs d0 >>= thenL k) :=
  ⟨(pss_cons (ps_for hp hc hi.run hg (tb := fun D σ H => ∃ a d, tS C W H0 (setR (Rl d) is (dts a)) er Rl Rl (mb a d) D σ H) ⟨fun pins s σ H D I ⟨a, d, q⟩ => (hb a d).run.run pins s σ H D I q⟩ hs)
      (u := fun D σ H => ∃ d, tS C W H0 (Rl d) er Rb Rn' (k d) D σ H) ⟨fun pins s σ H D I ⟨d, q⟩ => (hr d).run.run pins s σ H D I q⟩).weak fun D σ H q => by
    obtain ⟨s, c, q⟩ := q
    refine ⟨s, c, ?_⟩
    rw [PyM.run_bind] at q
    cases z : PyM.run mi s with
    | none => rw [z] at q; exact q
    | some p =>
      obtain ⟨r, s1⟩ := p
      rw [z] at q
      cases r with
      | error x => exact fun cls d H' e rl ex => q cls d σ H' (c.base.trans e) rl ex
      | ok xs =>
        intro J H1 e1 rl1 wk
        have q : AfterS C W H0 H er Rb Rn' D (PyM.run (loopL mb xs d0 >>= thenL k) s1) := q
        have q := AfterS.mono e1.firms q
        rw [PyM.run_bind] at q
        refine ⟨ForW X C W H0 er Rl mb xs H1 { D with nx := fun σ H => ∃ d, tS C W H0 (Rl d) er Rb Rn' (k d) D σ H }, ⟨xs.length, rfl, Nat.zero_le _, d0, s1, Firms.refl _, (c.ext e1 rl1).sub h0, ?_⟩, ?_⟩
        · show match PyM.run (loopL mb xs d0) s1 with | none => _ | some (.ok (.inl d'), s') => _ | some (.ok (.inr r), s') => _ | some (.error x, s') => _
          cases z2 : PyM.run (loopL mb xs d0) s1 with
          | none => rw [z2] at q; exact q
          | some p2 =>
            obtain ⟨r2, s2⟩ := p2
            rw [z2] at q
            cases r2 with
            | error x => exact q
            | ok o =>
              cases o with
              | inl d' => exact fun σ' H' f cf => ⟨d', s2, cf, AfterS.mono f q⟩
              | inr r =>
                have q : AfterS C W H0 H1 er Rb Rn' D (PyM.run (pure (.rt r)) s2) := q
                rw [PyM.run_pure] at q
                exact q
        · rintro i n σ2 H2 ⟨rfl, hi, d, s2, f2, c2, w2⟩
          by_cases hlt' : i < xs.length
          · obtain ⟨go, yl⟩ := wk.go i H2 f2 (by rw [List.length_map]; exact hlt')
            refine .inr ⟨go, ForW X C W H0 er Rl mb xs H1 { D with nx := fun σ H => ∃ d, tS C W H0 (Rl d) er Rb Rn' (k d) D σ H } (i + 1) (xs.length - (i + 1)), fun σ' H' hN => ⟨_, by omega, hN⟩, fun x H3 y => ?_⟩
            obtain ⟨e3, dx, hd, rx⟩ := yl x H3 y
            have hx : xs[i]? = some xs[i] := List.getElem?_eq_getElem hlt'
            rw [List.getElem?_map, hx] at hd
            have hd : some (ea xs[i]) = some dx := hd
            cases hd
            refine hgo.run xs[i] x _ H3 _ rx fun ws rws => ⟨xs[i], d, s2, (c2.same e3).setAll (hlt d) rws, ?_⟩
            have f13 : Firms H1 H3 := f2.trans fun b o h _ => e3 b o h
            have hdr : xs.drop i = xs[i] :: xs.drop (i + 1) := List.drop_eq_getElem_cons hlt'
            rw [hdr] at w2
            have e : PyM.run (loopL mb (xs[i] :: xs.drop (i + 1)) d) s2 = Res.bind (PyM.run (mb xs[i] d) s2) fun o s' => PyM.run (Out.loop (loopL mb (xs.drop (i + 1))) o) s' := PyM.run_bind (mb xs[i] d) _ s2
            rw [e] at w2
            cases z3 : PyM.run (mb xs[i] d) s2 with
            | none => rw [z3] at w2; exact w2
            | some p3 =>
              obtain ⟨r3, s3⟩ := p3
              rw [z3] at w2
              cases r3 with
              | error x => exact w2
              | ok o =>
                cases o with
                | nx d' => exact fun σ' H' f cf => ⟨rfl, hlt', d', s3, f13.trans f, cf, w2⟩
                | ct d' => exact fun σ' H' f cf => ⟨rfl, hlt', d', s3, f13.trans f, cf, w2⟩
                | bk d' =>
                  have w2 : match PyM.run (pure (Sum.inl d') : m (δ ⊕ ρ)) s3 with
                    | none => False
                    | some (.ok (.inl d'), s') => ∀ σ' H', Firms H1 H' → Cfg C H0 (Rl d') s' σ' H' → ∃ d, tS C W H0 (Rl d) er Rb Rn' (k d) D σ' H'
                    | some (.ok (.inr r), s') => ∀ v H', Ext C.mt H0 H' → C.rel s' H' → Rep X.K X.w H' v (er r) → D.rt v H'
                    | some (.error x, s') => ∀ cls d σ' H', Ext C.mt H0 H' → C.rel s' H' → C.exc x cls d H' → W cls d σ' H' := w2
                  rw [PyM.run_pure] at w2
                  exact fun σ' H' f cf => w2 σ' H' (f13.trans f) cf
                | rt r =>
                  have w2 : match PyM.run (pure (Sum.inr r) : m (δ ⊕ ρ)) s3 with
                    | none => False
                    | some (.ok (.inl d'), s') => ∀ σ' H', Firms H1 H' → Cfg C H0 (Rl d') s' σ' H' → ∃ d, tS C W H0 (Rl d) er Rb Rn' (k d) D σ' H'
                    | some (.ok (.inr r), s') => ∀ v H', Ext C.mt H0 H' → C.rel s' H' → Rep X.K X.w H' v (er r) → D.rt v H'
                    | some (.error x, s') => ∀ cls d σ' H', Ext C.mt H0 H' → C.rel s' H' → C.exc x cls d H' → W cls d σ' H' := w2
                  rw [PyM.run_pure] at w2
                  exact w2
          · have hi' : i = xs.length := by omega
            subst hi'
            refine .inl ⟨wk.stop _ H2 f2 (by rw [List.length_map]; exact Nat.le_refl _), ?_⟩
            rw [List.drop_length] at w2
            have w2 : match PyM.run (pure (Sum.inl d) : m (δ ⊕ ρ)) s2 with
                    | none => False
                    | some (.ok (.inl d'), s') => ∀ σ' H', Firms H1 H' → Cfg C H0 (Rl d') s' σ' H' → ∃ d, tS C W H0 (Rl d) er Rb Rn' (k d) D σ' H'
                    | some (.ok (.inr r), s') => ∀ v H', Ext C.mt H0 H' → C.rel s' H' → Rep X.K X.w H' v (er r) → D.rt v H'
                    | some (.error x, s') => ∀ cls d σ' H', Ext C.mt H0 H' → C.rel s' H' → C.exc x cls d H' → W cls d σ' H' := w2
            rw [PyM.run_pure] at w2
            exact w2 σ2 H2 f2 c2⟩
theorem loop_fold {f : α → δ → m δ} : ∀ (xs : List α) (d : δ), Alike (loopL (ρ := ρ) (fun x d => f x d >>= fun d' => pure (.nx d')) xs d) (foldL f xs d >>= fun d => pure (.inl d))
  | [], d => alike_pure.symm
  | x :: xs, d => by
    show Alike ((f x d >>= fun d' => pure (Out.nx d')) >>= _) ((f x d >>= foldL f xs) >>= _)
    refine (alike_assoc _ _ _).trans (.trans (alike_bind fun d' => ?_) (alike_assoc _ _ _).symm)
    exact alike_pure.trans (loop_fold xs d')
theorem sl_forP {mb : α → δ → m δ} {k : δ → m (Out ρ ε δ')} (hp : PassesOwn (model X.prog X.w) X.A X.env X.xe) (hc : X.calm = true) (hi : SI X C W H0 R Firms tg iter ea mi) (hg : PG X tg g) (hgo : GOk X.K X.w g ea is dts)
    (h0 : SubS (Rl d0) R) (hlt : ∀ d, ∀ i ∈ is, i < (Rl d).length) (hb : ∀ a d, SP X C W H0 (setR (Rl d) is (dts a)) body Rl (mb a d)) (hr : ∀ d, SL X C W H0 (Rl d) rest er Rb Rn' (k d))
    (hs : ∀ x, foldedSetIterable iter X.env x = pure x) : SL X C W H0 R (.For tg iter body [] pos :: rest) er Rb Rn' (mi >>= fun xs => foldL mb xs d0 >>= k) :=
  (sl_forG hp hc hi hg hgo h0 hlt (fun a d => (hb a d).up) hr hs).alike (alike_bind fun xs =>
    (((alike_bind2 (g := thenL k) (loop_fold xs d0) fun _ => .refl _).trans (alike_assoc (foldL mb xs d0) (fun d => pure (Sum.inl d)) (thenL k))).trans (alike_bind fun d => alike_pure)).symm)

/-! ### while -/
def WhW (X : Cx) (C : Wd X.K X.w m) (W : WX) (H0 : Hp) (er : ρ → PyData) (Rl : δ → Slots) (mc : δ → m Bool) (mb : δ → m (Out ρ δ δ)) (H1 : Hp) (D : Ends) (n : Nat) (σ : L2.St) (H : Hp) : Prop :=
  ∃ d s, Firms H1 H ∧ Cfg C H0 (Rl d) s σ H ∧ match PyM.run (whileF mc mb n d) s with
    | none => False
    | some (.ok (.inl d'), s') => ∀ σ' H', Firms H1 H' → Cfg C H0 (Rl d') s' σ' H' → D.nx σ' H'
    | some (.ok (.inr r), s') => ∀ v H', Ext C.mt H0 H' → C.rel s' H' → Rep X.K X.w H' v (er r) → D.rt v H'
    | some (.error x, s') => ∀ cls d σ' H', Ext C.mt H0 H' → C.rel s' H' → C.exc x cls d H' → W cls d σ' H'
theorem sl_whG {mc : δ → m Bool} {mb : δ → m (Out ρ δ δ)} {k : δ → m (Out ρ ε δ')} (hp : PassesOwn (model X.prog X.w) X.A X.env X.xe)
    (h0 : SubS (Rl d0) R) (hc : ∀ d, ST X C W H0 (Rl d) c (mc d)) (hb : ∀ d, SL X C W H0 (Rl d) body er Rl Rl (mb d)) (hr : ∀ d, SL X C W H0 (Rl d) rest er Rb Rn' (k d)) :
    SL X C W H0 R (.While c body [] pos :: rest) er Rb Rn' (whileG mc mb d0 >>= thenL k) :=
  ⟨(pss_cons (ps_while hp (tc := fun σ H Q => ∃ d, tT C W H0 (Rl d) (mc d) σ H Q) (tb := fun D σ H => ∃ d, tS C W H0 (Rl d) er Rl Rl (mb d) D σ H) ⟨fun pins s σ H Q I ⟨d, q⟩ => (hc d).run.run pins s σ H Q I q⟩ ⟨fun pins s σ H D I ⟨d, q⟩ => (hb d).run.run pins s σ H D I q⟩)
      (u := fun D σ H => ∃ d, tS C W H0 (Rl d) er Rb Rn' (k d) D σ H) ⟨fun pins s σ H D I ⟨d, q⟩ => (hr d).run.run pins s σ H D I q⟩).weak fun D σ H q => by
    obtain ⟨s, c, q⟩ := q
    rw [PyM.run_bind] at q
    cases z : PyM.run (whileG mc mb d0) s with
    | none => rw [z] at q; exact q.elim
    | some p =>
      obtain ⟨n, hn⟩ := PyM.run_sup _ _ _ z
      rw [z] at q
      refine ⟨WhW X C W H0 er Rl mc mb H { D with nx := fun σ H => ∃ d, tS C W H0 (Rl d) er Rb Rn' (k d) D σ H }, ⟨n, d0, s, Firms.refl _, c.sub h0, ?_⟩, ?_⟩
      · rw [hn]
        obtain ⟨r2, s2⟩ := p
        cases r2 with
        | error x => exact q
        | ok o =>
          cases o with
          | inl d' => exact fun σ' H' f cf => ⟨d', s2, cf, AfterS.mono f q⟩
          | inr r =>
            have q : AfterS C W H0 H er Rb Rn' D (PyM.run (pure (.rt r)) s2) := q
            rw [PyM.run_pure] at q
            exact q
      · rintro i σ2 H2 ⟨d, s2, f2, c2, w2⟩
        cases i with
        | zero =>
          have w2 : match PyM.run (fromO none : m (δ ⊕ ρ)) s2 with
                    | none => False
                    | some (.ok (.inl d'), s') => ∀ σ' H', Firms H H' → Cfg C H0 (Rl d') s' σ' H' → ∃ d, tS C W H0 (Rl d) er Rb Rn' (k d) D σ' H'
                    | some (.ok (.inr r), s') => ∀ v H', Ext C.mt H0 H' → C.rel s' H' → Rep X.K X.w H' v (er r) → D.rt v H'
                    | some (.error x, s') => ∀ cls d σ' H', Ext C.mt H0 H' → C.rel s' H' → C.exc x cls d H' → W cls d σ' H' := w2
          rw [PyM.run_fromO] at w2
          exact w2.elim
        | succ i =>
          have e : PyM.run (whileF mc mb (i + 1) d) s2 = Res.bind (PyM.run (mc d) s2) fun t s' => PyM.run (if t = true then mb d >>= Out.loop (whileF mc mb i) else pure (.inl d)) s' := PyM.run_bind (mc d) _ s2
          rw [e] at w2
          refine ⟨d, s2, c2, ?_⟩
          cases z3 : PyM.run (mc d) s2 with
          | none => rw [z3] at w2; exact w2
          | some p3 =>
            obtain ⟨r3, s3⟩ := p3
            rw [z3] at w2
            cases r3 with
            | error x => exact fun cls dd H' e rl ex => w2 cls dd σ2 H' (c2.base.trans e) rl ex
            | ok t =>
              intro H3 e3 rl3
              have c3 := c2.ext e3 rl3
              have f3 : Firms H H3 := f2.trans e3.firms
              cases t with
              | false =>
                have w2 : match PyM.run (pure (Sum.inl d) : m (δ ⊕ ρ)) s3 with
                    | none => False
                    | some (.ok (.inl d'), s') => ∀ σ' H', Firms H H' → Cfg C H0 (Rl d') s' σ' H' → ∃ d, tS C W H0 (Rl d) er Rb Rn' (k d) D σ' H'
                    | some (.ok (.inr r), s') => ∀ v H', Ext C.mt H0 H' → C.rel s' H' → Rep X.K X.w H' v (er r) → D.rt v H'
                    | some (.error x, s') => ∀ cls d σ' H', Ext C.mt H0 H' → C.rel s' H' → C.exc x cls d H' → W cls d σ' H' := w2
                rw [PyM.run_pure] at w2
                exact w2 σ2 H3 f3 c3
              | true =>
                rw [if_pos rfl]
                refine ⟨WhW X C W H0 er Rl mc mb H { D with nx := fun σ H => ∃ d, tS C W H0 (Rl d) er Rb Rn' (k d) D σ H } i, fun σ' H' w => ⟨i, Nat.lt_succ_self i, w⟩, d, s3, c3, ?_⟩
                have e : PyM.run (mb d >>= Out.loop (whileF mc mb i)) s3 = Res.bind (PyM.run (mb d) s3) fun o s' => PyM.run (Out.loop (whileF mc mb i) o) s' := PyM.run_bind (mb d) _ s3
                have w2 : match PyM.run (mb d >>= Out.loop (whileF mc mb i)) s3 with
                    | none => False
                    | some (.ok (.inl d'), s') => ∀ σ' H', Firms H H' → Cfg C H0 (Rl d') s' σ' H' → ∃ d, tS C W H0 (Rl d) er Rb Rn' (k d) D σ' H'
                    | some (.ok (.inr r), s') => ∀ v H', Ext C.mt H0 H' → C.rel s' H' → Rep X.K X.w H' v (er r) → D.rt v H'
                    | some (.error x, s') => ∀ cls d σ' H', Ext C.mt H0 H' → C.rel s' H' → C.exc x cls d H' → W cls d σ' H' := w2
                rw [e] at w2
                cases z4 : PyM.run (mb d) s3 with
                | none => rw [z4] at w2; exact w2
                | some p4 =>
                  obtain ⟨r4, s4⟩ := p4
                  rw [z4] at w2
                  cases r4 with
                  | error x => exact w2
                  | ok o =>
                    cases o with
                    | nx d' => exact fun σ' H' f cf => ⟨d', s4, f3.trans f, cf, w2⟩
                    | ct d' => exact fun σ' H' f cf => ⟨d', s4, f3.trans f, cf, w2⟩
                    | bk d' =>
                      have w2 : match PyM.run (pure (Sum.inl d') : m (δ ⊕ ρ)) s4 with
                        | none => False
                        | some (.ok (.inl d'), s') => ∀ σ' H', Firms H H' → Cfg C H0 (Rl d') s' σ' H' → ∃ d, tS C W H0 (Rl d) er Rb Rn' (k d) D σ' H'
                        | some (.ok (.inr r), s') => ∀ v H', Ext C.mt H0 H' → C.rel s' H' → Rep X.K X.w H' v (er r) → D.rt v H'
                        | some (.error x, s') => ∀ cls d σ' H', Ext C.mt H0 H' → C.rel s' H' → C.exc x cls d H' → W cls d σ' H' := w2
                      rw [PyM.run_pure] at w2
                      exact fun σ' H' f cf => w2 σ' H' (f3.trans f) cf
                    | rt r =>
                      have w2 : match PyM.run (pure (Sum.inr r) : m (δ ⊕ ρ)) s4 with
                        | none => False
                        | some (.ok (.inl d'), s') => ∀ σ' H', Firms H H' → Cfg C H0 (Rl d') s' σ' H' → ∃ d, tS C W H0 (Rl d) er Rb Rn' (k d) D σ' H'
                        | some (.ok (.inr r), s') => ∀ v H', Ext C.mt H0 H' → C.rel s' H' → Rep X.K X.w H' v (er r) → D.rt v H'
                        | some (.error x, s') => ∀ cls d σ' H', Ext C.mt H0 H' → C.rel s' H' → C.exc x cls d H' → W cls d σ' H' := w2
                      rw [PyM.run_pure] at w2
                      exact w2⟩
end
end TT

namespace TT
open PyM (fromO)
open PySem PySem.Spec PyProof.Rows L2

section
variable {X : Cx} {m : Type → Type} [Monad m] [PyM m] {C : Wd X.K X.w m} {W : WX} {H0 : Hp} {R : Slots} {k : Kd} {α β γ ρ ε δ : Type} {ea : α → PyData} {eb : β → PyData} {ec : γ → PyData} {er : ρ → PyData} {Rb : ε → Slots} {Rn : δ → Slots}
variable {a b c e : Expr} {st : Stmt} {rest sts : List Stmt} {es : List Expr} {ma : m α} {mb : m β} {me : m α} {mi mj : m Int} {pos p : Pos} {mxs mys : m (List α)} {mz my : m Str} {x : Str}

/-! ### built-in functions of one thing -/
theorem sx_callB {id : String} {r : List V → Hp → VK → Prop} (kk : KdOk k) (hc : CallR X (.builtin id) r) (hg : Gl X x) (hm : X.mg x = none) (hv : bootBuiltins x = some (.builtin id)) (hn : x ≠ "__name__") (hd : (x == ("__debug__" : Str)) = false)
    (ha : SB X C W H0 R a ea ma) {g : α → m γ} (h : ∀ v σ H Q i, kB X.K X.w C.mt H H v (ea i) → LenOk X.K H → tR C W H0 R k ec (g i) σ H Q → r [v] H Q)
    (hs : starEach (a :: []) X.env = (false, eval a X.env) :: starEach [] X.env := by rfl) : SX X C W H0 R k (.Call (.Name x p) [a] [] pos) ec (ma >>= g) :=
  .weak (pe_callB hc hg hm hv (pa_cons (PE.facts ha.run) pa_nil hs) hn hd hs) fun σ H Q q => tR_imp (tR_bind kk q) fun v H1 ⟨i, e1, k1, h1⟩ l => h v σ H1 Q i k1 l h1
theorem sx_callT {T : String} {r : List V → Hp → VK → Prop} (kk : KdOk k) (hc : CallR X (.type T) r) (hg : Gl X x) (hm : X.mg x = none) (hv : bootBuiltins x = some (.type T)) (hn : x ≠ "__name__") (hd : (x == ("__debug__" : Str)) = false)
    (ha : SB X C W H0 R a ea ma) {g : α → m γ} (h : ∀ v σ H Q i, kB X.K X.w C.mt H H v (ea i) → LenOk X.K H → tR C W H0 R k ec (g i) σ H Q → r [v] H Q)
    (hs : starEach (a :: []) X.env = (false, eval a X.env) :: starEach [] X.env := by rfl) : SX X C W H0 R k (.Call (.Name x p) [a] [] pos) ec (ma >>= g) :=
  .weak (pe_callTy hc hg hm hv (pa_cons (PE.facts ha.run) pa_nil hs) hn hd hs) fun σ H Q q => tR_imp (tR_bind kk q) fun v H1 ⟨i, e1, k1, h1⟩ l => h v σ H1 Q i k1 l h1
theorem sx_callB2 {id : String} {r : List V → Hp → VK → Prop} (kk : KdOk k) (hc : CallR X (.builtin id) r) (hg : Gl X x) (hm : X.mg x = none) (hv : bootBuiltins x = some (.builtin id)) (hn : x ≠ "__name__") (hd : (x == ("__debug__" : Str)) = false)
    (ha : SB X C W H0 R a ea ma) (hb : SB X C W H0 R b eb mb) {g : α → β → m γ} (h : ∀ v u σ H Q i j, kB X.K X.w C.mt H H v (ea i) → kB X.K X.w C.mt H H u (eb j) → tR C W H0 R k ec (g i j) σ H Q → r [v, u] H Q)
    (hs : starEach (a :: [b]) X.env = (false, eval a X.env) :: starEach [b] X.env := by rfl) (hs2 : starEach (b :: []) X.env = (false, eval b X.env) :: starEach [] X.env := by rfl) (hpl : (backTo pos (starEach [b] X.env)).any (·.1) = false := by rfl) : SX X C W H0 R k (.Call (.Name x p) [a, b] [] pos) ec (ma >>= fun i => mb >>= fun j => g i j) :=
  .weak (pe_callB hc hg hm hv (pa_cons ha.run (pa_cons hb.run pa_nil hs2) hs) hn hd hs hpl) fun σ H Q q => tR_two (tb := fun _ _ _ => True) (r := fun v u H => r [v, u] H Q) kk q fun v u H2 i j k1 k2 q2 => h v u σ H2 Q i j k1 k2 q2
abbrev nN {x : Str} (h : (x != "__name__") = true) : x ≠ "__name__" := by simpa using h
theorem se_lenT (hg : Gl X "len") (hm : X.mg "len" = none) (ha : SB X C W H0 R a (eTup ea) mxs) (hs : starEach (a :: []) X.env = (false, eval a X.env) :: starEach [] X.env := by rfl) : SE X C W H0 R (.Call (.Name "len" p) [a] [] pos) eInt (mxs >>= fun xs => pure (xs.length : Int)) :=
  sx_callB kF_ok call_len hg hm PySem.boot_len (by decide) (by decide) ha (fun v σ H Q xs kv _ q => by
    obtain ⟨t, vs, rfl, h1, h2⟩ := kB_tup kv
    refine ⟨_, vs.length, rfl, .inr ⟨vs, h1, rfl⟩, ?_⟩
    rw [h2.length, List.length_map]
    exact (tR_pure q).2 _ H (.refl H) (.int _)) hs
theorem se_lenL (hg : Gl X "len") (hm : X.mg "len" = none) (ha : SB X C W H0 R a (eLst ea) mxs) (hs : starEach (a :: []) X.env = (false, eval a X.env) :: starEach [] X.env := by rfl) : SE X C W H0 R (.Call (.Name "len" p) [a] [] pos) eInt (mxs >>= fun xs => pure (xs.length : Int)) :=
  sx_callB kF_ok call_len hg hm PySem.boot_len (by decide) (by decide) ha (fun v σ H Q xs kv _ q => by
    obtain ⟨t, vs, rfl, h1, h2⟩ := kB_lst kv
    refine ⟨_, vs.length, rfl, .inl ⟨vs, h1, rfl⟩, ?_⟩
    rw [h2.length, List.length_map]
    exact (tR_pure q).2 _ H (.refl H) (.int _)) hs
theorem se_lenS (hg : Gl X "len") (hm : X.mg "len" = none) (ha : SB X C W H0 R a eStr mz) (hs : starEach (a :: []) X.env = (false, eval a X.env) :: starEach [] X.env := by rfl) : SE X C W H0 R (.Call (.Name "len" p) [a] [] pos) eInt (mz >>= fun z => fromO (if z.length ≤ 16777216 then some (z.length : Int) else none)) :=
  sx_callB kF_ok call_len hg hm PySem.boot_len (by decide) (by decide) ha (fun v σ H Q z kv _ q => by
    obtain ⟨c, e, _, q⟩ := tR_done q
    split at e
    · rename_i g
      cases e
      rw [kB_str kv]
      exact ⟨_, z.length, rfl, ⟨by rw [sizeLine_eq]; exact g, rfl⟩, q _ H (.refl H) (.int _)⟩
    · cases e) hs
theorem se_abs (hg : Gl X "abs") (hm : X.mg "abs" = none) (ha : SB X C W H0 R a eInt mi) (hs : starEach (a :: []) X.env = (false, eval a X.env) :: starEach [] X.env := by rfl) : SE X C W H0 R (.Call (.Name "abs" p) [a] [] pos) eInt (mi >>= fun i => pure (if i < 0 then -i else i)) :=
  sx_callB kF_ok call_abs hg hm (by decide +kernel) (by decide) (by decide) ha (fun v σ H Q i kv _ q => ⟨i, by rw [kB_int kv], (tR_pure q).2 _ H (.refl H) (.int _)⟩) hs
theorem se_int1 (hg : Gl X "int") (hm : X.mg "int" = none) (ha : SB X C W H0 R a eInt mi) (hs : starEach (a :: []) X.env = (false, eval a X.env) :: starEach [] X.env := by rfl) : SE X C W H0 R (.Call (.Name "int" p) [a] [] pos) eInt (mi >>= fun i => pure i) :=
  sx_callT kF_ok call_int1 hg hm (by decide +kernel) (by decide) (by decide) ha (fun v σ H Q i kv _ q => .inl ⟨i, by rw [kB_int kv], (tR_pure q).2 _ H (.refl H) (.int _)⟩) hs
theorem se_intB {mc : m Bool} (hg : Gl X "int") (hm : X.mg "int" = none) (ha : SB X C W H0 R a eBool mc) (hs : starEach (a :: []) X.env = (false, eval a X.env) :: starEach [] X.env := by rfl) : SE X C W H0 R (.Call (.Name "int" p) [a] [] pos) eInt (mc >>= fun i => pure (if i = true then 1 else 0)) :=
  sx_callT kF_ok call_int1 hg hm (by decide +kernel) (by decide) (by decide) ha (fun v σ H Q i kv _ q => .inr ⟨i, by rw [kB_bool kv], (tR_pure q).2 _ H (.refl H) (.int _)⟩) hs
theorem se_min2 (hk : X.calm = true) (hg : Gl X "min") (hm : X.mg "min" = none) (ha : SB X C W H0 R a eInt mi) (hb : SB X C W H0 R b eInt mj)
    (hs : starEach (a :: [b]) X.env = (false, eval a X.env) :: starEach [b] X.env := by rfl) (hs2 : starEach (b :: []) X.env = (false, eval b X.env) :: starEach [] X.env := by rfl) (hpl : (backTo pos (starEach [b] X.env)).any (·.1) = false := by rfl) :
    SE X C W H0 R (.Call (.Name "min" p) [a, b] [] pos) eInt (mi >>= fun i => mj >>= fun j => pure (if j < i then j else i)) :=
  sx_callB2 kF_ok (call_min2 hk) hg hm (by decide +kernel) (by decide) (by decide) ha hb (fun v u σ H Q i j k1 k2 q => ⟨i, j, by rw [kB_int k1, kB_int k2], (tR_pure q).2 _ H (.refl H) (.int _)⟩) hs hs2 hpl
theorem se_max2 (hk : X.calm = true) (hg : Gl X "max") (hm : X.mg "max" = none) (ha : SB X C W H0 R a eInt mi) (hb : SB X C W H0 R b eInt mj)
    (hs : starEach (a :: [b]) X.env = (false, eval a X.env) :: starEach [b] X.env := by rfl) (hs2 : starEach (b :: []) X.env = (false, eval b X.env) :: starEach [] X.env := by rfl) (hpl : (backTo pos (starEach [b] X.env)).any (·.1) = false := by rfl) :
    SE X C W H0 R (.Call (.Name "max" p) [a, b] [] pos) eInt (mi >>= fun i => mj >>= fun j => pure (if j > i then j else i)) :=
  sx_callB2 kF_ok (call_max2 hk) hg hm (by decide +kernel) (by decide) (by decide) ha hb (fun v u σ H Q i j k1 k2 q => ⟨i, j, by rw [kB_int k1, kB_int k2], (tR_pure q).2 _ H (.refl H) (.int _)⟩) hs hs2 hpl
/-- tuple(xs), list(xs) -/
theorem se_tupleL (hg : Gl X "tuple") (hm : X.mg "tuple" = none) (ha : SB X C W H0 R a (eLst ea) mxs) (hs : starEach (a :: []) X.env = (false, eval a X.env) :: starEach [] X.env := by rfl) : SE X C W H0 R (.Call (.Name "tuple" p) [a] [] pos) (eTup ea) (mxs >>= fun xs => pure xs) :=
  sx_callT kF_ok call_tuple_of hg hm (by decide +kernel) (by decide) (by decide) ha (fun v σ H Q xs kv _ q => by
    obtain ⟨t, vs, rfl, h1, h2⟩ := kB_lst kv
    exact ⟨t, vs, rfl, .inl ⟨h1, fun l hl => (tR_pure q).2 _ _ (Same.new hl) (.tup (.of upd_same) (Reps.firm (fun b o h _ => Same.new hl b o h) h2))⟩⟩) hs
theorem se_tupleT (hg : Gl X "tuple") (hm : X.mg "tuple" = none) (ha : SB X C W H0 R a (eTup ea) mxs) (hs : starEach (a :: []) X.env = (false, eval a X.env) :: starEach [] X.env := by rfl) : SE X C W H0 R (.Call (.Name "tuple" p) [a] [] pos) (eTup ea) (mxs >>= fun xs => pure xs) :=
  sx_callT kF_ok call_tuple_of hg hm (by decide +kernel) (by decide) (by decide) ha (fun v σ H Q xs kv _ q => by
    obtain ⟨t, vs, rfl, h1, h2⟩ := kB_tup kv
    exact ⟨t, vs, rfl, .inr ⟨h1, (tR_pure q).2 _ _ (.refl H) (.tup h1 h2)⟩⟩) hs
theorem so_listT (hg : Gl X "list") (hm : X.mg "list" = none) (ha : SB X C W H0 R a (eTup ea) mxs) (hs : starEach (a :: []) X.env = (false, eval a X.env) :: starEach [] X.env := by rfl) : SO X C W H0 R (.Call (.Name "list" p) [a] [] pos) (eLst ea) (mxs >>= fun xs => pure xs) :=
  sx_callT kO_ok call_list_of hg hm (by decide +kernel) (by decide) (by decide) ha (fun v σ H Q xs kv _ q => by
    obtain ⟨t, vs, rfl, h1, h2⟩ := kB_tup kv
    exact ⟨t, vs, rfl, .inr h1, fun l hl => (tR_pure q).2 _ _ (Same.new hl) ⟨l, vs, _, rfl, rfl, upd_same, Reps.firm (fun b o h _ => Same.new hl b o h) h2, hl⟩⟩) hs
theorem so_listL (hg : Gl X "list") (hm : X.mg "list" = none) (ha : SB X C W H0 R a (eLst ea) mxs) (hs : starEach (a :: []) X.env = (false, eval a X.env) :: starEach [] X.env := by rfl) : SO X C W H0 R (.Call (.Name "list" p) [a] [] pos) (eLst ea) (mxs >>= fun xs => pure xs) :=
  sx_callT kO_ok call_list_of hg hm (by decide +kernel) (by decide) (by decide) ha (fun v σ H Q xs kv _ q => by
    obtain ⟨t, vs, rfl, h1, h2⟩ := kB_lst kv
    exact ⟨t, vs, rfl, .inl h1, fun l hl => (tR_pure q).2 _ _ (Same.new hl) ⟨l, vs, _, rfl, rfl, upd_same, Reps.firm (fun b o h _ => Same.new hl b o h) h2, hl⟩⟩) hs
theorem reps_ints {K : PySem.W.Frag} {w : World} {H : Hp} : ∀ {vs : List V} {ns : List Int}, Reps K w H vs (ns.map eInt) → vs = ns.map V.int
  | _, [], .nil => rfl
  | _, n :: ns, .cons r t => by
    cases r
    rw [reps_ints t]
    rfl
theorem reps_bools {K : PySem.W.Frag} {w : World} {H : Hp} : ∀ {vs : List V} {ns : List Bool}, Reps K w H vs (ns.map eBool) → vs = ns.map V.bl
  | _, [], .nil => rfl
  | _, n :: ns, .cons r t => by
    cases r
    rw [reps_bools t]
    rfl
theorem se_sumL {mn : m (List Int)} (hk : X.calm = true) (hg : Gl X "sum") (hm : X.mg "sum" = none) (ha : SB X C W H0 R a (eLst eInt) mn) (hs : starEach (a :: []) X.env = (false, eval a X.env) :: starEach [] X.env := by rfl) : SE X C W H0 R (.Call (.Name "sum" p) [a] [] pos) eInt (mn >>= fun ns => pure ns.sum) :=
  sx_callB kF_ok (cr_sum hk) hg hm (by decide +kernel) (by decide) (by decide) ha (fun v σ H Q ns kv _ q => by
    obtain ⟨t, vs, rfl, h1, h2⟩ := kB_lst kv
    rw [reps_ints h2] at h1
    exact ⟨t, ns, rfl, h1, (tR_pure q).2 _ H (.refl H) (.int _)⟩) hs
theorem se_allL {mn : m (List Bool)} (hk : X.calm = true) (hg : Gl X "all") (hm : X.mg "all" = none) (ha : SB X C W H0 R a (eLst eBool) mn) (hs : starEach (a :: []) X.env = (false, eval a X.env) :: starEach [] X.env := by rfl) : SE X C W H0 R (.Call (.Name "all" p) [a] [] pos) eBool (mn >>= fun ns => pure (ns.all id)) :=
  sx_callB kF_ok (cr_all hk) hg hm (by decide +kernel) (by decide) (by decide) ha (fun v σ H Q ns kv _ q => by
    obtain ⟨t, vs, rfl, h1, h2⟩ := kB_lst kv
    rw [reps_bools h2] at h1
    exact ⟨t, ns, rfl, h1, (tR_pure q).2 _ H (.refl H) (.bl _)⟩) hs
theorem se_anyL {mn : m (List Bool)} (hk : X.calm = true) (hg : Gl X "any") (hm : X.mg "any" = none) (ha : SB X C W H0 R a (eLst eBool) mn) (hs : starEach (a :: []) X.env = (false, eval a X.env) :: starEach [] X.env := by rfl) : SE X C W H0 R (.Call (.Name "any" p) [a] [] pos) eBool (mn >>= fun ns => pure (ns.any id)) :=
  sx_callB kF_ok (cr_any hk) hg hm (by decide +kernel) (by decide) (by decide) ha (fun v σ H Q ns kv _ q => by
    obtain ⟨t, vs, rfl, h1, h2⟩ := kB_lst kv
    rw [reps_bools h2] at h1
    exact ⟨t, ns, rfl, h1, (tR_pure q).2 _ H (.refl H) (.bl _)⟩) hs

/-! ### + and * of tuples, lists, texts -/
def catG (xs ys : List α) : Option (List α) := if xs.length + ys.length ≤ 16777216 then some (xs ++ ys) else none
theorem catG_some {xs ys zs : List α} (h : catG xs ys = some zs) : xs.length + ys.length ≤ 16777216 ∧ zs = xs ++ ys := by
  unfold catG at h
  split at h
  · rename_i g
    cases h
    exact ⟨g, rfl⟩
  · cases h
theorem se_catT (ha : SB X C W H0 R a (eTup ea) mxs) (hb : SB X C W H0 R b (eTup ea) mys) : SE X C W H0 R (.BinOp a .Add b pos) (eTup ea) (mxs >>= fun xs => mys >>= fun ys => fromO (catG xs ys)) :=
  sx_bin kF_ok op_catA ha hb fun x y σ H Q xs ys k1 k2 q => by
    obtain ⟨c, e, _, q⟩ := tR_done q
    obtain ⟨g, rfl⟩ := catG_some e
    obtain ⟨s, vs, rfl, h1, h2⟩ := kB_tup k1
    obtain ⟨t, us, rfl, h3, h4⟩ := kB_tup k2
    have l1 : vs.length = xs.length := by rw [h2.length, List.length_map]
    have l2 : us.length = ys.length := by rw [h4.length, List.length_map]
    have all : Reps X.K X.w H (vs ++ us) ((xs ++ ys).map ea) := by rw [List.map_append]; exact h2.append h4
    refine ⟨s, t, vs, us, rfl, rfl, h1, h3, by rw [sizeLine_eq, l1, l2]; exact g, fun z => ?_, fun _ z => ?_, fun _ _ p hp => ?_⟩
    · subst z
      exact q _ H (.refl H) (.tup h3 all)
    · subst z
      rw [List.append_nil] at all
      exact q _ H (.refl H) (.tup h1 all)
    · exact q _ _ (Same.new hp) (.tup (.of upd_same) (Reps.firm (fun b o h _ => Same.new hp b o h) all))
theorem _root_.L2.Inv.rdL {X : Cx} {pins : List (Addr × Obj)} {σ : L2.St} {H : Hp} {s : Shared} {l : Addr} {xs : List V} (I : L2.Inv X pins σ H s) (h : Rd H l (.lst xs)) : xs.length ≤ sizeLine ∧ ∃ (its : List Value) (n : Nat), Vals xs its ∧ xs.length = its.length ∧ s.heap.get? l = some { cls := .type "list", data := .seq its.toArray n } := by
  obtain ⟨z, its, n, r, e⟩ := h.ok I.hok
  exact ⟨z, its, n, r, r.length, e⟩
def rCatL : R2 := fun x y H Q => ∃ l b xs zs, x = .ref l ∧ y = .ref b ∧ Rd H l (.lst xs) ∧ Rd H b (.lst zs) ∧ xs.length + zs.length ≤ sizeLine ∧ ∀ p, H p = none → Q (.ref p) (upd H p (.lst (xs ++ zs)))
theorem op_catL : OpR X (binaryOp .Add) rCatL := by
  intro pins s σ H x y v u Q I rx ry ⟨l, b, xs, zs, e1, e2, hH, hB, hz, q⟩
  subst e1 e2
  cases rx
  cases ry
  obtain ⟨z, its, n, r, hl, e⟩ := I.rdL hH
  obtain ⟨z2, its2, n2, r2, hl2, e2⟩ := I.rdL hB
  refine PySem.P.add_list (n := n) (n2 := n2) e e2 ?_ (by simp only [List.size_toArray]; omega)
  rw [show its.toArray ++ its2.toArray = (its ++ its2).toArray by simp]
  exact ⟨.ref s.heap.objs.size, _, L2.Inv.lnew (t' := s.toks) I (r.append r2) (by simp only [List.length_append]; omega), rfl, q _ I.fresh⟩
theorem so_catL (ha : SB X C W H0 R a (eLst ea) mxs) (hb : SB X C W H0 R b (eLst ea) mys) : SO X C W H0 R (.BinOp a .Add b pos) (eLst ea) (mxs >>= fun xs => mys >>= fun ys => fromO (catG xs ys)) :=
  sx_bin kO_ok op_catL ha hb fun x y σ H Q xs ys k1 k2 q => by
    obtain ⟨c, e, _, q⟩ := tR_done q
    obtain ⟨g, rfl⟩ := catG_some e
    obtain ⟨s, vs, rfl, h1, h2⟩ := kB_rd k1
    obtain ⟨t, us, rfl, h3, h4⟩ := kB_rd k2
    have l1 : vs.length = xs.length := by rw [h2.length, List.length_map]
    have l2 : us.length = ys.length := by rw [h4.length, List.length_map]
    have all : Reps X.K X.w H (vs ++ us) ((xs ++ ys).map ea) := by rw [List.map_append]; exact h2.append h4
    exact ⟨s, t, vs, us, rfl, rfl, h1, h3, by rw [sizeLine_eq, l1, l2]; exact g, fun p hp => q _ _ (Same.new hp) ⟨p, vs ++ us, _, rfl, rfl, upd_same, Reps.firm (fun b o h _ => Same.new hp b o h) all, hp⟩⟩
theorem se_catS (ha : SB X C W H0 R a eStr mz) (hb : SB X C W H0 R b eStr my) : SE X C W H0 R (.BinOp a .Add b pos) eStr (mz >>= fun z => my >>= fun y => fromO (if z.length + y.length ≤ 16777216 then some (z ++ y) else none)) :=
  sx_bin kF_ok op_add_str ha hb fun x y σ H Q z z' k1 k2 q => by
    obtain ⟨c, e, _, q⟩ := tR_done q
    split at e
    · rename_i g
      cases e
      exact ⟨z, z', kB_str k1, kB_str k2, by rw [sizeLine_eq]; exact g, q _ H (.refl H) (.str _)⟩
    · cases e
def repT (xs : List α) (i : Int) : Option (List α) := if xs ≠ [] ∧ 2 ≤ i ∧ i ≤ 1000 ∧ xs.length ≤ 1000 then some (List.replicate i.toNat xs).flatten else none
theorem Reps.rep {K : PySem.W.Frag} {w : World} {H : Hp} {vs : List V} {ds : List PyData} (r : Reps K w H vs ds) : ∀ n, Reps K w H (List.replicate n vs).flatten (List.replicate n ds).flatten
  | 0 => .nil
  | n + 1 => by
    rw [List.replicate_succ, List.replicate_succ, List.flatten_cons, List.flatten_cons]
    exact r.append (Reps.rep r n)
theorem map_rep (f : α → β) (xs : List α) (n : Nat) : ((List.replicate n xs).flatten).map f = (List.replicate n (xs.map f)).flatten := by
  rw [List.map_flatten, List.map_replicate]
theorem se_repT (ha : SB X C W H0 R a (eTup ea) mxs) (hb : SB X C W H0 R b eInt mi) : SE X C W H0 R (.BinOp a .Mult b pos) (eTup ea) (mxs >>= fun xs => mi >>= fun i => fromO (repT xs i)) :=
  sx_bin kF_ok op_repT ha hb fun x y σ H Q xs i k1 k2 q => by
    obtain ⟨c, e, _, q⟩ := tR_done q
    unfold repT at e
    split at e
    · rename_i g
      cases e
      obtain ⟨s, vs, rfl, h1, h2⟩ := kB_tup k1
      have l1 : vs.length = xs.length := by rw [h2.length, List.length_map]
      refine ⟨s, i, vs, rfl, kB_int k2, h1, fun z => g.1 (List.eq_nil_of_length_eq_zero (by rw [← l1, z]; rfl)), g.2.1, g.2.2.1, by rw [l1]; exact g.2.2.2, fun p hp => q _ _ (Same.new hp) ?_⟩
      refine .tup (.of upd_same) ?_
      rw [map_rep]
      exact Reps.firm (fun b o h _ => Same.new hp b o h) (h2.rep _)
    · cases e

/-! ### slices -/
def cutA {α : Type} (xs : List α) (lo hi : Option Int) : List α := (xs.drop (HT.sIx xs.length 0 lo)).take (HT.sIx xs.length xs.length hi - HT.sIx xs.length 0 lo)
theorem cut_reps {K : PySem.W.Frag} {w : World} {H : Hp} {vs : List V} {xs : List α} (r : Reps K w H vs (xs.map ea)) (lo hi : Option Int) : Reps K w H (cutV vs lo hi) ((cutA xs lo hi).map ea) := by
  have l : vs.length = xs.length := by rw [r.length, List.length_map]
  unfold cutV cutA
  rw [l, List.map_take, List.map_drop]
  exact (r.drop _).take _
/-- the parts of a slice -/
structure SQ (X : Cx) (C : Wd X.K X.w m) (W : WX) (H0 : Hp) (R : Slots) (e : Option Expr) (mm : m (Option Int)) : Prop where
  run : ∃ t, PO X e t ∧ ∀ {k : Kd} {γ : Type} {ec : γ → PyData} {f : Option Int → m γ} {σ : L2.St} {H : Hp} {Q : VK} {Q' : Option Int → Hp → Prop}, KdOk k → tR C W H0 R k ec (mm >>= f) σ H Q → (∀ i H1, Ext C.mt H H1 → tR C W H0 R k ec (f i) σ H1 Q → Q' i H1) → t σ H Q'
theorem sq_none : SQ X C W H0 R none (pure none) := ⟨_, po_none, fun {k γ ec f σ H Q Q'} kk h i => i none H .refl (by
  obtain ⟨s, c, h⟩ := h
  rw [PyM.run_bind, PyM.run_pure] at h
  exact ⟨s, c, h⟩)⟩
theorem sq_some (ha : SE X C W H0 R a eInt mi) : SQ X C W H0 R (some a) (mi >>= fun i => pure (some i)) := ⟨_, po_some ha.run, fun {k γ ec f σ H Q Q'} kk h i => by
  have h2 : tR C W H0 R k ec (mi >>= fun i => f (some i)) σ H Q := by
    obtain ⟨s, c, h⟩ := h
    refine ⟨s, c, ?_⟩
    rw [PyM.run_bind, PyM.run_bind, Res.bind_assoc] at h
    rw [PyM.run_bind]
    have e : (fun (a : Int) s => Res.bind (PyM.run (pure (some a) : m (Option Int)) s) fun a s' => PyM.run (f a) s') = fun a s' => PyM.run (f (some a)) s' := by
      funext a s'
      rw [PyM.run_pure]
      rfl
    rw [e] at h
    exact h
  exact tR_imp (tR_bind kk h2) fun v H1 ⟨j, e, kv, q⟩ => ⟨j, kB_int (mt := C.mt) (H := H1) (.inl kv), i _ H1 e q⟩⟩
theorem sx_slice {lo hi : Option Expr} {ml mh : m (Option Int)} {r : V → Option Int → Option Int → Hp → VK → Prop} {p2 : Pos} (kk : KdOk k) (hr : SlR X r) (ha : SB X C W H0 R a ea ma) (hl : SQ X C W H0 R lo ml) (hh : SQ X C W H0 R hi mh) {g : α → Option Int → Option Int → m γ}
    (h : ∀ x σ H Q i l u, kB X.K X.w C.mt H H x (ea i) → tR C W H0 R k ec (g i l u) σ H Q → r x l u H Q) : SX X C W H0 R k (.Subscript a (.Slice lo hi none p2) pos) ec (ma >>= fun i => ml >>= fun l => mh >>= fun u => g i l u) := by
  obtain ⟨tl, pl, fl⟩ := hl.run
  obtain ⟨th, ph, fh⟩ := hh.run
  exact .weak (pe_slice hr ha.run pl ph) fun σ H Q q => tR_imp (tR_bind kk q) fun x H1 ⟨i, e1, k1, h1⟩ => fl kk h1 fun l H2 e2 h2 => fh kk h2 fun u H3 e3 h3 => h x σ H3 Q i l u (kB.ext (e2.trans e3) k1) h3
theorem se_sliceT {lo hi : Option Expr} {ml mh : m (Option Int)} {p2 : Pos} (ha : SB X C W H0 R a (eTup ea) mxs) (hl : SQ X C W H0 R lo ml) (hh : SQ X C W H0 R hi mh) : SE X C W H0 R (.Subscript a (.Slice lo hi none p2) pos) (eTup ea) (mxs >>= fun xs => ml >>= fun l => mh >>= fun u => pure (cutA xs l u)) :=
  sx_slice kF_ok sl_tupA ha hl hh fun x σ H Q xs l u k1 q => by
    obtain ⟨_, q⟩ := tR_pure q
    obtain ⟨s, vs, rfl, h1, h2⟩ := kB_tup k1
    refine ⟨s, vs, rfl, h1, fun z => ?_, fun z p hp => q _ _ (Same.new hp) (.tup (.of upd_same) (Reps.firm (fun b o h _ => Same.new hp b o h) (cut_reps h2 l u)))⟩
    have e : cutV vs l u = vs := by
      unfold cutV
      rw [z.1, z.2]
      simp
    have r := cut_reps h2 l u
    rw [e] at r
    exact q _ H (.refl H) (.tup h1 r)
theorem so_sliceL {lo hi : Option Expr} {ml mh : m (Option Int)} {p2 : Pos} (ha : SB X C W H0 R a (eLst ea) mxs) (hl : SQ X C W H0 R lo ml) (hh : SQ X C W H0 R hi mh) : SO X C W H0 R (.Subscript a (.Slice lo hi none p2) pos) (eLst ea) (mxs >>= fun xs => ml >>= fun l => mh >>= fun u => pure (cutA xs l u)) :=
  sx_slice kO_ok sl_list ha hl hh fun x σ H Q xs l u k1 q => by
    obtain ⟨_, q⟩ := tR_pure q
    obtain ⟨s, vs, rfl, h1, h2⟩ := kB_lst k1
    exact ⟨s, vs, rfl, h1, fun p hp => q _ _ (Same.new hp) ⟨p, _, _, rfl, rfl, upd_same, Reps.firm (fun b o h _ => Same.new hp b o h) (cut_reps h2 l u), hp⟩⟩
theorem so_revL {k0 : Nat} {p1 p2 p3 : Pos} (ha : SB X C W H0 R a (eLst ea) mxs) : SO X C W H0 R (.Subscript a (.Slice none none (some (.UnaryOp .USub (.Constant (.int 1) k0 p1) p2)) p3) pos) (eLst ea) (mxs >>= fun xs => pure xs.reverse) :=
  .weak (pe_revL ha.run) fun σ H Q q => tR_one kO_ok q fun x H1 xs k1 q1 => by
    obtain ⟨_, q⟩ := tR_pure q1
    obtain ⟨s, vs, rfl, h1, h2⟩ := kB_lst k1
    refine ⟨s, vs, rfl, h1, fun p hp => q _ _ (Same.new hp) ⟨p, _, _, rfl, rfl, upd_same, ?_, hp⟩⟩
    rw [List.map_reverse]
    exact Reps.firm (fun b o h _ => Same.new hp b o h) h2.reverse
end
end TT

namespace TT
open PyM (fromO)
open PySem PySem.Spec PyProof.Rows L2

/-! ### several things, some of them lists of one's own -/
def ItemOk (K : PySem.W.Frag) (w : World) (mt : Addr → Prop) (H H' : Hp) (v : V) : Slot → Prop
  | .frz d => Rep K w H' v d
  | .own ds => ∃ a us, v = .ref a ∧ H' a = some (.lst us) ∧ Reps K w H' us ds ∧ H a = none ∧ ¬ mt a
  | .ownD kvs => ∃ a u, v = .ref a ∧ H' a = some u ∧ DCell K w H' u a kvs ∧ H a = none ∧ ¬ mt a
  | _ => False
inductive ItemsOk (K : PySem.W.Frag) (w : World) (mt : Addr → Prop) (H H' : Hp) : List V → List Slot → Prop
  | nil : ItemsOk K w mt H H' [] []
  | cons {v x vs xs} : ItemOk K w mt H H' v x → (x.Own → ∀ (i : Nat) (y : Slot), xs[i]? = some y → y.Own → vs[i]? ≠ some v) → ItemsOk K w mt H H' vs xs → ItemsOk K w mt H H' (v :: vs) (x :: xs)
section
variable {K : PySem.W.Frag} {w : World} {m : Type → Type} [Monad m] [PyM m]
theorem ItemOk.ext {mt : Addr → Prop} {H H1 H2 : Hp} (e : Ext mt H1 H2) : ∀ {x : Slot} {v : V}, ItemOk K w mt H H1 v x → ItemOk K w mt H H2 v x
  | .frz _, _, h => Rep.firm e.firms h
  | .own _, _, ⟨a, us, h1, h2, h3, h4, h5⟩ => ⟨a, us, h1, e a _ h2 (.inl h5), Reps.firm e.firms h3, h4, h5⟩
  | .ownD _, _, ⟨a, us, h1, h2, h3, h4, h5⟩ => ⟨a, us, h1, e a _ h2 (.inl h5), h3.firm e.firms, h4, h5⟩
  | .adr _, _, h => h
  | .scr _, _, h => h
theorem ItemOk.back {mt : Addr → Prop} {H H1 H2 : Hp} (n : ∀ a, H1 a = none → H a = none) : ∀ {x : Slot} {v : V}, ItemOk K w mt H1 H2 v x → ItemOk K w mt H H2 v x
  | .frz _, _, h => h
  | .own _, _, ⟨a, us, h1, h2, h3, h4, h5⟩ => ⟨a, us, h1, h2, h3, n a h4, h5⟩
  | .ownD _, _, ⟨a, us, h1, h2, h3, h4, h5⟩ => ⟨a, us, h1, h2, h3, n a h4, h5⟩
  | .adr _, _, h => h
  | .scr _, _, h => h
theorem ItemsOk.back {mt : Addr → Prop} {H H1 H2 : Hp} (n : ∀ a, H1 a = none → H a = none) : ∀ {vs : List V} {xs : List Slot}, ItemsOk K w mt H1 H2 vs xs → ItemsOk K w mt H H2 vs xs
  | _, _, .nil => .nil
  | _, _, .cons h1 h2 h3 => .cons (h1.back n) h2 (h3.back n)
theorem ItemsOk.len {mt : Addr → Prop} {H H' : Hp} : ∀ {vs : List V} {xs : List Slot}, ItemsOk K w mt H H' vs xs → vs.length = xs.length
  | _, _, .nil => rfl
  | _, _, .cons _ _ t => by rw [List.length_cons, List.length_cons, t.len]
def AfterX (C : Wd K w m) (W : WX) {γ : Type} (eg : γ → List Slot) (σ : L2.St) (H : Hp) (Q : List V → Hp → Prop) : Res (PyM.S m) γ → Prop
  | none => False
  | some (.ok g, s') => ∀ vs H', Ext C.mt H H' → C.rel s' H' → ItemsOk K w C.mt H H' vs (eg g) → Q vs H'
  | some (.error x, s') => ∀ cls d H', Ext C.mt H H' → C.rel s' H' → C.exc x cls d H' → W cls d σ H'
def tX (C : Wd K w m) (W : WX) (H0 : Hp) (R : Slots) {γ : Type} (eg : γ → List Slot) (mm : m γ) : TA := fun σ H Q => ∃ s, Cfg C H0 R s σ H ∧ AfterX C W eg σ H Q (PyM.run mm s)
structure SM (X : Cx) (C : Wd X.K X.w m) (W : WX) (H0 : Hp) (R : Slots) (es : List Expr) {γ : Type} (eg : γ → List Slot) (mm : m γ) : Prop where
  run : PA X es (tX C W H0 R eg mm)
/-- the slots is become xs -/
def setS : Slots → List Nat → List Slot → Slots
  | R, i :: is, x :: xs => setS (R.set i (some x)) is xs
  | R, _, _ => R
theorem Cfg.setItems {C : Wd K w m} {H0 H H' : Hp} {s : PyM.S m} : ∀ {is : List Nat} {xs : List Slot} {vs : List V} {R : Slots} {σ : L2.St}, Cfg C H0 R s σ H' → (∀ i ∈ is, i < R.length) → ItemsOk K w C.mt H H' vs xs → (∀ a, H a = none → H0 a = none) →
    (∀ (i j : Nat) (x y : Slot), xs[i]? = some x → x.Own → R[j]? = some (some y) → y.Own → σ[j]? ≠ (vs[i]?).map some) → Cfg C H0 (setS R is xs) s (setσ σ is vs) H'
  | [], _, _, _, _, c, _, _, _, _ => by simpa [setS, setσ] using c
  | _ :: _, _, _, _, _, c, _, .nil, _, _ => by simpa [setS, setσ] using c
  | i :: is, _, _, R, σ, c, h, .cons (v := v) (x := x) (vs := vs) (xs := xs) h1 h2 h3, n, ap => by
    show Cfg C H0 (setS _ is _) s (setσ _ is _) H'
    have hi := h i (by simp)
    have c1 : Cfg C H0 (R.set i (some x)) s (σ.set i (some v)) H' := by
      cases x with
      | frz d => exact c.setF hi h1
      | own ds =>
        obtain ⟨a, us, rfl, k1, k2, k3, k4⟩ := h1
        exact c.setO hi k1 k2 (n a k3) k4 fun j y hy oy => ap 0 j _ y rfl trivial hy oy
      | ownD kvs =>
        obtain ⟨a, us, rfl, k1, k2, k3, k4⟩ := h1
        exact c.setD hi k1 k2 (n a k3) k4 fun j y hy oy => ap 0 j _ y rfl trivial hy oy
      | adr a => exact False.elim h1
      | scr a => exact False.elim h1
    refine Cfg.setItems c1 (fun j hj => by rw [List.length_set]; exact h j (by simp [hj])) h3 n fun k j z y hz oz hy oy => ?_
    by_cases e : i = j
    · subst e
      rw [List.getElem?_set_self hi] at hy
      cases hy
      rw [List.getElem?_set_self (by rw [c.len]; exact hi)]
      intro q
      have lk : k < vs.length := by rw [h3.len]; exact (List.getElem?_eq_some_iff.mp hz).1
      rw [List.getElem?_eq_getElem lk] at q
      simp only [Option.map_some, Option.some.injEq] at q
      exact h2 oy k z hz oz (by rw [List.getElem?_eq_getElem lk, ← q])
    · rw [List.getElem?_set_ne e] at hy ⊢
      exact ap (k + 1) j z y hz oz hy oy
end
section
variable {X : Cx} {m : Type → Type} [Monad m] [PyM m] {C : Wd X.K X.w m} {W : WX} {H0 : Hp} {R : Slots} {k : Kd} {α β γ δ ρ ε : Type} {ea : α → PyData} {eb : β → PyData} {er : ρ → PyData} {Rb : ε → Slots} {Rn : δ → Slots}
variable {a b c e : Expr} {rest : List Stmt} {es : List Expr} {ma : m α} {mb : m β} {mxs : m (List α)} {mi mj : m Int} {pos : Pos} {eg : γ → List Slot} {mg : m γ}
theorem sm_oneF (ha : SE X C W H0 R a ea ma) (hs : starEach (a :: []) X.env = (false, eval a X.env) :: starEach [] X.env := by rfl) : SM X C W H0 R [a] (fun x => [.frz (ea x)]) ma :=
  ⟨(pa_cons ha.run pa_nil hs).weak fun σ H Q q => by
    obtain ⟨s, c, q⟩ := q
    refine ⟨s, c, ?_⟩
    cases z : PyM.run ma s with
    | none => rw [z] at q; exact q
    | some p =>
      obtain ⟨r, s1⟩ := p
      rw [z] at q
      cases r with
      | error x => exact q
      | ok a => exact fun v H' e rl kv => q [v] H' e rl (.cons kv (fun o => o.elim) .nil)⟩
theorem kO_item {K : PySem.W.Frag} {w : World} {C : Wd K w m} {H H' : Hp} {s : PyM.S m} {xs : List α} {v : V} (rl : C.rel s H) (h : kO K w C.mt H H' v (eLst ea xs)) : ItemOk K w C.mt H H' v (.own (xs.map ea)) := by
  obtain ⟨a, us, ds, rfl, e, h2, h3, h4⟩ := h
  have e : PyData.list (xs.map ea) = .list ds := e
  injection e with e
  subst e
  exact ⟨a, us, rfl, h2, h3, h4, fun z => by
    obtain ⟨o, ho, _⟩ := C.there _ _ _ rl z
    rw [h4] at ho; cases ho⟩
theorem sm_oneO (ha : SO X C W H0 R a (eLst ea) mxs) (hs : starEach (a :: []) X.env = (false, eval a X.env) :: starEach [] X.env := by rfl) : SM X C W H0 R [a] (fun x => [.own (x.map ea)]) mxs :=
  ⟨(pa_cons ha.run pa_nil hs).weak fun σ H Q q => by
    obtain ⟨s, c, q⟩ := q
    refine ⟨s, c, ?_⟩
    cases z : PyM.run mxs s with
    | none => rw [z] at q; exact q
    | some p =>
      obtain ⟨r, s1⟩ := p
      rw [z] at q
      cases r with
      | error x => exact q
      | ok a => exact fun v H' e rl kv => q [v] H' e rl (.cons (kO_item c.rel kv) (fun _ i y h => by simp at h) .nil)⟩
theorem tX_cons {ka : Kd} {f : α → Slot} {hb : SM X C W H0 R es eg mg} {σ : L2.St} {H : Hp} {Q : List V → Hp → Prop} (ik : ∀ H H' s v a, C.rel s H → ka H H' v (ea a) → ItemOk X.K X.w C.mt H H' v (f a))
    (q : tX C W H0 R (fun p : α × γ => f p.1 :: eg p.2) (ma >>= fun x => mg >>= fun g => pure (x, g)) σ H Q) : tCons (tR C W H0 R ka ea ma) (tX C W H0 R eg mg) σ H Q := by
  obtain ⟨s, c, q⟩ := q
  refine ⟨s, c, ?_⟩
  rw [PyM.run_bind] at q
  cases z : PyM.run ma s with
  | none => rw [z] at q; exact q
  | some p =>
    obtain ⟨r, s1⟩ := p
    rw [z] at q
    cases r with
    | error x => exact q
    | ok a =>
      intro v H1 e rl kv
      have q : AfterX C W (fun p : α × γ => f p.1 :: eg p.2) σ H Q (PyM.run (mg >>= fun g => pure (a, g)) s1) := q
      rw [PyM.run_bind] at q
      refine ⟨s1, c.ext e rl, ?_⟩
      have it := ik H H1 s v a c.rel kv
      have nb : ∀ b, H1 b = none → H b = none := none_back e fun b hb => let ⟨o, ho, _⟩ := C.there _ _ _ rl hb; ⟨o, ho⟩
      cases z2 : PyM.run mg s1 with
      | none => rw [z2] at q; exact q
      | some p2 =>
        obtain ⟨r2, s2⟩ := p2
        rw [z2] at q
        cases r2 with
        | error x => exact fun cls d H' e' rl' => q cls d H' (e.trans e') rl'
        | ok g =>
          have q : AfterX C W (fun p : α × γ => f p.1 :: eg p.2) σ H Q (PyM.run (pure (a, g) : m (α × γ)) s2) := q
          rw [PyM.run_pure] at q
          refine fun vs H' e' rl' rs => q (v :: vs) H' (e.trans e') rl' (.cons (it.ext e') (fun o i y hy oy z => ?_) (rs.back nb))
          -- a later list is none of the former
          have own : ∀ {vs : List V} {xs : List Slot}, ItemsOk X.K X.w C.mt H1 H' vs xs → ∀ (i : Nat) (y : Slot), xs[i]? = some y → y.Own → ∃ b, vs[i]? = some (.ref b) ∧ H1 b = none := by
            intro vs xs h
            induction h with
            | nil => intro i y h; simp at h
            | cons h1 h2 h3 ih =>
              intro i y hy oy
              cases i with
              | zero =>
                simp at hy
                subst hy
                rename_i x0 _ _
                cases x0 with
                | own ds => obtain ⟨b, us, e1, _, _, e2, _⟩ := h1; exact ⟨b, by rw [e1]; rfl, e2⟩
                | ownD ds => obtain ⟨b, us, e1, _, _, e2, _⟩ := h1; exact ⟨b, by rw [e1]; rfl, e2⟩
                | frz d => exact oy.elim
                | adr d => exact oy.elim
                | scr d => exact oy.elim
              | succ i => exact ih i y (by simpa using hy) oy
          obtain ⟨b, h1, h2⟩ := own rs i y hy oy
          rw [z] at h1
          cases h1
          cases hf : f a with
          | own ds =>
            rw [hf] at it
            obtain ⟨b', us, e1, e2, _⟩ := it
            cases e1
            rw [h2] at e2; cases e2
          | ownD ds =>
            rw [hf] at it
            obtain ⟨b', us, e1, e2, _⟩ := it
            cases e1
            rw [h2] at e2; cases e2
          | frz d => rw [hf] at o; exact o
          | adr d => rw [hf] at o; exact o
          | scr d => rw [hf] at o; exact o
theorem sm_consF (ha : SE X C W H0 R a ea ma) (hb : SM X C W H0 R es eg mg) (hs : starEach (a :: es) X.env = (false, eval a X.env) :: starEach es X.env := by rfl) :
    SM X C W H0 R (a :: es) (fun p : α × γ => .frz (ea p.1) :: eg p.2) (ma >>= fun x => mg >>= fun g => pure (x, g)) :=
  ⟨(pa_cons ha.run hb.run hs).weak fun σ H Q q => tX_cons (ka := kF X.K X.w C.mt) (hb := hb) (f := fun x => .frz (ea x)) (fun H H' s v a rl kv => kv) q⟩
theorem sm_consO (ha : SO X C W H0 R a (eLst ea) mxs) (hb : SM X C W H0 R es eg mg) (hs : starEach (a :: es) X.env = (false, eval a X.env) :: starEach es X.env := by rfl) :
    SM X C W H0 R (a :: es) (fun p : List α × γ => .own (p.1.map ea) :: eg p.2) (mxs >>= fun x => mg >>= fun g => pure (x, g)) :=
  ⟨(pa_cons ha.run hb.run hs).weak fun σ H Q q => tX_cons (ka := kO X.K X.w C.mt) (hb := hb) (f := fun x : List α => .own (x.map ea)) (fun H H' s v a rl kv => kO_item rl kv) q⟩
/-- evaluated for a statement -/
theorem tS_items {f : γ → m (Out ρ ε δ)} {D : Ends} {σ : L2.St} {H : Hp} {is : List Nat} (hl : ∀ i ∈ is, i < R.length) (h : tS C W H0 R er Rb Rn (mg >>= f) D σ H) {Q : List V → Hp → Prop}
    (i : ∀ g vs H', vs.length = (eg g).length → tS C W H0 (setS R is (eg g)) er Rb Rn (f g) D (setσ σ is vs) H' → Q vs H') : tX C W H0 R eg mg σ H Q := by
  obtain ⟨s, c, h⟩ := h
  refine ⟨s, c, ?_⟩
  rw [PyM.run_bind] at h
  cases q : PyM.run mg s with
  | none => rw [q] at h; exact h
  | some p =>
    obtain ⟨r, s1⟩ := p
    rw [q] at h
    cases r with
    | error x => exact fun cls d H' e rl ex => h cls d σ H' (c.base.trans e) rl ex
    | ok g =>
      refine fun vs H1 e rl its => i g vs H1 its.len ⟨s1, Cfg.setItems (c.ext e rl) hl its (fun a ha => ?_) fun k j x y hx ox hy oy z => ?_, AfterS.mono e.firms h⟩
      · exact none_back c.base (fun b hb => let ⟨o, ho, _⟩ := C.there _ _ _ c.rel hb; ⟨o, ho⟩) a ha
      · have own : ∀ {vs : List V} {xs : List Slot}, ItemsOk X.K X.w C.mt H H1 vs xs → ∀ (i : Nat) (y : Slot), xs[i]? = some y → y.Own → ∃ b, vs[i]? = some (.ref b) ∧ H b = none := by
          intro vs xs h
          induction h with
          | nil => intro i y h; simp at h
          | cons h1 h2 h3 ih =>
            intro i y hy oy
            cases i with
            | zero =>
              simp at hy
              subst hy
              rename_i x0 _ _
              cases x0 with
              | own ds => obtain ⟨b, us, e1, _, _, e2, _⟩ := h1; exact ⟨b, by rw [e1]; rfl, e2⟩
              | ownD ds => obtain ⟨b, us, e1, _, _, e2, _⟩ := h1; exact ⟨b, by rw [e1]; rfl, e2⟩
              | frz d => exact oy.elim
              | adr d => exact oy.elim
              | scr d => exact oy.elim
            | succ i => exact ih i y (by simpa using hy) oy
        obtain ⟨b, h1, h2⟩ := own its k x hx ox
        obtain ⟨v, h3, ok⟩ := c.slot j y hy
        rw [h1, h3] at z
        cases z
        cases y with
        | own ds => obtain ⟨b', us, e1, e2, _⟩ := ok; cases e1; rw [h2] at e2; cases e2
        | ownD ds => obtain ⟨b', us, e1, e2, _⟩ := ok; cases e1; rw [h2] at e2; cases e2
        | frz d => exact oy
        | adr d => exact oy
        | scr d => exact oy
/-- a, b = x, y -/
theorem sl_par2 {i j : Nat} {x y : Str} {px py pt : Pos} {kt k2 pt2} {f : γ → m (Out ρ ε δ)} (hc : X.calm = true) (hN : X.N.Nodup) (hi : X.N[i]? = some x) (hj : X.N[j]? = some y) (hij : i ≠ j) (hx : X.env.scope.names.lookup x = some .local) (hy : X.env.scope.names.lookup y = some .local)
    (hl : ∀ k ∈ [i, j], k < R.length) (ha : SM X C W H0 R [a, b] eg mg) (h2 : ∀ g, (eg g).length = 2) (hr : ∀ g, SL X C W H0 (setS R [i, j] (eg g)) rest er Rb Rn (f g))
    (hw : swappedStores [.Tuple [.Name x px, .Name y py] kt pt] (.Tuple [a, b] k2 pt2) X.env = pure (some [x, y])) (hs : swapsWithSole [.Tuple [.Name x px, .Name y py] kt pt] (.Tuple [a, b] k2 pt2) pos.line X.env = pure false) :
    SL X C W H0 R (.Assign [.Tuple [.Name x px, .Name y py] kt pt] (.Tuple [a, b] k2 pt2) pos :: rest) er Rb Rn (mg >>= f) :=
  ⟨(pss_cons (ps_par hc hN hi hj hij hx hy ha.run hw hs) (u := fun D σ H => ∃ g, tS C W H0 (setS R [i, j] (eg g)) er Rb Rn (f g) D σ H) ⟨fun pins s σ H D I ⟨g, q⟩ => (hr g).run.run pins s σ H D I q⟩).weak fun D σ H q =>
    tS_items hl q fun g vs H' l t => by
      rw [h2] at l
      match vs, l with
      | [v, u], _ => exact ⟨v, u, rfl, g, t⟩⟩
theorem sl_par3 {i j l : Nat} {x y z : Str} {px py pz pt : Pos} {kt k2 pt2} {f : γ → m (Out ρ ε δ)} (hc : X.calm = true) (hN : X.N.Nodup) (hi : X.N[i]? = some x) (hj : X.N[j]? = some y) (hk : X.N[l]? = some z) (hij : i ≠ j) (hil : i ≠ l) (hjl : j ≠ l)
    (hx : X.env.scope.names.lookup x = some .local) (hy : X.env.scope.names.lookup y = some .local) (hz : X.env.scope.names.lookup z = some .local)
    (hl : ∀ k ∈ [i, j, l], k < R.length) (ha : SM X C W H0 R [a, b, c] eg mg) (h2 : ∀ g, (eg g).length = 3) (hr : ∀ g, SL X C W H0 (setS R [i, j, l] (eg g)) rest er Rb Rn (f g))
    (hw : swappedStores [.Tuple [.Name x px, .Name y py, .Name z pz] kt pt] (.Tuple [a, b, c] k2 pt2) X.env = pure (some [x, y, z])) (hs : swapsWithSole [.Tuple [.Name x px, .Name y py, .Name z pz] kt pt] (.Tuple [a, b, c] k2 pt2) pos.line X.env = pure false) :
    SL X C W H0 R (.Assign [.Tuple [.Name x px, .Name y py, .Name z pz] kt pt] (.Tuple [a, b, c] k2 pt2) pos :: rest) er Rb Rn (mg >>= f) :=
  ⟨(pss_cons (ps_par3 hc hN hi hj hk hij hil hjl hx hy hz ha.run hw hs) (u := fun D σ H => ∃ g, tS C W H0 (setS R [i, j, l] (eg g)) er Rb Rn (f g) D σ H) ⟨fun pins s σ H D I ⟨g, q⟩ => (hr g).run.run pins s σ H D I q⟩).weak fun D σ H q =>
    tS_items hl q fun g vs H' l t => by
      rw [h2] at l
      match vs, l with
      | [v, u, w'], _ => exact ⟨v, u, w', rfl, g, t⟩⟩
/-- (a, b, ..) = (x, y, ..) by a tuple that is made and taken apart -/
theorem sl_parN {tgs : List Expr} {n : Nat} {is : List Nat} {pt pt2 : Pos} {k1 k2 : Nat} {f : γ → m (Out ρ ε δ)} (hc : X.calm = true) (hg : PG X (.Tuple tgs k1 pt) (gTup X.K is.length (gNames is)))
    (hl : ∀ k ∈ is, k < R.length) (ha : SM X C W H0 R es eg mg) (h2 : ∀ g, (eg g).length = is.length) (h64 : is.length ≤ 64) (hr : ∀ g, SL X C W H0 (setS R is (eg g)) rest er Rb Rn (f g))
    (hs : swapsWithSole [.Tuple tgs k1 pt] (.Tuple es k2 pt2) pos.line X.env = pure false) (hw : swappedStores [.Tuple tgs k1 pt] (.Tuple es k2 pt2) X.env = pure none) (h1 : (assignEach [.Tuple tgs k1 pt] X.env).map (·.2) = [assign (.Tuple tgs k1 pt) X.env]) :
    SL X C W H0 R (.Assign [.Tuple tgs k1 pt] (.Tuple es k2 pt2) pos :: rest) er Rb Rn (mg >>= f) :=
  ⟨(pss_cons (ps_asg (pe_tup ha.run) hg hs hw h1) (u := fun D σ H => ∃ g, tS C W H0 (setS R is (eg g)) er Rb Rn (f g) D σ H) ⟨fun pins s σ H D I ⟨g, q⟩ => (hr g).run.run pins s σ H D I q⟩).weak fun D σ H q =>
    tS_items hl q fun g vs H' l t => by
      rw [h2] at l
      refine ⟨small64 (by rw [l]; exact h64), fun p hp => ⟨p, vs, rfl, .of upd_same, l, gNames_ok (K := X.K) (w := X.w) l ?_⟩⟩
      obtain ⟨s, c, q⟩ := t
      exact ⟨g, s, c.same (Same.new hp), AfterS.mono (fun b o h _ => Same.new hp b o h) q⟩⟩
/-- a target of any form gets data -/
theorem sl_unpack {tg : Expr} {g : TG} {is : List Nat} {dts : α → List PyData} {f : α → m (Out ρ ε δ)} (hg : PG X tg g) (hgo : GOk X.K X.w g ea is dts) (hl : ∀ k ∈ is, k < R.length) (ha : SE X C W H0 R e ea ma) (hr : ∀ a, SL X C W H0 (setR R is (dts a)) rest er Rb Rn (f a))
    (hs : swapsWithSole [tg] e pos.line X.env = pure false) (hw : swappedStores [tg] e X.env = pure none) (h1 : (assignEach [tg] X.env).map (·.2) = [assign tg X.env]) : SL X C W H0 R (.Assign [tg] e pos :: rest) er Rb Rn (ma >>= f) :=
  ⟨(pss_cons (ps_asg ha.run hg hs hw h1) (u := fun D σ H => ∃ a, tS C W H0 (setR R is (dts a)) er Rb Rn (f a) D σ H) ⟨fun pins s σ H D I ⟨g, q⟩ => (hr g).run.run pins s σ H D I q⟩).weak fun D σ H q =>
    tS_bind (k := kF X.K X.w C.mt) (ea := ea) q fun a v H' kv e _ ⟨s, c, q⟩ => hgo.run a v σ H' _ kv fun vs rs => ⟨a, s, c.setAll hl rs, q⟩⟩

/-! ### lists of one's own, written -/
def appG (xs : List α) (a : α) : Option (List α) := if xs.length < 16777216 then some (xs ++ [a]) else none
theorem sl_append {i : Nat} {x : Str} {xs : List α} {f : List α → m (Out ρ ε δ)} {p1 p2 p3 : Pos} (hN : X.N[i]? = some x) (hv : Vis X.env.scope x) (hd : (x == ("__debug__" : Str)) = false) (hcd : (x == ("__classdict__" : Str)) = false)
    (hR : R[i]? = some (some (.own (xs.map ea)))) (ha : SE X C W H0 R a ea ma) (hr : ∀ ys : List α, SL X C W H0 (R.set i (some (.own (ys.map ea)))) rest er Rb Rn (f ys))
    (hbase : attributeBase (.Name x p1) "append" X.env (eval (.Name x p1) X.env) = eval (.Name x p1) X.env)
    (hfew : ((backTo p3 (starEach (a :: []) X.env)).all (fun x => !x.1) && (backToKw p3 (keywordEach [] X.env)).all (fun x => x.1.isSome) && decide ((a :: ([] : List Expr)).length + ([] : List Keyword).length + (if ([] : List Keyword).isEmpty then 0 else 1) < 30)) = true)
    (hline : (p2.endLine == p3.line) = true) (hs : starEach (a :: []) X.env = (false, eval a X.env) :: starEach [] X.env) (hsw : swapsWith (.Call (.Attribute (.Name x p1) "append" p2) [a] [] p3) none pos.line X.env = pure false) :
    SL X C W H0 R (.Expr (.Call (.Attribute (.Name x p1) "append" p2) [a] [] p3) pos :: rest) er Rb Rn (ma >>= fun a => fromO (appG xs a) >>= f) :=
  ⟨(pss_cons (ps_expr (pe_bm PySem.F.plainAttrs_list PySem.F.slot_list_append PySem.F.type_list_append mt_append (pe_var hN hv hd hcd) (pa_cons ha.run pa_nil hs) hbase hfew hline hs) hsw)
      (u := fun D σ H => ∃ ys : List α, tS C W H0 (R.set i (some (.own (ys.map ea)))) er Rb Rn (f ys) D σ H) ⟨fun pins s σ H D I ⟨g, q⟩ => (hr g).run.run pins s σ H D I q⟩).weak fun D σ H q => by
    obtain ⟨s0, c0, _⟩ := id q
    obtain ⟨v, hv', l, vs, rfl, hl, hrs, h0, hm⟩ := c0.slot i _ hR
    refine ⟨.ref l, hv', .inl ⟨rfl, vs, .of hl⟩, ?_⟩
    refine tS_bind (k := kF X.K X.w C.mt) (ea := ea) q fun a u H' kv e _ ⟨s, c, q⟩ => ?_
    rw [PyM.run_bind, PyM.run_fromO] at q
    unfold appG at q
    have hl' := e l _ hl (.inl hm)
    have len : vs.length = xs.length := by rw [hrs.length, List.length_map]
    split at q
    · rename_i g
      refine ⟨l, vs, u, rfl, rfl, hl', by rw [sizeLine_eq, len]; exact g, xs ++ [a], s, c.updO hR hv' hl' ?_, AfterS.mono (firms_upd' hl' (fun z => z)) q⟩
      rw [List.map_append]
      exact (Reps.firm e.firms hrs).append (.cons kv .nil)
    · exact q.elim⟩
end
end TT

namespace TT
open PyM (fromO)
open PySem PySem.Spec PyProof.Rows L2

/-! ### the program's own functions -/
/-- a promise: from data to data or an error -/
def spF (K : PySem.W.Frag) (w : World) (ex : Exc → Value → Option Addr → Hp → Prop) {γ ρ : Type} (eg : γ → List PyData) (er : ρ → PyData) (f : γ → Option (Except Exc ρ)) : Sp := fun vs H Q E => ∃ g, Reps K w H vs (eg g) ∧ match f g with
  | none => False
  | some (.ok r) => ∀ v H', Same H H' → Rep K w H' v (er r) → Q v H'
  | some (.error x) => ∀ cls d H', Same H H' → ex x cls d H' → E cls d H'
/-- no error comes of it -/
def spP (K : PySem.W.Frag) (w : World) {γ ρ : Type} (eg : γ → List PyData) (er : ρ → PyData) (f : γ → Option ρ) : Sp := fun vs H Q E => ∃ g, Reps K w H vs (eg g) ∧ ∃ r, f g = some r ∧ ∀ v H', Same H H' → Rep K w H' v (er r) → Q v H'
/-- a promise of a def whose first thing is the world's object -/
def spW (K : PySem.W.Frag) (w : World) {S : Type} (C : Addr → Wd K w (WM S)) {γ ρ : Type} (eg : γ → List PyData) (er : ρ → PyData) (f : γ → WM S ρ) : Sp := fun vs H Q E => ∃ aw us g s r s', vs = .ref aw :: us ∧ (C aw).rel s H ∧ Reps K w H us (eg g) ∧ (f g).run s = some (r, s') ∧
  ∀ v H', Ext (C aw).mt H H' → (C aw).rel s' H' → Rep K w H' v (er r) → Q v H'
/-- the slots at a def's entry -/
def slots0 (n : Nat) (ds : List PyData) : Slots := ds.map (fun d => some (.frz d)) ++ List.replicate (n - ds.length) none
theorem slots0_len {n : Nat} {ds : List PyData} (h : ds.length ≤ n) : (slots0 n ds).length = n := by
  unfold slots0
  rw [List.length_append, List.length_map, List.length_replicate]
  omega
theorem cfg0 {K : PySem.W.Frag} {w : World} {m : Type → Type} [Monad m] [PyM m] {C : Wd K w m} {N : List Str} {vs : List V} {ds : List PyData} {H : Hp} {s : PyM.S m} (r : Reps K w H vs ds) (rl : C.rel s H) (h : ds.length ≤ N.length) : Cfg C H (slots0 N.length ds) s (L2.start N vs) H := by
  have hl := r.length
  have at' : ∀ (i : Nat) (x : Slot), (slots0 N.length ds)[i]? = some (some x) → ∃ d v, x = .frz d ∧ Rep K w H v d ∧ (L2.start N vs)[i]? = some (some v) := fun i x e => by
    unfold slots0 at e
    by_cases hi : i < ds.length
    · rw [List.getElem?_append_left (by rw [List.length_map]; exact hi), List.getElem?_map, List.getElem?_eq_getElem hi] at e
      have e : some (some (Slot.frz ds[i])) = some (some x) := e
      cases e
      obtain ⟨v, hv, rv⟩ := r.get (List.getElem?_eq_getElem hi)
      refine ⟨_, v, rfl, rv, ?_⟩
      unfold L2.start
      rw [List.getElem?_append_left (by rw [List.length_map, hl]; exact hi), List.getElem?_map, hv]
      rfl
    · rw [List.getElem?_append_right (by rw [List.length_map]; omega), List.getElem?_replicate] at e
      split at e <;> cases e
  refine ⟨?_, .refl, rl, fun i x e => ?_, fun i j x y n e1 e2 ox oy => ?_⟩
  · rw [slots0_len h]
    unfold L2.start
    rw [List.length_append, List.length_map, List.length_replicate]
    omega
  · obtain ⟨d, v, rfl, rv, hv⟩ := at' i x e
    exact ⟨v, hv, rv⟩
  · obtain ⟨d, v, rfl, _⟩ := at' i x e1
    exact ox.elim
section
variable {P : Program} {w : World} {K : PySem.W.Frag} {mg : Str → Option Value} {base : Heap}
/-- where a def's body runs, no error leaving it -/
abbrev cx0 (P : Program) (w : World) (K : PySem.W.Frag) (mg : Str → Option Value) (base : Heap) (N : List Str) (qual : Str) (st : Stmt) (f : Addr) (cdv : Value) (A : Around) (outer : List Env) (s : Shared) (H : Hp) (E : XK) : Cx :=
  (cxOf CX0 P w K mg base N qual (defScope st) f cdv A outer s H E).nox
theorem fn_pure {x qual : Str} {st : Stmt} {f : Addr} {fd : FuncData} {N ps : List Str} {k : Nat} {γ ρ : Type} {eg : γ → List PyData} {er : ρ → PyData} {F : γ → Option ρ} (Fu : Fun K x qual st f fd) (S : FnScope N ps (defScope st))
    (hl : ∀ g, (eg g).length = ps.length) (hn : ps.length ≤ N.length)
    (body : ∀ (cdv : Value) (A : Around) (outer : List Env) (s : Shared) (H : Hp) (E : XK), Room k (A.deeper (envOfC qual (defScope st) s.heap.objs.size f cdv)) → ∀ g, SF (cx0 P w K mg base N qual st f cdv A outer s H E) (m := Option) wd0 W0 H (slots0 N.length (eg g)) (defBody st) er (F g)) :
    FnOk P w K mg base CX0 (k + 1) f fd ps (spP K w eg er F) := by
  refine Fu.ok S (fun vs H Q E h => ?_) (fun cdv A outer s H vs Q E hr h => ?_)
  · obtain ⟨g, r, _⟩ := h
    rw [r.length, hl]
  · obtain ⟨g, r, h⟩ := h
    refine ⟨_, (body cdv A outer s H E hr g).run, (), cfg0 r trivial (by rw [hl]; exact hn), ?_⟩
    rw [PyM.run_bind]
    obtain ⟨a, z, h⟩ := h
    rw [z]
    exact fun v H' e _ rv => h v H' (fun b o hb => e b o hb (.inl (fun z => z))) rv
theorem fn_world {S : Type} {C : Addr → Wd K w (WM S)} {x qual : Str} {st : Stmt} {f : Addr} {fd : FuncData} {N ps : List Str} {k : Nat} {γ ρ : Type} {eg : γ → List PyData} {er : ρ → PyData} {F : γ → WM S ρ} (Fu : Fun K x qual st f fd) (Sc : FnScope N ps (defScope st))
    (hl : ∀ g, (eg g).length + 1 = ps.length) (hn : ps.length ≤ N.length)
    (body : ∀ (cdv : Value) (A : Around) (outer : List Env) (s : Shared) (H : Hp) (E : XK) (aw : Addr), Room k (A.deeper (envOfC qual (defScope st) s.heap.objs.size f cdv)) → ∀ g, SF (cx0 P w K mg base N qual st f cdv A outer s H E) (m := WM S) (C aw) W0 H (some (.adr aw) :: slots0 (N.length - 1) (eg g)) (defBody st) er (F g)) :
    FnOk P w K mg base CX0 (k + 1) f fd ps (spW K w C eg er F) := by
  refine Fu.ok Sc (fun vs H Q E h => ?_) (fun cdv A outer s H vs Q E hr h => ?_)
  · obtain ⟨aw, us, g, s, r, s', rfl, _, rs, _⟩ := h
    rw [List.length_cons, rs.length, hl]
  · obtain ⟨aw, us, g, s1, r, s', rfl, rl, rs, hrun, h⟩ := h
    have hl' := hl g
    have c0 : Cfg (C aw) H (slots0 (N.drop 1).length (eg g)) s1 (L2.start (N.drop 1) us) H := cfg0 rs rl (by rw [List.length_drop]; omega)
    refine ⟨_, (body cdv A outer s H E aw hr g).run, s1, ?_, ?_⟩
    · have e1 : L2.start N (.ref aw :: us) = some (.ref aw) :: L2.start (N.drop 1) us := by
        unfold L2.start
        rw [List.map_cons, List.cons_append, List.length_drop, List.length_cons]
        congr 3
        omega
      have e2 : slots0 (N.drop 1).length (eg g) = slots0 (N.length - 1) (eg g) := by rw [List.length_drop]
      rw [e2] at c0
      refine ⟨by rw [e1, List.length_cons, List.length_cons, c0.len], .refl, rl, fun i x e => ?_, fun i j x y n e1' e2' ox oy => ?_⟩
      · cases i with
        | zero =>
          simp at e
          subst e
          exact ⟨.ref aw, by rw [e1]; rfl, rfl⟩
        | succ i =>
          obtain ⟨v, h1, h2⟩ := c0.slot i x (by simpa using e)
          exact ⟨v, by rw [e1]; simpa using h1, h2⟩
      · cases i with
        | zero => simp at e1'; subst e1'; exact ox.elim
        | succ i =>
          cases j with
          | zero => simp at e2'; subst e2'; exact oy.elim
          | succ j =>
            rw [e1]
            exact c0.apart i j x y (fun z => n (by rw [z])) (by simpa using e1') (by simpa using e2') ox oy
    · rw [PyM.run_bind]
      have e : PyM.run (F g) s1 = some (.ok r, s') := by
        show ((F g).run s1).map _ = _
        rw [hrun]; rfl
      rw [e]
      exact fun v H' e rl rv => h v H' e rl rv
end
section
variable {X : Cx} {m : Type → Type} [Monad m] [PyM m] {C : Wd X.K X.w m} {W : WX} {H0 : Hp} {R : Slots} {γ ρ : Type} {eg : γ → List PyData} {er : ρ → PyData} {mg : m γ}
variable {a : Expr} {es : List Expr} {p pos : Pos} {x : Str} {k : Nat} {f : Addr} {fd : FuncData} {ps : List Str}
/-- a call -/
theorem se_call {F : γ → Option ρ} (G : FnOk X.prog X.w X.K X.mg X.base CX0 k f fd ps (spP X.K X.w eg er F)) (hr : Room k X.A) (hg : Gl X x) (hm : X.mg x = some (.ref f)) (hk : PySem.W.keepIn X.K (.ref f) = true) (hb : Binds X.K fd ps [])
    (ha : SA X C W H0 R (a :: es) eg mg) (hdb : (x == ("__debug__" : Str)) = false) (he : starEach (a :: es) X.env = (false, eval a X.env) :: starEach es X.env) (hpl : (backTo pos (starEach es X.env)).any (·.1) = false) :
    SE X C W H0 R (.Call (.Name x p) (a :: es) [] pos) er (mg >>= fun g => fromO (F g)) :=
  .weak (pe_call G hr hg hm hk hb .nil pass0 ha.run hdb he hpl) fun σ H Q q => by
    obtain ⟨s, c, q⟩ := q
    refine ⟨s, c, ?_⟩
    rw [PyM.run_bind] at q
    cases z : PyM.run mg s with
    | none => rw [z] at q; exact q
    | some p =>
      obtain ⟨r, s1⟩ := p
      rw [z] at q
      cases r with
      | error x => exact q
      | ok g =>
        intro vs H' e rl rs
        have q : After C W (kF X.K X.w C.mt) er σ H Q (PyM.run (fromO (F g)) s1) := q
        rw [PyM.run_fromO] at q
        rw [List.append_nil]
        cases y : F g with
        | none => rw [y] at q; exact q.elim
        | some r =>
          rw [y] at q
          exact ⟨g, rs, r, y, fun v H2 e2 rv => q v H2 (e.trans (.of_same e2)) (C.keep _ _ _ rl e2) rv⟩
theorem se_call0 {F : Unit → Option ρ} (G : FnOk X.prog X.w X.K X.mg X.base CX0 k f fd ps (spP X.K X.w (fun _ : Unit => []) er F)) (hr : Room k X.A) (hg : Gl X x) (hm : X.mg x = some (.ref f)) (hk : PySem.W.keepIn X.K (.ref f) = true) (hb : Binds X.K fd ps [])
    (hdb : (x == ("__debug__" : Str)) = false) : SE X C W H0 R (.Call (.Name x p) [] [] pos) er (fromO (F ())) :=
  .weak (pe_call0 G hr hg hm hk hb .nil pass0 hdb) fun σ H Q q => by
    obtain ⟨r, e, _, q⟩ := tR_done q
    exact ⟨(), .nil, r, e, q⟩
end
section
variable {X : Cx} {S : Type} {Cw : Addr → Wd X.K X.w (WM S)} {aw : Addr} {W : WX} {H0 : Hp} {R : Slots} {γ ρ : Type} {eg : γ → List PyData} {er : ρ → PyData} {mg : WM S γ}
variable {a : Expr} {es : List Expr} {p pos pw : Pos} {x xw : Str} {k i : Nat} {f : Addr} {fd : FuncData} {ps : List Str}
/-- a call that is handed the world's object -/
theorem se_callW {F : γ → WM S ρ} (G : FnOk X.prog X.w X.K X.mg X.base CX0 k f fd ps (spW X.K X.w Cw eg er F)) (hr : Room k X.A) (hg : Gl X x) (hm : X.mg x = some (.ref f)) (hk : PySem.W.keepIn X.K (.ref f) = true) (hb : Binds X.K fd ps [])
    (hN : X.N[i]? = some xw) (hv : Vis X.env.scope xw) (hR : R[i]? = some (some (.adr aw))) (hd : (xw == ("__debug__" : Str)) = false) (hcd : (xw == ("__classdict__" : Str)) = false)
    (ha : SA X (Cw aw) W H0 R es eg mg) (hdb : (x == ("__debug__" : Str)) = false) (he : starEach (.Name xw pw :: es) X.env = (false, eval (.Name xw pw) X.env) :: starEach es X.env) (hpl : (backTo pos (starEach es X.env)).any (·.1) = false) :
    SE X (Cw aw) W H0 R (.Call (.Name x p) (.Name xw pw :: es) [] pos) er (mg >>= F) :=
  .weak (pe_call G hr hg hm hk hb .nil pass0 (pa_cons (pe_var hN hv hd hcd) ha.run he) hdb he hpl) fun σ H Q q => by
    obtain ⟨s, c, q⟩ := q
    obtain ⟨v, e1, e2⟩ := c.slot i _ hR
    have e2 : v = .ref aw := e2
    subst e2
    refine ⟨.ref aw, e1, s, c, ?_⟩
    rw [PyM.run_bind] at q
    cases z : PyM.run mg s with
    | none => rw [z] at q; exact q
    | some p =>
      obtain ⟨r, s1⟩ := p
      rw [z] at q
      cases r with
      | error x => exact q
      | ok g =>
        intro vs H' e rl rs
        have q : After (Cw aw) W (kF X.K X.w (Cw aw).mt) er σ H Q (PyM.run (F g) s1) := q
        show spW X.K X.w Cw eg er F ((V.ref aw :: vs) ++ []) H' Q E0
        rw [List.append_nil]
        cases y : (F g).run s1 with
        | none =>
          have y' : PyM.run (F g) s1 = none := by show ((F g).run s1).map _ = _; rw [y]; rfl
          rw [y'] at q
          exact q.elim
        | some p =>
          obtain ⟨r, s2⟩ := p
          have y' : PyM.run (F g) s1 = some (.ok r, s2) := by show ((F g).run s1).map _ = _; rw [y]; rfl
          rw [y'] at q
          exact ⟨aw, vs, g, s1, r, s2, rfl, rl, rs, y, fun v H2 e2 rl2 rv => q v H2 (e.trans e2) rl2 rv⟩
end
end TT

namespace TT
open PyM (fromO)
open PySem PySem.Spec PyProof.Rows L2

/-! ### the world: what is drawn, and where one stands -/
abbrev DW := List Int × Int
def dwOf (al : Addr) (at' : Int) : HO := .dK [(.inr "draws", .ref al), (.inr "at", .int at')]
def drawsW {K : PySem.W.Frag} {w : World} (aw : Addr) : Wd K w (WM DW) where
  rel s H := ∃ al, H aw = some (dwOf al s.2) ∧ FzL K H al (s.1.map V.int)
  mt b := b = aw
  exc _ _ _ _ := False
  keep s H H' h e := let ⟨al, h1, h2⟩ := h; ⟨al, e _ _ h1, h2.firm fun b o hb _ => e b o hb⟩
  other s H b o h hb hf := by
    obtain ⟨al, h1, h2⟩ := h
    refine ⟨al, by rw [upd_ne (fun z => hb z.symm)]; exact h1, ?_⟩
    obtain ⟨ob, h2⟩ := h2
    exact ⟨ob, by rw [upd_ne (hf al _ h2 trivial)]; exact h2⟩
  there s H b h e := by
    obtain ⟨al, h1, _⟩ := h
    have e : b = aw := e
    subst e
    exact ⟨_, h1, fun z => z⟩
def rdAt : WM DW Int := StateT.mk fun s => some (s.2, s)
def rdDraws : WM DW (List Int) := StateT.mk fun s => some (s.1, s)
def incAt : WM DW Unit := StateT.mk fun s => some ((), (s.1, s.2 + 1))
theorem reps_of_ints {K : PySem.W.Frag} {w : World} {H : Hp} : ∀ {ns : List Int}, Reps K w H (ns.map V.int) (ns.map eInt)
  | [] => .nil
  | n :: ns => .cons (.int n) reps_of_ints
section
variable {X : Cx} {aw : Addr} {W : WX} {H0 : Hp} {R : Slots} {ρ ε δ : Type} {er : ρ → PyData} {Rb : ε → Slots} {Rn : δ → Slots} {i : Nat} {xw : Str} {pw pos p2 : Pos} {j j2} {rest : List Stmt}
theorem se_wAt (hu : X.A.units + 1 < cLine) (hN : X.N[i]? = some xw) (hv : Vis X.env.scope xw) (hR : R[i]? = some (some (.adr aw))) (hd : (xw == ("__debug__" : Str)) = false) (hcd : (xw == ("__classdict__" : Str)) = false) :
    SE X (drawsW aw) W H0 R (.Subscript (.Name xw pw) (.Constant (.str "at") j p2) pos) eInt rdAt :=
  .weak (pe_dget hu (pe_var hN hv hd hcd) pe_str (fun _ _ => rfl)) fun σ H Q q => by
    obtain ⟨s, c, q⟩ := q
    obtain ⟨v, e1, e2⟩ := c.slot i _ hR
    have e2 : v = .ref aw := e2
    subst e2
    obtain ⟨al, h1, h2⟩ := c.rel
    exact ⟨.ref aw, e1, aw, .int s.2, rfl, DGet.k (k := Sum.inr "at") h1, q _ H .refl c.rel (.int _)⟩
theorem se_wDraws (hu : X.A.units + 1 < cLine) (hN : X.N[i]? = some xw) (hv : Vis X.env.scope xw) (hR : R[i]? = some (some (.adr aw))) (hd : (xw == ("__debug__" : Str)) = false) (hcd : (xw == ("__classdict__" : Str)) = false) :
    SE X (drawsW aw) W H0 R (.Subscript (.Name xw pw) (.Constant (.str "draws") j p2) pos) (eLst eInt) rdDraws :=
  .weak (pe_dget hu (pe_var hN hv hd hcd) pe_str (fun _ _ => rfl)) fun σ H Q q => by
    obtain ⟨s, c, q⟩ := q
    obtain ⟨v, e1, e2⟩ := c.slot i _ hR
    have e2 : v = .ref aw := e2
    subst e2
    obtain ⟨al, h1, h2⟩ := c.rel
    exact ⟨.ref aw, e1, aw, .ref al, rfl, DGet.k (k := Sum.inr "draws") h1, q _ H .refl c.rel (.lst h2 reps_of_ints)⟩
theorem Cfg.updW {K : PySem.W.Frag} {w : World} {aw : Addr} {H0 H : Hp} {R : Slots} {s s' : DW} {σ : L2.St} {o : HO} (c : Cfg (K := K) (w := w) (m := WM DW) (drawsW aw) H0 R s σ H) (hn : ¬ Firm o) (r : (drawsW (K := K) (w := w) aw).rel s' (upd H aw o)) : Cfg (K := K) (w := w) (m := WM DW) (drawsW aw) H0 R s' σ (upd H aw o) ∧ Firms H (upd H aw o) := by
  obtain ⟨al, h1, h2⟩ := c.rel
  have fm : Firms H (upd H aw o) := firms_upd' h1 (fun z => z)
  refine ⟨⟨c.len, fun b u hb k => ?_, r, fun i x e => ?_, c.apart⟩, fm⟩
  · have hb' := c.base b u hb k
    by_cases e : b = aw
    · subst e
      rcases k with k | k
      · exact absurd rfl k
      · rw [h1] at hb'
        cases hb'
        exact False.elim k
    · rw [upd_ne e]
      exact hb'
  · obtain ⟨v, h3, h4⟩ := c.slot i x e
    refine ⟨v, h3, ?_⟩
    cases x with
    | frz d => exact Rep.firm fm h4
    | own ds =>
      obtain ⟨a, vs, k1, k2, k3, k4, k5⟩ := h4
      exact ⟨a, vs, k1, by rw [upd_ne k5]; exact k2, Reps.firm fm k3, k4, k5⟩
    | ownD ds =>
      obtain ⟨a, vs, k1, k2, k3, k4, k5⟩ := h4
      exact ⟨a, vs, k1, by rw [upd_ne k5]; exact k2, k3.firm fm, k4, k5⟩
    | adr a => exact h4
    | scr ns =>
      obtain ⟨b, k1, k2, k3⟩ := h4
      refine ⟨b, k1, ?_, ?_⟩
      · rcases k3 with ⟨o, k3⟩ | k3
        · exact .inl (.inr ⟨o, fm _ _ k3 trivial⟩)
        · exact .inr k3
      · rcases k3 with ⟨o, k3⟩ | k3
        · exact .inl ⟨o, fm _ _ k3 trivial⟩
        · exact .inr k3
theorem sl_wInc {mm : WM DW (Out ρ ε δ)} (hu : X.A.units + 1 < cLine) (hN : X.N[i]? = some xw) (hv : Vis X.env.scope xw) (hR : R[i]? = some (some (.adr aw))) (hd : (xw == ("__debug__" : Str)) = false) (hcd : (xw == ("__classdict__" : Str)) = false)
    {p3 p4 : Pos} (hr : SL X (drawsW aw) W H0 R rest er Rb Rn mm) : SL X (drawsW aw) W H0 R (.AugAssign (.Subscript (.Name xw pw) (.Constant (.str "at") j p2) p3) .Add (.Constant (.int 1) j2 p4) pos :: rest) er Rb Rn (incAt >>= fun _ => mm) :=
  ⟨(pss_cons (ps_daug hu (pe_var hN hv hd hcd) pe_str pe_int in_add (by intros; rfl)) hr.run).weak fun D σ H q => by
    obtain ⟨s, c, q⟩ := q
    obtain ⟨v, e1, e2⟩ := c.slot i _ hR
    have e2 : v = .ref aw := e2
    subst e2
    obtain ⟨al, h1, h2⟩ := id c.rel
    refine ⟨.ref aw, e1, aw, .int s.2, rfl, DGet.k (k := Sum.inr "at") h1, s.2, 1, rfl, rfl, _, DPut.k (k := Sum.inr "at") h1 (by show 2 < sizeLine; rw [sizeLine_eq]; decide), ?_⟩
    obtain ⟨ob, h3⟩ := id h2
    have ne : al ≠ aw := fun z => by rw [z, h1] at h3; cases h3
    have cf := Cfg.updW (o := dwOf al (s.2 + 1)) (s' := (s.1, s.2 + 1)) c (fun z => z) ⟨al, upd_same, ob, by rw [upd_ne ne]; exact h3⟩
    exact ⟨(s.1, s.2 + 1), cf.1, AfterS.mono cf.2 q⟩⟩
end

/-! ### the script -/
section
variable {X : Cx} {m : Type → Type} [Monad m] [PyM m] {C : Wd X.K X.w m} {W : WX} {H0 : Hp} {R : Slots} {i : Nat} {x : Str} {p pos p2 : Pos} {b : Expr} {mi : m Int} {ns : List Int}
theorem se_lenScr (hg : Gl X "len") (hm : X.mg "len" = none) (hN : X.N[i]? = some x) (hv : Vis X.env.scope x) (hR : R[i]? = some (some (.scr ns))) (hd : (x == ("__debug__" : Str)) = false) (hcd : (x == ("__classdict__" : Str)) = false)
    (hs : starEach (.Name x p2 :: []) X.env = (false, eval (.Name x p2) X.env) :: starEach [] X.env) : SE X C W H0 R (.Call (.Name "len" p) [.Name x p2] [] pos) eInt (pure (ns.length : Int)) :=
  .weak (pe_callB call_len hg hm PySem.boot_len (pa_cons (pe_var hN hv hd hcd) pa_nil hs) (by decide) (by decide) hs) fun σ H Q q => by
    obtain ⟨⟨s, c⟩, q⟩ := tR_pure q
    obtain ⟨v, e1, a, e2, h1, h2⟩ := c.slot i _ hR
    subst e2
    refine ⟨.ref a, e1, .ref a, _, rfl, .inl ⟨_, h1, rfl⟩, ?_⟩
    rw [List.length_map]
    exact q _ H (.refl H) (.int _)
theorem se_ixScr (hN : X.N[i]? = some x) (hv : Vis X.env.scope x) (hR : R[i]? = some (some (.scr ns))) (hd : (x == ("__debug__" : Str)) = false) (hcd : (x == ("__classdict__" : Str)) = false) (hb : SB X C W H0 R b eInt mi) (hs : PlainIx b) :
    SE X C W H0 R (.Subscript (.Name x p2) b pos) eInt (mi >>= fun k => fromO (L2.atI ns k)) :=
  .weak (pe_ix ix_list (pe_var hN hv hd hcd) hb.run hs) fun σ H Q q => by
    obtain ⟨s, c, _⟩ := id q
    obtain ⟨v, e1, a, e2, h1, h2⟩ := c.slot i _ hR
    subst e2
    refine ⟨.ref a, e1, tR_imp (tR_bind kF_ok q) fun v H1 ⟨k, e, kv, q⟩ => ?_⟩
    obtain ⟨n, en, _, q⟩ := tR_done q
    refine ⟨a, ns.map V.int, k, .int n, rfl, kB_int kv, ?_, by rw [atI_map, en]; rfl, q _ H1 (.refl H1) (.int _)⟩
    rcases h2 with ⟨o, h2⟩ | h2
    · exact .inl (.inr ⟨o, e.firms _ _ h2 trivial⟩)
    · exact .inr h2
end
/-- a promise of a def that is handed the script and a number -/
def spScr (K : PySem.W.Frag) (w : World) {ρ : Type} (er : ρ → PyData) (f : List Int → Int → Option ρ) : Sp := fun vs H Q E => ∃ a ns n r, vs = [.ref a, .int n] ∧ SlotOk K w (fun _ => False) H H (.scr ns) (.ref a) ∧ f ns n = some r ∧ ∀ v H', Same H H' → Rep K w H' v (er r) → Q v H'
/-- the law's own promise -/
def spLaw (K : PySem.W.Frag) (w : World) (f : List Int → Option Bool) : Sp := fun vs H Q E => ∃ a ns r, vs = [.ref a] ∧ SlotOk K w (fun _ => False) H H (.scr ns) (.ref a) ∧ f ns = some r ∧ ∀ v H', Rep K w H' v (.bool r) → Q v H'
theorem spLaw_true {K : PySem.W.Frag} {w : World} {f : List Int → Option Bool} {H : Hp} {a : Addr} {ns : List Int} (o : Only H) (h : SqL K H a (ns.map V.int)) (t : f ns = some true) : spLaw K w f [.ref a] H (fun v _ => v = .bl true) fun _ _ _ => False := by
  refine ⟨a, ns, true, rfl, ⟨a, rfl, h, ?_⟩, t, fun v H' r => by cases r; rfl⟩
  rcases h with (h | ⟨ob, h⟩) | h
  · rcases o a with z | ⟨ob, xs, z⟩ <;> rw [h] at z <;> cases z
  · exact .inl ⟨ob, h⟩
  · exact .inr h
section
variable {P : Program} {w : World} {K : PySem.W.Frag} {mg : Str → Option Value} {base : Heap}
theorem cfgS {m : Type → Type} [Monad m] [PyM m] {C : Wd K w m} {N : List Str} {v : V} {vs : List V} {x : Slot} {ds : List PyData} {H : Hp} {s : PyM.S m} (hx : SlotOk K w C.mt H H x v) (no : ¬ x.Own) (r : Reps K w H vs ds) (rl : C.rel s H) (h : ds.length + 1 ≤ N.length) :
    Cfg C H (some x :: slots0 (N.length - 1) ds) s (L2.start N (v :: vs)) H := by
  have c0 : Cfg C H (slots0 (N.drop 1).length ds) s (L2.start (N.drop 1) vs) H := cfg0 r rl (by rw [List.length_drop]; omega)
  have e1 : L2.start N (v :: vs) = some v :: L2.start (N.drop 1) vs := by
    unfold L2.start
    rw [List.map_cons, List.cons_append, List.length_drop, List.length_cons]
    congr 3
    omega
  have e2 : slots0 (N.drop 1).length ds = slots0 (N.length - 1) ds := by rw [List.length_drop]
  rw [e2] at c0
  refine ⟨by rw [e1, List.length_cons, List.length_cons, c0.len], .refl, rl, fun i y e => ?_, fun i j y z n e1' e2' ox oy => ?_⟩
  · cases i with
    | zero =>
      simp at e
      subst e
      exact ⟨v, by rw [e1]; rfl, hx⟩
    | succ i =>
      obtain ⟨u, h1, h2⟩ := c0.slot i y (by simpa using e)
      exact ⟨u, by rw [e1]; simpa using h1, h2⟩
  · cases i with
    | zero => simp at e1'; subst e1'; exact absurd ox no
    | succ i =>
      cases j with
      | zero => simp at e2'; subst e2'; exact absurd oy no
      | succ j =>
        rw [e1]
        exact c0.apart i j y z (fun q => n (by rw [q])) (by simpa using e1') (by simpa using e2') ox oy
theorem fn_scr {x qual : Str} {st : Stmt} {f : Addr} {fd : FuncData} {N ps : List Str} {k : Nat} {ρ : Type} {er : ρ → PyData} {F : List Int → Int → Option ρ} (Fu : Fun K x qual st f fd) (S : FnScope N ps (defScope st)) (hp : ps.length = 2) (hn : 2 ≤ N.length)
    (body : ∀ (cdv : Value) (A : Around) (outer : List Env) (s : Shared) (H : Hp) (E : XK), Room k (A.deeper (envOfC qual (defScope st) s.heap.objs.size f cdv)) → ∀ ns n, SF (cx0 P w K mg base N qual st f cdv A outer s H E) (m := Option) wd0 W0 H (some (.scr ns) :: slots0 (N.length - 1) [.int n]) (defBody st) er (F ns n)) :
    FnOk P w K mg base CX0 (k + 1) f fd ps (spScr K w er F) := by
  refine Fu.ok S (fun vs H Q E h => ?_) (fun cdv A outer s H vs Q E hr h => ?_)
  · obtain ⟨a, ns, n, r, rfl, _⟩ := h
    exact hp.symm
  · obtain ⟨a, ns, n, r, rfl, hs, z, h⟩ := h
    refine ⟨_, (body cdv A outer s H E hr ns n).run, (), cfgS (C := wd0) hs (fun z => z) (.cons (.int n) .nil) trivial hn, ?_⟩
    rw [PyM.run_bind, z]
    exact fun v H' e _ rv => h v H' (fun b o hb => e b o hb (.inl (fun z => z))) rv
theorem fn_law {x qual : Str} {st : Stmt} {f : Addr} {fd : FuncData} {N ps : List Str} {k : Nat} {F : List Int → Option Bool} (Fu : Fun K x qual st f fd) (S : FnScope N ps (defScope st)) (hp : ps.length = 1) (hn : 1 ≤ N.length)
    (body : ∀ (cdv : Value) (A : Around) (outer : List Env) (s : Shared) (H : Hp) (E : XK), Room k (A.deeper (envOfC qual (defScope st) s.heap.objs.size f cdv)) → ∀ ns, SF (cx0 P w K mg base N qual st f cdv A outer s H E) (m := Option) wd0 W0 H (some (.scr ns) :: slots0 (N.length - 1) []) (defBody st) eBool (F ns)) :
    FnOk P w K mg base CX0 (k + 1) f fd ps (spLaw K w F) := by
  refine Fu.ok S (fun vs H Q E h => ?_) (fun cdv A outer s H vs Q E hr h => ?_)
  · obtain ⟨a, ns, r, rfl, _⟩ := h
    exact hp.symm
  · obtain ⟨a, ns, r, rfl, hs, z, h⟩ := h
    refine ⟨_, (body cdv A outer s H E hr ns).run, (), cfgS (C := wd0) hs (fun z => z) .nil trivial hn, ?_⟩
    rw [PyM.run_bind, z]
    exact fun v H' e _ rv => h v H' rv
end
section
variable {X : Cx} {W : WX} {H0 : Hp} {R : Slots} {ρ : Type} {er : ρ → PyData} {i iw : Nat} {x xs xw : Str} {p p1 p2 p3 p4 p5 p6 p7 p8 pos : Pos} {rest : List Stmt} {k : Nat} {f : Addr} {fd : FuncData} {ps : List Str} {ns : List Int} {n : Int} {j1 j2 j3 j4}
/-- w = {'draws': _law_draws(script, n), 'at': 0} -/
theorem sf_world {F : List Int → Int → Option (List Int)} {mr : WM DW ρ} (hN' : X.N.Nodup) (G : FnOk X.prog X.w X.K X.mg X.base CX0 k f fd ps (spScr X.K X.w (eLst eInt) F)) (hr : Room k X.A) (hg : Gl X x) (hm : X.mg x = some (.ref f)) (hk : PySem.W.keepIn X.K (.ref f) = true) (hb : Binds X.K fd ps [])
    (hN : X.N[i]? = some xs) (hv : Vis X.env.scope xs) (hR : R[i]? = some (some (.scr ns))) (hd : (xs == ("__debug__" : Str)) = false) (hcd : (xs == ("__classdict__" : Str)) = false) (hdb : (x == ("__debug__" : Str)) = false)
    (he : starEach [.Name xs p3, .Constant (.int n) j2 p4] X.env = (false, eval (.Name xs p3) X.env) :: starEach [.Constant (.int n) j2 p4] X.env) (he2 : starEach [.Constant (.int n) j2 p4] X.env = (false, eval (.Constant (.int n) j2 p4) X.env) :: starEach [] X.env) (hpl : (backTo p5 (starEach [.Constant (.int n) j2 p4] X.env)).any (·.1) = false)
    (hNw : X.N[iw]? = some xw) (hlw : Loc X.env.scope xw) (hfw : X.fn xw = true ∨ X.env.scope.names.lookup xw = some .local) (hl : iw < R.length) (hno : ∀ y ∈ R, ∀ z, y = some z → ¬ z.Own)
    (hs : swapsWith (.Dict [some (.Constant (.str "draws") j1 p1), some (.Constant (.str "at") j3 p6)] [.Call (.Name x p2) [.Name xs p3, .Constant (.int n) j2 p4] [] p5, .Constant (.int 0) j4 p7] p8) (some (.Name xw p)) pos.line X.env = pure false)
    (hrest : ∀ aw, SF X (m := WM DW) (drawsW aw) W H0 (R.set iw (some (.adr aw))) rest er mr) :
    SF X (m := Option) wd0 W H0 R (.Assign [.Name xw p] (.Dict [some (.Constant (.str "draws") j1 p1), some (.Constant (.str "at") j3 p6)] [.Call (.Name x p2) [.Name xs p3, .Constant (.int n) j2 p4] [] p5, .Constant (.int 0) j4 p7] p8) pos :: rest) er
      (F ns n >>= fun ds => (mr.run (ds, 0)).map (·.1)) :=
  ⟨(pss_cons (ps_set hN' hNw hlw (pe_disp (pps_cons pe_str (pe_call G hr hg hm hk hb .nil pass0 (pa_cons (pe_var hN hv hd hcd) (pa_cons pe_int pa_nil he2) he) hdb he hpl) (pps_cons pe_str pe_int pps_nil)) rfl rfl (fun z => by cases z) (Nat.le_of_ble_eq_true rfl)) hs hfw)
      (u := fun D σ H => ∃ aw, tS (m := WM DW) (drawsW aw) W H0 (R.set iw (some (.adr aw))) er noE noE (mr >>= fun r => pure (.rt r)) D σ H) ⟨fun pins s σ H D I ⟨g, q⟩ => (hrest g).run.run pins s σ H D I q⟩).weak fun D σ H q => by
    obtain ⟨s, c, q⟩ := q
    intro p0 hp0
    obtain ⟨v, e1, a, e2, h1, h2⟩ := c.slot i _ hR
    subst e2
    have up : ∀ b o, H b = some o → (upd H p0 (.dK [])) b = some o := Same.new hp0
    -- 'draws'
    refine ⟨.ref a, e1, ?_⟩
    have q : AfterS (m := Option) wd0 W H0 H er noE noE D (PyM.run (((F ns n >>= fun ds => (mr.run (ds, 0)).map (·.1)) : Option ρ) >>= fun r => pure (Out.rt r)) s) := q
    rw [PyM.run_bind, PyM.run_bind] at q
    cases z : F ns n with
    | none => rw [z] at q; exact q.elim
    | some ds =>
      rw [z] at q
      have sc : SlotOk X.K X.w (fun _ => False) (upd H p0 (.dK [])) (upd H p0 (.dK [])) (.scr ns) (.ref a) := by
        refine ⟨a, rfl, ?_, ?_⟩
        · rcases h2 with ⟨o, h2⟩ | h2
          · exact .inl (.inr ⟨o, up _ _ h2⟩)
          · exact .inr h2
        · rcases h2 with ⟨o, h2⟩ | h2
          · exact .inl ⟨o, up _ _ h2⟩
          · exact .inr h2
      refine ⟨a, ns, n, ds, rfl, sc, z, fun v H1 sm rv => ?_⟩
      have rv : Rep X.K X.w H1 v (.list (ds.map eInt)) := rv
      cases rv with
      | lst fz rs =>
        rename_i al vs
        have ev := reps_ints rs
        subst ev
        have hp1 : H1 p0 = some (.dK []) := sm _ _ upd_same
        refine ⟨hp1, [(.inr "draws", .ref al), (.inr "at", .int 0)], rfl, Nat.le_of_ble_eq_true rfl, p0, ?_⟩
        -- the rest
        obtain ⟨ob, fz⟩ := fz
        have ne : al ≠ p0 := fun z => by rw [z, hp1] at fz; cases fz
        have mg' : mergeK [] [((.inr "draws" : Key), V.ref al), (.inr "at", .int 0)] = [(.inr "draws", .ref al), (.inr "at", .int 0)] := by rfl
        rw [mg']
        have s0 : H0 p0 = none := by
          cases y : H0 p0 with
          | none => rfl
          | some o => rw [c.base p0 o y (.inl (fun z => z))] at hp0; cases hp0
        have sm2 : ∀ b o, H b = some o → (upd H1 p0 (dwOf al 0)) b = some o := fun b o hb => by
          rw [upd_ne (ne_of_none hb hp0)]
          exact sm _ _ (up _ _ hb)
        have hl' : iw < σ.length := by rw [c.len]; exact hl
        refine ⟨(ds, 0), ⟨by rw [List.length_set, List.length_set]; exact c.len, fun b o hb _ => sm2 b o (c.base b o hb (.inl (fun z => z))), ⟨al, upd_same, ob, by rw [upd_ne ne]; exact fz⟩, fun j y e => ?_, fun j l y y2 _ e _ oy _ => ?_⟩, ?_⟩
        · by_cases e' : iw = j
          · subst e'
            rw [List.getElem?_set_self hl] at e
            cases e
            exact ⟨.ref p0, List.getElem?_set_self hl', rfl⟩
          · rw [List.getElem?_set_ne e'] at e
            rw [List.getElem?_set_ne e']
            obtain ⟨v, k1, k2⟩ := c.slot j y e
            refine ⟨v, k1, ?_⟩
            cases y with
            | frz d => exact Rep.firm (fun b o h _ => sm2 b o h) k2
            | adr b => exact k2
            | own ds => exact absurd trivial (hno _ (List.mem_of_getElem? e) _ rfl)
            | ownD ds => exact absurd trivial (hno _ (List.mem_of_getElem? e) _ rfl)
            | scr ms =>
              obtain ⟨b, l1, l2, l3⟩ := k2
              refine ⟨b, l1, ?_, ?_⟩
              · rcases l3 with ⟨o, l3⟩ | l3
                · exact .inl (.inr ⟨o, sm2 _ _ l3⟩)
                · exact .inr l3
              · rcases l3 with ⟨o, l3⟩ | l3
                · exact .inl ⟨o, sm2 _ _ l3⟩
                · exact .inr l3
        · by_cases e' : iw = j
          · subst e'
            rw [List.getElem?_set_self hl] at e
            cases e
            exact oy.elim
          · rw [List.getElem?_set_ne e'] at e
            exact (hno _ (List.mem_of_getElem? e) _ rfl oy).elim
        · rw [PyM.run_bind]
          cases y : mr.run (ds, 0) with
          | none =>
            have q : AfterS (m := Option) wd0 W H0 H er noE noE D (Res.bind (PyM.run ((mr.run (ds, 0)).map (·.1) : Option ρ) ()) fun a s' => PyM.run (pure (Out.rt a) : Option (Out ρ Empty Empty)) s') := q
            rw [y] at q
            exact q.elim
          | some pr =>
            have q : AfterS (m := Option) wd0 W H0 H er noE noE D (Res.bind (PyM.run ((mr.run (ds, 0)).map (·.1) : Option ρ) ()) fun a s' => PyM.run (pure (Out.rt a) : Option (Out ρ Empty Empty)) s') := q
            rw [y] at q
            have e : PyM.run mr (ds, 0) = some (.ok pr.1, pr.2) := by
              show (mr.run (ds, 0)).map _ = _
              rw [y]; rfl
            rw [e]
            exact fun v H' ex _ rv => q v H' (fun b o hb _ => ex b o hb (.inl (fun z => by
              have z : b = p0 := z
              rw [z, s0] at hb; cases hb))) trivial rv⟩
end
end TT

namespace TT
open PyM (fromO)
open PySem PySem.Spec PyProof.Rows L2

/-! ### one term for another -/
theorem tt_if {m : Type → Type} [Monad m] {α : Type} {p : Prop} [Decidable p] {a b : α} : (if p then (pure a : m α) else pure b) = pure (if p then a else b) := by split <;> rfl
theorem bif_and {c d : Bool} : (if c = true then d else false) = (c && d) := by cases c <;> rfl
theorem bif_or {c d : Bool} : (if c = true then true else d) = (c || d) := by cases c <;> rfl
theorem ltAll {is : List Nat} {R : Slots} (n : Nat) (h : R.length = n) (h2 : is.all (fun i => decide (i < n)) = true) : ∀ i ∈ is, i < R.length := by
  subst h
  intro i hi
  have := List.all_eq_true.mp h2 i hi
  simpa using this
theorem subN {r r' : Slots} {y : Option Slot} (h : SubS r r') : SubS (none :: r) (y :: r') := h
theorem subC {r r' : Slots} {x : Slot} (h : SubS r r') : SubS (some x :: r) (some x :: r') := ⟨rfl, h⟩
theorem subE : SubS [] [] := trivial
section
variable {X : Cx} {m : Type → Type} [Monad m] [PyM m] {C : Wd X.K X.w m} {W : WX} {H0 : Hp} {R : Slots} {α β γ ρ ε δ δ' η : Type} {ea : α → PyData} {eb : β → PyData} {er : ρ → PyData} {Rb : ε → Slots} {Rn : δ → Slots} {Rn' : δ' → Slots}
variable {e c : Expr} {st : Stmt} {rest sts body a b : List Stmt} {me : m α} {mc : m Bool} {pos : Pos} {mm mm' : m (Out ρ ε δ)}
theorem SL.asc {me : m α} {k : α → m β} {r : β → m (Out ρ ε δ)} (h : SL X C W H0 R sts er Rb Rn (me >>= fun a => k a >>= r)) : SL X C W H0 R sts er Rb Rn ((me >>= k) >>= r) := h.alike (alike_assoc me k r)
theorem SL.asc2 {me : m α} {f : α → m γ} {k : γ → m β} {r : β → m (Out ρ ε δ)} (h : SL X C W H0 R sts er Rb Rn (me >>= fun a => f a >>= fun c => k c >>= r)) : SL X C W H0 R sts er Rb Rn ((me >>= fun a => f a >>= k) >>= r) :=
  h.alike ((alike_assoc me _ r).trans (alike_bind fun a => alike_assoc (f a) k r))
/-- slots said otherwise -/
theorem SL.atR {R' : Slots} (h : SL X C W H0 R' sts er Rb Rn mm) (q : R = R') : SL X C W H0 R sts er Rb Rn mm := q ▸ h
theorem sf_ifR {ma mr : m ρ} (hc : ST X C W H0 R c mc) (ha : SF X C W H0 R a er ma) (hr : SF X C W H0 R rest er mr) :
    SF X C W H0 R (.If c a [] pos :: rest) er (mc >>= fun b => if b = true then ma else mr) :=
  (sl_ifR hc ha hr).alike ((alike_assoc _ _ _).trans (alike_bind fun b => by cases b <;> exact .refl _))
theorem sf_ifRR {ma mr : m ρ} (hc : ST X C W H0 R c mc) (ha : SF X C W H0 R a er ma) (hb : SF X C W H0 R b er mr) :
    SF X C W H0 R (.If c a b pos :: rest) er (mc >>= fun b => if b = true then ma else mr) :=
  (sl_ifRR hc ha hb).alike ((alike_assoc _ _ _).trans (alike_bind fun b => by cases b <;> exact .refl _))
/-- behind a loop that may return -/
def thenF (k : δ → m ρ) : δ ⊕ ρ → m ρ
  | .inl d => k d
  | .inr r => pure r
theorem alike_thenF {k : δ → m ρ} (x : δ ⊕ ρ) : Alike (thenF k x >>= fun r => pure (Out.rt r : Out ρ ε δ')) (thenL (fun d => k d >>= fun r => pure (.rt r)) x) := by
  cases x with
  | inl d => exact .refl _
  | inr r => exact alike_pure
/-- a return on one way -/
def Out.thnF (k : δ → m ρ) : Out ρ Empty δ → m ρ
  | .nx d => k d
  | .rt r => pure r
  | .bk d => d.elim
  | .ct d => d.elim
theorem sf_ifG {ma mb : m (Out ρ Empty δ)} {k : δ → m ρ} (hc : ST X C W H0 R c mc) (ha : SL X C W H0 R a er noE Rn ma) (hb : SL X C W H0 R b er noE Rn mb) (hr : ∀ d, SF X C W H0 (Rn d) rest er (k d)) :
    SF X C W H0 R (.If c a b pos :: rest) er (mc >>= fun t => (if t = true then ma else mb) >>= Out.thnF k) :=
  (sl_ifG hc ha hb hr).alike ((alike_assoc _ _ _).trans (alike_bind fun t => (alike_assoc _ _ _).trans (alike_bind fun o => by
    cases o with
    | nx d => exact .refl _
    | rt r => exact alike_pure
    | bk d => exact d.elim
    | ct d => exact d.elim)))
variable {tg iter : Expr} {mi : m (List α)} {g : TG} {is : List Nat} {dts : α → List PyData} {Rl : δ → Slots} {d0 : δ}
theorem sf_forG {mb : α → δ → m (Out ρ δ δ)} {k : δ → m ρ} (hp : PassesOwn (model X.prog X.w) X.A X.env X.xe) (hc : X.calm = true) (hi : SI X C W H0 R Firms tg iter ea mi) (hg : PG X tg g) (hgo : GOk X.K X.w g ea is dts)
    (h0 : SubS (Rl d0) R) (hlt : ∀ d, ∀ i ∈ is, i < (Rl d).length) (hb : ∀ a d, SL X C W H0 (setR (Rl d) is (dts a)) body er Rl Rl (mb a d)) (hr : ∀ d, SF X C W H0 (Rl d) rest er (k d))
    (hs : ∀ x, foldedSetIterable iter X.env x = pure x) : SF X C W H0 R (.For tg iter body [] pos :: rest) er (mi >>= fun xs => loopL mb xs d0 >>= thenF k) :=
  (sl_forG hp hc hi hg hgo h0 hlt hb hr hs).alike ((alike_assoc _ _ _).trans (alike_bind fun xs => (alike_assoc _ _ _).trans (alike_bind fun x => alike_thenF x)))
theorem sf_whG {mc : δ → m Bool} {mb : δ → m (Out ρ δ δ)} {k : δ → m ρ} (hp : PassesOwn (model X.prog X.w) X.A X.env X.xe)
    (h0 : SubS (Rl d0) R) (hc : ∀ d, ST X C W H0 (Rl d) c (mc d)) (hb : ∀ d, SL X C W H0 (Rl d) body er Rl Rl (mb d)) (hr : ∀ d, SF X C W H0 (Rl d) rest er (k d)) :
    SF X C W H0 R (.While c body [] pos :: rest) er (whileG mc mb d0 >>= thenF k) :=
  (sl_whG hp h0 hc hb hr).alike ((alike_assoc _ _ _).trans (alike_bind fun x => alike_thenF x))
/-! ### a plain while -/
def WhP (X : Cx) (C : Wd X.K X.w m) (W : WX) (H0 : Hp) (Rl : δ → Slots) (mc : δ → m Bool) (mb : δ → m δ) (H1 : Hp) (D : Ends) (n : Nat) (σ : L2.St) (H : Hp) : Prop :=
  ∃ d s, Firms H1 H ∧ Cfg C H0 (Rl d) s σ H ∧ match PyM.run (whileFP mc mb n d) s with
    | none => False
    | some (.ok d', s') => ∀ σ' H', Firms H1 H' → Cfg C H0 (Rl d') s' σ' H' → D.nx σ' H'
    | some (.error x, s') => ∀ cls d σ' H', Ext C.mt H0 H' → C.rel s' H' → C.exc x cls d H' → W cls d σ' H'
theorem sl_whP {mc : δ → m Bool} {mb : δ → m δ} {k : δ → m (Out ρ ε δ')} (hp : PassesOwn (model X.prog X.w) X.A X.env X.xe)
    (h0 : SubS (Rl d0) R) (hc : ∀ d, ST X C W H0 (Rl d) c (mc d)) (hb : ∀ d, SP X C W H0 (Rl d) body Rl (mb d)) (hr : ∀ d, SL X C W H0 (Rl d) rest er Rb Rn' (k d)) :
    SL X C W H0 R (.While c body [] pos :: rest) er Rb Rn' (whileM mc mb d0 >>= k) :=
  ⟨(pss_cons (ps_while hp (tc := fun σ H Q => ∃ d, tT C W H0 (Rl d) (mc d) σ H Q) (tb := fun D σ H => ∃ d, tS C W H0 (Rl d) er Rl Rl (mb d >>= fun d => pure (.nx d)) D σ H) ⟨fun pins s σ H Q I ⟨d, q⟩ => (hc d).run.run pins s σ H Q I q⟩ ⟨fun pins s σ H D I ⟨d, q⟩ => (SP.up (hb d)).run.run pins s σ H D I q⟩)
      (u := fun D σ H => ∃ d, tS C W H0 (Rl d) er Rb Rn' (k d) D σ H) ⟨fun pins s σ H D I ⟨d, q⟩ => (hr d).run.run pins s σ H D I q⟩).weak fun D σ H q => by
    obtain ⟨s, c, q⟩ := q
    rw [PyM.run_bind] at q
    cases z : PyM.run (whileM mc mb d0) s with
    | none => rw [z] at q; exact q.elim
    | some p =>
      obtain ⟨n, hn⟩ := PyM.run_sup _ _ _ z
      rw [z] at q
      refine ⟨WhP X C W H0 Rl mc mb H { D with nx := fun σ H => ∃ d, tS C W H0 (Rl d) er Rb Rn' (k d) D σ H }, ⟨n, d0, s, Firms.refl _, c.sub h0, ?_⟩, ?_⟩
      · rw [hn]
        obtain ⟨r2, s2⟩ := p
        cases r2 with
        | error x => exact q
        | ok d' => exact fun σ' H' f cf => ⟨d', s2, cf, AfterS.mono f q⟩
      · rintro i σ2 H2 ⟨d, s2, f2, c2, w2⟩
        cases i with
        | zero =>
          have w2 : match PyM.run (fromO none : m δ) s2 with
                    | none => False
                    | some (.ok d', s') => ∀ σ' H', Firms H H' → Cfg C H0 (Rl d') s' σ' H' → ∃ d, tS C W H0 (Rl d) er Rb Rn' (k d) D σ' H'
                    | some (.error x, s') => ∀ cls d σ' H', Ext C.mt H0 H' → C.rel s' H' → C.exc x cls d H' → W cls d σ' H' := w2
          rw [PyM.run_fromO] at w2
          exact w2.elim
        | succ i =>
          have e : PyM.run (whileFP mc mb (i + 1) d) s2 = Res.bind (PyM.run (mc d) s2) fun t s' => PyM.run (if t = true then mb d >>= whileFP mc mb i else pure d) s' := PyM.run_bind (mc d) _ s2
          rw [e] at w2
          refine ⟨d, s2, c2, ?_⟩
          cases z3 : PyM.run (mc d) s2 with
          | none => rw [z3] at w2; exact w2
          | some p3 =>
            obtain ⟨r3, s3⟩ := p3
            rw [z3] at w2
            cases r3 with
            | error x => exact fun cls dd H' e rl ex => w2 cls dd σ2 H' (c2.base.trans e) rl ex
            | ok t =>
              intro H3 e3 rl3
              have c3 := c2.ext e3 rl3
              have f3 : Firms H H3 := f2.trans e3.firms
              cases t with
              | false =>
                have w2 : match PyM.run (pure d : m δ) s3 with
                    | none => False
                    | some (.ok d', s') => ∀ σ' H', Firms H H' → Cfg C H0 (Rl d') s' σ' H' → ∃ d, tS C W H0 (Rl d) er Rb Rn' (k d) D σ' H'
                    | some (.error x, s') => ∀ cls d σ' H', Ext C.mt H0 H' → C.rel s' H' → C.exc x cls d H' → W cls d σ' H' := w2
                rw [PyM.run_pure] at w2
                exact w2 σ2 H3 f3 c3
              | true =>
                rw [if_pos rfl]
                refine ⟨WhP X C W H0 Rl mc mb H { D with nx := fun σ H => ∃ d, tS C W H0 (Rl d) er Rb Rn' (k d) D σ H } i, fun σ' H' w => ⟨i, Nat.lt_succ_self i, w⟩, d, s3, c3, ?_⟩
                have w2 : match PyM.run (mb d >>= whileFP mc mb i) s3 with
                    | none => False
                    | some (.ok d', s') => ∀ σ' H', Firms H H' → Cfg C H0 (Rl d') s' σ' H' → ∃ d, tS C W H0 (Rl d) er Rb Rn' (k d) D σ' H'
                    | some (.error x, s') => ∀ cls d σ' H', Ext C.mt H0 H' → C.rel s' H' → C.exc x cls d H' → W cls d σ' H' := w2
                rw [PyM.run_bind] at w2 ⊢
                cases z4 : PyM.run (mb d) s3 with
                | none => rw [z4] at w2; exact w2
                | some p4 =>
                  obtain ⟨r4, s4⟩ := p4
                  rw [z4] at w2
                  cases r4 with
                  | error x => exact w2
                  | ok d' =>
                    show AfterS C W H0 H3 er Rl Rl _ (PyM.run (pure (.nx d')) s4)
                    rw [PyM.run_pure]
                    exact fun σ' H' f cf => ⟨d', s4, f3.trans f, cf, w2⟩⟩
end

/-! ### a list of one's own is locked -/
section
variable {X : Cx} {m : Type → Type} [Monad m] [PyM m] {C : Wd X.K X.w m} {W : WX} {H0 : Hp} {R : Slots} {α β γ ρ ε δ : Type} {ea : α → PyData} {eb : β → PyData} {er : ρ → PyData} {Rb : ε → Slots} {Rn : δ → Slots}
variable {e : Expr} {rest sts : List Stmt} {pos : Pos} {mm : m (Out ρ ε δ)}
theorem Cfg.lock {K : PySem.W.Frag} {w : World} {C : Wd K w m} {s : PyM.S m} {σ : L2.St} {H : Hp} {i : Nat} {a : Addr} {vs : List V} {ds : List PyData} {o : Obj} (c : Cfg C H0 R s σ H) (hR : R[i]? = some (some (.own ds))) (ha : σ[i]? = some (some (.ref a))) (h : H a = some (.lst vs)) (r : Reps K w H vs ds) (h0 : H0 a = none) (hm : ¬ C.mt a) :
    Cfg C H0 (R.set i (some (.frz (.list ds)))) s σ (upd H a (.frz o (.lst vs))) := by
  have hl : i < R.length := by
    rcases Nat.lt_or_ge i R.length with z | z
    · exact z
    · rw [List.getElem?_eq_none z] at hR; cases hR
  have fm : Firms H (upd H a (.frz o (.lst vs))) := firms_upd' h (fun z => z)
  have nf : ∀ b u, H b = some u → Firm u → b ≠ a := fun b u hu f z => by subst z; rw [h] at hu; cases hu; exact f
  refine ⟨by rw [List.length_set]; exact c.len, fun b u hb k => ?_, C.other _ _ _ _ c.rel hm nf, fun j y e => ?_, fun j l y y2 n e1 e2 o1 o2 => ?_⟩
  · rw [upd_ne (ne_of_none hb h0)]
    exact c.base b u hb k
  · by_cases q : i = j
    · subst q
      rw [List.getElem?_set_self hl] at e
      cases e
      exact ⟨.ref a, ha, .lst ⟨o, upd_same⟩ (Reps.firm fm r)⟩
    · rw [List.getElem?_set_ne q] at e
      obtain ⟨v, h1, h2⟩ := c.slot j y e
      refine ⟨v, h1, ?_⟩
      cases y with
      | frz d => exact Rep.firm fm h2
      | adr b => exact h2
      | ownD es =>
        obtain ⟨b, us, k1, k2, k3, k4, k5⟩ := h2
        have nb : b ≠ a := fun z => c.apart i j _ _ q hR e trivial trivial (by rw [ha, h1, k1, z])
        exact ⟨b, us, k1, by rw [upd_ne nb]; exact k2, k3.firm fm, k4, k5⟩
      | own es =>
        obtain ⟨b, us, k1, k2, k3, k4, k5⟩ := h2
        have nb : b ≠ a := fun z => c.apart i j _ _ q hR e trivial trivial (by rw [ha, h1, k1, z])
        exact ⟨b, us, k1, by rw [upd_ne nb]; exact k2, Reps.firm fm k3, k4, k5⟩
      | scr ns =>
        obtain ⟨b, k1, k2, k3⟩ := h2
        refine ⟨b, k1, ?_, ?_⟩
        · rcases k3 with ⟨o, k3⟩ | k3
          · exact .inl (.inr ⟨o, fm _ _ k3 trivial⟩)
          · exact .inr k3
        · rcases k3 with ⟨o, k3⟩ | k3
          · exact .inl ⟨o, fm _ _ k3 trivial⟩
          · exact .inr k3
  · have n1 : i ≠ j := fun z => by
      subst z
      rw [List.getElem?_set_self hl] at e1
      cases e1
      exact o1
    have n2 : i ≠ l := fun z => by
      subst z
      rw [List.getElem?_set_self hl] at e2
      cases e2
      exact o2
    rw [List.getElem?_set_ne n1] at e1
    rw [List.getElem?_set_ne n2] at e2
    exact c.apart j l y y2 n e1 e2 o1 o2
theorem SL.lock (i : Nat) {ds : List PyData} (hR : R[i]? = some (some (.own ds))) (h : SL X C W H0 (R.set i (some (.frz (.list ds)))) sts er Rb Rn mm) : SL X C W H0 R sts er Rb Rn mm :=
  ⟨⟨fun pins s σ H D I q => by
    obtain ⟨s', c, q⟩ := q
    obtain ⟨v, h1, a, vs, k1, k2, k3, k4, k5⟩ := c.slot i _ hR
    subst k1
    obtain ⟨o, I2⟩ := Inv.freeze I k2
    have fm : Firms H (upd H a (.frz o (.lst vs))) := firms_upd' k2 (fun z => z)
    exact h.run.run pins s σ _ D I2 ⟨s', c.lock hR h1 k2 k3 k4 k5, AfterS.mono fm q⟩⟩⟩
end

/-! ### y = [..] on one line -/
section
variable {X : Cx} {m : Type → Type} [Monad m] [PyM m] {C : Wd X.K X.w m} {W : WX} {H0 : Hp} {R : Slots} {α β ρ ε δ : Type} {ea : α → PyData} {eb : β → PyData} {er : ρ → PyData} {Rb : ε → Slots} {Rn : δ → Slots}
variable {elt tg iter : Expr} {ifs : List Expr} {scope : Scope} {own : List (Str × Nat)} {pos spos py : Pos} {mi : m (List α)} {mt : α → m Bool} {me : α → m β} {g : TG} {is : List Nat} {dts : α → List PyData} {rest : List Stmt}
theorem sl_setLc [NoErr m] {i : Nat} {y : Str} {ml : m (List β)} {k : List β → m (Out ρ ε δ)} (hy : X.N[i]? = some y) (hyl : X.env.scope.names.lookup y = some .local) (hl : i < R.length)
    (hsw : swapsWith (.ListComp elt [⟨tg, iter, ifs, 0⟩] scope pos) (some (.Name y py)) spos.line X.env = pure true)
    (hc : X.calm = true) (hN : X.N.Nodup) (hi : SI X C W H0 R (Ext C.mt) tg iter ea mi) (ok : BlkOk X.N X.env.scope scope own)
    (hg : ∀ (s : Shared) (H : Hp) (Cc : Addr) (cl : List (Str × Addr)) (fp : List Addr), PG (X.blk s H scope (compEnvC scope cl Cc X.env) fp) tg g)
    (hgo : GOk X.K X.w g ea is dts) (hin : ∀ i ∈ is, i ∈ own.map (·.2)) (hlt : ∀ i ∈ is, i < R.length)
    (ht : ∀ (a : α) (s : Shared) (H : Hp) (Cc : Addr) (cl : List (Str × Addr)) (fp : List Addr), SIf (X.blk s H scope (compEnvC scope cl Cc X.env) fp) C W0 H0 (setR (wipeR R (own.map (·.2))) is (dts a)) ifs (mt a))
    (he : ∀ (a : α) (s : Shared) (H : Hp) (Cc : Addr) (cl : List (Str × Addr)) (fp : List Addr), SE (X.blk s H scope (compEnvC scope cl Cc X.env) fp) C W0 H0 (setR (wipeR R (own.map (·.2))) is (dts a)) elt eb (me a))
    (q : ml = mi >>= compL mt me) (hr : ∀ a : List β, SL X C W H0 (R.set i (some (.own (a.map eb)))) rest er Rb Rn (k a))
    (hs : ∀ x, foldedSetIterable iter X.env x = pure x := by intro _; rfl) :
    SL X C W H0 R (.Assign [.Name y py] (.ListComp elt [⟨tg, iter, ifs, 0⟩] scope pos) spos :: rest) er Rb Rn (ml >>= k) := by
  subst q
  refine ⟨(pss_cons (ps_setLc hc hN hy hyl hsw hi.run ok hg (tt := fun σ H Q => ∃ a, tT C W0 H0 (setR (wipeR R (own.map (·.2))) is (dts a)) (mt a) σ H Q) (fun s H Cc cl fp => ⟨fun pins s σ H Q I ⟨a, h⟩ => (ht a _ _ _ _ _).run.run pins s σ H Q I h⟩) (te := fun σ H Q => ∃ a, tR C W0 H0 (setR (wipeR R (own.map (·.2))) is (dts a)) (kF X.K X.w C.mt) eb (me a) σ H Q)
    (fun s H Cc cl fp => ⟨fun pins s σ H Q I ⟨a, h⟩ => (he a _ _ _ _ _).run.run pins s σ H Q I h⟩) hs)
      (u := fun D σ H => ∃ a : List β, tS C W H0 (R.set i (some (.own (a.map eb)))) er Rb Rn (k a) D σ H) ⟨fun pins s σ H D I ⟨a, q⟩ => (hr a).run.run pins s σ H D I q⟩).weak fun D σ H q => ?_⟩
  obtain ⟨s0, c0, q0⟩ := id q
  refine (show tLc _ _ _ _ _ σ H (fun v H1 => ∃ a : List β, tS C W H0 (R.set i (some (.own (a.map eb)))) er Rb Rn (k a) D (σ.set i (some v)) H1) from tLc_ok hgo hin hlt (tS_bind (k := kO X.K X.w C.mt) (ea := eLst eb) q fun a v H' kv e nb hh => ?_))
  obtain ⟨b, vs, ds, h1, h2, h3, h4, h5⟩ := kv
  obtain ⟨s, c, q⟩ := hh
  refine ⟨a, s, ?_, q⟩
  subst h1
  have h2 : PyData.list (a.map eb) = .list ds := h2
  injection h2 with h2
  subst h2
  have nm : ¬ C.mt b := fun z => by
    obtain ⟨o, ho, _⟩ := C.there _ _ _ c0.rel z
    rw [h5] at ho; cases ho
  have h0 : H0 b = none := by
    cases z : H0 b with
    | none => rfl
    | some o => rw [c0.base b o z (.inl nm)] at h5; cases h5
  refine c.setO hl h3 h4 h0 nm fun j y hy oy z => ?_
  obtain ⟨v, e1, ok⟩ := c0.slot j y hy
  have : v = V.ref b := by rw [e1] at z; injection z with z; injection z
  subst this
  cases y with
  | own es =>
    obtain ⟨b', us, k1, k2, _⟩ := ok
    cases k1
    rw [h5] at k2
    cases k2
  | ownD es =>
    obtain ⟨b', us, k1, k2, _⟩ := ok
    cases k1
    rw [h5] at k2
    cases k2
  | frz _ => exact oy
  | adr _ => exact oy
  | scr _ => exact oy
end

/-! ### += -/
section
variable {X : Cx} {m : Type → Type} [Monad m] [PyM m] {C : Wd X.K X.w m} {W : WX} {H0 : Hp} {R : Slots} {α β γ ρ ε δ : Type} {ea : α → PyData} {eb : β → PyData} {er : ρ → PyData} {Rb : ε → Slots} {Rn : δ → Slots}
variable {e : Expr} {rest sts : List Stmt} {pos pos' : Pos} {mi : m Int} {i : Nat} {x : Str} {n : Int}
theorem sl_augI {op : Operator} {f : Int → Int → Int} {k : Int → m (Out ρ ε δ)} (ho : PIp X op (ipI f)) (hN : X.N.Nodup) (hi : X.N[i]? = some x) (hx : Loc X.env.scope x) (hR : R[i]? = some (some (.frz (eInt n)))) (hl : i < R.length) (h : SE X C W H0 R e eInt mi)
    (hr : ∀ j, SL X C W H0 (R.set i (some (.frz (eInt (f n j))))) rest er Rb Rn (k j)) (hf : X.fn x = true ∨ X.env.scope.names.lookup x = some .local) : SL X C W H0 R (.AugAssign (.Name x pos') op e pos :: rest) er Rb Rn (mi >>= k) :=
  ⟨(pss_cons (ps_aug hN hi hx h.run ho hf) (u := fun D σ H => ∃ j, tS C W H0 (R.set i (some (.frz (eInt (f n j))))) er Rb Rn (k j) D σ H) ⟨fun pins s σ H D I ⟨a, q⟩ => (hr a).run.run pins s σ H D I q⟩).weak fun D σ H q => by
    obtain ⟨s0, c0, q0⟩ := id q
    obtain ⟨v, e1, ok⟩ := c0.slot i _ hR
    have ok : Rep X.K X.w H v (.int n) := ok
    cases ok
    refine ⟨.int n, e1, tS_bind (k := kF X.K X.w C.mt) (ea := eInt) q fun a v H' kv e _ ⟨s, c, q⟩ => ?_⟩
    have kv : Rep X.K X.w H' v (.int a) := kv
    cases kv
    exact ⟨n, a, rfl, rfl, a, s, c.setF hl (.int _), q⟩⟩
end

/-! ### zip -/
section
variable {X : Cx} {m : Type → Type} [Monad m] [PyM m] {C : Wd X.K X.w m} {W : WX} {H0 : Hp} {R : Slots} {P : Pk} {α β : Type} {ea : α → PyData} {eb : β → PyData}
variable {a b : Expr} {elts : List Expr} {pos p tpos : Pos} {kk : Nat} {mxs : m (List α)} {mys : m (List β)}
theorem zip_at {α β : Type} : ∀ {xs : List α} {ys : List β} {i : Nat} {x : α} {y : β}, xs[i]? = some x → ys[i]? = some y → (xs.zip ys)[i]? = some (x, y)
  | [], _, _, _, _, h, _ => by simp at h
  | _ :: _, [], _, _, _, _, h => by simp at h
  | a :: xs, b :: ys, 0, x, y, h, h' => by simp at h h' ⊢; exact ⟨h, h'⟩
  | a :: xs, b :: ys, i + 1, x, y, h, h' => by simpa using zip_at (xs := xs) (ys := ys) (i := i) (by simpa using h) (by simpa using h')
theorem wk_zipT {K : PySem.W.Frag} {w : World} {H : Hp} {a b : Addr} {vs us : List V} {xs : List α} {ys : List β} (l : LenOk K H) (h : SqT K H a vs) (h' : SqT K H b us) (r : Reps K w H vs (xs.map ea)) (r' : Reps K w H us (ys.map eb)) (fs : ∀ {H'}, P H H' → Firms H H') : Wk K w (P H) (RZ.ItzT K a b) ((xs.zip ys).map (eT2 ea eb)) where
  go i H' p hi := by
    have f := fs p
    have hA := SqT.firm f h
    have hB := SqT.firm f h'
    rw [List.length_map, List.length_zip] at hi
    have l1 := r.length
    have l2 := r'.length
    rw [List.length_map] at l1 l2
    have i1 : i < xs.length := by omega
    have i2 : i < ys.length := by omega
    have g1 : (xs.map ea)[i]? = some (ea xs[i]) := by rw [List.getElem?_map, List.getElem?_eq_getElem i1]; rfl
    have g2 : (ys.map eb)[i]? = some (eb ys[i]) := by rw [List.getElem?_map, List.getElem?_eq_getElem i2]; rfl
    obtain ⟨v, e1, rv⟩ := r.get g1
    obtain ⟨u, e2, ru⟩ := r'.get g2
    refine ⟨⟨vs, us, v, u, hA, hB, e1, e2⟩, fun x H2 y => ?_⟩
    obtain ⟨T, x1, x2, rfl, nT, rfl, f1, f2⟩ := y
    have q1 := f1 _ hA
    have q2 := f2 _ hB
    rw [e1] at q1; cases q1
    rw [e2] at q2; cases q2
    refine ⟨Same.new nT, eT2 ea eb (xs[i], ys[i]), ?_, ?_⟩
    · rw [List.getElem?_map, zip_at (List.getElem?_eq_getElem i1) (List.getElem?_eq_getElem i2)]; rfl
    · have s2 : Firms H (upd H' T (.tup [v, u])) := fun c o hc k => Same.new nT _ _ (f _ _ hc k)
      exact .tup (.inl (.inl upd_same)) (.cons (Rep.firm s2 rv) (.cons (Rep.firm s2 ru) .nil))
  stop i H' p hi := by
    have f := fs p
    rw [List.length_map, List.length_zip] at hi
    have l1 := r.length
    have l2 := r'.length
    rw [List.length_map] at l1 l2
    exact ⟨vs, us, SqT.firm f h, SqT.firm f h', by omega⟩
  len := by
    have l1 := r.length
    rw [List.length_map] at l1
    rw [List.length_map, List.length_zip]
    exact Nat.le_trans (Nat.min_le_left _ _) (l1 ▸ l.2.1 a vs h)
theorem si_zipT (hg : Gl X "zip") (hm : X.mg "zip" = none) (ha : SE X C W H0 R a (eTup ea) mxs) (hb : SE X C W H0 R b (eTup eb) mys) (fs : ∀ {H H'}, P H H' → Firms H H')
    (hs : starEach [a, b] X.env = (false, eval a X.env) :: starEach [b] X.env := by rfl) (hs2 : starEach [b] X.env = (false, eval b X.env) :: starEach [] X.env := by rfl) (hpl : (backTo pos (starEach [b] X.env)).any (·.1) = false := by rfl) :
    SI X C W H0 R P (.Tuple elts kk tpos) (.Call (.Name "zip" p) [a, b] [] pos) (eT2 ea eb) (mxs >>= fun xs => mys >>= fun ys => pure (xs.zip ys)) :=
  ⟨(RZ.pi_zipA hg hm (pa_cons ha.run.facts (pa_cons hb.run.facts pa_nil hs2) hs) hs hpl).weak fun σ H Q q => tR_imp (tI_bind (k := kF X.K X.w C.mt) (ea := eTup ea) q) fun v H1 ⟨xs, e, kv, q⟩ lk => tR_imp (tI_bind (k := kF X.K X.w C.mt) (ea := eTup eb) q) fun v2 H2 ⟨ys, e2, kv2, q⟩ lk2 => by
    obtain ⟨s, c, q⟩ := q
    rw [PyM.run_pure] at q
    have kv : Rep X.K X.w H1 v (.tuple (xs.map ea)) := kv
    have kv2 : Rep X.K X.w H2 v2 (.tuple (ys.map eb)) := kv2
    cases kv with
    | tup h r =>
      cases kv2 with
      | tup h' r' =>
        exact ⟨_, _, _, _, rfl, .inr ⟨SqT.firm e2.firms h, h', q _ _ .refl c.rel (wk_zipT lk2 (SqT.firm e2.firms h) h' (Reps.firm e2.firms r) r' fs)⟩⟩⟩
end
end TT

namespace HT
open PySem PySem.Spec PyProof.Rows
section
variable {prog : Program} {w : World} {A : Around} {E : Value → Shared → Prop} {s : Shared}
theorem filterMap_same {α β : Type} {f g : α → Option β} : ∀ {l : List α}, (∀ x ∈ l, f x = g x) → l.filterMap f = l.filterMap g
  | [], _ => rfl
  | x :: l, h => by
    rw [List.filterMap_cons, List.filterMap_cons, h x (by simp), filterMap_same fun y hy => h y (by simp [hy])]
theorem pick_rev {α : Type} (xs : Array α) : (List.range xs.size).filterMap (fun (m : Nat) => xs[(((xs.size : Int) - 1) + (m : Int) * (-1)).toNat]?) = xs.toList.reverse := by
  have e : ∀ m ∈ List.range xs.size, xs[(((xs.size : Int) - 1) + (m : Int) * (-1)).toNat]? = ((xs[·]?) ∘ fun k => xs.size - 1 - k) m := by
    intro m hm
    have := List.mem_range.mp hm
    have : (((xs.size : Int) - 1) + (m : Int) * (-1)).toNat = xs.size - 1 - m := by omega
    rw [this]; rfl
  have e2 : (List.range xs.size).filterMap (fun (m : Nat) => xs[(((xs.size : Int) - 1) + (m : Int) * (-1)).toNat]?) = (List.range xs.size).filterMap ((xs[·]?) ∘ fun k => xs.size - 1 - k) := filterMap_same e
  rw [e2, ← List.filterMap_map, PySem.W.krv_range, List.filterMap_reverse, PySem.W.krv_all]
theorem sliceApplied_rev {sl : Addr} {vl vu vs : Value} {n : Nat} {Q : Int × Int × Nat → Shared → Prop} (hs : s.heap.IsSliceOf sl vl vu vs) (pl : IsPart vl none) (pu : IsPart vu none) (ps : IsPart vs (some (-1)))
    (h : Q ((n : Int) - 1, -1, n) s) : wpAny (model prog w) A (Builtin.Slice.sliceApplied (.ref sl) (pure (n : Int))) Q E s := by
  obtain ⟨os, hos, hcs, hds⟩ := id hs
  unfold Builtin.Slice.sliceApplied Builtin.Slice.sliceFields
  refine wpAny_bind (wpAny_bind (wpAny_field hos hds (x := vl) rfl (wpAny_bind (wpAny_field hos hds (x := vu) rfl (wpAny_bind (wpAny_field hos hds (x := vs) rfl (wpAny_pure ?_)))))))
  refine wpAny_bind (slicePart_ ps ?_)
  show wpAny _ _ (if ((-1 : Int) == 0) = true then _ else _) _ _ s
  rw [if_neg (by decide)]
  refine wpAny_bind (slicePart_ pl (wpAny_bind (slicePart_ pu (wpAny_bind (wpAny_pure ?_)))))
  show wpAny _ _ (match Builtin.Slice.sliceAdjust none none (-1) (n : Int) with | (lo, hi) => pure (lo, (-1 : Int), Builtin.Slice.slicePlaces lo hi (-1))) _ _ s
  have ea : Builtin.Slice.sliceAdjust none none (-1) (n : Int) = ((n : Int) - 1, -1) := by
    first | rfl | simp [Builtin.Slice.sliceAdjust]
  have ep : Builtin.Slice.slicePlaces ((n : Int) - 1) (-1) (-1) = n := by
    unfold Builtin.Slice.slicePlaces
    first
      | (simp; omega)
      | (split <;> simp <;> omega)
  rw [ea]
  show wpAny _ _ (pure ((n : Int) - 1, (-1 : Int), Builtin.Slice.slicePlaces ((n : Int) - 1) (-1) (-1))) _ _ s
  rw [ep]
  exact wpAny_pure h
theorem getItem_tuple_rev {t sl : Addr} {items : Array Value} {vl vu vs : Value} {Q : Value → Shared → Prop} (ht : IsTup s.heap t items) (hs : s.heap.IsSliceOf sl vl vu vs) (pl : IsPart vl none) (pu : IsPart vu none) (ps : IsPart vs (some (-1)))
    (h : Q (.ref s.heap.objs.size) { s with heap := s.heap.push { cls := .type "tuple", data := .seq items.toList.reverse.toArray } })
    (hsz : items.size ≤ sizeLine) : wpAny (model prog w) A (getItem (.ref t) (.ref sl)) Q E s := by
  have htake : sizeOk (.seq items.toList.reverse.toArray) := by
    show items.toList.reverse.toArray.size ≤ sizeLine
    rw [List.size_toArray, List.length_reverse, Array.length_toList]
    omega
  obtain ⟨os, hos, hcs, hds⟩ := id hs
  have hTs : s.TypeIs (.ref sl) "slice" := ⟨os, hos, hcs⟩
  unfold getItem
  try with_reducible refine wpAny_holding ?_
  first | refine wpAny_bind (wpAny_pure ?_) | skip
  refine wpAny_bind (wpAny_sequenceKey ht.typeIs (by decide) ?_)
  refine wpAny_bind (wpAny_callSpecial?_slot (name := Str.ofString "__getitem__") ht.typeIs PyProof.Rows.slot_tuple_getitem
    (wpAny_call_entry PyProof.Rows.slot_tuple_getitem ht.typeIs entry_tuple_getitem ?_ (args_tuple_getitem _ _)))
  show wpAny _ _ (Builtin.Tuple.tupleItemsOf (.ref t) >>= _) _ _ s
  refine wpAny_bind (tupleItemsOf_ ht ?_)
  refine wpAny_bind (wpAny_typeOf hTs ?_)
  rw [if_pos (by decide)]
  refine wpAny_bind (sliceApplied_rev hs pl pu ps ?_)
  have hno : ¬ ((((items.size : Int) - 1) == 0 && (-1 : Int) == 1 && items.size == items.size) = true) := by
    intro q
    rw [Bool.and_eq_true, Bool.and_eq_true] at q
    exact absurd q.1.2 (by decide)
  show wpAny _ _ (if ((((items.size : Int) - 1) == 0 && (-1 : Int) == 1 && items.size == items.size) = true) then _ else _) _ _ s
  rw [if_neg hno, pick_rev]
  first
    | exact wpAny_bind (m := Builtin.Tuple.tupleExact _) (wpAny_newObj_type (wpAny_pure ⟨_, rfl, wpAny_pure h⟩) htake)
    | exact wpAny_bind (m := Builtin.Tuple.tupleExact _) (wpAny_newObj_type (wpAny_bind (wpAny_pure (wpAny_pure ⟨_, rfl, wpAny_pure h⟩))) htake)
    | exact wpAny_bind (wpAny_bind (m := Builtin.Tuple.tupleExact _) (wpAny_newObj_type (wpAny_pure (wpAny_pure ⟨_, rfl, wpAny_pure h⟩)) htake))
    | exact wpAny_bind (wpAny_bind (m := Builtin.Tuple.tupleExact _) (wpAny_newObj_type (wpAny_pure ⟨_, rfl, wpAny_pure h⟩) htake))
end
end HT
namespace TT
open PyM (fromO)
open PySem PySem.Spec PyProof.Rows L2
/-! ### t[::-1] -/
def tRevT (K : PySem.W.Frag) (te : TE) : TE := fun σ H Q => te σ H fun x H1 => ∃ a xs, x = .ref a ∧ SqT K H1 a xs ∧ ∀ p, H1 p = none → Q (.ref p) (upd H1 p (.tup xs.reverse))
theorem pe_revT {X : Cx} {e : Expr} {te : TE} {k : Nat} {p1 p2 p3 pos : Pos} (he : PE X e te) : PE X (.Subscript e (.Slice none none (some (.UnaryOp .USub (.Constant (.int 1) k p1) p2)) p3) pos) (tRevT X.K te) := by
  refine ⟨fun pins s σ H Q I h => ?_⟩
  refine Subscript_ (thn (he.run pins s σ H _ I h) fun v s1 ⟨x, H1, I1, r1, q1⟩ => ?_)
  obtain ⟨a, xs, ex, hx, q⟩ := q1
  subst ex
  cases r1
  have hst : PO X (some (.UnaryOp .USub (.Constant (.int 1) k p1) p2)) (tPart (tUn (rU fun i => .int (-i)) (tC (.int 1)))) := po_some (pe_un un_neg pe_int)
  refine wpAny_Slice (thn (po_none.run pins s1 σ H1 (fun o H2 => o = none ∧ H2 = H1) I1 ⟨rfl, rfl⟩) fun vl s2 ⟨l, H2, I2, pl, el, e2⟩ => ?_)
  subst el e2
  refine thn (po_none.run pins s2 σ H2 (fun o H3 => o = none ∧ H3 = H2) I2 ⟨rfl, rfl⟩) fun vu s3 ⟨u, H3, I3, pu, eu, e3⟩ => ?_
  subst eu e3
  refine thn (hst.run pins s3 σ H3 (fun o H4 => o = some (-1) ∧ H4 = H3) I3 ⟨1, rfl, -1, rfl, rfl, rfl⟩) fun vs s4 ⟨o, H4, I4, ps, eo, e4⟩ => ?_
  subst eo e4
  have I5 : L2.Inv X pins σ H4 { s4 with heap := s4.heap.push { cls := .type "slice", data := .fields #[vl, vu, vs] } } := I4.kept (t' := s4.toks) fun b ob q => Heap.get?_push_of_some _ q
  obtain ⟨its, r, ht, hz⟩ := I5.tuple hx
  have hlen := r.length
  show wpAny (model X.prog X.w) X.A (subscriptTail e (.Slice none none (some (.UnaryOp .USub (.Constant (.int 1) k p1) p2)) p3) (.ref a) (.ref s4.heap.objs.size)) (EP X pins σ Q) X.xe { s4 with heap := s4.heap.push { cls := .type "slice", data := .fields #[vl, vu, vs] } }
  refine tail_any (ops := [.ref a, .ref s4.heap.objs.size]) ht.typeIs (PyProof.Rows.slot_tuple_getitem.lookup) ?_ (by with_unfolding_all rfl)
  refine HT.getItem_tuple_rev ht (Heap.IsSliceOf.new _ vl vu vs) pl pu ps ?_ (by rw [List.size_toArray]; omega)
  refine ⟨.ref _, _, I5.laid (t' := s4.toks) (o := .tup xs.reverse) (fun b ob q => Heap.get?_push_of_some _ q) (Nat.le_refl _) ?_, rfl, q _ (I5.hok.fresh (Nat.le_refl _))⟩
  exact ⟨by rw [List.length_reverse]; exact hz, _, r.reverse, IsTup.new _ _⟩
section
variable {X : Cx} {m : Type → Type} [Monad m] [PyM m] {C : Wd X.K X.w m} {W : WX} {H0 : Hp} {R : Slots} {α β : Type} {ea : α → PyData} {eb : β → PyData} {a b : Expr} {ma mb : m α} {mxs : m (List α)} {pos : Pos}
theorem se_revT {k0 : Nat} {p1 p2 p3 : Pos} (ha : SB X C W H0 R a (eTup ea) mxs) : SE X C W H0 R (.Subscript a (.Slice none none (some (.UnaryOp .USub (.Constant (.int 1) k0 p1) p2)) p3) pos) (eTup ea) (mxs >>= fun xs => pure xs.reverse) :=
  .weak (pe_revT ha.run) fun σ H Q q => tR_one kF_ok q fun x H1 xs k1 q1 => by
    obtain ⟨_, q⟩ := tR_pure q1
    obtain ⟨s, vs, rfl, h1, h2⟩ := kB_tup k1
    refine ⟨s, vs, rfl, h1, fun p hp => q _ _ (Same.new hp) ?_⟩
    refine .tup (.inl (.inl upd_same)) ?_
    rw [List.map_reverse]
    exact Reps.firm (fun b o h _ => Same.new hp b o h) h2.reverse

/-! ### == of things of one kind -/
structure EqOk {α : Type} [DecidableEq α] (n : Nat) (ea : α → PyData) : Prop where
  eqv : ∀ a b, PyData.eqv (ea a) (ea b) = decide (a = b)
  plain : ∀ a, (ea a).plain = true
  depth : ∀ a, (ea a).depth ≤ n
theorem eq_int : EqOk 0 eInt where
  eqv a b := by show (a == b) = _; cases h : decide (a = b) <;> simp_all
  plain _ := by simp [PyData.plain]
  depth _ := by simp [PyData.depth]
theorem eq_bool : EqOk 0 eBool where
  eqv a b := by cases a <;> cases b <;> rfl
  plain _ := by simp [PyData.plain]
  depth _ := by simp [PyData.depth]
theorem eq_str : EqOk 0 eStr where
  eqv a b := by show (a == b) = _; cases h : decide (a = b) <;> simp_all
  plain _ := by simp [PyData.plain]
  depth _ := by simp [PyData.depth]
theorem eq_non : EqOk 0 eNon where
  eqv a b := by cases a; cases b; rfl
  plain _ := by simp [PyData.plain, eNon]
  depth _ := by simp [PyData.depth, eNon]
theorem eq_opt {n : Nat} [DecidableEq α] (h : EqOk n ea) (hn : ∀ a, isNon (ea a) = false) : EqOk n (eOpt ea) where
  eqv a b := by
    have hz : ∀ a, ea a ≠ .none := fun a z => by have := hn a; rw [z] at this; cases this
    have l : ∀ d : PyData, d ≠ .none → PyData.eqv .none d = false ∧ PyData.eqv d .none = false := by
      intro d hd
      cases d <;> first | exact absurd rfl hd | exact ⟨by simp [PyData.eqv], by simp [PyData.eqv]⟩
    cases a with
    | none =>
      cases b with
      | none => simp [eOpt, PyData.eqv]
      | some b => simpa [eOpt] using (l _ (hz b)).1
    | some a =>
      cases b with
      | none => simpa [eOpt] using (l _ (hz a)).2
      | some b => simpa [eOpt] using h.eqv a b
  plain a := by cases a; simp [eOpt, PyData.plain]; exact h.plain _
  depth a := by cases a; simp [eOpt, PyData.depth]; exact h.depth _
theorem eqvAll_map [DecidableEq α] {n : Nat} (h : EqOk n ea) : ∀ xs ys : List α, PyData.eqvAll (xs.map ea) (ys.map ea) = decide (xs = ys)
  | [], [] => by simp [PyData.eqvAll]
  | [], _ :: _ => by simp [PyData.eqvAll]
  | _ :: _, [] => by simp [PyData.eqvAll]
  | x :: xs, y :: ys => by simp [PyData.eqvAll, h.eqv, eqvAll_map h xs ys]
theorem plainAll_map' [DecidableEq α] {n : Nat} (h : EqOk n ea) : ∀ xs : List α, PyData.plainAll (xs.map ea) = true
  | [] => by simp [PyData.plainAll]
  | x :: xs => by simp [PyData.plainAll, h.plain, plainAll_map' h xs]
theorem depthAll_map [DecidableEq α] {n : Nat} (h : EqOk n ea) : ∀ xs : List α, PyData.depthAll (xs.map ea) ≤ n
  | [] => by simp [PyData.depthAll]
  | x :: xs => by
    show max _ _ ≤ n
    exact Nat.max_le.mpr ⟨h.depth x, depthAll_map h xs⟩
theorem eq_tup {n : Nat} [DecidableEq α] (h : EqOk n ea) : EqOk (n + 1) (eTup ea) where
  eqv a b := by simp [eTup, PyData.eqv, eqvAll_map h]
  plain a := by simp [eTup, PyData.plain, plainAll_map' h]
  depth a := by simp [eTup, PyData.depth]; exact depthAll_map h a
theorem eq_lst {n : Nat} [DecidableEq α] (h : EqOk n ea) : EqOk (n + 1) (eLst ea) where
  eqv a b := by simp [eLst, PyData.eqv, eqvAll_map h]
  plain a := by simp [eLst, PyData.plain, plainAll_map' h]
  depth a := by simp [eLst, PyData.depth]; exact depthAll_map h a
theorem eq_t1 {n : Nat} [DecidableEq α] (h : EqOk n ea) : EqOk (n + 1) (eT1 ea) where
  eqv a b := by simp [eT1, PyData.eqv, PyData.eqvAll, h.eqv]
  plain a := by simp [eT1, PyData.plain, PyData.plainAll, h.plain]
  depth a := by simp [eT1, PyData.depth, PyData.depthAll, h.depth]
theorem eq_t2 {n k : Nat} [DecidableEq α] [DecidableEq β] (h : EqOk n ea) (h' : EqOk k eb) : EqOk (max n k + 1) (eT2 ea eb) where
  eqv a b := by obtain ⟨a1, a2⟩ := a; obtain ⟨b1, b2⟩ := b; simp [eT2, PyData.eqv, PyData.eqvAll, h.eqv, h'.eqv]
  plain a := by simp [eT2, PyData.plain, PyData.plainAll, h.plain, h'.plain]
  depth a := by have := h.depth a.1; have := h'.depth a.2; simp [eT2, PyData.depth, PyData.depthAll]; omega
variable {γ δ ε : Type} {ec : γ → PyData} {ed : δ → PyData} {ee : ε → PyData}
theorem eq_t3 {n k l : Nat} [DecidableEq α] [DecidableEq β] [DecidableEq γ] (h : EqOk n ea) (h' : EqOk k eb) (h3 : EqOk l ec) : EqOk (max n (max k l) + 1) (eT3 ea eb ec) where
  eqv a b := by obtain ⟨a1, a2, a3⟩ := a; obtain ⟨b1, b2, b3⟩ := b; simp [eT3, PyData.eqv, PyData.eqvAll, h.eqv, h'.eqv, h3.eqv]
  plain a := by simp [eT3, PyData.plain, PyData.plainAll, h.plain, h'.plain, h3.plain]
  depth a := by have := h.depth a.1; have := h'.depth a.2.1; have := h3.depth a.2.2; simp [eT3, PyData.depth, PyData.depthAll]; omega
theorem eq_t4 {n k l o : Nat} [DecidableEq α] [DecidableEq β] [DecidableEq γ] [DecidableEq δ] (h : EqOk n ea) (h' : EqOk k eb) (h3 : EqOk l ec) (h4 : EqOk o ed) : EqOk (max n (max k (max l o)) + 1) (eT4 ea eb ec ed) where
  eqv a b := by obtain ⟨a1, a2, a3, a4⟩ := a; obtain ⟨b1, b2, b3, b4⟩ := b; simp [eT4, PyData.eqv, PyData.eqvAll, h.eqv, h'.eqv, h3.eqv, h4.eqv]
  plain a := by simp [eT4, PyData.plain, PyData.plainAll, h.plain, h'.plain, h3.plain, h4.plain]
  depth a := by have := h.depth a.1; have := h'.depth a.2.1; have := h3.depth a.2.2.1; have := h4.depth a.2.2.2; simp [eT4, PyData.depth, PyData.depthAll]; omega
theorem eqG_of [DecidableEq α] {n : Nat} (h : EqOk n ea) (hn : n < 60) (x y : α) : eqG (ea x) (ea y) = some (decide (x = y)) := by
  unfold eqG
  rw [if_pos ⟨h.plain x, h.plain y, Nat.lt_of_le_of_lt (Nat.min_le_left _ _) (Nat.lt_of_le_of_lt (h.depth x) hn)⟩, h.eqv]
theorem fromO_some {γ : Type} (x : γ) (s : PyM.S m) : PyM.run (fromO (some x) : m γ) s = PyM.run (pure x) s := by rw [PyM.run_fromO, PyM.run_pure]; rfl
theorem SC.alike {op : CmpOp} {mm mm' : m Bool} (h : SC X C W H0 R op a b mm) (q : Alike mm' mm) : SC X C W H0 R op a b mm' :=
  ⟨⟨fun pins s σ H Q I q' => h.run.run pins s σ H Q I (by obtain ⟨s', c, q'⟩ := q'; exact ⟨s', c, by rw [← q s']; exact q'⟩)⟩⟩
theorem sc_eqT [DecidableEq α] {n : Nat} (h : EqOk n ea) (hn : n < 60) (hu : X.A.units + 64 < cLine) (ha : SB X C W H0 R a ea ma) (hb : SB X C W H0 R b ea mb) : SC X C W H0 R .Eq a b (ma >>= fun i => mb >>= fun j => pure (decide (i = j))) :=
  (sc_eq hu ha hb).alike (alike_bind fun i => alike_bind fun j s => by rw [eqG_of h hn, fromO_some])
theorem sc_neT [DecidableEq α] {n : Nat} (h : EqOk n ea) (hn : n < 60) (hu : X.A.units + 64 < cLine) (ha : SB X C W H0 R a ea ma) (hb : SB X C W H0 R b ea mb) : SC X C W H0 R .NotEq a b (ma >>= fun i => mb >>= fun j => pure (!decide (i = j))) :=
  (sc_ne hu ha hb).alike (alike_bind fun i => alike_bind fun j s => by rw [eqG_of h hn]; exact (fromO_some (m := m) _ s).symm)
end
end TT

namespace TT
open PyM (fromO)
open PySem PySem.Spec PyProof.Rows L2
theorem ltR {i : Nat} {R : Slots} (n : Nat) (h : R.length = n) (h2 : Nat.ble (i + 1) n = true) : i < R.length := h ▸ Nat.le_of_ble_eq_true h2
def absI (i : Int) : Int := if i < 0 then -i else i
def intB (b : Bool) : Int := if b = true then 1 else 0
def minI (i j : Int) : Int := if j < i then j else i
def maxI (i j : Int) : Int := if j > i then j else i
def lenSG (z : Str) : Option Int := if z.length ≤ 16777216 then some (z.length : Int) else none
def catSG (z y : Str) : Option Str := if z.length + y.length ≤ 16777216 then some (z ++ y) else none
section
variable {X : Cx} {m : Type → Type} [Monad m] [PyM m] {C : Wd X.K X.w m} {W : WX} {H0 : Hp} {R : Slots} {P : Pk} {α β γ : Type} {ea : α → PyData} {eb : β → PyData} {e a b tg : Expr} {es : List Expr} {ma mb : m α} {mc mc' : m Bool} {mxs mxs' : m (List α)} {pos : Pos} {k : Kd} {ifs : List Expr}
theorem ST.eq (h : ST X C W H0 R e mc) (q : mc' = mc) : ST X C W H0 R e mc' := q ▸ h
theorem SIf.eq (h : SIf X C W H0 R ifs mc) (q : mc' = mc) : SIf X C W H0 R ifs mc' := q ▸ h
theorem SC.eq {op : CmpOp} (h : SC X C W H0 R op a b mc) (q : mc' = mc) : SC X C W H0 R op a b mc' := q ▸ h
theorem SI.eq (h : SI X C W H0 R P tg e ea mxs) (q : mxs' = mxs) : SI X C W H0 R P tg e ea mxs' := q ▸ h
theorem SA.eq {eg : γ → List PyData} {mg mg' : m γ} (h : SA X C W H0 R es eg mg) (q : mg' = mg) : SA X C W H0 R es eg mg' := q ▸ h
theorem SM.eq {eg : γ → List Slot} {mg mg' : m γ} (h : SM X C W H0 R es eg mg) (q : mg' = mg) : SM X C W H0 R es eg mg' := q ▸ h
/-- a value that is not None -/
theorem SX.get {mo : m (Option α)} (h : SE X C W H0 R e (eOpt ea) mo) : SE X C W H0 R e ea (mo >>= fun o => fromO o) :=
  ⟨h.run.weak fun σ H Q q => tR_imp (tR_bind (k := kF X.K X.w C.mt) (ea := eOpt ea) kF_ok q) fun v H1 ⟨o, ex, kv, q⟩ => by
    obtain ⟨x, rfl, _, q⟩ := tR_done q
    exact q v H1 (Same.refl _) kv⟩
end
section
variable {X : Cx} {m : Type → Type} [Monad m] [PyM m] {C : Wd X.K X.w m} {W : WX} {H0 : Hp} {R : Slots} {a b : Expr} {mi mj : m Int} {mc : m Bool} {mz my : m Str} {pos p : Pos}
theorem se_absI (hg : Gl X "abs") (hm : X.mg "abs" = none) (ha : SB X C W H0 R a eInt mi) (hs : starEach (a :: []) X.env = (false, eval a X.env) :: starEach [] X.env := by rfl) : SE X C W H0 R (.Call (.Name "abs" p) [a] [] pos) eInt (mi >>= fun i => pure (absI i)) := se_abs hg hm ha hs
theorem se_intI (hg : Gl X "int") (hm : X.mg "int" = none) (ha : SB X C W H0 R a eBool mc) (hs : starEach (a :: []) X.env = (false, eval a X.env) :: starEach [] X.env := by rfl) : SE X C W H0 R (.Call (.Name "int" p) [a] [] pos) eInt (mc >>= fun i => pure (intB i)) := se_intB hg hm ha hs
theorem se_minI (hk : X.calm = true) (hg : Gl X "min") (hm : X.mg "min" = none) (ha : SB X C W H0 R a eInt mi) (hb : SB X C W H0 R b eInt mj)
    (hs : starEach (a :: [b]) X.env = (false, eval a X.env) :: starEach [b] X.env := by rfl) (hs2 : starEach (b :: []) X.env = (false, eval b X.env) :: starEach [] X.env := by rfl) (hpl : (backTo pos (starEach [b] X.env)).any (·.1) = false := by rfl) :
    SE X C W H0 R (.Call (.Name "min" p) [a, b] [] pos) eInt (mi >>= fun i => mj >>= fun j => pure (minI i j)) := se_min2 hk hg hm ha hb hs hs2 hpl
theorem se_maxI (hk : X.calm = true) (hg : Gl X "max") (hm : X.mg "max" = none) (ha : SB X C W H0 R a eInt mi) (hb : SB X C W H0 R b eInt mj)
    (hs : starEach (a :: [b]) X.env = (false, eval a X.env) :: starEach [b] X.env := by rfl) (hs2 : starEach (b :: []) X.env = (false, eval b X.env) :: starEach [] X.env := by rfl) (hpl : (backTo pos (starEach [b] X.env)).any (·.1) = false := by rfl) :
    SE X C W H0 R (.Call (.Name "max" p) [a, b] [] pos) eInt (mi >>= fun i => mj >>= fun j => pure (maxI i j)) := se_max2 hk hg hm ha hb hs hs2 hpl
theorem se_lenG (hg : Gl X "len") (hm : X.mg "len" = none) (ha : SB X C W H0 R a eStr mz) (hs : starEach (a :: []) X.env = (false, eval a X.env) :: starEach [] X.env := by rfl) : SE X C W H0 R (.Call (.Name "len" p) [a] [] pos) eInt (mz >>= fun z => fromO (lenSG z)) := se_lenS hg hm ha hs
theorem se_catG (ha : SB X C W H0 R a eStr mz) (hb : SB X C W H0 R b eStr my) : SE X C W H0 R (.BinOp a .Add b pos) eStr (mz >>= fun z => my >>= fun y => fromO (catSG z y)) := se_catS ha hb
end
end TT

namespace TT
open PyM (fromO)
open PySem PySem.Spec PyProof.Rows L2
/-! ### no promise -/
section
variable {X : Cx} {m : Type → Type} [Monad m] [PyM m] {C : Wd X.K X.w m} {W : WX} {H0 : Hp} {R : Slots} {α β γ ρ ε δ : Type} {ea : α → PyData} {eb : β → PyData} {er : ρ → PyData} {Rb : ε → Slots} {Rn : δ → Slots} {k : Kd}
variable {e a b : Expr} {rest sts : List Stmt} {pos p p2 pos' : Pos} {md : m PyData} {mi : m Int}
theorem alike_never {f : α → m β} : Alike (fromO none >>= f) (fromO none : m β) := fun s => by rw [PyM.run_bind, PyM.run_fromO, PyM.run_fromO]; rfl
theorem SX.never : SX X C W H0 R k e ea (fromO none) := ⟨⟨fun pins s σ H Q I q => by
  obtain ⟨s', c, q⟩ := q
  rw [PyM.run_fromO] at q
  exact q.elim⟩⟩
theorem SL.never : SL X C W H0 R sts er Rb Rn (fromO none) := ⟨⟨fun pins s σ H D I q => by
  obtain ⟨s', c, q⟩ := q
  rw [PyM.run_fromO] at q
  exact q.elim⟩⟩
theorem sf_never : SF X C W H0 R sts er (fromO none) := SL.never.alike alike_never
theorem sp_never : SP X C W H0 R sts Rn (fromO none) := SL.never.alike alike_never

/-! ### isinstance -/
def rIsD (mt : Addr → Prop) (X : Cx) (T : String) (f : PyData → Bool) : List V → Hp → VK → Prop := fun xs H Q => ∃ x d, xs = [x, .ty T] ∧ kB X.K X.w mt H H x d ∧ Q (.bl (f d)) H
structure IsT (T : String) (f : PyData → Bool) : Prop where
  run : ∀ {prog : Program} {w : World} {A : Around} {E : Value → Shared → Prop} {s : Shared} {v : Value} {d : PyData} {as : List Addr} {Q : Value → Shared → Prop}, Reads s.heap v d as → (∀ tk, s.toks ≤ tk → Q (.bool (f d)) { s with toks := tk }) → wpAny (model prog w) A (call (.builtin "isinstance") [v, .type T]) Q E s
theorem is_bool : IsT "bool" PyData.isBool := ⟨fun r h => PySem.W.isinstance_bool_data r h⟩
theorem is_int : IsT "int" PyData.isInt := ⟨fun r h => PySem.W.isinstance_int_data r h⟩
theorem is_str : IsT "str" PyData.isStr := ⟨fun r h => PySem.W.isinstance_str_data r h⟩
theorem is_list : IsT "list" PyData.isList := ⟨fun r h => PySem.W.isinstance_list_data r h⟩
theorem is_tuple : IsT "tuple" PyData.isTuple := ⟨fun r h => PySem.W.isinstance_tuple_data r h⟩
theorem is_dict : IsT "dict" PyData.isDict := ⟨fun r h => PySem.W.isinstance_dict_data r h⟩
theorem call_isD {mt : Addr → Prop} {T : String} {f : PyData → Bool} (ht : IsT T f) : CallR X (.builtin "isinstance") (rIsD mt X T f) := by
  intro pins s σ H xs us Q I r h
  obtain ⟨x, d, rfl, kv, q⟩ := h
  cases r with
  | cons r1 r2 =>
    cases r2 with
    | cons r2 r3 =>
      cases r3
      obtain ⟨as, ra⟩ := Inv.readsB I kv r1
      cases r2
      exact ht.run ra fun tk _ => ⟨.bl (f d), H, I.tok tk, rfl, q⟩
theorem se_isD {T : String} {y : Str} {f : PyData → Bool} (ht : IsT T f) (hg : Gl X "isinstance") (hm : X.mg "isinstance" = none) (hgT : Gl X y) (hmT : X.mg y = none) (hvT : bootBuiltins y = some (.type T)) (hn : y ≠ "__name__") (hd : (y == ("__debug__" : Str)) = false)
    (ha : SB X C W H0 R a eAny md) (hs : starEach (a :: [.Name y p2]) X.env = (false, eval a X.env) :: starEach [.Name y p2] X.env := by rfl) (hs2 : starEach (.Name y p2 :: []) X.env = (false, eval (.Name y p2) X.env) :: starEach [] X.env := by rfl) (hpl : (backTo pos (starEach [.Name y p2] X.env)).any (·.1) = false := by rfl) :
    SE X C W H0 R (.Call (.Name "isinstance" p) [a, .Name y p2] [] pos) eBool (md >>= fun d => pure (f d)) :=
  .weak (pe_callB (call_isD (mt := C.mt) ht) hg hm PyProof.Rows.boot_isinstance (pa_cons ha.run (pa_cons (pe_bltn hgT hmT hvT (v := .ty T) rfl hn hd) pa_nil hs2) hs) (by decide) (by decide) hs hpl) fun σ H Q q => tR_one kF_ok q fun x H1 d k1 q1 => by
    exact ⟨x, d, rfl, k1, (tR_pure q1).2 _ H1 (.refl H1) (.bl _)⟩

/-! ### parts of any data -/
def lenA : PyData → Option Int
  | .tuple xs => some xs.length
  | .list xs => some xs.length
  | _ => none
def ixA (d : PyData) (i : Int) : Option PyData := match d with
  | .tuple xs => L2.atI xs i
  | .list xs => L2.atI xs i
  | _ => none
theorem se_lenA (hg : Gl X "len") (hm : X.mg "len" = none) (ha : SB X C W H0 R a eAny md) (hs : starEach (a :: []) X.env = (false, eval a X.env) :: starEach [] X.env := by rfl) : SE X C W H0 R (.Call (.Name "len" p) [a] [] pos) eInt (md >>= fun d => fromO (lenA d)) :=
  sx_callB kF_ok call_len hg hm PySem.boot_len (by decide) (by decide) ha (fun v σ H Q d kv _ q => by
    obtain ⟨n, e, _, q⟩ := tR_done q
    cases d with
    | tuple xs =>
      obtain ⟨t, vs, rfl, h1, h2⟩ := kB_tup (show kB X.K X.w C.mt H H v (.tuple xs) from kv)
      refine ⟨_, vs.length, rfl, .inr ⟨vs, h1, rfl⟩, ?_⟩
      rw [h2.length]
      cases e
      exact q _ H (.refl H) (.int _)
    | list xs =>
      obtain ⟨t, vs, rfl, h1, h2⟩ := kB_lst (show kB X.K X.w C.mt H H v (.list xs) from kv)
      refine ⟨_, vs.length, rfl, .inl ⟨vs, h1, rfl⟩, ?_⟩
      rw [h2.length]
      cases e
      exact q _ H (.refl H) (.int _)
    | none => cases e
    | bool _ => cases e
    | int _ => cases e
    | str _ => cases e
    | dict _ => cases e) hs
theorem se_ixA (ha : SB X C W H0 R a eAny md) (hb : SB X C W H0 R b eInt mi) (hs : PlainIx b) : SE X C W H0 R (.Subscript a b pos) eAny (md >>= fun d => mi >>= fun i => fromO (ixA d i)) :=
  sx_ix kF_ok (ix_tup.or ix_list) ha hb hs fun x y σ H Q d i k1 k2 q0 => by
    obtain ⟨c, e, _, q⟩ := tR_done q0
    clear q0
    cases d with
    | tuple xs =>
      obtain ⟨p, vs, rfl, h1, h2⟩ := kB_tup (show kB X.K X.w C.mt H H x (.tuple xs) from k1)
      obtain ⟨v, e1, r⟩ := h2.atI (i := i) (d := c) e
      exact .inl ⟨p, vs, i, v, rfl, kB_int k2, h1, e1, q v H (.refl H) r⟩
    | list xs =>
      obtain ⟨p, vs, rfl, h1, h2⟩ := kB_lst (show kB X.K X.w C.mt H H x (.list xs) from k1)
      obtain ⟨v, e1, r⟩ := h2.atI (i := i) (d := c) e
      exact .inr ⟨p, vs, i, v, rfl, kB_int k2, h1, e1, q v H (.refl H) r⟩
    | none => cases e
    | bool _ => cases e
    | int _ => cases e
    | str _ => cases e
    | dict _ => cases e

/-! ### lists of one's own: extend, pop -/
variable {f : List α → m (Out ρ ε δ)} {mys : m (List α)}
theorem sl_extend {i : Nat} {x : Str} {xs : List α} {p1 p2 p3 : Pos} (hN : X.N[i]? = some x) (hv : Vis X.env.scope x) (hd : (x == ("__debug__" : Str)) = false) (hcd : (x == ("__classdict__" : Str)) = false)
    (hR : R[i]? = some (some (.own (xs.map ea)))) (ha : SO X C W H0 R a (eLst ea) mys) (hr : ∀ ys : List α, SL X C W H0 (R.set i (some (.own (ys.map ea)))) rest er Rb Rn (f ys))
    (hbase : attributeBase (.Name x p1) "extend" X.env (eval (.Name x p1) X.env) = eval (.Name x p1) X.env)
    (hfew : ((backTo p3 (starEach (a :: []) X.env)).all (fun x => !x.1) && (backToKw p3 (keywordEach [] X.env)).all (fun x => x.1.isSome) && decide ((a :: ([] : List Expr)).length + ([] : List Keyword).length + (if ([] : List Keyword).isEmpty then 0 else 1) < 30)) = true)
    (hline : (p2.endLine == p3.line) = true) (hs : starEach (a :: []) X.env = (false, eval a X.env) :: starEach [] X.env) (hsw : swapsWith (.Call (.Attribute (.Name x p1) "extend" p2) [a] [] p3) none pos.line X.env = pure false) :
    SL X C W H0 R (.Expr (.Call (.Attribute (.Name x p1) "extend" p2) [a] [] p3) pos :: rest) er Rb Rn (mys >>= fun ys => fromO (catG xs ys) >>= f) :=
  ⟨(pss_cons (ps_expr (pe_bm PySem.F.plainAttrs_list PySem.F.slot_list_extend PySem.F.type_list_extend mt_extend (pe_var hN hv hd hcd) (pa_cons ha.run pa_nil hs) hbase hfew hline hs) hsw)
      (u := fun D σ H => ∃ ys : List α, tS C W H0 (R.set i (some (.own (ys.map ea)))) er Rb Rn (f ys) D σ H) ⟨fun pins s σ H D I ⟨g, q⟩ => (hr g).run.run pins s σ H D I q⟩).weak fun D σ H q => by
    obtain ⟨s0, c0, _⟩ := id q
    obtain ⟨v, hv', l, vs, rfl, hl, hrs, h0, hm⟩ := c0.slot i _ hR
    refine ⟨.ref l, hv', .inl ⟨rfl, vs, .of hl⟩, ?_⟩
    refine tS_bind (k := kO X.K X.w C.mt) (ea := eLst ea) q fun ys u H' kv e _ ⟨s, c, q⟩ => ?_
    obtain ⟨b, ws, ds, rfl, h2, h3, h4, h5⟩ := kv
    have h2 : PyData.list (ys.map ea) = .list ds := h2
    injection h2 with h2
    subst h2
    rw [PyM.run_bind, PyM.run_fromO] at q
    unfold catG at q
    have hl' := e l _ hl (.inl hm)
    have len : vs.length = xs.length := by rw [hrs.length, List.length_map]
    have len2 : ws.length = ys.length := by rw [h4.length, List.length_map]
    split at q
    · rename_i g
      refine ⟨l, b, vs, ws, rfl, rfl, hl', h3, by rw [sizeLine_eq, len, len2]; exact g, xs ++ ys, s, c.updO hR hv' hl' ?_, AfterS.mono (firms_upd' hl' (fun z => z)) q⟩
      rw [List.map_append]
      exact (Reps.firm e.firms hrs).append h4
    · exact q.elim⟩
theorem reps_dropLast {K : PySem.W.Frag} {w : World} {H : Hp} : ∀ {vs : List V} {ds : List PyData}, Reps K w H vs ds → Reps K w H vs.dropLast ds.dropLast
  | _, _, .nil => .nil
  | _, _, .cons r .nil => .nil
  | _, _, .cons r (.cons r' t) => .cons r (reps_dropLast (.cons r' t))
/-- the last thing of a list -/
def lastG (xs : List α) : Option α := xs[xs.length - 1]?
/-- tg = x.pop() -/
theorem sl_popU {i : Nat} {x : Str} {xs : List α} {tg : Expr} {g : TG} {is : List Nat} {dts : α → List PyData} {fk : α → m (Out ρ ε δ)} {p1 p2 p3 : Pos} (hg : PG X tg g) (hgo : GOk X.K X.w g ea is dts) (hl : ∀ k ∈ is, k < R.length)
    (hN : X.N[i]? = some x) (hv : Vis X.env.scope x) (hd : (x == ("__debug__" : Str)) = false) (hcd : (x == ("__classdict__" : Str)) = false) (hR : R[i]? = some (some (.own (xs.map ea))))
    (hbase : attributeBase (.Name x p1) "pop" X.env (eval (.Name x p1) X.env) = eval (.Name x p1) X.env)
    (hline : (p2.endLine == p3.line) = true)
    (hr : ∀ y : α, SL X C W H0 (setR (R.set i (some (.own (xs.dropLast.map ea)))) is (dts y)) rest er Rb Rn (fk y))
    (hs : swapsWithSole [tg] (.Call (.Attribute (.Name x p1) "pop" p2) [] [] p3) pos.line X.env = pure false) (hw : swappedStores [tg] (.Call (.Attribute (.Name x p1) "pop" p2) [] [] p3) X.env = pure none) (h1 : (assignEach [tg] X.env).map (·.2) = [assign tg X.env]) :
    SL X C W H0 R (.Assign [tg] (.Call (.Attribute (.Name x p1) "pop" p2) [] [] p3) pos :: rest) er Rb Rn (fromO (lastG xs) >>= fk) :=
  ⟨(pss_cons (ps_asg (pe_bm0 PySem.F.plainAttrs_list PySem.F.slot_list_pop PySem.F.type_list_pop mt_pop (pe_var hN hv hd hcd) hbase hline) hg hs hw h1)
      (u := fun D σ H => ∃ y : α, tS C W H0 (setR (R.set i (some (.own (xs.dropLast.map ea)))) is (dts y)) er Rb Rn (fk y) D σ H) ⟨fun pins s σ H D I ⟨g, q⟩ => (hr g).run.run pins s σ H D I q⟩).weak fun D σ H q => by
    obtain ⟨s0, c0, q⟩ := q
    obtain ⟨v, hv', l, vs, rfl, hl', hrs, h0, hm⟩ := c0.slot i _ hR
    rw [PyM.run_bind, PyM.run_fromO] at q
    cases z : lastG xs with
    | none => rw [z] at q; exact q.elim
    | some y =>
      rw [z] at q
      have len : vs.length = xs.length := by rw [hrs.length, List.length_map]
      obtain ⟨u, hu, ru⟩ := hrs.get (i := vs.length - 1) (d := ea y) (by rw [List.getElem?_map, len]; unfold lastG at z; rw [z]; rfl)
      have fm : Firms H (upd H l (.lst vs.dropLast)) := firms_upd' hl' (fun z => z)
      have c1 := c0.updO (ws := vs.dropLast) (es := (xs.dropLast.map ea)) hR hv' hl' (by rw [List.map_dropLast]; exact reps_dropLast hrs)
      refine ⟨.ref l, hv', .inl ⟨rfl, vs, .of hl'⟩, l, vs, u, rfl, rfl, hl', hu, ?_⟩
      exact hgo.run y u σ _ _ (Rep.firm fm ru) fun ws rs => ⟨y, s0, c1.setAll (fun j hj => by rw [List.length_set]; exact hl j hj) rs, AfterS.mono fm q⟩⟩
end
end TT

namespace TT
open PyM (fromO)
open PySem PySem.Spec PyProof.Rows L2
section
variable {X : Cx} {m : Type → Type} [Monad m] [PyM m] {C : Wd X.K X.w m} {W : WX} {H0 : Hp} {R : Slots} {α β γ ρ ε δ : Type} {ea : α → PyData} {eb : β → PyData} {er : ρ → PyData} {Rb : ε → Slots} {Rn : δ → Slots} {k : Kd}
variable {e a b : Expr} {rest sts : List Stmt} {pos p p2 pos' : Pos} {mm : m α} {mi mj : m Int}
/-- the same data of another type, where it is of that type -/
theorem SX.mapO (h : SE X C W H0 R e ea mm) (f : α → Option β) (q : ∀ a b, f a = some b → eb b = ea a) : SE X C W H0 R e eb (mm >>= fun a => fromO (f a)) :=
  ⟨h.run.weak fun σ H Q q0 => tR_imp (tR_bind (k := kF X.K X.w C.mt) (ea := ea) kF_ok q0) fun v H1 ⟨o, ex, kv, q1⟩ => by
    obtain ⟨x, hx, _, q1⟩ := tR_done q1
    refine q1 v H1 (Same.refl _) ?_
    show Rep X.K X.w H1 v (eb x)
    rw [q _ _ hx]
    exact kv⟩
def to1 : List α → Option α
  | [a] => some a
  | _ => none
def to2 : List α → Option (α × α)
  | [a, b] => some (a, b)
  | _ => none
def to3 : List α → Option (α × α × α)
  | [a, b, c] => some (a, b, c)
  | _ => none
def to4 : List α → Option (α × α × α × α)
  | [a, b, c, d] => some (a, b, c, d)
  | _ => none
def to5 : List α → Option (α × α × α × α × α)
  | [a, b, c, d, e] => some (a, b, c, d, e)
  | _ => none
theorem to1_ok (xs : List α) (p : α) (h : to1 xs = some p) : eT1 ea p = eTup ea xs := by
  unfold to1 at h
  split at h <;> simp_all <;> subst h <;> rfl
theorem to2_ok (xs : List α) (p : α × α) (h : to2 xs = some p) : eT2 ea ea p = eTup ea xs := by
  unfold to2 at h
  split at h <;> simp_all <;> subst h <;> rfl
theorem to3_ok (xs : List α) (p : α × α × α) (h : to3 xs = some p) : eT3 ea ea ea p = eTup ea xs := by
  unfold to3 at h
  split at h <;> simp_all <;> subst h <;> rfl
theorem to4_ok (xs : List α) (p : α × α × α × α) (h : to4 xs = some p) : eT4 ea ea ea ea p = eTup ea xs := by
  unfold to4 at h
  split at h <;> simp_all <;> subst h <;> rfl
theorem to5_ok (xs : List α) (p : α × α × α × α × α) (h : to5 xs = some p) : eT5 ea ea ea ea ea p = eTup ea xs := by
  unfold to5 at h
  split at h <;> simp_all <;> subst h <;> rfl
/-! any data, of a type -/
def deInt : PyData → Option Int
  | .int i => some i
  | _ => none
def deBool : PyData → Option Bool
  | .bool i => some i
  | _ => none
def deStr : PyData → Option Str
  | .str i => some i
  | _ => none
def deTupA : PyData → Option (List PyData)
  | .tuple xs => some xs
  | _ => none
def deLstA : PyData → Option (List PyData)
  | .list xs => some xs
  | _ => none
theorem deInt_ok (d : PyData) (i : Int) (h : deInt d = some i) : eInt i = eAny d := by cases d <;> simp_all [deInt]
theorem deBool_ok (d : PyData) (i : Bool) (h : deBool d = some i) : eBool i = eAny d := by cases d <;> simp_all [deBool]
theorem deStr_ok (d : PyData) (i : Str) (h : deStr d = some i) : eStr i = eAny d := by cases d <;> simp_all [deStr]
theorem deTupA_ok (d : PyData) (i : List PyData) (h : deTupA d = some i) : eTup eAny i = eAny d := by cases d <;> simp_all [deTupA, eTup, eAny]
theorem deLstA_ok (d : PyData) (i : List PyData) (h : deLstA d = some i) : eLst eAny i = eAny d := by cases d <;> simp_all [deLstA, eLst, eAny]
/-! list(range(..)), tuple(range(..)) -/
theorem rgV_eq (a b : Int) : rgV a b = (rangeL a (b - a).toNat).map V.int := by
  unfold rgV
  apply List.ext_getElem?
  intro i
  rw [List.getElem?_map, List.getElem?_map]
  rcases Nat.lt_or_ge i (b - a).toNat with h | h
  · rw [List.getElem?_range h, rangeL_get _ _ _ h]; rfl
  · rw [List.getElem?_eq_none (by simpa using h), List.getElem?_eq_none (by rw [rangeL_len]; exact h)]; rfl
theorem reps_rg {K : PySem.W.Frag} {w : World} {H : Hp} (a b : Int) : Reps K w H (rgV a b) ((rangeL a (b - a).toNat).map eInt) := by
  rw [rgV_eq]
  generalize rangeL a (b - a).toNat = ns
  induction ns with
  | nil => exact .nil
  | cons n ns ih => exact .cons (.int n) ih
theorem rgOk {a b : Int} {xs : List Int} (h : rangeG a b = some xs) : RgOk a b ∧ xs = rangeL a (b - a).toNat := by
  obtain ⟨g, e⟩ := rangeG_some h
  exact ⟨⟨by omega, by omega, by omega, by omega, by omega⟩, e⟩
theorem so_listR2 {p3 pos3 : Pos} (hc : X.calm = true) (hg : Gl X "list") (hm : X.mg "list" = none) (hgr : Gl X "range") (hmr : X.mg "range" = none) (ha : SB X C W H0 R a eInt mi) (hb : SB X C W H0 R b eInt mj) (na : starEach [a, b] X.env = (false, eval a X.env) :: starEach [b] X.env := by rfl) (nb : starEach [b] X.env = (false, eval b X.env) :: starEach [] X.env := by rfl) (hp : (backTo pos3 (starEach [b] X.env)).any (·.1) = false := by rfl)
    (nr : starEach [.Call (.Name "range" p3) [a, b] [] pos3] X.env = (false, eval (.Call (.Name "range" p3) [a, b] [] pos3) X.env) :: starEach [] X.env := by rfl) :
    SO X C W H0 R (.Call (.Name "list" p) [.Call (.Name "range" p3) [a, b] [] pos3] [] pos) (eLst eInt) (mi >>= fun i => mj >>= fun j => fromO (rangeG i j)) :=
  .weak (pe_listRg hc hg hm (prg_2 hgr hmr ha.run hb.run na nb hp) nr) fun σ H Q q => tR_two (tb := fun _ _ _ => True) (r := fun x y H2 => ∃ i j, x = .int i ∧ y = .int j ∧ RgOk i j ∧ ∀ q, H2 q = none → Q (.ref q) (upd H2 q (.lst (rgV i j)))) kO_ok q fun x y H2 i j k1 k2 q2 => by
    obtain ⟨xs, e, _, q⟩ := tR_done q2
    obtain ⟨ok, rfl⟩ := rgOk e
    exact ⟨i, j, kB_int k1, kB_int k2, ok, fun p hp => q _ _ (Same.new hp) ⟨p, _, _, rfl, rfl, upd_same, reps_rg i j, hp⟩⟩
theorem so_listR1 {p3 pos3 : Pos} (hc : X.calm = true) (hg : Gl X "list") (hm : X.mg "list" = none) (hgr : Gl X "range") (hmr : X.mg "range" = none) (ha : SB X C W H0 R a eInt mi) (na : starEach [a] X.env = (false, eval a X.env) :: starEach [] X.env := by rfl)
    (nr : starEach [.Call (.Name "range" p3) [a] [] pos3] X.env = (false, eval (.Call (.Name "range" p3) [a] [] pos3) X.env) :: starEach [] X.env := by rfl) :
    SO X C W H0 R (.Call (.Name "list" p) [.Call (.Name "range" p3) [a] [] pos3] [] pos) (eLst eInt) (mi >>= fun i => fromO (rangeG 0 i)) :=
  .weak (pe_listRg hc hg hm (prg_1 hgr hmr ha.run na) nr) fun σ H Q q => tR_one kO_ok q fun x H2 i k1 q2 => by
    obtain ⟨xs, e, _, q⟩ := tR_done q2
    obtain ⟨ok, rfl⟩ := rgOk e
    exact ⟨i, kB_int k1, ok, fun p hp => q _ _ (Same.new hp) ⟨p, _, _, rfl, rfl, upd_same, reps_rg 0 i, hp⟩⟩
theorem se_tupR2 {p3 pos3 : Pos} (hc : X.calm = true) (hg : Gl X "tuple") (hm : X.mg "tuple" = none) (hgr : Gl X "range") (hmr : X.mg "range" = none) (ha : SB X C W H0 R a eInt mi) (hb : SB X C W H0 R b eInt mj) (na : starEach [a, b] X.env = (false, eval a X.env) :: starEach [b] X.env := by rfl) (nb : starEach [b] X.env = (false, eval b X.env) :: starEach [] X.env := by rfl) (hp : (backTo pos3 (starEach [b] X.env)).any (·.1) = false := by rfl)
    (nr : starEach [.Call (.Name "range" p3) [a, b] [] pos3] X.env = (false, eval (.Call (.Name "range" p3) [a, b] [] pos3) X.env) :: starEach [] X.env := by rfl) :
    SE X C W H0 R (.Call (.Name "tuple" p) [.Call (.Name "range" p3) [a, b] [] pos3] [] pos) (eTup eInt) (mi >>= fun i => mj >>= fun j => fromO (rangeG i j)) :=
  .weak (pe_tupRg hc hg hm (prg_2 hgr hmr ha.run hb.run na nb hp) nr) fun σ H Q q => tR_two (tb := fun _ _ _ => True) (r := fun x y H2 => ∃ i j, x = .int i ∧ y = .int j ∧ RgOk i j ∧ ∀ q, H2 q = none → Q (.ref q) (upd H2 q (.tup (rgV i j)))) kF_ok q fun x y H2 i j k1 k2 q2 => by
    obtain ⟨xs, e, _, q⟩ := tR_done q2
    obtain ⟨ok, rfl⟩ := rgOk e
    exact ⟨i, j, kB_int k1, kB_int k2, ok, fun p hp => q _ _ (Same.new hp) (.tup (.inl (.inl upd_same)) (reps_rg i j))⟩
theorem se_tupR1 {p3 pos3 : Pos} (hc : X.calm = true) (hg : Gl X "tuple") (hm : X.mg "tuple" = none) (hgr : Gl X "range") (hmr : X.mg "range" = none) (ha : SB X C W H0 R a eInt mi) (na : starEach [a] X.env = (false, eval a X.env) :: starEach [] X.env := by rfl)
    (nr : starEach [.Call (.Name "range" p3) [a] [] pos3] X.env = (false, eval (.Call (.Name "range" p3) [a] [] pos3) X.env) :: starEach [] X.env := by rfl) :
    SE X C W H0 R (.Call (.Name "tuple" p) [.Call (.Name "range" p3) [a] [] pos3] [] pos) (eTup eInt) (mi >>= fun i => fromO (rangeG 0 i)) :=
  .weak (pe_tupRg hc hg hm (prg_1 hgr hmr ha.run na) nr) fun σ H Q q => tR_one kF_ok q fun x H2 i k1 q2 => by
    obtain ⟨xs, e, _, q⟩ := tR_done q2
    obtain ⟨ok, rfl⟩ := rgOk e
    exact ⟨i, kB_int k1, ok, fun p hp => q _ _ (Same.new hp) (.tup (.inl (.inl upd_same)) (reps_rg 0 i))⟩
end
end TT

namespace TT
open PyM (fromO)
open PySem PySem.Spec PyProof.Rows L2
section
variable {X : Cx} {m : Type → Type} [Monad m] [PyM m] {C : Wd X.K X.w m} {W : WX} {H0 : Hp} {R : Slots} {α β γ : Type} {ea : α → PyData} {a b : Expr} {mc md : m Bool} {mi : m Int}
theorem op_isB : OpR X (compareOp .Is) (fun x y H Q => ∃ b c, x = .bl b ∧ y = .bl c ∧ Q (.bl (decide (b = c))) H) := by
  intro pins s σ H x y v u Q I rx ry h
  obtain ⟨m, n, rfl, rfl, q⟩ := h
  cases (show v = Value.bool m from rx)
  cases (show u = Value.bool n from ry)
  by_cases e : m = n
  · subst e
    exact wpAny_is_self rfl ⟨.bl true, H, I, rfl, by simpa using q⟩
  · exact wpAny_is_other rfl (fun z => e (Value.bool.inj z)) ⟨.bl false, H, I, rfl, by simpa [e] using q⟩
theorem sc_isB (ha : SB X C W H0 R a eBool mc) (hb : SB X C W H0 R b eBool md) : SC X C W H0 R .Is a b (mc >>= fun i => md >>= fun j => pure (decide (i = j))) :=
  sc_cmp op_isB ha hb fun x y σ H Q i j k1 k2 q => ⟨i, j, kB_bool k1, kB_bool k2, (tR_pure q).2 _ H (.refl H) (.bl _)⟩
/-- arms that end as the block does -/
theorem sl_ifE {ρ ε δ : Type} {er : ρ → PyData} {Rb : ε → Slots} {Rn : δ → Slots} {c : Expr} {a b : List Stmt} {pos : Pos} {mc : m Bool} {ma mb : m (Out ρ ε δ)} (hc : ST X C W H0 R c mc) (ha : SL X C W H0 R a er Rb Rn ma) (hb : SL X C W H0 R b er Rb Rn mb) :
    SL X C W H0 R [.If c a b pos] er Rb Rn (mc >>= fun t => if t = true then ma else mb) :=
  (sl_ifG hc ha hb (k := fun d => pure (.nx d)) fun d => sl_nil d (SubS.refl _)).alike (alike_bind fun t => by
    have z : ∀ x : m (Out ρ ε δ), Alike x (x >>= Out.thn fun d => pure (.nx d)) := fun x s => by
      rw [PyM.run_bind]
      cases PyM.run x s with
      | none => rfl
      | some p =>
        obtain ⟨r, s'⟩ := p
        cases r with
        | error e => rfl
        | ok o =>
          show _ = PyM.run (Out.thn (fun d => pure (.nx d)) o) s'
          cases o with
          | nx d => exact (PyM.run_pure _ _).symm
          | rt d => exact (PyM.run_pure _ _).symm
          | bk d => exact (PyM.run_pure _ _).symm
          | ct d => exact (PyM.run_pure _ _).symm
    cases t with
    | true => exact z ma
    | false => exact z mb)
end
end TT

namespace TT
open PyM (fromO)
open PySem PySem.Spec PyProof.Rows L2
/-! ### targets within targets -/
theorem setσ_app : ∀ {is js : List Nat} {us ws : List V} {σ : L2.St}, us.length = is.length → setσ σ (is ++ js) (us ++ ws) = setσ (setσ σ is us) js ws
  | [], _, [], _, σ, _ => by simp [setσ]
  | [], _, _ :: _, _, _, h => by simp at h
  | _ :: _, _, [], _, _, h => by simp at h
  | i :: is, js, u :: us, ws, σ, h => setσ_app (is := is) (us := us) (σ := σ.set i (some u)) (by simpa using h)
structure GsOk (K : PySem.W.Frag) (w : World) (gs : TGs) {α : Type} (des : α → List PyData) (is : List Nat) (dts : α → List PyData) : Prop where
  run : ∀ a vs σ H Q, Reps K w H vs (des a) → (∀ us, Reps K w H us (dts a) → Q (setσ σ is us) H) → gs vs σ H Q
section
variable {K : PySem.W.Frag} {w : World} {α β : Type} {ea : α → PyData} {g : TG} {gs : TGs} {is js : List Nat} {dts dtss des : α → List PyData}
theorem GOk.on (h : GOk K w g ea is dts) (f : β → α) : GOk K w g (fun b => ea (f b)) is (fun b => dts (f b)) := ⟨fun b v σ H Q r q => h.run (f b) v σ H Q r q⟩
theorem gs_nil : GsOk K w gNil (fun _ : α => []) [] (fun _ => []) := ⟨fun a vs σ H Q r q => by
  cases r
  exact ⟨rfl, by simpa [setσ] using q [] .nil⟩⟩
theorem gs_cons (h : GOk K w g ea is dts) (hl : ∀ a, (dts a).length = is.length) (t : GsOk K w gs des js dtss) : GsOk K w (gCons g gs) (fun a => ea a :: des a) (is ++ js) (fun a => dts a ++ dtss a) := ⟨fun a vs σ H Q r q => by
  cases r with
  | cons r rs =>
    refine ⟨_, _, rfl, h.run a _ σ H _ r fun us ru => t.run a _ _ H Q rs fun ws rw' => ?_⟩
    rw [← setσ_app (by rw [ru.length, hl])]
    exact q _ (ru.append rw')⟩
theorem g_tupN {n : Nat} (h : GsOk K w gs des is dts) (e : ∀ a, ea a = .tuple (des a)) (hl : ∀ a, (des a).length = n) : GOk K w (gTup K n gs) ea is dts := ⟨fun a v σ H Q r q => by
  rw [e] at r
  cases r with
  | tup h' r => exact ⟨_, _, rfl, h', by rw [r.length, hl], h.run a _ σ H Q r q⟩⟩
end
section
variable {X : Cx} {m : Type → Type} [Monad m] [PyM m] {C : Wd X.K X.w m} {W : WX} {H0 : Hp} {R : Slots}
theorem sa_nil : SA X C W H0 R [] (fun _ : Unit => []) (pure ()) := ⟨pa_nil.weak fun σ H Q ⟨s, c, q⟩ => by
  rw [PyM.run_pure] at q
  exact q [] H .refl c.rel .nil⟩
end
/-! ### the same, what they make said by name (Lean hands the expected type down only then) -/
section
variable {X : Cx} {m : Type → Type} [Monad m] [PyM m] {C : Wd X.K X.w m} {W : WX} {H0 : Hp} {R : Slots} {k : Kd} {α β γ : Type} {ea : α → PyData} {eb : β → PyData} {ec : γ → PyData} {e a b : Expr} {ma mm : m α} {pos : Pos}
theorem SX.mapI {f : α → β} (h : SX X C W H0 R k e ea mm) (kk : KdOk k) (q : ∀ a, eb (f a) = ea a) : SX X C W H0 R k e eb (mm >>= fun a => pure (f a)) := SX.map h kk f q
theorem SX.mapOI {f : α → Option β} (h : SE X C W H0 R e ea mm) (q : ∀ a b, f a = some b → eb b = ea a) : SE X C W H0 R e eb (mm >>= fun a => fromO (f a)) := SX.mapO h f q
theorem se_ixCI {i : Int} {f : α → γ} (ha : SB X C W H0 R a ea ma) (hb : SB X C W H0 R b eInt (pure i)) (hs : PlainIx b) (h : ∀ p, ∃ ds, ea p = .tuple ds ∧ L2.atI ds i = some (ec (f p))) :
    SE X C W H0 R (.Subscript a b pos) ec (ma >>= fun p => pure (f p)) := se_ixC ha hb hs f h
end
/-! ### a list is taken apart -/
def eL2 {α : Type} (e : α → PyData) : α × α → PyData := fun p => .list [e p.1, e p.2]
def eL3 {α : Type} (e : α → PyData) : α × α × α → PyData := fun p => .list [e p.1, e p.2.1, e p.2.2]
def eL4 {α : Type} (e : α → PyData) : α × α × α × α → PyData := fun p => .list [e p.1, e p.2.1, e p.2.2.1, e p.2.2.2]
def eL5 {α : Type} (e : α → PyData) : α × α × α × α × α → PyData := fun p => .list [e p.1, e p.2.1, e p.2.2.1, e p.2.2.2.1, e p.2.2.2.2]
section
variable {α : Type} {ea : α → PyData}
theorem toL2_ok (xs : List α) (p : α × α) (h : to2 xs = some p) : eL2 ea p = eLst ea xs := by
  unfold to2 at h
  split at h <;> simp_all <;> subst h <;> rfl
theorem toL3_ok (xs : List α) (p : α × α × α) (h : to3 xs = some p) : eL3 ea p = eLst ea xs := by
  unfold to3 at h
  split at h <;> simp_all <;> subst h <;> rfl
theorem toL4_ok (xs : List α) (p : α × α × α × α) (h : to4 xs = some p) : eL4 ea p = eLst ea xs := by
  unfold to4 at h
  split at h <;> simp_all <;> subst h <;> rfl
theorem toL5_ok (xs : List α) (p : α × α × α × α × α) (h : to5 xs = some p) : eL5 ea p = eLst ea xs := by
  unfold to5 at h
  split at h <;> simp_all <;> subst h <;> rfl
theorem g_lst {K : PySem.W.Frag} {w : World} {β : Type} {eb : β → PyData} {is : List Nat} {dts : β → List PyData} (h : ∀ a, eb a = .list (dts a)) (hl : ∀ a, (dts a).length = is.length) : GOk K w (gLst K is.length (gNames is)) eb is dts := ⟨fun a v σ H Q r q => by
  rw [h] at r
  cases r with
  | lst h r => exact ⟨_, _, rfl, h.sq, by rw [r.length, hl], gNames_ok (K := K) (w := w) (by rw [r.length, hl]) (q _ r)⟩⟩
end
/-! ### a module's constants -/
def GlobC (K : PySem.W.Frag) (mg : Str → Option Value) (x : Str) (d : PyData) : Prop := ∃ v u, mg x = some u ∧ RelV v u ∧ ∀ (w : World) (H : Hp), Rep K w H v d
section
variable {X : Cx} {m : Type → Type} [Monad m] [PyM m] {C : Wd X.K X.w m} {W : WX} {H0 : Hp} {R : Slots} {α : Type} {ea : α → PyData} {x : Str} {pos : Pos} {d : α}
theorem se_glob (hg : Gl X x) (hc : GlobC X.K X.mg x (ea d)) (hd : (x == ("__debug__" : Str)) = false) : SE X C W H0 R (.Name x pos) ea (pure d) := by
  obtain ⟨v, u, hm, r, rep⟩ := hc
  exact .weak (pe_glob hg hm r hd) fun σ H Q q => (tR_pure q).2 _ H (.refl H) (rep _ _)
end
section
variable {K : PySem.W.Frag} {h : Heap} {mg : Str → Option Value}
theorem glob_str {x z : Str} {t : Tok} (X : K.In h) (G : h.Ns mainGlobals mg) (a : PySem.W.nsIn K mainGlobals x = some (some (.str z t))) : GlobC K mg x (.str z) := ⟨.str z, _, PySem.W.mg_of X G a, ⟨t, rfl⟩, fun _ _ => .str z⟩
theorem glob_int {x : Str} {i : Int} {t : Tok} (X : K.In h) (G : h.Ns mainGlobals mg) (a : PySem.W.nsIn K mainGlobals x = some (some (.int i t))) : GlobC K mg x (.int i) := ⟨.int i, _, PySem.W.mg_of X G a, ⟨t, rfl⟩, fun _ _ => .int i⟩
theorem glob_tup {x : Str} {p : Addr} {dd : Option Addr} {its : List Value} {n : Nat} {sl : Array (Option Value)} {vs : List V} {ds : List PyData} (X : K.In h) (G : h.Ns mainGlobals mg) (a : PySem.W.nsIn K mainGlobals x = some (some (.ref p))) (l : K.lookup p = some ⟨.type "tuple", dd, .seq its.toArray n, sl⟩)
    (hz : its.length ≤ 1000) (hv : Vals vs its) (hr : ∀ (w : World) (H : Hp), Reps K w H vs ds) : GlobC K mg x (.tuple ds) :=
  ⟨.ref p, _, PySem.W.mg_of X G a, rfl, fun w H => .tup (.inr ⟨_, its.toArray, n, l, rfl, rfl, by rw [sizeLine_eq, List.size_toArray]; omega, hv⟩) (hr w H)⟩
end
end TT

namespace TT
open PyM (fromO)
open PySem PySem.Spec PyProof.Rows L2
open PySem.W (alike alikeAll dataLt)
/-! ### things of one kind, in order -/
structure Odr {α : Type} (n : Nat) (e : α → PyData) : Prop where
  alike : ∀ a b, alike (e a) (e b) = true
  depth : ∀ a, (e a).depth ≤ n
  nn : ∀ a, e a ≠ .none
section
variable {α β γ δ : Type} {ea : α → PyData} {eb : β → PyData} {ec : γ → PyData} {ed : δ → PyData} {n : Nat}
theorem odr_int : Odr n eInt := ⟨fun _ _ => rfl, fun _ => by simp [PyData.depth], fun _ => by simp⟩
theorem odr_str : Odr n eStr := ⟨fun _ _ => rfl, fun _ => by simp [PyData.depth], fun _ => by simp⟩
theorem odr_bool : Odr n eBool := ⟨fun _ _ => rfl, fun _ => by simp [PyData.depth], fun _ => by simp⟩
theorem alikeAll_map (h : Odr n ea) : ∀ xs ys : List α, alikeAll (xs.map ea) (ys.map ea) = true
  | [], _ => by simp [alikeAll]
  | _ :: _, [] => by simp [alikeAll]
  | x :: xs, y :: ys => by simp only [List.map_cons, alikeAll, h.alike, alikeAll_map h xs ys, Bool.and_self]
theorem depthAll_le (h : ∀ a, (ea a).depth ≤ n) : ∀ xs : List α, PyData.depthAll (xs.map ea) ≤ n
  | [] => by simp [PyData.depthAll]
  | x :: xs => by
    show max _ _ ≤ n
    exact Nat.max_le.mpr ⟨h x, depthAll_le h xs⟩
theorem odr_tup (h : Odr n ea) : Odr (n + 1) (eTup ea) where
  alike a b := by simp only [eTup, alike]; exact alikeAll_map h a b
  depth a := by simp only [eTup, PyData.depth]; have := depthAll_le h.depth a; omega
  nn a := by simp [eTup]
theorem odr_lst (h : Odr n ea) : Odr (n + 1) (eLst ea) where
  alike a b := by simp only [eLst, alike]; exact alikeAll_map h a b
  depth a := by simp only [eLst, PyData.depth]; have := depthAll_le h.depth a; omega
  nn a := by simp [eLst]
theorem odr_t1 (h : Odr n ea) : Odr (n + 1) (eT1 ea) where
  alike a b := by simp only [eT1, alike, alikeAll, h.alike, Bool.and_self]
  depth a := by have := h.depth a; simp [eT1, PyData.depth, PyData.depthAll]; omega
  nn a := by simp [eT1]
theorem odr_t2 (h : Odr n ea) (h' : Odr n eb) : Odr (n + 1) (eT2 ea eb) where
  alike a b := by simp only [eT2, alike, alikeAll, h.alike, h'.alike, Bool.and_self]
  depth a := by have := h.depth a.1; have := h'.depth a.2; simp [eT2, PyData.depth, PyData.depthAll]; omega
  nn a := by simp [eT2]
theorem odr_t3 (h : Odr n ea) (h' : Odr n eb) (h3 : Odr n ec) : Odr (n + 1) (eT3 ea eb ec) where
  alike a b := by simp only [eT3, alike, alikeAll, h.alike, h'.alike, h3.alike, Bool.and_self]
  depth a := by have := h.depth a.1; have := h'.depth a.2.1; have := h3.depth a.2.2; simp [eT3, PyData.depth, PyData.depthAll]; omega
  nn a := by simp [eT3]
theorem odr_t4 (h : Odr n ea) (h' : Odr n eb) (h3 : Odr n ec) (h4 : Odr n ed) : Odr (n + 1) (eT4 ea eb ec ed) where
  alike a b := by simp only [eT4, alike, alikeAll, h.alike, h'.alike, h3.alike, h4.alike, Bool.and_self]
  depth a := by have := h.depth a.1; have := h'.depth a.2.1; have := h3.depth a.2.2.1; have := h4.depth a.2.2.2; simp [eT4, PyData.depth, PyData.depthAll]; omega
  nn a := by simp [eT4]
/-- x < y -/
def ltD (e : α → PyData) (a b : α) : Bool := dataLt (e a) (e b)
def minG (e : α → PyData) : List α → Option α
  | [] => none
  | x :: xs => some (xs.foldl (fun m y => if ltD e y m = true then y else m) x)
def maxG (e : α → PyData) : List α → Option α
  | [] => none
  | x :: xs => some (xs.foldl (fun m y => if ltD e m y = true then y else m) x)
def leD (e : α → PyData) : α → α → Bool := PySem.W.dataLe false e
def sortG (e : α → PyData) (xs : List α) : List α := xs.mergeSort (leD e)
theorem minD_map (x : α) : ∀ xs : List α, PySem.W.minD (ea x) (xs.map ea) = ea (xs.foldl (fun m y => if ltD ea y m = true then y else m) x) := by
  intro xs
  unfold PySem.W.minD
  induction xs generalizing x with
  | nil => rfl
  | cons y ys ih =>
    rw [List.map_cons, List.foldl_cons, List.foldl_cons, ← ih]
    congr 1
    unfold ltD
    cases dataLt (ea y) (ea x) <;> rfl
theorem maxD_map (x : α) : ∀ xs : List α, PySem.W.maxD (ea x) (xs.map ea) = ea (xs.foldl (fun m y => if ltD ea m y = true then y else m) x) := by
  intro xs
  unfold PySem.W.maxD
  induction xs generalizing x with
  | nil => rfl
  | cons y ys ih =>
    rw [List.map_cons, List.foldl_cons, List.foldl_cons, ← ih]
    congr 1
    unfold ltD
    cases dataLt (ea x) (ea y) <;> rfl
theorem alike_all (h : Odr n ea) (xs : List α) : PySem.W.AlikeAll (xs.map ea) := by
  refine ⟨fun x hx y hy => ?_, fun x hx => ?_⟩
  · obtain ⟨a, _, rfl⟩ := List.mem_map.mp hx
    obtain ⟨b, _, rfl⟩ := List.mem_map.mp hy
    exact h.alike a b
  · obtain ⟨a, _, rfl⟩ := List.mem_map.mp hx
    exact h.nn a
end
/-! ### min, max, sorted, in: what they give -/
section
variable {X : Cx} {mt : Addr → Prop}
/-- an item of a list that reads as such -/
theorem rep_item {K : PySem.W.Frag} {w : World} {H : Hp} {vs : List V} {us : List Value} {ds : List PyData} (rv : Vals vs us) (rs : Reps K w H vs ds) : ∀ {i : Nat} {u : Value}, us[i]? = some u → ∃ v d, RelV v u ∧ Rep K w H v d := by
  intro i u hu
  induction rv generalizing i ds with
  | nil => simp at hu
  | cons r t ih =>
    cases rs with
    | cons r1 t1 =>
      cases i with
      | zero =>
        simp only [List.getElem?_cons_zero, Option.some.injEq] at hu
        subst hu
        exact ⟨_, _, r, r1⟩
      | succ i => exact ih t1 (by simpa using hu)
/-- min or max of a list, of a tuple -/
def rBest (mt : Addr → Prop) (X : Cx) {α : Type} (e : α → PyData) (f : List α → Option α) : List V → Hp → VK → Prop := fun vs H Q =>
  ∃ v xs r, vs = [v] ∧ (kB X.K X.w mt H H v (eLst e xs) ∨ kB X.K X.w mt H H v (eTup e xs)) ∧ f xs = some r ∧ ∀ u, Rep X.K X.w H u (e r) → Q u H
theorem reps_same {K : PySem.W.Frag} {w : World} {H : Hp} {v : V} {d : PyData} {X : Cx} {pins : List (Addr × Obj)} {σ : L2.St} {s s' : Shared} (I : L2.Inv X pins σ H s) {u : Value} (hr : RelV v u) (r : Rep X.K X.w H v d) {d' : PyData} {bs : List Addr}
    (hk : ∀ b o, s.heap.get? b = some o → s'.heap.get? b = some o) (q : Reads s'.heap u d' bs) : d = d' := by
  obtain ⟨as, ra⟩ := Inv.reads I r hr
  exact ((PyProof.Rows.Reads.keeps hk ra).unique _ _ q).1
theorem call_minD {α : Type} {n : Nat} {e : α → PyData} (h : Odr n e) (hn : n ≤ 60) (hc : X.calm = true) (hu : X.A.units + 64 < cLine) : CallR X (.builtin "min") (rBest mt X e (minG e)) := by
  intro pins s σ H vs us Q I r q
  obtain ⟨v, xs, m, rfl, kv, hm, q⟩ := q
  cases xs with
  | nil => cases hm
  | cons x xs =>
    have hm : some _ = some m := hm
    injection hm with hm
    have hd : PySem.W.minD (e x) (xs.map e) = e m := (minD_map x xs).trans (by rw [← hm])
    have du : X.A.units + 1 + PyData.depthAll ((x :: xs).map e) < cLine := by have := depthAll_le h.depth (x :: xs); omega
    rcases kv with kv | kv
    · obtain ⟨a, ws, rfl, h1, h2⟩ := kB_lst kv
      obtain ⟨its, rv, ⟨o, k, ho, hcl, hx, hdt⟩, _⟩ := I.list h1
      obtain ⟨as, ra⟩ := Inv.readsAll I h2 rv
      rw [Vals.ref1 r]
      refine PySem.W.min_list_data (vs := its.toArray) (I.ok.hd hc) ⟨o, ho, hcl, k, hdt⟩ (by simpa using ra) (alike_all h (x :: xs)) du fun i u h' tk bs hi rd hk => ?_
      obtain ⟨v, d, hrv, rp⟩ := rep_item rv h2 (i := i) (u := u) (by simpa using hi)
      have e1 := reps_same (K := X.K) (w := X.w) (s' := { s with heap := h', toks := tk }) I hrv rp hk rd
      rw [hd] at e1
      subst e1
      exact ⟨v, H, I.kept hk, hrv, q v rp⟩
    · obtain ⟨a, ws, rfl, h1, h2⟩ := kB_tup kv
      obtain ⟨its, rv, ⟨o, ho, hcl, k, hdt⟩, _⟩ := I.tuple h1
      obtain ⟨as, ra⟩ := Inv.readsAll I h2 rv
      rw [Vals.ref1 r]
      refine PySem.W.min_tuple_data (vs := its.toArray) (I.ok.hd hc) ⟨o, ho, hcl, k, hdt⟩ (by simpa using ra) (alike_all h (x :: xs)) du fun i u h' tk bs hi rd hk => ?_
      obtain ⟨v, d, hrv, rp⟩ := rep_item rv h2 (i := i) (u := u) (by simpa using hi)
      have e1 := reps_same (K := X.K) (w := X.w) (s' := { s with heap := h', toks := tk }) I hrv rp hk rd
      rw [hd] at e1
      subst e1
      exact ⟨v, H, I.kept hk, hrv, q v rp⟩
theorem call_maxD {α : Type} {n : Nat} {e : α → PyData} (h : Odr n e) (hn : n ≤ 60) (hc : X.calm = true) (hu : X.A.units + 64 < cLine) : CallR X (.builtin "max") (rBest mt X e (maxG e)) := by
  intro pins s σ H vs us Q I r q
  obtain ⟨v, xs, m, rfl, kv, hm, q⟩ := q
  cases xs with
  | nil => cases hm
  | cons x xs =>
    have hm : some _ = some m := hm
    injection hm with hm
    have hd : PySem.W.maxD (e x) (xs.map e) = e m := (maxD_map x xs).trans (by rw [← hm])
    have du : X.A.units + 1 + PyData.depthAll ((x :: xs).map e) < cLine := by have := depthAll_le h.depth (x :: xs); omega
    rcases kv with kv | kv
    · obtain ⟨a, ws, rfl, h1, h2⟩ := kB_lst kv
      obtain ⟨its, rv, ⟨o, k, ho, hcl, hx, hdt⟩, _⟩ := I.list h1
      obtain ⟨as, ra⟩ := Inv.readsAll I h2 rv
      rw [Vals.ref1 r]
      refine PySem.W.max_list_data (vs := its.toArray) (I.ok.hd hc) ⟨o, ho, hcl, k, hdt⟩ (by simpa using ra) (alike_all h (x :: xs)) du fun i u h' tk bs hi rd hk => ?_
      obtain ⟨v, d, hrv, rp⟩ := rep_item rv h2 (i := i) (u := u) (by simpa using hi)
      have e1 := reps_same (K := X.K) (w := X.w) (s' := { s with heap := h', toks := tk }) I hrv rp hk rd
      rw [hd] at e1
      subst e1
      exact ⟨v, H, I.kept hk, hrv, q v rp⟩
    · obtain ⟨a, ws, rfl, h1, h2⟩ := kB_tup kv
      obtain ⟨its, rv, ⟨o, ho, hcl, k, hdt⟩, _⟩ := I.tuple h1
      obtain ⟨as, ra⟩ := Inv.readsAll I h2 rv
      rw [Vals.ref1 r]
      refine PySem.W.max_tuple_data (vs := its.toArray) (I.ok.hd hc) ⟨o, ho, hcl, k, hdt⟩ (by simpa using ra) (alike_all h (x :: xs)) du fun i u h' tk bs hi rd hk => ?_
      obtain ⟨v, d, hrv, rp⟩ := rep_item rv h2 (i := i) (u := u) (by simpa using hi)
      have e1 := reps_same (K := X.K) (w := X.w) (s' := { s with heap := h', toks := tk }) I hrv rp hk rd
      rw [hd] at e1
      subst e1
      exact ⟨v, H, I.kept hk, hrv, q v rp⟩
end
section
variable {X : Cx} {m : Type → Type} [Monad m] [PyM m] {C : Wd X.K X.w m} {W : WX} {H0 : Hp} {R : Slots} {k : Kd} {α β γ : Type} {ea : α → PyData} {eb : β → PyData} {a b : Expr} {ma : m α} {mxs : m (List α)} {pos p : Pos} {n : Nat}
theorem se_minL (h : Odr n ea) (hn : n ≤ 60) (hk : X.calm = true) (hu : X.A.units + 64 < cLine) (hg : Gl X "min") (hm : X.mg "min" = none) (ha : SB X C W H0 R a (eLst ea) mxs) (hs : starEach (a :: []) X.env = (false, eval a X.env) :: starEach [] X.env := by rfl) : SE X C W H0 R (.Call (.Name "min" p) [a] [] pos) ea (mxs >>= fun xs => fromO (minG ea xs)) :=
  sx_callB kF_ok (call_minD (mt := C.mt) h hn hk hu) hg hm (by decide +kernel) (by decide) (by decide) ha (fun v σ H Q xs kv _ q => by
    obtain ⟨c, e, _, q⟩ := tR_done q
    exact ⟨v, xs, c, rfl, .inl kv, e, fun u ru => q u H (.refl H) ru⟩) hs
theorem se_minT (h : Odr n ea) (hn : n ≤ 60) (hk : X.calm = true) (hu : X.A.units + 64 < cLine) (hg : Gl X "min") (hm : X.mg "min" = none) (ha : SB X C W H0 R a (eTup ea) mxs) (hs : starEach (a :: []) X.env = (false, eval a X.env) :: starEach [] X.env := by rfl) : SE X C W H0 R (.Call (.Name "min" p) [a] [] pos) ea (mxs >>= fun xs => fromO (minG ea xs)) :=
  sx_callB kF_ok (call_minD (mt := C.mt) h hn hk hu) hg hm (by decide +kernel) (by decide) (by decide) ha (fun v σ H Q xs kv _ q => by
    obtain ⟨c, e, _, q⟩ := tR_done q
    exact ⟨v, xs, c, rfl, .inr kv, e, fun u ru => q u H (.refl H) ru⟩) hs
theorem se_maxL (h : Odr n ea) (hn : n ≤ 60) (hk : X.calm = true) (hu : X.A.units + 64 < cLine) (hg : Gl X "max") (hm : X.mg "max" = none) (ha : SB X C W H0 R a (eLst ea) mxs) (hs : starEach (a :: []) X.env = (false, eval a X.env) :: starEach [] X.env := by rfl) : SE X C W H0 R (.Call (.Name "max" p) [a] [] pos) ea (mxs >>= fun xs => fromO (maxG ea xs)) :=
  sx_callB kF_ok (call_maxD (mt := C.mt) h hn hk hu) hg hm (by decide +kernel) (by decide) (by decide) ha (fun v σ H Q xs kv _ q => by
    obtain ⟨c, e, _, q⟩ := tR_done q
    exact ⟨v, xs, c, rfl, .inl kv, e, fun u ru => q u H (.refl H) ru⟩) hs
theorem se_maxT (h : Odr n ea) (hn : n ≤ 60) (hk : X.calm = true) (hu : X.A.units + 64 < cLine) (hg : Gl X "max") (hm : X.mg "max" = none) (ha : SB X C W H0 R a (eTup ea) mxs) (hs : starEach (a :: []) X.env = (false, eval a X.env) :: starEach [] X.env := by rfl) : SE X C W H0 R (.Call (.Name "max" p) [a] [] pos) ea (mxs >>= fun xs => fromO (maxG ea xs)) :=
  sx_callB kF_ok (call_maxD (mt := C.mt) h hn hk hu) hg hm (by decide +kernel) (by decide) (by decide) ha (fun v σ H Q xs kv _ q => by
    obtain ⟨c, e, _, q⟩ := tR_done q
    exact ⟨v, xs, c, rfl, .inr kv, e, fun u ru => q u H (.refl H) ru⟩) hs
end
end TT

namespace TT
open PyM (fromO)
open PySem PySem.Spec PyProof.Rows L2
open PySem.W (alike alikeAll dataLt)
/-! ### sorted -/
section
variable {K : PySem.W.Frag} {w : World} {H : Hp} {α : Type} {e : α → PyData}
theorem each_of : ∀ {vs : List V} {us : List Value} {xs : List α}, Vals vs us → Reps K w H vs (xs.map e) → PySem.W.EachIs (fun u b => ∃ v, RelV v u ∧ Rep K w H v (e b)) us xs
  | [], [], [], .nil, _ => .nil
  | _ :: _, _ :: _, x :: xs, .cons r t, rs => by
    cases rs with
    | cons r1 t1 => exact .cons ⟨_, r, r1⟩ (each_of t t1)
  | [], [], _ :: _, .nil, rs => by cases rs
  | _ :: _, _ :: _, [], .cons r t, rs => by cases rs
theorem of_each : ∀ {us : List Value} {xs : List α}, PySem.W.EachIs (fun u b => ∃ v, RelV v u ∧ Rep K w H v (e b)) us xs → ∃ vs : List V, Vals vs us ∧ Reps K w H vs (xs.map e)
  | _, _, .nil => ⟨[], .nil, .nil⟩
  | _, _, .cons ⟨v, r, q⟩ t => by
    obtain ⟨vs, h1, h2⟩ := of_each t
    exact ⟨v :: vs, .cons r h1, .cons q h2⟩
end
def rSort {α : Type} (mt : Addr → Prop) (X : Cx) (e : α → PyData) : List V → Hp → VK → Prop := fun vs H Q =>
  ∃ v xs, vs = [v] ∧ kB X.K X.w mt H H v (eLst e xs) ∧ ∀ p ws, H p = none → Reps X.K X.w H ws ((sortG e xs).map e) → Q (.ref p) (upd H p (.lst ws))
/-- what may be sorted: rows with a first thing, or no rows -/
structure Srt {α : Type} (e : α → PyData) : Prop where
  run : ∀ xs : List α, PySem.W.Sortable (xs.map e)
section
variable {α β γ δ : Type} {ea : α → PyData} {eb : β → PyData} {ec : γ → PyData} {ed : δ → PyData}
theorem srt_int : Srt eInt := ⟨fun _ => PySem.W.Sortable.others fun _ => ⟨by simp, by simp⟩⟩
theorem srt_str : Srt eStr := ⟨fun _ => PySem.W.Sortable.others fun _ => ⟨by simp, by simp⟩⟩
theorem srt_t1 : Srt (eT1 ea) := ⟨fun _ => PySem.W.Sortable.tuples fun _ => ⟨_, _, rfl⟩⟩
theorem srt_t2 : Srt (eT2 ea eb) := ⟨fun _ => PySem.W.Sortable.tuples fun _ => ⟨_, _, rfl⟩⟩
theorem srt_t3 : Srt (eT3 ea eb ec) := ⟨fun _ => PySem.W.Sortable.tuples fun _ => ⟨_, _, rfl⟩⟩
theorem srt_t4 : Srt (eT4 ea eb ec ed) := ⟨fun _ => PySem.W.Sortable.tuples fun _ => ⟨_, _, rfl⟩⟩
end
theorem mergeSort_len {α : Type} {le : α → α → Bool} (xs : List α) : (xs.mergeSort le).length = xs.length := (List.mergeSort_perm xs le).length_eq
theorem call_sortD {X : Cx} {mt : Addr → Prop} {α : Type} {n : Nat} {e : α → PyData} (h : Odr n e) (hs : Srt e) (hn : n ≤ 60) (hu : X.A.units + 64 < cLine) : CallR X (.builtin "sorted") (rSort mt X e) := by
  intro pins s σ H vs us Q I r q
  obtain ⟨v, xs, rfl, kv, q⟩ := q
  obtain ⟨a, ws, rfl, h1, h2⟩ := kB_lst kv
  obtain ⟨its, rv, hl, hz⟩ := I.list h1
  rw [Vals.ref1 r]
  have hall : PySem.W.AllAlike (xs.map e) := PySem.W.AllAlike.of h.alike
  have len : xs.length = ws.length := by rw [h2.length, List.length_map]
  refine PySem.W.sorted_data (R := fun u b => ∃ v, RelV v u ∧ Rep X.K X.w H v (e b)) hl.isList (each_of rv h2) ((each_of rv h2).mono fun u b ⟨v, hv, hr⟩ => Inv.reads I hr hv) hall (hs.run xs) (by rw [len]; exact hz) (fun b _ => by have := h.depth b; omega) fun out ho he => ?_
  obtain ⟨vs, h3, h4⟩ := of_each he
  obtain ⟨ep, he'⟩ := PyProof.Rows.sortedAll_at s.heap its out.toArray
  have hlen : vs.length ≤ sizeLine := by rw [h3.length, ho, len]; exact hz
  have hf : H (s.heap.objs.size + 1) = none := I.hok.fresh (Nat.le_succ _)
  exact ⟨.ref _, upd H (s.heap.objs.size + 1) (.lst vs), I.laid (t' := s.toks) (fun _ _ => PyProof.Rows.sortedAll_old) (Nat.le_succ _) ⟨hlen, out, ep, h3, he'⟩, rfl, q _ vs hf h4⟩
section
variable {X : Cx} {m : Type → Type} [Monad m] [PyM m] {C : Wd X.K X.w m} {W : WX} {H0 : Hp} {R : Slots} {k : Kd} {α β γ : Type} {ea : α → PyData} {eb : β → PyData} {a b : Expr} {ma mb : m α} {mxs : m (List α)} {pos p : Pos} {n : Nat}
theorem so_sortL (h : Odr n ea) (hs : Srt ea) (hn : n ≤ 60) (hu : X.A.units + 64 < cLine) (hg : Gl X "sorted") (hm : X.mg "sorted" = none) (ha : SB X C W H0 R a (eLst ea) mxs) (hss : starEach (a :: []) X.env = (false, eval a X.env) :: starEach [] X.env := by rfl) : SO X C W H0 R (.Call (.Name "sorted" p) [a] [] pos) (eLst ea) (mxs >>= fun xs => pure (sortG ea xs)) :=
  sx_callB kO_ok (call_sortD (mt := C.mt) h hs hn hu) hg hm (by decide +kernel) (by decide) (by decide) ha (fun v σ H Q xs kv _ q => by
    obtain ⟨_, q⟩ := tR_pure q
    exact ⟨v, xs, rfl, kv, fun p ws hp rs => q _ _ (Same.new hp) ⟨p, ws, _, rfl, rfl, upd_same, Reps.firm (fun b o h _ => Same.new hp b o h) rs, hp⟩⟩) hss
/-! ### in, not in -/
theorem any_eqv [DecidableEq α] (h : EqOk n ea) (x : α) : ∀ xs : List α, ((xs.map ea).any fun y => PyData.eqv y (ea x)) = decide (x ∈ xs)
  | [] => by simp
  | y :: ys => by
    rw [List.map_cons, List.any_cons, any_eqv h x ys, h.eqv]
    by_cases z : y = x
    · simp [z]
    · have : ¬ x = y := fun e => z e.symm
      simp [z, this]
def rInD [DecidableEq α] (mt : Addr → Prop) (X : Cx) (e : α → PyData) (neg : Bool) : R2 := fun x y H Q => ∃ b xs, kB X.K X.w mt H H x (e b) ∧ (kB X.K X.w mt H H y (eLst e xs) ∨ kB X.K X.w mt H H y (eTup e xs)) ∧ Q (.bl (xor neg (decide (b ∈ xs)))) H
theorem op_inD [DecidableEq α] {mt : Addr → Prop} (h : EqOk n ea) (hn : n < 60) (hu : X.A.units + 64 < cLine) : OpR X (compareOp .In) (rInD mt X ea false) := by
  intro pins s σ H x y v u Q I rx ry ⟨b, xs, k1, k2, q⟩
  obtain ⟨as, ra⟩ := Inv.readsB I k1 rx
  have hd := h.depth b
  have hq : EP X pins σ Q (.bool ((xs.map ea).any fun y => PyData.eqv y (ea b))) s := fin_bl I q (by rw [any_eqv h]; simp)
  rcases k2 with k2 | k2
  · obtain ⟨bs, rb⟩ := Inv.readsB I k2 ry
    exact PySem.SeqAt.in_list_data rb ra (plainAll_map' h xs) (h.plain b) (by omega) hq
  · obtain ⟨bs, rb⟩ := Inv.readsB I k2 ry
    exact PySem.SeqAt.in_tuple_data rb ra (plainAll_map' h xs) (h.plain b) (by omega) hq
theorem op_notInD [DecidableEq α] {mt : Addr → Prop} (h : EqOk n ea) (hn : n < 60) (hu : X.A.units + 64 < cLine) : OpR X (compareOp .NotIn) (rInD mt X ea true) := by
  intro pins s σ H x y v u Q I rx ry ⟨b, xs, k1, k2, q⟩
  obtain ⟨as, ra⟩ := Inv.readsB I k1 rx
  have hd := h.depth b
  have hq : EP X pins σ Q (.bool (!(xs.map ea).any fun y => PyData.eqv y (ea b))) s := fin_bl I q (by rw [any_eqv h]; simp)
  rcases k2 with k2 | k2
  · obtain ⟨bs, rb⟩ := Inv.readsB I k2 ry
    exact PySem.SeqAt.notIn_list_data rb ra (plainAll_map' h xs) (h.plain b) (by omega) hq
  · obtain ⟨bs, rb⟩ := Inv.readsB I k2 ry
    exact PySem.SeqAt.notIn_tuple_data rb ra (plainAll_map' h xs) (h.plain b) (by omega) hq
theorem sc_inL [DecidableEq α] (h : EqOk n ea) (hn : n < 60) (hu : X.A.units + 64 < cLine) (ha : SB X C W H0 R a ea ma) (hb : SB X C W H0 R b (eLst ea) mxs) : SC X C W H0 R .In a b (ma >>= fun i => mxs >>= fun xs => pure (decide (i ∈ xs))) :=
  sc_cmp (op_inD (mt := C.mt) h hn hu) ha hb fun x y σ H Q i j k1 k2 q => ⟨i, j, k1, .inl k2, by simpa using (tR_pure q).2 _ H (.refl H) (.bl _)⟩
theorem sc_inT [DecidableEq α] (h : EqOk n ea) (hn : n < 60) (hu : X.A.units + 64 < cLine) (ha : SB X C W H0 R a ea ma) (hb : SB X C W H0 R b (eTup ea) mxs) : SC X C W H0 R .In a b (ma >>= fun i => mxs >>= fun xs => pure (decide (i ∈ xs))) :=
  sc_cmp (op_inD (mt := C.mt) h hn hu) ha hb fun x y σ H Q i j k1 k2 q => ⟨i, j, k1, .inr k2, by simpa using (tR_pure q).2 _ H (.refl H) (.bl _)⟩
theorem sc_niL [DecidableEq α] (h : EqOk n ea) (hn : n < 60) (hu : X.A.units + 64 < cLine) (ha : SB X C W H0 R a ea ma) (hb : SB X C W H0 R b (eLst ea) mxs) : SC X C W H0 R .NotIn a b (ma >>= fun i => mxs >>= fun xs => pure (!decide (i ∈ xs))) :=
  sc_cmp (op_notInD (mt := C.mt) h hn hu) ha hb fun x y σ H Q i j k1 k2 q => ⟨i, j, k1, .inl k2, by simpa using (tR_pure q).2 _ H (.refl H) (.bl _)⟩
theorem sc_niT [DecidableEq α] (h : EqOk n ea) (hn : n < 60) (hu : X.A.units + 64 < cLine) (ha : SB X C W H0 R a ea ma) (hb : SB X C W H0 R b (eTup ea) mxs) : SC X C W H0 R .NotIn a b (ma >>= fun i => mxs >>= fun xs => pure (!decide (i ∈ xs))) :=
  sc_cmp (op_notInD (mt := C.mt) h hn hu) ha hb fun x y σ H Q i j k1 k2 q => ⟨i, j, k1, .inr k2, by simpa using (tR_pure q).2 _ H (.refl H) (.bl _)⟩
/-! ### a substring -/
theorem sc_inS {ms mz : m Str} (ha : SB X C W H0 R a eStr ms) (hb : SB X C W H0 R b eStr mz) : SC X C W H0 R .In a b (ms >>= fun i => mz >>= fun j => pure (!(Builtin.Str.occurrences j i 0 j.length 1).isEmpty)) :=
  sc_cmp op_in_str ha hb fun x y σ H Q i j k1 k2 q => ⟨i, j, kB_str k1, kB_str k2, (tR_pure q).2 _ H (.refl H) (.bl _)⟩
/-! ### <, <=, >, >= of things of one kind -/
def rLtD {α : Type} (mt : Addr → Prop) (X : Cx) (e : α → PyData) (f : α → α → Bool) : R2 := fun x y H Q => ∃ i j, kB X.K X.w mt H H x (e i) ∧ kB X.K X.w mt H H y (e j) ∧ Q (.bl (f i j)) H
theorem op_ltD {mt : Addr → Prop} (h : Odr n ea) (hn : n ≤ 60) (hu : X.A.units + 64 < cLine) : OpR X (compareOp .Lt) (rLtD mt X ea (ltD ea)) := by
  intro pins s σ H x y v u Q I rx ry ⟨i, j, k1, k2, q⟩
  obtain ⟨as, ra⟩ := Inv.readsB I k1 rx
  obtain ⟨bs, rb⟩ := Inv.readsB I k2 ry
  have := h.depth i
  exact PySem.W.lt_data ra rb (h.alike i j) (h.nn i) (by omega) (fin_bl I q rfl)
theorem op_gtD {mt : Addr → Prop} (h : Odr n ea) (hn : n ≤ 60) (hu : X.A.units + 64 < cLine) : OpR X (compareOp .Gt) (rLtD mt X ea fun i j => ltD ea j i) := by
  intro pins s σ H x y v u Q I rx ry ⟨i, j, k1, k2, q⟩
  obtain ⟨as, ra⟩ := Inv.readsB I k1 rx
  obtain ⟨bs, rb⟩ := Inv.readsB I k2 ry
  have := h.depth i
  exact PySem.W.gt_data ra rb (h.alike i j) (h.nn i) (by omega) (fin_bl I q rfl)
theorem op_leD {mt : Addr → Prop} (h : Odr n ea) (hn : n ≤ 60) (hu : X.A.units + 64 < cLine) : OpR X (compareOp .LtE) (rLtD mt X ea fun i j => !ltD ea j i) := by
  intro pins s σ H x y v u Q I rx ry ⟨i, j, k1, k2, q⟩
  obtain ⟨as, ra⟩ := Inv.readsB I k1 rx
  obtain ⟨bs, rb⟩ := Inv.readsB I k2 ry
  have := h.depth i
  exact PySem.W.le_data ra rb (h.alike i j) (h.nn i) (by omega) (fin_bl I q rfl)
theorem op_geD {mt : Addr → Prop} (h : Odr n ea) (hn : n ≤ 60) (hu : X.A.units + 64 < cLine) : OpR X (compareOp .GtE) (rLtD mt X ea fun i j => !ltD ea i j) := by
  intro pins s σ H x y v u Q I rx ry ⟨i, j, k1, k2, q⟩
  obtain ⟨as, ra⟩ := Inv.readsB I k1 rx
  obtain ⟨bs, rb⟩ := Inv.readsB I k2 ry
  have := h.depth i
  exact PySem.W.ge_data ra rb (h.alike i j) (h.nn i) (by omega) (fin_bl I q rfl)
theorem sc_ltD (h : Odr n ea) (hn : n ≤ 60) (hu : X.A.units + 64 < cLine) (ha : SB X C W H0 R a ea ma) (hb : SB X C W H0 R b ea mb) : SC X C W H0 R .Lt a b (ma >>= fun i => mb >>= fun j => pure (ltD ea i j)) :=
  sc_cmp (op_ltD (mt := C.mt) h hn hu) ha hb fun x y σ H Q i j k1 k2 q => ⟨i, j, k1, k2, (tR_pure q).2 _ H (.refl H) (.bl _)⟩
theorem sc_gtD (h : Odr n ea) (hn : n ≤ 60) (hu : X.A.units + 64 < cLine) (ha : SB X C W H0 R a ea ma) (hb : SB X C W H0 R b ea mb) : SC X C W H0 R .Gt a b (ma >>= fun i => mb >>= fun j => pure (ltD ea j i)) :=
  sc_cmp (op_gtD (mt := C.mt) h hn hu) ha hb fun x y σ H Q i j k1 k2 q => ⟨i, j, k1, k2, (tR_pure q).2 _ H (.refl H) (.bl _)⟩
theorem sc_leD (h : Odr n ea) (hn : n ≤ 60) (hu : X.A.units + 64 < cLine) (ha : SB X C W H0 R a ea ma) (hb : SB X C W H0 R b ea mb) : SC X C W H0 R .LtE a b (ma >>= fun i => mb >>= fun j => pure (!ltD ea j i)) :=
  sc_cmp (op_leD (mt := C.mt) h hn hu) ha hb fun x y σ H Q i j k1 k2 q => ⟨i, j, k1, k2, (tR_pure q).2 _ H (.refl H) (.bl _)⟩
theorem sc_geD (h : Odr n ea) (hn : n ≤ 60) (hu : X.A.units + 64 < cLine) (ha : SB X C W H0 R a ea ma) (hb : SB X C W H0 R b ea mb) : SC X C W H0 R .GtE a b (ma >>= fun i => mb >>= fun j => pure (!ltD ea i j)) :=
  sc_cmp (op_geD (mt := C.mt) h hn hu) ha hb fun x y σ H Q i j k1 k2 q => ⟨i, j, k1, k2, (tR_pure q).2 _ H (.refl H) (.bl _)⟩
end
end TT

namespace TT
open PyM (fromO)
open PySem PySem.Spec PyProof.Rows L2
section
variable {X : Cx} {m : Type → Type} [Monad m] [PyM m] {C : Wd X.K X.w m} {W : WX} {H0 : Hp} {R : Slots} {P : Pk} {α β : Type} {ea : α → PyData} {eb : β → PyData}
variable {a b : Expr} {elts : List Expr} {pos p tpos : Pos} {kk : Nat} {mxs : m (List α)} {mys : m (List β)}
theorem wk_zipL {K : PySem.W.Frag} {w : World} {H : Hp} {a b : Addr} {vs us : List V} {xs : List α} {ys : List β} (l : LenOk K H) (h : FzL K H a vs) (h' : FzL K H b us) (r : Reps K w H vs (xs.map ea)) (r' : Reps K w H us (ys.map eb)) (fs : ∀ {H'}, P H H' → Firms H H') : Wk K w (P H) (Itz K a b) ((xs.zip ys).map (eT2 ea eb)) where
  go i H' p hi := by
    have f := fs p
    have hA := FzL.firm f h
    have hB := FzL.firm f h'
    rw [List.length_map, List.length_zip] at hi
    have l1 := r.length
    have l2 := r'.length
    rw [List.length_map] at l1 l2
    have i1 : i < xs.length := by omega
    have i2 : i < ys.length := by omega
    have g1 : (xs.map ea)[i]? = some (ea xs[i]) := by rw [List.getElem?_map, List.getElem?_eq_getElem i1]; rfl
    have g2 : (ys.map eb)[i]? = some (eb ys[i]) := by rw [List.getElem?_map, List.getElem?_eq_getElem i2]; rfl
    obtain ⟨v, e1, rv⟩ := r.get g1
    obtain ⟨u, e2, ru⟩ := r'.get g2
    refine ⟨⟨vs, us, v, u, hA.sq, hB.sq, e1, e2⟩, fun x H2 y => ?_⟩
    obtain ⟨T, x1, x2, rfl, nT, rfl, f1, f2⟩ := y
    have q1 := f1 _ hA.sq
    have q2 := f2 _ hB.sq
    rw [e1] at q1; cases q1
    rw [e2] at q2; cases q2
    refine ⟨Same.new nT, eT2 ea eb (xs[i], ys[i]), ?_, ?_⟩
    · rw [List.getElem?_map, zip_at (List.getElem?_eq_getElem i1) (List.getElem?_eq_getElem i2)]; rfl
    · have s2 : Firms H (upd H' T (.tup [v, u])) := fun c o hc k => Same.new nT _ _ (f _ _ hc k)
      exact .tup (.inl (.inl upd_same)) (.cons (Rep.firm s2 rv) (.cons (Rep.firm s2 ru) .nil))
  stop i H' p hi := by
    have f := fs p
    rw [List.length_map, List.length_zip] at hi
    have l1 := r.length
    have l2 := r'.length
    rw [List.length_map] at l1 l2
    exact ⟨vs, us, (FzL.firm f h).sq, (FzL.firm f h').sq, by omega⟩
  len := by
    have l1 := r.length
    rw [List.length_map] at l1
    rw [List.length_map, List.length_zip]
    exact Nat.le_trans (Nat.min_le_left _ _) (l1 ▸ l.1 a vs h.sq)
theorem si_zipL (hg : Gl X "zip") (hm : X.mg "zip" = none) (ha : SE X C W H0 R a (eLst ea) mxs) (hb : SE X C W H0 R b (eLst eb) mys) (fs : ∀ {H H'}, P H H' → Firms H H')
    (hs : starEach [a, b] X.env = (false, eval a X.env) :: starEach [b] X.env := by rfl) (hs2 : starEach [b] X.env = (false, eval b X.env) :: starEach [] X.env := by rfl) (hpl : (backTo pos (starEach [b] X.env)).any (·.1) = false := by rfl) :
    SI X C W H0 R P (.Tuple elts kk tpos) (.Call (.Name "zip" p) [a, b] [] pos) (eT2 ea eb) (mxs >>= fun xs => mys >>= fun ys => pure (xs.zip ys)) :=
  ⟨(RZ.pi_zipA hg hm (pa_cons ha.run.facts (pa_cons hb.run.facts pa_nil hs2) hs) hs hpl).weak fun σ H Q q => tR_imp (tI_bind (k := kF X.K X.w C.mt) (ea := eLst ea) q) fun v H1 ⟨xs, e, kv, q⟩ lk => tR_imp (tI_bind (k := kF X.K X.w C.mt) (ea := eLst eb) q) fun v2 H2 ⟨ys, e2, kv2, q⟩ lk2 => by
    obtain ⟨s, c, q⟩ := q
    rw [PyM.run_pure] at q
    have kv : Rep X.K X.w H1 v (.list (xs.map ea)) := kv
    have kv2 : Rep X.K X.w H2 v2 (.list (ys.map eb)) := kv2
    cases kv with
    | lst h r =>
      cases kv2 with
      | lst h' r' =>
        exact ⟨_, _, _, _, rfl, .inl ⟨(FzL.firm e2.firms h).sq, h'.sq, q _ _ .refl c.rel (wk_zipL lk2 (FzL.firm e2.firms h) h' (Reps.firm e2.firms r) r' fs)⟩⟩⟩
end
/-! ### lists by their methods: index, count -/
section
variable {K : PySem.W.Frag} {w : World} {H : Hp}
theorem rep_at : ∀ {vs : List V} {us : List Value} {ds : List PyData} {i : Nat} {u : Value} {d : PyData}, Vals vs us → Reps K w H vs ds → us[i]? = some u → ds[i]? = some d → ∃ v, RelV v u ∧ Rep K w H v d
  | [], [], _, i, _, _, .nil, _, h, _ => by simp at h
  | v :: vs, u :: us, d :: ds, 0, _, _, .cons r t, .cons r1 t1, h, h' => by
    simp only [List.getElem?_cons_zero, Option.some.injEq] at h h'
    subst h h'
    exact ⟨v, r, r1⟩
  | v :: vs, u :: us, d :: ds, i + 1, _, _, .cons r t, .cons r1 t1, h, h' => rep_at (i := i) t t1 (by simpa using h) (by simpa using h')
end
def idxG {α : Type} [DecidableEq α] (xs : List α) (x : α) : Option Int := if x ∈ xs then some ((xs.idxOf x : Nat) : Int) else none
def rIdx {α : Type} [DecidableEq α] (mt : Addr → Prop) (X : Cx) (e : α → PyData) : V → List V → Hp → VK → Prop := fun x vs H Q => ∃ y xs b, vs = [y] ∧ kB X.K X.w mt H H x (eLst e xs) ∧ kB X.K X.w mt H H y (e b) ∧ b ∈ xs ∧ Q (.int (xs.idxOf b : Nat)) H
theorem mt_idx {X : Cx} {mt : Addr → Prop} {α : Type} [DecidableEq α] {n : Nat} {e : α → PyData} (h : EqOk n e) (hn : n < 60) (hu : X.A.units + 64 < cLine) : MtR X "list.index" (rIdx mt X e) := by
  intro pins s σ H x vs v us Q I rx rvs q
  obtain ⟨y, xs, b, rfl, kx, ky, hb, q⟩ := q
  obtain ⟨a, ws, rfl, h1, h2⟩ := kB_lst kx
  obtain ⟨its, rv, hl, hz⟩ := I.list h1
  cases rx
  obtain ⟨u, rfl, ru⟩ := rvs.one
  obtain ⟨as, ra⟩ := Inv.readsB I ky ru
  have len : xs.length = ws.length := by rw [h2.length, List.length_map]
  have hd := h.depth b
  refine PySem.SeqAt.call_list_index (ks := xs) (k := b) hl.isList ⟨by rw [← rv.length, ← len], fun j h3 h4 => ?_⟩ (by rw [len]; exact hz) hb ⟨.int _, H, I.tok _, ⟨_, rfl⟩, q⟩
  obtain ⟨v, r1, r2⟩ := rep_at (u := its[j]) (d := e xs[j]) rv h2 (List.getElem?_eq_getElem h3) (by rw [List.getElem?_map, List.getElem?_eq_getElem h4]; rfl)
  obtain ⟨bs, rb⟩ := Inv.reads I r2 r1
  rw [← h.eqv]
  exact PySem.SeqAt.eqAt_plain _ _ X.A.in1 s _ _ _ _ rb ra (h.plain _) (h.plain _) (by show X.A.units + 1 + _ < _; omega)
def rCnt {α : Type} [DecidableEq α] (mt : Addr → Prop) (X : Cx) (e : α → PyData) : V → List V → Hp → VK → Prop := fun x vs H Q => ∃ y xs b, vs = [y] ∧ kB X.K X.w mt H H x (eLst e xs) ∧ kB X.K X.w mt H H y (e b) ∧ Q (.int (xs.countP fun y => decide (y = b) : Nat)) H
theorem mt_cnt {X : Cx} {mt : Addr → Prop} {α : Type} [DecidableEq α] {n : Nat} {e : α → PyData} (h : EqOk n e) (hn : n < 60) (hu : X.A.units + 64 < cLine) : MtR X "list.count" (rCnt mt X e) := by
  intro pins s σ H x vs v us Q I rx rvs q
  obtain ⟨y, xs, b, rfl, kx, ky, q⟩ := q
  obtain ⟨a, ws, rfl, h1, h2⟩ := kB_lst kx
  obtain ⟨its, rv, hl, hz⟩ := I.list h1
  cases rx
  obtain ⟨u, rfl, ru⟩ := rvs.one
  obtain ⟨as, ra⟩ := Inv.readsB I ky ru
  obtain ⟨bs, rb⟩ := Inv.readsAll I h2 rv
  have hd := h.depth b
  refine PySem.SeqAt.count_list_data (vs := its.toArray) hl.isList (by simpa using rb) ra (plainAll_map' h xs) (h.plain b) (by omega) ⟨.int _, H, I.tok _, ⟨_, rfl⟩, ?_⟩
  have e1 : ((xs.map e).countP fun y => PyData.eqv y (e b)) = xs.countP fun y => decide (y = b) := by
    rw [List.countP_map]
    congr 1
    funext y
    exact h.eqv y b
  rw [e1]
  exact q
section
variable {X : Cx} {m : Type → Type} [Monad m] [PyM m] {C : Wd X.K X.w m} {W : WX} {H0 : Hp} {R : Slots} {k : Kd} {α β γ ρ ε δ : Type} {ea : α → PyData} {eb : β → PyData} {er : ρ → PyData} {Rb : ε → Slots} {Rn : δ → Slots} {a b o e : Expr} {ma mb : m α} {mxs mys : m (List α)} {mi : m Int} {pos p p2 p3 : Pos} {n : Nat} {rest : List Stmt}
theorem se_index [DecidableEq α] (h : EqOk n ea) (hn : n < 60) (hu : X.A.units + 64 < cLine) (ho : SB X C W H0 R o (eLst ea) mxs) (ha : SB X C W H0 R a ea ma)
    (hbase : attributeBase o "index" X.env (eval o X.env) = eval o X.env)
    (hfew : ((backTo p3 (starEach (a :: []) X.env)).all (fun x => !x.1) && (backToKw p3 (keywordEach [] X.env)).all (fun x => x.1.isSome) && decide ((a :: ([] : List Expr)).length + ([] : List Keyword).length + (if ([] : List Keyword).isEmpty then 0 else 1) < 30)) = true)
    (hline : (p2.endLine == p3.line) = true) (hs : starEach (a :: []) X.env = (false, eval a X.env) :: starEach [] X.env) : SE X C W H0 R (.Call (.Attribute o "index" p2) [a] [] p3) eInt (mxs >>= fun xs => ma >>= fun i => fromO (idxG xs i)) :=
  .weak (pe_bm PySem.F.plainAttrs_list PySem.F.slot_list_index PySem.F.type_list_index (mt_idx (mt := C.mt) h hn hu) ho.run (pa_cons ha.run pa_nil hs) hbase hfew hline hs) fun σ H Q q => tR_imp (tR_bind kF_ok q) fun x H1 ⟨xs, e1, k1, q1⟩ => by
    obtain ⟨l, vs, hx, h1, h2⟩ := kB_lst (show kB X.K X.w C.mt H1 H1 x (eLst ea xs) from k1)
    subst hx
    refine ⟨.inl ⟨rfl, vs, h1⟩, tR_imp (tR_bind kF_ok q1) fun y H2 ⟨i, e2, k2, q2⟩ => ?_⟩
    obtain ⟨c, e, _, q⟩ := tR_done q2
    unfold idxG at e
    split at e
    · rename_i g
      cases e
      exact ⟨y, xs, i, rfl, kB.ext e2 (show kB X.K X.w C.mt H1 H1 _ (eLst ea xs) from k1), k2, g, q _ H2 (.refl H2) (.int _)⟩
    · cases e
theorem se_count [DecidableEq α] (h : EqOk n ea) (hn : n < 60) (hu : X.A.units + 64 < cLine) (ho : SB X C W H0 R o (eLst ea) mxs) (ha : SB X C W H0 R a ea ma)
    (hbase : attributeBase o "count" X.env (eval o X.env) = eval o X.env)
    (hfew : ((backTo p3 (starEach (a :: []) X.env)).all (fun x => !x.1) && (backToKw p3 (keywordEach [] X.env)).all (fun x => x.1.isSome) && decide ((a :: ([] : List Expr)).length + ([] : List Keyword).length + (if ([] : List Keyword).isEmpty then 0 else 1) < 30)) = true)
    (hline : (p2.endLine == p3.line) = true) (hs : starEach (a :: []) X.env = (false, eval a X.env) :: starEach [] X.env) : SE X C W H0 R (.Call (.Attribute o "count" p2) [a] [] p3) eInt (mxs >>= fun xs => ma >>= fun i => pure ((xs.countP fun y => decide (y = i) : Nat) : Int)) :=
  .weak (pe_bm PySem.F.plainAttrs_list PySem.F.slot_list_count PySem.F.type_list_count (mt_cnt (mt := C.mt) h hn hu) ho.run (pa_cons ha.run pa_nil hs) hbase hfew hline hs) fun σ H Q q => tR_imp (tR_bind kF_ok q) fun x H1 ⟨xs, e1, k1, q1⟩ => by
    obtain ⟨l, vs, hx, h1, h2⟩ := kB_lst (show kB X.K X.w C.mt H1 H1 x (eLst ea xs) from k1)
    subst hx
    refine ⟨.inl ⟨rfl, vs, h1⟩, tR_imp (tR_bind kF_ok q1) fun y H2 ⟨i, e2, k2, q2⟩ => ?_⟩
    exact ⟨y, xs, i, rfl, kB.ext e2 (show kB X.K X.w C.mt H1 H1 _ (eLst ea xs) from k1), k2, (tR_pure q2).2 _ H2 (.refl H2) (.int _)⟩
/-! ### x[i] = e, a list of one's own -/
def setG (xs : List α) (i : Int) (v : α) : Option (List α) := (ixN xs.length i).map fun j => xs.set j v
theorem map_set' (f : α → β) (xs : List α) (j : Nat) (v : α) : (xs.set j v).map f = (xs.map f).set j (f v) := by rw [List.map_set]
theorem sl_setI {i : Nat} {x : Str} {xs : List α} {f : List α → m (Out ρ ε δ)} {p1 : Pos} (hN : X.N[i]? = some x) (hv : Vis X.env.scope x) (hd : (x == ("__debug__" : Str)) = false) (hcd : (x == ("__classdict__" : Str)) = false)
    (hR : R[i]? = some (some (.own (xs.map ea)))) (ha : SE X C W H0 R e ea ma) (hb : SB X C W H0 R b eInt mi) (hr : ∀ ys : List α, SL X C W H0 (R.set i (some (.own (ys.map ea)))) rest er Rb Rn (f ys))
    (hs : swapsWithSole [.Subscript (.Name x p1) b p2] e pos.line X.env = pure false) (hw : swappedStores [.Subscript (.Name x p1) b p2] e X.env = pure none)
    (hasg : ∀ v, assign (.Subscript (.Name x p1) b p2) X.env v = (do
      let ov ← holding [v] (eval (.Name x p1) X.env)
      let iv ← holding [v, ov] (eval b X.env)
      standAt p2
      holding [v, ov, iv] (setItem ov iv v)
      release [v, ov, iv] []))
    (h1 : (assignEach [.Subscript (.Name x p1) b p2] X.env).map (·.2) = [assign (.Subscript (.Name x p1) b p2) X.env]) :
    SL X C W H0 R (.Assign [.Subscript (.Name x p1) b p2] e pos :: rest) er Rb Rn (ma >>= fun v => mi >>= fun i => fromO (setG xs i v) >>= f) :=
  ⟨(pss_cons (ps_asg ha.run (pg_sub (pe_var hN hv hd hcd) hb.run set_list hasg) hs hw h1)
      (u := fun D σ H => ∃ ys : List α, tS C W H0 (R.set i (some (.own (ys.map ea)))) er Rb Rn (f ys) D σ H) ⟨fun pins s σ H D I ⟨g, q⟩ => (hr g).run.run pins s σ H D I q⟩).weak fun D σ H q => by
    obtain ⟨s0, c0, _⟩ := id q
    obtain ⟨v0, hv', l, vs, rfl, hl, hrs, h0, hm⟩ := c0.slot i _ hR
    refine tS_bind (k := kF X.K X.w C.mt) (ea := ea) q fun a u H1 kv e1 _ q1 => ?_
    refine ⟨.ref l, hv', tS_bind (k := kB X.K X.w C.mt) (ea := eInt) q1 fun j z H2 kz e2 _ ⟨s, c, q2⟩ => ?_⟩
    cases (kB_int (show kB X.K X.w C.mt H2 H2 z (.int j) from kz))
    rw [PyM.run_bind, PyM.run_fromO] at q2
    have hl' := e2 l _ (e1 l _ hl (.inl hm)) (.inl hm)
    have len : vs.length = xs.length := by rw [hrs.length, List.length_map]
    unfold setG at q2
    cases hj : ixN xs.length j with
    | none => rw [hj] at q2; exact q2.elim
    | some j' =>
      rw [hj] at q2
      refine ⟨l, vs, j, j', rfl, rfl, hl', by rw [len]; exact hj, xs.set j' a, s, c.updO hR hv' hl' ?_, AfterS.mono (firms_upd' hl' (fun z => z)) q2⟩
      rw [map_set']
      exact Reps.set (Rep.firm e2.firms kv) j' (Reps.firm e2.firms (Reps.firm e1.firms hrs))⟩
/-! ### extend by a list that stands -/
theorem rd_of_kB {K : PySem.W.Frag} {w : World} {mt : Addr → Prop} {H : Hp} {v : V} {xs : List α} (h : kB K w mt H H v (eLst ea xs)) : ∃ l vs, v = .ref l ∧ Rd H l (.lst vs) ∧ Reps K w H vs (xs.map ea) := kB_rd h
def rExtR : V → List V → Hp → VK → Prop := fun x vs H Q => ∃ l b xs zs, x = .ref l ∧ vs = [.ref b] ∧ H l = some (.lst xs) ∧ Rd H b (.lst zs) ∧ xs.length + zs.length ≤ sizeLine ∧ Q .non (upd H l (.lst (xs ++ zs)))
theorem mt_extR : MtR X "list.extend" rExtR := by
  intro pins s σ H x vs v us Q I rx rv h
  obtain ⟨l, b, xs, zs, rfl, rfl, hH, hB, hz, q⟩ := h
  cases rx
  obtain ⟨u, rfl, ru⟩ := rv.one
  cases ru
  obtain ⟨z, its, n, r, hl, e⟩ := I.lstM hH
  obtain ⟨z2, its2, n2, r2, hl2, e2⟩ := I.rdL hB
  have hsz : its.toArray.size + its2.toArray.size ≤ sizeLine := by rw [List.size_toArray, List.size_toArray]; omega
  have hlong : ¬ (!its.toArray.isEmpty && Builtin.List.listTooLong (its.toArray.size + its2.toArray.size)) = true := by
    rw [notLongL hsz, Bool.and_false]
    exact Bool.false_ne_true
  refine call_meets F.slot_list_extend ⟨_, e, rfl⟩ F.entry_list_extend (F.args_list_extend_2 _ _)
    (AutoSeq1.list_extend_list_list_0 l its.toArray n b its2.toArray n2 hlong (by rw [List.size_toArray]; omega) (by omega)) ⟨e, e2, ?_⟩
  refine ⟨.non, _, I.lset (its' := its ++ its2) hH e (by simp) (r.append r2) ?_, rfl, q⟩
  rw [List.length_append]
  omega
theorem sl_extR {i : Nat} {x : Str} {xs : List α} {f : List α → m (Out ρ ε δ)} {p1 : Pos} (hN : X.N[i]? = some x) (hv : Vis X.env.scope x) (hd : (x == ("__debug__" : Str)) = false) (hcd : (x == ("__classdict__" : Str)) = false)
    (hR : R[i]? = some (some (.own (xs.map ea)))) (ha : SB X C W H0 R a (eLst ea) mys) (hr : ∀ ys : List α, SL X C W H0 (R.set i (some (.own (ys.map ea)))) rest er Rb Rn (f ys))
    (hbase : attributeBase (.Name x p1) "extend" X.env (eval (.Name x p1) X.env) = eval (.Name x p1) X.env)
    (hfew : ((backTo p3 (starEach (a :: []) X.env)).all (fun x => !x.1) && (backToKw p3 (keywordEach [] X.env)).all (fun x => x.1.isSome) && decide ((a :: ([] : List Expr)).length + ([] : List Keyword).length + (if ([] : List Keyword).isEmpty then 0 else 1) < 30)) = true)
    (hline : (p2.endLine == p3.line) = true) (hs : starEach (a :: []) X.env = (false, eval a X.env) :: starEach [] X.env) (hsw : swapsWith (.Call (.Attribute (.Name x p1) "extend" p2) [a] [] p3) none pos.line X.env = pure false) :
    SL X C W H0 R (.Expr (.Call (.Attribute (.Name x p1) "extend" p2) [a] [] p3) pos :: rest) er Rb Rn (mys >>= fun ys => fromO (catG xs ys) >>= f) :=
  ⟨(pss_cons (ps_expr (pe_bm PySem.F.plainAttrs_list PySem.F.slot_list_extend PySem.F.type_list_extend mt_extR (pe_var hN hv hd hcd) (pa_cons ha.run pa_nil hs) hbase hfew hline hs) hsw)
      (u := fun D σ H => ∃ ys : List α, tS C W H0 (R.set i (some (.own (ys.map ea)))) er Rb Rn (f ys) D σ H) ⟨fun pins s σ H D I ⟨g, q⟩ => (hr g).run.run pins s σ H D I q⟩).weak fun D σ H q => by
    obtain ⟨s0, c0, _⟩ := id q
    obtain ⟨v, hv', l, vs, rfl, hl, hrs, h0, hm⟩ := c0.slot i _ hR
    refine ⟨.ref l, hv', .inl ⟨rfl, vs, .of hl⟩, ?_⟩
    refine tS_bind (k := kB X.K X.w C.mt) (ea := eLst ea) q fun ys u H' kv e _ ⟨s, c, q⟩ => ?_
    obtain ⟨b, ws, rfl, h3, h4⟩ := kB_rd (show kB X.K X.w C.mt H' H' u (eLst ea ys) from kv)
    rw [PyM.run_bind, PyM.run_fromO] at q
    unfold catG at q
    have hl' := e l _ hl (.inl hm)
    have len : vs.length = xs.length := by rw [hrs.length, List.length_map]
    have len2 : ws.length = ys.length := by rw [h4.length, List.length_map]
    split at q
    · rename_i g
      refine ⟨l, b, vs, ws, rfl, rfl, hl', h3, by rw [sizeLine_eq, len, len2]; exact g, xs ++ ys, s, c.updO hR hv' hl' ?_, AfterS.mono (firms_upd' hl' (fun z => z)) q⟩
      rw [List.map_append]
      exact (Reps.firm e.firms hrs).append h4
    · exact q.elim⟩
/-! ### a list some times over -/
def repLG (xs : List α) (i : Int) : Option (List α) := if -1000000 ≤ i ∧ i ≤ 1000000 ∧ xs.length * i.toNat ≤ 16777216 then some (List.replicate i.toNat xs).flatten else none
theorem so_repL (ha : SO X C W H0 R a (eLst ea) mxs) (hb : SB X C W H0 R b eInt mi) : SO X C W H0 R (.BinOp a .Mult b pos) (eLst ea) (mxs >>= fun xs => mi >>= fun i => fromO (repLG xs i)) :=
  .weak (pe_op op_rep ha.run hb.run) fun σ H Q q => by
    obtain ⟨s0, c0, _⟩ := id q
    refine tR_imp (tR_bind kO_ok q) fun x H1 ⟨xs, e1, k1, q1⟩ => tR_imp (tR_bind kO_ok q1) fun y H2 ⟨i, e2, k2, q2⟩ => ?_
    obtain ⟨c, e, _, q⟩ := tR_done q2
    obtain ⟨l, vs, ds, rfl, h2, h3, h4, h5⟩ := k1
    have h2 : PyData.list (xs.map ea) = .list ds := h2
    injection h2 with h2
    subst h2
    unfold repLG at e
    split at e
    · rename_i g
      cases e
      have nm : ¬ C.mt l := fun z => by
        obtain ⟨o, ho, _⟩ := C.there _ _ _ c0.rel z
        rw [h5] at ho; cases ho
      have h3' := e2 l _ h3 (.inl nm)
      have len : vs.length = xs.length := by rw [h4.length, List.length_map]
      refine ⟨l, i, vs, rfl, kB_int k2, h3', by omega, by omega, by rw [sizeLine_eq, len]; exact g.2.2, fun p hp => q _ _ (Same.new hp) ⟨p, _, _, rfl, rfl, upd_same, ?_, hp⟩⟩
      rw [map_rep]
      exact Reps.firm (fun b o h _ => Same.new hp b o h) ((Reps.firm e2.firms h4).rep _)
    · cases e
end
end TT

namespace TT
open PyM (fromO)
open PySem PySem.Spec PyProof.Rows L2
/-! ### the same data under another type -/
section
variable {α β γ δ α' β' γ' δ' : Type} {ea : α → PyData} {eb : β → PyData} {ec : γ → PyData} {ed : δ → PyData} {ea' : α' → PyData} {eb' : β' → PyData} {ec' : γ' → PyData} {ed' : δ' → PyData}
theorem map_enc {g : α → α'} (h : ∀ a, ea' (g a) = ea a) (xs : List α) : (xs.map g).map ea' = xs.map ea := by
  rw [List.map_map]
  exact List.map_congr_left fun a _ => h a
theorem etup_map {g : α → α'} (h : ∀ a, ea' (g a) = ea a) (xs : List α) : eTup ea' (xs.map g) = eTup ea xs := congrArg PyData.tuple (map_enc h xs)
theorem elst_map {g : α → α'} (h : ∀ a, ea' (g a) = ea a) (xs : List α) : eLst ea' (xs.map g) = eLst ea xs := congrArg PyData.list (map_enc h xs)
theorem eopt_map {g : α → α'} (h : ∀ a, ea' (g a) = ea a) (x : Option α) : eOpt ea' (x.map g) = eOpt ea x := by
  cases x with
  | none => rfl
  | some a => exact h a
theorem et1_map {g : α → α'} (h : ∀ a, ea' (g a) = ea a) (p : α) : eT1 ea' (g p) = eT1 ea p := by unfold eT1; rw [h]
theorem et2_map {g : α → α'} {g2 : β → β'} (h : ∀ a, ea' (g a) = ea a) (h2 : ∀ a, eb' (g2 a) = eb a) (p : α × β) : eT2 ea' eb' (g p.1, g2 p.2) = eT2 ea eb p := by unfold eT2; rw [h, h2]
theorem et3_map {g : α → α'} {g2 : β → β'} {g3 : γ → γ'} (h : ∀ a, ea' (g a) = ea a) (h2 : ∀ a, eb' (g2 a) = eb a) (h3 : ∀ a, ec' (g3 a) = ec a) (p : α × β × γ) : eT3 ea' eb' ec' (g p.1, g2 p.2.1, g3 p.2.2) = eT3 ea eb ec p := by unfold eT3; rw [h, h2, h3]
theorem et4_map {g : α → α'} {g2 : β → β'} {g3 : γ → γ'} {g4 : δ → δ'} (h : ∀ a, ea' (g a) = ea a) (h2 : ∀ a, eb' (g2 a) = eb a) (h3 : ∀ a, ec' (g3 a) = ec a) (h4 : ∀ a, ed' (g4 a) = ed a) (p : α × β × γ × δ) : eT4 ea' eb' ec' ed' (g p.1, g2 p.2.1, g3 p.2.2.1, g4 p.2.2.2) = eT4 ea eb ec ed p := by unfold eT4; rw [h, h2, h3, h4]
end
section
variable {X : Cx} {m : Type → Type} [Monad m] [PyM m] {C : Wd X.K X.w m} {W : WX} {H0 : Hp} {R : Slots} {α β γ ζ ρ ε δ : Type} {er : ρ → PyData} {Rb : ε → Slots} {Rn : δ → Slots} {sts : List Stmt} {a : Expr} {pos p : Pos}
theorem SL.asc3 {me : m α} {f : α → m γ} {g : α → γ → m ζ} {k : ζ → m β} {r : β → m (Out ρ ε δ)} (h : SL X C W H0 R sts er Rb Rn (me >>= fun a => f a >>= fun b => g a b >>= fun c => k c >>= r)) : SL X C W H0 R sts er Rb Rn ((me >>= fun a => f a >>= fun b => g a b >>= k) >>= r) :=
  h.alike ((alike_assoc me _ r).trans (alike_bind fun a => (alike_assoc (f a) _ r).trans (alike_bind fun b => alike_assoc (g a b) k r)))
def rSumT (K : PySem.W.Frag) : List V → Hp → VK → Prop := fun vs H Q => ∃ (a : Addr) (ns : List Int), vs = [V.ref a] ∧ SqT K H a (ns.map V.int) ∧ Q (.int ns.sum) H
theorem cr_sumT (hc : X.calm = true) : CallR X (.builtin "sum") (rSumT X.K) := by
  intro pins s σ H vs us Q I r h
  obtain ⟨a, ns, rfl, hs, q⟩ := h
  obtain ⟨its, rv, ⟨o, ho, hcl, n, hd⟩, _⟩ := I.tuple hs
  rw [Vals.ref1 r]
  have hi : IntsAre its ns := rv.ints
  obtain ⟨xs, e⟩ := hi.allInts.items
  have hn : numsOf (intItems xs).toList = ns := by rw [← e]; exact hi.numsOf
  rw [nums_intItems] at hn
  refine PySem.W.ktm_sumG (I.ok.hd hc) ⟨o, ho, hcl, n, by rw [hd, e]⟩ fun h' tk t' hk => ?_
  rw [preSum_eq, List.take_of_length_le (by simp), hn]
  exact ⟨.int _, H, I.kept hk, ⟨_, rfl⟩, q⟩
theorem se_sumT {mn : m (List Int)} (hk : X.calm = true) (hg : Gl X "sum") (hm : X.mg "sum" = none) (ha : SB X C W H0 R a (eTup eInt) mn) (hs : starEach (a :: []) X.env = (false, eval a X.env) :: starEach [] X.env := by rfl) : SE X C W H0 R (.Call (.Name "sum" p) [a] [] pos) eInt (mn >>= fun ns => pure ns.sum) :=
  sx_callB kF_ok (cr_sumT hk) hg hm (by decide +kernel) (by decide) (by decide) ha (fun v σ H Q ns kv _ q => by
    obtain ⟨t, vs, rfl, h1, h2⟩ := kB_tup kv
    rw [reps_ints h2] at h1
    exact ⟨t, ns, rfl, h1, (tR_pure q).2 _ H (.refl H) (.int _)⟩) hs
/-- two tuples, part by part known -/
theorem se_catF {b : Expr} {ma : m α} {mb : m β} {ea : α → PyData} {eb : β → PyData} {ec : γ → PyData} {f : α → List PyData} {g : β → List PyData} {h : α → β → γ} (ha : SB X C W H0 R a ea ma) (hb : SB X C W H0 R b eb mb)
    (qa : ∀ x, ea x = .tuple (f x)) (qb : ∀ x, eb x = .tuple (g x)) (qc : ∀ x y, ec (h x y) = .tuple (f x ++ g y)) (hl : ∀ x y, (f x ++ g y).length ≤ 64) : SE X C W H0 R (.BinOp a .Add b pos) ec (ma >>= fun i => mb >>= fun j => pure (h i j)) :=
  sx_bin kF_ok op_catA ha hb fun x y σ H Q xs ys k1 k2 q => by
    obtain ⟨_, q⟩ := tR_pure q
    rw [qa] at k1
    rw [qb] at k2
    obtain ⟨s, vs, rfl, h1, h2⟩ := kB_tup k1
    obtain ⟨t, us, rfl, h3, h4⟩ := kB_tup k2
    have all := h2.append h4
    have l := hl xs ys
    rw [List.length_append, ← h2.length, ← h4.length] at l
    have done : ∀ {v : V} {H' : Hp}, Same H H' → Rep X.K X.w H' v (.tuple (f xs ++ g ys)) → Q v H' := fun s r => q _ _ s (by show Rep _ _ _ _ _; rw [qc]; exact r)
    refine ⟨s, t, vs, us, rfl, rfl, h1, h3, by rw [sizeLine_eq]; omega, fun z => ?_, fun _ z => ?_, fun _ _ p hp => ?_⟩
    · subst z
      exact done (.refl H) (.tup h3 all)
    · subst z
      rw [List.append_nil] at all
      exact done (.refl H) (.tup h1 all)
    · exact done (Same.new hp) (.tup (.of upd_same) (Reps.firm (fun b o h _ => Same.new hp b o h) all))
theorem se_tupU {x1} : SE X C W H0 R (.Tuple [] x1 pos) eNil (pure ()) :=
  .weak (pe_tup pa_nil) fun σ H Q z => ⟨small64 (Nat.zero_le _), fun p hp => (tR_pure z).2 _ _ (Same.new hp) (.tup (.of upd_same) .nil)⟩
end
end TT

namespace TT
open PyM (fromO)
open PySem PySem.Spec PyProof.Rows L2
/-! ### dicts: the mirror -/
section
variable {α β : Type} [DecidableEq α]
def dGet (kvs : List (α × β)) (k : α) : Option β := (kvs.find? fun p => decide (p.1 = k)).map (·.2)
def dHas (kvs : List (α × β)) (k : α) : Bool := kvs.any fun p => decide (p.1 = k)
def dPut (kvs : List (α × β)) (k : α) (v : β) : List (α × β) := if dHas kvs k = true then kvs.map (fun p => if p.1 = k then (p.1, v) else p) else kvs ++ [(k, v)]
/-- dict(ps) -/
def dOf (ps : List (α × β)) : List (α × β) := ps.foldl (fun d p => dPut d p.1 p.2) []
def dUpd (d ps : List (α × β)) : List (α × β) := ps.foldl (fun d p => dPut d p.1 p.2) d
theorem dHas_get (kvs : List (α × β)) (k : α) : dHas kvs k = (dGet kvs k).isSome := by
  unfold dHas dGet
  induction kvs with
  | nil => rfl
  | cons p kvs ih =>
    rw [List.any_cons, List.find?_cons]
    cases decide (p.1 = k) with
    | true => rfl
    | false => simpa using ih
theorem dPut_len (kvs : List (α × β)) (k : α) (v : β) : (dPut kvs k v).length ≤ kvs.length + 1 := by
  unfold dPut
  split
  · simp
  · simp
end
def eDct {α β : Type} (ea : α → PyData) (eb : β → PyData) : List (α × β) → PyData := fun kvs => .dict (kvs.map fun p => (ea p.1, eb p.2))
/-! ### keys -/
def kD : L2.Key → PyData
  | .inl i => .int i
  | .inr x => .str x
/-- a number or a text -/
structure KeyA {α : Type} (e : α → PyData) where
  k : α → L2.Key
  ok : ∀ a, e a = kD (k a)
  inj : ∀ a b, k a = k b → a = b
def ka_int : KeyA eInt := ⟨.inl, fun _ => rfl, fun _ _ h => Sum.inl.inj h⟩
def ka_str : KeyA eStr := ⟨.inr, fun _ => rfl, fun _ _ h => Sum.inr.inj h⟩
/-- parts of a tuple -/
structure Nst {α : Type} (n : Nat) (e : α → PyData) where
  k : α → NestedKey
  ok : ∀ a, nkOf (e a) = some (k a)
  inj : ∀ a b, k a = k b → a = b
  dep : ∀ a, (k a).depth ≤ n
def nst_int {n : Nat} : Nst n eInt := ⟨.num, fun _ => by simp [nkOf], fun _ _ h => by injection h, fun _ => Nat.zero_le _⟩
def nst_str {n : Nat} : Nst n eStr := ⟨.text, fun _ => by simp [nkOf], fun _ _ h => by injection h, fun _ => Nat.zero_le _⟩
def nst_bool {n : Nat} : Nst n eBool := ⟨fun b => .num (if b = true then 1 else 0), fun _ => by simp [nkOf], fun a b h => by
  injection h with h
  cases a <;> cases b <;> simp_all, fun _ => Nat.zero_le _⟩
section
variable {α β γ δ : Type} {ea : α → PyData} {eb : β → PyData} {ec : γ → PyData} {ed : δ → PyData} {n : Nat}
theorem nks_map (h : Nst n ea) : ∀ xs : List α, nksOf (xs.map ea) = some (xs.map h.k)
  | [] => by simp [nksOf]
  | x :: xs => by rw [List.map_cons, nksOf, h.ok, nks_map h xs]; rfl
theorem nks_inj (h : Nst n ea) : ∀ xs ys : List α, xs.map h.k = ys.map h.k → xs = ys
  | [], [], _ => rfl
  | [], _ :: _, e => by simp at e
  | _ :: _, [], e => by simp at e
  | x :: xs, y :: ys, e => by
    simp only [List.map_cons, List.cons.injEq] at e
    rw [h.inj _ _ e.1, nks_inj h xs ys e.2]
theorem nks_dep (h : Nst n ea) : ∀ xs : List α, NestedKey.depthAll (xs.map h.k) ≤ n
  | [] => Nat.zero_le _
  | x :: xs => by
    show max _ _ ≤ n
    exact Nat.max_le.mpr ⟨h.dep x, nks_dep h xs⟩
def nst_tup (h : Nst n ea) : Nst (n + 1) (eTup ea) := ⟨fun xs => .tup (xs.map h.k), fun xs => by simp only [eTup, nkOf, nks_map h]; rfl, fun a b e => by injection e with e; exact nks_inj h a b e, fun xs => by
  show NestedKey.depthAll _ + 1 ≤ n + 1
  have := nks_dep h xs
  omega⟩
def nst_t1 (h : Nst n ea) : Nst (n + 1) (eT1 ea) := ⟨fun p => .tup [h.k p], fun p => by simp only [eT1, nkOf, nksOf, h.ok]; rfl, fun a b e => by
  injection e with e; simp only [List.cons.injEq] at e; exact h.inj _ _ e.1, fun p => by
  have := h.dep p
  show NestedKey.depthAll _ + 1 ≤ _
  simp only [NestedKey.depthAll]
  omega⟩
def nst_t2 (h : Nst n ea) (h2 : Nst n eb) : Nst (n + 1) (eT2 ea eb) := ⟨fun p => .tup [h.k p.1, h2.k p.2], fun p => by simp only [eT2, nkOf, nksOf, h.ok, h2.ok]; rfl, fun a b e => by
  injection e with e; simp only [List.cons.injEq] at e; exact Prod.ext (h.inj _ _ e.1) (h2.inj _ _ e.2.1), fun p => by
  have := h.dep p.1
  have := h2.dep p.2
  show NestedKey.depthAll _ + 1 ≤ _
  simp only [NestedKey.depthAll]
  omega⟩
def nst_t3 (h : Nst n ea) (h2 : Nst n eb) (h3 : Nst n ec) : Nst (n + 1) (eT3 ea eb ec) := ⟨fun p => .tup [h.k p.1, h2.k p.2.1, h3.k p.2.2], fun p => by simp only [eT3, nkOf, nksOf, h.ok, h2.ok, h3.ok]; rfl, fun a b e => by
  injection e with e; simp only [List.cons.injEq] at e; exact Prod.ext (h.inj _ _ e.1) (Prod.ext (h2.inj _ _ e.2.1) (h3.inj _ _ e.2.2.1)), fun p => by
  have := h.dep p.1
  have := h2.dep p.2.1
  have := h3.dep p.2.2
  show NestedKey.depthAll _ + 1 ≤ _
  simp only [NestedKey.depthAll]
  omega⟩
end
/-- a tuple -/
structure KeyT {α : Type} (e : α → PyData) where
  n : Nst 8 e
  tup : ∀ a, ∃ ds, e a = .tuple ds
section
variable {α β γ δ : Type} {ea : α → PyData} {eb : β → PyData} {ec : γ → PyData}
def kt_tup (h : Nst 7 ea) : KeyT (eTup ea) := ⟨nst_tup h, fun _ => ⟨_, rfl⟩⟩
def kt_t1 (h : Nst 7 ea) : KeyT (eT1 ea) := ⟨nst_t1 h, fun _ => ⟨_, rfl⟩⟩
def kt_t2 (h : Nst 7 ea) (h2 : Nst 7 eb) : KeyT (eT2 ea eb) := ⟨nst_t2 h h2, fun _ => ⟨_, rfl⟩⟩
def kt_t3 (h : Nst 7 ea) (h2 : Nst 7 eb) (h3 : Nst 7 ec) : KeyT (eT3 ea eb ec) := ⟨nst_t3 h h2 h3, fun _ => ⟨_, rfl⟩⟩
end
inductive KeyC {α : Type} (e : α → PyData) : Type
  | a : KeyA e → KeyC e
  | t : KeyT e → KeyC e

def keyN : L2.Key → NestedKey
  | .inl i => .num i
  | .inr x => .text x
theorem nkOf_kD (q : L2.Key) : nkOf (kD q) = some (keyN q) := by cases q <;> simp [nkOf, kD, keyN]
theorem keyN_inj {a b : L2.Key} (h : keyN a = keyN b) : a = b := by
  cases a <;> cases b <;> simp_all [keyN]
theorem keyN_h (w : World) (q : L2.Key) : (keyN q).hash w = keyH w q := by cases q <;> rfl
/-! ### the entries: the key, its value, the value -/
abbrev Trip := NestedKey × Value × Value
def atT (ys : List Trip) (k : NestedKey) : Option Value := (ys.find? fun y => decide (y.1 = k)).map (·.2.2)
def putT (ys : List Trip) (k : NestedKey) (kv v : Value) : List Trip := if (ys.any fun y => decide (y.1 = k)) = true then ys.map (fun y => if y.1 = k then (y.1, y.2.1, v) else y) else ys ++ [(k, kv, v)]
def putsT (ys zs : List Trip) : List Trip := zs.foldl (fun acc z => putT acc z.1 z.2.1 z.2.2) ys
theorem anyT_at (ys : List Trip) (k : NestedKey) : (ys.any fun y => decide (y.1 = k)) = (atT ys k).isSome := by
  unfold atT
  induction ys with
  | nil => rfl
  | cons p ys ih =>
    rw [List.any_cons, List.find?_cons]
    cases decide (p.1 = k) with
    | true => rfl
    | false => simpa using ih
theorem putT_len (ys : List Trip) (k : NestedKey) (kv v : Value) : (putT ys k kv v).length ≤ ys.length + 1 := by
  unfold putT
  split
  · simp
  · simp
/-- what they tell -/
def DRel (K : PySem.W.Frag) (w : World) (H : Hp) {α β : Type} (ky : α → NestedKey) (ea : α → PyData) (eb : β → PyData) (ys : List Trip) (kvs : List (α × β)) : Prop := Paired (fun (y : Trip) (p : α × β) => y.1 = ky p.1 ∧ (∃ v, RelV v y.2.1 ∧ Rep K w H v (ea p.1)) ∧ ∃ v, RelV v y.2.2 ∧ Rep K w H v (eb p.2)) ys kvs
section
variable {K : PySem.W.Frag} {w : World} {H H' : Hp} {α β : Type} [DecidableEq α] {ea : α → PyData} {eb : β → PyData} {ky : α → NestedKey}
theorem DRel.len {ys : List Trip} {kvs : List (α × β)} (r : DRel K w H ky ea eb ys kvs) : ys.length = kvs.length := Paired.length r
theorem drel_get (inj : ∀ a b, ky a = ky b → a = b) (k : α) : ∀ {ys : List Trip} {kvs : List (α × β)}, DRel K w H ky ea eb ys kvs → match dGet kvs k with
    | some b => ∃ u v, atT ys (ky k) = some u ∧ RelV v u ∧ Rep K w H v (eb b)
    | none => atT ys (ky k) = none
  | [], [], .nil => rfl
  | y :: ys, p :: kvs, .cons ⟨h1, _, v, h2, h3⟩ t => by
    have ih := drel_get inj k t
    unfold dGet atT at *
    rw [List.find?_cons, List.find?_cons, h1]
    by_cases z : p.1 = k
    · subst z
      simp only [decide_true, Option.map_some]
      exact ⟨_, v, rfl, h2, h3⟩
    · have z' : ¬ ky p.1 = ky k := fun e => z (inj _ _ e)
      simp only [decide_eq_false z, decide_eq_false z']
      exact ih
theorem drel_some (inj : ∀ a b, ky a = ky b → a = b) (k : α) {ys : List Trip} {kvs : List (α × β)} (r : DRel K w H ky ea eb ys kvs) : (atT ys (ky k)).isSome = dHas kvs k := by
  have := drel_get inj k r
  rw [dHas_get]
  cases h : dGet kvs k with
  | some b =>
    rw [h] at this
    obtain ⟨u, v, h1, _⟩ := this
    rw [h1]; rfl
  | none =>
    rw [h] at this
    rw [this]; rfl
theorem drel_map (inj : ∀ a b, ky a = ky b → a = b) (k : α) {u : Value} {v : V} {b : β} (ru : RelV v u) (rb : Rep K w H v (eb b)) : ∀ {ys : List Trip} {kvs : List (α × β)}, DRel K w H ky ea eb ys kvs → DRel K w H ky ea eb (ys.map fun y => if y.1 = ky k then (y.1, y.2.1, u) else y) (kvs.map fun p => if p.1 = k then (p.1, b) else p)
  | [], [], .nil => .nil
  | y :: ys, p :: kvs, .cons ⟨h1, hk, v', h2, h3⟩ t => by
    refine .cons ?_ (drel_map inj k ru rb t)
    by_cases z : p.1 = k
    · have z' : y.1 = ky k := by rw [h1, z]
      simp only [if_pos z, if_pos z']
      exact ⟨h1, hk, v, ru, rb⟩
    · have z' : ¬ y.1 = ky k := fun e => z (inj _ _ (by rw [← h1, e]))
      simp only [if_neg z, if_neg z']
      exact ⟨h1, hk, v', h2, h3⟩
theorem DRel.append {ys zs : List Trip} {kvs lvs : List (α × β)} (r : DRel K w H ky ea eb ys kvs) (r' : DRel K w H ky ea eb zs lvs) : DRel K w H ky ea eb (ys ++ zs) (kvs ++ lvs) := by
  unfold DRel at *
  induction r with
  | nil => exact r'
  | cons h _ ih => exact .cons h ih
theorem drel_put (inj : ∀ a b, ky a = ky b → a = b) {ys : List Trip} {kvs : List (α × β)} (r : DRel K w H ky ea eb ys kvs) (k : α) {ku u : Value} {kv v : V} {b : β} (rk : RelV kv ku) (rka : Rep K w H kv (ea k)) (ru : RelV v u) (rb : Rep K w H v (eb b)) : DRel K w H ky ea eb (putT ys (ky k) ku u) (dPut kvs k b) := by
  unfold putT dPut
  rw [anyT_at, drel_some inj k r]
  cases dHas kvs k with
  | true => exact drel_map inj k ru rb r
  | false => exact r.append (.cons ⟨rfl, ⟨_, rk, rka⟩, v, ru, rb⟩ .nil)
theorem drel_puts (inj : ∀ a b, ky a = ky b → a = b) : ∀ {zs : List Trip} {lvs : List (α × β)} {ys : List Trip} {kvs : List (α × β)}, DRel K w H ky ea eb zs lvs → DRel K w H ky ea eb ys kvs → DRel K w H ky ea eb (putsT ys zs) (dUpd kvs lvs)
  | [], [], _, _, .nil, r => r
  | z :: zs, p :: lvs, ys, kvs, .cons ⟨h1, ⟨_, h2, h3⟩, _, h4, h5⟩ t, r => by
    show DRel K w H ky ea eb (putsT (putT ys z.1 z.2.1 z.2.2) zs) (dUpd (dPut kvs p.1 p.2) lvs)
    rw [h1]
    exact drel_puts inj t (drel_put inj r p.1 h2 h3 h4 h5)
theorem DRel.firm (f : Firms H H') {ys : List Trip} {kvs : List (α × β)} (r : DRel K w H ky ea eb ys kvs) : DRel K w H' ky ea eb ys kvs := by
  unfold DRel at *
  exact Paired.mapP r fun _ _ ⟨h1, ⟨u, g1, g2⟩, v, h2, h3⟩ => ⟨h1, ⟨u, g1, Rep.firm f g2⟩, v, h2, Rep.firm f h3⟩
theorem rep_kD {v : V} {u : Value} {q : L2.Key} (r : Rep K w H v (kD q)) (h : RelV v u) : keyIs q u = true := by
  cases q with
  | inl i =>
    cases (show Rep K w H v (.int i) from r)
    obtain ⟨t, rfl⟩ := h
    exact keyIs_int i t
  | inr x =>
    cases (show Rep K w H v (.str x) from r)
    obtain ⟨t, rfl⟩ := h
    exact keyIs_str x t
theorem of_keyIs {u : Value} {q : L2.Key} (h : keyIs q u = true) : ∃ v, RelV v u ∧ Rep K w H v (kD q) := by
  rcases keyIs_shape h with ⟨i, t, rfl, rfl⟩ | ⟨x, t, rfl, rfl⟩
  · exact ⟨.int i, ⟨t, rfl⟩, .int i⟩
  · exact ⟨.str x, ⟨t, rfl⟩, .str x⟩
end
/-! a value that is a key, as the model has it -/
section
variable {X : Cx} {pins : List (Addr × Obj)} {σ : L2.St} {H : Hp} {s : Shared}
mutual
theorem nested_of (I : Inv X pins σ H s) : ∀ {v : V} {d : PyData} {u : Value} {k : NestedKey}, Rep X.K X.w H v d → RelV v u → nkOf d = some k → NestedIs s.heap k u
  | _, _, _, _, .non, r, e => by
    cases r
    rw [nkOf] at e; cases e
    exact .none
  | _, _, _, _, .bl b, r, e => by
    cases r
    rw [nkOf] at e; cases e
    exact .bool rfl
  | _, _, _, _, .int i, r, e => by
    obtain ⟨t, rfl⟩ := r
    rw [nkOf] at e; cases e
    exact .int i t
  | _, _, _, _, .str x, r, e => by
    obtain ⟨t, rfl⟩ := r
    rw [nkOf] at e; cases e
    exact .text x t
  | _, _, _, _, .tup h t, r, e => by
    cases r
    obtain ⟨its, rv, ⟨o, ho, hc, n, hd⟩, _⟩ := I.tuple h
    rw [nkOf] at e
    obtain ⟨ks, e1, rfl⟩ := Option.map_eq_some_iff.mp e
    exact .tup ho hc hd (by simpa using nested_all I t rv e1)
  | _, _, _, _, .lst _ _, _, e => by rw [nkOf] at e; cases e
  | _, _, _, _, .dct _ _ _ _ _ _ _, _, e => by rw [nkOf] at e; cases e
theorem nested_all (I : Inv X pins σ H s) : ∀ {vs : List V} {ds : List PyData} {us : List Value} {ks : List NestedKey}, Reps X.K X.w H vs ds → Vals vs us → nksOf ds = some ks → NestedAll s.heap ks us
  | _, _, _, _, .nil, r, e => by
    cases r
    rw [nksOf] at e; cases e
    exact .nil
  | _, _, _, _, .cons h t, r, e => by
    cases r with
    | cons r1 r2 =>
      rw [nksOf] at e
      split at e
      · rename_i k ks e1 e2
        cases e
        exact .cons (nested_of I h r1 e1) (nested_all I t r2 e2)
      · cases e
end
end
/-! ### what a kind of keys gives -/
def Src (s : Shared) (n : Nat) (Rel : Nat → Value → Value → Prop) (Is : Heap → NestedKey → Value → Prop) (zs : List Trip) : Prop := zs.length = n ∧ (∀ i key v, Rel i key v → ∃ y, zs[i]? = some y ∧ y.2.1 = key ∧ y.2.2 = v) ∧ ∀ y ∈ zs, Is s.heap y.1 y.2.1
structure DKit (X : Cx) {α : Type} (ea : α → PyData) where
  ky : α → NestedKey
  inj : ∀ a b, ky a = ky b → a = b
  ok : ∀ a, nkOf (ea a) = some (ky a)
  Is : Heap → NestedKey → Value → Prop
  Of : Heap → Addr → List Trip → Prop
  is : ∀ {pins : List (Addr × Obj)} {σ : L2.St} {H : Hp} {s : Shared} {v : V} {u : Value} {a : α}, Inv X pins σ H s → Rep X.K X.w H v (ea a) → RelV v u → Is s.heap (ky a) u
  ent : ∀ {pins : List (Addr × Obj)} {σ : L2.St} {H : Hp} {s : Shared} {β : Type} {eb : β → PyData} {a : Addr} {o : Obj} {ents : List (NestedKey × V × V)} {kvs : List (α × β)}, Inv X pins σ H s → s.heap.get? a = some o → DObj X.w o ents →
    kvs.map (fun p => nkOf (ea p.1)) = ents.map (fun x => some x.1) → Reps X.K X.w H (ents.map (fun x => x.2.1)) (kvs.map fun p => ea p.1) → Reps X.K X.w H (ents.map (fun x => x.2.2)) (kvs.map fun p => eb p.2) →
    ∃ ys, Of s.heap a ys ∧ DRel X.K X.w H ky ea eb ys kvs
  obj : ∀ {h : Heap} {H : Hp} {β : Type} {eb : β → PyData} {a : Addr} {ys : List Trip} {kvs : List (α × β)}, Of h a ys → DRel X.K X.w H ky ea eb ys kvs →
    ∃ o ents, h.get? a = some o ∧ DObj X.w o ents ∧ kvs.map (fun p => nkOf (ea p.1)) = ents.map (fun x => some x.1) ∧ Reps X.K X.w H (ents.map (fun x => x.2.1)) (kvs.map fun p => ea p.1) ∧ Reps X.K X.w H (ents.map (fun x => x.2.2)) (kvs.map fun p => eb p.2)
  new : ∀ (h : Heap), Of (h.push { cls := .type "dict", data := .dict #[] }) h.objs.size []
  get : ∀ {A : Around} {E : Value → Shared → Prop} {s : Shared} {d : Addr} {k : NestedKey} {u v : Value} {ys : List Trip} {Q : Value → Shared → Prop}, A.units + 16 < cLine → (d == sysModules) = false → Is s.heap k u → Of s.heap d ys → atT ys k = some v → (∀ t, Q v { s with toks := t }) → wpAny (model X.prog X.w) A (getItem (.ref d) u) Q E s
  isin : ∀ {A : Around} {E : Value → Shared → Prop} {s : Shared} {d : Addr} {k : NestedKey} {u : Value} {ys : List Trip} {Q : Value → Shared → Prop}, A.units + 16 < cLine → (d == sysModules) = false → Is s.heap k u → Of s.heap d ys → (∀ t, Q (.bool (atT ys k).isSome) { s with toks := t }) → wpAny (model X.prog X.w) A (compareOp .In u (.ref d)) Q E s
  notin : ∀ {A : Around} {E : Value → Shared → Prop} {s : Shared} {d : Addr} {k : NestedKey} {u : Value} {ys : List Trip} {Q : Value → Shared → Prop}, A.units + 16 < cLine → (d == sysModules) = false → Is s.heap k u → Of s.heap d ys → (∀ t, Q (.bool (!(atT ys k).isSome)) { s with toks := t }) → wpAny (model X.prog X.w) A (compareOp .NotIn u (.ref d)) Q E s
  get1 : ∀ {A : Around} {E : Value → Shared → Prop} {s : Shared} {d : Addr} {k : NestedKey} {u : Value} {ys : List Trip} {Q : Value → Shared → Prop}, A.units + 16 < cLine → (d == sysModules) = false → Is s.heap k u → Of s.heap d ys → (∀ t, Q ((atT ys k).getD .none) { s with toks := t }) → wpAny (model X.prog X.w) A (call (.builtin "dict.get") [.ref d, u]) Q E s
  get2 : ∀ {A : Around} {E : Value → Shared → Prop} {s : Shared} {d : Addr} {k : NestedKey} {u x : Value} {ys : List Trip} {Q : Value → Shared → Prop}, A.units + 16 < cLine → (d == sysModules) = false → Is s.heap k u → Of s.heap d ys → (∀ t, Q ((atT ys k).getD x) { s with toks := t }) → wpAny (model X.prog X.w) A (call (.builtin "dict.get") [.ref d, u, x]) Q E s
  put : ∀ {A : Around} {E : Value → Shared → Prop} {s : Shared} {d : Addr} {k : NestedKey} {u v : Value} {ys : List Trip} {Q : Unit → Shared → Prop}, A.units + 16 < cLine → Is s.heap k u → Of s.heap d ys → ys.length ≤ sizeLine → (∀ h' t, Of h' d (putT ys k u v) → Heap.SameBut d s.heap h' → Q () { s with heap := h', toks := t }) → wpAny (model X.prog X.w) A (setItem (.ref d) u v) Q E s
  pairs : ∀ {A : Around} {E : Value → Shared → Prop} {s : Shared} {T : String} {a : Addr} {fp : List Addr} {n : Nat} {Rel : Nat → Value → Value → Prop} {OK : Heap → Prop} {zs : List Trip} {Q : Value → Shared → Prop}, PairArg X.prog X.w T a fp [] n Rel OK → A.handled = none → A.units + 16 < cLine → OK s.heap → Src s n Rel Is zs → n ≤ sizeLine →
    (∀ h' t, Of h' s.heap.objs.size (putsT [] zs) → (∀ b o, s.heap.get? b = some o → h'.get? b = some o) → Q (.ref s.heap.objs.size) { s with heap := h', toks := t }) → wpAny (model X.prog X.w) A (call (.type "dict") [.ref a]) Q E s
  upd : ∀ {A : Around} {E : Value → Shared → Prop} {s : Shared} {T : String} {a d : Addr} {fp : List Addr} {n : Nat} {Rel : Nat → Value → Value → Prop} {OK : Heap → Prop} {ys zs : List Trip} {Q : Value → Shared → Prop}, PairArg X.prog X.w T a fp [] n Rel OK → A.handled = none → A.units + 16 < cLine → OK s.heap → d ∉ fp → Src s n Rel Is zs → Of s.heap d ys → ys.length + n ≤ sizeLine →
    (∀ h' t, Of h' d (putsT ys zs) → (∀ b o, b ≠ d → s.heap.get? b = some o → h'.get? b = some o) → Q .none { s with heap := h', toks := t }) → wpAny (model X.prog X.w) A (call (.builtin "dict.update") [.ref d, .ref a]) Q E s
  len : ∀ {A : Around} {E : Value → Shared → Prop} {s : Shared} {d : Addr} {ys : List Trip} {Q : Value → Shared → Prop}, (d == sysModules) = false → Of s.heap d ys → ys.length ≤ sizeLine → (∀ t t', Q (.int ys.length t) { s with toks := t' }) → wpAny (model X.prog X.w) A (call (.builtin "len") [.ref d]) Q E s
  disp : ∀ {A : Around} {E : Value → Shared → Prop} {s : Shared} {env : Env} {keys : List (Option Expr)} {values : List Expr} {pos : Pos} {Q : Value → Shared → Prop}, A.units + 16 < cLine → keys.all (·.isSome) = true → keys.length = values.length → keys ≠ [] → keys.length ≤ 15 →
    wpAny (model X.prog X.w) A (evalPairs (pairTrees keys values env pos)) (fun vs s1 => ∃ zs : List Trip, vs = zs.map (fun z => (z.2.1, z.2.2)) ∧ (∀ z ∈ zs, Is s1.heap z.1 z.2.1) ∧ Of s1.heap s.heap.objs.size [] ∧
      ∀ h' t, Of h' s.heap.objs.size (putsT [] zs) → Heap.SameBut s.heap.objs.size s1.heap h' → Q (.ref s.heap.objs.size) { s1 with heap := h', toks := t }) E { s with heap := s.heap.push { cls := .type "dict", data := .dict #[] } } →
    wpAny (model X.prog X.w) A (eval (.Dict keys values pos) env) Q E s
end TT

namespace TT
open PyM (fromO)
open PySem PySem.Spec PyProof.Rows L2
/-! ### keys of one number or text -/
abbrev PA : Trip → L2.Key × Value → Prop := fun y kv => y.1 = keyN kv.1 ∧ y.2.2 = kv.2
theorem pa_at (q : L2.Key) : ∀ {ys : List Trip} {kvs : List (L2.Key × Value)}, Paired PA ys kvs → atT ys (keyN q) = valueAt kvs q
  | [], [], .nil => rfl
  | y :: ys, p :: kvs, .cons ⟨h1, h2⟩ t => by
    have ih := pa_at q t
    unfold atT valueAt at *
    rw [List.find?_cons, List.find?_cons, h1]
    by_cases z : p.1 = q
    · subst z
      simp only [decide_true, Option.map_some, h2]
    · have z' : ¬ keyN p.1 = keyN q := fun e => z (keyN_inj e)
      simp only [decide_eq_false z, decide_eq_false z']
      exact ih
theorem pa_some (q : L2.Key) {ys : List Trip} {kvs : List (L2.Key × Value)} (h : Paired PA ys kvs) : (ys.any fun y => decide (y.1 = keyN q)) = (kvs.any fun kv => decide (kv.1 = q)) := by
  induction h with
  | nil => rfl
  | cons h _ ih =>
    rw [List.any_cons, List.any_cons, ih, h.1]
    congr 1
    exact decide_eq_decide.mpr ⟨keyN_inj, fun e => by rw [e]⟩
theorem pa_map (q : L2.Key) (u : Value) {ys : List Trip} {kvs : List (L2.Key × Value)} (h : Paired PA ys kvs) : Paired PA (ys.map fun y => if y.1 = keyN q then (y.1, y.2.1, u) else y) (kvs.map fun kv => if kv.1 = q then (kv.1, u) else kv) := by
  induction h with
  | nil => exact .nil
  | cons h _ ih =>
    rename_i y p _ _ _
    refine .cons ?_ ih
    by_cases z : p.1 = q
    · have z' : y.1 = keyN q := by rw [h.1, z]
      simp only [if_pos z, if_pos z']
      exact ⟨h.1, rfl⟩
    · have z' : ¬ y.1 = keyN q := fun e => z (keyN_inj (by rw [← h.1, e]))
      simp only [if_neg z, if_neg z']
      exact h
theorem paired_app {α β : Type} {F : α → β → Prop} {as bs : List α} {cs ds : List β} (h : Paired F as cs) (g : Paired F bs ds) : Paired F (as ++ bs) (cs ++ ds) := by
  induction h with
  | nil => exact g
  | cons h _ ih => exact .cons h ih
theorem pa_put (q : L2.Key) (kv u : Value) {ys : List Trip} {kvs : List (L2.Key × Value)} (h : Paired PA ys kvs) : Paired PA (putT ys (keyN q) kv u) (stored kvs q u) := by
  unfold putT stored
  rw [pa_some q h]
  split
  · exact pa_map q u h
  · exact paired_app h (.cons ⟨rfl, rfl⟩ .nil)
theorem pa_puts : ∀ {zs : List Trip} {more : List (L2.Key × Value)} {ys : List Trip} {kvs : List (L2.Key × Value)}, Paired PA zs more → Paired PA ys kvs → Paired PA (putsT ys zs) (merged kvs more)
  | [], [], _, _, .nil, r => r
  | z :: zs, p :: more, ys, kvs, .cons ⟨h1, h2⟩ t, r => by
    show Paired PA (putsT (putT ys z.1 z.2.1 z.2.2) zs) (merged (stored kvs p.1 p.2) more)
    rw [h1, h2]
    exact pa_puts t (pa_put p.1 _ _ r)
theorem pa_of {P : List Trip} {Is : NestedKey → Value → Prop} (f : ∀ k u, Is k u → ∃ q, k = keyN q ∧ keyIs q u = true) : ∀ {zs : List Trip}, (∀ y ∈ zs, Is y.1 y.2.1) → ∃ kvs : List (L2.Key × Value), Paired PA zs kvs ∧ ∀ (i : Nat) (y : Trip), zs[i]? = some y → ∃ q, kvs[i]? = some (q, y.2.2) ∧ keyIs q y.2.1 = true
  | [], _ => ⟨[], .nil, fun i y e => by simp at e⟩
  | z :: zs, h => by
    obtain ⟨kvs, h1, h2⟩ := pa_of (P := P) f (zs := zs) fun y hy => h y (List.mem_cons_of_mem _ hy)
    obtain ⟨q, e1, e2⟩ := f _ _ (h z List.mem_cons_self)
    refine ⟨(q, z.2.2) :: kvs, .cons ⟨e1, rfl⟩ h1, fun i y e => ?_⟩
    cases i with
    | zero =>
      have : z = y := by simpa using e
      subst this
      exact ⟨q, rfl, e2⟩
    | succ i =>
      obtain ⟨q', g1, g2⟩ := h2 i y (by simpa using e)
      exact ⟨q', by simpa using g1, g2⟩
section
variable {K : PySem.W.Frag} {w : World} {H H' : Hp} {α β : Type} {ea : α → PyData} {eb : β → PyData} {kA : α → L2.Key} {P : Program}
theorem entsA (h : ∀ a, ea a = kD (kA a)) : ∀ {es : List DictEntry} {ents : List (NestedKey × V × V)} {kvs : List (α × β)}, Paired (fun (e : DictEntry) (x : NestedKey × V × V) => e.hash = x.1.hash w ∧ RelV x.2.1 e.key ∧ RelV x.2.2 e.val) es ents →
    kvs.map (fun p => nkOf (ea p.1)) = ents.map (fun x => some x.1) → Reps K w H (ents.map (fun x => x.2.1)) (kvs.map fun p => ea p.1) → Reps K w H (ents.map (fun x => x.2.2)) (kvs.map fun p => eb p.2) →
    ∃ (xs : List (L2.Key × Value)) (ys : List Trip), Pairs (mixKind P w) es xs ∧ Paired PA ys xs ∧ DRel K w H (fun a => keyN (kA a)) ea eb ys kvs ∧ (∀ e ∈ es, ∃ k, (mixKind P w).is k e.key = true ∧ e.hash = (mixKind P w).hash k) ∧ xs.map (fun x => keyN x.1) = ents.map (·.1)
  | [], [], [], .nil, _, _, _ => ⟨[], [], .nil, .nil, .nil, by simp, rfl⟩
  | e :: es, x :: ents, p :: kvs, .cons ⟨h1, h2, h3⟩ t, hk, rk, rv => by
    cases rk with
    | cons rk1 rk2 =>
      cases rv with
      | cons rv1 rv2 =>
        simp only [List.map_cons, List.cons.injEq] at hk
        obtain ⟨xs, ys, a1, a2, a5, a3, a4⟩ := entsA h t hk.2 rk2 rv2
        have e1 := hk.1
        rw [h, nkOf_kD] at e1
        have e1 : keyN (kA p.1) = x.1 := Option.some.inj e1
        have rk0 : Rep K w H x.2.1 (ea p.1) := rk1
        have rk1 : Rep K w H x.2.1 (ea p.1) := rk1
        rw [h] at rk1
        have is1 := rep_kD rk1 h2
        refine ⟨(kA p.1, e.val) :: xs, (keyN (kA p.1), e.key, e.val) :: ys, .cons is1 rfl a1, .cons ⟨rfl, rfl⟩ a2, .cons ⟨rfl, ⟨_, h2, rk0⟩, _, h3, rv1⟩ a5, ?_, by rw [List.map_cons, List.map_cons, a4, e1]⟩
        intro e' he'
        rcases List.mem_cons.mp he' with rfl | he'
        · exact ⟨kA p.1, is1, by rw [h1, ← e1, keyN_h]; rfl⟩
        · exact a3 e' he'
  | [], [], _ :: _, .nil, hk, _, _ => by simp at hk
  | _ :: _, _ :: _, [], .cons _ _, hk, _, _ => by simp at hk
theorem backA (h : ∀ a, ea a = kD (kA a)) : ∀ {es : List DictEntry} {xs : List (L2.Key × Value)} {ys : List Trip} {kvs : List (α × β)}, Pairs (mixKind P w) es xs → (∀ e ∈ es, ∃ k, (mixKind P w).is k e.key = true ∧ e.hash = (mixKind P w).hash k) → Paired PA ys xs → DRel K w H (fun a => keyN (kA a)) ea eb ys kvs →
    ∃ ents : List (NestedKey × V × V), Paired (fun (e : DictEntry) (x : NestedKey × V × V) => e.hash = x.1.hash w ∧ RelV x.2.1 e.key ∧ RelV x.2.2 e.val) es ents ∧ kvs.map (fun p => nkOf (ea p.1)) = ents.map (fun x => some x.1) ∧ Reps K w H (ents.map (fun x => x.2.1)) (kvs.map fun p => ea p.1) ∧ Reps K w H (ents.map (fun x => x.2.2)) (kvs.map fun p => eb p.2) ∧ ents.map (·.1) = xs.map (fun x => keyN x.1)
  | [], [], [], [], .nil, _, _, _ => ⟨[], .nil, rfl, .nil, .nil, rfl⟩
  | e :: es, x :: xs, y :: ys, p :: kvs, .cons i1 e1 t, hk, .cons ⟨g1, g2⟩ t3, .cons ⟨q1, _, v, q2, q3⟩ t2 => by
    obtain ⟨ents, a1, a2, a3, a4, a5⟩ := backA h t (fun e' he' => hk e' (List.mem_cons_of_mem _ he')) t3 t2
    obtain ⟨k, k1, k2⟩ := hk e List.mem_cons_self
    have ek : k = x.1 := (mixKind P w).inj _ _ _ k1 i1
    have ex : x.1 = kA p.1 := keyN_inj (g1.symm.trans q1)
    obtain ⟨kv, r1, r2⟩ := of_keyIs (K := K) (w := w) (H := H) i1
    refine ⟨(keyN x.1, kv, v) :: ents, .cons ⟨by rw [k2, ek]; exact (keyN_h _ _).symm, r1, by rw [e1, ← g2]; exact q2⟩ a1, ?_, .cons ?_ a3, .cons q3 a4, by rw [List.map_cons, List.map_cons, a5]⟩
    · rw [List.map_cons, List.map_cons, a2, h, nkOf_kD, ex]
    · show Rep K w H kv (ea p.1)
      rw [h, ← ex]
      exact r2
end
theorem nodup_keyN {xs : List (L2.Key × Value)} : (xs.map (fun x => keyN x.1)).Nodup ↔ (xs.map (·.1)).Nodup := by
  have : xs.map (fun x => keyN x.1) = (xs.map (·.1)).map keyN := by rw [List.map_map]; rfl
  rw [this]
  exact ⟨List.Pairwise.of_map keyN (fun _ _ h e => h (by rw [e])), fun nd => nd.map keyN fun _ _ h e => h (keyN_inj e)⟩
theorem carries_pa {P : Program} {w : World} : ∀ {zs : List Trip} {kvs : List (L2.Key × Value)}, Paired PA zs kvs → (∀ (i : Nat) (y : Trip), zs[i]? = some y → ∃ q, kvs[i]? = some (q, y.2.2) ∧ keyIs q y.2.1 = true) → Carries (mixKind P w) (zs.map fun z => (z.2.1, z.2.2)) kvs
  | [], [], .nil, _ => trivial
  | z :: zs, p :: kvs, .cons ⟨h1, h2⟩ t, h => by
    obtain ⟨q, e1, e2⟩ := h 0 z rfl
    have e1 : p = (q, z.2.2) := by simpa using e1
    subst e1
    exact ⟨e2, rfl, carries_pa t fun i y e => by
      obtain ⟨q', g1, g2⟩ := h (i + 1) y (by simpa using e)
      exact ⟨q', by simpa using g1, g2⟩⟩
def kitA {X : Cx} {α : Type} {ea : α → PyData} (h : KeyA ea) : DKit X ea where
  ky a := keyN (h.k a)
  inj a b e := h.inj _ _ (keyN_inj e)
  ok a := by rw [h.ok, nkOf_kD]
  Is _ k u := ∃ q, k = keyN q ∧ keyIs q u = true
  Of hp a ys := ∃ kvs, hp.DictOf (mixKind X.prog X.w) a kvs ∧ Paired PA ys kvs
  is I r rv := ⟨h.k _, rfl, rep_kD (by rw [← h.ok]; exact r) rv⟩
  ent := by
    rintro pins σ H s β eb a o ents kvs I ho ⟨hc, ⟨es, n, hd, pr⟩, nd⟩ hk rk rv
    obtain ⟨xs, ys, a1, a2, a5, a3, a4⟩ := entsA (P := X.prog) h.ok pr hk rk rv
    refine ⟨ys, ⟨xs, ⟨o, es, n, ho, hc, hd, fun e he => a3 e (by simpa using he), a1, ?_⟩, a2⟩, a5⟩
    rw [← a4] at nd
    exact nodup_keyN.mp nd
  obj := by
    rintro hp H β eb a ys kvs ⟨xs, ⟨o, es, n, ho, hc, hd, hk, hp', nd⟩, pa⟩ r
    obtain ⟨ents, a1, a2, a3, a4, a5⟩ := backA h.ok hp' (fun e he => hk e (by simpa using he)) pa r
    refine ⟨o, ents, ho, ⟨hc, ⟨es, n, hd, a1⟩, ?_⟩, a2, a3, a4⟩
    rw [a5]
    exact nodup_keyN.mpr nd
  new hp := ⟨[], Heap.DictOf.new hp, .nil⟩
  get := by
    rintro A E s d k u v ys Q hu hd ⟨q, rfl, hq⟩ ⟨kvs, dd, pa⟩ hv h
    rw [pa_at q pa] at hv
    exact wpAny_getItem_of (knd := mixKind X.prog X.w) hq dd.mapOf hv (h _)
  isin := by
    rintro A E s d k u ys Q hu hd ⟨q, rfl, hq⟩ ⟨kvs, dd, pa⟩ h
    simp only [pa_at q pa] at h
    exact wpAny_in_of (knd := mixKind X.prog X.w) hq hd dd.mapOf (h _)
  notin := by
    rintro A E s d k u ys Q hu hd ⟨q, rfl, hq⟩ ⟨kvs, dd, pa⟩ h
    simp only [pa_at q pa] at h
    exact wpAny_notIn_of (knd := mixKind X.prog X.w) hq hd dd.mapOf (h _)
  get1 := by
    rintro A E s d k u ys Q hu hd ⟨q, rfl, hq⟩ ⟨kvs, dd, pa⟩ h
    simp only [pa_at q pa] at h
    exact call_meetsIn PySem.F.slot_dict_get dd.typeIs PySem.F.entry_dict_get (PySem.F.args_dict_get_2 _ _) (meets_dict_get (mixKind X.prog X.w) d hq hd) ⟨_, dd.mapOf, h _⟩
  get2 := by
    rintro A E s d k u x ys Q hu hd ⟨q, rfl, hq⟩ ⟨kvs, dd, pa⟩ h
    simp only [pa_at q pa] at h
    exact call_meetsIn PySem.F.slot_dict_get dd.typeIs PySem.F.entry_dict_get (PySem.F.args_dict_get_3 _ _ _) (meets_dict_get_default (mixKind X.prog X.w) d hq hd x) ⟨_, dd.mapOf, h _⟩
  len := by
    rintro A E s d ys Q hd ⟨kvs, dd, pa⟩ hz h
    have e : ys.length = kvs.length := Paired.length pa
    rw [sizeLine_eq] at hz
    rw [e] at h hz
    exact call_len_dict hd dd (by omega) (h _ _)
  put := by
    rintro A E s d k u v ys Q hu ⟨q, rfl, hq⟩ ⟨kvs, dd, pa⟩ hz h
    exact wpAny_setItem_pairs (knd := mixKind X.prog X.w) (hsz := by rw [← Paired.length pa]; exact hz) hq dd fun h' dd' hs => h h' _ ⟨_, dd', pa_put q u v pa⟩ hs
  pairs := by
    rintro A E s T a fp n Rel OK zs Q P hh hu ok ⟨hn, hr, hi⟩ hz h
    obtain ⟨kvs, pa, hk⟩ := pa_of (P := zs) (fun k u z => z) hi
    refine call_dict_pairs (knd := mixKind X.prog X.w) (kvs := kvs) P hh ok ⟨by rw [← Paired.length pa]; exact hn, fun i key v r => ?_⟩ hz fun h' tk dd hk => h h' tk ⟨_, dd, pa_puts pa .nil⟩ fun b o e => hk b o (by simp) e
    obtain ⟨y, e1, rfl, rfl⟩ := hr i key v r
    exact hk i y e1
  upd := by
    rintro A E s T a d fp n Rel OK ys zs Q P hh hu ok hdf ⟨hn, hr, hi⟩ ⟨acc, dd, pc⟩ hz h
    obtain ⟨kvs, pa, hk⟩ := pa_of (P := zs) (fun k u z => z) hi
    refine call_update_pairs (knd := mixKind X.prog X.w) (kvs := kvs) P hh ok hdf ⟨by rw [← Paired.length pa]; exact hn, fun i key v r => ?_⟩ dd (by rw [← Paired.length pc]; exact hz) fun h' tk dd hk => h h' tk ⟨_, dd, pa_puts pa pc⟩ fun b o e1 e => hk b o e1 (by simp) e
    obtain ⟨y, e1, rfl, rfl⟩ := hr i key v r
    exact hk i y e1
  disp := by
    rintro A E s env keys values pos Q hu hall hl h0 h15 h
    refine wpAny_Dict_walk (knd := mixKind X.prog X.w) hall hl h0 h15 (thn h fun vs s1 ⟨zs, e, hi, ⟨kvs0, dd, p0⟩, q⟩ => ?_)
    subst e
    cases p0
    obtain ⟨kvs, pa, hk⟩ := pa_of (P := zs) (fun k u z => z) hi
    exact ⟨kvs, carries_pa pa hk, dd, fun h' dd' hs => q h' _ ⟨_, dd', pa_puts pa .nil⟩ hs⟩
/-! ### keys that are tuples -/
abbrev trH : NestedKey × Addr × Value → Trip := fun x => (x.1, .ref x.2.1, x.2.2)
theorem tr_at (k : NestedKey) (xs : List (NestedKey × Addr × Value)) : atT (xs.map trH) k = (atKey xs k).map (·.2) := by
  unfold atT atKey
  induction xs with
  | nil => rfl
  | cons x xs ih =>
    rw [List.map_cons, List.find?_cons, List.find?_cons]
    cases decide (x.1 = k) with
    | true => rfl
    | false => exact ih
theorem tr_put (k : NestedKey) (b : Addr) (v : Value) (xs : List (NestedKey × Addr × Value)) : putT (xs.map trH) k (.ref b) v = (storedH xs k b v).map trH := by
  unfold putT storedH
  rw [anyT_at, tr_at, Option.isSome_map]
  split
  · rw [List.map_map, List.map_map]
    refine List.map_congr_left fun x _ => ?_
    simp only [Function.comp, putAt, trH]
    split <;> rfl
  · rw [List.map_append]; rfl
theorem tr_puts : ∀ (ps xs : List (NestedKey × Addr × Value)), putsT (xs.map trH) (ps.map trH) = (storedAllH xs ps).map trH
  | [], xs => rfl
  | p :: ps, xs => by
    show putsT (putT (xs.map trH) p.1 (.ref p.2.1) p.2.2) (ps.map trH) = (storedAllH (storedH xs p.1 p.2.1 p.2.2) ps).map trH
    rw [tr_put]
    exact tr_puts ps _
section
variable {X : Cx} {pins : List (Addr × Obj)} {σ : L2.St} {H : Hp} {s : Shared} {α β : Type} {ea : α → PyData} {eb : β → PyData}
theorem entsT (h : KeyT ea) (I : Inv X pins σ H s) : ∀ {es : List DictEntry} {ents : List (NestedKey × V × V)} {kvs : List (α × β)}, Paired (fun (e : DictEntry) (x : NestedKey × V × V) => e.hash = x.1.hash X.w ∧ RelV x.2.1 e.key ∧ RelV x.2.2 e.val) es ents →
    kvs.map (fun p => nkOf (ea p.1)) = ents.map (fun x => some x.1) → Reps X.K X.w H (ents.map (fun x => x.2.1)) (kvs.map fun p => ea p.1) → Reps X.K X.w H (ents.map (fun x => x.2.2)) (kvs.map fun p => eb p.2) →
    ∃ xs : List (NestedKey × Addr × Value), es = xs.map (entryOfKey (nestedKind X.prog X.w)) ∧ DRel X.K X.w H h.n.k ea eb (xs.map trH) kvs ∧ (∀ x ∈ xs, (nestedKind X.prog X.w).is s.heap x.1 x.2.1) ∧ xs.map (·.1) = ents.map (·.1)
  | [], [], [], .nil, _, _, _ => ⟨[], rfl, .nil, by simp, rfl⟩
  | e :: es, x :: ents, p :: kvs, .cons ⟨h1, h2, h3⟩ t, hk, rk, rv => by
    cases rk with
    | cons rk1 rk2 =>
      cases rv with
      | cons rv1 rv2 =>
        simp only [List.map_cons, List.cons.injEq] at hk
        obtain ⟨xs, a1, a2, a3, a4⟩ := entsT h I t hk.2 rk2 rv2
        have e1 := hk.1
        rw [h.n.ok] at e1
        have e1 : h.n.k p.1 = x.1 := Option.some.inj e1
        have rk1 : Rep X.K X.w H x.2.1 (ea p.1) := rk1
        obtain ⟨b, hb⟩ : ∃ b, x.2.1 = .ref b := by
          obtain ⟨ds, hds⟩ := h.tup p.1
          rw [hds] at rk1
          cases hx : x.2.1 with
          | ref b => exact ⟨b, rfl⟩
          | _ => rw [hx] at rk1; cases rk1
        have h2' := h2
        rw [hb] at h2'
        have ek : e.key = .ref b := h2'
        have is1 : NestedIs s.heap (h.n.k p.1) (.ref b) := nested_of I rk1 (by rw [← ek]; exact h2) (h.n.ok p.1)
        refine ⟨(h.n.k p.1, b, e.val) :: xs, ?_, .cons ⟨rfl, ⟨x.2.1, by rw [hb]; rfl, rk1⟩, _, h3, rv1⟩ a2, ?_, by rw [List.map_cons, List.map_cons, a4, e1]⟩
        · rw [List.map_cons, ← a1]
          congr 1
          show e = ⟨(h.n.k p.1).hash X.w, .ref b, e.val⟩
          rw [e1, ← h1, ← ek]
        · intro y hy
          rcases List.mem_cons.mp hy with rfl | hy
          · exact ⟨is1, h.n.dep _⟩
          · exact a3 y hy
  | [], [], _ :: _, .nil, hk, _, _ => by simp at hk
  | _ :: _, _ :: _, [], .cons _ _, hk, _, _ => by simp at hk
theorem backT (h : KeyT ea) : ∀ {xs : List (NestedKey × Addr × Value)} {kvs : List (α × β)}, DRel X.K X.w H h.n.k ea eb (xs.map trH) kvs →
    ∃ ents : List (NestedKey × V × V), Paired (fun (e : DictEntry) (x : NestedKey × V × V) => e.hash = x.1.hash X.w ∧ RelV x.2.1 e.key ∧ RelV x.2.2 e.val) (xs.map (entryOfKey (nestedKind X.prog X.w))) ents ∧ kvs.map (fun p => nkOf (ea p.1)) = ents.map (fun x => some x.1) ∧ Reps X.K X.w H (ents.map (fun x => x.2.1)) (kvs.map fun p => ea p.1) ∧ Reps X.K X.w H (ents.map (fun x => x.2.2)) (kvs.map fun p => eb p.2) ∧ ents.map (·.1) = xs.map (·.1)
  | [], [], .nil => ⟨[], .nil, rfl, .nil, .nil, rfl⟩
  | x :: xs, p :: kvs, .cons ⟨q1, ⟨kv, k1, k2⟩, v, q2, q3⟩ t2 => by
    obtain ⟨ents, a1, a2, a3, a4, a5⟩ := backT h t2
    have q1 : x.1 = h.n.k p.1 := q1
    refine ⟨(x.1, kv, v) :: ents, .cons ⟨rfl, k1, q2⟩ a1, ?_, .cons k2 a3, .cons q3 a4, by rw [List.map_cons, List.map_cons, a5]⟩
    rw [List.map_cons, List.map_cons, a2, h.n.ok, q1]
end
theorem src_tr {s : Shared} {n : Nat} {Rel : Nat → Value → Value → Prop} {Q : NestedKey → Addr → Prop} : ∀ {zs : List Trip}, (∀ y ∈ zs, ∃ b, y.2.1 = .ref b ∧ Q y.1 b) → ∃ ps : List (NestedKey × Addr × Value), zs = ps.map trH ∧ ∀ x ∈ ps, Q x.1 x.2.1
  | [], _ => ⟨[], rfl, by simp⟩
  | z :: zs, h => by
    obtain ⟨ps, h1, h2⟩ := src_tr (s := s) (n := n) (Rel := Rel) (Q := Q) (zs := zs) fun y hy => h y (List.mem_cons_of_mem _ hy)
    obtain ⟨b, e1, e2⟩ := h z List.mem_cons_self
    refine ⟨(z.1, b, z.2.2) :: ps, by rw [List.map_cons, ← h1]; congr 1; show z = (z.1, .ref b, z.2.2); rw [← e1], fun x hx => ?_⟩
    rcases List.mem_cons.mp hx with rfl | hx
    · exact e2
    · exact h2 x hx
theorem carries_tr {P : Program} {w : World} {h : Heap} : ∀ {ps : List (NestedKey × Addr × Value)}, (∀ x ∈ ps, (nestedKind P w).is h x.1 x.2.1) → CarriesH (nestedKind P w) h ((ps.map trH).map fun z => (z.2.1, z.2.2)) ps
  | [], _ => trivial
  | p :: ps, hp => ⟨rfl, rfl, hp p List.mem_cons_self, carries_tr fun x hx => hp x (List.mem_cons_of_mem _ hx)⟩
def kitT {X : Cx} {α : Type} {ea : α → PyData} (h : KeyT ea) : DKit X ea where
  ky := h.n.k
  inj := h.n.inj
  ok := h.n.ok
  Is hp k u := ∃ b, u = .ref b ∧ (nestedKind X.prog X.w).is hp k b
  Of hp a ys := ∃ xs, hp.DictOfH (nestedKind X.prog X.w) a xs ∧ ys = xs.map trH
  is := by
    intro pins σ H s v u a I r rv
    obtain ⟨b, hb⟩ : ∃ b, v = .ref b := by
      obtain ⟨ds, hds⟩ := h.tup a
      rw [hds] at r
      cases v with
      | ref b => exact ⟨b, rfl⟩
      | _ => cases r
    subst hb
    obtain rfl : u = .ref b := rv
    exact ⟨b, rfl, nested_of I r rfl (h.n.ok a), h.n.dep a⟩
  ent := by
    rintro pins σ H s β eb a o ents kvs I ho ⟨hc, ⟨es, n, hd, pr⟩, nd⟩ hk rk rv
    obtain ⟨xs, a1, a2, a3, a4⟩ := entsT h I pr hk rk rv
    exact ⟨xs.map trH, ⟨xs, ⟨o, es, n, ho, hc, hd, a1, a3, by rw [a4]; exact nd⟩, rfl⟩, a2⟩
  obj := by
    rintro hp H β eb a ys kvs ⟨xs, ⟨o, es, n, ho, hc, hd, he, hi, nd⟩, rfl⟩ r
    obtain ⟨ents, a1, a2, a3, a4, a5⟩ := backT h r
    exact ⟨o, ents, ho, ⟨hc, ⟨es, n, hd, by rw [he]; exact a1⟩, by rw [a5]; exact nd⟩, a2, a3, a4⟩
  new hp := ⟨[], Heap.DictOfH.new hp, rfl⟩
  get := by
    rintro A E s d k u v ys Q hu hd ⟨b, rfl, hq⟩ ⟨xs, dd, rfl⟩ hv h
    rw [tr_at] at hv
    obtain ⟨p, hp, rfl⟩ := Option.map_eq_some_iff.mp hv
    exact wpAny_getItem_heap (show A.units + 1 + 8 < cLine by omega) hq dd hp (h _)
  isin := by
    rintro A E s d k u ys Q hu hd ⟨b, rfl, hq⟩ ⟨xs, dd, rfl⟩ h
    simp only [tr_at, Option.isSome_map] at h
    exact wpAny_in_heap (show A.units + 1 + 8 < cLine by omega) hq hd dd (h _)
  notin := by
    rintro A E s d k u ys Q hu hd ⟨b, rfl, hq⟩ ⟨xs, dd, rfl⟩ h
    simp only [tr_at, Option.isSome_map] at h
    exact wpAny_notIn_heap (show A.units + 1 + 8 < cLine by omega) hq hd dd (h _)
  get1 := by
    rintro A E s d k u ys Q hu hd ⟨b, rfl, hq⟩ ⟨xs, dd, rfl⟩ h
    simp only [tr_at] at h
    exact call_meetsIn PySem.F.slot_dict_get dd.typeIs PySem.F.entry_dict_get (PySem.F.args_dict_get_2 _ _) (meetsH_dict_get (nestedKind X.prog X.w) d b hd) ⟨show A.units + 1 + 8 < cLine by omega, k, xs, hq, dd, h _⟩
  get2 := by
    rintro A E s d k u x ys Q hu hd ⟨b, rfl, hq⟩ ⟨xs, dd, rfl⟩ h
    simp only [tr_at] at h
    exact call_meetsIn PySem.F.slot_dict_get dd.typeIs PySem.F.entry_dict_get (PySem.F.args_dict_get_3 _ _ _) (meetsH_dict_get_default (nestedKind X.prog X.w) d b hd x) ⟨show A.units + 1 + 8 < cLine by omega, k, xs, hq, dd, h _⟩
  len := by
    rintro A E s d ys Q hd ⟨xs, dd, rfl⟩ hz h
    rw [sizeLine_eq] at hz
    simp only [List.length_map] at h hz
    exact call_len_dictH hd dd (by omega) (h _ _)
  put := by
    rintro A E s d k u v ys Q hu ⟨b, rfl, hq⟩ ⟨xs, dd, rfl⟩ hz h
    exact wpAny_setItem_heap (hsz := by simpa using hz) (show A.units + 1 + 8 < cLine by omega) hq dd fun h' dd' hs => h h' _ ⟨_, dd', tr_put k b v xs⟩ hs
  pairs := by
    rintro A E s T a fp n Rel OK zs Q P hh hu ok ⟨hn, hr, hi⟩ hz h
    obtain ⟨ps, rfl, hp⟩ := src_tr (s := s) (n := n) (Rel := Rel) hi
    refine call_dict_pairsH (knd := nestedKind X.prog X.w) (ps := ps) P hh (show A.units + 1 + 1 + 8 < cLine by omega) ok ⟨by simpa using hn, fun i key v r => ?_⟩ (fun h' hk x hx => nestedKind_stays.stays (fun b o vs m e _ => hk b o (Nat.ne_of_lt (Heap.lt_size e)) (by simp) e) (hp x hx)) hz fun h' tk dd hk => h h' tk ⟨_, dd, tr_puts ps []⟩ fun b o e => hk b o (by simp) e
    obtain ⟨y, e1, rfl, rfl⟩ := hr i key v r
    rw [List.getElem?_map] at e1
    obtain ⟨p, e2, rfl⟩ := Option.map_eq_some_iff.mp e1
    exact ⟨p.1, p.2.1, e2, rfl⟩
  upd := by
    rintro A E s T a d fp n Rel OK ys zs Q P hh hu ok hdf ⟨hn, hr, hi⟩ ⟨xs, dd, rfl⟩ hz h
    obtain ⟨ps, rfl, hp⟩ := src_tr (s := s) (n := n) (Rel := Rel) hi
    have dd0 := dd
    obtain ⟨o, es, ep, ho, _, hd, _, his, _⟩ := dd0
    refine call_update_pairsH (knd := nestedKind X.prog X.w) (ps := ps) P hh (show A.units + 1 + 8 < cLine by omega) ok hdf ⟨by simpa using hn, fun i key v r => ?_⟩ (fun h' hk x hx => HeapKind.Stays.but nestedKind_stays ⟨o, es, ep, ho, hd⟩ h' hk _ _ ?_) dd (by simpa using hz) fun h' tk dd hk => h h' tk ⟨_, dd, tr_puts ps xs⟩ fun b o e1 e => hk b o e1 (by simp) e
    · obtain ⟨y, e1, rfl, rfl⟩ := hr i key v r
      rw [List.getElem?_map] at e1
      obtain ⟨p, e2, rfl⟩ := Option.map_eq_some_iff.mp e1
      exact ⟨p.1, p.2.1, e2, rfl⟩
    · rcases List.mem_append.mp hx with hx | hx
      · exact his x hx
      · exact hp x hx
  disp := by
    rintro A E s env keys values pos Q hu hall hl h0 h15 h
    have hn := pairTrees_length keys values env pos hall hl
    have hp0 : pairTrees keys values env pos ≠ [] := by
      intro he
      rw [he] at hn
      exact h0 (List.length_eq_zero_iff.mp hn.symm)
    rw [arm_eval_Dict, zip_pairTrees keys values env pos hall hl, dictDisplay_pairs _ hp0 (by rw [hn]; omega)]
    refine wpAny_bind (wpAny_standAt (wpAny_bind (wpAny_subDictH (knd := nestedKind X.prog X.w) (Q := fun d s' => wpAny (model X.prog X.w) A (pure (Value.ref d)) Q E s') (show A.units + 8 < cLine by omega) (by rw [hn]; exact h15) (thn h fun vs s1 ⟨zs, e, hi, ⟨xs0, dd, p0⟩, q⟩ => ?_))))
    subst e
    have ex : xs0 = [] := by cases xs0 with
      | nil => rfl
      | cons _ _ => cases p0
    subst ex
    obtain ⟨ps, rfl, hp⟩ := src_tr (s := s1) (n := 0) (Rel := fun _ _ _ => True) hi
    exact ⟨ps, carries_tr hp, dd, fun h' tk dd' hs => wpAny_pure (q h' tk ⟨_, dd', tr_puts ps []⟩ hs)⟩
end TT

namespace TT
open PyM (fromO)
open PySem PySem.Spec PyProof.Rows L2
/-! ### a dict, read -/
theorem kB_key {K : PySem.W.Frag} {w : World} {mt : Addr → Prop} {H H' : Hp} {v : V} {d : PyData} {k : NestedKey} (e : nkOf d = some k) (h : kB K w mt H H' v d) : Rep K w H' v d := by
  rcases h with h | ⟨_, _, _, _, rfl, _⟩ | ⟨_, _, _, _, rfl, _⟩
  · exact h
  · rw [nkOf] at e; cases e
  · rw [nkOf] at e; cases e
/-- a dict's object, whoever may write it -/
theorem kB_obj {X : Cx} {pins : List (Addr × Obj)} {σ : L2.St} {H : Hp} {s : Shared} {mt : Addr → Prop} {H1 : Hp} {v : V} {kvs : List (PyData × PyData)} (I : Inv X pins σ H s) (h : kB X.K X.w mt H1 H v (.dict kvs)) :
    ∃ a o ents, v = .ref a ∧ (a == sysModules) = false ∧ s.heap.get? a = some o ∧ DObj X.w o ents ∧ ents.length ≤ sizeLine ∧ kvs.map (fun p => nkOf p.1) = ents.map (fun x => some x.1) ∧ Reps X.K X.w H (ents.map (fun x => x.2.1)) (kvs.map (·.1)) ∧ Reps X.K X.w H (ents.map (fun x => x.2.2)) (kvs.map (·.2)) ∧
      ((∃ u, H a = some (.frz o u)) ∨ (H a = some (DN a o) ∧ ¬ mt a)) := by
  rcases h with h | ⟨_, _, _, _, e, _⟩ | ⟨a, u, kvs', rfl, e, h2, h3, h4⟩
  · cases h with
    | dct g0 g1 g2 g3 g4 g5 g6 => exact ⟨_, _, _, rfl, g1, (I.hok _ _ g0).1, g2, g3, g4, g5, g6, .inl ⟨_, g0⟩⟩
  · cases e
  · cases e
    cases h3 with
    | n g1 g2 g3 g4 g5 g6 => exact ⟨_, _, _, rfl, g1, (I.hok _ _ h2).1, g2, g3, g4, g5, g6, .inr ⟨h2, h4⟩⟩
theorem paired_len {α β : Type} {F : α → β → Prop} {as : List α} {bs : List β} (h : Paired F as bs) : as.length = bs.length := Paired.length h
section
variable {α β : Type} {ea : α → PyData} {eb : β → PyData}
theorem dct_keys (kvs : List (α × β)) (f : PyData → Option NestedKey) : (kvs.map fun p => (ea p.1, eb p.2)).map (fun p => f p.1) = kvs.map fun p => f (ea p.1) := by rw [List.map_map]; rfl
theorem dct_fst (kvs : List (α × β)) : (kvs.map fun p => (ea p.1, eb p.2)).map (·.1) = kvs.map fun p => ea p.1 := by rw [List.map_map]; rfl
theorem dct_snd (kvs : List (α × β)) : (kvs.map fun p => (ea p.1, eb p.2)).map (·.2) = kvs.map fun p => eb p.2 := by rw [List.map_map]; rfl
theorem kB_dct {X : Cx} {pins : List (Addr × Obj)} {σ : L2.St} {H : Hp} {s : Shared} {mt : Addr → Prop} {H1 : Hp} {v : V} {u : Value} {kvs : List (α × β)} (k : DKit X ea) (I : Inv X pins σ H s) (h : kB X.K X.w mt H1 H v (eDct ea eb kvs)) (r : RelV v u) :
    ∃ a ys, v = .ref a ∧ u = .ref a ∧ (a == sysModules) = false ∧ k.Of s.heap a ys ∧ DRel X.K X.w H k.ky ea eb ys kvs ∧ ys.length ≤ sizeLine ∧ s.TypeIs (.ref a) "dict" ∧ (∀ b, Value.ref a = .ref b → ∃ ob, s.heap.get? b = some ob ∧ ob.dict = none) := by
  obtain ⟨a, o, ents, rfl, h1, ho, h2, h3, h4, h5, h6, _⟩ := kB_obj I h
  cases r
  rw [dct_keys] at h4
  rw [dct_fst] at h5
  rw [dct_snd] at h6
  obtain ⟨ys, y1, y2⟩ := k.ent I ho h2 h4 h5 h6
  obtain ⟨hc, _⟩ := id h2
  refine ⟨a, ys, rfl, rfl, h1, y1, y2, ?_, ⟨o, ho, hc.1⟩, fun b e => by cases e; exact ⟨o, ho, hc.2.1⟩⟩
  have := congrArg List.length h4
  simp only [List.length_map] at this
  rw [show ys.length = kvs.length from paired_len y2]
  omega
end
section
variable {X : Cx} {m : Type → Type} [Monad m] [PyM m] {C : Wd X.K X.w m} {W : WX} {H0 : Hp} {R : Slots} {α β γ ρ ε δ : Type} [DecidableEq α] {ea : α → PyData} {eb : β → PyData} {ec : γ → PyData} {er : ρ → PyData} {Rb : ε → Slots} {Rn : δ → Slots}
variable {a b c o e f : Expr} {rest : List Stmt} {md : m (List (α × β))} {mk : m α} {mb : m β} {pos p apos : Pos}
/-- d[k] -/
theorem se_dget (k : DKit X ea) (hu : X.A.units + 64 < cLine) (ha : SB X C W H0 R a (eDct ea eb) md) (hb : SB X C W H0 R b ea mk) (hs : NoSl b) :
    SE X C W H0 R (.Subscript a b pos) eb (md >>= fun d => mk >>= fun q => fromO (dGet d q)) := by
  refine ⟨⟨fun pins s σ H Q I q => ?_⟩⟩
  have t := tR_two (k := kF X.K X.w C.mt) (tb := fun _ _ _ => True) (r := fun x y H2 => ∃ d q b, kB X.K X.w C.mt H2 H2 x (eDct ea eb d) ∧ kB X.K X.w C.mt H2 H2 y (ea q) ∧ dGet d q = some b ∧ ∀ v, Rep X.K X.w H2 v (eb b) → Q v H2) kF_ok q (fun x y H2 i j k1 k2 q2 => by
    obtain ⟨b, e, _, q2⟩ := tR_done q2
    exact ⟨i, j, b, k1, k2, e, fun v r => q2 v H2 (.refl H2) r⟩)
  refine subD_of PySem.F.slot_dict_getitem.lookup hs (thn (ha.run.run pins s σ H _ I t) fun u s1 ⟨x, H1, I1, r1, q1⟩ => thn (hb.run.run pins s1 σ H1 _ I1 q1) fun iv s2 ⟨y, H2, I2, r2, d, kq, b, k1, k2, e, q2⟩ => ?_)
  obtain ⟨l, ys, rfl, rfl, hs, of, dr, hz, ty, _⟩ := kB_dct k I2 k1 r1
  have g := drel_get k.inj kq dr
  rw [e] at g
  obtain ⟨w', v, g1, g2, g3⟩ := g
  exact ⟨ty, k.get (by omega) hs (k.is I2 (kB_key (k.ok kq) k2) r2) of g1 fun t => ⟨v, H2, I2.tok t, g2, q2 v g3⟩⟩
/-- k in d, k not in d -/
def rDIn (X : Cx) (mt : Addr → Prop) (ea : α → PyData) (eb : β → PyData) (neg : Bool) : R2 := fun y x H Q => ∃ d q, kB X.K X.w mt H H x (eDct ea eb d) ∧ kB X.K X.w mt H H y (ea q) ∧ Q (.bl (xor neg (dHas d q))) H
theorem op_dIn {mt : Addr → Prop} (k : DKit X ea) (hu : X.A.units + 64 < cLine) : OpR X (compareOp .In) (rDIn X mt ea eb false) := by
  intro pins s σ H y x u v Q I ry rx ⟨d, q, k1, k2, h⟩
  obtain ⟨l, ys, rfl, rfl, hs, of, dr, hz, ty, _⟩ := kB_dct k I k1 rx
  refine k.isin (by omega) hs (k.is I (kB_key (k.ok q) k2) ry) of fun t => ⟨_, H, I.tok t, ?_, h⟩
  rw [drel_some k.inj q dr, Bool.false_xor]
  rfl
theorem op_dNi {mt : Addr → Prop} (k : DKit X ea) (hu : X.A.units + 64 < cLine) : OpR X (compareOp .NotIn) (rDIn X mt ea eb true) := by
  intro pins s σ H y x u v Q I ry rx ⟨d, q, k1, k2, h⟩
  obtain ⟨l, ys, rfl, rfl, hs, of, dr, hz, ty, _⟩ := kB_dct k I k1 rx
  refine k.notin (by omega) hs (k.is I (kB_key (k.ok q) k2) ry) of fun t => ⟨_, H, I.tok t, ?_, h⟩
  rw [drel_some k.inj q dr, Bool.true_xor]
  rfl
theorem sc_dIn (k : DKit X ea) (hu : X.A.units + 64 < cLine) (ha : SB X C W H0 R a ea mk) (hb : SB X C W H0 R b (eDct ea eb) md) : SC X C W H0 R .In a b (mk >>= fun q => md >>= fun d => pure (dHas d q)) :=
  sc_cmp (op_dIn (mt := C.mt) (eb := eb) k hu) ha hb fun x y σ H Q i j k1 k2 q => ⟨j, i, k2, k1, by rw [Bool.false_xor]; exact (tR_pure q).2 _ H (.refl H) (.bl _)⟩
theorem sc_dNi (k : DKit X ea) (hu : X.A.units + 64 < cLine) (ha : SB X C W H0 R a ea mk) (hb : SB X C W H0 R b (eDct ea eb) md) : SC X C W H0 R .NotIn a b (mk >>= fun q => md >>= fun d => pure (!dHas d q)) :=
  sc_cmp (op_dNi (mt := C.mt) (eb := eb) k hu) ha hb fun x y σ H Q i j k1 k2 q => ⟨j, i, k2, k1, by rw [Bool.true_xor]; exact (tR_pure q).2 _ H (.refl H) (.bl _)⟩
/-- d.get(k), d.get(k, x) -/
theorem se_dget1 (k : DKit X ea) (hu : X.A.units + 64 < cLine) (ho : SB X C W H0 R o (eDct ea eb) md) (he : SB X C W H0 R e ea mk) (hm : M1 X o "get" apos e pos) : SE X C W H0 R (.Call (.Attribute o "get" apos) [e] [] pos) (eOpt eb) (md >>= fun d => mk >>= fun q => pure (dGet d q)) := by
  refine ⟨⟨fun pins s σ H Q I q => ?_⟩⟩
  have t := tR_bind (k := kB X.K X.w C.mt) (ea := eDct ea eb) kF_ok q
  refine wpAny_Call_method hm.base hm.few hm.line PySem.F.plainAttrs_dict PySem.F.slot_dict_get PySem.F.type_dict_get (thn (ho.run.run pins s σ H _ I t) fun u s1 ⟨x, H1, I1, rx, d, e1, k1, t1⟩ => ?_)
  have t2 := tR_bind (k := kB X.K X.w C.mt) (ea := ea) kF_ok t1
  obtain ⟨l, ys, rfl, rfl, hs, of, dr, hz, ty, nd⟩ := kB_dct k I1 k1 rx
  refine ⟨ty, nd, ?_⟩
  rw [hm.trees]
  refine Calls.callWith_builtin rfl (Calls.evalArgs_plain (Calls.spliced_cons (thn (he.run.run pins s1 σ H1 _ I1 t2) fun iv s2 ⟨y, H2, I2, r2, q, e2, k2, t3⟩ => Calls.spliced_nil ?_)))
  obtain ⟨l', ys, e', _, hs, of, dr, hz, ty, nd⟩ := kB_dct k I2 (kB.ext e2 k1) rfl
  cases e'
  have g := drel_get k.inj q dr
  refine k.get1 (by omega) hs (k.is I2 (kB_key (k.ok q) k2) r2) of fun t => ?_
  have t3 := (tR_pure t3).2
  cases h : dGet d q with
  | none =>
    rw [h] at g
    rw [g]
    exact ⟨.non, H2, I2.tok t, rfl, t3 _ H2 (.refl H2) (by rw [h]; exact .non)⟩
  | some b =>
    rw [h] at g
    obtain ⟨w', v, g1, g2, g3⟩ := g
    rw [g1]
    exact ⟨v, H2, I2.tok t, g2, t3 _ H2 (.refl H2) (by rw [h]; exact g3)⟩
theorem se_dget2 (k : DKit X ea) (hu : X.A.units + 64 < cLine) (ho : SB X C W H0 R o (eDct ea eb) md) (he : SB X C W H0 R e ea mk) (hf : SE X C W H0 R f eb mb) (hm : M2 X o "get" apos e f pos) : SE X C W H0 R (.Call (.Attribute o "get" apos) [e, f] [] pos) eb (md >>= fun d => mk >>= fun q => mb >>= fun x => pure ((dGet d q).getD x)) := by
  refine ⟨⟨fun pins s σ H Q I q => ?_⟩⟩
  have t := tR_bind (k := kB X.K X.w C.mt) (ea := eDct ea eb) kF_ok q
  refine wpAny_Call_method hm.base hm.few hm.line PySem.F.plainAttrs_dict PySem.F.slot_dict_get PySem.F.type_dict_get (thn (ho.run.run pins s σ H _ I t) fun u s1 ⟨x, H1, I1, rx, d, e1, k1, t1⟩ => ?_)
  have t2 := tR_bind (k := kB X.K X.w C.mt) (ea := ea) kF_ok t1
  obtain ⟨l, ys, rfl, rfl, hs, of, dr, hz, ty, nd⟩ := kB_dct k I1 k1 rx
  refine ⟨ty, nd, ?_⟩
  rw [hm.trees]
  refine Calls.callWith_builtin rfl (Calls.evalArgs_plain (Calls.spliced_cons (thn (he.run.run pins s1 σ H1 _ I1 t2) fun iv s2 ⟨y, H2, I2, r2, q, e2, k2, t3⟩ => Calls.spliced_cons (thn (hf.run.run pins s2 σ H2 _ I2 (tR_bind (k := kF X.K X.w C.mt) (ea := eb) kF_ok t3)) fun fv s3 ⟨z, H3, I3, r3, x, e3, k3, t4⟩ => Calls.spliced_nil ?_))))
  obtain ⟨l', ys, e', _, hs, of, dr, hz, ty, nd⟩ := kB_dct k I3 (kB.ext e3 (kB.ext e2 k1)) rfl
  cases e'
  have g := drel_get k.inj q dr
  refine k.get2 (x := fv) (by omega) hs (k.is I3 (kB_key (k.ok q) (kB.ext e3 k2)) r2) of fun t => ?_
  have t4 := (tR_pure t4).2
  cases h : dGet d q with
  | none =>
    rw [h] at g
    rw [g]
    exact ⟨z, H3, I3.tok t, r3, t4 _ H3 (.refl H3) (by rw [h]; exact k3)⟩
  | some b =>
    rw [h] at g
    obtain ⟨w', v, g1, g2, g3⟩ := g
    rw [g1]
    exact ⟨v, H3, I3.tok t, g2, t4 _ H3 (.refl H3) (by rw [h]; exact g3)⟩
end
/-! ### new dicts -/
section
variable {α β : Type} {ea : α → PyData} {eb : β → PyData}
theorem pairs_at {K : PySem.W.Frag} {w : World} {H : Hp} {ky : α → NestedKey} : ∀ {vs : List V} {ps : List (α × β)} {us : List Value}, Reps K w H vs (ps.map (eT2 ea eb)) → Vals vs us → ∃ ts : List Addr, us = ts.map Value.ref ∧ Paired (fun (t : Addr) (p : α × β) => ∃ x y, SqT K H t [x, y] ∧ Rep K w H x (ea p.1) ∧ Rep K w H y (eb p.2)) ts ps
  | _, [], _, .nil, r => by
    cases r
    exact ⟨[], rfl, .nil⟩
  | _, p :: ps, _, .cons (v := v) h t, r => by
    cases r with
    | cons r1 r2 =>
      obtain ⟨ts, e1, e2⟩ := pairs_at (ky := ky) t r2
      cases (show Rep K w H v (.tuple [ea p.1, eb p.2]) from h) with
      | tup g1 g2 =>
        rename_i a xs
        cases r1
        obtain ⟨x, xs, rfl, g3, g4⟩ := g2.inv'
        obtain ⟨y, xs, rfl, g5, g6⟩ := g4.inv'
        cases g6
        exact ⟨a :: ts, by rw [e1]; rfl, .cons ⟨x, y, g1, g3, g5⟩ e2⟩
end
theorem cell_of {X : Cx} {α β : Type} {ea : α → PyData} {eb : β → PyData} (k : DKit X ea) {h : Heap} {H : Hp} {a : Addr} {ys : List Trip} {kvs : List (α × β)} (hs : (a == sysModules) = false) (of : k.Of h a ys) (dr : DRel X.K X.w H k.ky ea eb ys kvs) (hz : ys.length ≤ sizeLine) :
    ∃ o, h.get? a = some o ∧ DCell X.K X.w H (DN a o) a (kvs.map fun p => (ea p.1, eb p.2)) := by
  obtain ⟨o, ents, ho, d, h1, h2, h3⟩ := k.obj of dr
  have e := congrArg List.length h1
  simp only [List.length_map] at e
  have e2 : ys.length = kvs.length := paired_len dr
  exact ⟨o, ho, .n hs d (by omega) (by rw [dct_keys]; exact h1) (by rw [dct_fst]; exact h2) (by rw [dct_snd]; exact h3)⟩
theorem dn_ok {P : Program} {w : World} {H : Hp} {h : Heap} {a : Addr} {o : Obj} (ho : h.get? a = some o) : ObjOk P w H h a (DN a o) := ⟨ho, ⟨o, ho⟩, fun h1 h2 e k => k _ e⟩
section
variable {X : Cx} {m : Type → Type} [Monad m] [PyM m] {C : Wd X.K X.w m} {W : WX} {H0 : Hp} {R : Slots} {α β γ : Type} [DecidableEq α] {ea : α → PyData} {eb : β → PyData}
variable {a : Expr} {mps : m (List (α × β))} {pos p : Pos}
theorem sd_nil (k : DKit X ea) : SD X C W H0 R (.Dict [] [] pos) (eDct ea eb) (pure ([] : List (α × β))) := by
  refine ⟨⟨fun pins s σ H Q I q => ?_⟩⟩
  have hs : (s.heap.objs.size == sysModules) = false := beq_eq_false_iff_ne.mpr (Ne.symm (Nat.ne_of_lt I.big))
  have of := k.new s.heap
  refine wpAny_Dict_empty ?_
  obtain ⟨o, ho, dc⟩ := cell_of (eb := eb) (H := H) k hs of (kvs := []) .nil (Nat.zero_le _)
  have hp := I.hok.fresh (Nat.le_refl _)
  have f : Firms H (upd H s.heap.objs.size (DN s.heap.objs.size o)) := fun b x e _ => Same.new hp b x e
  exact ⟨.ref s.heap.objs.size, upd H s.heap.objs.size (DN s.heap.objs.size o), I.laid (t' := s.toks) (fun b u e => Heap.get?_push_of_some _ e) (Nat.le_refl _) (dn_ok ho), rfl, (tR_pure q).2 _ _ (Same.new hp) ⟨_, _, _, rfl, rfl, upd_same, dc.firm f, hp⟩⟩
theorem pairs_src {pins : List (Addr × Obj)} {σ : L2.St} {H : Hp} {s : Shared} (k : DKit X ea) (I : Inv X pins σ H s) : ∀ {ts : List Addr} {ps : List (α × β)}, Paired (fun (t : Addr) (p : α × β) => ∃ x y, SqT X.K H t [x, y] ∧ Rep X.K X.w H x (ea p.1) ∧ Rep X.K X.w H y (eb p.2)) ts ps →
    ∃ zs : List Trip, DRel X.K X.w H k.ky ea eb zs ps ∧ zs.length = ts.length ∧ (∀ y ∈ zs, k.Is s.heap y.1 y.2.1) ∧ ∀ (i : Nat) (t : Addr), ts[i]? = some t → ∃ z, zs[i]? = some z ∧ s.heap.IsTuple t #[z.2.1, z.2.2]
  | [], [], .nil => ⟨[], .nil, rfl, by simp, fun i t e => by simp at e⟩
  | t :: ts, p :: ps, .cons ⟨x, y, h1, h2, h3⟩ r => by
    obtain ⟨zs, a1, a2, a3, a4⟩ := pairs_src k I r
    obtain ⟨its, rv, ht, _⟩ := I.tuple h1
    obtain ⟨u, w', rfl, ru, rw'⟩ := vals2 rv
    refine ⟨(k.ky p.1, u, w') :: zs, .cons ⟨rfl, ⟨x, ru, h2⟩, y, rw', h3⟩ a1, by rw [List.length_cons, List.length_cons, a2], fun z hz => ?_, fun i t' e => ?_⟩
    · rcases List.mem_cons.mp hz with rfl | hz
      · exact k.is I h2 ru
      · exact a3 z hz
    · cases i with
      | zero =>
        have e : t = t' := by simpa using e
        subst e
        exact ⟨_, rfl, ht⟩
      | succ i =>
        obtain ⟨z, g1, g2⟩ := a4 i t' (by simpa using e)
        exact ⟨z, by simpa using g1, g2⟩
end
end TT

namespace TT
open PyM (fromO)
open PySem PySem.Spec PyProof.Rows L2
theorem putsT_len : ∀ (zs ys : List Trip), (putsT ys zs).length ≤ ys.length + zs.length
  | [], ys => Nat.le_refl _
  | z :: zs, ys => by
    have h1 := putsT_len zs (putT ys z.1 z.2.1 z.2.2)
    have h2 := putT_len ys z.1 z.2.1 z.2.2
    show (putsT (putT ys z.1 z.2.1 z.2.2) zs).length ≤ _
    rw [List.length_cons]
    omega
theorem upd_firms {H : Hp} {p : Addr} {o : HO} (h : H p = none) : Firms H (upd H p o) := fun b x e _ => Same.new h b x e
section
variable {X : Cx} {m : Type → Type} [Monad m] [PyM m] {C : Wd X.K X.w m} {W : WX} {H0 : Hp} {R : Slots} {P : Pk} {α β γ ρ ε δ : Type} [DecidableEq α] {ea : α → PyData} {eb : β → PyData} {er : ρ → PyData} {Rb : ε → Slots} {Rn : δ → Slots}
variable {a b c e tg : Expr} {rest sts : List Stmt} {md : m (List (α × β))} {mk : m α} {mb : m β} {mps : m (List (α × β))} {mi : m Int} {pos p p2 pos' : Pos} {mm : m (Out ρ ε δ)}
theorem se_lenD (k : DKit X ea) (hg : Gl X "len") (hm : X.mg "len" = none) (ha : SB X C W H0 R a (eDct ea eb) md) (hs : starEach (a :: []) X.env = (false, eval a X.env) :: starEach [] X.env := by rfl) : SE X C W H0 R (.Call (.Name "len" p) [a] [] pos) eInt (md >>= fun d => pure (d.length : Int)) :=
  sx_callB (id := "len") (r := fun vs H Q => ∃ v d, vs = [v] ∧ kB X.K X.w C.mt H H v (eDct ea eb d) ∧ Q (.int d.length) H) kF_ok (fun pins s σ H xs us Q I r ⟨v, d, e, k1, q⟩ => by
    subst e
    obtain ⟨u, rfl, ru⟩ := vals1 r
    obtain ⟨l, ys, rfl, rfl, hs, of, dr, hz, ty, _⟩ := kB_dct k I k1 ru
    refine k.len hs of hz fun t t' => ⟨.int d.length, H, I.tok t', ⟨t, ?_⟩, q⟩
    rw [show ys.length = d.length from paired_len dr]) hg hm PySem.boot_len (by decide) (by decide) ha (fun v σ H Q d kv _ q => ⟨v, d, rfl, kv, (tR_pure q).2 _ H (.refl H) (.int _)⟩) hs
/-- dict(ps) -/
theorem call_dictL {mt : Addr → Prop} (k : DKit X ea) (hc : X.calm = true) (hu : X.A.units + 64 < cLine) : CallR X (.type "dict") (fun vs H Q => ∃ v ps, vs = [v] ∧ kB X.K X.w mt H H v (eLst (eT2 ea eb) ps) ∧ ∀ p o, H p = none → DCell X.K X.w (upd H p (DN p o)) (DN p o) p ((dOf ps).map fun q => (ea q.1, eb q.2)) → Q (.ref p) (upd H p (DN p o))) := by
  intro pins s σ H vs us Q I rv ⟨v, ps, e, k1, q⟩
  subst e
  obtain ⟨u, rfl, ru⟩ := vals1 rv
  obtain ⟨l, ws, rfl, hl, hr⟩ := kB_lst k1
  cases ru
  obtain ⟨its, ri, ⟨o, n, ho, hcl, hx, hd⟩, hz⟩ := I.list hl
  obtain ⟨ts, rfl, pr⟩ := pairs_at (ky := k.ky) hr ri
  obtain ⟨zs, a1, a2, a3, a4⟩ := pairs_src k I pr
  have lz : zs.length ≤ sizeLine := by
    have e1 := hr.length
    rw [List.length_map] at e1
    have e2 : ts.length = ps.length := paired_len pr
    omega
  have lps : (zs.map fun z => (z.2.1, z.2.2)).length = zs.length := List.length_map ..
  refine k.pairs (T := "list") (zs := zs) (OK := _) (PairArg.list l (ts.map Value.ref).toArray (fun i => ts.getD i 0) (zs.map fun z => (z.2.1, z.2.2))) (I.ok.hd hc) (by omega) ⟨⟨o, n, ho, hcl, hx, hd⟩, by rw [lps, a2]; simp, fun j kv w hj => ?_⟩ ⟨lps.symm, fun i key w hj => ?_, a3⟩ (by rw [lps]; exact lz) fun h' t of keep => ?_
  · rw [List.getElem?_map] at hj
    obtain ⟨z, hz1, hz2⟩ := Option.map_eq_some_iff.mp hj
    have lj : j < ts.length := by rw [← a2]; exact (List.getElem?_eq_some_iff.mp hz1).1
    obtain ⟨z', g1, g2⟩ := a4 j _ (List.getElem?_eq_getElem lj)
    rw [hz1] at g1; cases g1
    cases hz2
    have gd : ts.getD j 0 = ts[j] := by rw [List.getD_eq_getElem?_getD, List.getElem?_eq_getElem lj]; rfl
    refine ⟨?_, .inl (by show s.heap.IsTuple (ts.getD j 0) _; rw [gd]; exact g2)⟩
    show _ = some (Value.ref (ts.getD j 0))
    rw [gd]
    simp [lj]
  · have hj : (zs.map fun z => (z.2.1, z.2.2))[i]? = some (key, w) := hj
    rw [List.getElem?_map] at hj
    obtain ⟨z, hz1, hz2⟩ := Option.map_eq_some_iff.mp hj
    cases hz2
    exact ⟨z, hz1, rfl, rfl⟩
  · have hs : (s.heap.objs.size == sysModules) = false := beq_eq_false_iff_ne.mpr (Ne.symm (Nat.ne_of_lt I.big))
    have lz2 := putsT_len zs []
    obtain ⟨o', ho', dc⟩ := cell_of (eb := eb) (H := H) k hs of (kvs := dOf ps) (drel_puts k.inj a1 .nil) (by simp at lz2; omega)
    have hp := I.hok.fresh (Nat.le_refl _)
    exact ⟨.ref s.heap.objs.size, upd H s.heap.objs.size (DN s.heap.objs.size o'), I.laid (t' := t) keep (Nat.le_refl _) (dn_ok ho'), rfl, q _ _ hp (dc.firm (upd_firms hp))⟩
theorem sd_dictL (k : DKit X ea) (hc : X.calm = true) (hu : X.A.units + 64 < cLine) (hg : Gl X "dict") (hm : X.mg "dict" = none) (ha : SB X C W H0 R a (eLst (eT2 ea eb)) mps) (hs : starEach (a :: []) X.env = (false, eval a X.env) :: starEach [] X.env := by rfl) :
    SD X C W H0 R (.Call (.Name "dict" p) [a] [] pos) (eDct ea eb) (mps >>= fun ps => pure (dOf ps)) :=
  sx_callT kOD_ok (call_dictL (mt := C.mt) (eb := eb) k hc hu) hg hm (by decide +kernel) (by decide) (by decide) ha (fun v σ H Q ps kv _ q => ⟨v, ps, rfl, kv, fun p o hp dc => (tR_pure q).2 _ _ (Same.new hp) ⟨p, _, _, rfl, rfl, upd_same, dc, hp⟩⟩) hs
/-! ### a dict's keys, walked -/
end
def PinD (H : Hp) (d : Addr) (o : Obj) : Prop := (∃ u, H d = some (.frz o u)) ∨ H d = some (DN d o)
theorem keys_paired {w : World} : ∀ {es : List DictEntry} {ents : List (NestedKey × V × V)}, Paired (fun (e : DictEntry) (x : NestedKey × V × V) => e.hash = x.1.hash w ∧ RelV x.2.1 e.key ∧ RelV x.2.2 e.val) es ents → Paired (fun (e : DictEntry) (x : V) => RelV x e.key) es (ents.map (fun x => x.2.1))
  | _, _, .nil => .nil
  | _, _, .cons h t => .cons h.2.1 (keys_paired t)
theorem PinD.at {X : Cx} {pins : List (Addr × Obj)} {σ : L2.St} {H : Hp} {s : Shared} {d : Addr} {o : Obj} (I : Inv X pins σ H s) (h : PinD H d o) : s.heap.get? d = some o := by
  rcases h with ⟨u, h⟩ | h
  · exact (I.hok _ _ h).1
  · exact (I.hok _ _ h).1
def IkD (d : Addr) (o : Obj) (ks : List V) : It := ⟨fun i H => PinD H d o ∧ i < ks.length, fun i H x H' => H' = H ∧ ks[i]? = some x, fun i H => PinD H d o ∧ ks.length ≤ i⟩
theorem turn_D {P : Program} {w : World} {K : PySem.W.Frag} {tg : Expr} {d : Addr} {o : Obj} {es : Array DictEntry} {ep : Nat} {ks : List V} (it : Addr) (hx : o.ExactDict) (hod : o.data = .dict es ep) (hk : Paired (fun (e : DictEntry) (x : V) => RelV x e.key) es.toList ks) :
    Turn P w K tg (IkD d o ks) [it] it (fun i h => h.IsKeyIter it d i ks.length ep) where
  mem := by simp
  obj := fun i h st b hb => by
    have e : b = it := by simpa using hb
    subst e
    obtain ⟨oi, e, c, dd⟩ := st
    exact ⟨oi, e, fun v z => by rw [dd] at z; cases z⟩
  keep := fun i h h' st k => st.at fun oi e => k it (by simp) oi e
  item := by
    intro X hP hw hK hc i pins s σ H E I hf st hg
    subst hP hw hK
    obtain ⟨hd, hi⟩ := hg
    obtain ⟨f0, f1, f2, f3, f4, f5⟩ := hf it (by simp)
    have hgd := hd.at I
    have hl : es.size = ks.length := by have := paired_len hk; simpa using this
    rw [← hl] at st hi
    refine wpAny_pyNext_keys_item_raw st ⟨o, hgd, hx, hod⟩ hi fun h' st' sb => ?_
    have I1 : Inv X pins σ H { s with heap := h' } := I.turned (t' := s.toks) (fun b ob hb e => (sb.2 b hb).trans e) f0 f1 f3 f4 f5
    obtain ⟨oi, e, c, dd⟩ := id st'
    obtain ⟨x, x1, x2⟩ := L2.paired_get hk (i := i) (a := es[i]) (by simp [hi])
    refine ⟨es[i].key, rfl, go_of (s := { s with heap := h' }) e c dd (by decide) ⟨x, H, I1, x2, ⟨rfl, x1⟩, ?_, fun b hb => (hf b hb).1⟩⟩
    show h'.IsKeyIter it d (i + 1) ks.length _
    rw [← hl]
    exact st'
  done := by
    intro X hP hw hK hc i pins s σ H E I hf st hg
    subst hP hw hK
    obtain ⟨hd, hi⟩ := hg
    obtain ⟨f0, f1, f2, f3, f4, f5⟩ := hf it (by simp)
    have hl : es.size = ks.length := by have := paired_len hk; simpa using this
    exact next_key_end (I.ok.hd hc) st (hd.at I) hod hl hi fun h' eb => ⟨rfl, I.turned (t' := s.toks) (fun b ob hb e => eb b ob hb e) f0 f1 f3 f4 f5⟩
  self := fun A i s Q E st h => wpAny_pyIter_keyiter st h
section
variable {X : Cx} {m : Type → Type} [Monad m] [PyM m] {C : Wd X.K X.w m} {W : WX} {H0 : Hp} {R : Slots} {P : Pk} {α β γ : Type} {ea : α → PyData} {eb : β → PyData}
variable {a tg : Expr} {md : m (List (α × β))}
theorem tI_ofM {δ : Type} {σ : L2.St} {H : Hp} {Q : It → Hp → Prop} {k : Kd} {e : δ → PyData} {f : δ → List α} {md : m δ} (h : tI C W H0 R P ea (md >>= fun d => pure (f d)) σ H Q) {Q' : VK}
    (i : ∀ d s' v H', Ext C.mt H H' → C.rel s' H' → k H H' v (e d) → (∀ J, Wk X.K X.w (P H') J ((f d).map ea) → Q J H') → Q' v H') : tR C W H0 R k e md σ H Q' := by
  obtain ⟨s, c, h⟩ := h
  refine ⟨s, c, ?_⟩
  rw [PyM.run_bind] at h
  cases q : PyM.run md s with
  | none => rw [q] at h; exact h
  | some p =>
    obtain ⟨r, s1⟩ := p
    rw [q] at h
    cases r with
    | error x => exact h
    | ok d =>
      have h : AfterI C W P ea σ H Q (PyM.run (pure (f d) : m (List α)) s1) := h
      rw [PyM.run_pure] at h
      exact fun v H' e rl kv => i d s1 v H' e rl kv fun J wk => h J H' e rl wk
/-- for k in d, while d is not written -/
theorem si_dctG {k : Kd} (ha : SX X C W H0 R k a (eDct ea eb) md) (kb : ∀ H H' v d, k H H' v d → kB X.K X.w C.mt H H' v d) (fs : ∀ {H H'}, P H H' → Firms H H') (ps : ∀ {H H' v kvs d o}, k H H v (.dict kvs) → v = .ref d → PinD H d o → P H H' → PinD H' d o) (hh : ∀ H H' v d, k H H' v d → k H' H' v d) :
    SI X C W H0 R P tg a ea (md >>= fun d => pure (d.map (·.1))) := by
  refine ⟨⟨fun pins s σ H Q I q => ?_⟩⟩
  have t := tI_ofM (k := k) (e := eDct ea eb) (f := fun d : List (α × β) => d.map (·.1)) q (Q' := fun v H' => ∃ d, k H H' v (eDct ea eb d) ∧ ∀ J, Wk X.K X.w (P H') J ((d.map (·.1)).map ea) → Q J H') fun d s' v H' e rl kv f => ⟨d, kv, f⟩
  refine thn (ha.run.run pins s σ H _ I t) fun u s1 ⟨v, H1, I1, r1, d, kv, f⟩ => ?_
  have kv' := kb _ _ _ _ kv
  obtain ⟨l, o, ents, rfl, hs, ho, dd, hz, h4, h5, h6, st⟩ := kB_obj (kvs := d.map fun p => (ea p.1, eb p.2)) I1 kv'
  cases r1
  obtain ⟨hx, ⟨es, ep, hd, hp⟩, nd⟩ := dd
  rw [dct_fst] at h5
  have hpk : Paired (fun (e : DictEntry) (x : V) => RelV x e.key) es.toList (ents.map (fun x => x.2.1)) := keys_paired hp
  have hsz : es.size = (ents.map (fun x => x.2.1)).length := by have := paired_len hpk; simpa using this
  have pin : PinD H1 l o := by
    rcases st with st | st
    · exact .inl st
    · exact .inr st.1
  refine iter_keys hs ho hx hd (pi_one (tk := s1.toks) I1 _ (turn_D _ hx hd hpk) ⟨_, Heap.get?_push_size _ rfl, rfl, ?_⟩ (f (IkD l o (ents.map (fun x => x.2.1))) ⟨fun i H' p hi => ?_, fun i H' p hi => ?_, ?_⟩))
  · rw [hsz] <;> rfl
  · have le := h5.length
    simp only [List.length_map] at le hi
    refine ⟨⟨ps (hh _ _ _ _ kv) rfl pin p, by simp only [List.length_map]; omega⟩, fun x H2 y => ?_⟩
    obtain ⟨rfl, y⟩ := y
    obtain ⟨dk, e1, e2⟩ := h5.getV y
    refine ⟨.refl _, dk, ?_, Rep.firm (fs p) e2⟩
    rw [List.map_map]
    exact e1
  · have le := h5.length
    simp only [List.length_map] at le hi
    exact ⟨ps (hh _ _ _ _ kv) rfl pin p, by simp only [List.length_map]; omega⟩
  · have le := h5.length
    simp only [List.length_map] at le ⊢
    omega
theorem kF_pin {v : V} {kvs : List (PyData × PyData)} {d : Addr} {o : Obj} {H H' : Hp} {H1 : Hp} (h : kF X.K X.w C.mt H1 H v (.dict kvs)) (e : v = .ref d) (p : PinD H d o) (f : Firms H H') : PinD H' d o := by
  have h : Rep X.K X.w H v (.dict kvs) := h
  cases h with
  | dct g0 g1 g2 g3 g4 g5 g6 =>
    cases e
    rcases p with ⟨u, p⟩ | p
    · exact .inl ⟨u, f _ _ p trivial⟩
    · rw [g0] at p; cases p
/-- a dict that nobody writes any more -/
theorem si_dct (ha : SE X C W H0 R a (eDct ea eb) md) (fs : ∀ {H H'}, P H H' → Firms H H') : SI X C W H0 R P tg a ea (md >>= fun d => pure (d.map (·.1))) :=
  si_dctG ha (fun _ _ _ _ h => .inl h) fs (fun h e p f => kF_pin h e p (fs f)) fun _ _ _ _ h => h
/-- a dict that is not written while it is walked -/
theorem si_dctB (ha : SB X C W H0 R a (eDct ea eb) md) : SI X C W H0 R (Ext C.mt) tg a ea (md >>= fun d => pure (d.map (·.1))) :=
  si_dctG ha (fun _ _ _ _ h => h) Ext.firms (fun {H H' v kvs d o} h e p f => by
    rcases h with h | ⟨_, _, _, _, e', _⟩ | ⟨a', u, kvs', e1, _, h2, h3, h4⟩
    · exact kF_pin (C := C) (H1 := H) h e p f.firms
    · cases e'
    · rw [e] at e1
      cases e1
      cases h3 with
      | n g1 g2 g3 g4 g5 g6 =>
        rcases p with ⟨u, p⟩ | p
        · exact .inl ⟨u, f _ _ p (.inr trivial)⟩
        · exact .inr (f _ _ p (.inl h4))) fun _ _ _ _ h => h
end
end TT

namespace TT
open PyM (fromO)
open PySem PySem.Spec PyProof.Rows L2
/-! ### dicts of one's own -/
section
variable {X : Cx} {m : Type → Type} [Monad m] [PyM m] {C : Wd X.K X.w m} {W : WX} {H0 : Hp} {R : Slots} {α β γ ρ ε δ : Type} {ea : α → PyData} {eb : β → PyData} {er : ρ → PyData} {Rb : ε → Slots} {Rn : δ → Slots}
variable {a b c e : Expr} {rest sts : List Stmt} {es : List Expr} {md : m (List (α × β))} {mk : m α} {mb : m β} {mi : m Int} {pos p p2 pos' : Pos} {mm : m (Out ρ ε δ)} {eg : γ → List Slot} {mg : m γ}
abbrev eKV (ea : α → PyData) (eb : β → PyData) (d : List (α × β)) : List (PyData × PyData) := d.map fun q => (ea q.1, eb q.2)
theorem sb_ownD {i : Nat} {x : Str} {d : List (α × β)} (hN : X.N[i]? = some x) (hv : Vis X.env.scope x) (hR : R[i]? = some (some (.ownD (eKV ea eb d)))) (hd : (x == ("__debug__" : Str)) = false) (hcd : (x == ("__classdict__" : Str)) = false) :
    SB X C W H0 R (.Name x pos) (eDct ea eb) (pure d) := .weak (pe_var hN hv hd hcd) fun σ H Q h => by
  obtain ⟨⟨s, c⟩, q⟩ := tR_pure h
  obtain ⟨v, e, a, u, h1, h2, h3, h4, h5⟩ := c.slot i _ hR
  exact ⟨v, e, q v H (.refl H) (.inr (.inr ⟨a, u, _, h1, rfl, h2, h3, h5⟩))⟩
theorem kOD_item {K : PySem.W.Frag} {w : World} {C : Wd K w m} {H H' : Hp} {s : PyM.S m} {d : List (α × β)} {v : V} (rl : C.rel s H) (h : kOD K w C.mt H H' v (eDct ea eb d)) : ItemOk K w C.mt H H' v (.ownD (eKV ea eb d)) := by
  obtain ⟨a, u, ds, rfl, e, h2, h3, h4⟩ := h
  have e : PyData.dict (eKV ea eb d) = .dict ds := e
  injection e with e
  subst e
  exact ⟨a, u, rfl, h2, h3, h4, fun z => by
    obtain ⟨o, ho, _⟩ := C.there _ _ _ rl z
    rw [h4] at ho; cases ho⟩
theorem sl_setD {i : Nat} {x : Str} {k : List (α × β) → m (Out ρ ε δ)} {pos' : Pos} (hN : X.N.Nodup) (hi : X.N[i]? = some x) (hx : Loc X.env.scope x) (hl : i < R.length) (h : SD X C W H0 R e (eDct ea eb) md) (hr : ∀ d, SL X C W H0 (R.set i (some (.ownD (eKV ea eb d)))) rest er Rb Rn (k d))
    (hs : swapsWith e (some (.Name x pos')) pos.line X.env = pure false) (hf : X.fn x = true ∨ X.env.scope.names.lookup x = some .local) : SL X C W H0 R (.Assign [.Name x pos'] e pos :: rest) er Rb Rn (md >>= k) :=
  ⟨(pss_cons (ps_set hN hi hx h.run hs hf) (u := fun D σ H => ∃ d, tS C W H0 (R.set i (some (.ownD (eKV ea eb d)))) er Rb Rn (k d) D σ H) ⟨fun pins s σ H D I ⟨a, q⟩ => (hr a).run.run pins s σ H D I q⟩).weak fun D σ H q => by
    obtain ⟨s0, c0, q0⟩ := id q
    refine tS_bind (k := kOD X.K X.w C.mt) (ea := eDct ea eb) q fun d v H' kv e nb ⟨s, c, q⟩ => ⟨d, s, ?_, q⟩
    obtain ⟨b, u, h1, h3, h4, h5, nm⟩ := kOD_item c0.rel kv
    subst h1
    have h0 : H0 b = none := by
      cases z : H0 b with
      | none => rfl
      | some o => rw [c0.base b o z (.inl nm)] at h5; cases h5
    refine c.setD hl h3 h4 h0 nm fun j y hy oy z => ?_
    obtain ⟨v, e1, ok⟩ := c0.slot j y hy
    rw [z] at e1; cases e1
    cases y with
    | ownD kvs =>
      obtain ⟨b', us, k1, k2, _⟩ := ok
      cases k1
      rw [h5] at k2; cases k2
    | own ds =>
      obtain ⟨b', us, k1, k2, _⟩ := ok
      cases k1
      rw [h5] at k2; cases k2
    | frz d => exact oy
    | adr a => exact oy
    | scr ns => exact oy⟩
theorem sm_consD (ha : SD X C W H0 R a (eDct ea eb) md) (hb : SM X C W H0 R es eg mg) (hs : starEach (a :: es) X.env = (false, eval a X.env) :: starEach es X.env := by rfl) :
    SM X C W H0 R (a :: es) (fun p : List (α × β) × γ => .ownD (eKV ea eb p.1) :: eg p.2) (md >>= fun x => mg >>= fun g => pure (x, g)) :=
  ⟨(pa_cons ha.run hb.run hs).weak fun σ H Q q => tX_cons (ka := kOD X.K X.w C.mt) (hb := hb) (f := fun x : List (α × β) => .ownD (eKV ea eb x)) (fun H H' s v a rl kv => kOD_item rl kv) q⟩
theorem sm_oneD (ha : SD X C W H0 R a (eDct ea eb) md) (hs : starEach (a :: []) X.env = (false, eval a X.env) :: starEach [] X.env := by rfl) : SM X C W H0 R [a] (fun x => [.ownD (eKV ea eb x)]) md :=
  ⟨(pa_cons ha.run pa_nil hs).weak fun σ H Q q => by
    obtain ⟨s, c, q⟩ := q
    refine ⟨s, c, ?_⟩
    cases z : PyM.run md s with
    | none => rw [z] at q; exact q
    | some p =>
      obtain ⟨r, s1⟩ := p
      rw [z] at q
      cases r with
      | error x => exact q
      | ok a => exact fun v H' e rl kv => q [v] H' e rl (.cons (kOD_item c.rel kv) (fun _ i y h => by simp at h) .nil)⟩
/-- a dict of its own is locked -/
theorem Cfg.lockD {K : PySem.W.Frag} {w : World} {C : Wd K w m} {s : PyM.S m} {σ : L2.St} {H : Hp} {i : Nat} {a : Addr} {u : HO} {ds : List (PyData × PyData)} {o : Obj} (c : Cfg C H0 R s σ H) (hR : R[i]? = some (some (.ownD ds))) (ha : σ[i]? = some (some (.ref a))) (h : H a = some u) (n : ¬ Firm u) (r : Rep K w (upd H a (.frz o u)) (.ref a) (.dict ds)) (h0 : H0 a = none) (hm : ¬ C.mt a) :
    Cfg C H0 (R.set i (some (.frz (.dict ds)))) s σ (upd H a (.frz o u)) := by
  have hl : i < R.length := by
    rcases Nat.lt_or_ge i R.length with z | z
    · exact z
    · rw [List.getElem?_eq_none z] at hR; cases hR
  have fm : Firms H (upd H a (.frz o u)) := firms_upd' h n
  have nf : ∀ b u', H b = some u' → Firm u' → b ≠ a := fun b u' hu f z => by subst z; rw [h] at hu; cases hu; exact n f
  refine ⟨by rw [List.length_set]; exact c.len, fun b u hb k => ?_, C.other _ _ _ _ c.rel hm nf, fun j y e => ?_, fun j l y y2 n e1 e2 o1 o2 => ?_⟩
  · rw [upd_ne (ne_of_none hb h0)]
    exact c.base b u hb k
  · by_cases q : i = j
    · subst q
      rw [List.getElem?_set_self hl] at e
      cases e
      exact ⟨.ref a, ha, r⟩
    · rw [List.getElem?_set_ne q] at e
      obtain ⟨v, h1, h2⟩ := c.slot j y e
      refine ⟨v, h1, ?_⟩
      cases y with
      | frz d => exact Rep.firm fm h2
      | adr b => exact h2
      | ownD es =>
        obtain ⟨b, us, k1, k2, k3, k4, k5⟩ := h2
        have nb : b ≠ a := fun z => c.apart i j _ _ q hR e trivial trivial (by rw [ha, h1, k1, z])
        exact ⟨b, us, k1, by rw [upd_ne nb]; exact k2, k3.firm fm, k4, k5⟩
      | own es =>
        obtain ⟨b, us, k1, k2, k3, k4, k5⟩ := h2
        have nb : b ≠ a := fun z => c.apart i j _ _ q hR e trivial trivial (by rw [ha, h1, k1, z])
        exact ⟨b, us, k1, by rw [upd_ne nb]; exact k2, Reps.firm fm k3, k4, k5⟩
      | scr ns =>
        obtain ⟨b, k1, k2, k3⟩ := h2
        refine ⟨b, k1, ?_, ?_⟩
        · rcases k3 with ⟨o, k3⟩ | k3
          · exact .inl (.inr ⟨o, fm _ _ k3 trivial⟩)
          · exact .inr k3
        · rcases k3 with ⟨o, k3⟩ | k3
          · exact .inl ⟨o, fm _ _ k3 trivial⟩
          · exact .inr k3
  · have n1 : i ≠ j := fun z => by
      subst z
      rw [List.getElem?_set_self hl] at e1
      cases e1
      exact o1
    have n2 : i ≠ l := fun z => by
      subst z
      rw [List.getElem?_set_self hl] at e2
      cases e2
      exact o2
    rw [List.getElem?_set_ne n1] at e1
    rw [List.getElem?_set_ne n2] at e2
    exact c.apart j l y y2 n e1 e2 o1 o2
theorem SL.lockD (i : Nat) {ds : List (PyData × PyData)} (hR : R[i]? = some (some (.ownD ds))) (h : SL X C W H0 (R.set i (some (.frz (.dict ds)))) sts er Rb Rn mm) : SL X C W H0 R sts er Rb Rn mm :=
  ⟨⟨fun pins s σ H D I q => by
    obtain ⟨s', c, q⟩ := q
    obtain ⟨v, h1, a, u, k1, k2, k3, k4, k5⟩ := c.slot i _ hR
    subst k1
    obtain ⟨o, I2, g⟩ := Inv.freezeD (K := X.K) I k2 k3
    have fm : Firms H (upd H a (.frz o u)) := firms_upd' k2 k3.soft
    exact h.run.run pins s σ _ D I2 ⟨s', c.lockD hR h1 k2 k3.soft (g fm) k4 k5, AfterS.mono fm q⟩⟩⟩
end
/-! ### d[k] = v -/
section
variable {X : Cx} {m : Type → Type} [Monad m] [PyM m] {C : Wd X.K X.w m} {W : WX} {H0 : Hp} {R : Slots} {α β γ ρ ε δ : Type} [DecidableEq α] {ea : α → PyData} {eb : β → PyData} {er : ρ → PyData} {Rb : ε → Slots} {Rn : δ → Slots}
variable {a b c e : Expr} {rest sts : List Stmt} {mk : m α} {mb : m β} {mi : m Int} {pos p p2 pos' : Pos}
/-- d[k] = v -/
def dPutG (d : List (α × β)) (k : α) (v : β) : Option (List (α × β)) := if d.length < 16777216 then some (dPut d k v) else none
theorem d_put {pins : List (Addr × Obj)} {σ : L2.St} {H : Hp} {s : Shared} {l : Addr} {u : HO} {d d' : List (α × β)} {key : α} {val : β} {i v : V} {iv w' : Value} {Q : Unit → Shared → Prop} (k : DKit X ea) (hu : X.A.units + 64 < cLine) (I : Inv X pins σ H s) (h : H l = some u) (dc : DCell X.K X.w H u l (eKV ea eb d))
    (ri : RelV i iv) (hi : Rep X.K X.w H i (ea key)) (rv : RelV v w') (hv : Rep X.K X.w H v (eb val)) (g : dPutG d key val = some d') (q : ∀ o s', Inv X pins σ (upd H l (DN l o)) s' → DCell X.K X.w H (DN l o) l (eKV ea eb d') → Q () s') : wpAny (model X.prog X.w) X.A (setItem (.ref l) iv w') Q X.xe s := by
  unfold dPutG at g
  split at g
  · rename_i hz
    cases g
    obtain ⟨l', ys, e, _, hs, of, dr, hzy, ty, _⟩ := kB_dct (mt := fun _ => False) (eb := eb) (kvs := d) k I (H1 := H) (v := .ref l) (.inr (.inr ⟨l, u, _, rfl, rfl, h, dc, fun z => z⟩)) rfl
    cases e
    have ly : ys.length = d.length := paired_len dr
    refine k.put (by omega) (k.is I hi ri) of hzy fun h' t of' hsb => ?_
    obtain ⟨o, ho, dc'⟩ := cell_of (eb := eb) (H := H) k hs of' (drel_put k.inj dr key ri hi rv hv) (by
      have := putT_len ys (k.ky key) iv w'
      rw [sizeLine_eq]
      omega)
    exact q o _ (d_write I (by rw [h]; cases dc; exact trivial) hsb ⟨o, ho⟩ (dn_ok ho)) dc'
  · cases g
theorem ps_dputK (k : DKit X ea) (hu : X.A.units + 64 < cLine) {o : Expr} {to ti te : TE} (ho : PE X o to) (hi : PE X b ti) (hv : PE X e te) (hs : swapsWith e (some (.Subscript o b p2)) pos.line X.env = pure false) :
    PS X (.Assign [.Subscript o b p2] e pos) (fun D σ H => te σ H fun v H1 => to σ H1 fun x H2 => ti σ H2 fun z H3 => ∃ (l : Addr) (u : HO) (d d' : List (α × β)) (key : α) (val : β), x = .ref l ∧ H3 l = some u ∧ DCell X.K X.w H3 u l (eKV ea eb d) ∧ Rep X.K X.w H3 z (ea key) ∧ Rep X.K X.w H3 v (eb val) ∧ dPutG d key val = some d' ∧ ∀ o, DCell X.K X.w H3 (DN l o) l (eKV ea eb d') → D.nx σ (upd H3 l (DN l o))) := by
  refine ⟨fun pins s σ H D I h => ?_⟩
  refine wpAny_Assign_Subscript (thn (hv.run pins s σ H _ I h) fun r s1 ⟨v, H1, I1, rv, q1⟩ => thn (ho.run pins s1 σ H1 _ I1 q1) fun u s2 ⟨x, H2, I2, rx, q2⟩ => thn (hi.run pins s2 σ H2 _ I2 q2) fun iv s3 ⟨y, H3, I3, ry, l, u, d, d', key, val, ex, hl, dc, rk, rb, g, q3⟩ => ?_) hs
  subst ex
  cases rx
  exact d_put k hu I3 hl dc ry rk rv rb g fun o s4 I4 dc => ⟨σ, _, I4, q3 o dc⟩
theorem ps_daugK (k : DKit X ea) (hu : X.A.units + 64 < cLine) {o : Expr} {to ti te : TE} {op : Operator} {rd : V → V → Hp → VK → Prop} (ho : PE X o to) (hi : PE X b ti) (hv : PE X e te) (hop : InOp X op rd)
    (ha : ∀ ov iv new, augStore b ov iv new = (do holding [new, ov, iv] (setItem ov iv new); release [new, ov, iv] []; pure .next)) :
    PS X (.AugAssign (.Subscript o b p2) op e pos) (fun D σ H => to σ H fun x H1 => ti σ H1 fun z H2 => ∃ (l : Addr) (u : HO) (d : List (α × β)) (key : α) (old : β), x = .ref l ∧ H2 l = some u ∧ DCell X.K X.w H2 u l (eKV ea eb d) ∧ Rep X.K X.w H2 z (ea key) ∧ dGet d key = some old ∧
      ∀ v, Rep X.K X.w H2 v (eb old) → te σ H2 fun y H3 => rd v y H3 fun nv H4 => ∃ (u' : HO) (d' : List (α × β)) (val : β), H4 l = some u' ∧ DCell X.K X.w H4 u' l (eKV ea eb d) ∧ Rep X.K X.w H4 z (ea key) ∧ Rep X.K X.w H4 nv (eb val) ∧ dPutG d key val = some d' ∧ ∀ o, DCell X.K X.w H4 (DN l o) l (eKV ea eb d') → D.nx σ (upd H4 l (DN l o))) := by
  refine ⟨fun pins s σ H D I h => ?_⟩
  refine wpAny_AugAssign_SubscriptAny (thn (ho.run pins s σ H _ I h) fun u s1 ⟨x, H1, I1, rx, q1⟩ => thn (hi.run pins s1 σ H1 _ I1 q1) fun iv s2 ⟨y, H2, I2, ry, l, u, d, key, old, ex, hl, dc, rk, hg, q2⟩ => ?_) ha
  subst ex
  cases rx
  obtain ⟨l', ys, e, _, hs, of, dr, hzy, ty, _⟩ := kB_dct (mt := fun _ => False) (eb := eb) (kvs := d) k I2 (H1 := H2) (v := .ref l) (.inr (.inr ⟨l, u, _, rfl, rfl, hl, dc, fun z => z⟩)) rfl
  cases e
  have g := drel_get k.inj key dr
  rw [hg] at g
  obtain ⟨w', v, g1, g2, g3⟩ := g
  refine k.get (by omega) hs (k.is I2 rk ry) of g1 fun t => thn (hv.run pins _ σ H2 _ (I2.tok t) (q2 v g3)) fun w2 s4 ⟨y2, H3, I4, ry2, q3⟩ => thn (hop pins s4 σ H3 v y2 w' w2 _ I4 g2 ry2 q3) fun w3 s5 ⟨z, H4, I5, rz, u', d', val, hl', dc', rk', rb, hp, q4⟩ => ?_
  exact d_put k hu I5 hl' dc' ry rk' rz rb hp fun o s6 I6 dc => ⟨σ, _, I6, q4 o dc⟩
theorem sl_dput (k : DKit X ea) (hu : X.A.units + 64 < cLine) {i : Nat} {x : Str} {d : List (α × β)} {f : List (α × β) → m (Out ρ ε δ)} {p1 : Pos} (hN : X.N[i]? = some x) (hv : Vis X.env.scope x) (hd : (x == ("__debug__" : Str)) = false) (hcd : (x == ("__classdict__" : Str)) = false)
    (hR : R[i]? = some (some (.ownD (eKV ea eb d)))) (ha : SE X C W H0 R e eb mb) (hb : SB X C W H0 R b ea mk) (hr : ∀ d : List (α × β), SL X C W H0 (R.set i (some (.ownD (eKV ea eb d)))) rest er Rb Rn (f d))
    (hs : swapsWith e (some (.Subscript (.Name x p1) b p2)) pos.line X.env = pure false) :
    SL X C W H0 R (.Assign [.Subscript (.Name x p1) b p2] e pos :: rest) er Rb Rn (mb >>= fun v => mk >>= fun q => fromO (dPutG d q v) >>= f) :=
  ⟨(pss_cons (ps_dputK (eb := eb) k hu (pe_var hN hv hd hcd) hb.run ha.run hs) (u := fun D σ H => ∃ d : List (α × β), tS C W H0 (R.set i (some (.ownD (eKV ea eb d)))) er Rb Rn (f d) D σ H) ⟨fun pins s σ H D I ⟨g, q⟩ => (hr g).run.run pins s σ H D I q⟩).weak fun D σ H q => by
    obtain ⟨s0, c0, _⟩ := id q
    obtain ⟨v0, hv', l, u0, rfl, hl, hdc, h0, hm⟩ := c0.slot i _ hR
    refine tS_bind (k := kF X.K X.w C.mt) (ea := eb) q fun val v H1 kv e1 _ q1 => ?_
    refine ⟨.ref l, hv', tS_bind (k := kB X.K X.w C.mt) (ea := ea) q1 fun key z H3 kz e2 _ ⟨s, c, q2⟩ => ?_⟩
    rw [PyM.run_bind, PyM.run_fromO] at q2
    have hl' := e2 l _ (e1 l _ hl (.inl hm)) (.inl hm)
    have dc3 := (hdc.firm e1.firms).firm e2.firms
    cases hg : dPutG d key val with
    | none => rw [hg] at q2; exact q2.elim
    | some d' =>
      rw [hg] at q2
      exact ⟨l, _, d, d', key, val, rfl, hl', dc3, kB_key (k.ok key) kz, Rep.firm e2.firms kv, hg, fun o dc => ⟨d', s, c.updD hR hv' hl' dc3.soft dc, AfterS.mono (firms_upd' hl' dc3.soft) q2⟩⟩⟩
/-- d[k] += j -/
theorem sl_daug {op : Operator} {fo : Int → Int → Int} (ho : InOp X op (ipI fo)) (k : DKit X ea) (hu : X.A.units + 64 < cLine) {i : Nat} {x : Str} {d : List (α × Int)} {f : List (α × Int) → m (Out ρ ε δ)} {p1 : Pos} (hN : X.N[i]? = some x) (hv : Vis X.env.scope x) (hd : (x == ("__debug__" : Str)) = false) (hcd : (x == ("__classdict__" : Str)) = false)
    (hR : R[i]? = some (some (.ownD (eKV ea eInt d)))) (hb : SB X C W H0 R b ea mk) (ha : SE X C W H0 R e eInt mi) (hr : ∀ d : List (α × Int), SL X C W H0 (R.set i (some (.ownD (eKV ea eInt d)))) rest er Rb Rn (f d))
    (hs : ∀ ov iv new, augStore b ov iv new = (do holding [new, ov, iv] (setItem ov iv new); release [new, ov, iv] []; pure .next)) :
    SL X C W H0 R (.AugAssign (.Subscript (.Name x p1) b p2) op e pos :: rest) er Rb Rn (mk >>= fun q => fromO (dGet d q) >>= fun old => mi >>= fun j => fromO (dPutG d q (fo old j)) >>= f) :=
  ⟨(pss_cons (ps_daugK (eb := eInt) k hu (pe_var hN hv hd hcd) hb.run ha.run ho hs) (u := fun D σ H => ∃ d : List (α × Int), tS C W H0 (R.set i (some (.ownD (eKV ea eInt d)))) er Rb Rn (f d) D σ H) ⟨fun pins s σ H D I ⟨g, q⟩ => (hr g).run.run pins s σ H D I q⟩).weak fun D σ H q => by
    obtain ⟨s0, c0, _⟩ := id q
    obtain ⟨v0, hv', l, u0, rfl, hl, hdc, h0, hm⟩ := c0.slot i _ hR
    refine ⟨.ref l, hv', tS_bind (k := kB X.K X.w C.mt) (ea := ea) q fun key z H2 kz e1 _ q1 => ?_⟩
    have kz' := kB_key (k.ok key) kz
    obtain ⟨s1, c1, q1'⟩ := id q1
    rw [PyM.run_bind, PyM.run_fromO] at q1'
    cases hg : dGet d key with
    | none => rw [hg] at q1'; exact q1'.elim
    | some old =>
      rw [hg] at q1'
      have q1 : tS C W H0 R er Rb Rn (mi >>= fun j => fromO (dPutG d key (fo old j)) >>= f) D σ H2 := ⟨s1, c1, q1'⟩
      refine ⟨l, _, d, key, old, rfl, e1 l _ hl (.inl hm), hdc.firm e1.firms, kz', hg, fun v rv => ?_⟩
      cases (show Rep X.K X.w H2 v (.int old) from rv)
      refine tS_bind (k := kF X.K X.w C.mt) (ea := eInt) q1 fun j y H3 ky e2 _ ⟨s, c, q2⟩ => ?_
      cases (show Rep X.K X.w H3 y (.int j) from ky)
      refine ⟨old, j, rfl, rfl, ?_⟩
      rw [PyM.run_bind, PyM.run_fromO] at q2
      have hl' := e2 l _ (e1 l _ hl (.inl hm)) (.inl hm)
      have dc3 := (hdc.firm e1.firms).firm e2.firms
      cases hg2 : dPutG d key (fo old j) with
      | none => rw [hg2] at q2; exact q2.elim
      | some d' =>
        rw [hg2] at q2
        exact ⟨_, d', fo old j, hl', dc3, Rep.firm e2.firms kz', .int _, hg2, fun o dc => ⟨d', s, c.updD hR hv' hl' dc3.soft dc, AfterS.mono (firms_upd' hl' dc3.soft) q2⟩⟩⟩
end
end TT

namespace TT
open PyM (fromO)
open PySem PySem.Spec PyProof.Rows L2
def eT6 {α β γ δ ε ζ : Type} (e0 : α → PyData) (e1 : β → PyData) (e2 : γ → PyData) (e3 : δ → PyData) (e4 : ε → PyData) (e5 : ζ → PyData) : α × β × γ × δ × ε × ζ → PyData := fun p => .tuple [e0 p.1, e1 p.2.1, e2 p.2.2.1, e3 p.2.2.2.1, e4 p.2.2.2.2.1, e5 p.2.2.2.2.2]
def eT7 {α β γ δ ε ζ η : Type} (e0 : α → PyData) (e1 : β → PyData) (e2 : γ → PyData) (e3 : δ → PyData) (e4 : ε → PyData) (e5 : ζ → PyData) (e6 : η → PyData) : α × β × γ × δ × ε × ζ × η → PyData := fun p => .tuple [e0 p.1, e1 p.2.1, e2 p.2.2.1, e3 p.2.2.2.1, e4 p.2.2.2.2.1, e5 p.2.2.2.2.2.1, e6 p.2.2.2.2.2.2]
def eT8 {α β γ δ ε ζ η θ : Type} (e0 : α → PyData) (e1 : β → PyData) (e2 : γ → PyData) (e3 : δ → PyData) (e4 : ε → PyData) (e5 : ζ → PyData) (e6 : η → PyData) (e7 : θ → PyData) : α × β × γ × δ × ε × ζ × η × θ → PyData := fun p => .tuple [e0 p.1, e1 p.2.1, e2 p.2.2.1, e3 p.2.2.2.1, e4 p.2.2.2.2.1, e5 p.2.2.2.2.2.1, e6 p.2.2.2.2.2.2.1, e7 p.2.2.2.2.2.2.2]
theorem edct_map {α β γ δ : Type} {ea : α → PyData} {eb : β → PyData} {ec : γ → PyData} {ed : δ → PyData} {g : α → γ} {g2 : β → δ} (h : ∀ a, ec (g a) = ea a) (h2 : ∀ b, ed (g2 b) = eb b) (d : List (α × β)) : eDct ec ed (d.map fun p => (g p.1, g2 p.2)) = eDct ea eb d := by
  simp only [eDct, List.map_map, Function.comp_def, h, h2]
section
variable {X : Cx} {m : Type → Type} [Monad m] [PyM m] {C : Wd X.K X.w m} {W : WX} {H0 : Hp} {R : Slots} {ρ ε δ α β γ ζ η θ : Type} {er : ρ → PyData} {Rb : ε → Slots} {Rn : δ → Slots} {sts : List Stmt}
theorem SL.asc5 {me : m α} {f : α → m γ} {g : α → γ → m ζ} {g2 : α → γ → ζ → m η} {k : η → m β} {r : β → m (Out ρ ε δ)} (h : SL X C W H0 R sts er Rb Rn (me >>= fun a => f a >>= fun b => g a b >>= fun c => g2 a b c >>= fun d => k d >>= r)) : SL X C W H0 R sts er Rb Rn ((me >>= fun a => f a >>= fun b => g a b >>= fun c => g2 a b c >>= k) >>= r) :=
  h.alike ((alike_assoc me _ r).trans (alike_bind fun a => (alike_assoc (f a) _ r).trans (alike_bind fun b => (alike_assoc (g a b) _ r).trans (alike_bind fun c => alike_assoc (g2 a b c) k r))))
end
/-! ### {k: v, ..} -/
section
variable {K : PySem.W.Frag} {w : World} {m : Type → Type} [Monad m] [PyM m] {α β : Type}
abbrev PsOk (K : PySem.W.Frag) (w : World) (ea : α → PyData) (eb : β → PyData) (H : Hp) : List (V × V) → List (α × β) → Prop := Paired fun p q => Rep K w H p.1 (ea q.1) ∧ Rep K w H p.2 (eb q.2)
def AfterPs (C : Wd K w m) (W : WX) (ea : α → PyData) (eb : β → PyData) (σ : L2.St) (H : Hp) (Q : List (V × V) → Hp → Prop) : Res (PyM.S m) (List (α × β)) → Prop
  | none => False
  | some (.ok l, s') => ∀ ps H', Ext C.mt H H' → C.rel s' H' → PsOk K w ea eb H' ps l → Q ps H'
  | some (.error x, s') => ∀ cls d H', Ext C.mt H H' → C.rel s' H' → C.exc x cls d H' → W cls d σ H'
end
structure SPs (X : Cx) {m : Type → Type} [Monad m] [PyM m] (C : Wd X.K X.w m) (W : WX) (H0 : Hp) (R : Slots) (pos : Pos) (keys : List (Option Expr)) (values : List Expr) {α β : Type} (ea : α → PyData) (eb : β → PyData) (mm : m (List (α × β))) : Prop where
  run : ∀ (pins : List (Addr × Obj)) (s : Shared) (σ : L2.St) (H : Hp) (Q : List (V × V) → Hp → Prop), Inv X pins σ H s → (∃ st, Cfg C H0 R st σ H ∧ AfterPs C W ea eb σ H Q (PyM.run mm st)) →
    wpAny (model X.prog X.w) X.A (evalPairs (pairTrees keys values X.env pos)) (fun vs s' => ∃ ps H', Inv X pins σ H' s' ∧ (VV ps vs ∧ vs.length = values.length) ∧ Q ps H') X.xe s
section
variable {X : Cx} {m : Type → Type} [Monad m] [PyM m] {C : Wd X.K X.w m} {W : WX} {H0 : Hp} {R : Slots} {α β : Type} {ea : α → PyData} {eb : β → PyData} {pos : Pos}
theorem sps_nil : SPs X C W H0 R pos [] [] ea eb (pure []) := ⟨fun pins s σ H Q I ⟨st, c, h⟩ => by
  rw [PyM.run_pure] at h
  exact pairTrees_nil_walk ⟨[], H, I, ⟨.nil, rfl⟩, h [] H .refl c.rel .nil⟩⟩
variable {k v : Expr} {ks : List (Option Expr)} {vs : List Expr} {mk : m α} {mv : m β} {ml : m (List (α × β))}
theorem PsOk.firm {H H' : Hp} (f : Firms H H') {ps : List (V × V)} {l : List (α × β)} (h : PsOk X.K X.w ea eb H ps l) : PsOk X.K X.w ea eb H' ps l := Paired.mapP h fun _ _ ⟨h1, h2⟩ => ⟨Rep.firm f h1, Rep.firm f h2⟩
theorem sps_cons (hk : SE X C W H0 R k ea mk) (hv : SE X C W H0 R v eb mv) (hr : SPs X C W H0 R pos ks vs ea eb ml) : SPs X C W H0 R pos (some k :: ks) (v :: vs) ea eb (mk >>= fun a => mv >>= fun b => ml >>= fun l => pure ((a, b) :: l)) := ⟨fun pins s σ H Q I ⟨st, c, h⟩ => by
  rw [PyM.run_bind] at h
  refine pairTrees_cons_walk ?_
  cases z1 : PyM.run mk st with
  | none => rw [z1] at h; exact h.elim
  | some p1 =>
  obtain ⟨r1, s1⟩ := p1
  rw [z1] at h
  cases r1 with
  | error x => exact thn (hk.run.run pins s σ H (fun _ _ => False) I ⟨st, c, by rw [z1]; exact fun cls d H' e rl ex => h cls d H' e rl ex⟩) fun _ _ ⟨_, _, _, _, f⟩ => f.elim
  | ok a =>
  refine thn (hk.run.run pins s σ H (fun x H1 => Ext C.mt H H1 ∧ C.rel s1 H1 ∧ Rep X.K X.w H1 x (ea a)) I ⟨st, c, by rw [z1]; exact fun x H1 e rl r => ⟨e, rl, r⟩⟩) fun u sh1 ⟨x, H1, I1, rx, e1, rl1, ra⟩ => ?_
  have h : AfterPs C W ea eb σ H Q (PyM.run (mv >>= fun b => ml >>= fun l => pure ((a, b) :: l)) s1) := h
  rw [PyM.run_bind] at h
  have c1 := c.ext e1 rl1
  cases z2 : PyM.run mv s1 with
  | none => rw [z2] at h; exact h.elim
  | some p2 =>
  obtain ⟨r2, s2⟩ := p2
  rw [z2] at h
  cases r2 with
  | error x => exact thn (hv.run.run pins sh1 σ H1 (fun _ _ => False) I1 ⟨s1, c1, by rw [z2]; exact fun cls d H' e rl ex => h cls d H' (e1.trans e) rl ex⟩) fun _ _ ⟨_, _, _, _, f⟩ => f.elim
  | ok b =>
  refine thn (hv.run.run pins sh1 σ H1 (fun x H2 => Ext C.mt H1 H2 ∧ C.rel s2 H2 ∧ Rep X.K X.w H2 x (eb b)) I1 ⟨s1, c1, by rw [z2]; exact fun x H1 e rl r => ⟨e, rl, r⟩⟩) fun u2 sh2 ⟨y, H2, I2, ry, e2, rl2, rb⟩ => ?_
  have h : AfterPs C W ea eb σ H Q (PyM.run (ml >>= fun l => pure ((a, b) :: l)) s2) := h
  rw [PyM.run_bind] at h
  have c2 := c1.ext e2 rl2
  have t : AfterPs C W ea eb σ H2 (fun ps H3 => Q ((x, y) :: ps) H3) (PyM.run ml s2) := by
    cases z3 : PyM.run ml s2 with
    | none => rw [z3] at h; exact h
    | some p3 =>
      obtain ⟨r3, s3⟩ := p3
      rw [z3] at h
      cases r3 with
      | error x => exact fun cls d H' e rl ex => h cls d H' ((e1.trans e2).trans e) rl ex
      | ok l =>
        have h : AfterPs C W ea eb σ H Q (PyM.run (pure ((a, b) :: l) : m (List (α × β))) s3) := h
        rw [PyM.run_pure] at h
        exact fun ps H3 e rl r => h _ H3 ((e1.trans e2).trans e) rl (.cons ⟨Rep.firm (e2.trans e).firms ra, Rep.firm e.firms rb⟩ r)
  exact thn (hr.run pins sh2 σ H2 _ I2 ⟨s2, c2, t⟩) fun ws sh3 ⟨ps, H3, I3, ⟨rel, ln⟩, q3⟩ => ⟨(x, y) :: ps, H3, I3, ⟨.cons ⟨rx, ry⟩ rel, by rw [List.length_cons, List.length_cons, ln]⟩, q3⟩⟩
theorem disp_src {pins : List (Addr × Obj)} {σ : L2.St} {H : Hp} {s : Shared} (kk : DKit X ea) (I : Inv X pins σ H s) : ∀ {ps : List (V × V)} {l : List (α × β)} {ws : List (Value × Value)}, PsOk X.K X.w ea eb H ps l → VV ps ws →
    ∃ zs : List Trip, ws = zs.map (fun z => (z.2.1, z.2.2)) ∧ (∀ z ∈ zs, kk.Is s.heap z.1 z.2.1) ∧ DRel X.K X.w H kk.ky ea eb zs l
  | [], [], [], .nil, .nil => ⟨[], rfl, by simp, .nil⟩
  | p :: ps, q :: l, u :: ws, .cons ⟨h1, h2⟩ t, .cons ⟨g1, g2⟩ t2 => by
    obtain ⟨zs, e, a1, a2⟩ := disp_src kk I t t2
    refine ⟨(kk.ky q.1, u.1, u.2) :: zs, by rw [e]; rfl, fun z hz => ?_, .cons ⟨rfl, ⟨_, g1, h1⟩, _, g2, h2⟩ a2⟩
    rcases List.mem_cons.mp hz with rfl | hz
    · exact kk.is I h1 g1
    · exact a1 z hz
theorem sd_disp [DecidableEq α] (kk : DKit X ea) (hu : X.A.units + 64 < cLine) {keys : List (Option Expr)} {values : List Expr} (h : SPs X C W H0 R pos keys values ea eb ml) (hall : keys.all (·.isSome) = true) (hl : keys.length = values.length) (h0 : keys ≠ []) (h15 : keys.length ≤ 15) :
    SD X C W H0 R (.Dict keys values pos) (eDct ea eb) (ml >>= fun l => pure (dOf l)) := by
  refine ⟨⟨fun pins s σ H Q I ⟨st, c, q⟩ => ?_⟩⟩
  have hn := I.hok.fresh (Nat.le_refl s.heap.objs.size)
  have hs : (s.heap.objs.size == sysModules) = false := beq_eq_false_iff_ne.mpr (Ne.symm (Nat.ne_of_lt I.big))
  obtain ⟨o0, ho0, dc0⟩ := cell_of (eb := eb) (H := H) kk hs (kk.new s.heap) (kvs := []) .nil (Nat.zero_le _)
  have I1 : Inv X pins σ (upd H s.heap.objs.size (DN s.heap.objs.size o0)) { s with heap := s.heap.push { cls := .type "dict", data := .dict #[] } } := I.laid (t' := s.toks) (fun b u e => Heap.get?_push_of_some _ e) (Nat.le_refl _) (dn_ok ho0)
  have nm : ∀ s', C.rel s' H → ¬ C.mt s.heap.objs.size := fun s' rl z => by
    obtain ⟨o, ho, _⟩ := C.there _ _ _ rl z
    rw [hn] at ho; cases ho
  have c1 := c.same (Same.new (o := DN s.heap.objs.size o0) hn)
  rw [PyM.run_bind] at q
  cases z1 : PyM.run ml st with
  | none => rw [z1] at q; exact q.elim
  | some p1 =>
  obtain ⟨r1, s1⟩ := p1
  rw [z1] at q
  have eH : Ext C.mt H (upd H s.heap.objs.size (DN s.heap.objs.size o0)) := .of_same (Same.new hn)
  cases r1 with
  | error x => exact kk.disp (by omega) hall hl h0 h15 (thn (h.run pins _ σ _ (fun _ _ => False) I1 ⟨st, c1, by rw [z1]; exact fun cls d H' e rl ex => q cls d H' (eH.trans e) rl ex⟩) fun _ _ ⟨_, _, _, _, f⟩ => f.elim)
  | ok l =>
  have q : After C W (kOD X.K X.w C.mt) (eDct ea eb) σ H Q (PyM.run (pure (dOf l) : m (List (α × β))) s1) := q
  rw [PyM.run_pure] at q
  refine kk.disp (by omega) hall hl h0 h15 (thn (h.run pins _ σ _ (fun ps H2 => Ext C.mt (upd H s.heap.objs.size (DN s.heap.objs.size o0)) H2 ∧ C.rel s1 H2 ∧ PsOk X.K X.w ea eb H2 ps l) I1 ⟨st, c1, by rw [z1]; exact fun ps H2 e rl r => ⟨e, rl, r⟩⟩) fun ws s2 ⟨ps, H2, I2, ⟨rel, ln⟩, e2, rl2, r2⟩ => ?_)
  obtain ⟨zs, e, a1, a2⟩ := disp_src kk I2 r2 rel
  have hp2 : H2 s.heap.objs.size = some (DN s.heap.objs.size o0) := e2 _ _ upd_same (.inl (nm st c.rel))
  obtain ⟨l', ys, e', _, _, of0, dr0, _⟩ := kB_dct (mt := fun _ => False) (eb := eb) (kvs := []) kk I2 (H1 := H2) (v := .ref s.heap.objs.size) (.inr (.inr ⟨_, _, _, rfl, rfl, hp2, dc0.firm (eH.trans e2).firms, fun z => z⟩)) rfl
  cases e'
  cases dr0
  refine ⟨zs, e, a1, of0, fun h' t of hsb => ?_⟩
  have lz2 := putsT_len zs []
  have lz : zs.length ≤ 15 := by
    have e6 : zs.length = ws.length := by rw [e, List.length_map]
    omega
  obtain ⟨o', ho', dc⟩ := cell_of (eb := eb) (H := H2) kk hs of (kvs := dOf l) (drel_puts kk.inj a2 .nil) (by rw [sizeLine_eq]; simp at lz2; omega)
  have nf : ∀ b u, H2 b = some u → Firm u → b ≠ s.heap.objs.size := fun b u hu f z => by subst z; rw [hp2] at hu; cases hu; exact f
  refine ⟨.ref s.heap.objs.size, upd H2 s.heap.objs.size (DN s.heap.objs.size o'), d_write I2 (by rw [hp2]; exact trivial) hsb ⟨o', ho'⟩ (dn_ok ho'), rfl, q _ _ (fun b u hb k => ?_) (C.other _ _ _ _ rl2 (nm st c.rel) nf) ⟨_, _, _, rfl, rfl, upd_same, dc.firm (firms_upd' hp2 fun z => z), hn⟩⟩
  rw [upd_ne (ne_of_none hb hn)]
  exact (eH.trans e2) b u hb k
end
end TT

namespace TT
open PyM (fromO)
open PySem L2
/-! ### plain laws of the mirror's words, in Option -/
theorem o_fromO {α : Type} (o : Option α) : (fromO o : Option α) = o := congrArg id (rfl : o = o)
theorem o_pure {α : Type} (a : α) : (pure a : Option α) = some a := congrArg id (rfl : some a = some a)
theorem o_bind {α β : Type} (a : α) (f : α → Option β) : (some a >>= f) = f a := congrArg id (rfl : f a = f a)
theorem o_go {α β : Type} {x : Option α} {a : α} {f : α → Option β} (h : x = some a) : (x >>= f) = f a := by rw [h]; rfl
theorem filter_yes {α : Type} : ∀ xs : List α, xs.filter (fun _ => true) = xs
  | [] => rfl
  | x :: xs => by rw [List.filter_cons_of_pos rfl, filter_yes xs]
theorem comp_some {α β : Type} {g : α → Option Bool} {f : α → Option β} {p : α → Bool} {q : α → β} : ∀ {xs : List α}, (∀ x ∈ xs, g x = some (p x)) → (∀ x ∈ xs, p x = true → f x = some (q x)) → compL g f xs = some ((xs.filter p).map q)
  | [], _, _ => rfl
  | x :: xs, h, h' => by
    show (g x >>= fun c => if c = true then f x >>= fun y => compL g f xs >>= fun ys => pure (y :: ys) else compL g f xs) = _
    rw [o_go (h x (by simp)), comp_some (fun y hy => h y (by simp [hy])) fun y hy => h' y (by simp [hy])]
    cases e : p x with
    | true =>
      rw [if_pos rfl, o_go (h' x (by simp) e)]
      simp [e]
    | false => rw [if_neg Bool.false_ne_true]; simp [e]
theorem comp_all {α β : Type} {f : α → Option β} {q : α → β} {xs : List α} (h : ∀ x ∈ xs, f x = some (q x)) : compL (fun _ => pure true) f xs = some (xs.map q) := by
  have := comp_some (g := fun _ => some true) (p := fun _ => true) (q := q) (f := f) (xs := xs) (fun _ _ => rfl) fun x hx _ => h x hx
  rw [filter_yes] at this
  exact this
theorem comp_pure {α β : Type} {p : α → Bool} {q : α → β} {xs : List α} : compL (m := Option) (fun x => pure (p x)) (fun x => pure (q x)) xs = some ((xs.filter p).map q) := comp_some (fun _ _ => rfl) fun _ _ _ => rfl
theorem fold_some {α δ : Type} {f : α → δ → Option δ} {g : δ → α → δ} (I : δ → Prop) : ∀ {xs : List α} {d : δ}, I d → (∀ x ∈ xs, ∀ d, I d → f x d = some (g d x) ∧ I (g d x)) → foldL f xs d = some (xs.foldl g d) ∧ I (xs.foldl g d)
  | [], d, i, _ => ⟨rfl, i⟩
  | x :: xs, d, i, h => by
    obtain ⟨e, i'⟩ := h x (by simp) d i
    show (f x d >>= foldL f xs) = _ ∧ _
    rw [o_go e]
    exact fold_some I i' fun y hy => h y (by simp [hy])
/-- by an invariant of the place and the state -/
theorem fold_inv {α δ : Type} {f : α → δ → Option δ} (I : Nat → δ → Prop) : ∀ {xs : List α} {d : δ} (i : Nat), I i d → (∀ (j : Nat) (x : α) (d : δ), xs[j]? = some x → I (i + j) d → ∃ d', f x d = some d' ∧ I (i + j + 1) d') → ∃ d', foldL f xs d = some d' ∧ I (i + xs.length) d'
  | [], d, i, h, _ => ⟨d, rfl, h⟩
  | x :: xs, d, i, h, t => by
    obtain ⟨d', e, i'⟩ := t 0 x d (by simp) h
    obtain ⟨r, e2, i2⟩ := fold_inv I (xs := xs) (d := d') (i + 1) i' fun j y d hy hd => by
      have := t (j + 1) y d (by simpa using hy) (by rw [show i + (j + 1) = i + 1 + j by omega]; exact hd)
      rw [show i + 1 + j + 1 = i + (j + 1) + 1 by omega]
      exact this
    refine ⟨r, ?_, ?_⟩
    · show (f x d >>= foldL f xs) = _
      rw [o_go e]; exact e2
    · rw [List.length_cons, show i + (xs.length + 1) = i + 1 + xs.length by omega]; exact i2
theorem range_some {lo hi : Int} (h : -1000000000 ≤ lo ∧ lo ≤ 1000000000 ∧ -1000000000 ≤ hi ∧ hi ≤ 1000000000 ∧ hi - lo ≤ 16777216) : rangeG lo hi = some (rangeL lo (hi - lo).toNat) := if_pos h
theorem range_nat {n : Nat} (h : n ≤ 16777216) : rangeG 0 (n : Int) = some (rangeL 0 n) := by
  rw [range_some (by omega)]
  congr 1
theorem rangeL_map (lo : Int) (n : Nat) : rangeL lo n = (List.range n).map fun (i : Nat) => lo + (i : Int) := by
  apply List.ext_getElem?
  intro i
  by_cases h : i < n
  · rw [rangeL_get n lo i h, List.getElem?_map, List.getElem?_range h]; rfl
  · rw [List.getElem?_eq_none (by rw [rangeL_len]; omega), List.getElem?_eq_none (by simp; omega)]
theorem mem_rangeL {lo : Int} {n : Nat} {x : Int} : x ∈ rangeL lo n ↔ lo ≤ x ∧ x < lo + n := by
  rw [rangeL_map]
  simp only [List.mem_map, List.mem_range]
  constructor
  · rintro ⟨i, h, rfl⟩; omega
  · rintro ⟨h1, h2⟩; exact ⟨(x - lo).toNat, by omega, by omega⟩
theorem at_nat {α : Type} {xs : List α} {i : Nat} {x : α} (h : xs[i]? = some x) : L2.atI xs (i : Int) = some x := atI_nat h
theorem at_int {α : Type} {xs : List α} {k : Int} (h : 0 ≤ k) (h2 : k < xs.length) : L2.atI xs k = some (xs[k.toNat]'(by omega)) := by
  have e : k = ((k.toNat : Nat) : Int) := by omega
  have q : L2.atI xs ((k.toNat : Nat) : Int) = some (xs[k.toNat]'(by omega)) := at_nat (List.getElem?_eq_getElem _)
  rw [← e] at q
  exact q
theorem cat_some {α : Type} {xs ys : List α} (h : xs.length + ys.length ≤ 16777216) : catG xs ys = some (xs ++ ys) := if_pos h
theorem app_some {α : Type} {xs : List α} {a : α} (h : xs.length < 16777216) : appG xs a = some (xs ++ [a]) := if_pos h
theorem mul_some {i j : Int} (h : i.natAbs < 2 ^ 4000 ∧ j.natAbs < 2 ^ 4000) : mulG i j = some (i * j) := if_pos h
theorem big_of {i : Int} (h : i.natAbs < 2 ^ 200) : i.natAbs < 2 ^ 4000 := Nat.lt_of_lt_of_le h (Nat.pow_le_pow_right (by decide) (by decide))
theorem mul_small {i j : Int} (h : i.natAbs < 1267650600228229401496703205376) (h' : j.natAbs < 1267650600228229401496703205376) : mulG i j = some (i * j) := by
  have e : (1267650600228229401496703205376 : Nat) = 2 ^ 100 := by decide
  rw [e] at h h'
  have z : (2 : Nat) ^ 100 ≤ 2 ^ 4000 := Nat.pow_le_pow_right (by decide) (by decide)
  exact mul_some ⟨Nat.lt_of_lt_of_le h z, Nat.lt_of_lt_of_le h' z⟩
theorem mod_pos {i j : Int} (h : 0 < j) : modG i j = some (i % j) := by
  unfold modG
  rw [if_pos (by omega), Int.fmod_eq_emod_of_nonneg i (by omega)]
theorem div_small {i j : Int} (h : 0 < j) (h' : j.natAbs < 1073741824) : divG i j = some (i / j) := by
  unfold divG
  rw [if_pos (.inr ⟨by omega, h'⟩), Int.fdiv_eq_ediv_of_nonneg i (by omega)]
theorem supO_of {α : Type} {f : Nat → Option α} {n : Nat} {a : α} (h : f n = some a) (u : ∀ m b, f m = some b → b = a) : supO f = some a := by
  unfold supO
  have ex : ∃ n, (f n).isSome = true := ⟨n, by rw [h]; rfl⟩
  split
  · rename_i hx
    cases e : f (Classical.choose hx) with
    | none => have := Classical.choose_spec hx; rw [e] at this; cases this
    | some b => rw [u _ _ e]
  · rename_i hx
    exact absurd ex hx
/-! ### while, in Option -/
theorem whileFP_mono {δ : Type} {c : δ → Option Bool} {b : δ → Option δ} : ∀ (n : Nat) (d r : δ), whileFP c b n d = some r → ∀ m, n ≤ m → whileFP c b m d = some r
  | 0, d, r, h, _, _ => by cases h
  | n + 1, d, r, h, m, hm => by
    obtain ⟨m, rfl⟩ : ∃ k, m = k + 1 := ⟨m - 1, by omega⟩
    have h : (c d >>= fun t => if t = true then b d >>= whileFP c b n else pure d) = some r := h
    show (c d >>= fun t => if t = true then b d >>= whileFP c b m else pure d) = some r
    cases e : c d with
    | none => rw [e] at h; cases h
    | some t =>
      rw [e] at h
      cases t with
      | false => exact h
      | true =>
        have h : (b d >>= whileFP c b n) = some r := h
        show (b d >>= whileFP c b m) = some r
        cases e2 : b d with
        | none => rw [e2] at h; cases h
        | some d' =>
          rw [e2] at h
          exact whileFP_mono n d' r h m (by omega)
theorem whileM_of {δ : Type} {c : δ → Option Bool} {b : δ → Option δ} {n : Nat} {d r : δ} (h : whileFP c b n d = some r) : whileM c b d = some r :=
  supO_of (f := fun n => whileFP c b n d) h fun m q e => by
    have h1 := whileFP_mono n d r h (max n m) (Nat.le_max_left _ _)
    have h2 := whileFP_mono m d q e (max n m) (Nat.le_max_right _ _)
    rw [h1] at h2
    exact (Option.some.inj h2).symm
/-- a measure that falls, an invariant -/
theorem while_inv {δ : Type} {c : δ → Option Bool} {b : δ → Option δ} (I : δ → Prop) (μ : δ → Nat) (h : ∀ d, I d → ∃ t, c d = some t ∧ (t = true → ∃ d', b d = some d' ∧ I d' ∧ μ d' < μ d)) : ∀ (n : Nat) (d : δ), μ d < n → I d → ∃ r, whileFP c b n d = some r ∧ I r ∧ c r = some false
  | 0, _, z, _ => absurd z (Nat.not_lt_zero _)
  | n + 1, d, z, i => by
    obtain ⟨t, e, ht⟩ := h d i
    show ∃ r, (c d >>= fun t => if t = true then b d >>= whileFP c b n else pure d) = some r ∧ _
    rw [o_go e]
    cases t with
    | false => exact ⟨d, rfl, i, e⟩
    | true =>
      obtain ⟨d', e2, i', l⟩ := ht rfl
      rw [if_pos rfl, o_go e2]
      exact while_inv I μ h n d' (by omega) i'
theorem whileM_inv {δ : Type} {c : δ → Option Bool} {b : δ → Option δ} (I : δ → Prop) (μ : δ → Nat) (h : ∀ d, I d → ∃ t, c d = some t ∧ (t = true → ∃ d', b d = some d' ∧ I d' ∧ μ d' < μ d)) {d : δ} (i : I d) : ∃ r, whileM c b d = some r ∧ I r ∧ c r = some false := by
  obtain ⟨r, e, i', e'⟩ := while_inv I μ h (μ d + 1) d (Nat.lt_succ_self _) i
  exact ⟨r, whileM_of e, i', e'⟩

/-! ### the law's own runs: every draw -/
def Good {α : Type} (x : WM DW α) (P : α → Prop) : Prop := ∀ s : DW, 0 ≤ s.2 → ∃ a s', x.run s = some (a, s') ∧ 0 ≤ s'.2 ∧ P a
theorem Good.pure {α : Type} {a : α} {P : α → Prop} (h : P a) : Good (Pure.pure a) P := fun s hs => ⟨a, s, rfl, hs, h⟩
theorem Good.bind {α β : Type} {x : WM DW α} {f : α → WM DW β} {P : α → Prop} {Q : β → Prop} (h : Good x P) (h' : ∀ a, P a → Good (f a) Q) : Good (x >>= f) Q := fun s hs => by
  obtain ⟨a, s1, e, h1, p⟩ := h s hs
  obtain ⟨b, s2, e2, h2, q⟩ := h' a p s1 h1
  refine ⟨b, s2, ?_, h2, q⟩
  show (x.run s >>= fun p => (f p.1).run p.2) = _
  rw [e]
  exact e2
theorem Good.imp {α : Type} {x : WM DW α} {P Q : α → Prop} (h : Good x P) (i : ∀ a, P a → Q a) : Good x Q := fun s hs => let ⟨a, s', e, h', p⟩ := h s hs; ⟨a, s', e, h', i a p⟩
theorem Good.fromO {α : Type} {o : Option α} {a : α} {P : α → Prop} (h : o = some a) (p : P a) : Good (PyM.fromO o) P := fun s hs => ⟨a, s, by rw [h]; rfl, hs, p⟩
/-- a known value, then the rest -/
theorem Good.go {α β : Type} {o : Option α} {a : α} {f : α → WM DW β} {Q : β → Prop} (h : o = some a) (h' : Good (f a) Q) : Good (PyM.fromO o >>= f) Q := Good.bind (P := fun x => x = a) (.fromO h rfl) fun x e => e ▸ h'
theorem Good.go0 {α β : Type} {a : α} {f : α → WM DW β} {Q : β → Prop} (h' : Good (f a) Q) : Good (Pure.pure a >>= f) Q := Good.bind (P := fun x => x = a) (.pure rfl) fun x e => e ▸ h'
theorem Good.asc {α β γ : Type} {x : WM DW α} {f : α → WM DW β} {g : β → WM DW γ} {Q : γ → Prop} (h : Good (x >>= fun a => f a >>= g) Q) : Good ((x >>= f) >>= g) Q := by rw [bind_assoc]; exact h
theorem Good.ite {α : Type} {c : Bool} {x y : WM DW α} {P : α → Prop} (h : c = true → Good x P) (h' : c = false → Good y P) : Good (if c = true then x else y) P := by
  cases c with
  | true => exact h rfl
  | false => exact h' rfl
inductive All2 {α β : Type} (Q : α → β → Prop) : List α → List β → Prop
  | nil : All2 Q [] []
  | cons {x y xs ys} : Q x y → All2 Q xs ys → All2 Q (x :: xs) (y :: ys)
theorem Good.comp {α β : Type} {f : α → WM DW β} {Q : α → β → Prop} : ∀ {xs : List α}, (∀ x ∈ xs, Good (f x) (Q x)) → Good (compL (fun _ => Pure.pure true) f xs) (fun ys => All2 Q xs ys)
  | [], _ => .pure .nil
  | x :: xs, h => by
    show Good (Pure.pure true >>= fun c => if c = true then f x >>= fun y => compL (fun _ => Pure.pure true) f xs >>= fun ys => Pure.pure (y :: ys) else compL (fun _ => Pure.pure true) f xs) _
    refine .go0 ?_
    rw [if_pos rfl]
    exact .bind (h x (by simp)) fun y hy => .bind (Good.comp fun z hz => h z (by simp [hz])) fun ys hys => .pure (.cons hy hys)
theorem Good.comp' {α β : Type} {f : α → WM DW β} {Q : β → Prop} {xs : List α} (h : ∀ x ∈ xs, Good (f x) Q) : Good (compL (fun _ => Pure.pure true) f xs) (fun ys => ys.length = xs.length ∧ ∀ y ∈ ys, Q y) := by
  refine (Good.comp (Q := fun _ => Q) h).imp fun ys hy => ⟨?_, ?_⟩
  · clear h
    induction hy with
    | nil => rfl
    | cons _ _ ih => simp [ih]
  · clear h
    induction hy with
    | nil => simp
    | cons h _ ih => simp; exact ⟨h, ih⟩
/-- a comprehension that draws nothing -/
theorem Good.compO {α β : Type} {g : α → WM DW Bool} {f : α → WM DW β} {p : α → Bool} {q : α → β} : ∀ {xs : List α}, (∀ x ∈ xs, Good (g x) (· = p x)) → (∀ x ∈ xs, p x = true → Good (f x) (· = q x)) → Good (compL g f xs) (· = (xs.filter p).map q)
  | [], _, _ => .pure rfl
  | x :: xs, h, h' => by
    show Good (g x >>= fun c => if c = true then f x >>= fun y => compL g f xs >>= fun ys => Pure.pure (y :: ys) else compL g f xs) _
    have ih := Good.compO (xs := xs) (fun y hy => h y (by simp [hy])) fun y hy => h' y (by simp [hy])
    refine .bind (h x (by simp)) fun c hc => ?_
    subst hc
    refine .ite (fun e => ?_) fun e => ?_
    · refine .bind (h' x (by simp) e) fun y hy => .bind ih fun ys hys => .pure ?_
      subst hy hys
      simp [e]
    · refine ih.imp fun ys hys => ?_
      subst hys
      simp [e]
theorem Good.compA {α β : Type} {f : α → WM DW β} {q : α → β} {xs : List α} (h : ∀ x ∈ xs, Good (f x) (· = q x)) : Good (compL (fun _ => Pure.pure true) f xs) (· = xs.map q) := by
  refine (Good.compO (p := fun _ => true) (q := q) (fun _ _ => .pure rfl) fun x hx _ => h x hx).imp fun ys hy => ?_
  rw [filter_yes] at hy
  exact hy
theorem Good.foldL {α δ : Type} {f : α → δ → WM DW δ} (I : δ → Prop) : ∀ {xs : List α} {d : δ}, I d → (∀ x ∈ xs, ∀ d, I d → Good (f x d) I) → Good (TT.foldL f xs d) I
  | [], d, i, _ => .pure i
  | x :: xs, d, i, h => .bind (h x (by simp) d i) fun d' i' => Good.foldL I i' fun y hy => h y (by simp [hy])
/-- the state at the place of a loop -/
theorem Good.foldI {α δ : Type} {f : α → δ → WM DW δ} (I : Nat → δ → Prop) : ∀ {xs : List α} {d : δ} (i : Nat), I i d → (∀ (j : Nat) (x : α) (d : δ), xs[j]? = some x → I (i + j) d → Good (f x d) (I (i + j + 1))) → Good (TT.foldL f xs d) (I (i + xs.length))
  | [], d, i, h, _ => .pure h
  | x :: xs, d, i, h, t => by
    refine .bind (t 0 x d (by simp) h) fun d' i' => ?_
    have := Good.foldI I (xs := xs) (d := d') (i + 1) i' fun j y d hy hd => by
      have := t (j + 1) y d (by simpa using hy) (by rw [show i + (j + 1) = i + 1 + j by omega]; exact hd)
      rw [show i + 1 + j + 1 = i + (j + 1) + 1 by omega]
      exact this
    rw [List.length_cons, show i + (xs.length + 1) = i + 1 + xs.length by omega]
    exact this
/-- a loop that is never left -/
theorem Good.loop {α δ ρ : Type} {f : α → δ → WM DW (Out ρ δ δ)} (I : δ → Prop) : ∀ {xs : List α} {d : δ}, I d → (∀ x ∈ xs, ∀ d, I d → Good (f x d) (fun o => ∃ d', o = .nx d' ∧ I d')) → Good (loopL f xs d) (fun r => ∃ d', r = .inl d' ∧ I d')
  | [], d, i, _ => .pure ⟨d, rfl, i⟩
  | x :: xs, d, i, h => .bind (h x (by simp) d i) fun o ⟨d', e, i'⟩ => by
    subst e
    exact Good.loop I i' fun y hy => h y (by simp [hy])
/-! ### the draws -/
noncomputable def nextM (many_ : Int) : WM DW Int :=
  incAt >>= fun _ =>
  (rdAt >>= fun v1 => rdDraws >>= fun v2 => pure (decide ((v2.length : Int) < v1))) >>= fun b => if b = true then ((pure (0 : Int))) else
  (rdDraws >>= fun v3 => rdAt >>= fun v4 => fromO (L2.atI v3 (v4 - (1 : Int))) >>= fun v5 => fromO (modG v5 many_))
theorem Good.nextM {n : Int} (h : 0 < n) : Good (nextM n) (fun v => 0 ≤ v ∧ v < n) := fun s hs => by
  obtain ⟨ds, k⟩ := s
  have hs : 0 ≤ k := hs
  by_cases z : (ds.length : Int) < k + 1
  · refine ⟨0, (ds, k + 1), ?_, by show 0 ≤ k + 1; omega, by omega, h⟩
    show (if decide ((ds.length : Int) < k + 1) = true then _ else _ : WM DW Int).run (ds, k + 1) = _
    rw [if_pos (decide_eq_true z)]
    rfl
  · have l : k < ds.length := by omega
    refine ⟨(ds[k.toNat]'(by omega)) % n, (ds, k + 1), ?_, by show 0 ≤ k + 1; omega, Int.emod_nonneg _ (by omega), Int.emod_lt_of_pos _ h⟩
    show (if decide ((ds.length : Int) < k + 1) = true then _ else _ : WM DW Int).run (ds, k + 1) = _
    rw [if_neg (by simpa using z)]
    have e1 : L2.atI ds (k + 1 - 1) = some (ds[k.toNat]'(by omega)) := by rw [show k + 1 - 1 = k by omega]; exact at_int hs l
    show ((PyM.fromO (L2.atI ds (k + 1 - 1)) : WM DW Int) >>= fun v5 => PyM.fromO (modG v5 n)).run (ds, k + 1) = _
    rw [e1]
    show (PyM.fromO (modG _ n) : WM DW Int).run (ds, k + 1) = _
    rw [mod_pos h]
    rfl
end TT

namespace TT
open PyM (fromO)
open PySem L2
/-! ### what is drawn of a script: a list, whatever the script -/
noncomputable def drawsM (script_ : List Int) (many_ : Int) : Option (List Int) :=
  (pure []) >>= fun draws_ =>
  (pure (7 : Int)) >>= fun mixed_ =>
  (fromO (rangeG 0 (script_.length : Int))) >>= fun xs => foldL (fun k_ d_ => (fromO (L2.atI script_ k_) >>= fun v2 => pure (absI v2)) >>= fun cell_ =>
  (fromO (mulG d_.1 (48271 : Int)) >>= fun v3 => fromO (modG cell_ (1000003 : Int)) >>= fun v4 => fromO (modG ((v3 + v4) + k_) (65537 : Int))) >>= fun mixed_2 =>
  (pure (0 : Int)) >>= fun rest_ =>
  (fromO (powG (10 : Int) (18 : Int)) >>= fun v6 => pure (decide (v6 ≤ cell_))) >>= fun t => (if t = true then ((pure cell_) >>= fun rest_2 =>
  pure (rest_2, d_.2)) else ((fromO (modG cell_ (997 : Int))) >>= fun a => fromO (appG d_.2 a) >>= fun draws_2 =>
  (fromO (mulG mixed_2 (69621 : Int)) >>= fun v8 => fromO (modG (v8 + (5 : Int)) (65521 : Int)) >>= fun v9 => fromO (modG v9 (997 : Int))) >>= fun a => fromO (appG draws_2 a) >>= fun draws_3 =>
  pure (rest_, draws_3))) >>= fun d_3 =>
  (fromO (rangeG 0 (60 : Int))) >>= fun xs => foldL (fun turn_ d_4 => (pure (decide ((0 : Int) < d_4.2))) >>= fun t => (if t = true then ((fromO (modG d_4.2 (997 : Int))) >>= fun a => fromO (appG d_4.1 a) >>= fun draws_4 =>
  (fromO (divG d_4.2 (997 : Int))) >>= fun rest_3 =>
  pure (draws_4, rest_3)) else (pure (d_4.1, d_4.2))) >>= fun d_6 =>
  pure (d_6.1, d_6.2)) xs (d_3.2, d_3.1) >>= fun d_5 =>
  pure (mixed_2, d_5.1)) xs (mixed_, draws_) >>= fun d_2 =>
  (fromO (rangeG 0 many_)) >>= fun xs => foldL (fun k_2 d_7 => (fromO (mulG d_7.1 (16807 : Int)) >>= fun v15 => fromO (modG ((v15 + k_2) + (1 : Int)) (65537 : Int))) >>= fun mixed_3 =>
  (fromO (modG mixed_3 (997 : Int))) >>= fun a => fromO (appG d_7.2 a) >>= fun draws_5 =>
  pure (mixed_3, draws_5)) xs (d_2.1, d_2.2) >>= fun d_8 =>
  (pure (cutA d_8.2 none (some many_)))
theorem pow18 : powG 10 18 = some 1000000000000000000 := by
  unfold powG
  rw [if_pos (by decide)]
  rfl
theorem get_mem {α : Type} {xs : List α} {i : Nat} {x : α} (h : xs[i]? = some x) : x ∈ xs := List.mem_of_getElem? h
/-- the inner walk -/
theorem draws_in {ds : List Int} {rest : Int} (h : ds.length ≤ 16000000) : ∃ r : List Int × Int, foldL (m := Option) (fun (turn_ : Int) (d_4 : List Int × Int) => (if decide ((0 : Int) < d_4.2) = true then ((modG d_4.2 (997 : Int)) >>= fun a => appG d_4.1 a >>= fun draws_4 =>
        (divG d_4.2 (997 : Int)) >>= fun rest_3 =>
        some (draws_4, rest_3)) else (some (d_4.1, d_4.2))) >>= fun d_6 =>
        some (d_6.1, d_6.2)) (rangeL 0 60) (ds, rest) = some r ∧ r.1.length ≤ ds.length + 60 := by
  obtain ⟨r, e, i⟩ := fold_inv (f := fun (turn_ : Int) (d_4 : List Int × Int) => (if decide ((0 : Int) < d_4.2) = true then ((modG d_4.2 (997 : Int)) >>= fun a => appG d_4.1 a >>= fun draws_4 =>
        (divG d_4.2 (997 : Int)) >>= fun rest_3 =>
        some (draws_4, rest_3)) else (some (d_4.1, d_4.2))) >>= fun d_6 =>
        some (d_6.1, d_6.2)) (fun i r => i ≤ 60 ∧ r.1.length ≤ ds.length + i) (xs := rangeL 0 60) (d := (ds, rest)) 0 ⟨by omega, Nat.le_refl _⟩ (by
    intro j x d hj i
    have hj : j < 60 := by
      rcases Nat.lt_or_ge j 60 with z | z
      · exact z
      · rw [List.getElem?_eq_none (by rw [rangeL_len]; exact z)] at hj; cases hj
    by_cases z : 0 < d.2
    · refine ⟨(d.1 ++ [d.2 % 997], d.2 / 997), ?_, by omega, ?_⟩
      · simp only [o_bind, decide_eq_true z, if_true, mod_pos (i := d.2) (show (0 : Int) < 997 by decide), app_some (xs := d.1) (show d.1.length < 16777216 by omega), div_small (i := d.2) (show (0 : Int) < 997 by decide) (by decide)]
      · simp; omega
    · refine ⟨d, ?_, by omega, by omega⟩
      simp only [o_bind, decide_eq_false z, Bool.false_eq_true, if_false])
  rw [rangeL_len] at i
  exact ⟨r, e, by omega⟩
theorem draws_some {script : List Int} {n : Nat} (h : script.length ≤ 1000) (hn : n ≤ 1000) : ∃ ds, drawsM script n = some ds := by
  have r60 : rangeG 0 60 = some (rangeL 0 60) := range_nat (n := 60) (by decide)
  have n997 : (0 : Int) < 997 := by decide
  unfold drawsM
  simp only [o_pure, o_bind, o_fromO, range_nat (show script.length ≤ 16777216 by omega), range_nat (show n ≤ 16777216 by omega)]
  obtain ⟨r, e, i⟩ := fold_inv (f := fun (k_ : Int) (d_ : Int × List Int) => (L2.atI script k_ >>= fun v2 => some (absI v2)) >>= fun cell_ =>
  (mulG d_.1 (48271 : Int) >>= fun v3 => modG cell_ (1000003 : Int) >>= fun v4 => modG ((v3 + v4) + k_) (65537 : Int)) >>= fun mixed_2 =>
  (powG (10 : Int) (18 : Int) >>= fun v6 => some (decide (v6 ≤ cell_))) >>= fun t => (if t = true then some (cell_, d_.2) else (modG cell_ (997 : Int)) >>= fun a => appG d_.2 a >>= fun draws_2 =>
  (mulG mixed_2 (69621 : Int) >>= fun v8 => modG (v8 + (5 : Int)) (65521 : Int) >>= fun v9 => modG v9 (997 : Int)) >>= fun a => appG draws_2 a >>= fun draws_3 =>
  some ((0 : Int), draws_3)) >>= fun d_3 =>
  (rangeG 0 (60 : Int)) >>= fun xs => foldL (fun turn_ d_4 => (if decide ((0 : Int) < d_4.2) = true then ((modG d_4.2 (997 : Int)) >>= fun a => appG d_4.1 a >>= fun draws_4 =>
  (divG d_4.2 (997 : Int)) >>= fun rest_3 =>
  some (draws_4, rest_3)) else (some (d_4.1, d_4.2))) >>= fun d_6 =>
  some (d_6.1, d_6.2)) xs (d_3.2, d_3.1) >>= fun d_5 =>
  some (mixed_2, d_5.1)) (fun i r => i ≤ script.length ∧ 0 ≤ r.1 ∧ r.1 < 65537 ∧ r.2.length ≤ 62 * i) (xs := rangeL 0 script.length) (d := (7, [])) 0 ⟨by omega, by decide, by decide, Nat.le_refl _⟩ (by
    intro j x d hj i
    have hx := get_mem hj
    rw [mem_rangeL] at hx
    have hj : j < script.length := by
      rcases Nat.lt_or_ge j script.length with z | z
      · exact z
      · rw [List.getElem?_eq_none (by rw [rangeL_len]; exact z)] at hj; cases hj
    obtain ⟨i1, i2, i3, i4⟩ := i
    rw [at_int (xs := script) hx.1 (by omega)]
    simp only [o_bind, mul_small (i := d.1) (j := 48271) (by omega) (by decide), mod_pos (show (0 : Int) < 1000003 by decide), mod_pos (show (0 : Int) < 65537 by decide), pow18]
    generalize absI (script[x.toNat]'(by omega)) = cell
    have m1 := Int.emod_nonneg (d.1 * 48271 + cell % 1000003 + x) (show (65537 : Int) ≠ 0 by decide)
    have m2 := Int.emod_lt_of_pos (d.1 * 48271 + cell % 1000003 + x) (show (0 : Int) < 65537 by decide)
    generalize (d.1 * 48271 + cell % 1000003 + x) % 65537 = mixed at m1 m2
    have fin : ∀ (ds : List Int) (rest : Int), ds.length ≤ d.2.length + 2 → ∃ d', (some (rest, ds) >>= fun d_3 =>
        (rangeG 0 (60 : Int)) >>= fun xs => foldL (fun turn_ d_4 => (if decide ((0 : Int) < d_4.2) = true then ((modG d_4.2 (997 : Int)) >>= fun a => appG d_4.1 a >>= fun draws_4 =>
        (divG d_4.2 (997 : Int)) >>= fun rest_3 =>
        some (draws_4, rest_3)) else (some (d_4.1, d_4.2))) >>= fun d_6 =>
        some (d_6.1, d_6.2)) xs (d_3.2, d_3.1) >>= fun d_5 =>
        some (mixed, d_5.1)) = some d' ∧ (0 + j + 1 ≤ script.length ∧ 0 ≤ d'.1 ∧ d'.1 < 65537 ∧ d'.2.length ≤ 62 * (0 + j + 1)) := by
      intro ds rest hl
      obtain ⟨r, e, l⟩ := draws_in (ds := ds) (rest := rest) (by omega)
      refine ⟨(mixed, r.1), ?_, by omega, m1, m2, by show r.1.length ≤ _; omega⟩
      rw [o_bind, o_go r60]
      exact o_go e
    by_cases z : 1000000000000000000 ≤ cell
    · rw [decide_eq_true z, if_pos rfl]
      exact fin d.2 cell (by omega)
    · rw [decide_eq_false z, if_neg Bool.false_ne_true]
      simp only [o_bind, mod_pos (i := cell) n997, app_some (xs := d.2) (show d.2.length < 16777216 by omega), mul_small (i := mixed) (j := 69621) (by omega) (by decide), mod_pos (i := mixed * 69621 + 5) (show (0 : Int) < 65521 by decide), mod_pos (i := (mixed * 69621 + 5) % 65521) n997]
      rw [app_some (by simp; omega)]
      simp only [o_bind] at fin ⊢
      exact fin _ 0 (by simp))
  rw [o_go e]
  rw [rangeL_len] at i
  obtain ⟨r2, e2, i2⟩ := fold_inv (f := fun (k_2 : Int) (d_7 : Int × List Int) => (mulG d_7.1 (16807 : Int) >>= fun v15 => modG ((v15 + k_2) + (1 : Int)) (65537 : Int)) >>= fun mixed_3 =>
  (modG mixed_3 (997 : Int)) >>= fun a => appG d_7.2 a >>= fun draws_5 =>
  some (mixed_3, draws_5)) (fun i q => i ≤ n ∧ 0 ≤ q.1 ∧ q.1 < 65537 ∧ q.2.length ≤ r.2.length + i) (xs := rangeL 0 n) (d := (r.1, r.2)) 0 ⟨by omega, i.2.1, i.2.2.1, Nat.le_refl _⟩ (by
    intro j x d hj i'
    have hj : j < n := by
      rcases Nat.lt_or_ge j n with z | z
      · exact z
      · rw [List.getElem?_eq_none (by rw [rangeL_len]; exact z)] at hj; cases hj
    obtain ⟨i1, i2, i3, i4⟩ := i'
    have il := i.2.2.2
    simp only [o_bind, mul_small (i := d.1) (j := 16807) (by omega) (by decide), mod_pos (show (0 : Int) < 65537 by decide), mod_pos n997, app_some (xs := d.2) (show d.2.length < 16777216 by omega)]
    exact ⟨_, rfl, by omega, Int.emod_nonneg _ (by decide), Int.emod_lt_of_pos _ (by decide), by simp; omega⟩)
  rw [o_go e2]
  exact ⟨_, rfl⟩
/-- the law: what is drawn, then the rest -/
theorem law_of {f : List Int → Int → Option (List Int)} (hf : f = drawsM) {n : Nat} {b : WM DW Bool} {script : List Int} (h : script.length ≤ 63) (hn : n ≤ 1000) (g : Good b (· = true)) : (f script n >>= fun ds => (b.run (ds, 0)).map (·.1)) = some true := by
  subst hf
  obtain ⟨ds, e⟩ := draws_some (script := script) (n := n) (by omega) hn
  rw [o_go e]
  obtain ⟨a, s', e2, _, p⟩ := g (ds, 0) (Int.le_refl 0)
  rw [e2, p]
  rfl
end TT

namespace TT
open PyM (fromO)
open PySem L2
/-! ### over a range, by the natural numbers -/
theorem rangeL0 (n : Nat) : rangeL 0 n = (List.range n).map fun (i : Nat) => (i : Int) := by
  rw [rangeL_map]
  apply List.map_congr_left
  intro i _
  omega
theorem comp_map {α β γ : Type} {m : Type → Type} [Monad m] {g : β → m Bool} {f : β → m γ} (h : α → β) : ∀ xs : List α, compL g f (xs.map h) = compL (fun x => g (h x)) (fun x => f (h x)) xs
  | [] => rfl
  | x :: xs => by
    show (g (h x) >>= fun c => if c = true then f (h x) >>= fun y => compL g f (xs.map h) >>= fun ys => pure (y :: ys) else compL g f (xs.map h)) = _
    rw [comp_map h xs]
    rfl
theorem comp_range {β : Type} {n : Nat} {f : Int → Option β} {q : Nat → β} (h : ∀ k, k < n → f (k : Int) = some (q k)) : compL (fun _ => pure true) f (rangeL 0 n) = some ((List.range n).map q) := by
  rw [rangeL0, comp_map]
  exact comp_all fun k hk => h k (List.mem_range.mp hk)
theorem comp_rangeF {β : Type} {n : Nat} {g : Int → Option Bool} {f : Int → Option β} {p : Nat → Bool} {q : Nat → β} (h : ∀ k, k < n → g (k : Int) = some (p k)) (h' : ∀ k, k < n → p k = true → f (k : Int) = some (q k)) : compL g f (rangeL 0 n) = some (((List.range n).filter p).map q) := by
  rw [rangeL0, comp_map]
  exact comp_some (fun k hk => h k (List.mem_range.mp hk)) fun k hk => h' k (List.mem_range.mp hk)
theorem comp_rangeS {β : Type} {n : Nat} {f : Int → Option β} {q : Nat → β} (h : ∀ k, k < n → f (k : Int) = some (q k)) : compL (fun _ => some true) f (rangeL 0 n) = some ((List.range n).map q) := comp_range h
theorem comp_allS {α β : Type} {f : α → Option β} {q : α → β} {xs : List α} (h : ∀ x ∈ xs, f x = some (q x)) : compL (fun _ => some true) f xs = some (xs.map q) := comp_all h
/-- a fold over a range, by the state at each place -/
theorem fold_range {δ : Type} {n : Nat} {f : Int → δ → Option δ} (s : Nat → δ) (h : ∀ k, k < n → f (k : Int) (s k) = some (s (k + 1))) : foldL f (rangeL 0 n) (s 0) = some (s n) := by
  obtain ⟨r, e, i⟩ := fold_inv (f := f) (fun i d => d = s i) (xs := rangeL 0 n) (d := s 0) 0 rfl (by
    intro j x d hj hd
    have hj' : j < n := by
      rcases Nat.lt_or_ge j n with z | z
      · exact z
      · rw [List.getElem?_eq_none (by rw [rangeL_len]; exact z)] at hj; cases hj
    rw [rangeL_get n 0 j hj'] at hj
    have e : x = (j : Int) := by
      have := Option.some.inj hj
      omega
    subst e
    rw [Nat.zero_add] at hd ⊢
    subst hd
    exact ⟨_, h j hj', rfl⟩)
  rw [rangeL_len, Nat.zero_add] at i
  rw [e, i]
theorem at_getD {xs : List Int} {k : Nat} (h : k < xs.length) : L2.atI xs (k : Int) = some (xs.getD k 0) := by
  rw [at_nat (List.getElem?_eq_getElem h)]
  simp [List.getD, h]
theorem at_of {α : Type} {xs : List α} {k : Int} (i : Nat) {x : α} (e : k = (i : Int)) (h : xs[i]? = some x) : L2.atI xs k = some x := by
  subst e
  exact at_nat h
theorem at_head {α : Type} (x : α) (xs : List α) : L2.atI (x :: xs) 0 = some x := at_of 0 rfl rfl
/-- from the end -/
theorem at_neg {α : Type} {xs : List α} {k : Int} (j : Nat) {x : α} (e : k = -((j : Int) + 1)) (h : j < xs.length) (hx : xs[xs.length - 1 - j]? = some x) : L2.atI xs k = some x := by
  subst e
  unfold L2.atI L2.ixN
  rw [if_neg (by omega), if_pos (by omega)]
  show xs[(-((j : Int) + 1) + (xs.length : Int)).toNat]? = some x
  rw [show (-((j : Int) + 1) + (xs.length : Int)).toNat = xs.length - 1 - j by omega]
  exact hx
theorem sIx_nat (n i : Nat) (d : Nat) : HT.sIx n d (some (i : Int)) = min i n := HT.sIx_nat n d i
theorem cut_nat {α : Type} (xs : List α) (i j : Nat) : cutA xs (some (i : Int)) (some (j : Int)) = (xs.drop (min i xs.length)).take (min j xs.length - min i xs.length) := by
  unfold cutA
  rw [sIx_nat, sIx_nat]
theorem cut_from {α : Type} (xs : List α) (i : Nat) : cutA xs (some (i : Int)) none = xs.drop i := by
  unfold cutA
  rw [sIx_nat, HT.sIx_none]
  rcases Nat.le_total i xs.length with h | h
  · rw [Nat.min_eq_left h, List.take_of_length_le (by rw [List.length_drop]; exact Nat.le_refl _)]
  · rw [Nat.min_eq_right h, List.drop_eq_nil_of_le (Nat.le_refl _), List.drop_eq_nil_of_le h, List.take_nil]
theorem cut_to {α : Type} (xs : List α) (j : Nat) : cutA xs none (some (j : Int)) = xs.take j := by
  unfold cutA
  rw [sIx_nat, HT.sIx_none]
  simp
theorem ext_getD {xs ys : List Int} (h : xs.length = ys.length) (e : ∀ k, k < xs.length → xs.getD k 0 = ys.getD k 0) : xs = ys := by
  apply List.ext_getElem h
  intro i h1 h2
  have := e i h1
  simpa [List.getD, h1, h2] using this
theorem getD_map_range {n k : Nat} (f : Nat → Int) (h : k < n) : ((List.range n).map f).getD k 0 = f k := by
  simp [List.getD, h]
end TT

namespace TT
open PyM (fromO)
open PySem L2
/-! ### what draws nothing, as one thing -/
theorem w_bind {α β : Type} (x : Option α) (f : α → Option β) : ((fromO x : WM DW α) >>= fun a => (fromO (f a) : WM DW β)) = fromO (x >>= f) := by
  cases x with
  | none => funext s; rfl
  | some a => funext s; rfl
theorem w_pure {α : Type} (a : α) : (pure a : WM DW α) = fromO (some a) := congrArg id (rfl : (fromO (some a) : WM DW α) = fromO (some a))
theorem w_ite {α : Type} {c : Prop} [Decidable c] (x y : Option α) : (if c then (fromO x : WM DW α) else fromO y) = fromO (if c then x else y) := by split <;> rfl
theorem w_comp {α β : Type} (g : α → Option Bool) (f : α → Option β) : ∀ xs : List α, compL (m := WM DW) (fun x => fromO (g x)) (fun x => fromO (f x)) xs = fromO (compL g f xs)
  | [] => by show (pure [] : WM DW (List β)) = _; rw [w_pure]; rfl
  | x :: xs => by
    show ((fromO (g x) : WM DW Bool) >>= fun c => if c = true then (fromO (f x) : WM DW β) >>= fun y => compL (fun x => fromO (g x)) (fun x => fromO (f x)) xs >>= fun ys => pure (y :: ys) else compL (fun x => fromO (g x)) (fun x => fromO (f x)) xs) = _
    rw [w_comp g f xs]
    simp only [w_pure, w_bind, w_ite]
    rfl
theorem w_fold {α δ : Type} (f : α → δ → Option δ) : ∀ (xs : List α) (d : δ), foldL (m := WM DW) (fun x d => fromO (f x d)) xs d = fromO (foldL f xs d)
  | [], d => by show (pure d : WM DW δ) = _; rw [w_pure]; rfl
  | x :: xs, d => by
    show ((fromO (f x d) : WM DW δ) >>= fun d' => foldL (fun x d => fromO (f x d)) xs d') = _
    have : (fun d' => foldL (m := WM DW) (fun x d => fromO (f x d)) xs d') = fun d' => fromO (foldL f xs d') := funext fun d' => w_fold f xs d'
    rw [this, w_bind]
    rfl
theorem Good.compS {α β : Type} {f : α → WM DW β} {Q : β → Prop} {xs : List α} (h : ∀ x ∈ xs, Good (f x) Q) : Good (compL (fun _ => PyM.fromO (some true)) f xs) (fun ys => ys.length = xs.length ∧ ∀ y ∈ ys, Q y) := Good.comp' h
/-- a test that does not hold -/
theorem Good.no {β : Type} {o : Option Bool} {x y : WM DW β} {Q : β → Prop} (h : o = some false) (h' : Good y Q) : Good (PyM.fromO o >>= fun b => if b = true then x else y) Q := Good.go h (Good.ite (fun e => by cases e) fun _ => h')
theorem o_no {β : Type} {o : Option Bool} {x y : Option β} (h : o = some false) : (o >>= fun b => if b = true then x else y) = y := by rw [h]; rfl
end TT

namespace TT
open PyM (fromO)
open PySem L2
/-! ### the greatest common part, fractions -/
theorem fmod_abs {a b : Int} (h : b ≠ 0) : (a.fmod b).natAbs < b.natAbs := by
  rcases Int.lt_or_gt_of_ne h with z | z
  · have e := Int.neg_fmod_neg a b
    have h1 := Int.fmod_nonneg_of_pos (-a) (b := -b) (by omega)
    have h2 := Int.fmod_lt_of_pos (-a) (b := -b) (by omega)
    omega
  · have h1 := Int.fmod_nonneg_of_pos a z
    have h2 := Int.fmod_lt_of_pos a z
    omega
theorem gcd_fmod (a b : Int) : Int.gcd b (a.fmod b) = Int.gcd a b := by
  rw [Int.fmod_def, Int.gcd_sub_mul_left_right, Int.gcd_comm]
theorem modG_ne {i j : Int} (h : j ≠ 0) : modG i j = some (i.fmod j) := if_pos h
theorem common_while (a b : Int) : ∃ r : Int × Int, whileM (m := Option) (fun d_ : Int × Int => some (!decide (d_.2 = (0 : Int)))) (fun d_ => (modG d_.1 d_.2 >>= fun v1 => some (d_.2, v1)) >>= fun p_ => some (p_.1, p_.2)) (a, b) = some r ∧ absI r.1 = (Int.gcd a b : Int) := by
  obtain ⟨r, e, ⟨i⟩, c⟩ := whileM_inv (c := fun d_ : Int × Int => some (!decide (d_.2 = (0 : Int)))) (b := fun d_ => (modG d_.1 d_.2 >>= fun v1 => some (d_.2, v1)) >>= fun p_ => some (p_.1, p_.2)) (fun d => PLift (Int.gcd d.1 d.2 = Int.gcd a b) |> Nonempty) (fun d => d.2.natAbs) (d := (a, b)) (fun d i => by
    refine ⟨_, rfl, fun t => ?_⟩
    have h : d.2 ≠ 0 := by simpa using t
    refine ⟨(d.2, d.1.fmod d.2), ?_, ?_, fmod_abs h⟩
    · rw [modG_ne h, o_bind, o_bind]
    · obtain ⟨⟨i⟩⟩ := i
      exact ⟨⟨by rw [gcd_fmod]; exact i⟩⟩) ⟨⟨rfl⟩⟩
  refine ⟨r, e, ?_⟩
  have h : r.2 = 0 := by
    have c : some (!decide (r.2 = 0)) = some false := c
    injection c with c
    simpa using c
  have i := i.down
  rw [h, Int.gcd_zero_right] at i
  rw [← i]
  unfold absI
  split <;> omega
end TT

namespace TT
open PyM (fromO)
open PySem L2
/-- by what a fraction is cut -/
def cutBy (a b : Int) : Int := if b < 0 then -(Int.gcd a b : Int) else (Int.gcd a b : Int)
/-- a fraction in its least form -/
def nf (a b : Int) : Int × Int := (a / cutBy a b, b / cutBy a b)
theorem cutBy_ne {a b : Int} (h : b ≠ 0) : cutBy a b ≠ 0 := by
  have g : Int.gcd a b ≠ 0 := fun z => h (Int.gcd_eq_zero_iff.mp z).2
  unfold cutBy
  split <;> omega
theorem cutBy_dvd (a b : Int) : cutBy a b ∣ a ∧ cutBy a b ∣ b := by
  unfold cutBy
  split
  · exact ⟨Int.neg_dvd.mpr (Int.gcd_dvd_left a b), Int.neg_dvd.mpr (Int.gcd_dvd_right a b)⟩
  · exact ⟨Int.gcd_dvd_left a b, Int.gcd_dvd_right a b⟩
theorem nf_mul {a b : Int} : (nf a b).1 * cutBy a b = a ∧ (nf a b).2 * cutBy a b = b := ⟨Int.ediv_mul_cancel (cutBy_dvd a b).1, Int.ediv_mul_cancel (cutBy_dvd a b).2⟩
theorem nf_pos {a b : Int} (h : b ≠ 0) : 0 < (nf a b).2 := by
  have e := (nf_mul (a := a) (b := b)).2
  have c := cutBy_ne (a := a) h
  have g : 0 ≤ (Int.gcd a b : Int) := by omega
  unfold cutBy at e c
  split at e
  · rename_i z
    rw [if_pos z] at c
    rcases Int.lt_trichotomy (nf a b).2 0 with y | y | y
    · have := Int.mul_nonneg_of_nonpos_of_nonpos (Int.le_of_lt y) (show -(Int.gcd a b : Int) ≤ 0 by omega)
      omega
    · rw [y, Int.zero_mul] at e; omega
    · exact y
  · rename_i z
    rw [if_neg z] at c
    rcases Int.lt_trichotomy (nf a b).2 0 with y | y | y
    · have := Int.mul_nonpos_of_nonpos_of_nonneg (Int.le_of_lt y) (show 0 ≤ (Int.gcd a b : Int) by omega)
      omega
    · rw [y, Int.zero_mul] at e; omega
    · exact y
theorem nf_cop {a b : Int} (h : b ≠ 0) : Int.gcd (nf a b).1 (nf a b).2 = 1 := by
  have c := cutBy_ne (a := a) h
  obtain ⟨e1, e2⟩ := nf_mul (a := a) (b := b)
  have k : (cutBy a b).natAbs = Int.gcd a b := by unfold cutBy; split <;> omega
  have g : Int.gcd ((nf a b).1 * cutBy a b) ((nf a b).2 * cutBy a b) = Int.gcd (nf a b).1 (nf a b).2 * (cutBy a b).natAbs := Int.gcd_mul_right ..
  rw [e1, e2, k] at g
  have p : 0 < Int.gcd a b := by omega
  have : Int.gcd (nf a b).1 (nf a b).2 * Int.gcd a b = 1 * Int.gcd a b := by omega
  exact Nat.eq_of_mul_eq_mul_right p this
theorem nf_cross {a b : Int} : a * (nf a b).2 = (nf a b).1 * b := by
  obtain ⟨e1, e2⟩ := nf_mul (a := a) (b := b)
  generalize (nf a b).1 = p at *
  generalize (nf a b).2 = q at *
  generalize cutBy a b = c at *
  subst e1 e2
  grind
theorem cop_dvd {q p s : Int} (h : q ∣ p * s) (c : Int.gcd q p = 1) : q ∣ s := by
  have h2 : q.natAbs ∣ p.natAbs * s.natAbs := by rw [← Int.natAbs_mul]; exact Int.natAbs_dvd_natAbs.mpr h
  exact Int.natAbs_dvd_natAbs.mp (Nat.Coprime.dvd_of_dvd_mul_left (show Nat.Coprime q.natAbs p.natAbs from c) h2)
theorem low_eq {p q r s : Int} (hq : 0 < q) (hs : 0 < s) (c1 : Int.gcd p q = 1) (c2 : Int.gcd r s = 1) (e : p * s = r * q) : p = r ∧ q = s := by
  have d1 : q ∣ s := by
    have : q ∣ p * s := ⟨r, by rw [e, Int.mul_comm]⟩
    exact cop_dvd this (by rw [Int.gcd_comm]; exact c1)
  have d2 : s ∣ q := by
    have : s ∣ r * q := ⟨p, by rw [← e, Int.mul_comm]⟩
    exact cop_dvd this (by rw [Int.gcd_comm]; exact c2)
  have e2 : q = s := Int.dvd_antisymm (by omega) (by omega) d1 d2
  subst e2
  exact ⟨Int.eq_of_mul_eq_mul_right (by omega) e, rfl⟩
theorem nf_eq {a b c d : Int} (hb : b ≠ 0) (hd : d ≠ 0) (e : a * d = c * b) : nf a b = nf c d := by
  have x1 := nf_cross (a := a) (b := b)
  have x2 := nf_cross (a := c) (b := d)
  obtain ⟨e1, e2⟩ := low_eq (nf_pos (a := a) hb) (nf_pos (a := c) hd) (nf_cop hb) (nf_cop hd) (by
    -- p * s * (b * d) = r * q * (b * d)
    have k : b * d ≠ 0 := Int.mul_ne_zero hb hd
    apply Int.eq_of_mul_eq_mul_right k
    generalize (nf a b).1 = p at *
    generalize (nf a b).2 = q at *
    generalize (nf c d).1 = r at *
    generalize (nf c d).2 = s at *
    have l : p * s * (b * d) = (p * b) * (s * d) := by grind
    have l2 : r * q * (b * d) = (r * d) * (q * b) := by grind
    rw [l, l2, ← x1, ← x2]
    have : a * q * (s * d) = (a * d) * (q * s) := by grind
    rw [this, e]
    grind)
  exact Prod.ext e1 e2
theorem nf_iff {a b c d : Int} (hb : b ≠ 0) (hd : d ≠ 0) : nf a b = nf c d ↔ a * d = c * b := by
  refine ⟨fun h => ?_, nf_eq hb hd⟩
  have x1 := nf_cross (a := a) (b := b)
  have x2 := nf_cross (a := c) (b := d)
  have p := nf_pos (a := a) hb
  rw [← h] at x2
  generalize (nf a b).1 = p at *
  generalize (nf a b).2 = q at *
  have : a * d * q = c * b * q := by
    have l : a * d * q = (a * q) * d := by grind
    have l2 : c * b * q = (c * q) * b := by grind
    rw [l, l2, x1, x2]
    grind
  exact Int.eq_of_mul_eq_mul_right (by omega) this
theorem nf_self {p q : Int} (hq : 0 < q) (c : Int.gcd p q = 1) : nf p q = (p, q) := by
  unfold nf cutBy
  rw [if_neg (by omega), c]
  simp
end TT

namespace TT
open PyM (fromO)
open PySem L2
/-! ### the program's own fraction -/
theorem div_nf {i j : Int} (h : (0 < j ∧ j.natAbs < 1267650600228229401496703205376) ∨ (j ≠ 0 ∧ j.natAbs < 1073741824)) (d : j ∣ i) : divG i j = some (i / j) := by
  unfold divG
  rw [if_pos, Int.fdiv_eq_ediv_of_dvd d]
  rcases h with ⟨h1, h2⟩ | h
  · have e : (1267650600228229401496703205376 : Nat) = 2 ^ 100 := by decide
    rw [e] at h2
    exact .inl ⟨h1, Nat.lt_of_lt_of_le h2 (Nat.pow_le_pow_right (by decide) (by decide))⟩
  · exact .inr h
theorem gcd_le {a b : Int} (h : b ≠ 0) : Int.gcd a b ≤ b.natAbs := Nat.le_of_dvd (by omega) (Int.natAbs_dvd_natAbs.mpr (Int.gcd_dvd_right a b))
/-- two turns halve what is left -/
theorem fmod_half {a b : Int} (h : b ≠ 0) (h2 : a.fmod b ≠ 0) : 2 * (b.fmod (a.fmod b)).natAbs < b.natAbs := by
  have l := fmod_abs (a := a) h
  generalize hr : a.fmod b = r at *
  -- r has b's sign
  have sgn : (0 < b ∧ 0 < r) ∨ (b < 0 ∧ r < 0) := by
    rcases Int.lt_or_gt_of_ne h with z | z
    · have e := Int.neg_fmod_neg a b
      have h1 := Int.fmod_nonneg_of_pos (-a) (b := -b) (by omega)
      exact .inr ⟨z, by omega⟩
    · have h1 := Int.fmod_nonneg_of_pos a z
      exact .inl ⟨z, by omega⟩
  have key : ∀ x y : Int, 0 < x → 0 < y → y < x → 2 * (x.fmod y).natAbs < x.natAbs := by
    intro x y hx hy hl
    rw [Int.fmod_eq_emod_of_nonneg x (by omega)]
    have h1 := Int.emod_nonneg x (show y ≠ 0 by omega)
    have h2 := Int.emod_lt_of_pos x hy
    have h3 := Int.mul_ediv_add_emod x y
    have q : 1 ≤ x / y := by
      have := Int.ediv_mul_le x (show y ≠ 0 by omega)
      rcases Int.lt_or_le (x / y) 1 with z | z
      · have : x / y ≤ 0 := by omega
        have := Int.mul_nonpos_of_nonneg_of_nonpos (show 0 ≤ y by omega) this
        omega
      · exact z
    have : y * 1 ≤ y * (x / y) := Int.mul_le_mul_of_nonneg_left q (by omega)
    omega
  rcases sgn with ⟨s1, s2⟩ | ⟨s1, s2⟩
  · exact key b r s1 s2 (by omega)
  · have e := Int.neg_fmod_neg b r
    have := key (-b) (-r) (by omega) (by omega) (by omega)
    omega
/-- a turn of the law's own walk -/
noncomputable def cmTurn (turn_ : Int) (d_ : Int × Int) : Option (Out Int (Int × Int) (Int × Int)) :=
  some (decide (d_.2 = (0 : Int))) >>= fun t => (if t = true then (some (.bk (d_.1, d_.2))) else (some (.nx ()))) >>= Out.thn fun d_3 =>
  (modG d_.1 d_.2 >>= fun v2 => some (d_.2, v2)) >>= fun p_ =>
  some (.nx (p_.1, p_.2))
theorem cmTurn_0 (t a : Int) : cmTurn t (a, 0) = some (.bk (a, 0)) := by
  unfold cmTurn
  simp only [decide_true, o_bind, if_true]
  rfl
theorem cmTurn_s (t a : Int) {b : Int} (h : b ≠ 0) : cmTurn t (a, b) = some (.nx (b, a.fmod b)) := by
  unfold cmTurn
  simp only [decide_eq_false h, o_bind, Bool.false_eq_true, if_false]
  show ((modG a b >>= fun v2 => some (b, v2)) >>= fun p_ => some (Out.nx (p_.1, p_.2))) = _
  rw [modG_ne h, o_bind, o_bind]
theorem loop_cons {α δ ρ : Type} (f : α → δ → Option (Out ρ δ δ)) (x : α) (xs : List α) (d : δ) : loopL f (x :: xs) d = f x d >>= Out.loop (loopL f xs) := rfl
theorem cm_loop : ∀ (k : Nat) (xs : List Int) (a b : Int), b.natAbs < 2 ^ k → 2 * k + 1 ≤ xs.length → ∃ d : Int, loopL cmTurn xs (a, b) = some (.inl (d, 0)) ∧ Int.gcd d 0 = Int.gcd a b
  | 0, xs, a, b, h, l => by
    obtain ⟨x, xs, rfl⟩ : ∃ x r, xs = x :: r := by cases xs with | nil => simp at l | cons x r => exact ⟨x, r, rfl⟩
    have e : b = 0 := by omega
    subst e
    exact ⟨a, by rw [loop_cons, cmTurn_0]; rfl, rfl⟩
  | k + 1, xs, a, b, h, l => by
    obtain ⟨x, xs, rfl⟩ : ∃ x r, xs = x :: r := by cases xs with | nil => simp at l | cons x r => exact ⟨x, r, rfl⟩
    obtain ⟨y, xs, rfl⟩ : ∃ x r, xs = x :: r := by cases xs with | nil => simp at l | cons x r => exact ⟨x, r, rfl⟩
    by_cases z : b = 0
    · subst z
      exact ⟨a, by rw [loop_cons, cmTurn_0]; rfl, rfl⟩
    · by_cases z2 : a.fmod b = 0
      · refine ⟨b, ?_, ?_⟩
        · rw [loop_cons, cmTurn_s x a z, z2]
          show loopL cmTurn (y :: xs) (b, 0) = _
          rw [loop_cons, cmTurn_0]; rfl
        · rw [← gcd_fmod a b, z2]
      · have hh := fmod_half z z2
        have h : b.natAbs < 2 * 2 ^ k := by rw [Nat.pow_succ] at h; omega
        simp only [List.length_cons] at l
        obtain ⟨d, e, g⟩ := cm_loop k xs (a.fmod b) (b.fmod (a.fmod b)) (by omega) (by omega)
        refine ⟨d, ?_, ?_⟩
        · rw [loop_cons, cmTurn_s x a z]
          show loopL cmTurn (y :: xs) (b, a.fmod b) = _
          rw [loop_cons, cmTurn_s y b z2]
          exact e
        · rw [g, gcd_fmod, gcd_fmod]
end TT

namespace TT
open PyM (fromO)
open PySem L2
noncomputable def commonM (a_ : Int) (b_ : Int) : Option Int :=
  whileM (fun d_ => (pure (!decide (d_.2 = (0 : Int))))) (fun d_ => (fromO (modG d_.1 d_.2) >>= fun v1 => pure (d_.2, v1)) >>= fun p_ =>
  pure (p_.1, p_.2)) (a_, b_) >>= fun d_2 =>
  (pure (absI d_2.1))
noncomputable def fractionM (a_ : Int) (b_ : Int) : Option (Int × Int) :=
  (fromO (commonM a_ b_)) >>= fun by_ =>
  (pure (decide (b_ < (0 : Int)))) >>= fun t => (if t = true then ((pure (-by_)) >>= fun by_2 =>
  pure by_2) else (pure by_)) >>= fun d_ =>
  (fromO (divG a_ d_) >>= fun v2 => fromO (divG b_ d_) >>= fun v3 => pure (v2, v3))
noncomputable def lawCommonM (a_ : Int) (b_ : Int) : Option Int :=
  (fromO (rangeG 0 (400 : Int))) >>= fun xs => loopL (fun turn_ d_ => (pure (decide (d_.2 = (0 : Int)))) >>= fun t => (if t = true then (pure (.bk (d_.1, d_.2))) else (pure (.nx ()))) >>= Out.thn fun d_3 =>
  (fromO (modG d_.1 d_.2) >>= fun v2 => pure (d_.2, v2)) >>= fun p_ =>
  pure (.nx (p_.1, p_.2))) xs (a_, b_) >>= thenF fun d_2 =>
  (pure (absI d_2.1))
noncomputable def lawFracM (a_ : Int) (b_ : Int) : Option (Int × Int) :=
  (fromO (lawCommonM a_ b_)) >>= fun by_ =>
  (pure (decide (b_ < (0 : Int)))) >>= fun t => (if t = true then ((pure (-by_)) >>= fun by_2 =>
  pure by_2) else (pure by_)) >>= fun d_ =>
  (fromO (divG a_ d_) >>= fun v2 => fromO (divG b_ d_) >>= fun v3 => pure (v2, v3))
theorem common_eq (a b : Int) : commonM a b = some (Int.gcd a b : Int) := by
  unfold commonM
  simp only [o_pure, o_fromO]
  obtain ⟨r, e, h⟩ := common_while a b
  rw [o_go e, h]
theorem lawCommon_eq (a : Int) {b : Int} (h : b.natAbs < 1073741824) : lawCommonM a b = some (Int.gcd a b : Int) := by
  unfold lawCommonM
  simp only [o_pure, o_fromO]
  rw [o_go (range_some (lo := 0) (hi := 400) (by decide))]
  obtain ⟨d, e, g⟩ := cm_loop 30 (rangeL 0 (400 - 0 : Int).toNat) a b (by exact h) (by rw [rangeL_len]; decide)
  unfold cmTurn at e
  rw [o_go e]
  show some (absI d) = _
  rw [← g, Int.gcd_zero_right]
  unfold absI
  congr 1
  split <;> omega
theorem frac_tail {a b : Int} (h : b ≠ 0) (hb : b.natAbs < 1073741824) : ((some (decide (b < (0 : Int)))) >>= fun t => (if t = true then ((some (-(Int.gcd a b : Int))) >>= fun by_2 => some by_2) else (some (Int.gcd a b : Int))) >>= fun d_ =>
    (divG a d_ >>= fun v2 => divG b d_ >>= fun v3 => some (v2, v3))) = some (nf a b) := by
  have g := gcd_le (a := a) h
  have c := cutBy_ne (a := a) h
  obtain ⟨d1, d2⟩ := cutBy_dvd a b
  have k : (cutBy a b).natAbs < 1073741824 := by unfold cutBy; split <;> omega
  have e : (if decide (b < 0) = true then ((some (-(Int.gcd a b : Int))) >>= fun by_2 => some by_2) else (some (Int.gcd a b : Int))) = some (cutBy a b) := by
    unfold cutBy
    by_cases z : b < 0
    · rw [if_pos (decide_eq_true z), if_pos z, o_bind]
    · rw [if_neg (by simpa using z), if_neg z]
  rw [o_bind, o_go e, div_nf (.inr ⟨c, k⟩) d1, o_bind, div_nf (.inr ⟨c, k⟩) d2, o_bind]
  rfl
theorem fraction_eq {a b : Int} (h : b ≠ 0) (hb : b.natAbs < 1073741824) : fractionM a b = some (nf a b) := by
  unfold fractionM
  simp only [o_pure, o_fromO]
  rw [o_go (common_eq a b)]
  exact frac_tail h hb
theorem lawFrac_eq {a b : Int} (h : b ≠ 0) (hb : b.natAbs < 1073741824) : lawFracM a b = some (nf a b) := by
  unfold lawFracM
  simp only [o_pure, o_fromO]
  rw [o_go (lawCommon_eq a hb)]
  exact frac_tail h hb
end TT

namespace TT
open PyM (fromO)
open PySem L2
theorem nf_le {a b : Int} (h : b ≠ 0) : (nf a b).1.natAbs ≤ a.natAbs ∧ (nf a b).2.natAbs ≤ b.natAbs := by
  obtain ⟨e1, e2⟩ := nf_mul (a := a) (b := b)
  have c := cutBy_ne (a := a) h
  have k : 1 ≤ (cutBy a b).natAbs := by omega
  constructor
  · have := congrArg Int.natAbs e1
    rw [Int.natAbs_mul] at this
    rw [← this]
    exact Nat.le_mul_of_pos_right _ k
  · have := congrArg Int.natAbs e2
    rw [Int.natAbs_mul] at this
    rw [← this]
    exact Nat.le_mul_of_pos_right _ k
theorem nf_plus {a b c d : Int} (hb : b ≠ 0) (hd : d ≠ 0) : nf ((nf a b).1 * (nf c d).2 + (nf c d).1 * (nf a b).2) ((nf a b).2 * (nf c d).2) = nf (a * d + c * b) (b * d) := by
  have p1 := nf_pos (a := a) hb
  have p2 := nf_pos (a := c) hd
  refine nf_eq (Int.mul_ne_zero (by omega) (by omega)) (Int.mul_ne_zero hb hd) ?_
  have x1 := nf_cross (a := a) (b := b)
  have x2 := nf_cross (a := c) (b := d)
  generalize (nf a b).1 = p at *
  generalize (nf a b).2 = q at *
  generalize (nf c d).1 = r at *
  generalize (nf c d).2 = s at *
  grind
theorem nf_minus {a b c d : Int} (hb : b ≠ 0) (hd : d ≠ 0) : nf ((nf a b).1 * (nf c d).2 - (nf c d).1 * (nf a b).2) ((nf a b).2 * (nf c d).2) = nf (a * d - c * b) (b * d) := by
  have p1 := nf_pos (a := a) hb
  have p2 := nf_pos (a := c) hd
  refine nf_eq (Int.mul_ne_zero (by omega) (by omega)) (Int.mul_ne_zero hb hd) ?_
  have x1 := nf_cross (a := a) (b := b)
  have x2 := nf_cross (a := c) (b := d)
  generalize (nf a b).1 = p at *
  generalize (nf a b).2 = q at *
  generalize (nf c d).1 = r at *
  generalize (nf c d).2 = s at *
  grind
theorem nf_times {a b c d : Int} (hb : b ≠ 0) (hd : d ≠ 0) : nf ((nf a b).1 * (nf c d).1) ((nf a b).2 * (nf c d).2) = nf (a * c) (b * d) := by
  have p1 := nf_pos (a := a) hb
  have p2 := nf_pos (a := c) hd
  refine nf_eq (Int.mul_ne_zero (by omega) (by omega)) (Int.mul_ne_zero hb hd) ?_
  have x1 := nf_cross (a := a) (b := b)
  have x2 := nf_cross (a := c) (b := d)
  generalize (nf a b).1 = p at *
  generalize (nf a b).2 = q at *
  generalize (nf c d).1 = r at *
  generalize (nf c d).2 = s at *
  grind
theorem nf_one (a : Int) : nf a 1 = (a, 1) := nf_self (by decide) (by simp)
theorem nf_less {a b c d : Int} (hb : 0 < b) (hd : 0 < d) : (nf a b).1 * (nf c d).2 < (nf c d).1 * (nf a b).2 ↔ a * d < c * b := by
  have p1 := nf_pos (a := a) (b := b) (by omega)
  have p2 := nf_pos (a := c) (b := d) (by omega)
  have x1 := nf_cross (a := a) (b := b)
  have x2 := nf_cross (a := c) (b := d)
  generalize (nf a b).1 = p at *
  generalize (nf a b).2 = q at *
  generalize (nf c d).1 = r at *
  generalize (nf c d).2 = s at *
  -- p s < r q  <->  (p b) (s d) < (r d) (q b)  <->  a q s d < c s q b
  have bd : 0 < b * d := Int.mul_pos hb hd
  have qs : 0 < q * s := Int.mul_pos p1 p2
  have e1 : p * s * (b * d) = a * d * (q * s) := by grind
  have e2 : r * q * (b * d) = c * b * (q * s) := by grind
  constructor
  · intro h
    have h1 := Int.mul_lt_mul_of_pos_right h bd
    rw [e1, e2] at h1
    exact Int.lt_of_mul_lt_mul_right h1 (Int.le_of_lt qs)
  · intro h
    have h1 := Int.mul_lt_mul_of_pos_right h qs
    rw [← e1, ← e2] at h1
    exact Int.lt_of_mul_lt_mul_right h1 (Int.le_of_lt bd)
end TT

namespace TT
open PyM (fromO)
open PySem L2
/-! ### sums, differences, products of fractions: the program's and the laws' own -/
noncomputable def plusM (one_ : (Int × Int)) (other_ : (Int × Int)) : Option (Int × Int) :=
  (fromO (mulG one_.1 other_.2) >>= fun v2 => fromO (mulG other_.1 one_.2) >>= fun v3 => fromO (mulG one_.2 other_.2) >>= fun v4 => fromO (fractionM (v2 + v3) v4))
noncomputable def minusM (one_ : (Int × Int)) (other_ : (Int × Int)) : Option (Int × Int) :=
  (fromO (mulG one_.1 other_.2) >>= fun v2 => fromO (mulG other_.1 one_.2) >>= fun v3 => fromO (mulG one_.2 other_.2) >>= fun v4 => fromO (fractionM (v2 - v3) v4))
noncomputable def timesM (one_ : (Int × Int)) (other_ : (Int × Int)) : Option (Int × Int) :=
  (fromO (mulG one_.1 other_.1) >>= fun v2 => fromO (mulG one_.2 other_.2) >>= fun v3 => fromO (fractionM v2 v3))
noncomputable def lawAddM (one_ : (Int × Int)) (other_ : (Int × Int)) : Option (Int × Int) :=
  (fromO (mulG one_.1 other_.2) >>= fun v2 => fromO (mulG other_.1 one_.2) >>= fun v3 => fromO (mulG one_.2 other_.2) >>= fun v4 => fromO (lawFracM (v2 + v3) v4))
noncomputable def lawLessM (one_ : (Int × Int)) (other_ : (Int × Int)) : Option (Int × Int) :=
  (fromO (mulG one_.1 other_.2) >>= fun v2 => fromO (mulG other_.1 one_.2) >>= fun v3 => fromO (mulG one_.2 other_.2) >>= fun v4 => fromO (lawFracM (v2 - v3) v4))
noncomputable def lawMulM (one_ : (Int × Int)) (other_ : (Int × Int)) : Option (Int × Int) :=
  (fromO (mulG one_.1 other_.1) >>= fun v2 => fromO (mulG one_.2 other_.2) >>= fun v3 => fromO (lawFracM v2 v3))
noncomputable def lessM (one_ : (Int × Int)) (other_ : (Int × Int)) : Option Bool :=
  (fromO (mulG one_.1 other_.2) >>= fun v1 => fromO (mulG other_.1 one_.2) >>= fun v2 => pure (decide (v1 < v2)))
/-- a bound for what is multiplied -/
theorem nf_lt {a b : Int} {n : Nat} (hb : b ≠ 0) (h : a.natAbs < n) : (nf a b).1.natAbs < n := Nat.lt_of_le_of_lt (nf_le hb).1 h
theorem nf_lt2 {a b : Int} {n : Nat} (hb : b ≠ 0) (h : b.natAbs < n) : (nf a b).2.natAbs < n := Nat.lt_of_le_of_lt (nf_le hb).2 h
theorem mul_abs {b d : Int} {n : Nat} (hb : b ≠ 0) (hd : d ≠ 0) {a c : Int} (h : (b * d).natAbs < n) : ((nf a b).2 * (nf c d).2).natAbs < n := by
  rw [Int.natAbs_mul] at *
  exact Nat.lt_of_le_of_lt (Nat.mul_le_mul (nf_le hb).2 (nf_le hd).2) h
theorem abs_left {b d : Int} (hb : b ≠ 0) (hd : d ≠ 0) : b.natAbs ≤ (b * d).natAbs ∧ d.natAbs ≤ (b * d).natAbs := by
  rw [Int.natAbs_mul]
  exact ⟨Nat.le_mul_of_pos_right _ (by omega), Nat.le_mul_of_pos_left _ (by omega)⟩
section
variable {a b c d : Int} (hb : b ≠ 0) (hd : d ≠ 0) (ha : a.natAbs < 1267650600228229401496703205376) (hc : c.natAbs < 1267650600228229401496703205376) (h : (b * d).natAbs < 1073741824)
include hb hd ha hc h
theorem mul3 : mulG (nf a b).1 (nf c d).2 = some ((nf a b).1 * (nf c d).2) ∧ mulG (nf c d).1 (nf a b).2 = some ((nf c d).1 * (nf a b).2) ∧ mulG (nf a b).2 (nf c d).2 = some ((nf a b).2 * (nf c d).2) ∧ mulG (nf a b).1 (nf c d).1 = some ((nf a b).1 * (nf c d).1) := by
  obtain ⟨l1, l2⟩ := abs_left hb hd
  have k1 := nf_lt hb ha
  have k2 := nf_lt hd hc
  have k3 : (nf a b).2.natAbs < 1267650600228229401496703205376 := nf_lt2 hb (by omega)
  have k4 : (nf c d).2.natAbs < 1267650600228229401496703205376 := nf_lt2 hd (by omega)
  exact ⟨mul_small k1 k4, mul_small k2 k3, mul_small k3 k4, mul_small k1 k2⟩
theorem plus_eq : plusM (nf a b) (nf c d) = some (nf (a * d + c * b) (b * d)) := by
  obtain ⟨m1, m2, m3, m4⟩ := mul3 hb hd ha hc h
  unfold plusM
  simp only [o_fromO, m1, m2, m3, o_bind]
  rw [fraction_eq (Int.mul_ne_zero (by have := nf_pos (a := a) hb; omega) (by have := nf_pos (a := c) hd; omega)) (mul_abs hb hd h), nf_plus hb hd]
theorem minus_eq : minusM (nf a b) (nf c d) = some (nf (a * d - c * b) (b * d)) := by
  obtain ⟨m1, m2, m3, m4⟩ := mul3 hb hd ha hc h
  unfold minusM
  simp only [o_fromO, m1, m2, m3, o_bind]
  rw [fraction_eq (Int.mul_ne_zero (by have := nf_pos (a := a) hb; omega) (by have := nf_pos (a := c) hd; omega)) (mul_abs hb hd h), nf_minus hb hd]
theorem times_eq : timesM (nf a b) (nf c d) = some (nf (a * c) (b * d)) := by
  obtain ⟨m1, m2, m3, m4⟩ := mul3 hb hd ha hc h
  unfold timesM
  simp only [o_fromO, m3, m4, o_bind]
  rw [fraction_eq (Int.mul_ne_zero (by have := nf_pos (a := a) hb; omega) (by have := nf_pos (a := c) hd; omega)) (mul_abs hb hd h), nf_times hb hd]
theorem lawAdd_eq : lawAddM (nf a b) (nf c d) = some (nf (a * d + c * b) (b * d)) := by
  obtain ⟨m1, m2, m3, m4⟩ := mul3 hb hd ha hc h
  unfold lawAddM
  simp only [o_fromO, m1, m2, m3, o_bind]
  rw [lawFrac_eq (Int.mul_ne_zero (by have := nf_pos (a := a) hb; omega) (by have := nf_pos (a := c) hd; omega)) (mul_abs hb hd h), nf_plus hb hd]
theorem lawLess_eq : lawLessM (nf a b) (nf c d) = some (nf (a * d - c * b) (b * d)) := by
  obtain ⟨m1, m2, m3, m4⟩ := mul3 hb hd ha hc h
  unfold lawLessM
  simp only [o_fromO, m1, m2, m3, o_bind]
  rw [lawFrac_eq (Int.mul_ne_zero (by have := nf_pos (a := a) hb; omega) (by have := nf_pos (a := c) hd; omega)) (mul_abs hb hd h), nf_minus hb hd]
theorem lawMul_eq : lawMulM (nf a b) (nf c d) = some (nf (a * c) (b * d)) := by
  obtain ⟨m1, m2, m3, m4⟩ := mul3 hb hd ha hc h
  unfold lawMulM
  simp only [o_fromO, m3, m4, o_bind]
  rw [lawFrac_eq (Int.mul_ne_zero (by have := nf_pos (a := a) hb; omega) (by have := nf_pos (a := c) hd; omega)) (mul_abs hb hd h), nf_times hb hd]
theorem less_eq : lessM (nf a b) (nf c d) = some (decide ((nf a b).1 * (nf c d).2 < (nf c d).1 * (nf a b).2)) := by
  obtain ⟨m1, m2, m3, m4⟩ := mul3 hb hd ha hc h
  unfold lessM
  simp only [o_fromO, m1, m2, o_bind, o_pure]
end
theorem less_pos {a b c d : Int} (hb : 0 < b) (hd : 0 < d) (ha : a.natAbs < 1267650600228229401496703205376) (hc : c.natAbs < 1267650600228229401496703205376) (h : (b * d).natAbs < 1073741824) : lessM (nf a b) (nf c d) = some (decide (a * d < c * b)) := by
  rw [less_eq (by omega) (by omega) ha hc h]
  congr 1
  exact decide_eq_decide.mpr (nf_less hb hd)
theorem nf_scale {a b k : Int} (hb : b ≠ 0) (hk : k ≠ 0) : nf (a * k) (b * k) = nf a b := nf_eq (Int.mul_ne_zero hb hk) hb (by grind)
theorem nf_zero {b : Int} (hb : b ≠ 0) : nf 0 b = (0, 1) := by
  rw [← nf_one 0]
  exact nf_eq hb (by decide) (by omega)
/-- the sign of the upper number -/
theorem nf_sign {a b : Int} (hb : 0 < b) : (0 ≤ (nf a b).1 ↔ 0 ≤ a) ∧ (0 < (nf a b).1 ↔ 0 < a) := by
  have p := nf_pos (a := a) (b := b) (by omega)
  have x := nf_cross (a := a) (b := b)
  generalize (nf a b).1 = u at *
  generalize (nf a b).2 = v at *
  refine ⟨⟨fun z => ?_, fun z => ?_⟩, fun z => ?_, fun z => ?_⟩
  · have : 0 ≤ u * b := Int.mul_nonneg z (by omega)
    exact Int.nonneg_of_mul_nonneg_left (x ▸ this) p
  · have : 0 ≤ a * v := Int.mul_nonneg z (by omega)
    exact Int.nonneg_of_mul_nonneg_left (x ▸ this) hb
  · have : 0 < u * b := Int.mul_pos z hb
    exact Int.pos_of_mul_pos_left (x ▸ this) p
  · have : 0 < a * v := Int.mul_pos z p
    exact Int.pos_of_mul_pos_left (x ▸ this) hb
end TT

namespace TT
open PyM (fromO)
open PySem L2
/-! ### bounds of products and sums -/
theorem abs_mul {a b : Int} {m n : Nat} (ha : a.natAbs ≤ m) (hb : b.natAbs ≤ n) : (a * b).natAbs ≤ m * n := by
  rw [Int.natAbs_mul]; exact Nat.mul_le_mul ha hb
theorem abs_add {a b : Int} {m n : Nat} (ha : a.natAbs ≤ m) (hb : b.natAbs ≤ n) : (a + b).natAbs ≤ m + n := by omega
theorem abs_sub {a b : Int} {m n : Nat} (ha : a.natAbs ≤ m) (hb : b.natAbs ≤ n) : (a - b).natAbs ≤ m + n := by omega
/-! ### loops over lists, in Option, by what each turn gives -/
section
variable {α δ ρ : Type}
theorem loop_nil (f : α → δ → Option (Out ρ δ δ)) (d : δ) : loopL f [] d = some (.inl d) := rfl
theorem loop_nx {f : α → δ → Option (Out ρ δ δ)} {x : α} {xs : List α} {d e : δ} (h : f x d = some (.nx e)) : loopL f (x :: xs) d = loopL f xs e := by rw [loop_cons, h]; rfl
theorem loop_rt {f : α → δ → Option (Out ρ δ δ)} {x : α} {xs : List α} {d : δ} {r : ρ} (h : f x d = some (.rt r)) : loopL f (x :: xs) d = some (.inr r) := by rw [loop_cons, h]; rfl
theorem loop_bk {f : α → δ → Option (Out ρ δ δ)} {x : α} {xs : List α} {d e : δ} (h : f x d = some (.bk e)) : loopL f (x :: xs) d = some (.inl e) := by rw [loop_cons, h]; rfl
theorem fold_nil (f : α → δ → Option δ) (d : δ) : foldL f [] d = some d := rfl
theorem fold_cons (f : α → δ → Option δ) (x : α) (xs : List α) (d : δ) : foldL f (x :: xs) d = f x d >>= foldL f xs := rfl
theorem fold_go {f : α → δ → Option δ} {x : α} {xs : List α} {d e : δ} (h : f x d = some e) : foldL f (x :: xs) d = foldL f xs e := by rw [fold_cons, h]; rfl
/-- a search: the first item whose turn returns -/
theorem loop_find {f : α → δ → Option (Out ρ δ δ)} {g : α → Option ρ} {d : δ} : ∀ {xs : List α}, (∀ x ∈ xs, f x d = some (match g x with | some r => .rt r | none => .nx d)) → loopL f xs d = some (match xs.findSome? g with | some r => .inr r | none => .inl d)
  | [], _ => rfl
  | x :: xs, h => by
    have hx := h x (by simp)
    rw [List.findSome?_cons]
    cases e : g x with
    | some r => rw [e] at hx; exact loop_rt hx
    | none => rw [e] at hx; rw [loop_nx hx]; exact loop_find fun y hy => h y (by simp [hy])
theorem comp_nil {β : Type} (g : α → Option Bool) (f : α → Option β) : compL g f [] = some [] := rfl
/-- what a fold adds to a list -/
theorem fold_flat {β : Type} {f : α → List β → Option (List β)} {g : α → List β} {B : Nat} : ∀ {xs : List α} {acc : List β}, (∀ x ∈ xs, (g x).length ≤ B) → (∀ x ∈ xs, ∀ acc : List β, acc.length ≤ 1000000 → f x acc = some (acc ++ g x)) → acc.length + xs.length * B ≤ 1000000 → foldL f xs acc = some (acc ++ xs.flatMap g)
  | [], acc, _, _, _ => by rw [fold_nil]; simp
  | x :: xs, acc, hb, h, hl => by
    have b := hb x (by simp)
    rw [List.length_cons, Nat.add_mul, Nat.one_mul] at hl
    rw [fold_go (h x (by simp) acc (by omega)), fold_flat (fun y hy => hb y (by simp [hy])) (fun y hy => h y (by simp [hy])) (by rw [List.length_append]; omega)]
    rw [List.append_assoc, List.flatMap_cons]
end
/-- a loop over a range is a loop over the numbers -/
theorem mem_range0 {n : Nat} {x : Int} (h : x ∈ rangeL 0 n) : ∃ k : Nat, x = (k : Int) ∧ k < n := by
  rw [mem_rangeL] at h
  exact ⟨x.toNat, by omega, by omega⟩
/-! ### bounds, by terms -/
/-- a number is at most so far from 0 -/
def Bd (n : Nat) (x : Int) : Prop := x.natAbs ≤ n
namespace Bd
variable {a b : Int} {m n : Nat}
theorem mk (h : a.natAbs ≤ n) : Bd n a := h
theorem of (h1 : -(n : Int) ≤ a) (h2 : a ≤ n) : Bd n a := by unfold Bd; omega
theorem get (h : Bd n a) : a.natAbs ≤ n := h
theorem le (h : Bd m a) (l : m ≤ n := by decide) : Bd n a := Nat.le_trans h l
theorem lt (h : Bd m a) (l : m < n := by decide) : a.natAbs < n := Nat.lt_of_le_of_lt h l
theorem mul (h : Bd m a) (k : Bd n b) : Bd (m * n) (a * b) := abs_mul h k
theorem add (h : Bd m a) (k : Bd n b) : Bd (m + n) (a + b) := abs_add h k
theorem sub (h : Bd m a) (k : Bd n b) : Bd (m + n) (a - b) := abs_sub h k
theorem neg (h : Bd m a) : Bd m (-a) := by unfold Bd at *; omega
theorem both (h : Bd m a) : -(m : Int) ≤ a ∧ a ≤ m := by unfold Bd at *; omega
end Bd
theorem sq_nn (a : Int) : 0 ≤ a * a := by
  rcases Int.le_total 0 a with h | h
  · exact Int.mul_nonneg h h
  · exact Int.mul_nonneg_of_nonpos_of_nonpos h h
theorem mulB {a b : Int} (ha : Bd 1000000000000 a) (hb : Bd 1000000000000 b) : mulG a b = some (a * b) := mul_small ha.lt hb.lt
section
variable {a b c d : Int} (hb : b ≠ 0) (hd : d ≠ 0) (ha : Bd 1000000000000 a) (hc : Bd 1000000000000 c) (h : Bd 1000000000 (b * d))
include hb hd ha hc h
theorem plusB : plusM (nf a b) (nf c d) = some (nf (a * d + c * b) (b * d)) := plus_eq hb hd ha.lt hc.lt h.lt
theorem minusB : minusM (nf a b) (nf c d) = some (nf (a * d - c * b) (b * d)) := minus_eq hb hd ha.lt hc.lt h.lt
theorem timesB : timesM (nf a b) (nf c d) = some (nf (a * c) (b * d)) := times_eq hb hd ha.lt hc.lt h.lt
theorem lawAddB : lawAddM (nf a b) (nf c d) = some (nf (a * d + c * b) (b * d)) := lawAdd_eq hb hd ha.lt hc.lt h.lt
theorem lawLessB : lawLessM (nf a b) (nf c d) = some (nf (a * d - c * b) (b * d)) := lawLess_eq hb hd ha.lt hc.lt h.lt
theorem lawMulB : lawMulM (nf a b) (nf c d) = some (nf (a * c) (b * d)) := lawMul_eq hb hd ha.lt hc.lt h.lt
end
theorem lessB {a b c d : Int} (hb : 0 < b) (hd : 0 < d) (ha : Bd 1000000000000 a) (hc : Bd 1000000000000 c) (h : Bd 1000000000 (b * d)) : lessM (nf a b) (nf c d) = some (decide (a * d < c * b)) := less_pos hb hd ha.lt hc.lt h.lt
theorem fracB {a b : Int} (h : b ≠ 0) (hb : Bd 1000000000 b) : fractionM a b = some (nf a b) := fraction_eq h hb.lt
theorem lawFracB {a b : Int} (h : b ≠ 0) (hb : Bd 1000000000 b) : lawFracM a b = some (nf a b) := lawFrac_eq h hb.lt
theorem eqG_self {d : PyData} (hp : d.plain = true) (hd : d.depth < 60) : eqG d d = some true := by
  unfold eqG
  rw [if_pos ⟨hp, hp, by omega⟩, PySem.SeqAt.eqv_refl_plain d hp]
end TT

namespace TT
open PyM (fromO)
open PySem L2
/-! ### a while that may be left, in Option -/
theorem whileF_mono {δ ρ : Type} {c : δ → Option Bool} {b : δ → Option (Out ρ δ δ)} : ∀ (n : Nat) (d : δ) (r : δ ⊕ ρ), whileF c b n d = some r → ∀ m, n ≤ m → whileF c b m d = some r
  | 0, d, r, h, _, _ => by cases h
  | n + 1, d, r, h, m, hm => by
    obtain ⟨m, rfl⟩ : ∃ k, m = k + 1 := ⟨m - 1, by omega⟩
    have h : (c d >>= fun t => if t = true then b d >>= Out.loop (whileF c b n) else pure (.inl d)) = some r := h
    show (c d >>= fun t => if t = true then b d >>= Out.loop (whileF c b m) else pure (.inl d)) = some r
    cases e : c d with
    | none => rw [e] at h; cases h
    | some t =>
      rw [e] at h
      cases t with
      | false => exact h
      | true =>
        have h : (b d >>= Out.loop (whileF c b n)) = some r := h
        show (b d >>= Out.loop (whileF c b m)) = some r
        cases e2 : b d with
        | none => rw [e2] at h; cases h
        | some o =>
          rw [e2] at h
          cases o with
          | nx d' => exact whileF_mono n d' r h m (by omega)
          | ct d' => exact whileF_mono n d' r h m (by omega)
          | bk d' => exact h
          | rt d' => exact h
theorem whileG_of {δ ρ : Type} {c : δ → Option Bool} {b : δ → Option (Out ρ δ δ)} {n : Nat} {d : δ} {r : δ ⊕ ρ} (h : whileF c b n d = some r) : whileG c b d = some r :=
  supO_of (f := fun n => whileF c b n d) h fun m q e => by
    have h1 := whileF_mono n d r h (max n m) (Nat.le_max_left _ _)
    have h2 := whileF_mono m d q e (max n m) (Nat.le_max_right _ _)
    rw [h1] at h2
    exact (Option.some.inj h2).symm
/-- a measure that falls, an invariant; the loop goes on or returns -/
theorem whileG_inv {δ ρ : Type} {c : δ → Option Bool} {b : δ → Option (Out ρ δ δ)} (I : δ → Prop) (P : δ ⊕ ρ → Prop) (μ : δ → Nat) (h : ∀ d, I d → (c d = some false ∧ P (.inl d)) ∨ (c d = some true ∧ ((∃ d', b d = some (.nx d') ∧ I d' ∧ μ d' < μ d) ∨ (∃ d', b d = some (.ct d') ∧ I d' ∧ μ d' < μ d) ∨ (∃ d', b d = some (.bk d') ∧ P (.inl d')) ∨ ∃ r, b d = some (.rt r) ∧ P (.inr r)))) : ∀ (n : Nat) (d : δ), μ d < n → I d → ∃ r, whileF c b n d = some r ∧ P r
  | 0, _, z, _ => absurd z (Nat.not_lt_zero _)
  | n + 1, d, z, i => by
    show ∃ r, (c d >>= fun t => if t = true then b d >>= Out.loop (whileF c b n) else pure (.inl d)) = some r ∧ _
    rcases h d i with ⟨e, p⟩ | ⟨e, q⟩
    · rw [o_go e]; exact ⟨_, rfl, p⟩
    · rw [o_go e, if_pos rfl]
      rcases q with ⟨d', e, i', l⟩ | ⟨d', e, i', l⟩ | ⟨d', e, p⟩ | ⟨r, e, p⟩
      · rw [o_go e]; exact whileG_inv I P μ h n d' (by omega) i'
      · rw [o_go e]; exact whileG_inv I P μ h n d' (by omega) i'
      · rw [o_go e]; exact ⟨_, rfl, p⟩
      · rw [o_go e]; exact ⟨_, rfl, p⟩
theorem whileG_run {δ ρ : Type} {c : δ → Option Bool} {b : δ → Option (Out ρ δ δ)} (I : δ → Prop) (P : δ ⊕ ρ → Prop) (μ : δ → Nat) (h : ∀ d, I d → (c d = some false ∧ P (.inl d)) ∨ (c d = some true ∧ ((∃ d', b d = some (.nx d') ∧ I d' ∧ μ d' < μ d) ∨ (∃ d', b d = some (.ct d') ∧ I d' ∧ μ d' < μ d) ∨ (∃ d', b d = some (.bk d') ∧ P (.inl d')) ∨ ∃ r, b d = some (.rt r) ∧ P (.inr r)))) {d : δ} (i : I d) : ∃ r, whileG c b d = some r ∧ P r := by
  obtain ⟨r, e, p⟩ := whileG_inv I P μ h (μ d + 1) d (Nat.lt_succ_self _) i
  exact ⟨r, whileG_of e, p⟩
/-! ### the law's own comparison -/
mutual
def nodes : PyData → Nat
  | .tuple xs => 1 + nodesAll xs
  | .list xs => 1 + nodesAll xs
  | .none => 1
  | .bool _ => 1
  | .int _ => 1
  | .str _ => 1
  | .dict _ => 1
def nodesAll : List PyData → Nat
  | [] => 0
  | x :: xs => nodes x + nodesAll xs
end
theorem nodes_pos : ∀ d, 1 ≤ nodes d
  | .tuple xs => by simp only [nodes]; omega
  | .list xs => by simp only [nodes]; omega
  | .none => Nat.le_refl _
  | .bool _ => Nat.le_refl _
  | .int _ => Nat.le_refl _
  | .str _ => Nat.le_refl _
  | .dict _ => Nat.le_refl _
theorem nodesAll_len : ∀ xs : List PyData, xs.length ≤ nodesAll xs
  | [] => Nat.le_refl _
  | x :: xs => by have := nodes_pos x; have := nodesAll_len xs; simp only [nodesAll, List.length_cons]; omega
theorem nodesAll_app : ∀ xs ys : List PyData, nodesAll (xs ++ ys) = nodesAll xs + nodesAll ys
  | [], ys => by simp [nodesAll]
  | x :: xs, ys => by simp only [List.cons_append, nodesAll, nodesAll_app xs ys]; omega
theorem plain_all : ∀ {xs : List PyData}, PyData.plainAll xs = true → ∀ x ∈ xs, x.plain = true
  | [], _, x, h => by simp at h
  | y :: ys, p, x, h => by
    simp only [PyData.plainAll, Bool.and_eq_true] at p
    rcases List.mem_cons.mp h with e | e
    · rw [e]; exact p.1
    · exact plain_all p.2 x e
noncomputable def lawSameM (seen_ : PyData) (due_ : PyData) : Option Bool :=
  (pure [(seen_, due_)]) >>= fun waiting_ =>
  whileG (fun d_ => (fromO (Option.map not (eqG ((eLst (eT2 eAny eAny)) d_) ((eLst (eT2 eAny eAny)) []))))) (fun d_ => fromO (lastG d_) >>= fun p_ =>
  (pure (PyData.isDict p_.2)) >>= fun t => if t = true then (fromO none) else ((pure ((PyData.isTuple p_.2) || (PyData.isList p_.2))) >>= fun t => if t = true then (((if (!decide ((PyData.isTuple p_.1) = (PyData.isTuple p_.2))) = true then pure true else ((if (!decide ((PyData.isList p_.1) = (PyData.isList p_.2))) = true then pure true else (fromO (lenA p_.1) >>= fun v2 => fromO (lenA p_.2) >>= fun v3 => pure (!decide (v2 = v3))))))) >>= fun b => if b = true then ((pure false) >>= fun r => pure (.rt r)) else
  (fromO (lenA p_.2) >>= fun v6 => fromO (rangeG 0 v6) >>= fun v7 => compL (fun k_ => pure true) (fun k_ => (fromO (ixA p_.1 k_) >>= fun v8 => fromO (ixA p_.2 k_) >>= fun v9 => pure (v8, v9))) v7) >>= fun ys => fromO (catG (List.dropLast d_) ys) >>= fun waiting_2 =>
  pure (.nx waiting_2)) else (((if (!decide ((PyData.isBool p_.1) = (PyData.isBool p_.2))) = true then pure true else ((if (!decide ((PyData.isInt p_.1) = (PyData.isInt p_.2))) = true then pure true else ((if (!decide ((PyData.isStr p_.1) = (PyData.isStr p_.2))) = true then pure true else (fromO (Option.map not (eqG (eAny p_.1) (eAny p_.2)))))))))) >>= fun b => if b = true then ((pure false) >>= fun r => pure (.rt r)) else
  pure (.nx (List.dropLast d_))))) waiting_ >>= thenF fun d_2 =>
  (pure true)
/-- pairs of the same -/
def SameP (ws : List (PyData × PyData)) : Prop := (∀ p ∈ ws, p.1 = p.2 ∧ p.1.plain = true) ∧ nodesAll (ws.map (·.1)) ≤ 1000000
theorem same_plain : ∀ {ws : List (PyData × PyData)}, (∀ p ∈ ws, p.1 = p.2 ∧ p.1.plain = true) → PyData.plainAll (ws.map (eT2 eAny eAny)) = true
  | [], _ => by simp [PyData.plainAll]
  | p :: ws, h => by
    obtain ⟨e, q⟩ := h p (by simp)
    rw [List.map_cons, PyData.plainAll, same_plain fun x hx => h x (by simp [hx])]
    simp [eT2, eAny, PyData.plain, PyData.plainAll, ← e, q]
theorem comp_pairs {xs : List PyData} {f : Int → Option PyData} (hf : ∀ (k : Nat), k < xs.length → f (k : Int) = xs[k]?) : compL (m := Option) (fun k_ => some true) (fun k_ => f k_ >>= fun v8 => f k_ >>= fun v9 => some (v8, v9)) (rangeL 0 xs.length) = some (xs.map fun x => (x, x)) := by
  refine (comp_rangeS (q := fun k => (xs.getD k .none, xs.getD k .none)) fun k hk => ?_).trans ?_
  · rw [hf k hk, List.getElem?_eq_getElem hk, o_bind, o_bind]
    simp [List.getD, hk]
  · congr 1
    apply List.ext_getElem (by simp)
    intro i h1 h2
    have : i < xs.length := by simpa using h1
    simp [List.getD, this]
theorem lawSame_true {d : PyData} (hp : d.plain = true) (hn : nodes d ≤ 1000000) : lawSameM d d = some true := by
  unfold lawSameM
  simp only [o_fromO, o_pure, o_bind]
  obtain ⟨r, e, p⟩ := whileG_run (δ := List (PyData × PyData)) (ρ := Bool) (c := fun d_ => (Option.map not (eqG ((eLst (eT2 eAny eAny)) d_) ((eLst (eT2 eAny eAny)) []))))
    (b := fun d_ => lastG d_ >>= fun p_ =>
  if (PyData.isDict p_.2) = true then none else (if ((PyData.isTuple p_.2) || (PyData.isList p_.2)) = true then (((if (!decide ((PyData.isTuple p_.1) = (PyData.isTuple p_.2))) = true then some true else ((if (!decide ((PyData.isList p_.1) = (PyData.isList p_.2))) = true then some true else (lenA p_.1 >>= fun v2 => lenA p_.2 >>= fun v3 => some (!decide (v2 = v3))))))) >>= fun b => if b = true then (some (.rt false)) else
  (lenA p_.2 >>= fun v6 => rangeG 0 v6 >>= fun v7 => compL (fun k_ => some true) (fun k_ => (ixA p_.1 k_ >>= fun v8 => ixA p_.2 k_ >>= fun v9 => some (v8, v9))) v7) >>= fun ys => catG (List.dropLast d_) ys >>= fun waiting_2 =>
  some (.nx waiting_2)) else (((if (!decide ((PyData.isBool p_.1) = (PyData.isBool p_.2))) = true then some true else ((if (!decide ((PyData.isInt p_.1) = (PyData.isInt p_.2))) = true then some true else ((if (!decide ((PyData.isStr p_.1) = (PyData.isStr p_.2))) = true then some true else ((Option.map not (eqG (eAny p_.1) (eAny p_.2)))))))))) >>= fun b => if b = true then (some (.rt false)) else
  some (.nx (List.dropLast d_))))) SameP (fun r => ∃ d, r = .inl d) (fun ws => nodesAll (ws.map (·.1))) (d := [(d, d)]) (fun ws i => by
    obtain ⟨i1, i2⟩ := i
    have hc : eqG (eLst (eT2 eAny eAny) ws) (eLst (eT2 eAny eAny) []) = some (decide (ws = [])) := by
      have h1 : (eLst (eT2 eAny eAny) ws).plain = true := by
        simp only [eLst, PyData.plain]
        exact same_plain i1
      have h2 : (eLst (eT2 eAny eAny) []).depth ≤ 1 := by simp [eLst, PyData.depth, PyData.depthAll]
      have h3 : PyData.eqv (eLst (eT2 eAny eAny) ws) (eLst (eT2 eAny eAny) []) = decide (ws = []) := by
        cases ws <;> simp [eLst, PyData.eqv, PyData.eqvAll]
      unfold eqG
      rw [if_pos ⟨h1, by simp [eLst, PyData.plain, PyData.plainAll], by omega⟩, h3]
    rcases List.eq_nil_or_concat ws with z | ⟨l, p, z⟩ <;> try rw [List.concat_eq_append] at z
    · subst z
      exact .inl ⟨by rw [hc]; rfl, _, rfl⟩
    · subst z
      refine .inr ⟨by rw [hc]; simp, .inl ?_⟩
      obtain ⟨x, y⟩ := p
      obtain ⟨e1, e2⟩ := i1 (x, y) (by simp)
      simp only at e1 e2
      subst e1
      have l1 : lastG (l ++ [(x, x)]) = some (x, x) := by simp [lastG]
      have l2 : (l ++ [(x, x)]).dropLast = l := by simp
      have nn : nodesAll ((l ++ [(x, x)]).map (·.1)) = nodesAll (l.map (·.1)) + nodes x := by simp [nodesAll_app, nodesAll]
      have il : SameP l := ⟨fun p hp => i1 p (by simp [hp]), by rw [nn] at i2; omega⟩
      have hpos := nodes_pos x
      rw [l1, l2, o_bind]
      have seq : ∀ xs : List PyData, (x = .tuple xs ∨ x = .list xs) → ∃ d', ((lenA x >>= fun v6 => rangeG 0 v6 >>= fun v7 => compL (fun k_ => some true) (fun k_ => (ixA x k_ >>= fun v8 => ixA x k_ >>= fun v9 => some (v8, v9))) v7) >>= fun ys => catG l ys >>= fun waiting_2 => some (.nx waiting_2 : Out Bool (List (PyData × PyData)) (List (PyData × PyData)))) = some (.nx d') ∧ SameP d' ∧ nodesAll (d'.map (·.1)) < nodesAll ((l ++ [(x, x)]).map (·.1)) := by
        intro xs hx
        have nx : nodes x = 1 + nodesAll xs := by rcases hx with h | h <;> rw [h] <;> simp only [nodes]
        have px : PyData.plainAll xs = true := by rcases hx with h | h <;> rw [h] at e2 <;> simpa [PyData.plain] using e2
        have lx : lenA x = some (xs.length : Int) := by rcases hx with h | h <;> rw [h] <;> rfl
        have ix : ∀ k : Nat, k < xs.length → ixA x (k : Int) = xs[k]? := by
          intro k hk
          rcases hx with h | h <;> rw [h] <;> exact (at_nat (List.getElem?_eq_getElem hk)).trans (List.getElem?_eq_getElem hk).symm
        have ll := nodesAll_len xs
        have ll2 := nodesAll_len (l.map (·.1))
        rw [List.length_map] at ll2
        rw [nn, nx] at i2
        rw [lx, o_bind, range_nat (by omega), o_bind, comp_pairs ix, o_bind, cat_some (by rw [List.length_map]; omega), o_bind]
        have mm : nodesAll ((l ++ xs.map fun x => (x, x)).map (·.1)) = nodesAll (l.map (·.1)) + nodesAll xs := by
          rw [List.map_append, nodesAll_app, List.map_map]
          congr 2
          exact (List.map_congr_left fun _ _ => rfl).trans (List.map_id _)
        refine ⟨_, rfl, ⟨fun p hp => ?_, by rw [mm]; omega⟩, by rw [mm, nn, nx]; omega⟩
        rcases List.mem_append.mp hp with q | q
        · exact il.1 p q
        · obtain ⟨z, hz, rfl⟩ := List.mem_map.mp q
          exact ⟨rfl, plain_all px z hz⟩
      have leaf : x.isDict = false → (x.isTuple || x.isList) = false → ∃ d', (((if (!decide ((PyData.isBool x) = (PyData.isBool x))) = true then some true else ((if (!decide ((PyData.isInt x) = (PyData.isInt x))) = true then some true else ((if (!decide ((PyData.isStr x) = (PyData.isStr x))) = true then some true else ((Option.map not (eqG (eAny x) (eAny x)))))))))) >>= fun b => if b = true then (some (.rt false)) else some (.nx l : Out Bool (List (PyData × PyData)) (List (PyData × PyData)))) = some (.nx d') ∧ SameP d' ∧ nodesAll (d'.map (·.1)) < nodesAll ((l ++ [(x, x)]).map (·.1)) := by
        intro h1 h2
        have dx : x.depth < 60 := by cases x <;> simp_all [PyData.isTuple, PyData.isList, PyData.isDict, PyData.depth]
        have q := eqG_self e2 dx
        refine ⟨l, ?_, il, by rw [nn]; omega⟩
        simp only [decide_true, Bool.not_true, Bool.false_eq_true, if_false, eAny, q]
        rfl
      have dict : x.isDict = false := by cases x <;> simp_all [PyData.plain, PyData.isDict]
      rw [dict, if_neg Bool.false_ne_true]
      cases hs : (x.isTuple || x.isList) with
      | false =>
        rw [if_neg Bool.false_ne_true]
        exact leaf dict hs
      | true =>
        rw [if_pos rfl]
        have : ∃ xs, x = .tuple xs ∨ x = .list xs := by
          cases x with
          | tuple xs => exact ⟨xs, .inl rfl⟩
          | list xs => exact ⟨xs, .inr rfl⟩
          | none => cases hs
          | bool _ => cases hs
          | int _ => cases hs
          | str _ => cases hs
          | dict _ => cases hs
        obtain ⟨xs, hx⟩ := this
        have lx : lenA x = some (xs.length : Int) := by rcases hx with h | h <;> rw [h] <;> rfl
        obtain ⟨d', e', i', m'⟩ := seq xs hx
        refine ⟨d', ?_, i', m'⟩
        rw [← e']
        simp only [decide_true, Bool.not_true, Bool.false_eq_true, if_false, lx, o_bind]) ⟨by simpa using hp, by simpa [nodesAll] using hn⟩
  obtain ⟨d', rfl⟩ := p
  rw [o_go e]
  rfl
/-! ### how large -/
section
variable {α β γ δ ε : Type} {ea : α → PyData} {eb : β → PyData} {ec : γ → PyData} {ed : δ → PyData} {ee : ε → PyData}
theorem nodesAll_le {n : Nat} : ∀ {xs : List α}, (∀ x ∈ xs, nodes (ea x) ≤ n) → nodesAll (xs.map ea) ≤ xs.length * n
  | [], _ => by simp [nodesAll]
  | x :: xs, h => by
    have := h x (by simp)
    have := nodesAll_le (xs := xs) fun y hy => h y (by simp [hy])
    simp only [List.map_cons, nodesAll, List.length_cons, Nat.add_mul]
    omega
theorem nodes_tup {n m : Nat} {xs : List α} (h : ∀ x ∈ xs, nodes (ea x) ≤ n) (hl : xs.length ≤ m) : nodes (eTup ea xs) ≤ 1 + m * n := by
  have := nodesAll_le h
  have := Nat.mul_le_mul_right n hl
  simp only [eTup, nodes]
  omega
theorem nodes_lst {n m : Nat} {xs : List α} (h : ∀ x ∈ xs, nodes (ea x) ≤ n) (hl : xs.length ≤ m) : nodes (eLst ea xs) ≤ 1 + m * n := by
  have := nodesAll_le h
  have := Nat.mul_le_mul_right n hl
  simp only [eLst, nodes]
  omega
theorem nodes_t2 {n m : Nat} {p : α × β} (h : nodes (ea p.1) ≤ n) (h2 : nodes (eb p.2) ≤ m) : nodes (eT2 ea eb p) ≤ 1 + (n + m) := by
  simp only [eT2, nodes, nodesAll]; omega
theorem nodes_t3 {n m k : Nat} {p : α × β × γ} (h : nodes (ea p.1) ≤ n) (h2 : nodes (eb p.2.1) ≤ m) (h3 : nodes (ec p.2.2) ≤ k) : nodes (eT3 ea eb ec p) ≤ 1 + (n + (m + k)) := by
  simp only [eT3, nodes, nodesAll]; omega
theorem nodes_t4 {n m k l : Nat} {p : α × β × γ × δ} (h : nodes (ea p.1) ≤ n) (h2 : nodes (eb p.2.1) ≤ m) (h3 : nodes (ec p.2.2.1) ≤ k) (h4 : nodes (ed p.2.2.2) ≤ l) : nodes (eT4 ea eb ec ed p) ≤ 1 + (n + (m + (k + l))) := by
  simp only [eT4, nodes, nodesAll]; omega
theorem nodes_t5 {n m k l o : Nat} {p : α × β × γ × δ × ε} (h : nodes (ea p.1) ≤ n) (h2 : nodes (eb p.2.1) ≤ m) (h3 : nodes (ec p.2.2.1) ≤ k) (h4 : nodes (ed p.2.2.2.1) ≤ l) (h5 : nodes (ee p.2.2.2.2) ≤ o) : nodes (eT5 ea eb ec ed ee p) ≤ 1 + (n + (m + (k + (l + o)))) := by
  simp only [eT5, nodes, nodesAll]; omega
theorem nodes_opt {n : Nat} {x : Option α} (h : ∀ y, x = some y → nodes (ea y) ≤ n) (hn : 1 ≤ n) : nodes (eOpt ea x) ≤ n := by
  cases x with
  | none => simpa [eOpt, nodes] using hn
  | some y => exact h y rfl
theorem nodes_int {i : Int} : nodes (eInt i) ≤ 1 := Nat.le_refl _
theorem nodes_bool {i : Bool} : nodes (eBool i) ≤ 1 := Nat.le_refl _
theorem nodes_str {i : Str} : nodes (eStr i) ≤ 1 := Nat.le_refl _
end
end TT

namespace TT
open PyM (fromO)
open PySem L2
theorem at0 {α : Type} (a : α) (r : List α) : L2.atI (a :: r) 0 = some a := at_of 0 rfl rfl
theorem at1 {α : Type} (a b : α) (r : List α) : L2.atI (a :: b :: r) 1 = some b := at_of 1 rfl rfl
theorem at2 {α : Type} (a b c : α) (r : List α) : L2.atI (a :: b :: c :: r) 2 = some c := at_of 2 rfl rfl
theorem at3 {α : Type} (a b c d : α) (r : List α) : L2.atI (a :: b :: c :: d :: r) 3 = some d := at_of 3 rfl rfl
theorem atI_head {α : Type} (xs : List α) : L2.atI xs 0 = xs.head? := by
  cases xs with
  | nil => rfl
  | cons x xs => rw [at0]; rfl
/-- xs[0] if xs != [] else None -/
theorem head_or {α : Type} [DecidableEq α] (xs : List α) : (if (!decide (xs = [])) = true then (L2.atI xs 0 >>= fun v => some (some v)) else some none) = some xs.head? := by
  cases xs with
  | nil => rfl
  | cons x xs => rw [if_pos (by simp), at0]; rfl
theorem findSome_guard {α : Type} (p : α → Bool) : ∀ xs : List α, xs.findSome? (fun x => if p x = true then some x else none) = xs.find? p
  | [] => rfl
  | x :: xs => by
    rw [List.findSome?_cons, List.find?_cons]
    cases p x with
    | true => rfl
    | false => exact findSome_guard p xs
/-- a place of what is made over a range -/
theorem at_rangeL {α : Type} (f : Int → α) {lo : Int} {n : Nat} {i : Int} (h : 0 ≤ i) (h2 : i < n) : L2.atI ((rangeL lo n).map f) i = some (f (lo + i)) := by
  rw [at_of i.toNat (by omega) (by rw [List.getElem?_map, rangeL_get _ _ _ (by omega)]; rfl), Int.toNat_of_nonneg h]
theorem rangeL_app (lo : Int) : ∀ (a b : Nat), rangeL lo (a + b) = rangeL lo a ++ rangeL (lo + a) b := by
  intro a
  induction a generalizing lo with
  | zero => intro b; simp [rangeL]
  | succ a ih =>
    intro b
    rw [show a + 1 + b = (a + b) + 1 by omega]
    show lo :: rangeL (lo + 1) (a + b) = (lo :: rangeL (lo + 1) a) ++ _
    rw [ih, List.cons_append]
    congr 3
    omega
/-! ### the least of a list -/
structure Ordr {α : Type} (lt : α → α → Bool) : Prop where
  asym : ∀ a b, lt a b = true → lt b a = false
  nt : ∀ a b c, lt a b = false → lt b c = false → lt a c = false
theorem Ordr.ir {α : Type} {lt : α → α → Bool} (o : Ordr lt) (a : α) : lt a a = false := by
  cases h : lt a a with
  | false => rfl
  | true => rw [o.asym a a h] at h; cases h
theorem Ordr.flip {α : Type} {lt : α → α → Bool} (o : Ordr lt) : Ordr (fun a b => lt b a) := ⟨fun a b h => o.asym b a h, fun a b c h1 h2 => o.nt c b a h2 h1⟩
theorem fold_best {α : Type} {lt : α → α → Bool} (o : Ordr lt) : ∀ (xs : List α) (x : α), (xs.foldl (fun m y => if lt y m = true then y else m) x ∈ x :: xs) ∧ ∀ y ∈ x :: xs, lt y (xs.foldl (fun m y => if lt y m = true then y else m) x) = false
  | [], x => ⟨by simp, by simpa using o.ir x⟩
  | y :: ys, x => by
    rw [List.foldl_cons]
    cases h : lt y x with
    | true =>
      rw [if_pos rfl]
      obtain ⟨h1, h2⟩ := fold_best o ys y
      refine ⟨List.mem_cons_of_mem _ h1, fun z hz => ?_⟩
      rcases List.mem_cons.mp hz with rfl | hz
      · exact o.nt _ _ _ (o.asym _ _ h) (h2 y (by simp))
      · exact h2 z hz
    | false =>
      rw [if_neg Bool.false_ne_true]
      obtain ⟨h1, h2⟩ := fold_best o ys x
      refine ⟨?_, fun z hz => ?_⟩
      · rcases List.mem_cons.mp h1 with q | q
        · rw [q]; simp
        · exact List.mem_cons_of_mem _ (List.mem_cons_of_mem _ q)
      · rcases List.mem_cons.mp hz with rfl | hz
        · exact h2 z (by simp)
        · rcases List.mem_cons.mp hz with rfl | hz
          · exact o.nt _ _ _ h (h2 x (by simp))
          · exact h2 z (by simp [hz])
/-- what min gives -/
theorem min_spec {α : Type} {e : α → PyData} (o : Ordr (ltD e)) {xs : List α} (h : xs ≠ []) : ∃ m, minG e xs = some m ∧ m ∈ xs ∧ ∀ x ∈ xs, ltD e x m = false := by
  cases xs with
  | nil => exact absurd rfl h
  | cons x xs => exact ⟨_, rfl, fold_best o xs x⟩
theorem max_spec {α : Type} {e : α → PyData} (o : Ordr (ltD e)) {xs : List α} (h : xs ≠ []) : ∃ m, maxG e xs = some m ∧ m ∈ xs ∧ ∀ x ∈ xs, ltD e m x = false := by
  cases xs with
  | nil => exact absurd rfl h
  | cons x xs => exact ⟨_, rfl, fold_best o.flip xs x⟩
theorem ltD_int (a b : Int) : ltD eInt a b = decide (a < b) := by
  unfold ltD
  exact PySem.W.dataLt_int a b
theorem ordr_int : Ordr (ltD eInt) := ⟨fun a b h => by simp only [ltD_int, decide_eq_true_eq, decide_eq_false_iff_not] at *; omega, fun a b c h1 h2 => by simp only [ltD_int, decide_eq_false_iff_not] at *; omega⟩
theorem ltD_ii (a b : Int × Int) : ltD (eT2 eInt eInt) a b = decide (a.1 < b.1 ∨ (a.1 = b.1 ∧ a.2 < b.2)) := PySem.W.dataLt_ii a.1 a.2 b.1 b.2
theorem ordr_ii : Ordr (ltD (eT2 eInt eInt)) := ⟨fun a b h => by simp only [ltD_ii, decide_eq_true_eq, decide_eq_false_iff_not] at *; omega, fun a b c h1 h2 => by simp only [ltD_ii, decide_eq_false_iff_not] at *; omega⟩
theorem minI_spec {xs : List Int} (h : xs ≠ []) : ∃ m, minG eInt xs = some m ∧ m ∈ xs ∧ ∀ x ∈ xs, m ≤ x := by
  obtain ⟨m, e, h1, h2⟩ := min_spec ordr_int h
  exact ⟨m, e, h1, fun x hx => by have := h2 x hx; simp only [ltD_int, decide_eq_false_iff_not] at this; omega⟩
theorem maxI_spec {xs : List Int} (h : xs ≠ []) : ∃ m, maxG eInt xs = some m ∧ m ∈ xs ∧ ∀ x ∈ xs, x ≤ m := by
  obtain ⟨m, e, h1, h2⟩ := max_spec ordr_int h
  exact ⟨m, e, h1, fun x hx => by have := h2 x hx; simp only [ltD_int, decide_eq_false_iff_not] at this; omega⟩
theorem minII_spec {xs : List (Int × Int)} (h : xs ≠ []) : ∃ m, minG (eT2 eInt eInt) xs = some m ∧ m ∈ xs ∧ ∀ x ∈ xs, m.1 < x.1 ∨ (m.1 = x.1 ∧ m.2 ≤ x.2) := by
  obtain ⟨m, e, h1, h2⟩ := min_spec ordr_ii h
  exact ⟨m, e, h1, fun x hx => by have := h2 x hx; simp only [ltD_ii, decide_eq_false_iff_not] at this; omega⟩
end TT
namespace TT
open PyM (fromO)
open PySem L2
/-! ### data without dicts -/
section
variable {α β γ δ ε : Type} {ea : α → PyData} {eb : β → PyData} {ec : γ → PyData} {ed : δ → PyData} {ee : ε → PyData}
theorem plain_int {i : Int} : (eInt i).plain = true := by simp [PyData.plain]
theorem plain_bool {i : Bool} : (eBool i).plain = true := by simp [PyData.plain]
theorem plain_str {i : Str} : (eStr i).plain = true := by simp [PyData.plain]
theorem plain_list {xs : List α} (h : ∀ x ∈ xs, (ea x).plain = true) : PyData.plainAll (xs.map ea) = true := by
  induction xs with
  | nil => simp [PyData.plainAll]
  | cons x xs ih =>
    rw [List.map_cons, PyData.plainAll, h x (by simp), ih fun y hy => h y (by simp [hy])]
    rfl
theorem plain_tup {xs : List α} (h : ∀ x ∈ xs, (ea x).plain = true) : (eTup ea xs).plain = true := by simp only [eTup, PyData.plain]; exact plain_list h
theorem plain_lst {xs : List α} (h : ∀ x ∈ xs, (ea x).plain = true) : (eLst ea xs).plain = true := by simp only [eLst, PyData.plain]; exact plain_list h
theorem plain_opt {x : Option α} (h : ∀ y, x = some y → (ea y).plain = true) : (eOpt ea x).plain = true := by
  cases x with
  | none => simp [eOpt, PyData.plain]
  | some y => exact h y rfl
theorem plain_t1 {p : α} (h : (ea p).plain = true) : (eT1 ea p).plain = true := by simp [eT1, PyData.plain, PyData.plainAll, h]
theorem plain_t2 {p : α × β} (h : (ea p.1).plain = true) (h2 : (eb p.2).plain = true) : (eT2 ea eb p).plain = true := by simp [eT2, PyData.plain, PyData.plainAll, h, h2]
theorem plain_t3 {p : α × β × γ} (h : (ea p.1).plain = true) (h2 : (eb p.2.1).plain = true) (h3 : (ec p.2.2).plain = true) : (eT3 ea eb ec p).plain = true := by simp [eT3, PyData.plain, PyData.plainAll, h, h2, h3]
theorem plain_t4 {p : α × β × γ × δ} (h : (ea p.1).plain = true) (h2 : (eb p.2.1).plain = true) (h3 : (ec p.2.2.1).plain = true) (h4 : (ed p.2.2.2).plain = true) : (eT4 ea eb ec ed p).plain = true := by simp [eT4, PyData.plain, PyData.plainAll, h, h2, h3, h4]
theorem plain_t5 {p : α × β × γ × δ × ε} (h : (ea p.1).plain = true) (h2 : (eb p.2.1).plain = true) (h3 : (ec p.2.2.1).plain = true) (h4 : (ed p.2.2.2.1).plain = true) (h5 : (ee p.2.2.2.2).plain = true) : (eT5 ea eb ec ed ee p).plain = true := by simp [eT5, PyData.plain, PyData.plainAll, h, h2, h3, h4, h5]
theorem nodes_t1 {n : Nat} {p : α} (h : nodes (ea p) ≤ n) : nodes (eT1 ea p) ≤ 1 + n := by simp only [eT1, nodes, nodesAll]; omega
/-- what is small and plain is the same as itself -/
structure Sml (n : Nat) (d : PyData) : Prop where
  plain : d.plain = true
  nodes : nodes d ≤ n
theorem Sml.same {n : Nat} {d : PyData} (h : Sml n d) (hn : n ≤ 1000000) : lawSameM d d = some true := lawSame_true h.plain (Nat.le_trans h.nodes hn)
theorem Sml.le {n m : Nat} {d : PyData} (h : Sml n d) (hn : n ≤ m) : Sml m d := ⟨h.plain, Nat.le_trans h.nodes hn⟩
theorem sml_int {i : Int} : Sml 1 (eInt i) := ⟨plain_int, nodes_int⟩
theorem sml_bool {i : Bool} : Sml 1 (eBool i) := ⟨plain_bool, nodes_bool⟩
theorem sml_str {i : Str} : Sml 1 (eStr i) := ⟨plain_str, nodes_str⟩
theorem sml_tup {n m : Nat} {xs : List α} (h : ∀ x ∈ xs, Sml n (ea x)) (hl : xs.length ≤ m) : Sml (1 + m * n) (eTup ea xs) := ⟨plain_tup fun x hx => (h x hx).plain, nodes_tup (fun x hx => (h x hx).nodes) hl⟩
theorem sml_lst {n m : Nat} {xs : List α} (h : ∀ x ∈ xs, Sml n (ea x)) (hl : xs.length ≤ m) : Sml (1 + m * n) (eLst ea xs) := ⟨plain_lst fun x hx => (h x hx).plain, nodes_lst (fun x hx => (h x hx).nodes) hl⟩
theorem sml_opt {n : Nat} {x : Option α} (h : ∀ y, x = some y → Sml n (ea y)) (hn : 1 ≤ n) : Sml n (eOpt ea x) := ⟨plain_opt fun y hy => (h y hy).plain, nodes_opt (fun y hy => (h y hy).nodes) hn⟩
theorem sml_t1 {n : Nat} {p : α} (h : Sml n (ea p)) : Sml (1 + n) (eT1 ea p) := ⟨plain_t1 h.plain, nodes_t1 h.nodes⟩
theorem sml_t2 {n m : Nat} {p : α × β} (h : Sml n (ea p.1)) (h2 : Sml m (eb p.2)) : Sml (1 + (n + m)) (eT2 ea eb p) := ⟨plain_t2 h.plain h2.plain, nodes_t2 h.nodes h2.nodes⟩
theorem sml_t3 {n m k : Nat} {p : α × β × γ} (h : Sml n (ea p.1)) (h2 : Sml m (eb p.2.1)) (h3 : Sml k (ec p.2.2)) : Sml (1 + (n + (m + k))) (eT3 ea eb ec p) := ⟨plain_t3 h.plain h2.plain h3.plain, nodes_t3 h.nodes h2.nodes h3.nodes⟩
theorem sml_t4 {n m k l : Nat} {p : α × β × γ × δ} (h : Sml n (ea p.1)) (h2 : Sml m (eb p.2.1)) (h3 : Sml k (ec p.2.2.1)) (h4 : Sml l (ed p.2.2.2)) : Sml (1 + (n + (m + (k + l)))) (eT4 ea eb ec ed p) := ⟨plain_t4 h.plain h2.plain h3.plain h4.plain, nodes_t4 h.nodes h2.nodes h3.nodes h4.nodes⟩
theorem sml_t5 {n m k l o : Nat} {p : α × β × γ × δ × ε} (h : Sml n (ea p.1)) (h2 : Sml m (eb p.2.1)) (h3 : Sml k (ec p.2.2.1)) (h4 : Sml l (ed p.2.2.2.1)) (h5 : Sml o (ee p.2.2.2.2)) : Sml (1 + (n + (m + (k + (l + o))))) (eT5 ea eb ec ed ee p) := ⟨plain_t5 h.plain h2.plain h3.plain h4.plain h5.plain, nodes_t5 h.nodes h2.nodes h3.nodes h4.nodes h5.nodes⟩
end
/-! ### counting up -/
def cntUp (p : Int → Bool) : Nat → Int → Int
  | 0, lo => lo
  | n + 1, lo => if p lo = true then cntUp p n (lo + 1) else lo
theorem cntUp_spec {p : Int → Bool} : ∀ (n : Nat) (lo : Int), p (lo + n) = false → lo ≤ cntUp p n lo ∧ cntUp p n lo ≤ lo + n ∧ p (cntUp p n lo) = false ∧ ∀ j, lo ≤ j → j < cntUp p n lo → p j = true
  | 0, lo, h => ⟨Int.le_refl _, by show lo ≤ lo + 0; omega, by simpa [cntUp] using h, fun j h1 h2 => by have : cntUp p 0 lo = lo := rfl; omega⟩
  | n + 1, lo, h => by
    show lo ≤ (if p lo = true then _ else _) ∧ (if p lo = true then _ else _) ≤ _ ∧ p (if p lo = true then _ else _) = false ∧ ∀ j, lo ≤ j → j < (if p lo = true then _ else _) → p j = true
    cases q : p lo with
    | false =>
      simp only [Bool.false_eq_true, if_false]
      exact ⟨Int.le_refl _, by omega, q, fun j h1 h2 => by omega⟩
    | true =>
      simp only [if_true]
      obtain ⟨a, b, c, d⟩ := cntUp_spec n (lo + 1) (by rw [← h]; congr 1; omega)
      refine ⟨by omega, by omega, c, fun j h1 h2 => ?_⟩
      rcases Int.lt_or_eq_of_le h1 with z | z
      · exact d j (by omega) h2
      · rw [← z]; exact q
theorem cntUp_uniq {p : Int → Bool} {n : Nat} {lo r : Int} (h : p (lo + n) = false) (h1 : lo ≤ r) (h2 : p r = false) (h3 : ∀ j, lo ≤ j → j < r → p j = true) : cntUp p n lo = r := by
  obtain ⟨a, b, c, d⟩ := cntUp_spec n lo h
  rcases Int.lt_trichotomy (cntUp p n lo) r with z | z | z
  · rw [h3 _ a z] at c; cases c
  · exact z
  · rw [d r h1 z] at h2; cases h2
theorem while_cnt {p : Int → Bool} {c : Int → Option Bool} : ∀ (n : Nat) (lo : Int), (∀ d, lo ≤ d → d ≤ lo + n → c d = some (p d)) → p (lo + n) = false → whileFP (m := Option) c (fun d => some (d + 1)) (n + 1) lo = some (cntUp p n lo)
  | 0, lo, h, hp => by
    have hp : p lo = false := by simpa using hp
    show (c lo >>= fun t => if t = true then _ else some lo) = some lo
    rw [h lo (Int.le_refl _) (by omega), o_bind, hp]
    rfl
  | n + 1, lo, h, hp => by
    show (c lo >>= fun t => if t = true then (some (lo + 1) >>= whileFP c (fun d => some (d + 1)) (n + 1)) else some lo) = some (if p lo = true then _ else _)
    rw [h lo (Int.le_refl _) (by omega), o_bind]
    cases q : p lo with
    | false => rfl
    | true =>
      rw [if_pos rfl, if_pos rfl, o_bind]
      exact while_cnt n (lo + 1) (fun d h1 h2 => h d (by omega) (by omega)) (by rw [← hp]; congr 1; omega)
theorem whileM_cnt {p : Int → Bool} {c : Int → Option Bool} {n : Nat} {lo : Int} (h : ∀ d, lo ≤ d → d ≤ lo + n → c d = some (p d)) (hp : p (lo + n) = false) : whileM (m := Option) c (fun d => some (d + 1)) lo = some (cntUp p n lo) := whileM_of (while_cnt n lo h hp)
end TT
namespace TT
open PyM (fromO)
open PySem L2
/-- one of a list -/
theorem Good.pick {α : Type} {rows : List α} (h : rows ≠ []) : Good (TT.nextM (rows.length : Int) >>= fun v1 => PyM.fromO (L2.atI rows v1)) (· ∈ rows) := by
  have l : 0 < rows.length := List.length_pos_iff.mpr h
  refine Good.bind (Good.nextM (by omega)) fun v hv => ?_
  exact Good.fromO (at_int hv.1 hv.2) (List.getElem_mem _)
theorem comp_app {α β : Type} {f : α → Option β} {ys : List α} {bs : List β} (h' : compL (fun _ => some true) f ys = some bs) : ∀ {xs : List α} {as : List β}, compL (fun _ => some true) f xs = some as → compL (fun _ => some true) f (xs ++ ys) = some (as ++ bs)
  | [], as, h => by
    have : some [] = some as := h
    cases this
    exact h'
  | x :: xs, as, h => by
    have h : (f x >>= fun y => compL (fun _ => some true) f xs >>= fun ys => some (y :: ys)) = some as := h
    show (f x >>= fun y => compL (fun _ => some true) f (xs ++ ys) >>= fun ys => some (y :: ys)) = some (as ++ bs)
    cases e : f x with
    | none => rw [e] at h; cases h
    | some y =>
      rw [e, o_bind] at h
      rw [o_bind]
      cases e2 : compL (fun _ => some true) f xs with
      | none => rw [e2] at h; cases h
      | some zs =>
        rw [e2, o_bind] at h
        cases h
        rw [comp_app h' e2, o_bind]
        rfl
theorem fold_map {α β : Type} {f : α → List β → Option (List β)} {g : α → β} {xs : List α} {acc : List β} (h : ∀ x ∈ xs, ∀ acc : List β, acc.length ≤ 1000000 → f x acc = some (acc ++ [g x])) (hl : acc.length + xs.length ≤ 1000000) : foldL f xs acc = some (acc ++ xs.map g) := by
  rw [fold_flat (g := fun x => [g x]) (B := 1) (fun _ _ => Nat.le_refl _) h (by omega)]
  congr 2
  induction xs with
  | nil => rfl
  | cons x xs ih => rw [List.flatMap_cons, List.map_cons, ih (fun y hy => h y (by simp [hy])) (by simp only [List.length_cons] at hl; omega)]; rfl
theorem Good.thenL {ρ ε δ δ' : Type} {k : δ → WM DW (Out ρ ε δ')} {d : δ} {Q : Out ρ ε δ' → Prop} (h : Good (k d) Q) : Good (TT.thenL k (.inl d)) Q := h
theorem Good.thn {ρ ε δ δ' : Type} {k : δ → WM DW (Out ρ ε δ')} {d : δ} {Q : Out ρ ε δ' → Prop} (h : Good (k d) Q) : Good (Out.thn k (.nx d)) Q := h
/-- a loop of turns without a state, none of which ends it -/
theorem Good.turns {α ρ β : Type} {f : α → Unit → WM DW (Out ρ Unit Unit)} {xs : List α} {k : Unit ⊕ ρ → WM DW β} {Q : β → Prop} (h : ∀ x ∈ xs, Good (f x ()) (fun o => o = .nx ())) (h' : Good (k (.inl ())) Q) : Good (loopL f xs () >>= k) Q := by
  refine Good.bind (P := fun r => r = .inl ()) ((Good.loop (fun _ => True) trivial fun x hx d _ => (h x hx).imp fun o e => ⟨(), e, trivial⟩).imp fun r ⟨d, e, _⟩ => e) fun r e => ?_
  subst e
  exact h'
end TT

namespace TT
open PyM (fromO)
open PySem L2
theorem mul_nat {a b : Nat} (ha : a ≤ 1000000000000) (hb : b ≤ 1000000000000) : mulG (a : Int) (b : Int) = some ((a * b : Nat) : Int) := by
  rw [mul_small (by omega) (by omega), Int.natCast_mul]
theorem div_nat {a b : Nat} (hb : 0 < b) (hb' : b ≤ 1000000000) : divG (a : Int) (b : Int) = some ((a / b : Nat) : Int) := by
  rw [div_small (by omega) (by omega), Int.natCast_ediv]
theorem mod_nat {a b : Nat} (hb : 0 < b) : modG (a : Int) (b : Int) = some ((a % b : Nat) : Int) := by
  rw [mod_pos (by omega), Int.natCast_emod]
/-! ### tides: sums of rounds -/
abbrev Tide := List (List Int × Int)
/-- the height that a part gives at an hour -/
def ptH (p : List Int × Int) (h : Int) : Int := p.1.getD ((h - p.2) % (p.1.length : Int)).toNat 0
def wat (t : Tide) (h : Int) : Int := (t.map fun p => ptH p h).sum
/-- parts of some hours, not too many -/
structure OkT (t : Tide) : Prop where
  ne : ∀ p ∈ t, 1 ≤ p.1.length ∧ p.1.length ≤ 1000000
  bd : ∀ p ∈ t, Bd 1000000000 p.2
noncomputable def heightAtM (tide_ : (List ((List Int) × Int))) (hour_ : Int) : Option Int :=
  (compL (fun p_ => pure true) (fun p_ => (fromO (modG (hour_ - p_.2) (p_.1.length : Int)) >>= fun v1 => fromO (L2.atI p_.1 v1))) tide_ >>= fun v3 => pure (List.sum v3))
noncomputable def lawWaterM (tide_ : (List ((List Int) × Int))) (hour_ : Int) : Option Int :=
  (pure (0 : Int)) >>= fun total_ =>
  (pure tide_) >>= fun xs => foldL (fun p_ d_ => (pure (hour_ - p_.2)) >>= fun at_ =>
  (fromO (divG at_ (p_.1.length : Int)) >>= fun v1 => fromO (mulG v1 (p_.1.length : Int)) >>= fun v2 => fromO (L2.atI p_.1 (at_ - v2)) >>= fun v3 => pure (d_ + v3)) >>= fun total_2 =>
  pure total_2) xs total_ >>= fun d_2 =>
  (pure d_2)
theorem pt_at {p : List Int × Int} (hp : 1 ≤ p.1.length) (h : Int) : L2.atI p.1 ((h - p.2) % (p.1.length : Int)) = some (ptH p h) := by
  have h1 := Int.emod_nonneg (h - p.2) (show (p.1.length : Int) ≠ 0 by omega)
  have h2 := Int.emod_lt_of_pos (h - p.2) (show (0 : Int) < p.1.length by omega)
  rw [at_int h1 h2]
  unfold ptH
  simp [List.getD, show ((h - p.2) % (p.1.length : Int)).toNat < p.1.length by omega]
theorem height_eq {t : Tide} (o : OkT t) (h : Int) : heightAtM t h = some (wat t h) := by
  unfold heightAtM
  rw [o_go (comp_all (q := fun p => ptH p h) fun p hp => ?_), o_pure]
  · rfl
  · have := (o.ne p hp).1
    rw [o_fromO, mod_pos (by omega), o_bind, o_fromO, pt_at this]
theorem sum_foldl {α : Type} (f : α → Int) : ∀ (xs : List α) (d : Int), xs.foldl (fun d p => d + f p) d = d + (xs.map f).sum
  | [], d => by simp
  | x :: xs, d => by rw [List.foldl_cons, sum_foldl f xs, List.map_cons, List.sum_cons]; omega
theorem ediv_abs {a b : Int} (h : 0 < b) : (a / b).natAbs ≤ a.natAbs := by
  rcases Int.lt_or_le a 0 with z | z
  · have e := Int.mul_ediv_add_emod a b
    have l := Int.emod_lt_of_pos a h
    have n : a / b < 0 := Int.ediv_neg_of_neg_of_pos z h
    have k := Int.mul_nonpos_of_nonneg_of_nonpos (show 0 ≤ b - 1 by omega) (show a / b + 1 ≤ 0 by omega)
    have x : (b - 1) * (a / b + 1) = b * (a / b) + b - a / b - 1 := by grind
    omega
  · have := Int.ediv_nonneg z (Int.le_of_lt h)
    have := Int.ediv_le_self b z
    omega
theorem water_eq {t : Tide} (o : OkT t) {h : Int} (hh : Bd 1000000000 h) : lawWaterM t h = some (wat t h) := by
  unfold lawWaterM
  simp only [o_pure, o_bind, o_fromO]
  have := fold_some (f := fun (p_ : List Int × Int) (d_ : Int) => (divG (h - p_.2) (p_.1.length : Int) >>= fun v1 => mulG v1 (p_.1.length : Int) >>= fun v2 => L2.atI p_.1 ((h - p_.2) - v2) >>= fun v3 => some (d_ + v3)) >>= fun total_2 => some total_2) (g := fun d p => d + ptH p h) (fun _ => True) (xs := t) (d := 0) trivial fun p hp d _ => ⟨?_, trivial⟩
  · rw [o_go this.1, sum_foldl, Int.zero_add]; rfl
  · obtain ⟨n1, n2⟩ := o.ne p hp
    have b := (hh.sub (o.bd p hp)).get
    have dv : ((h - p.2) / (p.1.length : Int)).natAbs ≤ 2000000000 := Nat.le_trans (ediv_abs (by omega)) b
    have e := Int.mul_ediv_add_emod (h - p.2) (p.1.length : Int)
    rw [div_small (by omega) (by omega), o_bind, mul_small (by omega) (by omega), o_bind, show (h - p.2) - (h - p.2) / (p.1.length : Int) * (p.1.length : Int) = (h - p.2) % (p.1.length : Int) by rw [Int.mul_comm]; omega, pt_at n1, o_bind, o_bind]
end TT

namespace TT
open PyM (fromO)
open PySem L2
/-! ### the first of a range -/
theorem rangeL_succ (lo : Int) (n : Nat) : rangeL lo (n + 1) = lo :: rangeL (lo + 1) n := rfl
theorem find_first {p : Int → Bool} : ∀ {n : Nat} {lo q : Int}, lo ≤ q → q < lo + n → p q = true → (∀ j, lo ≤ j → j < q → p j = false) → (rangeL lo n).find? p = some q
  | 0, lo, q, h1, h2, _, _ => by omega
  | n + 1, lo, q, h1, h2, hq, hn => by
    rw [rangeL_succ, List.find?_cons]
    by_cases z : q = lo
    · subst z; rw [hq]
    · rw [hn lo (Int.le_refl _) (by omega)]
      exact find_first (by omega) (by omega) hq fun j h3 h4 => hn j (by omega) h4
theorem filter_first' {p : Int → Bool} {n : Nat} {lo q : Int} (h1 : lo ≤ q) (h2 : q < lo + n) (hq : p q = true) (hn : ∀ j, lo ≤ j → j < q → p j = false) : ∃ r, (rangeL lo n).filter p = q :: r := by
  have e := find_first h1 h2 hq hn
  rw [← List.head?_filter] at e
  cases f : (rangeL lo n).filter p with
  | nil => rw [f] at e; cases e
  | cons x r =>
    rw [f] at e
    cases e
    exact ⟨r, rfl⟩
/-! ### periods of a function on the hours -/
def Per (f : Int → Int) (k : Int) : Prop := ∀ h, f (h + k) = f h
section
variable {f : Int → Int}
theorem Per.add {a b : Int} (ha : Per f a) (hb : Per f b) : Per f (a + b) := fun h => by rw [← Int.add_assoc, hb, ha]
theorem Per.zero : Per f 0 := fun h => by rw [Int.add_zero]
theorem Per.neg {a : Int} (ha : Per f a) : Per f (-a) := fun h => by rw [← ha (h + -a), show h + -a + a = h by omega]
theorem Per.mul {a : Int} (ha : Per f a) : ∀ n : Nat, Per f (a * n)
  | 0 => by simpa using Per.zero
  | n + 1 => by
    have := (Per.mul ha n).add ha
    rw [show a * ((n + 1 : Nat) : Int) = a * n + a by rw [Int.natCast_add]; grind]
    exact this
theorem Per.mulI {a : Int} (ha : Per f a) (n : Int) : Per f (a * n) := by
  rcases Int.le_total 0 n with z | z
  · rw [← Int.toNat_of_nonneg z]; exact ha.mul _
  · have := (ha.mul (-n).toNat).neg
    rw [Int.toNat_of_nonneg (by omega)] at this
    rw [show a * n = -(a * -n) by grind]
    exact this
theorem Per.mod {n : Nat} (hn : Per f n) (h : Int) : f (h % n) = f h := by
  have := hn.mulI (h / n) (h % n)
  rw [← this, Int.emod_add_mul_ediv]
theorem least_per : ∀ {n : Nat}, 1 ≤ n → Per f n → ∃ g : Nat, 1 ≤ g ∧ g ≤ n ∧ Per f g ∧ ∀ j : Nat, 1 ≤ j → j < g → ¬ Per f j := by
  intro n
  induction n using Nat.strongRecOn with
  | _ n ih =>
    intro h1 hn
    rcases Classical.em (∃ j : Nat, 1 ≤ j ∧ j < n ∧ Per f j) with ⟨j, j1, j2, j3⟩ | z
    · obtain ⟨g, g1, g2, g3, g4⟩ := ih j j2 j1 j3
      exact ⟨g, g1, by omega, g3, g4⟩
    · exact ⟨n, h1, Nat.le_refl _, hn, fun j j1 j2 j3 => z ⟨j, j1, j2, j3⟩⟩
theorem least_dvd {g m : Nat} (g1 : 1 ≤ g) (hg : Per f g) (hl : ∀ j : Nat, 1 ≤ j → j < g → ¬ Per f j) (hm : Per f m) : g ∣ m := by
  have r : Per f ((m % g : Nat) : Int) := by
    have := hm.add (hg.mul (m / g)).neg
    have e := Nat.mod_add_div m g
    rw [show (m : Int) + -((g : Int) * ((m / g : Nat) : Int)) = ((m % g : Nat) : Int) by
      have : ((m % g + g * (m / g) : Nat) : Int) = (m : Int) := by rw [e]
      rw [Int.natCast_add, Int.natCast_mul] at this
      omega] at this
    exact this
  rcases Nat.eq_zero_or_pos (m % g) with z | z
  · exact Nat.dvd_of_mod_eq_zero z
  · exact absurd r (hl _ z (Nat.mod_lt _ g1))
/-- the hours of a span -/
theorem rot_iff {n k : Nat} (hn : Per f n) (k1 : 1 ≤ k) (k2 : k ≤ n) : (((rangeL 0 n).map f).drop k ++ ((rangeL 0 n).map f).take k = (rangeL 0 n).map f) ↔ Per f k := by
  have at_ : ∀ i : Nat, i < n → (((rangeL 0 n).map f).drop k ++ ((rangeL 0 n).map f).take k)[i]? = some (f ((i : Int) + k)) := by
    intro i hi
    rcases Nat.lt_or_ge i (n - k) with z | z
    · rw [List.getElem?_append_left (by simp [rangeL_len]; omega), List.getElem?_drop, List.getElem?_map, rangeL_get _ _ _ (by omega)]
      simp only [Option.map_some]
      congr 2
      omega
    · rw [List.getElem?_append_right (by simp [rangeL_len]; omega)]
      simp only [List.length_drop, List.length_map, rangeL_len]
      rw [List.getElem?_take, if_pos (by omega), List.getElem?_map, rangeL_get _ _ _ (by omega)]
      simp only [Option.map_some]
      congr 1
      rw [← hn]
      congr 1
      omega
  constructor
  · intro e h
    have key : ∀ i : Nat, i < n → f ((i : Int) + k) = f i := by
      intro i hi
      have := at_ i hi
      rw [e, List.getElem?_map, rangeL_get _ _ _ hi] at this
      simp only [Option.map_some, Option.some.injEq] at this
      rw [← this]
      congr 1
      omega
    have m1 := Int.emod_nonneg h (show (n : Int) ≠ 0 by omega)
    have m2 := Int.emod_lt_of_pos h (show (0 : Int) < n by omega)
    have := key (h % n).toNat (by omega)
    rw [Int.toNat_of_nonneg m1, hn.mod] at this
    rw [← this]
    have e2 := hn.mulI (h / n) (h % n + k)
    rw [show h % n + k + n * (h / n) = h + k by have := Int.emod_add_mul_ediv h n; omega] at e2
    exact e2
  · intro hk
    apply List.ext_getElem?
    intro i
    rcases Nat.lt_or_ge i n with z | z
    · rw [at_ i z, hk, List.getElem?_map, rangeL_get _ _ _ z]
      simp only [Option.map_some]
      congr 2
      omega
    · rw [List.getElem?_eq_none (by simp [rangeL_len]; omega), List.getElem?_eq_none (by simp [rangeL_len]; omega)]
end
/-! ### the round of all parts -/
def lcmT (t : Tide) : Nat := t.foldl (fun w p => Nat.lcm w p.1.length) 1
theorem lcm_fold (t : Tide) : ∀ (w : Nat), 1 ≤ w → (∀ p ∈ t, 1 ≤ p.1.length) → 1 ≤ t.foldl (fun w p => Nat.lcm w p.1.length) w ∧ w ∣ t.foldl (fun w p => Nat.lcm w p.1.length) w ∧ (∀ p ∈ t, p.1.length ∣ t.foldl (fun w p => Nat.lcm w p.1.length) w) ∧ ∀ m, w ∣ m → (∀ p ∈ t, p.1.length ∣ m) → t.foldl (fun w p => Nat.lcm w p.1.length) w ∣ m := by
  induction t with
  | nil => intro w h _; exact ⟨h, Nat.dvd_refl _, by simp, fun m h _ => h⟩
  | cons p t ih =>
    intro w h hp
    have l1 := hp p (by simp)
    have k : 1 ≤ Nat.lcm w p.1.length := Nat.lcm_pos h l1
    obtain ⟨a, b, c, d⟩ := ih (Nat.lcm w p.1.length) k fun q hq => hp q (by simp [hq])
    rw [List.foldl_cons]
    refine ⟨a, Nat.dvd_trans (Nat.dvd_lcm_left _ _) b, fun q hq => ?_, fun m hm hq => d m (Nat.lcm_dvd hm (hq p (by simp))) fun q hq' => hq q (by simp [hq'])⟩
    rcases List.mem_cons.mp hq with e | e
    · rw [e]; exact Nat.dvd_trans (Nat.dvd_lcm_right _ _) b
    · exact c q e
section
variable {t : Tide} (o : OkT t)
include o
theorem lcmT_pos : 1 ≤ lcmT t := (lcm_fold t 1 (Nat.le_refl _) fun p hp => (o.ne p hp).1).1
theorem lcmT_dvd : ∀ p ∈ t, p.1.length ∣ lcmT t := (lcm_fold t 1 (Nat.le_refl _) fun p hp => (o.ne p hp).1).2.2.1
theorem lcmT_least {m : Nat} (h : ∀ p ∈ t, p.1.length ∣ m) : lcmT t ∣ m := (lcm_fold t 1 (Nat.le_refl _) fun p hp => (o.ne p hp).1).2.2.2 m (Nat.one_dvd m) h
theorem per_of {m : Nat} (h : ∀ p ∈ t, p.1.length ∣ m) : Per (wat t) m := by
  intro x
  unfold wat
  congr 1
  apply List.map_congr_left
  intro p hp
  obtain ⟨k, hk⟩ := h p hp
  unfold ptH
  congr 2
  rw [hk, show x + ((p.1.length * k : Nat) : Int) - p.2 = (x - p.2) + (p.1.length : Int) * (k : Int) by rw [Int.natCast_mul]; omega, Int.add_mul_emod_self_left]
theorem per_lcm : Per (wat t) (lcmT t) := per_of o (lcmT_dvd o)
end
noncomputable def wholeRoundM (tide_ : (List ((List Int) × Int))) : Option Int :=
  (pure (1 : Int)) >>= fun whole_ =>
  (pure tide_) >>= fun xs => foldL (fun p_ d_ => (fromO (commonM d_ (p_.1.length : Int)) >>= fun v1 => fromO (divG d_ v1) >>= fun v2 => fromO (mulG v2 (p_.1.length : Int))) >>= fun whole_2 =>
  pure whole_2) xs whole_ >>= fun d_2 =>
  (pure d_2)
noncomputable def lawWholeM (tide_ : (List ((List Int) × Int))) : Option Int :=
  (pure (1 : Int)) >>= fun whole_ =>
  whileM (fun d_ => (compL (fun p_ => (fromO (divG d_ (p_.1.length : Int)) >>= fun v1 => fromO (mulG v1 (p_.1.length : Int)) >>= fun v2 => pure (!decide (v2 = d_)))) (fun p_ => (pure p_.1)) tide_ >>= fun v3 => pure (!decide (v3 = [])))) (fun d_ => (pure (d_ + (1 : Int))) >>= fun whole_2 =>
  pure whole_2) whole_ >>= fun d_2 =>
  (pure d_2)
theorem lcm_div {w l : Nat} (hw : 1 ≤ w) : w / Nat.gcd w l * l = Nat.lcm w l := by
  have g : 0 < Nat.gcd w l := Nat.gcd_pos_of_pos_left _ hw
  obtain ⟨k, hk⟩ := Nat.gcd_dvd_left w l
  unfold Nat.lcm
  have e : w / Nat.gcd w l = k := by
    conv => lhs; lhs; rw [hk]
    exact Nat.mul_div_cancel_left k g
  have e2 : w * l = Nat.gcd w l * (k * l) := by
    conv => lhs; lhs; rw [hk]
    rw [Nat.mul_assoc]
  rw [e, e2, Nat.mul_div_cancel_left _ g]
theorem whole_fold : ∀ (t : Tide) (w : Nat), 1 ≤ w → (∀ p ∈ t, 1 ≤ p.1.length ∧ p.1.length ≤ 1000000) → t.foldl (fun w p => Nat.lcm w p.1.length) w ≤ 1000000 →
    foldL (m := Option) (fun p_ d_ => (commonM d_ (p_.1.length : Int) >>= fun v1 => divG d_ v1 >>= fun v2 => mulG v2 (p_.1.length : Int)) >>= fun whole_2 => some whole_2) t (w : Int) = some ((t.foldl (fun w (p : List Int × Int) => Nat.lcm w p.1.length) w : Nat) : Int)
  | [], w, _, _, _ => rfl
  | p :: t, w, h, hp, hb => by
    obtain ⟨l1, l2⟩ := hp p (by simp)
    have g := Nat.gcd_pos_of_pos_left p.1.length h
    have gl := Nat.gcd_le_right (n := p.1.length) w l1
    have k : 1 ≤ Nat.lcm w p.1.length := Nat.lcm_pos h l1
    rw [List.foldl_cons] at hb ⊢
    have d := (lcm_fold t (Nat.lcm w p.1.length) k fun q hq => (hp q (by simp [hq])).1)
    have b1 := Nat.le_of_dvd d.1 d.2.1
    have b2 := Nat.le_of_dvd k (Nat.dvd_lcm_left w p.1.length)
    have dv : w / Nat.gcd w p.1.length ≤ w := Nat.div_le_self _ _
    rw [fold_go (e := ((Nat.lcm w p.1.length : Nat) : Int))]
    · exact whole_fold t _ k (fun q hq => hp q (by simp [hq])) hb
    · rw [common_eq, o_bind, show Int.gcd (w : Int) (p.1.length : Int) = Nat.gcd w p.1.length from rfl, div_nat (by omega) (by omega), o_bind, mul_nat (by omega) (by omega), lcm_div h, o_bind]
theorem wholeRound_eq {t : Tide} (o : OkT t) (hb : lcmT t ≤ 1000000) : wholeRoundM t = some (lcmT t : Int) := by
  unfold wholeRoundM
  simp only [o_pure, o_bind, o_fromO]
  exact (o_go (whole_fold t 1 (Nat.le_refl _) o.ne hb)).trans rfl
theorem lawWhole_eq {t : Tide} (o : OkT t) (hb : lcmT t ≤ 1000000) : lawWholeM t = some (lcmT t : Int) := by
  unfold lawWholeM
  simp only [o_pure, o_bind, o_fromO]
  have hp := lcmT_pos o
  have cond : ∀ w : Nat, w ≤ 1000000 → (compL (m := Option) (fun p_ => (divG (w : Int) (p_.1.length : Int) >>= fun v1 => mulG v1 (p_.1.length : Int) >>= fun v2 => some (!decide (v2 = (w : Int))))) (fun p_ => (some p_.1)) t >>= fun v3 => some (!decide (v3 = []))) = some (!decide (∀ p ∈ t, p.1.length ∣ w)) := by
    intro w hw
    rw [o_go (comp_some (p := fun p : List Int × Int => !decide (p.1.length ∣ w)) (q := fun p : List Int × Int => p.1) (fun p h => ?_) fun p _ _ => rfl)]
    · congr 2
      apply decide_eq_decide.mpr
      rw [List.map_eq_nil_iff, List.filter_eq_nil_iff]
      simp
    · obtain ⟨l1, l2⟩ := o.ne p h
      have dv : w / p.1.length ≤ w := Nat.div_le_self _ _
      rw [div_nat (by omega) (by omega), o_bind, mul_nat (by omega) (by omega), o_bind]
      congr 2
      apply decide_eq_decide.mpr
      constructor
      · intro e
        exact ⟨w / p.1.length, by have : w / p.1.length * p.1.length = w := by omega
                                  rw [Nat.mul_comm]; exact this.symm⟩
      · intro e
        rw [Nat.div_mul_cancel e]
  obtain ⟨r, e, ⟨w, rfl, w1, w2⟩, c⟩ := whileM_inv (c := fun d_ : Int => (compL (m := Option) (fun p_ => (divG d_ (p_.1.length : Int) >>= fun v1 => mulG v1 (p_.1.length : Int) >>= fun v2 => some (!decide (v2 = d_)))) (fun p_ => (some p_.1)) t >>= fun v3 => some (!decide (v3 = [])))) (b := fun d_ => some (d_ + 1)) (fun d => ∃ w : Nat, d = w ∧ 1 ≤ w ∧ w ≤ lcmT t) (fun d => lcmT t - d.toNat) (fun d ⟨w, e, w1, w2⟩ => by
    subst e
    refine ⟨_, cond w (by omega), fun h => ?_⟩
    refine ⟨((w + 1 : Nat) : Int), by rw [Int.natCast_add]; rfl, ⟨w + 1, rfl, by omega, ?_⟩, ?_⟩
    all_goals
      have : w ≠ lcmT t := fun z => by
        rw [z, decide_eq_true (lcmT_dvd o)] at h
        cases h
      omega) (d := 1) ⟨1, rfl, Nat.le_refl _, hp⟩
  rw [o_go e]
  rw [cond w (by omega)] at c
  have c : ∀ p ∈ t, p.1.length ∣ w := by simpa using c
  have := Nat.le_of_dvd w1 (lcmT_least o c)
  rw [show w = lcmT t by omega]
end TT

namespace TT
open PyM (fromO)
open PySem L2
/-! ### a fraction by the sizes of both numbers -/
noncomputable def lawFraction2M (top_ : Int) (under_ : Int) : Option (Int × Int) :=
  (pure ((absI top_), (absI under_))) >>= fun p_ =>
  whileM (fun d_ => (pure (decide ((0 : Int) < d_.2)))) (fun d_ => (fromO (modG d_.1 d_.2) >>= fun v1 => pure (d_.2, v1)) >>= fun p_2 =>
  pure (p_2.1, p_2.2)) (p_.1, p_.2) >>= fun d_2 =>
  ((if (decide ((0 : Int) < under_)) = true then (fromO (divG top_ d_2.1) >>= fun v2 => fromO (divG under_ d_2.1) >>= fun v3 => pure (v2, v3)) else (fromO (divG top_ d_2.1) >>= fun v4 => fromO (divG under_ d_2.1) >>= fun v5 => pure (((0 : Int) - v4), ((0 : Int) - v5)))))
theorem absI_eq (a : Int) : absI a = (a.natAbs : Int) := by unfold absI; split <;> omega
theorem abs_while (a b : Nat) : ∃ r : Int × Int, whileM (m := Option) (fun d_ : Int × Int => some (decide ((0 : Int) < d_.2))) (fun d_ => (modG d_.1 d_.2 >>= fun v1 => some (d_.2, v1)) >>= fun p_ => some (p_.1, p_.2)) ((a : Int), (b : Int)) = some r ∧ r.1 = (Nat.gcd a b : Int) := by
  obtain ⟨r, e, ⟨x, y, rfl, i⟩, c⟩ := whileM_inv (c := fun d_ : Int × Int => some (decide ((0 : Int) < d_.2))) (b := fun d_ => (modG d_.1 d_.2 >>= fun v1 => some (d_.2, v1)) >>= fun p_ => some (p_.1, p_.2)) (fun d => ∃ x y : Nat, d = ((x : Int), (y : Int)) ∧ Nat.gcd x y = Nat.gcd a b) (fun d => d.2.natAbs) (d := ((a : Int), (b : Int))) (fun d ⟨x, y, e, i⟩ => by
    subst e
    refine ⟨_, rfl, fun t => ?_⟩
    have h : 0 < y := by simp only [decide_eq_true_eq] at t; omega
    refine ⟨((y : Int), ((x % y : Nat) : Int)), ?_, ⟨y, x % y, rfl, ?_⟩, ?_⟩
    · show (modG (x : Int) (y : Int) >>= fun v1 => some ((y : Int), v1)) >>= (fun p_ => some (p_.1, p_.2)) = _
      rw [mod_pos (by omega), ← Int.natCast_emod, o_bind, o_bind]
    · rw [← i, Nat.gcd_comm, ← Nat.gcd_rec, Nat.gcd_comm]
    · have := Nat.mod_lt x h
      simp only [Int.natAbs_natCast]
      exact this) ⟨a, b, rfl, rfl⟩
  refine ⟨_, e, ?_⟩
  have c : ¬ (0 : Int) < (y : Int) := by simpa using c
  have : y = 0 := by omega
  subst this
  rw [← i, Nat.gcd_zero_right]
theorem lawFraction2_eq (a : Int) {b : Int} (h : b ≠ 0) (hb : Bd 1000000000 b) : lawFraction2M a b = some (nf a b) := by
  unfold lawFraction2M
  simp only [o_pure, o_bind, o_fromO, absI_eq]
  obtain ⟨r, e, g⟩ := abs_while a.natAbs b.natAbs
  rw [o_go e, g]
  have hg : (Nat.gcd a.natAbs b.natAbs : Int) = (Int.gcd a b : Int) := rfl
  rw [hg]
  have gp : 0 < Int.gcd a b := by
    rcases Nat.eq_zero_or_pos (Int.gcd a b) with z | z
    · exact absurd (Int.gcd_eq_zero_iff.mp z).2 h
    · exact z
  have gl := gcd_le (a := a) h
  have hb := hb.get
  have d1 : divG a (Int.gcd a b : Int) = some (a / (Int.gcd a b : Int)) := div_small (by omega) (by omega)
  have d2 : divG b (Int.gcd a b : Int) = some (b / (Int.gcd a b : Int)) := div_small (by omega) (by omega)
  rw [d1, d2]
  simp only [o_bind]
  by_cases z : 0 < b
  · rw [if_pos (by simpa using z)]
    unfold nf cutBy
    rw [if_neg (by omega)]
  · rw [if_neg (by simpa using z)]
    unfold nf cutBy
    rw [if_pos (by omega), Int.ediv_neg, Int.ediv_neg, Int.zero_sub, Int.zero_sub]
end TT

namespace TT
open PyM (fromO)
open PySem L2
noncomputable def heightsInM (tide_ : (List ((List Int) × Int))) (begin_ : Int) (end_ : Int) : Option (List Int) :=
  (fromO (rangeG begin_ end_) >>= fun v1 => compL (fun hour_ => pure true) (fun hour_ => (fromO (heightAtM tide_ hour_))) v1)
noncomputable def roundOfM (tide_ : (List ((List Int) × Int))) : Option Int :=
  (fromO (wholeRoundM tide_)) >>= fun whole_ =>
  (fromO (heightsInM tide_ (0 : Int) whole_)) >>= fun row_ =>
  (fromO (rangeG (1 : Int) (whole_ + (1 : Int)))) >>= fun xs => loopL (fun long_ d_ => (fromO (modG whole_ long_) >>= fun v4 => (if (decide (v4 = (0 : Int))) = true then (fromO (catG (cutA row_ (some long_) none) (cutA row_ none (some long_))) >>= fun v5 => pure (decide (v5 = row_))) else pure false)) >>= fun b => if b = true then ((pure long_) >>= fun r => pure (.rt r)) else
  pure (.nx ())) xs () >>= thenF fun d_2 =>
  (pure whole_)
noncomputable def lawRoundM (tide_ : (List ((List Int) × Int))) : Option Int :=
  (fromO (lawWholeM tide_) >>= fun v1 => fromO (rangeG 0 v1) >>= fun v2 => compL (fun hour_ => pure true) (fun hour_ => (fromO (lawWaterM tide_ hour_))) v2) >>= fun row_ =>
  (fromO (rangeG (1 : Int) ((row_.length : Int) + (1 : Int))) >>= fun v5 => compL (fun long_ => (fromO (catG (cutA row_ (some long_) none) (cutA row_ none (some long_))) >>= fun v6 => pure (decide (v6 = row_)))) (fun long_ => (pure long_)) v5 >>= fun v7 => fromO (L2.atI v7 (0 : Int)))
/-- the least number of hours behind which the water comes again -/
theorem rnd_ex {t : Tide} (o : OkT t) : ∃ g : Nat, 1 ≤ g ∧ g ≤ lcmT t ∧ Per (wat t) g ∧ ∀ j : Nat, 1 ≤ j → j < g → ¬ Per (wat t) j := least_per (lcmT_pos o) (per_lcm o)
open Classical in
noncomputable def rndT (t : Tide) : Nat := if h : ∃ g : Nat, 1 ≤ g ∧ g ≤ lcmT t ∧ Per (wat t) g ∧ ∀ j : Nat, 1 ≤ j → j < g → ¬ Per (wat t) j then choose h else 1
theorem rnd_spec {t : Tide} (o : OkT t) : 1 ≤ rndT t ∧ rndT t ≤ lcmT t ∧ Per (wat t) (rndT t) ∧ ∀ j : Nat, 1 ≤ j → j < rndT t → ¬ Per (wat t) j := by
  unfold rndT
  rw [dif_pos (rnd_ex o)]
  exact Classical.choose_spec (rnd_ex o)
theorem rnd_dvd {t : Tide} (o : OkT t) {m : Nat} (h : Per (wat t) m) : rndT t ∣ m := least_dvd (rnd_spec o).1 (rnd_spec o).2.2.1 (rnd_spec o).2.2.2 h
section
variable {t : Tide} (o : OkT t)
include o
theorem heightsIn_eq {b e : Int} (hb : -1000000000 ≤ b) (hb2 : b ≤ 1000000000) (he : -1000000000 ≤ e) (he2 : e ≤ 1000000000) (hl : e - b ≤ 16777216) : heightsInM t b e = some ((rangeL b (e - b).toNat).map (wat t)) := by
  unfold heightsInM
  rw [o_fromO, range_some ⟨hb, hb2, he, he2, hl⟩, o_bind]
  exact comp_all fun x _ => by rw [o_fromO, height_eq o]
theorem waters_eq {b : Int} {n : Nat} (hb : -100000000 ≤ b) (hb2 : b ≤ 100000000) (hn : n ≤ 16777216) : compL (m := Option) (fun _ => pure true) (fun hour_ => (fromO (lawWaterM t hour_))) (rangeL b n) = some ((rangeL b n).map (wat t)) :=
  comp_all fun x hx => by
    rw [mem_rangeL] at hx
    rw [o_fromO, water_eq o (Bd.of (by omega) (by omega))]
theorem rot_row {n k : Nat} (hn : Per (wat t) n) (hb : n ≤ 1000000) (k1 : 1 ≤ k) (k2 : k ≤ n) : (catG (cutA ((rangeL 0 n).map (wat t)) (some (k : Int)) none) (cutA ((rangeL 0 n).map (wat t)) none (some (k : Int))) >>= fun v => (some (decide (v = (rangeL 0 n).map (wat t))))) = some (decide (rndT t ∣ k)) := by
  rw [cut_from, cut_to, cat_some (by simp [rangeL_len]; omega), o_bind]
  congr 1
  apply decide_eq_decide.mpr
  rw [rot_iff hn k1 k2]
  exact ⟨fun h => rnd_dvd o h, fun ⟨q, h⟩ => by rw [h, Int.natCast_mul]; exact (rnd_spec o).2.2.1.mul q⟩
theorem roundOf_eq (hb : lcmT t ≤ 1000000) : roundOfM t = some (rndT t : Int) := by
  obtain ⟨g1, g2, g3, g4⟩ := rnd_spec o
  have lp := lcmT_pos o
  unfold roundOfM
  simp only [o_fromO, o_pure]
  rw [wholeRound_eq o hb, o_bind, heightsIn_eq o (by omega) (by omega) (by omega) (by omega) (by omega), o_bind, range_some (by omega), o_bind]
  have e0 : ((lcmT t : Int) - 0).toNat = lcmT t := by omega
  rw [e0]
  refine (o_go (loop_find (g := fun x => if decide (rndT t ∣ x.toNat ∧ x.toNat ∣ lcmT t) = true then some x else none) fun x hx => ?_)).trans ?_
  · rw [mem_rangeL] at hx
    obtain ⟨k, rfl⟩ : ∃ k : Nat, x = (k : Int) := ⟨x.toNat, by omega⟩
    rw [mod_nat (by omega), o_bind, rot_row o (per_lcm o) hb (by omega) (by omega), Int.toNat_natCast]
    by_cases z : k ∣ lcmT t
    · have z' := Nat.mod_eq_zero_of_dvd z
      rw [if_pos (by simp [z']), o_bind]
      by_cases y : rndT t ∣ k
      · simp [y, z, o_bind]
      · simp [y, z, o_bind]
    · have z' : ¬ lcmT t % k = 0 := fun h => z (Nat.dvd_of_mod_eq_zero h)
      rw [if_neg (by simp; omega), o_bind]
      simp [z]
  · rw [findSome_guard, find_first (q := (rndT t : Int)) (by omega) (by omega)]
    · rfl
    · rw [Int.toNat_natCast]
      exact decide_eq_true ⟨Nat.dvd_refl _, rnd_dvd o (per_lcm o)⟩
    · intro j h1 h2
      apply decide_eq_false
      rintro ⟨h3, _⟩
      have := Nat.le_of_dvd (by omega) h3
      omega
theorem lawRound_eq (hb : lcmT t ≤ 1000000) : lawRoundM t = some (rndT t : Int) := by
  obtain ⟨g1, g2, g3, g4⟩ := rnd_spec o
  have lp := lcmT_pos o
  unfold lawRoundM
  have w := waters_eq o (b := 0) (n := lcmT t) (by omega) (by omega) (by omega)
  simp only [o_fromO, o_pure] at w ⊢
  rw [lawWhole_eq o hb, o_bind, range_nat (by omega), o_bind, w, o_bind]
  rw [List.length_map, rangeL_len, range_some (by omega), o_bind]
  rw [o_go (comp_some (p := fun x => decide (rndT t ∣ x.toNat)) (q := fun x => x) (fun x hx => ?_) fun x _ _ => rfl)]
  · obtain ⟨r, h⟩ := filter_first' (p := fun x => decide (rndT t ∣ x.toNat)) (n := ((lcmT t : Int) + 1 - 1).toNat) (lo := 1) (q := (rndT t : Int)) (by omega) (by omega) (by rw [Int.toNat_natCast]; exact decide_eq_true (Nat.dvd_refl _)) fun j h1 h2 => decide_eq_false fun h3 => by
      have := Nat.le_of_dvd (by omega) h3
      omega
    rw [h, List.map_cons, at0]
  · rw [mem_rangeL] at hx
    obtain ⟨k, rfl⟩ : ∃ k : Nat, x = (k : Int) := ⟨x.toNat, by omega⟩
    rw [rot_row o (per_lcm o) hb (by omega) (by omega), Int.toNat_natCast]
end
/-! ### the first hour from one on -/
theorem find_per {f : Int → Int} {g n : Nat} (hg : Per f g) (g1 : 1 ≤ g) (h : g ≤ n) (p : Int → Bool) (lo : Int) : (rangeL lo n).find? (fun x => p (f x)) = (rangeL lo g).find? (fun x => p (f x)) := by
  obtain ⟨m, rfl⟩ : ∃ m, n = g + m := ⟨n - g, by omega⟩
  rw [rangeL_app, List.find?_append]
  cases e : (rangeL lo g).find? (fun x => p (f x)) with
  | some q => rfl
  | none =>
    show (rangeL (lo + g) m).find? _ = none
    rw [List.find?_eq_none] at e ⊢
    intro x hx
    rw [mem_rangeL] at hx
    have m1 := Int.emod_nonneg (x - lo) (show (g : Int) ≠ 0 by omega)
    have m2 := Int.emod_lt_of_pos (x - lo) (show (0 : Int) < g by omega)
    have := e (lo + (x - lo) % g) (by rw [mem_rangeL]; omega)
    have e2 := hg.mulI ((x - lo) / g) (lo + (x - lo) % g)
    rw [show lo + (x - lo) % g + g * ((x - lo) / g) = x by have := Int.emod_add_mul_ediv (x - lo) g; omega] at e2
    rw [e2]
    exact this
end TT

namespace TT
open PyM (fromO)
open PySem L2
/-! ### tides that are drawn -/
structure SmT (m : Nat) (t : Tide) : Prop where
  len : 1 ≤ t.length ∧ t.length ≤ 3
  parts : ∀ p ∈ t, (1 ≤ p.1.length ∧ p.1.length ≤ m) ∧ (-3 ≤ p.2 ∧ p.2 ≤ 3) ∧ ∀ x ∈ p.1, -2 ≤ x ∧ x ≤ 4
noncomputable def lawTideM (most_ : Int) : WM DW (List ((List Int) × Int)) :=
  (nextM (3 : Int) >>= fun v1 => fromO (rangeG 0 ((1 : Int) + v1)) >>= fun v2 => compL (fun k_ => pure true) (fun k_ => (nextM most_ >>= fun v3 => fromO (rangeG 0 ((1 : Int) + v3)) >>= fun v4 => compL (fun h_ => pure true) (fun h_ => (nextM (7 : Int) >>= fun v5 => pure (v5 - (2 : Int)))) v4 >>= fun v6 => nextM (7 : Int) >>= fun v7 => pure (v6, (v7 - (3 : Int))))) v2)
theorem lawTide_good {m : Nat} (h1 : 1 ≤ m) (h2 : m ≤ 1000) : Good (lawTideM (m : Int)) (SmT m) := by
  unfold lawTideM
  refine Good.bind (Good.nextM (by decide)) fun v hv => Good.go (range_some (by omega)) ?_
  refine (Good.comp' (Q := fun p : List Int × Int => (1 ≤ p.1.length ∧ p.1.length ≤ m) ∧ (-3 ≤ p.2 ∧ p.2 ≤ 3) ∧ ∀ x ∈ p.1, -2 ≤ x ∧ x ≤ 4) fun k _ => ?_).imp fun t ht => ?_
  · refine Good.bind (Good.nextM (by omega)) fun u hu => Good.go (range_some (by omega)) ?_
    refine Good.bind (Good.comp' (Q := fun x : Int => -2 ≤ x ∧ x ≤ 4) fun h _ => Good.bind (Good.nextM (by decide)) fun x hx => Good.pure (by omega)) fun hs hhs => ?_
    rw [rangeL_len] at hhs
    exact Good.bind (Good.nextM (by decide)) fun y hy => Good.pure ⟨⟨by show 1 ≤ hs.length; omega, by show hs.length ≤ m; omega⟩, ⟨by show -3 ≤ y - 3; omega, by show y - 3 ≤ 3; omega⟩, hhs.2⟩
  · rw [rangeL_len] at ht
    exact ⟨by omega, ht.2⟩
theorem SmT.ok {m : Nat} {t : Tide} (h : SmT m t) (hm : m ≤ 1000000 := by decide) : OkT t := ⟨fun p hp => by have := (h.parts p hp).1; omega, fun p hp => by have := (h.parts p hp).2.1; exact Bd.of (by omega) (by omega)⟩
theorem lcm_le (w l : Nat) (hw : 1 ≤ w) (hl : 1 ≤ l) : Nat.lcm w l ≤ w * l := Nat.le_of_dvd (Nat.mul_pos hw hl) (Nat.lcm_dvd (Nat.dvd_mul_right _ _) (Nat.dvd_mul_left _ _))
theorem lcm_pow {m : Nat} : ∀ (t : Tide) (w : Nat), 1 ≤ w → (∀ p ∈ t, 1 ≤ p.1.length ∧ p.1.length ≤ m) → t.foldl (fun w p => Nat.lcm w p.1.length) w ≤ w * m ^ t.length
  | [], w, _, _ => by simp
  | p :: t, w, h, hp => by
    obtain ⟨l1, l2⟩ := hp p (by simp)
    rw [List.foldl_cons, List.length_cons]
    have k : 1 ≤ Nat.lcm w p.1.length := Nat.lcm_pos h l1
    refine Nat.le_trans (lcm_pow t _ k fun q hq => hp q (by simp [hq])) ?_
    rw [Nat.pow_succ, Nat.mul_comm (m ^ t.length) m, ← Nat.mul_assoc]
    exact Nat.mul_le_mul_right _ (Nat.le_trans (lcm_le _ _ h l1) (Nat.mul_le_mul_left _ l2))
theorem lcmT_pow {m k : Nat} {t : Tide} (hp : ∀ p ∈ t, 1 ≤ p.1.length ∧ p.1.length ≤ m) (hm : 1 ≤ m) (hk : t.length ≤ k) : lcmT t ≤ m ^ k := by
  have := lcm_pow t 1 (Nat.le_refl _) hp
  rw [Nat.one_mul] at this
  exact Nat.le_trans this (Nat.pow_le_pow_right hm hk)
theorem SmT.lcm {m : Nat} {t : Tide} (h : SmT m t) (hm : 1 ≤ m) : lcmT t ≤ m ^ 3 := lcmT_pow (fun p hp => (h.parts p hp).1) hm h.len.2
theorem OkT.app {a b : Tide} (ha : OkT a) (hb : OkT b) : OkT (a ++ b) := ⟨fun p hp => (List.mem_append.mp hp).elim (ha.ne p) (hb.ne p), fun p hp => (List.mem_append.mp hp).elim (ha.bd p) (hb.bd p)⟩
theorem lcmT_app {a b : Tide} (ha : OkT a) (hb : OkT b) : lcmT (a ++ b) ≤ lcmT a * lcmT b := by
  refine Nat.le_of_dvd (Nat.mul_pos (lcmT_pos ha) (lcmT_pos hb)) (lcmT_least (ha.app hb) fun p hp => ?_)
  rcases List.mem_append.mp hp with q | q
  · exact Nat.dvd_trans (lcmT_dvd ha p q) (Nat.dvd_mul_right _ _)
  · exact Nat.dvd_trans (lcmT_dvd hb p q) (Nat.dvd_mul_left _ _)
/-- the water never goes beyond what its parts give -/
theorem pt_bd {p : List Int × Int} {m : Nat} (h : ∀ x ∈ p.1, Bd m x) (x : Int) : Bd m (ptH p x) := by
  unfold ptH
  rcases Nat.lt_or_ge ((x - p.2) % (p.1.length : Int)).toNat p.1.length with z | z
  · rw [show p.1.getD ((x - p.2) % (p.1.length : Int)).toNat 0 = p.1[((x - p.2) % (p.1.length : Int)).toNat] by simp [List.getD, z]]
    exact h _ (List.getElem_mem _)
  · rw [show p.1.getD ((x - p.2) % (p.1.length : Int)).toNat 0 = 0 by simp [List.getD, Nat.not_lt.mpr z]]
    exact Bd.mk (Nat.zero_le _)
theorem wat_bd {t : Tide} {m : Nat} (h : ∀ p ∈ t, ∀ x ∈ p.1, Bd m x) (x : Int) : Bd (t.length * m) (wat t x) := by
  unfold wat
  induction t with
  | nil => exact Bd.mk (Nat.zero_le _)
  | cons p t ih =>
    rw [List.map_cons, List.sum_cons, List.length_cons, Nat.add_mul, Nat.one_mul, Nat.add_comm]
    exact (pt_bd (h p (by simp)) x).add (ih fun q hq => h q (by simp [hq]))
theorem SmT.wat_bd {m : Nat} {t : Tide} (h : SmT m t) (x : Int) : Bd 12 (wat t x) := by
  refine (TT.wat_bd (m := 4) (fun p hp x hx => ?_) x).le (by have := h.len.2; omega)
  have := (h.parts p hp).2.2 x hx
  exact Bd.of (by omega) (by omega)
theorem sml_tide {t : Tide} {k m : Nat} (hk : t.length ≤ k) (hm : ∀ p ∈ t, p.1.length ≤ m) : Sml (1 + k * (1 + (1 + m * 1 + 1))) (eTup (eT2 (eTup eInt) eInt) t) := sml_tup (fun p hp => sml_t2 (sml_tup (fun _ _ => sml_int) (hm p hp)) sml_int) hk
end TT

namespace TT
open PySem L2
open TT.PyM (fromO)
/-! ### dicts -/
section
variable {α β γ : Type} [DecidableEq α]
theorem dHas_false {kvs : List (α × β)} {k : α} (h : k ∉ kvs.map (·.1)) : dHas kvs k = false := by
  unfold dHas
  rw [List.any_eq_false]
  intro p hp
  simp only [decide_eq_true_eq]
  exact fun e => h (e ▸ List.mem_map_of_mem hp)
theorem dHas_iff {kvs : List (α × β)} {k : α} : dHas kvs k = true ↔ k ∈ kvs.map (·.1) := by
  unfold dHas
  simp only [List.any_eq_true, decide_eq_true_eq, List.mem_map]
theorem dPut_new {kvs : List (α × β)} {k : α} (v : β) (h : k ∉ kvs.map (·.1)) : dPut kvs k v = kvs ++ [(k, v)] := by
  unfold dPut
  rw [dHas_false h]
  rfl
theorem dUpd_app : ∀ (ps kvs : List (α × β)), ((kvs ++ ps).map (·.1)).Nodup → dUpd kvs ps = kvs ++ ps
  | [], kvs, _ => by rw [List.append_nil]; rfl
  | p :: ps, kvs, h => by
    show dUpd (dPut kvs p.1 p.2) ps = _
    have h' : ((kvs ++ [p] ++ ps).map (·.1)).Nodup := by simpa using h
    have nk : p.1 ∉ kvs.map (·.1) := by
      rw [List.map_append, List.nodup_append] at h
      intro hm
      exact h.2.2 _ hm _ (by simp) rfl
    rw [dPut_new _ nk, dUpd_app ps (kvs ++ [p]) h', List.append_assoc]
    rfl
theorem dOf_nodup {ps : List (α × β)} (h : (ps.map (·.1)).Nodup) : dOf ps = ps := (dUpd_app ps [] h).trans rfl
/-- a table over keys that differ -/
theorem dGet_tab {f : γ → α} {g : γ → β} {xs : List γ} {k : α} : dGet (xs.map fun x => (f x, g x)) k = (xs.find? fun x => decide (f x = k)).map g := by
  unfold dGet
  rw [List.find?_map, Option.map_map]
  rfl
theorem dGet_mem {f : γ → α} {g : γ → β} {xs : List γ} {x : γ} (hx : x ∈ xs) (inj : ∀ y ∈ xs, f y = f x → g y = g x) : dGet (xs.map fun x => (f x, g x)) (f x) = some (g x) := by
  rw [dGet_tab]
  cases h : xs.find? fun y => decide (f y = f x) with
  | none =>
    have := List.find?_eq_none.mp h x hx
    simp at this
  | some y =>
    have h1 := List.find?_some h
    have h2 := List.mem_of_find?_eq_some h
    simp only [decide_eq_true_eq] at h1
    rw [Option.map_some, inj y h2 h1]
theorem dGet_none {kvs : List (α × β)} {k : α} (h : k ∉ kvs.map (·.1)) : dGet kvs k = none := by
  have := dHas_false h
  rw [dHas_get] at this
  cases e : dGet kvs k with
  | none => rfl
  | some v => rw [e] at this; cases this
theorem dGet_put {kvs : List (α × β)} {k j : α} {v : β} : dGet (dPut kvs k v) j = if k = j then some v else dGet kvs j := by
  unfold dPut
  split
  · rename_i h
    unfold dGet
    induction kvs with
    | nil => cases h
    | cons p kvs ih =>
      rw [List.map_cons, List.find?_cons, List.find?_cons]
      by_cases e : p.1 = k
      · rw [if_pos e]
        by_cases e2 : k = j
        · rw [if_pos e2]
          simp [e, e2]
        · have e3 : ¬ p.1 = j := fun z => e2 (e.symm.trans z)
          rw [if_neg e2]
          simp only [decide_eq_false e3]
          by_cases m : dHas kvs k = true
          · rw [ih m, if_neg e2]
          · have hm : kvs.map (fun p => if p.1 = k then (p.1, v) else p) = kvs := by
              refine (List.map_congr_left fun q hq => ?_).trans (List.map_id _)
              rw [if_neg (fun z => m (dHas_iff.mpr (List.mem_map.mpr ⟨q, hq, z⟩)))]
              rfl
            rw [hm]
      · rw [if_neg e]
        have m : dHas kvs k = true := by
          unfold dHas at h ⊢
          rw [List.any_cons, decide_eq_false e, Bool.false_or] at h
          exact h
        by_cases e2 : p.1 = j
        · have : ¬ k = j := fun z => e (e2.trans z.symm)
          rw [if_neg this]
          simp [e2]
        · simp only [decide_eq_false e2]
          exact ih m
  · rename_i h
    have hn : k ∉ kvs.map (·.1) := fun z => h (dHas_iff.mpr z)
    unfold dGet
    rw [List.find?_append]
    by_cases e : k = j
    · subst e
      rw [if_pos rfl]
      have : kvs.find? (fun p => decide (p.1 = k)) = none := List.find?_eq_none.mpr fun p hp => by
        simp only [decide_eq_true_eq]
        exact fun z => hn (List.mem_map.mpr ⟨p, hp, z⟩)
      rw [this]
      simp
    · rw [if_neg e]
      cases kvs.find? (fun p => decide (p.1 = j)) with
      | some q => rfl
      | none => simp [e]
theorem dGet_upd {F : γ → α} {G : α → β} : ∀ (xs : List γ) (kvs : List (α × β)) (k : α), dGet (dUpd kvs (xs.map fun x => (F x, G (F x)))) k = if k ∈ xs.map F then some (G k) else dGet kvs k
  | [], kvs, k => by simp [dUpd]
  | x :: xs, kvs, k => by
    show dGet (dUpd (dPut kvs (F x) (G (F x))) (xs.map fun x => (F x, G (F x)))) k = _
    rw [dGet_upd xs, List.map_cons]
    by_cases h : k ∈ xs.map F
    · rw [if_pos h, if_pos (List.mem_cons_of_mem _ h)]
    · rw [if_neg h, dGet_put]
      by_cases e : F x = k
      · rw [if_pos e, if_pos (by rw [e]; exact List.mem_cons_self), e]
      · rw [if_neg e, if_neg (fun z => (List.mem_cons.mp z).elim (fun y => e y.symm) h)]
/-- a table of what a key gives -/
theorem dGet_of {G : α → β} {xs : List α} {k : α} (h : k ∈ xs) : dGet (dOf (xs.map fun x => (x, G x))) k = some (G k) := by
  have := dGet_upd (F := fun x : α => x) (G := G) xs [] k
  rw [List.map_id', if_pos h] at this
  exact this
theorem dPutG_some {kvs : List (α × β)} {k : α} {v : β} (h : kvs.length < 16777216) : dPutG kvs k v = some (dPut kvs k v) := if_pos h
end
/-! ### walks -/
theorem fold_from {δ : Type} {lo : Int} {f : Int → δ → Option δ} (s : Nat → δ) : ∀ {n : Nat} (_ : ∀ k, k < n → f (lo + (k : Nat)) (s k) = some (s (k + 1))), foldL f (rangeL lo n) (s 0) = some (s n) := by
  intro n h
  rw [rangeL_map]
  have : ∀ (m i : Nat), i + m = n → foldL f ((List.range' i m).map fun (j : Nat) => lo + (j : Int)) (s i) = some (s n) := by
    intro m
    induction m with
    | zero => intro i e; rw [show i = n by omega]; rfl
    | succ m ih =>
      intro i e
      rw [List.range'_succ, List.map_cons, fold_go (h i (by omega)), ih (i + 1) (by omega)]
  rw [List.range_eq_range']
  exact this n 0 (by omega)
theorem setG_nat {α : Type} {xs : List α} {k : Nat} {a : α} (h : k < xs.length) : setG xs (k : Int) a = some (xs.set k a) := by
  unfold setG
  have : ixN xs.length (k : Int) = some k := by
    unfold ixN
    simp
    omega
  rw [this]
  rfl
theorem at_last {α : Type} (xs : List α) (x : α) : L2.atI (xs ++ [x]) (-1) = some x := at_neg 0 rfl (by simp) (by simp)
theorem cut_init {α : Type} (xs : List α) (x : α) : cutA (xs ++ [x]) none (some (-1)) = xs := by
  unfold cutA HT.sIx
  simp
  rw [show (-1 + ((xs.length : Int) + 1)).toNat = xs.length by omega, List.take_left']
  rfl
theorem isNon_head {α : Type} [DecidableEq α] {e : α → PyData} (h : ∀ a, isNon (e a) = false) (xs : List α) : isNon (eOpt e xs.head?) = decide (xs = []) := by
  cases xs with
  | nil => rfl
  | cons x xs => exact (h x).trans (by simp)
theorem isNon_optI (x : Option Int) : isNon (eOpt eInt x) = decide (x = none) := by cases x <;> simp [eOpt, isNon]
/-- the last of them, in rising order -/
def lastUp (p : Nat → Bool) : Nat → Nat
  | 0 => 0
  | m + 1 => if p (m + 1) = true then m + 1 else lastUp p m
theorem lastUp_spec {p : Nat → Bool} (h0 : p 0 = true) : ∀ m, p (lastUp p m) = true ∧ lastUp p m ≤ m ∧ ∀ j, j ≤ m → p j = true → j ≤ lastUp p m
  | 0 => ⟨h0, Nat.le_refl _, fun j h _ => h⟩
  | m + 1 => by
    obtain ⟨a, b, c⟩ := lastUp_spec h0 m
    unfold lastUp
    split
    · rename_i q
      exact ⟨q, Nat.le_refl _, fun j h _ => h⟩
    · rename_i q
      refine ⟨a, by omega, fun j h hj => ?_⟩
      rcases Nat.lt_or_ge j (m + 1) with z | z
      · exact c j (by omega) hj
      · rw [show j = m + 1 by omega] at hj
        exact absurd hj q
/-! ### small data -/
section
variable {α β γ δ ε ζ η θ : Type} {e0 : α → PyData} {e1 : β → PyData} {e2 : γ → PyData} {e3 : δ → PyData} {e4 : ε → PyData} {e5 : ζ → PyData} {e6 : η → PyData} {e7 : θ → PyData}
theorem sml_t6 {n m k l o q : Nat} {p : α × β × γ × δ × ε × ζ} (h : Sml n (e0 p.1)) (h2 : Sml m (e1 p.2.1)) (h3 : Sml k (e2 p.2.2.1)) (h4 : Sml l (e3 p.2.2.2.1)) (h5 : Sml o (e4 p.2.2.2.2.1)) (h6 : Sml q (e5 p.2.2.2.2.2)) : Sml (1 + (n + (m + (k + (l + (o + q)))))) (eT6 e0 e1 e2 e3 e4 e5 p) :=
  ⟨by simp [eT6, PyData.plain, PyData.plainAll, h.plain, h2.plain, h3.plain, h4.plain, h5.plain, h6.plain], by
    have := h.nodes; have := h2.nodes; have := h3.nodes; have := h4.nodes; have := h5.nodes; have := h6.nodes
    simp only [eT6, nodes, nodesAll]; omega⟩
theorem sml_t7 {n m k l o q r : Nat} {p : α × β × γ × δ × ε × ζ × η} (h : Sml n (e0 p.1)) (h2 : Sml m (e1 p.2.1)) (h3 : Sml k (e2 p.2.2.1)) (h4 : Sml l (e3 p.2.2.2.1)) (h5 : Sml o (e4 p.2.2.2.2.1)) (h6 : Sml q (e5 p.2.2.2.2.2.1)) (h7 : Sml r (e6 p.2.2.2.2.2.2)) : Sml (1 + (n + (m + (k + (l + (o + (q + r))))))) (eT7 e0 e1 e2 e3 e4 e5 e6 p) :=
  ⟨by simp [eT7, PyData.plain, PyData.plainAll, h.plain, h2.plain, h3.plain, h4.plain, h5.plain, h6.plain, h7.plain], by
    have := h.nodes; have := h2.nodes; have := h3.nodes; have := h4.nodes; have := h5.nodes; have := h6.nodes; have := h7.nodes
    simp only [eT7, nodes, nodesAll]; omega⟩
end
end TT

namespace TT
open PyM (fromO)
open PySem L2
/-! ### fractions as rational numbers -/
def qf (x : Rat) : Int × Int := (x.num, (x.den : Int))
theorem qf_inj {x y : Rat} (h : qf x = qf y) : x = y := by
  have h1 := congrArg Prod.fst h
  have h2 := congrArg Prod.snd h
  exact Rat.ext h1 (by have h2 : (x.den : Int) = (y.den : Int) := h2; omega)
theorem qf_iff {x y : Rat} : qf x = qf y ↔ x = y := ⟨qf_inj, fun h => by rw [h]⟩
theorem qf_dec (x y : Rat) : decide (qf x = qf y) = decide (x = y) := decide_eq_decide.mpr qf_iff
theorem qf_nf (x : Rat) : nf x.num x.den = qf x := nf_self (by have := x.den_pos; omega) (by
  have := x.reduced
  unfold Nat.Coprime at this
  unfold Int.gcd
  rw [Int.natAbs_natCast]
  exact this)
theorem nf_qf (a : Int) {b : Int} (hb : b ≠ 0) : nf a b = qf (Rat.divInt a b) := by
  rcases h : Rat.divInt a b with ⟨n, d, z, c⟩
  obtain ⟨m, hm, e1, e2⟩ := Rat.divInt_num_den hb h
  rw [e1, e2, nf_scale (by omega) hm]
  exact qf_nf ⟨n, d, z, c⟩
theorem den_pos (x : Rat) : (0 : Int) < x.den := by have := x.den_pos; omega
abbrev BW : Nat := 2 ^ 1000
abbrev BL : Nat := 2 ^ 180
theorem bl_bw : BL < BW := Nat.pow_lt_pow_right (by decide) (by decide)
theorem mulW {i j : Int} (h : i.natAbs < BW) (h' : j.natAbs < BW) : mulG i j = some (i * j) := mul_some ⟨Nat.lt_of_lt_of_le h (Nat.pow_le_pow_right (by decide) (by decide)), Nat.lt_of_lt_of_le h' (Nat.pow_le_pow_right (by decide) (by decide))⟩
theorem div_w {i j : Int} (h : 0 < j) (h' : j.natAbs < BW) (d : j ∣ i) : divG i j = some (i / j) := by
  unfold divG
  rw [if_pos (.inl ⟨h, Nat.lt_of_lt_of_le h' (Nat.pow_le_pow_right (by decide) (by decide))⟩), Int.fdiv_eq_ediv_of_dvd d]
theorem frac_tailW {a b : Int} (h : 0 < b) (hb : b.natAbs < BW) : ((some (decide (b < (0 : Int)))) >>= fun t => (if t = true then ((some (-(Int.gcd a b : Int))) >>= fun by_2 => some by_2) else (some (Int.gcd a b : Int))) >>= fun d_ =>
    (divG a d_ >>= fun v2 => divG b d_ >>= fun v3 => some (v2, v3))) = some (nf a b) := by
  have g := gcd_le (a := a) (b := b) (by omega)
  obtain ⟨d1, d2⟩ := cutBy_dvd a b
  have c := cutBy_ne (a := a) (b := b) (by omega)
  have e : cutBy a b = (Int.gcd a b : Int) := by unfold cutBy; rw [if_neg (by omega)]
  rw [o_bind, if_neg (by simp; omega), o_bind, ← e]
  rw [e] at c
  have k : (cutBy a b).natAbs < BW := by rw [e, Int.natAbs_natCast]; exact Nat.lt_of_le_of_lt g hb
  rw [div_w (by rw [e]; omega) k d1, o_bind, div_w (by rw [e]; omega) k d2, o_bind]
  rfl
theorem fracW {a b : Int} (h : 0 < b) (hb : b.natAbs < BW) : fractionM a b = some (qf (Rat.divInt a b)) := by
  rw [← nf_qf a (by omega)]
  unfold fractionM
  simp only [o_pure, o_fromO]
  rw [o_go (common_eq a b)]
  exact frac_tailW h hb
theorem lawCommonW (a : Int) {b : Int} (h : b.natAbs < BL) : lawCommonM a b = some (Int.gcd a b : Int) := by
  unfold lawCommonM
  simp only [o_pure, o_fromO]
  rw [o_go (range_some (lo := 0) (hi := 400) (by decide))]
  obtain ⟨d, e, g⟩ := cm_loop 180 (rangeL 0 (400 - 0 : Int).toNat) a b (by exact h) (by rw [rangeL_len]; decide)
  unfold cmTurn at e
  rw [o_go e]
  show some (absI d) = _
  rw [← g, Int.gcd_zero_right]
  unfold absI
  congr 1
  split <;> omega
theorem lawFracW {a b : Int} (h : 0 < b) (hb : b.natAbs < BL) : lawFracM a b = some (qf (Rat.divInt a b)) := by
  rw [← nf_qf a (by omega)]
  unfold lawFracM
  simp only [o_pure, o_fromO]
  rw [o_go (lawCommonW a hb)]
  exact frac_tailW h (Nat.lt_trans hb bl_bw)
theorem lawFrac2W (a : Int) {b : Int} (h : 0 < b) (hb : b.natAbs < BW) : lawFraction2M a b = some (qf (Rat.divInt a b)) := by
  rw [← nf_qf a (by omega)]
  unfold lawFraction2M
  simp only [o_pure, o_bind, o_fromO, absI_eq]
  obtain ⟨r, e, g⟩ := abs_while a.natAbs b.natAbs
  rw [o_go e, g]
  have hg : (Nat.gcd a.natAbs b.natAbs : Int) = (Int.gcd a b : Int) := rfl
  rw [hg]
  have gp : 0 < Int.gcd a b := by
    rcases Nat.eq_zero_or_pos (Int.gcd a b) with z | z
    · exact absurd (Int.gcd_eq_zero_iff.mp z).2 (by omega)
    · exact z
  have gl := gcd_le (a := a) (b := b) (by omega)
  have k : (Int.gcd a b : Int).natAbs < BW := by rw [Int.natAbs_natCast]; exact Nat.lt_of_le_of_lt gl hb
  rw [div_w (by omega) k (Int.gcd_dvd_left a b), div_w (by omega) k (Int.gcd_dvd_right a b)]
  simp only [o_bind]
  rw [if_pos (by simpa using h)]
  unfold nf cutBy
  rw [if_neg (by omega)]
/-! ### how large they are -/
structure Fq (n c : Nat) (x : Rat) : Prop where
  d : x.den ≤ n
  m : x.num.natAbs ≤ c * n
theorem qf_divInt_le (a : Int) {b : Int} (hb : b ≠ 0) : (Rat.divInt a b).den ≤ b.natAbs ∧ (Rat.divInt a b).num.natAbs ≤ a.natAbs := by
  have h := nf_le (a := a) hb
  rw [nf_qf a hb] at h
  exact ⟨by simpa [qf] using h.2, h.1⟩
theorem Fq.of {a b : Int} {n c : Nat} (hb : b ≠ 0) (h1 : b.natAbs ≤ n) (h2 : a.natAbs ≤ c * n) : Fq n c (Rat.divInt a b) := ⟨Nat.le_trans (qf_divInt_le a hb).1 h1, Nat.le_trans (qf_divInt_le a hb).2 h2⟩
theorem Fq.le {n c m e : Nat} {x : Rat} (h : Fq n c x) (hn : n ≤ m) (hc : c ≤ e) : Fq m e x := ⟨Nat.le_trans h.d hn, Nat.le_trans h.m (Nat.mul_le_mul hc hn)⟩
theorem dn {x : Rat} : (x.den : Int) ≠ 0 := by have := den_pos x; omega
theorem add_divInt (x y : Rat) : x + y = Rat.divInt (x.num * y.den + y.num * x.den) (x.den * y.den) := by
  conv => lhs; rw [← Rat.num_divInt_den x, ← Rat.num_divInt_den y]
  rw [Rat.divInt_add_divInt _ _ dn dn]
theorem sub_divInt (x y : Rat) : x - y = Rat.divInt (x.num * y.den - y.num * x.den) (x.den * y.den) := by
  conv => lhs; rw [← Rat.num_divInt_den x, ← Rat.num_divInt_den y]
  rw [Rat.divInt_sub_divInt _ _ dn dn]
theorem mul_divInt (x y : Rat) : x * y = Rat.divInt (x.num * y.num) (x.den * y.den) := by
  conv => lhs; rw [← Rat.num_divInt_den x, ← Rat.num_divInt_den y]
  rw [Rat.divInt_mul_divInt]
section
variable {n c m e : Nat} {x y : Rat} (hx : Fq n c x) (hy : Fq m e y)
include hx hy
theorem Fq.dd : ((x.den : Int) * (y.den : Int)).natAbs ≤ n * m := by
  rw [Int.natAbs_mul, Int.natAbs_natCast, Int.natAbs_natCast]
  exact Nat.mul_le_mul hx.d hy.d
theorem Fq.nd : (x.num * (y.den : Int)).natAbs ≤ c * (n * m) := by
  rw [Int.natAbs_mul, Int.natAbs_natCast, ← Nat.mul_assoc]
  exact Nat.mul_le_mul hx.m hy.d
theorem Fq.dn : (y.num * (x.den : Int)).natAbs ≤ e * (n * m) := by
  rw [Int.natAbs_mul, Int.natAbs_natCast, Nat.mul_comm n m, ← Nat.mul_assoc]
  exact Nat.mul_le_mul hy.m hx.d
theorem Fq.add : Fq (n * m) (c + e) (x + y) := by
  rw [add_divInt]
  refine .of (Int.mul_ne_zero TT.dn TT.dn) (Fq.dd hx hy) ?_
  have := Fq.nd hx hy
  have := Fq.dn hx hy
  rw [Nat.add_mul]
  omega
theorem Fq.sub : Fq (n * m) (c + e) (x - y) := by
  rw [sub_divInt]
  refine .of (Int.mul_ne_zero TT.dn TT.dn) (Fq.dd hx hy) ?_
  have := Fq.nd hx hy
  have := Fq.dn hx hy
  rw [Nat.add_mul]
  omega
theorem Fq.mul : Fq (n * m) (c * e) (x * y) := by
  rw [mul_divInt]
  refine .of (Int.mul_ne_zero TT.dn TT.dn) (Fq.dd hx hy) ?_
  rw [Int.natAbs_mul, show c * e * (n * m) = c * n * (e * m) by grind]
  exact Nat.mul_le_mul hx.m hy.m
end
/-! ### what the code does -/
section
variable {x y : Rat} (h1 : x.num.natAbs < BW) (h2 : y.num.natAbs < BW) (h3 : x.den < BW) (h4 : y.den < BW)
include h1 h2 h3 h4
theorem qmul3 : mulG (qf x).1 (qf y).2 = some (x.num * y.den) ∧ mulG (qf y).1 (qf x).2 = some (y.num * x.den) ∧ mulG (qf x).2 (qf y).2 = some ((x.den : Int) * y.den) ∧ mulG (qf x).1 (qf y).1 = some (x.num * y.num) :=
  ⟨mulW h1 (by show (y.den : Int).natAbs < BW; rw [Int.natAbs_natCast]; exact h4), mulW h2 (by show (x.den : Int).natAbs < BW; rw [Int.natAbs_natCast]; exact h3), mulW (by show (x.den : Int).natAbs < BW; rw [Int.natAbs_natCast]; exact h3) (by show (y.den : Int).natAbs < BW; rw [Int.natAbs_natCast]; exact h4), mulW h1 h2⟩
theorem qless : lessM (qf x) (qf y) = some (decide (x < y)) := by
  obtain ⟨a, b, _, _⟩ := qmul3 h1 h2 h3 h4
  unfold lessM
  simp only [o_fromO, a, b, o_bind, o_pure]
  congr 1
  exact decide_eq_decide.mpr (Rat.lt_iff x y).symm
end
section
variable {x y : Rat} (h1 : x.num.natAbs < BW) (h2 : y.num.natAbs < BW) (h3 : x.den < BW) (h4 : y.den < BW) (h : x.den * y.den < BW)
include h1 h2 h3 h4 h
theorem ddW : ((x.den : Int) * y.den).natAbs < BW := by rw [Int.natAbs_mul, Int.natAbs_natCast, Int.natAbs_natCast]; exact h
theorem qplus : plusM (qf x) (qf y) = some (qf (x + y)) := by
  obtain ⟨a, b, c, d⟩ := qmul3 h1 h2 h3 h4
  unfold plusM
  simp only [o_fromO, a, b, c, o_bind]
  rw [fracW (Int.mul_pos (den_pos x) (den_pos y)) (ddW h1 h2 h3 h4 h), add_divInt]
theorem qminus : minusM (qf x) (qf y) = some (qf (x - y)) := by
  obtain ⟨a, b, c, d⟩ := qmul3 h1 h2 h3 h4
  unfold minusM
  simp only [o_fromO, a, b, c, o_bind]
  rw [fracW (Int.mul_pos (den_pos x) (den_pos y)) (ddW h1 h2 h3 h4 h), sub_divInt]
theorem qtimes : timesM (qf x) (qf y) = some (qf (x * y)) := by
  obtain ⟨a, b, c, d⟩ := qmul3 h1 h2 h3 h4
  unfold timesM
  simp only [o_fromO, c, d, o_bind]
  rw [fracW (Int.mul_pos (den_pos x) (den_pos y)) (ddW h1 h2 h3 h4 h), mul_divInt]
end
section
variable {x y : Rat} (h1 : x.num.natAbs < BW) (h2 : y.num.natAbs < BW) (h3 : x.den < BW) (h4 : y.den < BW) (h : x.den * y.den < BL)
include h1 h2 h3 h4 h
theorem ddL : ((x.den : Int) * y.den).natAbs < BL := by rw [Int.natAbs_mul, Int.natAbs_natCast, Int.natAbs_natCast]; exact h
theorem qlawAdd : lawAddM (qf x) (qf y) = some (qf (x + y)) := by
  obtain ⟨a, b, c, d⟩ := qmul3 h1 h2 h3 h4
  unfold lawAddM
  simp only [o_fromO, a, b, c, o_bind]
  rw [lawFracW (Int.mul_pos (den_pos x) (den_pos y)) (ddL h1 h2 h3 h4 h), add_divInt]
theorem qlawLess : lawLessM (qf x) (qf y) = some (qf (x - y)) := by
  obtain ⟨a, b, c, d⟩ := qmul3 h1 h2 h3 h4
  unfold lawLessM
  simp only [o_fromO, a, b, c, o_bind]
  rw [lawFracW (Int.mul_pos (den_pos x) (den_pos y)) (ddL h1 h2 h3 h4 h), sub_divInt]
theorem qlawMul : lawMulM (qf x) (qf y) = some (qf (x * y)) := by
  obtain ⟨a, b, c, d⟩ := qmul3 h1 h2 h3 h4
  unfold lawMulM
  simp only [o_fromO, c, d, o_bind]
  rw [lawFracW (Int.mul_pos (den_pos x) (den_pos y)) (ddL h1 h2 h3 h4 h), mul_divInt]
end
end TT

namespace TT
open PyM (fromO)
open PySem PySem.Spec PyProof.Rows L2
/-! ### sets of things by value: made of a list or tuple, counted, put in order -/
theorem paired_perm {α β : Type} {F : α → β → Prop} {as as' : List α} (p : as.Perm as') : ∀ {bs : List β}, Paired F as bs → ∃ bs', Paired F as' bs' ∧ bs.Perm bs' := by
  induction p with
  | nil => intro bs h; exact ⟨bs, h, .refl _⟩
  | cons x _ ih =>
    intro bs h
    cases h with
    | cons h t =>
      obtain ⟨bs', h1, h2⟩ := ih t
      exact ⟨_, .cons h h1, h2.cons _⟩
  | swap x y l =>
    intro bs h
    cases h with
    | cons h t =>
      cases t with
      | cons h' t => exact ⟨_, .cons h' (.cons h t), .swap _ _ _⟩
  | trans _ _ ih1 ih2 =>
    intro bs h
    obtain ⟨bs1, h1, h2⟩ := ih1 h
    obtain ⟨bs2, h3, h4⟩ := ih2 h1
    exact ⟨bs2, h3, h2.trans h4⟩
section
variable {P : Program} {w : World} {K : Type} [DecidableEq K] (knd : KeyKind P w K)
abbrev EntS (e : Int × Value) (k : K) : Prop := (knd.is k e.2 = true ∧ e.1 = knd.hash k) ∧ e.2.scannable = true
/-- the set at a: its members, in the order of its entries -/
def SetM (h : Heap) (a : Addr) (L : List K) : Prop :=
  ∃ o es ep t, h.get? a = some o ∧ o.ExactSet ∧ o.data = .set es ep t ∧ Paired (EntS knd) es.toList L ∧ L.Nodup ∧ es.size < scanBound ∧ t.fits es.size = true ∧ Ris t.place.toList ∧ (w.params.followText "set-order" = true ∨ t.led = true)
variable {knd}
theorem SetM.moved {h h' : Heap} {a : Addr} {L : List K} (R : SetM knd h a L) (k : ∀ o, h.get? a = some o → h'.get? a = some o) : SetM knd h' a L :=
  let ⟨o, es, ep, t, ho, r⟩ := R; ⟨o, es, ep, t, k o ho, r⟩
theorem entS_elems {l : List (Int × Value)} {L : List K} (p : Paired (EntS knd) l L) : ElemsOf knd l := by
  induction p with
  | nil => intro e he; cases he
  | cons h _ ih =>
    intro e he
    rcases List.mem_cons.mp he with rfl | he
    · exact ⟨⟨_, h.1⟩, h.2⟩
    · exact ih e he
theorem entS_mem {l : List (Int × Value)} {L : List K} (p : Paired (EntS knd) l L) (k : K) : k ∈ L ↔ ∃ e ∈ l, knd.is k e.2 = true := by
  induction p with
  | nil => simp
  | cons h _ ih =>
    rename_i e k' _ _ _
    rw [List.mem_cons, ih]
    constructor
    · rintro (rfl | ⟨e', h1, h2⟩)
      · exact ⟨e, .head _, h.1.1⟩
      · exact ⟨e', .tail _ h1, h2⟩
    · rintro ⟨e', h1, h2⟩
      rcases List.mem_cons.mp h1 with rfl | h1
      · exact .inl (knd.inj _ _ _ h2 h.1.1)
      · exact .inr ⟨e', h1, h2⟩
section
variable {A : Around} {E : Value → Shared → Prop} {s : Shared} {a : Addr} {L : List K}
theorem setM_tail {g : Bool → Sem Unit} (hg : ∀ (b : Bool) (z : Shared) (T : Unit → Shared → Prop), T () z → wpAny (model P w) A (g b) T E z) {o : Obj} {fs : Array (Int × Value)} {ep : Nat} {tb : SetTable} (ho : s.heap.get? a = some o)
    (hx : o.ExactSet) (hd : o.data = .set fs ep tb) {gs : Array (Int × Value)} {t2 : SetTable} {M : List K} (pr : Paired (EntS knd) gs.toList M) (nd : M.Nodup) (hb : gs.size < scanBound) (hf : t2.fits gs.size = true)
    (hr : Ris t2.place.toList) (hl : w.params.followText "set-order" = true ∨ t2.led = true) {dm : Bool} {T : Option Bool → Shared → Prop} (hT : ∀ h' M', Heap.SameBut a s.heap h' → M.Perm M' → SetM knd h' a M' → T (some true) { s with heap := h' }) :
    wpAny (model P w) A (storeSet a gs t2 >>= fun _ => if (!dm && t2.tooFull) = true then (g (relayAll t2 gs (SetTable.grown gs.size)).2.2 >>= fun _ =>
      storeSet a (relayAll t2 gs (SetTable.grown gs.size)).1 (relayAll t2 gs (SetTable.grown gs.size)).2.1 >>= fun _ => pure (some true)) else pure (some true)) T E s := by
  have b1 := Heap.SameBut.update s.heap a (Obj.putSet gs t2)
  have o1 := store_at (es' := gs) (t' := t2) ho hd
  refine wpAny_bind (wpAny_storeSet_of ho hd ?_ (fits_of_scanBound hb))
  by_cases c : (!dm && t2.tooFull) = true
  · rw [if_pos c]
    have pm := relayAll_perm t2 gs (SetTable.grown gs.size)
    have z1 := relayAll_fits t2 gs (SetTable.grown gs.size)
    have z2 := relayAll_ris t2 gs (SetTable.grown gs.size)
    have z3 := relayAll_led t2 gs (SetTable.grown gs.size)
    generalize relayAll t2 gs (SetTable.grown gs.size) = Y at pm z1 z2 z3 ⊢
    obtain ⟨ks, t3, gv⟩ := Y
    dsimp only at pm z1 z2 z3 ⊢
    have sz : ks.size = gs.size := by rw [← Array.length_toList, pm.length_eq, Array.length_toList]
    obtain ⟨M', q1, q2⟩ := paired_perm pm.symm pr
    refine wpAny_bind (hg _ _ _ (wpAny_bind (wpAny_storeSet_of o1 rfl ?_ (fits_of_scanBound (by rw [sz]; exact hb)))))
    have o2 := store_at (es' := ks) (t' := t3) o1 rfl
    exact wpAny_pure (hT _ M' (b1.trans (Heap.SameBut.update _ a _)) q2 ⟨_, ks, _, t3, o2, hx, rfl, q1, q2.nodup_iff.mp nd, by rw [sz]; exact hb, z1, z2, hl.imp id fun z => by rw [z3]; exact z⟩)
  · rw [if_neg c]
    exact wpAny_pure (hT _ M b1 (.refl _) ⟨_, gs, _, t2, o1, hx, rfl, pr, nd, hb, hf, hr, hl⟩)
/-- one more -/
theorem SetM.add {k : K} {x : Value} {T : Bool → Shared → Prop} (R : SetM knd s.heap a L) (hk : knd.is k x = true) (sc : x.scannable = true) (room : L.length + 1 < scanBound)
    (hT : ∀ h' M b, Heap.SameBut a s.heap h' → (if k ∈ L then L else k :: L).Perm M → SetM knd h' a M → T b { s with heap := h' }) : wpAny (model P w) A (setAddHashed a x (knd.hash k)) T E s := by
  obtain ⟨o, fs, ep, tb, ho, hx, hd, pr, nd, hb, hf, hr, hl⟩ := R
  have el := entS_elems pr
  have len : fs.size = L.length := by rw [← Array.length_toList]; exact Paired.length pr
  unfold setAddHashed setAddHashedIn
  refine wpAny_holding (wpAny_bind (wpAny_setState_of ho hd hf ?_))
  dsimp only
  rw [byScan_of sc hb el]
  simp only [↓reduceIte]
  unfold setAddByScan
  refine wpAny_bind (wpAny_bind (wpAny_rule (wpAny_bind (wpAny_setScan_of hk ho hd hf el ?_))))
  have tell : ∀ (b : Bool) (z : Shared) (T' : Unit → Shared → Prop), T' () z → wpAny (model P w) A (match b with | true => rule "set.scan.the-table-gave-way" | false => pure ()) T' E z := fun b z T' q => by
    cases b
    · exact wpAny_pure q
    · exact wpAny_rule q
  cases c : List.findIdx? (fun e => knd.is k e.2) fs.toList with
  | some j =>
    dsimp only
    obtain ⟨c1, c2, _⟩ := List.findIdx?_eq_some_iff_getElem.mp c
    have m : k ∈ L := (entS_mem pr k).mpr ⟨_, List.getElem_mem c1, c2⟩
    refine wpAny_pure (wpAny_pure (hT s.heap L _ (Heap.SameBut.refl a s.heap) ?_ ⟨o, fs, ep, tb, ho, hx, hd, pr, nd, hb, hf, hr, hl⟩))
    rw [if_pos m]
  | none =>
    dsimp only
    have m : k ∉ L := fun z => by
      obtain ⟨e, e1, e2⟩ := (entS_mem pr k).mp z
      have := List.findIdx?_eq_none_iff.mp c e e1
      rw [e2] at this; cases this
    have pm := layNew_perm tb fs (knd.hash k) x
    have z1 := layNew_fits tb fs (knd.hash k) x
    have z2 := layNew_ris tb fs (knd.hash k) x hr
    have z3 := layNew_led tb fs (knd.hash k) x
    generalize layNew tb fs (knd.hash k) x = Y at pm z1 z2 z3 ⊢
    obtain ⟨gs, t1, dm, gv⟩ := Y
    dsimp only at pm z1 z2 z3 ⊢
    rw [Array.toList_push] at pm
    obtain ⟨M, q1, q2⟩ := paired_perm (pm.trans (List.perm_append_singleton _ _)).symm (Paired.cons (F := EntS knd) ⟨⟨hk, rfl⟩, sc⟩ pr)
    have sz : gs.size = L.length + 1 := by rw [← Array.length_toList, Paired.length q1, ← q2.length_eq]; rfl
    have ndM : M.Nodup := q2.nodup_iff.mp (List.nodup_cons.mpr ⟨m, nd⟩)
    have bM : gs.size < scanBound := by rw [sz]; exact room
    have led : w.params.followText "set-order" = true ∨ t1.led = true := hl.imp id fun z => by rw [z3]; exact z
    have fin : ∀ h' M', Heap.SameBut a s.heap h' → M.Perm M' → SetM knd h' a M' → wpAny (model P w) A.in1 (pure true) T E { s with heap := h' } := fun h' M' b p r => wpAny_pure (hT h' M' _ b (by rw [if_neg m]; exact q2.trans p) r)
    refine wpAny_bind (tell _ _ _ ?_)
    by_cases pl : t1.plain = true
    · rw [if_pos pl]
      refine wpAny_bind ?_
      rw [hashByValue_scannable 8 sc]
      refine wpAny_pure ?_
      refine setM_tail tell ho hx hd q1 ndM bM ?_ ?_ ?_ fun h' M' b p r => ?_
      · split
        · exact z1
        · exact SetTable.fits_plain_off z1
      · split <;> exact z2
      · split <;> exact led
      · exact wpAny_pure (hT h' M' _ b (by rw [if_neg m]; exact q2.trans p) r)
    · rw [if_neg pl]
      refine wpAny_bind (wpAny_pure ?_)
      refine setM_tail tell ho hx hd q1 ndM bM z1 z2 led fun h' M' b p r => ?_
      exact wpAny_pure (hT h' M' _ b (by rw [if_neg m]; exact q2.trans p) r)
end
/-- the members met so far -/
def SoFar (ks : List K) (i : Nat) (L : List K) : Prop := (∀ k, k ∈ L ↔ k ∈ ks.take i) ∧ L.length ≤ i
theorem SoFar.next {ks : List K} {i : Nat} {L M : List K} {k : K} (g : SoFar ks i L) (hk : ks[i]? = some k) (p : (if k ∈ L then L else k :: L).Perm M) : SoFar ks (i + 1) M := by
  have e : ks.take (i + 1) = ks.take i ++ [k] := by rw [List.take_add_one, hk]; rfl
  refine ⟨fun j => ?_, ?_⟩
  · rw [← p.mem_iff, e, List.mem_append, List.mem_singleton, ← g.1 j]
    split
    · rename_i m
      exact ⟨.inl, fun z => z.elim id fun e => by rw [e]; exact m⟩
    · rw [List.mem_cons]
      exact Or.comm
  · rw [← p.length_eq]
    have := g.2
    split
    · omega
    · simp only [List.length_cons]; omega
theorem set_fill {I : Addr} {fp wr : List Addr} {G : Array GenState → Array GenState → Prop} {n : Nat} {Pv : Nat → Value → Prop} {St : Nat → Shared → Prop} {T : Result → Shared → Prop} {A : Around} (W : WalksS P w A.in1 I fp wr G n Pv St) (D : Addr) (hf : D ∉ fp) (ks : List K)
    (hv : ∀ i v, Pv i v → ∃ k, ks[i]? = some k ∧ knd.is k v = true ∧ v.scannable = true) (few : n + 1 < scanBound) :
    ∀ (f i : Nat) (s : Shared), n - i = f → i ≤ n → St i s → (∃ L, SetM knd s.heap D L ∧ SoFar ks i L) → (∀ s' L, Moved (D :: wr) G s s' → SetM knd s'.heap D L → SoFar ks n L → T (.ok (.ret .none)) s') →
      codeAny (model P w) A (.builtin "set.update.loop" ⟨[.ref D, .ref I], []⟩) T s := by
  have out : D ∉ wr := fun h => hf (W.sub _ h)
  have wide : ∀ b ∈ wr, b ∈ D :: wr := fun b hb => .tail _ hb
  intro f
  induction f with
  | zero =>
    rintro i s e hi st ⟨L, R, g⟩ hT
    obtain rfl : i = n := by omega
    refine codeAny_builtin (F.entry_set_update_loop) ?_
    rw [Around.under_plainId (F.plain_set_update_loop) _]
    show wpAny _ A.in1 (pyNext (Value.ref I) >>= _) _ _ s
    refine wpAny_bind (W.done s _ _ st fun s' m => ?_)
    show wpAny _ A.in1 (ret Value.none) _ _ s'
    exact wpAny_pure (hT s' L (m.mono wide) (R.moved fun o e => m.heap D o out e) g)
  | succ f ih =>
    rintro i s e hi st ⟨L, R, g⟩ hT
    have lt : i < n := by omega
    refine codeAny_builtin (F.entry_set_update_loop) ?_
    rw [Around.under_plainId (F.plain_set_update_loop) _]
    show wpAny _ A.in1 (pyNext (Value.ref I) >>= _) _ _ s
    refine wpAny_bind (W.item i s _ _ lt st fun v s' pv st' m => ?_)
    obtain ⟨k, k1, k2, k3⟩ := hv i v pv
    have R' : SetM knd s'.heap D L := R.moved fun o e => m.heap D o out e
    show wpAny _ A.in1 (holding [v] (setAdd D v) >>= _) _ _ s'
    refine wpAny_bind (wpAny_holding ?_)
    unfold setAdd
    refine wpAny_holding (wpAny_bind (knd.pyHash k2 ?_))
    refine SetM.add (s := { s' with toks := s'.toks + 1 }) R' k2 k3 (by have := g.2; omega) fun h' M b sb p r => ?_
    refine wpAny_pure ⟨plainId_quiet F.plain_set_update_loop _, ih (i + 1) _ (by omega) lt (W.frame _ s' _ _ st' (Nat.le_succ _) fun b hb o e => ?_) ⟨M, r, g.next k1 p⟩ fun s2 M2 m2 r2 g2 => ?_⟩
    · rw [sb.2 b fun z => hf (z ▸ hb)]; exact e
    · refine hT s2 M2 (Moved.trans W.gtrans ((m.mono wide).then_heap (Nat.le_succ _) fun b o hb e => ?_) m2) r2 g2
      rw [sb.2 b fun z => hb (by rw [z]; exact .head _)]; exact e
/-- a set's object with nothing in it -/
abbrev set0 (w : World) : Obj := { cls := .type "set", dict := none, data := .set #[] 0 (.fresh 0 0 (!w.params.followText "set-order")) }
theorem setM_new {h : Heap} {a : Addr} (e : h.get? a = some (set0 w)) : SetM knd h a ([] : List K) := ⟨_, #[], 0, _, e, ⟨rfl, rfl, rfl⟩, rfl, .nil, List.nodup_nil, by decide, rfl, List.Pairwise.nil, by
  show _ ∨ (!w.params.followText "set-order") = true
  cases w.params.followText "set-order" <;> simp⟩
end
end TT

namespace TT
open PyM (fromO)
open PySem PySem.Spec PyProof.Rows L2

set_option maxRecDepth 100000 in
set_option maxHeartbeats 3200000 in
/-- set(xs) of a list -/
theorem call_setL {P : Program} {w : World} {K : Type} [DecidableEq K] {knd : KeyKind P w K} {A : Around} {E : Value → Shared → Prop} {s : Shared} {l : Addr} {its : Array Value} (ks : List K) {Q : Value → Shared → Prop} (hh : A.handled = none) (hl : s.heap.IsList l its)
    (hv : ∀ (i : Nat) (v : Value), its[i]? = some v → ∃ k, ks[i]? = some k ∧ knd.is k v = true ∧ v.scannable = true) (hn : its.size = ks.length) (few : its.size + 1 < scanBound)
    (h : ∀ (h' : Heap) (tk : Nat) (L : List K), SetM knd h' s.heap.objs.size L → (∀ k, k ∈ L ↔ k ∈ ks) → (∀ b o, s.heap.get? b = some o → h'.get? b = some o) → Q (.ref s.heap.objs.size) { s with heap := h', toks := tk }) :
    wpAny (model P w) A (call (.type "set") [.ref l]) Q E s := by
  obtain ⟨c0, tl0, mro0⟩ := F.called_set.mro
  have made0 := F.called_set.made
  have sub0 := F.called_set.sub
  refine wpAny_call (codeAny_of_tree ?_)
  show wpAny _ _ (callAny (Value.type "set") _) _ _ _
  refine wpAny_pure ⟨Code.quiet_builtin _ (by decide +kernel), codeAny_builtin (F.entry_type_call) ?_⟩
  rw [Around.under_plain ((weight_type_call_type "set" [.ref l] [])) rfl]
  have q1 := F.called_set.notType
  have q2 := F.called_set.canCreate
  have q3 := F.typeCall_set_1 (.ref l)
  repeat any_goals first | assumption | wp_step
  refine codeAny_mono (code_set_led1 (.ref l) (E := E) (Q₁ := fun obj z => obj = .ref s.heap.objs.size ∧ z = { s with heap := s.heap.push (set0 w) }) ⟨rfl, rfl⟩) fun r z hz => ?_
  cases r with
  | error e => exact hz
  | ok fl =>
    cases fl with
    | ret obj =>
      obtain ⟨rfl, rfl⟩ := hz
      have gS : (s.heap.push (set0 w)).get? s.heap.objs.size = some (set0 w) := Heap.get?_push_size _ rfl
      have tS : Shared.TypeIs { s with heap := s.heap.push (set0 w) } (.ref s.heap.objs.size) "set" := ⟨_, gS, rfl⟩
      have li0 := F.called_set.init.lookup
      have bi0 := F.called_set.init.bind (.ref s.heap.objs.size)
      repeat any_goals first | assumption | wp_step
      refine codeAny_mono (codeAny_call_builtin (R := wants (fun r z => r = .none ∧ ∃ h' tk L, z = { s with heap := h', toks := tk } ∧ SetM knd h' s.heap.objs.size L ∧ (∀ k, k ∈ L ↔ k ∈ ks) ∧ ∀ b o, s.heap.get? b = some o → h'.get? b = some o) E) F.called_set.init.plain F.entry_set_init (check_set_init_1 tS ?_)) fun r2 z2 hz2 => ?_
      · obtain ⟨⟨oc, od, odt, osl⟩, ol, oc1, on, od1⟩ := hl
        simp only at oc1 od1
        subst oc1; subst od1
        have ol2 : (s.heap.push (set0 w)).get? l = some { cls := .type "list", dict := od, data := .seq its on, slots := osl } := Heap.get?_push_of_some _ ol
        have n1 := F.sub_list_set
        have n2 := F.sub_list_frozenset
        have n3 : (Value.type "list" == Value.type "dict") = false := by decide
        have il : (s.heap.push (set0 w)).IsList l its := ⟨_, ol2, rfl, on, rfl⟩
        unfold Builtin.«set.__init__» noKeywords Builtin.Frozenset.updateFrom
        generalize pI : pyIter = PI
        wp_walk
        subst pI
        refine wpAny_pyIter_list il (wpAny_bind (wpAny_runValue ?_))
        have lt0 : l < s.heap.objs.size := Heap.lt_size ol
        have e1 : (s.heap.push (set0 w)).objs.size = s.heap.objs.size + 1 := Heap.size_push ..
        have hh3 : A.in1.in1.in1.handled = none := by simp [hh]
        have ne1 : l ≠ (s.heap.push (set0 w)).objs.size := e1 ▸ Nat.ne_of_lt (Nat.lt_succ_of_lt lt0)
        have ne2 : s.heap.objs.size ∉ [(s.heap.push (set0 w)).objs.size, l] := by
          rw [e1]
          simp only [List.mem_cons, List.not_mem_nil, or_false, not_or]
          exact ⟨Nat.ne_of_lt (Nat.lt_succ_self _), Nat.ne_of_gt lt0⟩
        refine set_fill (knd := knd) ((Walks.list hh3 _ l ne1 its).toS) s.heap.objs.size ne2 ks hv few (its.size - 0) 0 _ (by omega) (Nat.zero_le _) ⟨⟨_, Heap.get?_push_size _ rfl, rfl, rfl⟩, il.push _⟩ ⟨[], setM_new (Heap.get?_push_of_some _ gS), by simp, Nat.le_refl _⟩ fun z L m r g => ?_
        obtain ⟨h', g2, d', tk', os'⟩ := z
        have eg : g2 = s.gens := m.gens
        have ed : d' = s.drawn := m.drawn
        have eo : os' = s.os := m.os
        subst eg; subst ed; subst eo
        show wpAny _ _ _ _ _ _
        refine wpAny_pure ?_
        show wpAny _ _ (ret Value.none) _ _ _
        refine wpAny_pure ⟨rfl, h', tk', L, rfl, r, fun k => by rw [g.1 k, hn, List.take_length], fun b o e => ?_⟩
        have lt1 : b < s.heap.objs.size := Heap.lt_size e
        exact m.heap b o (by rw [e1]; simp only [List.mem_cons, List.not_mem_nil, or_false, not_or]; exact ⟨Nat.ne_of_lt lt1, Nat.ne_of_lt (Nat.lt_succ_of_lt lt1)⟩) (Heap.get?_push_of_some _ (Heap.get?_push_of_some _ e))
      · cases r2 with
        | error e => exact hz2
        | ok fl2 =>
          cases fl2 with
          | ret r =>
            obtain ⟨rfl, h', tk, L, rfl, r1, r2, r3⟩ := hz2
            repeat any_goals first | assumption | wp_step
            exact h _ _ _ r1 r2 r3
          | _ => exact hz2.elim
    | _ => exact hz.elim

set_option maxRecDepth 100000 in
set_option maxHeartbeats 3200000 in
/-- set(xs) of a tuple -/
theorem call_setT {P : Program} {w : World} {K : Type} [DecidableEq K] {knd : KeyKind P w K} {A : Around} {E : Value → Shared → Prop} {s : Shared} {l : Addr} {its : Array Value} (ks : List K) {Q : Value → Shared → Prop} (hh : A.handled = none) (hl : s.heap.IsTuple l its)
    (hv : ∀ (i : Nat) (v : Value), its[i]? = some v → ∃ k, ks[i]? = some k ∧ knd.is k v = true ∧ v.scannable = true) (hn : its.size = ks.length) (few : its.size + 1 < scanBound)
    (h : ∀ (h' : Heap) (tk : Nat) (L : List K), SetM knd h' s.heap.objs.size L → (∀ k, k ∈ L ↔ k ∈ ks) → (∀ b o, s.heap.get? b = some o → h'.get? b = some o) → Q (.ref s.heap.objs.size) { s with heap := h', toks := tk }) :
    wpAny (model P w) A (call (.type "set") [.ref l]) Q E s := by
  obtain ⟨c0, tl0, mro0⟩ := F.called_set.mro
  have made0 := F.called_set.made
  have sub0 := F.called_set.sub
  refine wpAny_call (codeAny_of_tree ?_)
  show wpAny _ _ (callAny (Value.type "set") _) _ _ _
  refine wpAny_pure ⟨Code.quiet_builtin _ (by decide +kernel), codeAny_builtin (F.entry_type_call) ?_⟩
  rw [Around.under_plain ((weight_type_call_type "set" [.ref l] [])) rfl]
  have q1 := F.called_set.notType
  have q2 := F.called_set.canCreate
  have q3 := F.typeCall_set_1 (.ref l)
  repeat any_goals first | assumption | wp_step
  refine codeAny_mono (code_set_led1 (.ref l) (E := E) (Q₁ := fun obj z => obj = .ref s.heap.objs.size ∧ z = { s with heap := s.heap.push (set0 w) }) ⟨rfl, rfl⟩) fun r z hz => ?_
  cases r with
  | error e => exact hz
  | ok fl =>
    cases fl with
    | ret obj =>
      obtain ⟨rfl, rfl⟩ := hz
      have gS : (s.heap.push (set0 w)).get? s.heap.objs.size = some (set0 w) := Heap.get?_push_size _ rfl
      have tS : Shared.TypeIs { s with heap := s.heap.push (set0 w) } (.ref s.heap.objs.size) "set" := ⟨_, gS, rfl⟩
      have li0 := F.called_set.init.lookup
      have bi0 := F.called_set.init.bind (.ref s.heap.objs.size)
      repeat any_goals first | assumption | wp_step
      refine codeAny_mono (codeAny_call_builtin (R := wants (fun r z => r = .none ∧ ∃ h' tk L, z = { s with heap := h', toks := tk } ∧ SetM knd h' s.heap.objs.size L ∧ (∀ k, k ∈ L ↔ k ∈ ks) ∧ ∀ b o, s.heap.get? b = some o → h'.get? b = some o) E) F.called_set.init.plain F.entry_set_init (check_set_init_1 tS ?_)) fun r2 z2 hz2 => ?_
      · obtain ⟨⟨oc, od, odt, osl⟩, ol, oc1, on, od1⟩ := hl
        simp only at oc1 od1
        subst oc1; subst od1
        have ol2 : (s.heap.push (set0 w)).get? l = some { cls := .type "tuple", dict := od, data := .seq its on, slots := osl } := Heap.get?_push_of_some _ ol
        have n1 := F.sub_tuple_set
        have n2 := F.sub_tuple_frozenset
        have n3 : (Value.type "tuple" == Value.type "dict") = false := by decide
        have il : (s.heap.push (set0 w)).IsTuple l its := ⟨_, ol2, rfl, on, rfl⟩
        unfold Builtin.«set.__init__» noKeywords Builtin.Frozenset.updateFrom
        generalize pI : pyIter = PI
        wp_walk
        subst pI
        refine wpAny_pyIter_tuple il (wpAny_bind (wpAny_runValue ?_))
        have lt0 : l < s.heap.objs.size := Heap.lt_size ol
        have e1 : (s.heap.push (set0 w)).objs.size = s.heap.objs.size + 1 := Heap.size_push ..
        have hh3 : A.in1.in1.in1.handled = none := by simp [hh]
        have ne1 : l ≠ (s.heap.push (set0 w)).objs.size := e1 ▸ Nat.ne_of_lt (Nat.lt_succ_of_lt lt0)
        have ne2 : s.heap.objs.size ∉ [(s.heap.push (set0 w)).objs.size, l] := by
          rw [e1]
          simp only [List.mem_cons, List.not_mem_nil, or_false, not_or]
          exact ⟨Nat.ne_of_lt (Nat.lt_succ_self _), Nat.ne_of_gt lt0⟩
        refine set_fill (knd := knd) ((Walks.tuple hh3 _ l ne1 its).toS) s.heap.objs.size ne2 ks hv few (its.size - 0) 0 _ (by omega) (Nat.zero_le _) ⟨⟨_, Heap.get?_push_size _ rfl, rfl, rfl⟩, il.push _⟩ ⟨[], setM_new (Heap.get?_push_of_some _ gS), by simp, Nat.le_refl _⟩ fun z L m r g => ?_
        obtain ⟨h', g2, d', tk', os'⟩ := z
        have eg : g2 = s.gens := m.gens
        have ed : d' = s.drawn := m.drawn
        have eo : os' = s.os := m.os
        subst eg; subst ed; subst eo
        show wpAny _ _ _ _ _ _
        refine wpAny_pure ?_
        show wpAny _ _ (ret Value.none) _ _ _
        refine wpAny_pure ⟨rfl, h', tk', L, rfl, r, fun k => by rw [g.1 k, hn, List.take_length], fun b o e => ?_⟩
        have lt1 : b < s.heap.objs.size := Heap.lt_size e
        exact m.heap b o (by rw [e1]; simp only [List.mem_cons, List.not_mem_nil, or_false, not_or]; exact ⟨Nat.ne_of_lt lt1, Nat.ne_of_lt (Nat.lt_succ_of_lt lt1)⟩) (Heap.get?_push_of_some _ (Heap.get?_push_of_some _ e))
      · cases r2 with
        | error e => exact hz2
        | ok fl2 =>
          cases fl2 with
          | ret r =>
            obtain ⟨rfl, h', tk, L, rfl, r1, r2, r3⟩ := hz2
            repeat any_goals first | assumption | wp_step
            exact h _ _ _ r1 r2 r3
          | _ => exact hz2.elim
    | _ => exact hz.elim
end TT

namespace TT
open PyM (fromO)
open PySem PySem.Spec PyProof.Rows L2
open PySem.W (alike alikeAll dataLt)
/-- each once -/
def dd {α : Type} [DecidableEq α] : List α → List α
  | [] => []
  | x :: xs => if x ∈ xs then dd xs else x :: dd xs
section
variable {α : Type} [DecidableEq α]
theorem mem_dd (k : α) : ∀ xs : List α, k ∈ dd xs ↔ k ∈ xs
  | [] => Iff.rfl
  | x :: xs => by
    rw [dd]
    split
    · rename_i h
      rw [mem_dd k xs, List.mem_cons]
      exact ⟨.inr, fun z => z.elim (fun e => e ▸ h) id⟩
    · rw [List.mem_cons, List.mem_cons, mem_dd k xs]
theorem nodup_dd : ∀ xs : List α, (dd xs).Nodup
  | [] => List.nodup_nil
  | x :: xs => by
    rw [dd]
    split
    · exact nodup_dd xs
    · rename_i h
      exact List.nodup_cons.mpr ⟨fun z => h ((mem_dd x xs).mp z), nodup_dd xs⟩
theorem dd_len : ∀ xs : List α, (dd xs).length ≤ xs.length
  | [] => Nat.le_refl _
  | x :: xs => by
    rw [dd]
    have := dd_len xs
    split <;> simp only [List.length_cons] <;> omega
theorem dd_perm {xs ys : List α} (n : ys.Nodup) (h : ∀ k, k ∈ ys ↔ k ∈ xs) : ys.Perm (dd xs) := (List.perm_ext_iff_of_nodup n (nodup_dd xs)).mpr fun k => (h k).trans (mem_dd k xs).symm
end
/-! ### one order -/
/-- no two in both orders -/
structure OdrI {α : Type} (e : α → PyData) : Prop where
  anti : ∀ a b, leD e a b = true → leD e b a = true → a = b
  le : ∀ a b, (leD e a b || leD e b a) = true
  trans : ∀ a b c, leD e a b = true → leD e b c = true → leD e a c = true
theorem leD_int (a b : Int) : leD eInt a b = decide (a ≤ b) := by
  have := congrFun (congrFun (PySem.W.dataLe_int (fun i : Int => i)) a) b
  exact this
theorem leD_str (a b : Str) : leD eStr a b = decide (a.cps.toList ≤ b.cps.toList) := by
  have := congrFun (congrFun (PySem.W.dataLe_str (fun i : Str => i)) a) b
  exact this
theorem leD_ii (a b : Int × Int) : leD (eT2 eInt eInt) a b = decide (a.1 < b.1 ∨ (a.1 = b.1 ∧ a.2 ≤ b.2)) := by
  have := congrFun (congrFun (PySem.W.dataLe_ii (fun p : Int × Int => p.1) (fun p => p.2)) a) b
  exact this
theorem odrI_int : OdrI eInt := ⟨fun a b h h' => by
  rw [leD_int, decide_eq_true_eq] at h h'
  omega, fun a b => by
  rw [leD_int, leD_int, Bool.or_eq_true, decide_eq_true_eq, decide_eq_true_eq]
  omega, fun a b c h h' => by
  rw [leD_int, decide_eq_true_eq] at *
  omega⟩
theorem str_ext {a b : Str} (h : a.cps.toList = b.cps.toList) : a = b := by
  cases a; cases b
  simp only [Str.mk.injEq]
  exact Array.toList_inj.mp h
theorem odrI_str : OdrI eStr := ⟨fun a b h h' => by
  rw [leD_str, decide_eq_true_eq] at h h'
  exact str_ext (List.le_antisymm h h'), fun a b => by
  rw [leD_str, leD_str, Bool.or_eq_true, decide_eq_true_eq, decide_eq_true_eq]
  exact List.le_total _ _, fun a b c h h' => by
  rw [leD_str, decide_eq_true_eq] at *
  exact List.le_trans h h'⟩
theorem odrI_ii : OdrI (eT2 eInt eInt) := ⟨fun a b h h' => by
  rw [leD_ii, decide_eq_true_eq] at h h'
  exact Prod.ext (by omega) (by omega), fun a b => by
  rw [leD_ii, leD_ii, Bool.or_eq_true, decide_eq_true_eq, decide_eq_true_eq]
  omega, fun a b c h h' => by
  rw [leD_ii, decide_eq_true_eq] at *
  omega⟩
theorem OdrI.sort_perm {α : Type} {e : α → PyData} (h : OdrI e) {xs ys : List α} (p : xs.Perm ys) : sortG e xs = sortG e ys := by
  have p1 : (sortG e xs).Perm (sortG e ys) := (List.mergeSort_perm xs _).trans (p.trans (List.mergeSort_perm ys _).symm)
  have s1 := List.pairwise_mergeSort (le := leD e) h.trans h.le xs
  have s2 := List.pairwise_mergeSort (le := leD e) h.trans h.le ys
  exact p1.eq_of_pairwise (fun a b _ _ => h.anti a b) s1 s2
/-! ### reading -/
mutual
theorem reads_in {h : Heap} : ∀ {v : Value} {d : PyData} {as : List Addr}, Reads h v d as → ∀ b ∈ as, ∃ o, h.get? b = some o
  | _, _, _, .none, b, hb => nomatch hb
  | _, _, _, .bool _, b, hb => nomatch hb
  | _, _, _, .int _ _, b, hb => nomatch hb
  | _, _, _, .str _ _, b, hb => nomatch hb
  | _, _, _, .list e _ _ r, b, hb => by
    rcases List.mem_cons.mp hb with rfl | hb
    · exact ⟨_, e⟩
    · exact readsAll_in r b hb
  | _, _, _, .tuple _ _ _ r, b, hb => readsAll_in r b hb
  | _, _, _, .dict e _ _ r r', b, hb => by
    rcases List.mem_append.mp hb with hb | hb
    · rcases List.mem_cons.mp hb with rfl | hb
      · exact ⟨_, e⟩
      · exact readsAll_in r b hb
    · exact readsAll_in r' b hb
theorem readsAll_in {h : Heap} : ∀ {vs : List Value} {ds : List PyData} {as : List Addr}, ReadsAll h vs ds as → ∀ b ∈ as, ∃ o, h.get? b = some o
  | _, _, _, .nil, b, hb => nomatch hb
  | _, _, _, .cons r t, b, hb => by
    rcases List.mem_append.mp hb with hb | hb
    · exact reads_in r b hb
    · exact readsAll_in t b hb
end
/-! ### a set that is made, then counted or put in order -/
/-- the set at a tells ys -/
def SetD (X : Cx) (H : Hp) {α : Type} (e : α → PyData) (h : Heap) (a : Addr) (ys : List α) : Prop :=
  ∃ o es ep t, h.get? a = some o ∧ o.ExactSet ∧ o.data = .set es ep t ∧ PySem.W.EachIs (fun u b => ∃ v, RelV v u ∧ Rep X.K X.w H v (e b)) (es.toList.map (·.2)) ys ∧ es.size < scanBound ∧ t.fits es.size = true ∧ Ris t.place.toList ∧ (X.w.params.followText "set-order" = true ∨ t.led = true)
structure SKit (X : Cx) {α : Type} [DecidableEq α] (e : α → PyData) (few : Nat) : Prop where
  run : ∀ {pins : List (Addr × Obj)} {σ : L2.St} {H H1 : Hp} {s : Shared} {mt : Addr → Prop} {v : V} {u : Value} {xs : List α} {E : Value → Shared → Prop} {Q : Value → Shared → Prop}, Inv X pins σ H s → X.A.handled = none →
    (kB X.K X.w mt H1 H v (eLst e xs) ∨ kB X.K X.w mt H1 H v (eTup e xs)) → RelV v u → xs.length < few →
    (∀ h' tk ys, SetD X H e h' s.heap.objs.size ys → ys.Perm (dd xs) → (∀ b o, s.heap.get? b = some o → h'.get? b = some o) → Q (.ref s.heap.objs.size) { s with heap := h', toks := tk }) →
    wpAny (model X.prog X.w) X.A (call (.type "set") [u]) Q E s
theorem each_map2 {α β γ : Type} {F : α → γ → Prop} {f : β → α} : ∀ {as : List β} {cs : List γ}, Paired (fun b c => F (f b) c) as cs → PySem.W.EachIs F (as.map f) cs
  | _, _, .nil => .nil
  | _, _, .cons h t => .cons h (each_map2 t)
theorem back_map {α β : Type} (f : α → β) : ∀ (L : List β) (xs : List α), (∀ k ∈ L, k ∈ xs.map f) → ∃ ys : List α, ys.map f = L ∧ ∀ y ∈ ys, y ∈ xs
  | [], _, _ => ⟨[], rfl, by simp⟩
  | k :: L, xs, h => by
    obtain ⟨ys, h1, h2⟩ := back_map f L xs fun j hj => h j (.tail _ hj)
    obtain ⟨y, h3, h4⟩ := List.mem_map.mp (h k (.head _))
    exact ⟨y :: ys, by rw [List.map_cons, h1, h4], fun z hz => by
      rcases List.mem_cons.mp hz with rfl | hz
      · exact h3
      · exact h2 z hz⟩
/-- numbers or texts -/
theorem skA {X : Cx} {α : Type} [DecidableEq α] {e : α → PyData} (k : KeyA e) : SKit X e 4000 where
  run := by
    intro pins σ H H1 s mt v u xs E Q I hh kv ru few h
    have fin : ∀ (vs : List V) (its : Array Value), Vals vs its.toList → Reps X.K X.w H vs (xs.map e) → (∀ (i : Nat) (v : Value), its[i]? = some v → ∃ q, (xs.map k.k)[i]? = some q ∧ (mixKind X.prog X.w).is q v = true ∧ v.scannable = true) ∧ its.size = (xs.map k.k).length := by
      intro vs its rv rs
      have l1 : its.size = xs.length := by rw [← Array.length_toList, ← rv.length, rs.length, List.length_map]
      refine ⟨fun i v hi => ?_, by rw [List.length_map]; exact l1⟩
      have lt : i < xs.length := by rw [← l1]; exact (Array.getElem?_eq_some_iff.mp hi).1
      obtain ⟨w', h1, h2⟩ := rs.get (i := i) (d := e xs[i]) (by rw [List.getElem?_map, List.getElem?_eq_getElem lt]; rfl)
      obtain ⟨u', h3, h4⟩ := rv.get (i := i) h1
      rw [Array.getElem?_toList, hi] at h3
      cases h3
      rw [k.ok] at h2
      have ki := rep_kD h2 h4
      refine ⟨k.k xs[i], by rw [List.getElem?_map, List.getElem?_eq_getElem lt]; rfl, ki, ?_⟩
      rcases keyIs_shape ki with ⟨j, t, _, rfl⟩ | ⟨x, t, _, rfl⟩ <;> rfl
    have out : ∀ (h' : Heap) (tk : Nat) (L : List L2.Key), SetM (mixKind X.prog X.w) h' s.heap.objs.size L → (∀ j, j ∈ L ↔ j ∈ xs.map k.k) → (∀ b o, s.heap.get? b = some o → h'.get? b = some o) → Q (.ref s.heap.objs.size) { s with heap := h', toks := tk } := by
      rintro h' tk L ⟨o, es, ep, t, ho, hx, hd, pr, nd, hb, hf, hr, hl⟩ hm hk
      obtain ⟨ys, e1, e2⟩ := back_map k.k L xs fun j hj => (hm j).mp hj
      subst e1
      refine h h' tk ys ⟨o, es, ep, t, ho, hx, hd, ?_, hb, hf, hr, hl⟩ (dd_perm (List.Pairwise.of_map k.k (fun _ _ h e => h (by rw [e])) nd) fun y => ?_) hk
      · have : ∀ {fs : List (Int × Value)} {zs : List α}, Paired (EntS (mixKind X.prog X.w)) fs (zs.map k.k) → PySem.W.EachIs (fun u b => ∃ v, RelV v u ∧ Rep X.K X.w H v (e b)) (fs.map (·.2)) zs := by
          intro fs
          induction fs with
          | nil =>
            intro zs p
            cases zs with
            | nil => exact .nil
            | cons _ _ => cases p
          | cons f fs ih =>
            intro zs p
            cases zs with
            | nil => cases p
            | cons z zs =>
              cases p with
              | cons p1 p2 => exact .cons (by rw [k.ok]; exact of_keyIs p1.1.1) (ih p2)
        exact this pr
      · have := hm (k.k y)
        rw [List.mem_map, List.mem_map] at this
        constructor
        · intro hy
          exact e2 y hy
        · intro hy
          obtain ⟨z, z1, z2⟩ := this.mpr ⟨y, hy, rfl⟩
          rw [← k.inj _ _ z2]
          exact z1
    rcases kv with kv | kv
    · obtain ⟨a, vs, rfl, h1, h2⟩ := kB_lst kv
      obtain ⟨its, rv, pl, _⟩ := I.list h1
      obtain rfl : u = .ref a := ru
      obtain ⟨f1, f2⟩ := fin vs its.toArray (by simpa using rv) h2
      exact call_setL (knd := mixKind X.prog X.w) (xs.map k.k) hh pl.isList f1 f2 (by rw [f2, List.length_map]; unfold scanBound; omega) out
    · obtain ⟨a, vs, rfl, h1, h2⟩ := kB_tup kv
      obtain ⟨its, rv, pl, _⟩ := I.tuple h1
      obtain rfl : u = .ref a := ru
      obtain ⟨f1, f2⟩ := fin vs its.toArray (by simpa using rv) h2
      exact call_setT (knd := mixKind X.prog X.w) (xs.map k.k) hh pl f1 f2 (by rw [f2, List.length_map]; unfold scanBound; omega) out
theorem ord_perm {α : Type} {F : Value → α → Prop} {vs vs' : List Value} (p : vs.Perm vs') : ∀ {ys : List α}, PySem.W.EachIs F vs' ys → ∃ zs, PySem.W.EachIs F vs zs ∧ zs.Perm ys := by
  induction p with
  | nil => intro ys h; exact ⟨ys, h, .refl _⟩
  | cons x _ ih =>
    intro ys h
    cases h with
    | cons h t =>
      obtain ⟨zs, h1, h2⟩ := ih t
      exact ⟨_, .cons h h1, h2.cons _⟩
  | swap x y l =>
    intro ys h
    cases h with
    | cons h t =>
      cases t with
      | cons h' t => exact ⟨_, .cons h' (.cons h t), .swap _ _ _⟩
  | trans _ _ ih1 ih2 =>
    intro ys h
    obtain ⟨zs, h1, h2⟩ := ih2 h
    obtain ⟨us, h3, h4⟩ := ih1 h1
    exact ⟨us, h3, h4.trans h2⟩
/-- sorted(the set at a) -/
theorem sorted_setD {X : Cx} {pins : List (Addr × Obj)} {σ : L2.St} {H : Hp} {s : Shared} {α : Type} {n : Nat} {e : α → PyData} {a : Addr} {ys : List α} {E : Value → Shared → Prop} {Q : Value → Shared → Prop} (I : Inv X pins σ H s) (R : SetD X H e s.heap a ys) (ho : Odr n e) (hs : Srt e) (hi : OdrI e) (hn : n ≤ 60) (hu : X.A.units + 64 < cLine) (hh : X.A.handled = none)
    (hQ : ∀ s' p (out : Array Value) (c : Nat) vs, (∀ b o, s.heap.get? b = some o → s'.heap.get? b = some o) → s'.gens = s.gens → s'.os = s.os → s.heap.objs.size ≤ p → s'.heap.get? p = some (seqObj "list" out c) → Vals vs out.toList → Reps X.K X.w H vs ((sortG e ys).map e) → Q (.ref p) s') :
    wpAny (model X.prog X.w) X.A (call (.builtin "sorted") [.ref a]) Q E s := by
  obtain ⟨o, es, ep, t, hg, hx, hd, pr, hb, hf, hr, hl⟩ := R
  refine Calls.call_function_entry kind_sorted plain_sorted entry_sorted (args_sorted1 _) ?_
  unfold Builtin.«sorted»
  refine wpAny_bind (m := checkCount "sorted" 1 1 _) (wpAny_pure (wpAny_bind (collect_set (A := X.A.in1) hh ⟨o, hg, hx.1, hd⟩ hf hb hr hl fun s1 vs k1 hz g1 o1 pm => ?_)))
  obtain ⟨zs, z1, z2⟩ := ord_perm pm pr
  have zl : zs.length = es.size := by rw [← z1.length, pm.length_eq, List.length_map, Array.length_toList]
  have few : vs.length ≤ sizeLine := by rw [z1.length, zl]; exact fits_of_scanBound hb
  refine wpAny_bind (wpAny_newList ?_ few)
  have hL : (s1.heap.push (seqObj "list" vs.toArray 0)).get? s1.heap.objs.size = some (seqObj "list" vs.toArray 0) := Heap.get?_push_size _ rfl
  have hall : PySem.W.AllAlike (zs.map e) := PySem.W.AllAlike.of ho.alike
  have rd : PySem.W.EachIs (fun v b => ∃ as, Reads (s1.heap.push (seqObj "list" vs.toArray 0)) v (e b) as ∧ s1.heap.objs.size ∉ as) vs zs := z1.mono fun v b ⟨x, rx, rp⟩ => by
    obtain ⟨as, ra⟩ := Inv.reads I rp rx
    refine ⟨as, PyProof.Rows.Reads.keeps (fun b o q => Heap.get?_push_of_some _ (k1 b o q)) ra, fun z => ?_⟩
    obtain ⟨ob, hob⟩ := reads_in ra _ z
    exact absurd (Heap.lt_size (k1 _ _ hob)) (Nat.lt_irrefl _)
  refine wpAny_bind (wpAny_holding (PySem.W.list_sort_data (s := { s1 with heap := s1.heap.push (seqObj "list" vs.toArray 0) }) hL z1 rd hall (hs.run zs) (by rw [zl]; exact fits_of_scanBound hb) (fun b _ => by
    have := ho.depth b
    show X.A.units + 1 + 1 + _ < _
    omega) fun out ho2 he => ?_))
  obtain ⟨c, hc⟩ := sortedHeap_at (vs := vs) (out := out.toArray) hL
  obtain ⟨us, u1, u2⟩ := of_each he
  refine wpAny_pure ⟨_, rfl, hQ _ s1.heap.objs.size out.toArray c us (fun b u q => ?_) g1 o1 hz hc (by simpa using u1) ?_⟩
  · have q := k1 b u q
    have lt := Heap.lt_size q
    show (sortedHeap (s1.heap.push (seqObj "list" vs.toArray 0)) s1.heap.objs.size vs out.toArray).get? b = some u
    rw [sortedHeap_old (Nat.ne_of_lt lt) (by rw [size_push']; exact Nat.lt_succ_of_lt lt)]
    exact Heap.get?_push_of_some _ q
  · rw [← hi.sort_perm z2]
    exact u2
section
variable {X : Cx} {m : Type → Type} [Monad m] [PyM m] {C : Wd X.K X.w m} {W : WX} {H0 : Hp} {R : Slots} {α : Type} [DecidableEq α] {ea : α → PyData} {a : Expr} {mxs : m (List α)} {pos p p2 q : Pos} {n few : Nat}
/-- how many of a set, its things in order -/
def lenSet (few : Nat) (xs : List α) : Option Int := if xs.length < few then some (dd xs).length else none
def sortSet (few : Nat) (e : α → PyData) (xs : List α) : Option (List α) := if xs.length < few then some (sortG e (dd xs)) else none
/-- a list or a tuple of such -/
abbrev SeqK (ea : α → PyData) (es : List α → PyData) : Prop := es = eLst ea ∨ es = eTup ea
theorem lenSet_core {es : List α → PyData} (hes : SeqK ea es) (k : SKit X ea few) (hc : X.calm = true) (hg : Gl X "len") (hm : X.mg "len" = none) (hg2 : Gl X "set") (hm2 : X.mg "set" = none) (ha : SB X C W H0 R a es mxs)
    (na : starEach [a] X.env = (false, eval a X.env) :: starEach [] X.env) : SE X C W H0 R (.Call (.Name "len" p) [.Call (.Name "set" p2) [a] [] q] [] pos) eInt (mxs >>= fun xs => fromO (lenSet few xs)) := by
  refine ⟨⟨fun pins s σ H Q I h => ?_⟩⟩
  have t := tR_one (k := kF X.K X.w C.mt) (r := fun v H1 => ∃ xs, kB X.K X.w C.mt H1 H1 v (es xs) ∧ xs.length < few ∧ Q (.int (dd xs).length) H1) kF_ok h (fun v H1 xs k1 q1 => by
    obtain ⟨z, e, _, q2⟩ := tR_done q1
    unfold lenSet at e
    split at e
    · rename_i g
      cases e
      exact ⟨xs, k1, g, q2 _ H1 (.refl H1) (.int _)⟩
    · cases e)
  refine Call_ (ld_blt I hg hm PySem.boot_len ?_)
  refine PyProof.Rows.callWith_builtin1 (PyProof.Rows.args_cons ?_ rfl) rfl rfl
  refine Call_ (ld_blt I hg2 hm2 PyProof.Rows.boot_set ?_)
  refine PyProof.Rows.callWith_type1 (PyProof.Rows.args_cons (thn (ha.run.run pins s σ H _ I t) fun u s1 ⟨x, H1, I1, r1, xs, k1, g, q1⟩ => PyProof.Rows.args_nil ?_) na) na rfl
  refine k.run I1 (I1.ok.hd hc) (hes.elim (fun z => .inl (by rw [← z]; exact k1)) fun z => .inr (by rw [← z]; exact k1)) r1 g fun h' tk ys ⟨o, fs, ep, tb, ho, hx, hd, pr, hb, hf, _⟩ pm hk => ?_
  refine PyProof.Rows.args_nil ?_
  have sz : fs.size = (dd xs).length := by
    rw [← pm.length_eq, ← pr.length, List.length_map, Array.length_toList]
  refine call_len_set ho hx hd hf (by unfold scanBound at hb; omega) ⟨.int fs.size, H1, (I1.kept hk).tok _, ⟨_, rfl⟩, by rw [sz]; exact q1⟩
theorem se_lenSetL (k : SKit X ea few) (hc : X.calm = true) (hg : Gl X "len") (hm : X.mg "len" = none) (hg2 : Gl X "set") (hm2 : X.mg "set" = none) (ha : SB X C W H0 R a (eLst ea) mxs)
    (na : starEach [a] X.env = (false, eval a X.env) :: starEach [] X.env := by rfl) : SE X C W H0 R (.Call (.Name "len" p) [.Call (.Name "set" p2) [a] [] q] [] pos) eInt (mxs >>= fun xs => fromO (lenSet few xs)) := lenSet_core (.inl rfl) k hc hg hm hg2 hm2 ha na
theorem se_lenSetT (k : SKit X ea few) (hc : X.calm = true) (hg : Gl X "len") (hm : X.mg "len" = none) (hg2 : Gl X "set") (hm2 : X.mg "set" = none) (ha : SB X C W H0 R a (eTup ea) mxs)
    (na : starEach [a] X.env = (false, eval a X.env) :: starEach [] X.env := by rfl) : SE X C W H0 R (.Call (.Name "len" p) [.Call (.Name "set" p2) [a] [] q] [] pos) eInt (mxs >>= fun xs => fromO (lenSet few xs)) := lenSet_core (.inr rfl) k hc hg hm hg2 hm2 ha na
theorem sortSet_core {es : List α → PyData} (hes : SeqK ea es) (k : SKit X ea few) (ho : Odr n ea) (hs : Srt ea) (hi : OdrI ea) (hn : n ≤ 60) (hu : X.A.units + 64 < cLine) (hc : X.calm = true) (hg : Gl X "sorted") (hm : X.mg "sorted" = none) (hg2 : Gl X "set") (hm2 : X.mg "set" = none)
    (ha : SB X C W H0 R a es mxs) (na : starEach [a] X.env = (false, eval a X.env) :: starEach [] X.env) : SO X C W H0 R (.Call (.Name "sorted" p) [.Call (.Name "set" p2) [a] [] q] [] pos) (eLst ea) (mxs >>= fun xs => fromO (sortSet few ea xs)) := by
  refine ⟨⟨fun pins s σ H Q I h => ?_⟩⟩
  have t := tR_one (k := kO X.K X.w C.mt) (r := fun v H1 => ∃ xs, kB X.K X.w C.mt H1 H1 v (es xs) ∧ xs.length < few ∧ ∀ p ws, H1 p = none → Reps X.K X.w H1 ws ((sortG ea (dd xs)).map ea) → Q (.ref p) (upd H1 p (.lst ws))) kO_ok h (fun v H1 xs k1 q1 => by
    obtain ⟨z, e, _, q2⟩ := tR_done q1
    unfold sortSet at e
    split at e
    · rename_i g
      cases e
      exact ⟨xs, k1, g, fun p ws hp rs => q2 _ _ (Same.new hp) ⟨p, ws, _, rfl, rfl, upd_same, Reps.firm (fun b o h _ => Same.new hp b o h) rs, hp⟩⟩
    · cases e)
  refine Call_ (ld_blt I hg hm (show bootBuiltins ("sorted" : Str) = some (.builtin "sorted") by decide +kernel) ?_)
  refine PyProof.Rows.callWith_builtin1 (PyProof.Rows.args_cons ?_ rfl) rfl rfl
  refine Call_ (ld_blt I hg2 hm2 PyProof.Rows.boot_set ?_)
  refine PyProof.Rows.callWith_type1 (PyProof.Rows.args_cons (thn (ha.run.run pins s σ H _ I t) fun u s1 ⟨x, H1, I1, r1, xs, k1, g, q1⟩ => PyProof.Rows.args_nil ?_) na) na rfl
  have hh := I1.ok.hd hc
  refine k.run I1 hh (hes.elim (fun z => .inl (by rw [← z]; exact k1)) fun z => .inr (by rw [← z]; exact k1)) r1 g fun h' tk ys sd pm hk => ?_
  refine PyProof.Rows.args_nil ?_
  have I2 : Inv X pins σ H1 { s1 with heap := h', toks := tk } := I1.kept hk
  have sz : (sortG ea ys).length ≤ sizeLine := by
    obtain ⟨o, fs, ep, tb, _, _, _, pr, hb, _⟩ := sd
    rw [show (sortG ea ys).length = ys.length from mergeSort_len ys, ← pr.length, List.length_map, Array.length_toList]
    exact fits_of_scanBound hb
  refine sorted_setD I2 sd ho hs hi hn hu hh fun s' p out c vs g1 g2 g3 g4 g5 g6 g7 => ?_
  have new : H1 p = none := I2.hok.fresh g4
  have len : vs.length ≤ sizeLine := by rw [g7.length, List.length_map]; exact sz
  have J : Inv X pins σ (upd H1 p (.lst vs)) { s1 with heap := s'.heap, gens := s'.gens, drawn := s'.drawn, toks := s'.toks } :=
    Inv.call (s := { s1 with heap := h', toks := tk }) I2 (ch := []) (Un.laid g1 g4 new) (HOk.laid I2.hok g1 g4 ⟨len, out.toList, c, g6, g5⟩) (by rw [g2]; exact I2.bare) (fun _ z => nomatch z)
  have e : s' = { s1 with heap := s'.heap, gens := s'.gens, drawn := s'.drawn, toks := s'.toks } := by
    cases s'
    cases g3
    rfl
  rw [e]
  exact ⟨.ref p, _, J, rfl, q1 p vs new (by rw [← hi.sort_perm pm]; exact g7)⟩
theorem so_sortSetL (k : SKit X ea few) (ho : Odr n ea) (hs : Srt ea) (hi : OdrI ea) (hn : n ≤ 60) (hu : X.A.units + 64 < cLine) (hc : X.calm = true) (hg : Gl X "sorted") (hm : X.mg "sorted" = none) (hg2 : Gl X "set") (hm2 : X.mg "set" = none)
    (ha : SB X C W H0 R a (eLst ea) mxs) (na : starEach [a] X.env = (false, eval a X.env) :: starEach [] X.env := by rfl) : SO X C W H0 R (.Call (.Name "sorted" p) [.Call (.Name "set" p2) [a] [] q] [] pos) (eLst ea) (mxs >>= fun xs => fromO (sortSet few ea xs)) :=
  sortSet_core (.inl rfl) k ho hs hi hn hu hc hg hm hg2 hm2 ha na
theorem so_sortSetT (k : SKit X ea few) (ho : Odr n ea) (hs : Srt ea) (hi : OdrI ea) (hn : n ≤ 60) (hu : X.A.units + 64 < cLine) (hc : X.calm = true) (hg : Gl X "sorted") (hm : X.mg "sorted" = none) (hg2 : Gl X "set") (hm2 : X.mg "set" = none)
    (ha : SB X C W H0 R a (eTup ea) mxs) (na : starEach [a] X.env = (false, eval a X.env) :: starEach [] X.env := by rfl) : SO X C W H0 R (.Call (.Name "sorted" p) [.Call (.Name "set" p2) [a] [] q] [] pos) (eLst ea) (mxs >>= fun xs => fromO (sortSet few ea xs)) :=
  sortSet_core (.inr rfl) k ho hs hi hn hu hc hg hm hg2 hm2 ha na
end
end TT

namespace TT
open PyM (fromO)
open PySem PySem.Spec PyProof.Rows L2
open PySem.W (alike alikeAll dataLt KdlSrc)
/-! ### sorted of what can be gathered; list, tuple, sorted of a dict's keys -/
theorem sorted_col {X : Cx} {pins : List (Addr × Obj)} {σ : L2.St} {H : Hp} {s : Shared} {α : Type} {n : Nat} {e : α → PyData} {r : Value} {ys : List α} {E : Value → Shared → Prop} {Q : Value → Shared → Prop} (I : Inv X pins σ H s) (ho : Odr n e) (hs : Srt e) (hn : n ≤ 60) (hu : X.A.units + 64 < cLine) (few : ys.length ≤ sizeLine)
    (col : ∀ Q' : List Value → Shared → Prop, (∀ h' tk vs, (∀ b o, s.heap.get? b = some o → h'.get? b = some o) → PySem.W.EachIs (fun u b => ∃ v, RelV v u ∧ Rep X.K X.w H v (e b)) vs ys → Q' vs { s with heap := h', toks := tk }) → wpAny (model X.prog X.w) X.A.in1 (collect r) Q' E s)
    (hQ : ∀ p h' tk vs, (∀ b o, s.heap.get? b = some o → h'.get? b = some o) → s.heap.get? p = none → vs.length ≤ sizeLine → (∃ its c, Vals vs its ∧ h'.get? p = some (seqObj "list" its.toArray c)) → Reps X.K X.w H vs ((sortG e ys).map e) → Q (.ref p) { s with heap := h', toks := tk }) :
    wpAny (model X.prog X.w) X.A (call (.builtin "sorted") [r]) Q E s := by
  refine Calls.call_function_entry kind_sorted plain_sorted entry_sorted (args_sorted1 _) ?_
  unfold Builtin.«sorted»
  refine wpAny_bind (m := checkCount "sorted" 1 1 _) (wpAny_pure (wpAny_bind (col _ fun h1 tk vs k1 z1 => ?_)))
  have fw : vs.length ≤ sizeLine := by rw [z1.length]; exact few
  refine wpAny_bind (wpAny_newList ?_ fw)
  have hL : (h1.push (seqObj "list" vs.toArray 0)).get? h1.objs.size = some (seqObj "list" vs.toArray 0) := Heap.get?_push_size _ rfl
  have hall : PySem.W.AllAlike (ys.map e) := PySem.W.AllAlike.of ho.alike
  have gone : s.heap.get? h1.objs.size = none := by
    cases z : s.heap.get? h1.objs.size with
    | some o => exact absurd (Heap.lt_size (k1 _ _ z)) (Nat.lt_irrefl _)
    | none => rfl
  have rd : PySem.W.EachIs (fun v b => ∃ as, Reads (h1.push (seqObj "list" vs.toArray 0)) v (e b) as ∧ h1.objs.size ∉ as) vs ys := z1.mono fun v b ⟨x, rx, rp⟩ => by
    obtain ⟨as, ra⟩ := Inv.reads I rp rx
    refine ⟨as, PyProof.Rows.Reads.keeps (fun b o q => Heap.get?_push_of_some _ (k1 b o q)) ra, fun z => ?_⟩
    obtain ⟨ob, hob⟩ := reads_in ra _ z
    exact absurd (Heap.lt_size (k1 _ _ hob)) (Nat.lt_irrefl _)
  refine wpAny_bind (wpAny_holding (PySem.W.list_sort_data (s := { s with heap := h1.push (seqObj "list" vs.toArray 0), toks := tk }) hL z1 rd hall (hs.run ys) few (fun b _ => by
    have := ho.depth b
    show X.A.units + 1 + 1 + _ < _
    omega) fun out ho2 he => ?_))
  obtain ⟨c, hc⟩ := sortedHeap_at (vs := vs) (out := out.toArray) hL
  obtain ⟨us, u1, u2⟩ := of_each he
  refine wpAny_pure ⟨_, rfl, hQ h1.objs.size _ tk us (fun b u q => ?_) gone ?_ ⟨out, c, u1, hc⟩ u2⟩
  · have q := k1 b u q
    have lt := Heap.lt_size q
    show (sortedHeap (h1.push (seqObj "list" vs.toArray 0)) h1.objs.size vs out.toArray).get? b = some u
    rw [sortedHeap_old (Nat.ne_of_lt lt) (by rw [size_push']; exact Nat.lt_succ_of_lt lt)]
    exact Heap.get?_push_of_some _ q
  · rw [u1.length, ho2]; exact few
/-! what is gathered -/
theorem dict_src {X : Cx} {pins : List (Addr × Obj)} {σ : L2.St} {H : Hp} {s : Shared} {mt : Addr → Prop} {H1 : Hp} {v : V} {u : Value} {kvs : List (PyData × PyData)} (I : Inv X pins σ H s) (h : kB X.K X.w mt H1 H v (.dict kvs)) (r : RelV v u) :
    ∃ a es ep vs, u = .ref a ∧ (a == sysModules) = false ∧ s.heap.DictRaw a es ep ∧ es.size ≤ sizeLine ∧ Vals vs (es.toList.map (·.key)) ∧ Reps X.K X.w H vs (kvs.map (·.1)) := by
  obtain ⟨a, o, ents, rfl, h1, ho, ⟨hx, ⟨es, ep, hd, hp⟩, nd⟩, hz, _, h5, _, _⟩ := kB_obj I h
  cases r
  refine ⟨a, es, ep, _, rfl, h1, ⟨o, ho, hx, hd⟩, ?_, (pairedReads (X := X) (α := Nat) (f := fun _ => .non) (g := fun _ => .none) hp).1, h5⟩
  have := paired_len hp
  rw [Array.length_toList] at this
  omega
theorem acc_keys {es : Array DictEntry} {acc : Array Value} (h : ItemsOf (fun i v => ∃ hi : i < es.size, v = es[i].key) acc es.size) : acc.toList = es.toList.map (·.key) := by
  apply List.ext_getElem
  · rw [Array.length_toList, List.length_map, Array.length_toList]; exact h.1
  · intro i h1 h2
    obtain ⟨hi, e⟩ := h.2 i acc[i] (Array.getElem?_eq_getElem (by simpa using h1))
    rw [Array.getElem_toList, e, List.getElem_map, Array.getElem_toList]
section
variable {X : Cx} {mt : Addr → Prop} {α β : Type} {e : α → PyData} {eb : β → PyData} {n : Nat}
/-- a list, a tuple, a dict's keys: to be put in order -/
def rSortK (mt : Addr → Prop) (X : Cx) (e : α → PyData) (H : Hp) (v : V) (xs : List α) : Prop := kB X.K X.w mt H H v (eTup e xs) ∨ ∃ kvs : List (PyData × PyData), kB X.K X.w mt H H v (.dict kvs) ∧ kvs.map (·.1) = xs.map e
theorem call_sortK (h : Odr n e) (hs : Srt e) (hn : n ≤ 60) (hc : X.calm = true) (hu : X.A.units + 64 < cLine) : CallR X (.builtin "sorted") (fun vs H Q => ∃ v xs, vs = [v] ∧ rSortK mt X e H v xs ∧ ∀ p ws, H p = none → Reps X.K X.w H ws ((sortG e xs).map e) → Q (.ref p) (upd H p (.lst ws))) := by
  rintro pins s σ H vs us Q I r ⟨v, xs, rfl, kv, q⟩
  obtain ⟨u, rfl, ru⟩ := vals1 r
  have hh := I.ok.hd hc
  have fin : ∀ p h' tk vs, (∀ b o, s.heap.get? b = some o → h'.get? b = some o) → s.heap.get? p = none → vs.length ≤ sizeLine → (∃ its c, Vals vs its ∧ h'.get? p = some (seqObj "list" its.toArray c)) → Reps X.K X.w H vs ((sortG e xs).map e) → EP X pins σ Q (.ref p) { s with heap := h', toks := tk } := fun p h' tk vs k g l ⟨its, c, r1, r2⟩ rp => by
    have hn := HOk.gone I.hok g
    exact ⟨.ref p, upd H p (.lst vs), I.laidN k g hn ⟨l, its, c, r1, r2⟩, rfl, q p vs hn rp⟩
  rcases kv with kv | ⟨kvs, kv, ek⟩
  · obtain ⟨a, ws, rfl, h1, h2⟩ := kB_tup kv
    obtain ⟨its, rv, ⟨o, ho, hcl, m, hd⟩, hz⟩ := I.tuple h1
    obtain rfl : u = .ref a := ru
    have few : xs.length ≤ sizeLine := by rw [← List.length_map (f := e), ← h2.length]; exact hz
    refine sorted_col I h hs hn hu few (fun Q' hq => ?_) fin
    refine wpAny_collect_seq a (.inr rfl) ho hcl hd (fun h' k => ?_) (by rw [List.size_toArray, ← rv.length]; exact hz)
    exact hq h' s.toks _ k (each_of (by simpa using rv) h2)
  · obtain ⟨a, es, ep, ws, rfl, h1, h2, h3, h4, h5⟩ := dict_src I kv ru
    rw [ek] at h5
    have few : xs.length ≤ sizeLine := by
      rw [← List.length_map (f := e), ← h5.length, h4.length, List.length_map, Array.length_toList]; exact h3
    refine sorted_col I h hs hn hu few (fun Q' hq => ?_) fin
    refine PySem.W.kdu_collect (KdlSrc.rawDict h1) (by simpa using hh) h2 h3 fun h' tk acc k ia => ?_
    rw [acc_keys ia]
    exact hq h' tk _ k (each_of h4 h5)
/-- list(d) -/
theorem call_listD (hc : X.calm = true) : CallR X (.type "list") (fun vs H Q => ∃ v kvs, vs = [v] ∧ kB X.K X.w mt H H v (.dict kvs) ∧ ∀ p ws, H p = none → Reps X.K X.w H ws (kvs.map (·.1)) → Q (.ref p) (upd H p (.lst ws))) := by
  rintro pins s σ H vs us Q I r ⟨v, kvs, rfl, kv, q⟩
  obtain ⟨u, rfl, ru⟩ := vals1 r
  obtain ⟨a, es, ep, ws, rfl, h1, h2, h3, h4, h5⟩ := dict_src I kv ru
  refine PySem.W.kdl_call (KdlSrc.rawDict h1) (I.ok.hd hc) h2 h3 fun h' tk acc c k hS ia => ?_
  have new := I.hok.fresh (Nat.le_refl s.heap.objs.size)
  exact ⟨.ref _, upd H s.heap.objs.size (.lst ws), I.laid (t' := tk) k (Nat.le_refl _) ⟨by rw [h4.length, List.length_map, Array.length_toList]; exact h3, acc.toList, c, by rw [acc_keys ia]; exact h4, by simpa using hS⟩, rfl, q _ ws new h5⟩
theorem meets_tupleD {P : Program} {w : World} {a : Addr} {es : Array DictEntry} {ep : Nat} (h1 : (a == sysModules) = false) (h3 : es.size ≤ sizeLine) :
    MeetsIn P w (Builtin.«tuple.__new__» ⟨[.type "tuple", .ref a], []⟩) (fun A R s => A.handled = none ∧ s.heap.DictRaw a es ep ∧ ∀ (h' : Heap) (tk : Nat), (∀ b o, s.heap.get? b = some o → h'.get? b = some o) → R (.ok (.ret (.ref h'.objs.size))) { s with heap := h'.push { cls := .type "tuple", data := .seq (es.toList.map (·.key)).toArray }, toks := tk }) :=
  .of_wp fun A R s ⟨hh, h2, h⟩ => by
    have s1 := sub_tuple_self
    have s2 := init_tuple_lookup
    have s3 := madeHere_tuple
    have s4 : s.TypeIs (.ref a) "dict" := h2.typeIs
    have nt : ∀ {E : Value → Shared → Prop} {Q : Bool → Shared → Prop}, Q false s → wpAny (model P w) A.in1 (Builtin.Tuple.tupleIsExact (.ref a)) Q E s := fun q => by
      unfold Builtin.Tuple.tupleIsExact
      refine wpAny_bind (wpAny_typeOf s4 (wpAny_pure ?_))
      exact q
    unfold Builtin.«tuple.__new__»
    have col : ∀ {E : Value → Shared → Prop} {Q : List Value → Shared → Prop}, (∀ h' tk, (∀ b o, s.heap.get? b = some o → h'.get? b = some o) → Q (es.toList.map (·.key)) { s with heap := h', toks := tk }) → wpAny (model P w) A.in1 (collect (.ref a)) Q E s := fun q =>
      PySem.W.kdu_collect (KdlSrc.rawDict h1) (by simpa using hh) h2 h3 fun h' tk acc k ia => by
        rw [acc_keys ia]
        exact q h' tk k
    wp_walk using wpAny_typeOf s4, nt, col
    intro h' tk k
    show wpAny _ _ (Builtin.Tuple.tupleExact (es.toList.map (·.key)).toArray >>= fun v => ret v) _ _ _
    unfold Builtin.Tuple.tupleExact
    refine wpAny_bind (wpAny_newObj_type ?_ (by show (es.toList.map (·.key)).toArray.size ≤ sizeLine; simpa using h3))
    exact wpAny_pure ⟨_, rfl, h h' tk k⟩
/-- tuple(d) -/
theorem call_tupleD (hc : X.calm = true) : CallR X (.type "tuple") (fun vs H Q => ∃ v kvs, vs = [v] ∧ kB X.K X.w mt H H v (.dict kvs) ∧ ∀ p ws, H p = none → Reps X.K X.w H ws (kvs.map (·.1)) → Q (.ref p) (upd H p (.tup ws))) := by
  rintro pins s σ H vs us Q I r ⟨v, kvs, rfl, kv, q⟩
  obtain ⟨u, rfl, ru⟩ := vals1 r
  obtain ⟨a, es, ep, ws, rfl, h1, h2, h3, h4, h5⟩ := dict_src I kv ru
  refine callType_newIn F.called_tuple (by decide) (F.typeCall_tuple_1 _) (F.newCall_tuple_1 _) (fun obj => F.args_object_init_2 obj _) F.entry_tuple_new (meets_tupleD h1 h3) ⟨by simpa using I.ok.hd hc, h2, fun h' tk k => ⟨⟨_, Heap.get?_push_size _ rfl, rfl⟩, ?_⟩⟩
  have I1 : Inv X pins σ H { s with heap := h', toks := tk } := I.kept k
  exact ⟨.ref h'.objs.size, upd H h'.objs.size (.tup ws), I1.laid (t' := tk) (fun b o e => Heap.get?_push_of_some _ e) (Nat.le_refl _) ⟨by rw [h4.length, List.length_map, Array.length_toList]; exact h3, es.toList.map (·.key), h4, IsTup.new _ _⟩, rfl, q _ ws (I1.hok.fresh (Nat.le_refl _)) h5⟩
end
section
variable {X : Cx} {m : Type → Type} [Monad m] [PyM m] {C : Wd X.K X.w m} {W : WX} {H0 : Hp} {R : Slots} {α β : Type} {ea : α → PyData} {eb : β → PyData} {a : Expr} {mxs : m (List α)} {md : m (List (α × β))} {pos p : Pos} {n : Nat}
/-- sorted(t) of a tuple -/
theorem so_sortT (h : Odr n ea) (hs : Srt ea) (hn : n ≤ 60) (hc : X.calm = true) (hu : X.A.units + 64 < cLine) (hg : Gl X "sorted") (hm : X.mg "sorted" = none) (ha : SB X C W H0 R a (eTup ea) mxs) (hss : starEach (a :: []) X.env = (false, eval a X.env) :: starEach [] X.env := by rfl) : SO X C W H0 R (.Call (.Name "sorted" p) [a] [] pos) (eLst ea) (mxs >>= fun xs => pure (sortG ea xs)) :=
  sx_callB kO_ok (call_sortK (mt := C.mt) h hs hn hc hu) hg hm (by decide +kernel) (by decide) (by decide) ha (fun v σ H Q xs kv _ q => by
    obtain ⟨_, q⟩ := tR_pure q
    exact ⟨v, xs, rfl, .inl kv, fun p ws hp rs => q _ _ (Same.new hp) ⟨p, ws, _, rfl, rfl, upd_same, Reps.firm (fun b o h _ => Same.new hp b o h) rs, hp⟩⟩) hss
/-- sorted(d) of a dict -/
theorem so_sortD (h : Odr n ea) (hs : Srt ea) (hn : n ≤ 60) (hc : X.calm = true) (hu : X.A.units + 64 < cLine) (hg : Gl X "sorted") (hm : X.mg "sorted" = none) (ha : SB X C W H0 R a (eDct ea eb) md) (hss : starEach (a :: []) X.env = (false, eval a X.env) :: starEach [] X.env := by rfl) : SO X C W H0 R (.Call (.Name "sorted" p) [a] [] pos) (eLst ea) (md >>= fun d => pure (sortG ea (d.map (·.1)))) :=
  sx_callB kO_ok (call_sortK (mt := C.mt) h hs hn hc hu) hg hm (by decide +kernel) (by decide) (by decide) ha (fun v σ H Q d kv _ q => by
    obtain ⟨_, q⟩ := tR_pure q
    exact ⟨v, d.map (·.1), rfl, .inr ⟨_, kv, by rw [dct_fst, List.map_map]; rfl⟩, fun p ws hp rs => q _ _ (Same.new hp) ⟨p, ws, _, rfl, rfl, upd_same, Reps.firm (fun b o h _ => Same.new hp b o h) rs, hp⟩⟩) hss
theorem so_listD (hc : X.calm = true) (hg : Gl X "list") (hm : X.mg "list" = none) (ha : SB X C W H0 R a (eDct ea eb) md) (hss : starEach (a :: []) X.env = (false, eval a X.env) :: starEach [] X.env := by rfl) : SO X C W H0 R (.Call (.Name "list" p) [a] [] pos) (eLst ea) (md >>= fun d => pure (d.map (·.1))) :=
  sx_callT kO_ok (call_listD (mt := C.mt) hc) hg hm (by decide +kernel) (by decide) (by decide) ha (fun v σ H Q d kv _ q => by
    obtain ⟨_, q⟩ := tR_pure q
    refine ⟨v, _, rfl, kv, fun p ws hp rs => q _ _ (Same.new hp) ⟨p, ws, _, rfl, rfl, upd_same, Reps.firm (fun b o h _ => Same.new hp b o h) ?_, hp⟩⟩
    rw [dct_fst] at rs
    rw [List.map_map]
    exact rs) hss
theorem se_tupleD (hc : X.calm = true) (hg : Gl X "tuple") (hm : X.mg "tuple" = none) (ha : SB X C W H0 R a (eDct ea eb) md) (hss : starEach (a :: []) X.env = (false, eval a X.env) :: starEach [] X.env := by rfl) : SE X C W H0 R (.Call (.Name "tuple" p) [a] [] pos) (eTup ea) (md >>= fun d => pure (d.map (·.1))) :=
  sx_callT kF_ok (call_tupleD (mt := C.mt) hc) hg hm (by decide +kernel) (by decide) (by decide) ha (fun v σ H Q d kv _ q => by
    obtain ⟨_, q⟩ := tR_pure q
    refine ⟨v, _, rfl, kv, fun p ws hp rs => q _ _ (Same.new hp) ?_⟩
    refine .tup (vs := ws) (.inl (.inl upd_same)) (Reps.firm (fun b o h _ => Same.new hp b o h) ?_)
    rw [dct_fst] at rs
    rw [List.map_map]
    exact rs) hss
end
end TT

namespace TT
open PyM (fromO)
open PySem PySem.Spec PyProof.Rows L2
/-! ### [f x y for x in xs if g x for y in it x if g1 x y] -/
def capG {α : Type} (xs : List α) : Option (List α) := if xs.length ≤ 4096 then some xs else none
theorem capG_some {α : Type} {xs ys : List α} (h : capG xs = some ys) : ys = xs ∧ xs.length ≤ 4096 := by
  unfold capG at h
  split at h
  · rename_i g
    cases h
    exact ⟨rfl, g⟩
  · cases h
def compL2 {m : Type → Type} [Monad m] [PyM m] {α β γ : Type} (g : α → m Bool) (it : α → m (List β)) (g1 : α → β → m Bool) (f : α → β → m γ) : List α → m (List γ)
  | [] => pure []
  | x :: xs => g x >>= fun c => if c = true then it x >>= fun ys => fromO (capG ys) >>= fun ys => compL (g1 x) (f x) ys >>= fun zs => compL2 g it g1 f xs >>= fun r => pure (zs ++ r) else compL2 g it g1 f xs
section
variable {X : Cx} {m : Type → Type} [Monad m] [PyM m] {C : Wd X.K X.w m} {W : WX} {H0 : Hp} {R : Slots} {α β γ : Type} {ea : α → PyData} {eb : β → PyData} {ec : γ → PyData}
variable {elt tg iter tg1 iter1 : Expr} {ifs ifs1 : List Expr} {scope : Scope} {own : List (Str × Nat)} {pos : Pos} {mi : m (List α)} {mt : α → m Bool} {mi1 : α → m (List β)} {mt1 : α → β → m Bool} {me : α → β → m γ} {g g1 : TG} {is is1 vs1 : List Nat} {dts : α → List PyData} {dts1 : β → List PyData}
/-- between the outer turns -/
def Comp2W (X : Cx) (C : Wd X.K X.w m) (W : WX) (ec : γ → PyData) (mt : α → m Bool) (mi1 : α → m (List β)) (mt1 : α → β → m Bool) (me : α → β → m γ) (xs : List α) (σ : L2.St) (H1 : Hp) (D : Addr) (Q : VK) (i k : Nat) (H2 : Hp) : Prop :=
  k = xs.length - i ∧ i ≤ xs.length ∧ ∃ (s2 : PyM.S m) (accV : List V) (acc : List γ), Ext C.mt H1 H2 ∧ C.rel s2 H2 ∧ H2 D = some (.lst accV) ∧ Reps X.K X.w H2 accV (acc.map ec) ∧ acc.length ≤ i * 4096 ∧
        After C W (kO X.K X.w C.mt) (fun ys => eLst ec (acc ++ ys)) σ H1 Q (PyM.run (compL2 mt mi1 mt1 me (xs.drop i)) s2)
/-- between the inner turns -/
def CompI (X : Cx) (C : Wd X.K X.w m) (W : WX) (ec : γ → PyData) (mt1 : β → m Bool) (me : β → m γ) (rest : m (List γ)) (ys : List β) (i : Nat) (σ : L2.St) (H1 H3 : Hp) (D : Addr) (Q : VK) (j k : Nat) (H2 : Hp) : Prop :=
  k = ys.length - j ∧ j ≤ ys.length ∧ ∃ (s2 : PyM.S m) (accV : List V) (acc : List γ), Ext C.mt H1 H2 ∧ Firms H3 H2 ∧ C.rel s2 H2 ∧ H2 D = some (.lst accV) ∧ Reps X.K X.w H2 accV (acc.map ec) ∧ acc.length ≤ i * 4096 + j ∧
        After C W (kO X.K X.w C.mt) (fun r => eLst ec (acc ++ r)) σ H1 Q (PyM.run (compL mt1 me (ys.drop j) >>= fun zs => rest >>= fun r => pure (zs ++ r)) s2)
/-- a run with an own part ahead: the wish of what follows -/
theorem After.shift {H1 : Hp} {σ : L2.St} {Q : VK} {acc : List γ} {zs : List γ} {rest : m (List γ)} {s : PyM.S m} (h : After C W (kO X.K X.w C.mt) (fun r => eLst ec (acc ++ r)) σ H1 Q (PyM.run (rest >>= fun r => pure (zs ++ r)) s)) :
    After C W (kO X.K X.w C.mt) (fun r => eLst ec (acc ++ zs ++ r)) σ H1 Q (PyM.run rest s) := by
  rw [PyM.run_bind] at h
  cases z : PyM.run rest s with
  | none => rw [z] at h; exact h
  | some p =>
    obtain ⟨r, s5⟩ := p
    rw [z] at h
    cases r with
    | error x => exact h
    | ok r =>
      have h : After C W (kO X.K X.w C.mt) (fun r => eLst ec (acc ++ r)) σ H1 Q (PyM.run (pure (zs ++ r)) s5) := h
      rw [PyM.run_pure] at h
      intro v' H' e' rl' kv'
      refine h v' H' e' rl' ?_
      show kO X.K X.w C.mt H1 H' v' (eLst ec (acc ++ (zs ++ r)))
      rw [← List.append_assoc]
      exact kv'
theorem tLc2_ok [NoErr m] {vs : List Nat} (hgo : GOk X.K X.w g ea is dts) (hin : ∀ i ∈ is, i ∈ vs) (hlt : ∀ i ∈ is, i < R.length) (hgo1 : GOk X.K X.w g1 eb is1 dts1) (hin1 : ∀ i ∈ is1, i ∈ vs1) (hlt1 : ∀ i ∈ is1, i < R.length) {σ : L2.St} {H : Hp} {Q : VK}
    (q : tR C W H0 R (kO X.K X.w C.mt) (eLst ec) (mi >>= fun xs => fromO (capG xs) >>= compL2 mt mi1 mt1 me) σ H Q) :
    tLc2 (tI C W H0 R (Ext C.mt) ea mi) g (fun σ H Q => ∃ a, tT C W0 H0 (setR (wipeR R vs) is (dts a)) (mt a) σ H Q)
      (fun σ H Q => ∃ a, tI C W0 H0 (setR (wipeR R vs) is (dts a)) Firms eb (mi1 a) σ H Q) g1 (fun σ H Q => ∃ a b, tT C W0 H0 (setR (wipeR (setR (wipeR R vs) is (dts a)) vs1) is1 (dts1 b)) (mt1 a b) σ H Q)
      (fun σ H Q => ∃ a b, tR C W0 H0 (setR (wipeR (setR (wipeR R vs) is (dts a)) vs1) is1 (dts1 b)) (kF X.K X.w C.mt) ec (me a b) σ H Q) vs vs1 σ H Q := by
  obtain ⟨s, c, q⟩ := q
  refine ⟨s, c, ?_⟩
  rw [PyM.run_bind] at q
  cases z : PyM.run mi s with
  | none => rw [z] at q; exact q
  | some p =>
    obtain ⟨r, s1⟩ := p
    rw [z] at q
    cases r with
    | error x => exact q
    | ok xs =>
      intro J H1 e1 rl1 wk D hD
      have c1 : Cfg C H0 R s1 σ H1 := c.ext e1 rl1
      have qa : After C W (kO X.K X.w C.mt) (eLst ec) σ H Q (PyM.run (fromO (capG xs) >>= compL2 mt mi1 mt1 me) s1) := q
      rw [PyM.run_bind, PyM.run_fromO] at qa
      cases hcap : capG xs with
      | none => rw [hcap] at qa; exact qa.elim
      | some xs' =>
      rw [hcap] at qa
      obtain ⟨rfl, hxs⟩ := capG_some hcap
      have q : After C W (kO X.K X.w C.mt) (eLst ec) σ H Q (PyM.run (compL2 mt mi1 mt1 me xs') s1) := qa
      have q := After.back (k := kO X.K X.w C.mt) kO_ok e1 rl1 q
      have nD : ¬ C.mt D := fun z => by
        obtain ⟨o, ho, _⟩ := C.there _ _ _ rl1 z
        rw [hD] at ho; cases ho
      have ex0 : Ext C.mt H1 (upd H1 D (.lst [])) := .of_same (Same.new hD)
      refine ⟨Comp2W X C W ec mt mi1 mt1 me xs' σ H1 D Q, ⟨xs'.length, rfl, Nat.zero_le _, s1, [], [], ex0, C.keep _ _ _ rl1 (Same.new hD), upd_same, .nil, Nat.zero_le _, q⟩, ?_⟩
      rintro i k H2 ⟨rfl, hi, s2, accV, acc, e2, rl2, hD2, ra, hl, q2⟩
      by_cases hlt' : i < xs'.length
      · obtain ⟨go, yl⟩ := wk.go i H2 e2 (by rw [List.length_map]; exact hlt')
        refine .inr ⟨go, Comp2W X C W ec mt mi1 mt1 me xs' σ H1 D Q (i + 1) (xs'.length - (i + 1)), fun H' hN => ⟨xs'.length - (i + 1), by omega, hN⟩, ?_⟩
        intro x H3 y
        obtain ⟨e3, d, hd, rx⟩ := yl x H3 y
        have hx : xs'[i]? = some xs'[i] := List.getElem?_eq_getElem hlt'
        rw [List.getElem?_map, hx] at hd
        have hd : some (ea xs'[i]) = some d := hd
        cases hd
        refine hgo.run xs'[i] x _ H3 _ rx fun ws rws => ⟨?_, xs'[i], ?_⟩
        · rw [wipe_setσ hin, wipe_wipe fun v hv => hv]
        have rl3 : C.rel s2 H3 := C.keep _ _ _ rl2 e3
        have e13 : Ext C.mt H1 H3 := e2.trans (.of_same e3)
        -- the block's slots, in any later heap
        have cfg : ∀ (s' : PyM.S m) (H' : Hp), Ext C.mt H1 H' → Firms H3 H' → C.rel s' H' → Cfg C H0 (setR (wipeR R vs) is (dts xs'[i])) s' (setσ (wipe σ vs) is ws) H' := fun s' H' e f rl =>
          ((c1.ext e rl).wipe vs).setAll (fun j hj => by rw [wipeR_len]; exact hlt j hj) (Reps.firm f rws)
        refine ⟨s2, cfg s2 H3 e13 (Firms.refl _) rl3, ?_⟩
        have hdr : xs'.drop i = xs'[i] :: xs'.drop (i + 1) := List.drop_eq_getElem_cons hlt'
        rw [hdr] at q2
        have q2 : After C W (kO X.K X.w C.mt) (fun ys => eLst ec (acc ++ ys)) σ H1 Q (PyM.run (mt xs'[i] >>= fun c => if c = true then mi1 xs'[i] >>= fun ys => fromO (capG ys) >>= fun ys => compL (mt1 xs'[i]) (me xs'[i]) ys >>= fun zs => compL2 mt mi1 mt1 me (xs'.drop (i + 1)) >>= fun r => pure (zs ++ r) else compL2 mt mi1 mt1 me (xs'.drop (i + 1))) s2) := q2
        rw [PyM.run_bind] at q2
        cases z2 : PyM.run (mt xs'[i]) s2 with
        | none => rw [z2] at q2; exact q2
        | some p2 =>
          obtain ⟨r2, s3⟩ := p2
          cases r2 with
          | error x => exact absurd z2 (NoErr.ok _ _ _ _)
          | ok b =>
            rw [z2] at q2
            intro H4 e4 rl4
            have e14 : Ext C.mt H1 H4 := e13.trans e4
            have hD3 : H3 D = some (.lst accV) := e3 _ _ hD2
            have hD4 : H4 D = some (.lst accV) := e4 _ _ hD3 (.inl nD)
            have ra4 : Reps X.K X.w H4 accV (acc.map ec) := Reps.firm e4.firms (Reps.firm (fun b o h _ => e3 b o h) ra)
            cases b with
            | false =>
              rw [if_neg Bool.false_ne_true]
              exact ⟨rfl, hlt', s3, accV, acc, e14, rl4, hD4, ra4, by omega, q2⟩
            | true =>
              rw [if_pos rfl]
              have q2 : After C W (kO X.K X.w C.mt) (fun ys => eLst ec (acc ++ ys)) σ H1 Q (PyM.run (mi1 xs'[i] >>= fun ys => fromO (capG ys) >>= fun ys => compL (mt1 xs'[i]) (me xs'[i]) ys >>= fun zs => compL2 mt mi1 mt1 me (xs'.drop (i + 1)) >>= fun r => pure (zs ++ r)) s3) := q2
              rw [PyM.run_bind] at q2
              refine ⟨xs'[i], s3, cfg s3 H4 e14 e4.firms rl4, ?_⟩
              cases z3 : PyM.run (mi1 xs'[i]) s3 with
              | none => rw [z3] at q2; exact q2
              | some p3 =>
                obtain ⟨r3, s4⟩ := p3
                cases r3 with
                | error x => exact absurd z3 (NoErr.ok _ _ _ _)
                | ok ys =>
                  rw [z3] at q2
                  intro J1 H5 e5 rl5 wk1
                  have qb : After C W (kO X.K X.w C.mt) (fun r => eLst ec (acc ++ r)) σ H1 Q (PyM.run (fromO (capG ys) >>= fun ys => compL (mt1 xs'[i]) (me xs'[i]) ys >>= fun zs => compL2 mt mi1 mt1 me (xs'.drop (i + 1)) >>= fun r => pure (zs ++ r)) s4) := q2
                  rw [PyM.run_bind, PyM.run_fromO] at qb
                  cases hcap1 : capG ys with
                  | none => rw [hcap1] at qb; exact qb.elim
                  | some ys' =>
                  rw [hcap1] at qb
                  obtain ⟨rfl, hys⟩ := capG_some hcap1
                  have q2 : After C W (kO X.K X.w C.mt) (fun r => eLst ec (acc ++ r)) σ H1 Q (PyM.run (compL (mt1 xs'[i]) (me xs'[i]) ys' >>= fun zs => compL2 mt mi1 mt1 me (xs'.drop (i + 1)) >>= fun r => pure (zs ++ r)) s4) := qb
                  have e15 : Ext C.mt H1 H5 := e14.trans e5
                  have f35 : Firms H3 H5 := e4.firms.trans e5.firms
                  have hD5 : H5 D = some (.lst accV) := e5 _ _ hD4 (.inl nD)
                  refine ⟨fun j k H6 => Firms H5 H6 ∧ CompI X C W ec (mt1 xs'[i]) (me xs'[i]) (compL2 mt mi1 mt1 me (xs'.drop (i + 1))) ys' i σ H1 H3 D Q j k H6, ⟨ys'.length, Firms.refl _, rfl, Nat.zero_le _, s4, accV, acc, e15, f35, rl5, hD5, Reps.firm e5.firms ra4, by omega, q2⟩, ?_⟩
                  rintro j k H6 ⟨f56, rfl, hj, s5, accW, bcc, e16, f36, rl6, hD6, rb, hl6, q6⟩
                  by_cases hjl : j < ys'.length
                  · obtain ⟨go1, yl1⟩ := wk1.go j H6 f56 (by rw [List.length_map]; exact hjl)
                    refine .inr ⟨go1, fun H7 => Firms H5 H7 ∧ CompI X C W ec (mt1 xs'[i]) (me xs'[i]) (compL2 mt mi1 mt1 me (xs'.drop (i + 1))) ys' i σ H1 H3 D Q (j + 1) (ys'.length - (j + 1)) H7, fun H' hN => ⟨ys'.length - (j + 1), by omega, hN⟩, ?_⟩
                    intro x1 H7 y1
                    obtain ⟨e7, d1, hd1, rx1⟩ := yl1 x1 H7 y1
                    have hx1 : ys'[j]? = some ys'[j] := List.getElem?_eq_getElem hjl
                    rw [List.getElem?_map, hx1] at hd1
                    have hd1 : some (eb ys'[j]) = some d1 := hd1
                    cases hd1
                    refine hgo1.run ys'[j] x1 _ H7 _ rx1 fun ws1 rws1 => ⟨?_, xs'[i], ys'[j], ?_⟩
                    · rw [wipe_setσ hin1, wipe_wipe fun v hv => hv]
                    have f67 : Firms H6 H7 := fun b o h _ => e7 b o h
                    have rl7 : C.rel s5 H7 := C.keep _ _ _ rl6 e7
                    have e17 : Ext C.mt H1 H7 := e16.trans (.of_same e7)
                    have cfg1 : ∀ (s' : PyM.S m) (H' : Hp), Ext C.mt H1 H' → Firms H7 H' → C.rel s' H' → Cfg C H0 (setR (wipeR (setR (wipeR R vs) is (dts xs'[i])) vs1) is1 (dts1 ys'[j])) s' (setσ (wipe (setσ (wipe σ vs) is ws) vs1) is1 ws1) H' := fun s' H' e f rl =>
                      ((cfg s' H' e ((f36.trans f67).trans f) rl).wipe vs1).setAll (fun l hl => by rw [wipeR_len, setR_len, wipeR_len]; exact hlt1 l hl) (Reps.firm f rws1)
                    refine ⟨s5, cfg1 s5 H7 e17 (Firms.refl _) rl7, ?_⟩
                    have hdr1 : ys'.drop j = ys'[j] :: ys'.drop (j + 1) := List.drop_eq_getElem_cons hjl
                    rw [hdr1, PyM.run_bind] at q6
                    have hD7 : H7 D = some (.lst accW) := e7 _ _ hD6
                    have q6 : After C W (kO X.K X.w C.mt) (fun r => eLst ec (bcc ++ r)) σ H1 Q (Res.bind (PyM.run (mt1 xs'[i] ys'[j] >>= fun c => if c = true then me xs'[i] ys'[j] >>= fun y => compL (mt1 xs'[i]) (me xs'[i]) (ys'.drop (j + 1)) >>= fun zs => pure (y :: zs) else compL (mt1 xs'[i]) (me xs'[i]) (ys'.drop (j + 1))) s5) fun zs s' => PyM.run (compL2 mt mi1 mt1 me (xs'.drop (i + 1)) >>= fun r => pure (zs ++ r)) s') := q6
                    rw [PyM.run_bind] at q6
                    cases z5 : PyM.run (mt1 xs'[i] ys'[j]) s5 with
                    | none => rw [z5] at q6; exact q6
                    | some p5 =>
                      obtain ⟨r5, s6⟩ := p5
                      cases r5 with
                      | error x => exact absurd z5 (NoErr.ok _ _ _ _)
                      | ok b1 =>
                        rw [z5] at q6
                        intro H8 e8 rl8
                        have e18 : Ext C.mt H1 H8 := e17.trans e8
                        have hD8 : H8 D = some (.lst accW) := e8 _ _ hD7 (.inl nD)
                        have rb8 : Reps X.K X.w H8 accW (bcc.map ec) := Reps.firm e8.firms (Reps.firm f67 rb)
                        have f38 : Firms H3 H8 := (f36.trans f67).trans e8.firms
                        have f58 : Firms H5 H8 := (f56.trans f67).trans e8.firms
                        cases b1 with
                        | false =>
                          rw [if_neg Bool.false_ne_true]
                          refine ⟨f58, rfl, hjl, s6, accW, bcc, e18, f38, rl8, hD8, rb8, by omega, ?_⟩
                          rw [PyM.run_bind]
                          exact q6
                        | true =>
                          rw [if_pos rfl]
                          have q6 : After C W (kO X.K X.w C.mt) (fun r => eLst ec (bcc ++ r)) σ H1 Q (Res.bind (PyM.run (me xs'[i] ys'[j] >>= fun y => compL (mt1 xs'[i]) (me xs'[i]) (ys'.drop (j + 1)) >>= fun zs => pure (y :: zs)) s6) fun zs s' => PyM.run (compL2 mt mi1 mt1 me (xs'.drop (i + 1)) >>= fun r => pure (zs ++ r)) s') := q6
                          rw [PyM.run_bind] at q6
                          refine ⟨xs'[i], ys'[j], s6, cfg1 s6 H8 e18 e8.firms rl8, ?_⟩
                          cases z6 : PyM.run (me xs'[i] ys'[j]) s6 with
                          | none => rw [z6] at q6; exact q6
                          | some p6 =>
                            obtain ⟨r6, s7⟩ := p6
                            cases r6 with
                            | error x => exact absurd z6 (NoErr.ok _ _ _ _)
                            | ok y =>
                              rw [z6] at q6
                              intro v H9 e9 rl9 kv
                              have hD9 : H9 D = some (.lst accW) := e9 _ _ hD8 (.inl nD)
                              have nf : ∀ b u, H9 b = some u → Firm u → b ≠ D := fun b u hu f z => by subst z; rw [hD9] at hu; cases hu; exact f
                              have fm : Firms H9 (upd H9 D (.lst (accW ++ [v]))) := firms_upd' hD9 (fun z => z)
                              have hlen : accW.length = bcc.length := by rw [rb.length, List.length_map]
                              refine ⟨accW, hD9, by rw [sizeLine_eq]; omega, (f58.trans e9.firms).trans fm, rfl, hjl, s7, accW ++ [v], bcc ++ [y], ?_, (f38.trans e9.firms).trans fm, C.other _ _ _ _ rl9 nD nf, upd_same, ?_, ?_, ?_⟩
                              · intro b o hb k
                                rw [upd_ne (ne_of_none hb hD)]
                                exact (e18.trans e9) b o hb k
                              · rw [List.map_append]
                                exact Reps.append (Reps.firm fm (Reps.firm e9.firms rb8)) (.cons (Rep.firm fm kv) .nil)
                              · rw [List.length_append]
                                simp
                                omega
                              · have q6 : After C W (kO X.K X.w C.mt) (fun r => eLst ec (bcc ++ r)) σ H1 Q (Res.bind (PyM.run (compL (mt1 xs'[i]) (me xs'[i]) (ys'.drop (j + 1)) >>= fun zs => pure (y :: zs)) s7) fun zs s' => PyM.run (compL2 mt mi1 mt1 me (xs'.drop (i + 1)) >>= fun r => pure (zs ++ r)) s') := q6
                                rw [PyM.run_bind, Res.bind_assoc] at q6
                                rw [PyM.run_bind]
                                cases z7 : PyM.run (compL (mt1 xs'[i]) (me xs'[i]) (ys'.drop (j + 1))) s7 with
                                | none => rw [z7] at q6; exact q6
                                | some p7 =>
                                  obtain ⟨r7, s8⟩ := p7
                                  rw [z7] at q6
                                  cases r7 with
                                  | error x => exact q6
                                  | ok zs =>
                                    have q6 : After C W (kO X.K X.w C.mt) (fun r => eLst ec (bcc ++ r)) σ H1 Q (Res.bind (PyM.run (pure (y :: zs)) s8) fun zs s' => PyM.run (compL2 mt mi1 mt1 me (xs'.drop (i + 1)) >>= fun r => pure (zs ++ r)) s') := q6
                                    rw [PyM.run_pure] at q6
                                    have q6 : After C W (kO X.K X.w C.mt) (fun r => eLst ec (bcc ++ r)) σ H1 Q (PyM.run (compL2 mt mi1 mt1 me (xs'.drop (i + 1)) >>= fun r => pure ((y :: zs) ++ r)) s8) := q6
                                    have q7 := After.shift q6
                                    show After C W (kO X.K X.w C.mt) (fun r => eLst ec (bcc ++ [y] ++ r)) σ H1 Q (PyM.run (compL2 mt mi1 mt1 me (xs'.drop (i + 1)) >>= fun r => pure (zs ++ r)) s8)
                                    rw [PyM.run_bind]
                                    cases z8 : PyM.run (compL2 mt mi1 mt1 me (xs'.drop (i + 1))) s8 with
                                    | none => rw [z8] at q7; exact q7
                                    | some p8 =>
                                      obtain ⟨r8, s9⟩ := p8
                                      rw [z8] at q7
                                      cases r8 with
                                      | error x => exact q7
                                      | ok rr =>
                                        show After C W (kO X.K X.w C.mt) (fun r => eLst ec (bcc ++ [y] ++ r)) σ H1 Q (PyM.run (pure (zs ++ rr)) s9)
                                        rw [PyM.run_pure]
                                        intro v' H' e' rl' kv'
                                        refine q7 v' H' e' rl' ?_
                                        show kO X.K X.w C.mt H1 H' v' (eLst ec (bcc ++ (y :: zs) ++ rr))
                                        have : bcc ++ (y :: zs) ++ rr = bcc ++ [y] ++ (zs ++ rr) := by simp
                                        rw [this]
                                        exact kv'
                  · have hj' : j = ys'.length := by omega
                    subst hj'
                    refine .inl ⟨wk1.stop _ H6 f56 (by rw [List.length_map]; exact Nat.le_refl _), ?_⟩
                    rw [List.drop_length, PyM.run_bind] at q6
                    have q6 : After C W (kO X.K X.w C.mt) (fun r => eLst ec (bcc ++ r)) σ H1 Q (Res.bind (PyM.run (pure []) s5) fun zs s' => PyM.run (compL2 mt mi1 mt1 me (xs'.drop (i + 1)) >>= fun r => pure (zs ++ r)) s') := q6
                    rw [PyM.run_pure] at q6
                    have q6 : After C W (kO X.K X.w C.mt) (fun r => eLst ec (bcc ++ r)) σ H1 Q (PyM.run (compL2 mt mi1 mt1 me (xs'.drop (i + 1)) >>= fun r => pure ([] ++ r)) s5) := q6
                    have q7 := After.shift q6
                    refine ⟨rfl, hlt', s5, accW, bcc, e16, rl6, hD6, rb, by omega, ?_⟩
                    rw [List.append_nil] at q7
                    exact q7
      · have hi' : i = xs'.length := by omega
        subst hi'
        refine .inl ⟨wk.stop _ H2 e2 (by rw [List.length_map]; exact Nat.le_refl _), ?_⟩
        rw [List.drop_length] at q2
        have q2 : After C W (kO X.K X.w C.mt) (fun ys => eLst ec (acc ++ ys)) σ H1 Q (PyM.run (pure []) s2) := q2
        rw [PyM.run_pure] at q2
        refine q2 (.ref D) H2 e2 rl2 ⟨D, accV, acc.map ec, rfl, ?_, hD2, ra, hD⟩
        show PyData.list _ = _
        rw [List.append_nil]
theorem so_comp2 [NoErr m] (hc : X.calm = true) (hN : X.N.Nodup) (hi : SI X C W H0 R (Ext C.mt) tg iter ea mi) (ok : BlkOk X.N X.env.scope scope own) (hv : ∀ i ∈ vs1, i ∈ own.map (·.2))
    (hg : ∀ (s : Shared) (H : Hp) (Cc : Addr) (cl : List (Str × Addr)) (fp : List Addr), PG (X.blk s H scope (compEnvC scope cl Cc X.env) fp) tg g)
    (hgo : GOk X.K X.w g ea is dts) (hin : ∀ i ∈ is, i ∈ own.map (·.2)) (hlt : ∀ i ∈ is, i < R.length)
    (hg1 : ∀ (s : Shared) (H : Hp) (Cc : Addr) (cl : List (Str × Addr)) (fp : List Addr), PG (X.blk s H scope (compEnvC scope cl Cc X.env) fp) tg1 g1)
    (hgo1 : GOk X.K X.w g1 eb is1 dts1) (hin1 : ∀ i ∈ is1, i ∈ vs1) (hlt1 : ∀ i ∈ is1, i < R.length)
    (ht : ∀ (a : α) (s : Shared) (H : Hp) (Cc : Addr) (cl : List (Str × Addr)) (fp : List Addr), SIf (X.blk s H scope (compEnvC scope cl Cc X.env) fp) C W0 H0 (setR (wipeR R (own.map (·.2))) is (dts a)) ifs (mt a))
    (hi1 : ∀ (a : α) (s : Shared) (H : Hp) (Cc : Addr) (cl : List (Str × Addr)) (fp : List Addr), SI (X.blk s H scope (compEnvC scope cl Cc X.env) fp) C W0 H0 (setR (wipeR R (own.map (·.2))) is (dts a)) Firms tg1 iter1 eb (mi1 a))
    (ht1 : ∀ (a : α) (b : β) (s : Shared) (H : Hp) (Cc : Addr) (cl : List (Str × Addr)) (fp : List Addr), SIf (X.blk s H scope (compEnvC scope cl Cc X.env) fp) C W0 H0 (setR (wipeR (setR (wipeR R (own.map (·.2))) is (dts a)) vs1) is1 (dts1 b)) ifs1 (mt1 a b))
    (he : ∀ (a : α) (b : β) (s : Shared) (H : Hp) (Cc : Addr) (cl : List (Str × Addr)) (fp : List Addr), SE (X.blk s H scope (compEnvC scope cl Cc X.env) fp) C W0 H0 (setR (wipeR (setR (wipeR R (own.map (·.2))) is (dts a)) vs1) is1 (dts1 b)) elt ec (me a b))
    (hs : ∀ x, foldedSetIterable iter X.env x = pure x := by intro _; rfl) (hs1 : ∀ env x, foldedSetIterable iter1 env x = pure x := by intro _ _; rfl) :
    SO X C W H0 R (.ListComp elt [⟨tg, iter, ifs, 0⟩, ⟨tg1, iter1, ifs1, 0⟩] scope pos) (eLst ec) (mi >>= fun xs => fromO (capG xs) >>= compL2 mt mi1 mt1 me) :=
  .weak (pe_lc2 hc hN hi.run ok hv hg (tt := fun σ H Q => ∃ a, tT C W0 H0 (setR (wipeR R (own.map (·.2))) is (dts a)) (mt a) σ H Q)
      (fun s H Cc cl fp => ⟨fun pins s' σ H' Q I ⟨a, h⟩ => (ht a s H Cc cl fp).run.run pins s' σ H' Q I h⟩)
      (wi1 := fun σ H Q => ∃ a, tI C W0 H0 (setR (wipeR R (own.map (·.2))) is (dts a)) Firms eb (mi1 a) σ H Q)
      (fun s H Cc cl fp => ⟨fun pins s' σ H' Q I ⟨a, h⟩ => (hi1 a s H Cc cl fp).run.run pins s' σ H' Q I h⟩) hg1
      (tt1 := fun σ H Q => ∃ a b, tT C W0 H0 (setR (wipeR (setR (wipeR R (own.map (·.2))) is (dts a)) vs1) is1 (dts1 b)) (mt1 a b) σ H Q)
      (fun s H Cc cl fp => ⟨fun pins s' σ H' Q I ⟨a, b, h⟩ => (ht1 a b s H Cc cl fp).run.run pins s' σ H' Q I h⟩)
      (te := fun σ H Q => ∃ a b, tR C W0 H0 (setR (wipeR (setR (wipeR R (own.map (·.2))) is (dts a)) vs1) is1 (dts1 b)) (kF X.K X.w C.mt) ec (me a b) σ H Q)
      (fun s H Cc cl fp => ⟨fun pins s' σ H' Q I ⟨a, b, h⟩ => (he a b s H Cc cl fp).run.run pins s' σ H' Q I h⟩) hs hs1)
    fun σ H Q q => tLc2_ok hgo hin hlt hgo1 hin1 hlt1 q
/-- y = [.. for .. for ..] -/
theorem sl_setLc2 [NoErr m] {ρ ε δ : Type} {er : ρ → PyData} {Rb : ε → Slots} {Rn : δ → Slots} {rest : List Stmt} {i : Nat} {y : Str} {py spos : Pos} {ml : m (List γ)} {k : List γ → m (Out ρ ε δ)} (hy : X.N[i]? = some y) (hyl : X.env.scope.names.lookup y = some .local) (hl : i < R.length)
    (hsw : swapsWith (.ListComp elt [⟨tg, iter, ifs, 0⟩, ⟨tg1, iter1, ifs1, 0⟩] scope pos) (some (.Name y py)) spos.line X.env = pure true)
    (hc : X.calm = true) (hN : X.N.Nodup) (hi : SI X C W H0 R (Ext C.mt) tg iter ea mi) (ok : BlkOk X.N X.env.scope scope own) (hv : ∀ i ∈ vs1, i ∈ own.map (·.2))
    (hg : ∀ (s : Shared) (H : Hp) (Cc : Addr) (cl : List (Str × Addr)) (fp : List Addr), PG (X.blk s H scope (compEnvC scope cl Cc X.env) fp) tg g)
    (hgo : GOk X.K X.w g ea is dts) (hin : ∀ i ∈ is, i ∈ own.map (·.2)) (hlt : ∀ i ∈ is, i < R.length)
    (hg1 : ∀ (s : Shared) (H : Hp) (Cc : Addr) (cl : List (Str × Addr)) (fp : List Addr), PG (X.blk s H scope (compEnvC scope cl Cc X.env) fp) tg1 g1)
    (hgo1 : GOk X.K X.w g1 eb is1 dts1) (hin1 : ∀ i ∈ is1, i ∈ vs1) (hlt1 : ∀ i ∈ is1, i < R.length)
    (ht : ∀ (a : α) (s : Shared) (H : Hp) (Cc : Addr) (cl : List (Str × Addr)) (fp : List Addr), SIf (X.blk s H scope (compEnvC scope cl Cc X.env) fp) C W0 H0 (setR (wipeR R (own.map (·.2))) is (dts a)) ifs (mt a))
    (hi1 : ∀ (a : α) (s : Shared) (H : Hp) (Cc : Addr) (cl : List (Str × Addr)) (fp : List Addr), SI (X.blk s H scope (compEnvC scope cl Cc X.env) fp) C W0 H0 (setR (wipeR R (own.map (·.2))) is (dts a)) Firms tg1 iter1 eb (mi1 a))
    (ht1 : ∀ (a : α) (b : β) (s : Shared) (H : Hp) (Cc : Addr) (cl : List (Str × Addr)) (fp : List Addr), SIf (X.blk s H scope (compEnvC scope cl Cc X.env) fp) C W0 H0 (setR (wipeR (setR (wipeR R (own.map (·.2))) is (dts a)) vs1) is1 (dts1 b)) ifs1 (mt1 a b))
    (he : ∀ (a : α) (b : β) (s : Shared) (H : Hp) (Cc : Addr) (cl : List (Str × Addr)) (fp : List Addr), SE (X.blk s H scope (compEnvC scope cl Cc X.env) fp) C W0 H0 (setR (wipeR (setR (wipeR R (own.map (·.2))) is (dts a)) vs1) is1 (dts1 b)) elt ec (me a b))
    (q : ml = mi >>= fun xs => fromO (capG xs) >>= compL2 mt mi1 mt1 me) (hr : ∀ a : List γ, SL X C W H0 (R.set i (some (.own (a.map ec)))) rest er Rb Rn (k a))
    (hs : ∀ x, foldedSetIterable iter X.env x = pure x := by intro _; rfl) (hs1 : ∀ env x, foldedSetIterable iter1 env x = pure x := by intro _ _; rfl) :
    SL X C W H0 R (.Assign [.Name y py] (.ListComp elt [⟨tg, iter, ifs, 0⟩, ⟨tg1, iter1, ifs1, 0⟩] scope pos) spos :: rest) er Rb Rn (ml >>= k) := by
  subst q
  refine ⟨(pss_cons (ps_setLc2 hc hN hy hyl hsw hi.run ok hv hg (tt := fun σ H Q => ∃ a, tT C W0 H0 (setR (wipeR R (own.map (·.2))) is (dts a)) (mt a) σ H Q)
      (fun s H Cc cl fp => ⟨fun pins s' σ H' Q I ⟨a, h⟩ => (ht a s H Cc cl fp).run.run pins s' σ H' Q I h⟩)
      (wi1 := fun σ H Q => ∃ a, tI C W0 H0 (setR (wipeR R (own.map (·.2))) is (dts a)) Firms eb (mi1 a) σ H Q)
      (fun s H Cc cl fp => ⟨fun pins s' σ H' Q I ⟨a, h⟩ => (hi1 a s H Cc cl fp).run.run pins s' σ H' Q I h⟩) hg1
      (tt1 := fun σ H Q => ∃ a b, tT C W0 H0 (setR (wipeR (setR (wipeR R (own.map (·.2))) is (dts a)) vs1) is1 (dts1 b)) (mt1 a b) σ H Q)
      (fun s H Cc cl fp => ⟨fun pins s' σ H' Q I ⟨a, b, h⟩ => (ht1 a b s H Cc cl fp).run.run pins s' σ H' Q I h⟩)
      (te := fun σ H Q => ∃ a b, tR C W0 H0 (setR (wipeR (setR (wipeR R (own.map (·.2))) is (dts a)) vs1) is1 (dts1 b)) (kF X.K X.w C.mt) ec (me a b) σ H Q)
      (fun s H Cc cl fp => ⟨fun pins s' σ H' Q I ⟨a, b, h⟩ => (he a b s H Cc cl fp).run.run pins s' σ H' Q I h⟩) hs hs1)
      (u := fun D σ H => ∃ a : List γ, tS C W H0 (R.set i (some (.own (a.map ec)))) er Rb Rn (k a) D σ H) ⟨fun pins s σ H D I ⟨a, q⟩ => (hr a).run.run pins s σ H D I q⟩).weak fun D σ H q => ?_⟩
  obtain ⟨s0, c0, q0⟩ := id q
  refine (show tLc2 _ _ _ _ _ _ _ _ _ σ H (fun v H1 => ∃ a : List γ, tS C W H0 (R.set i (some (.own (a.map ec)))) er Rb Rn (k a) D (σ.set i (some v)) H1) from tLc2_ok hgo hin hlt hgo1 hin1 hlt1 (tS_bind (k := kO X.K X.w C.mt) (ea := eLst ec) q fun a v H' kv e nb hh => ?_))
  obtain ⟨b, vs, ds, h1, h2, h3, h4, h5⟩ := kv
  obtain ⟨s, c, q⟩ := hh
  refine ⟨a, s, ?_, q⟩
  subst h1
  have h2 : PyData.list (a.map ec) = .list ds := h2
  injection h2 with h2
  subst h2
  have nm : ¬ C.mt b := fun z => by
    obtain ⟨o, ho, _⟩ := C.there _ _ _ c0.rel z
    rw [h5] at ho; cases ho
  have h0 : H0 b = none := by
    cases z : H0 b with
    | none => rfl
    | some o => rw [c0.base b o z (.inl nm)] at h5; cases h5
  refine c.setO hl h3 h4 h0 nm fun j y hy oy z => ?_
  obtain ⟨v, e1, ok⟩ := c0.slot j y hy
  have : v = V.ref b := by rw [e1] at z; injection z with z; injection z
  subst this
  cases y with
  | own es =>
    obtain ⟨b', us, k1, k2, _⟩ := ok
    cases k1
    rw [h5] at k2
    cases k2
  | ownD es =>
    obtain ⟨b', us, k1, k2, _⟩ := ok
    cases k1
    rw [h5] at k2
    cases k2
  | frz _ => exact oy
  | adr _ => exact oy
  | scr _ => exact oy
end
end TT

namespace TT
open PyM (fromO)
open PySem PySem.Spec PyProof.Rows L2
open PySem.W (alike alikeAll dataLt)
/-! ### min(a, b), max(a, b) of things in order -/
section
variable {prog : Program} {w : World} {A : Around} {E : Value → Shared → Prop} {s : Shared}
theorem min_two_data {a b : Value} {x y : PyData} {as bs : List Addr} {Q : Value → Shared → Prop} (hh : A.handled = none) (ra : Reads s.heap a x as) (rb : Reads s.heap b y bs) (ha : PySem.W.AlikeAll [x, y]) (hu : A.units + 1 + PyData.depthAll [x, y] < cLine)
    (h : ∀ h' tk, (∀ b o, s.heap.get? b = some o → h'.get? b = some o) → Q (if dataLt y x = true then b else a) { s with heap := h', toks := tk }) : wpAny (model prog w) A (call (.builtin "min") [a, b]) Q E s := by
  have nm : (toString "min" ++ toString ".loop" : String) = "min.loop" := by decide
  refine PySem.call_function_tree F.kind_min F.plain_min F.entry_min (F.args_min2 _ _) ?_
  show wpAny _ A.in1 (Builtin.Builtins.bindParams "min" ["key", "default"] 0 ⟨[], []⟩ >>= _) _ _ s
  refine wpAny_bind (wpAny_of_eq (show Builtin.Builtins.bindParams "min" ["key", "default"] 0 (⟨[], []⟩ : Args) = pure [none, none] from rfl) ?_)
  show wpAny _ A.in1 (newTuple [a, b] >>= _) _ _ s
  refine wpAny_bind (wpAny_newObj_type ?_)
  have gt : (s.heap.push { cls := .type "tuple", data := .seq #[a, b] }).IsTuple s.heap.objs.size #[a, b] := ⟨_, Heap.get?_push_size _ rfl, rfl, 0, rfl⟩
  have k0 : ∀ b' o, s.heap.get? b' = some o → (s.heap.push { cls := .type "tuple", data := .seq #[a, b] }).get? b' = some o := fun b' o e => Heap.get?_push_of_some _ e
  have hr : ReadsAll (s.heap.push { cls := .type "tuple", data := .seq #[a, b] }) #[a, b].toList [x, y] (as ++ (bs ++ [])) := .cons (PyProof.Rows.Reads.keeps k0 ra) (.cons (PyProof.Rows.Reads.keeps k0 rb) .nil)
  refine wpAny_bind (PySem.W.iter_tupleW (s := { s with heap := s.heap.push { cls := .type "tuple", data := .seq #[a, b] } }) (A := A.in1) hh gt fun s2 e W st hfp hw hk => ?_)
  refine wpAny_bind (wpAny_newObj_type ?_)
  rw [nm]
  refine wpAny_pure ⟨plainId_quiet F.plain_min_loop _, PySem.codeAny_min_loop_firstH W _ hw _ (PySem.W.cmpIn_lt (s := { s with heap := s.heap.push { cls := .type "tuple", data := .seq #[a, b] } }) (A := A.in1) hr ha (by show A.units + 1 + _ < _; exact hu)) s2.heap.objs.size (fun hm => Nat.lt_irrefl _ (hfp _ hm)) (PySem.fresh_in hk) _ (show 0 < 2 by decide) (fun b o e => Heap.get?_push_of_some _ (hk b o e)) (W.frame 0 s2 _ s2.toks st (Nat.le_refl _) fun b _ o e => Heap.get?_push_of_some _ e) (Heap.get?_push_size _ rfl) fun v s' hP m => ?_⟩
  obtain ⟨h', tk, rfl, hk'⟩ := PySem.W.moved_old e rfl (Moved.drop_new (tk := s2.toks) m (Nat.le_refl _))
  have e2 : v = if dataLt y x = true then b else a := by
    have hP : (#[a, b] : Array Value)[argBest (fun i j => dataLt ([x, y].getD i .none) ([x, y].getD j .none)) 1]? = some v := hP
    have : argBest (fun i j => dataLt ([x, y].getD i .none) ([x, y].getD j .none)) 1 = if dataLt y x = true then 1 else 0 := rfl
    rw [this] at hP
    split at hP
    · rename_i c
      rw [if_pos c]
      exact (Option.some.inj hP).symm
    · rename_i c
      rw [if_neg c]
      exact (Option.some.inj hP).symm
  rw [e2]
  exact h h' tk fun b o e => hk' b o (k0 b o e)
theorem max_two_data {a b : Value} {x y : PyData} {as bs : List Addr} {Q : Value → Shared → Prop} (hh : A.handled = none) (ra : Reads s.heap a x as) (rb : Reads s.heap b y bs) (ha : PySem.W.AlikeAll [x, y]) (hu : A.units + 1 + PyData.depthAll [x, y] < cLine)
    (h : ∀ h' tk, (∀ b o, s.heap.get? b = some o → h'.get? b = some o) → Q (if dataLt x y = true then b else a) { s with heap := h', toks := tk }) : wpAny (model prog w) A (call (.builtin "max") [a, b]) Q E s := by
  have nm : (toString "max" ++ toString ".loop" : String) = "max.loop" := by decide
  refine PySem.call_function_tree F.kind_max F.plain_max F.entry_max (F.args_max2 _ _) ?_
  show wpAny _ A.in1 (Builtin.Builtins.bindParams "max" ["key", "default"] 0 ⟨[], []⟩ >>= _) _ _ s
  refine wpAny_bind (wpAny_of_eq (show Builtin.Builtins.bindParams "max" ["key", "default"] 0 (⟨[], []⟩ : Args) = pure [none, none] from rfl) ?_)
  show wpAny _ A.in1 (newTuple [a, b] >>= _) _ _ s
  refine wpAny_bind (wpAny_newObj_type ?_)
  have gt : (s.heap.push { cls := .type "tuple", data := .seq #[a, b] }).IsTuple s.heap.objs.size #[a, b] := ⟨_, Heap.get?_push_size _ rfl, rfl, 0, rfl⟩
  have k0 : ∀ b' o, s.heap.get? b' = some o → (s.heap.push { cls := .type "tuple", data := .seq #[a, b] }).get? b' = some o := fun b' o e => Heap.get?_push_of_some _ e
  have hr : ReadsAll (s.heap.push { cls := .type "tuple", data := .seq #[a, b] }) #[a, b].toList [x, y] (as ++ (bs ++ [])) := .cons (PyProof.Rows.Reads.keeps k0 ra) (.cons (PyProof.Rows.Reads.keeps k0 rb) .nil)
  refine wpAny_bind (PySem.W.iter_tupleW (s := { s with heap := s.heap.push { cls := .type "tuple", data := .seq #[a, b] } }) (A := A.in1) hh gt fun s2 e W st hfp hw hk => ?_)
  refine wpAny_bind (wpAny_newObj_type ?_)
  rw [nm]
  refine wpAny_pure ⟨plainId_quiet F.plain_max_loop _, PySem.codeAny_max_loop_firstH W _ hw _ (PySem.W.cmpIn_gt (s := { s with heap := s.heap.push { cls := .type "tuple", data := .seq #[a, b] } }) (A := A.in1) hr ha (by show A.units + 1 + _ < _; exact hu)) s2.heap.objs.size (fun hm => Nat.lt_irrefl _ (hfp _ hm)) (PySem.fresh_in hk) _ (show 0 < 2 by decide) (fun b o e => Heap.get?_push_of_some _ (hk b o e)) (W.frame 0 s2 _ s2.toks st (Nat.le_refl _) fun b _ o e => Heap.get?_push_of_some _ e) (Heap.get?_push_size _ rfl) fun v s' hP m => ?_⟩
  obtain ⟨h', tk, rfl, hk'⟩ := PySem.W.moved_old e rfl (Moved.drop_new (tk := s2.toks) m (Nat.le_refl _))
  have e2 : v = if dataLt x y = true then b else a := by
    have hP : (#[a, b] : Array Value)[argBest (fun i j => dataLt ([x, y].getD j .none) ([x, y].getD i .none)) 1]? = some v := hP
    have : argBest (fun i j => dataLt ([x, y].getD j .none) ([x, y].getD i .none)) 1 = if dataLt x y = true then 1 else 0 := rfl
    rw [this] at hP
    split at hP
    · rename_i c
      rw [if_pos c]
      exact (Option.some.inj hP).symm
    · rename_i c
      rw [if_neg c]
      exact (Option.some.inj hP).symm
  rw [e2]
  exact h h' tk fun b o e => hk' b o (k0 b o e)
end
/-- the lesser, the greater of two -/
def min2 {α : Type} (e : α → PyData) (a b : α) : α := if ltD e b a = true then b else a
def max2 {α : Type} (e : α → PyData) (a b : α) : α := if ltD e a b = true then b else a
section
variable {X : Cx} {mt : Addr → Prop} {α : Type} {e : α → PyData} {n : Nat}
theorem alike_two (h : Odr n e) (i j : α) : PySem.W.AlikeAll [e i, e j] := by
  have := alike_all h [i, j]
  exact this
theorem depth_two (h : Odr n e) (i j : α) : PyData.depthAll [e i, e j] ≤ n := depthAll_le h.depth [i, j]
theorem call_min2D (h : Odr n e) (hn : n ≤ 60) (hc : X.calm = true) (hu : X.A.units + 64 < cLine) : CallR X (.builtin "min") (fun vs H Q => ∃ v u i j, vs = [v, u] ∧ Rep X.K X.w H v (e i) ∧ Rep X.K X.w H u (e j) ∧ ∀ r, Rep X.K X.w H r (e (min2 e i j)) → Q r H) := by
  rintro pins s σ H vs us Q I r ⟨v, u, i, j, rfl, k1, k2, q⟩
  obtain ⟨x, y, rfl, r1, r2⟩ := vals2 r
  obtain ⟨as, ra⟩ := Inv.reads I k1 r1
  obtain ⟨bs, rb⟩ := Inv.reads I k2 r2
  have := depth_two h i j
  refine min_two_data (I.ok.hd hc) ra rb (alike_two h i j) (by omega) fun h' tk k => ?_
  have q := q (if dataLt (e j) (e i) = true then u else v) (by
    unfold min2 ltD
    split
    · exact k2
    · exact k1)
  refine ⟨_, H, I.kept k, ?_, q⟩
  split
  · exact r2
  · exact r1
theorem call_max2D (h : Odr n e) (hn : n ≤ 60) (hc : X.calm = true) (hu : X.A.units + 64 < cLine) : CallR X (.builtin "max") (fun vs H Q => ∃ v u i j, vs = [v, u] ∧ Rep X.K X.w H v (e i) ∧ Rep X.K X.w H u (e j) ∧ ∀ r, Rep X.K X.w H r (e (max2 e i j)) → Q r H) := by
  rintro pins s σ H vs us Q I r ⟨v, u, i, j, rfl, k1, k2, q⟩
  obtain ⟨x, y, rfl, r1, r2⟩ := vals2 r
  obtain ⟨as, ra⟩ := Inv.reads I k1 r1
  obtain ⟨bs, rb⟩ := Inv.reads I k2 r2
  have := depth_two h i j
  refine max_two_data (I.ok.hd hc) ra rb (alike_two h i j) (by omega) fun h' tk k => ?_
  have q := q (if dataLt (e i) (e j) = true then u else v) (by
    unfold max2 ltD
    split
    · exact k2
    · exact k1)
  refine ⟨_, H, I.kept k, ?_, q⟩
  split
  · exact r2
  · exact r1
end
/-! ### order of any data -/
def hasNon : PyData → Bool
  | .none => true
  | _ => false
theorem ne_non {d : PyData} (h : hasNon d = false) : d ≠ .none := fun e => by rw [e] at h; cases h
def ltAG (d e : PyData) : Option Bool := if alike d e = true ∧ hasNon d = false ∧ hasNon e = false ∧ d.depth ≤ 50 ∧ e.depth ≤ 50 then some (dataLt d e) else none
def rLtA (mt : Addr → Prop) (X : Cx) (f : PyData → PyData → Option Bool) : R2 := fun x y H Q => ∃ i j b, kB X.K X.w mt H H x i ∧ kB X.K X.w mt H H y j ∧ f i j = some b ∧ Q (.bl b) H
theorem ltAG_some {d e : PyData} {b : Bool} (h : ltAG d e = some b) : alike d e = true ∧ d ≠ .none ∧ e ≠ .none ∧ d.depth ≤ 50 ∧ e.depth ≤ 50 ∧ b = dataLt d e := by
  unfold ltAG at h
  split at h
  · rename_i g
    cases h
    exact ⟨g.1, ne_non g.2.1, ne_non g.2.2.1, g.2.2.2.1, g.2.2.2.2, rfl⟩
  · cases h
section
variable {X : Cx} {mt : Addr → Prop}
theorem op_ltA (hu : X.A.units + 64 < cLine) : OpR X (compareOp .Lt) (rLtA mt X ltAG) := by
  intro pins s σ H x y v u Q I rx ry ⟨i, j, b, k1, k2, g, q⟩
  obtain ⟨as, ra⟩ := Inv.readsB I k1 rx
  obtain ⟨bs, rb⟩ := Inv.readsB I k2 ry
  obtain ⟨g1, g2, g3, g4, g5, rfl⟩ := ltAG_some g
  exact PySem.W.lt_data ra rb g1 g2 (by omega) (fin_bl I q rfl)
theorem op_gtA (hu : X.A.units + 64 < cLine) : OpR X (compareOp .Gt) (rLtA mt X fun i j => if alike i j = true then ltAG j i else none) := by
  intro pins s σ H x y v u Q I rx ry ⟨i, j, b, k1, k2, g, q⟩
  obtain ⟨as, ra⟩ := Inv.readsB I k1 rx
  obtain ⟨bs, rb⟩ := Inv.readsB I k2 ry
  have g : (if alike i j = true then ltAG j i else none) = some b := g
  split at g
  · rename_i al
    obtain ⟨g1, g2, g3, g4, g5, rfl⟩ := ltAG_some g
    exact PySem.W.gt_data ra rb al g3 (by omega) (fin_bl I q rfl)
  · cases g
theorem op_leA (hu : X.A.units + 64 < cLine) : OpR X (compareOp .LtE) (rLtA mt X fun i j => if alike i j = true then (ltAG j i).map not else none) := by
  intro pins s σ H x y v u Q I rx ry ⟨i, j, b, k1, k2, g, q⟩
  obtain ⟨as, ra⟩ := Inv.readsB I k1 rx
  obtain ⟨bs, rb⟩ := Inv.readsB I k2 ry
  have g : (if alike i j = true then (ltAG j i).map not else none) = some b := g
  split at g
  · rename_i al
    obtain ⟨b', g', rfl⟩ := Option.map_eq_some_iff.mp g
    obtain ⟨g1, g2, g3, g4, g5, rfl⟩ := ltAG_some g'
    exact PySem.W.le_data ra rb al g3 (by omega) (fin_bl I q rfl)
  · cases g
theorem op_geA (hu : X.A.units + 64 < cLine) : OpR X (compareOp .GtE) (rLtA mt X fun i j => (ltAG i j).map not) := by
  intro pins s σ H x y v u Q I rx ry ⟨i, j, b, k1, k2, g, q⟩
  obtain ⟨as, ra⟩ := Inv.readsB I k1 rx
  obtain ⟨bs, rb⟩ := Inv.readsB I k2 ry
  obtain ⟨b', g', rfl⟩ := Option.map_eq_some_iff.mp g
  obtain ⟨g1, g2, g3, g4, g5, rfl⟩ := ltAG_some g'
  exact PySem.W.ge_data ra rb g1 g2 (by omega) (fin_bl I q rfl)
end
section
variable {X : Cx} {m : Type → Type} [Monad m] [PyM m] {C : Wd X.K X.w m} {W : WX} {H0 : Hp} {R : Slots} {k : Kd} {α β γ : Type} {ea : α → PyData} {a b : Expr} {ma mb : m α} {md me : m PyData} {pos p : Pos} {n : Nat}
theorem se_minD2 (h : Odr n ea) (hn : n ≤ 60) (hc : X.calm = true) (hu : X.A.units + 64 < cLine) (hg : Gl X "min") (hm : X.mg "min" = none) (ha : SE X C W H0 R a ea ma) (hb : SE X C W H0 R b ea mb)
    (hs : starEach (a :: [b]) X.env = (false, eval a X.env) :: starEach [b] X.env := by rfl) (hs2 : starEach (b :: []) X.env = (false, eval b X.env) :: starEach [] X.env := by rfl) (hpl : (backTo pos (starEach [b] X.env)).any (·.1) = false := by rfl) : SE X C W H0 R (.Call (.Name "min" p) [a, b] [] pos) ea (ma >>= fun i => mb >>= fun j => pure (min2 ea i j)) :=
  .weak (pe_callB (call_min2D h hn hc hu) hg hm (by decide +kernel) (pa_cons ha.run (pa_cons hb.run pa_nil hs2) hs) (by decide) (by decide) hs hpl) fun σ H Q q =>
    tR_imp (tR_bind (k := kF X.K X.w C.mt) (ea := ea) kF_ok q) fun v H1 ⟨i, e1, k1, q1⟩ => tR_imp (tR_bind (k := kF X.K X.w C.mt) (ea := ea) kF_ok q1) fun u H2 ⟨j, e2, k2, q2⟩ => ⟨v, u, i, j, rfl, Rep.firm e2.firms k1, k2, fun r rr => (tR_pure q2).2 _ H2 (.refl H2) rr⟩
theorem se_maxD2 (h : Odr n ea) (hn : n ≤ 60) (hc : X.calm = true) (hu : X.A.units + 64 < cLine) (hg : Gl X "max") (hm : X.mg "max" = none) (ha : SE X C W H0 R a ea ma) (hb : SE X C W H0 R b ea mb)
    (hs : starEach (a :: [b]) X.env = (false, eval a X.env) :: starEach [b] X.env := by rfl) (hs2 : starEach (b :: []) X.env = (false, eval b X.env) :: starEach [] X.env := by rfl) (hpl : (backTo pos (starEach [b] X.env)).any (·.1) = false := by rfl) : SE X C W H0 R (.Call (.Name "max" p) [a, b] [] pos) ea (ma >>= fun i => mb >>= fun j => pure (max2 ea i j)) :=
  .weak (pe_callB (call_max2D h hn hc hu) hg hm (by decide +kernel) (pa_cons ha.run (pa_cons hb.run pa_nil hs2) hs) (by decide) (by decide) hs hpl) fun σ H Q q =>
    tR_imp (tR_bind (k := kF X.K X.w C.mt) (ea := ea) kF_ok q) fun v H1 ⟨i, e1, k1, q1⟩ => tR_imp (tR_bind (k := kF X.K X.w C.mt) (ea := ea) kF_ok q1) fun u H2 ⟨j, e2, k2, q2⟩ => ⟨v, u, i, j, rfl, Rep.firm e2.firms k1, k2, fun r rr => (tR_pure q2).2 _ H2 (.refl H2) rr⟩
theorem scA {op : CmpOp} {f : PyData → PyData → Option Bool} (ho : OpR X (compareOp op) (rLtA C.mt X f)) (ha : SB X C W H0 R a eAny md) (hb : SB X C W H0 R b eAny me) : SC X C W H0 R op a b (md >>= fun i => me >>= fun j => fromO (f i j)) :=
  sc_cmp ho ha hb fun x y σ H Q i j k1 k2 q => by
    obtain ⟨c, e, _, q⟩ := tR_done q
    exact ⟨i, j, c, k1, k2, e, q _ H (.refl H) (.bl _)⟩
def gtAG (i j : PyData) : Option Bool := if alike i j = true then ltAG j i else none
def leAG (i j : PyData) : Option Bool := if alike i j = true then (ltAG j i).map not else none
def geAG (i j : PyData) : Option Bool := (ltAG i j).map not
theorem sc_ltA (hu : X.A.units + 64 < cLine) (ha : SB X C W H0 R a eAny md) (hb : SB X C W H0 R b eAny me) : SC X C W H0 R .Lt a b (md >>= fun i => me >>= fun j => fromO (ltAG i j)) := scA (op_ltA hu) ha hb
theorem sc_gtA (hu : X.A.units + 64 < cLine) (ha : SB X C W H0 R a eAny md) (hb : SB X C W H0 R b eAny me) : SC X C W H0 R .Gt a b (md >>= fun i => me >>= fun j => fromO (gtAG i j)) := scA (op_gtA hu) ha hb
theorem sc_leA (hu : X.A.units + 64 < cLine) (ha : SB X C W H0 R a eAny md) (hb : SB X C W H0 R b eAny me) : SC X C W H0 R .LtE a b (md >>= fun i => me >>= fun j => fromO (leAG i j)) := scA (op_leA hu) ha hb
theorem sc_geA (hu : X.A.units + 64 < cLine) (ha : SB X C W H0 R a eAny md) (hb : SB X C W H0 R b eAny me) : SC X C W H0 R .GtE a b (md >>= fun i => me >>= fun j => fromO (geAG i j)) := scA (op_geA hu) ha hb
end
end TT

namespace TT
open PyM (fromO)
open PySem PySem.Spec PyProof.Rows L2
/-! ### a < b < c of numbers -/
section
variable {X : Cx} {m : Type → Type} [Monad m] [PyM m] {C : Wd X.K X.w m} {W : WX} {H0 : Hp} {R : Slots} {a b c : Expr} {mi mj mk : m Int} {pos : Pos} {op op' : CmpOp} {f f' : Int → Int → Bool}
structure OpI (X : Cx) (op : CmpOp) (f : Int → Int → Bool) : Prop where
  run : OpR X (compareOp op) (rI0 fun i j => .bl (f i j))
theorem oi_lt : OpI X .Lt (fun i j => decide (i < j)) := ⟨op_lt⟩
theorem oi_le : OpI X .LtE (fun i j => decide (i ≤ j)) := ⟨op_le⟩
theorem oi_gt : OpI X .Gt (fun i j => decide (j < i)) := ⟨op_gt⟩
theorem oi_ge : OpI X .GtE (fun i j => decide (j ≤ i)) := ⟨op_ge⟩
theorem tR_chain {σ : L2.St} {H : Hp} {Q : VK} (h : tR C W H0 R (kF X.K X.w C.mt) eBool (mi >>= fun i => mj >>= fun j => if f i j = true then mk >>= fun k => pure (f' j k) else pure false) σ H Q) :
    tChain (rI0 fun i j => .bl (f i j)) (rI0 fun i j => .bl (f' i j)) (tR C W H0 R (kB X.K X.w C.mt) eInt mi) (tR C W H0 R (kB X.K X.w C.mt) eInt mj) (tR C W H0 R (kB X.K X.w C.mt) eInt mk) σ H Q :=
  tR_imp (tR_bind (k := kB X.K X.w C.mt) (ea := eInt) kF_ok h) fun x H1 ⟨i, e1, k1, h1⟩ => tR_imp (tR_bind (k := kB X.K X.w C.mt) (ea := eInt) kF_ok h1) fun y H2 ⟨j, e2, k2, h2⟩ => by
    refine ⟨i, j, by rw [kB_int k1], kB_int k2, f i j, rfl, ?_⟩
    split at h2
    · rename_i g
      rw [if_pos g]
      exact tR_imp (tR_bind (k := kB X.K X.w C.mt) (ea := eInt) kF_ok h2) fun z H3 ⟨k, e3, k3, h3⟩ => ⟨j, k, kB_int k2, kB_int k3, (tR_pure h3).2 _ H3 (.refl H3) (.bl _)⟩
    · rename_i g
      rw [if_neg g]
      exact (tR_pure h2).2 _ H2 (.refl H2) (.bl false)
theorem se_chain (ho : OpI X op f) (ho' : OpI X op' f') (ha : SB X C W H0 R a eInt mi) (hb : SB X C W H0 R b eInt mj) (hc : SB X C W H0 R c eInt mk) (hm : lastMarks [op, op'] [b, c] = false := by with_unfolding_all rfl) :
    SE X C W H0 R (.Compare a [op, op'] [b, c] pos) eBool (mi >>= fun i => mj >>= fun j => if f i j = true then mk >>= fun k => pure (f' j k) else pure false) :=
  .weak (pe_chain ho.run ho'.run ha.run hb.run hc.run hm) fun σ H Q q => tR_chain q
theorem st_chain (ho : OpI X op f) (ho' : OpI X op' f') (ha : SB X C W H0 R a eInt mi) (hb : SB X C W H0 R b eInt mj) (hc : SB X C W H0 R c eInt mk) (hm : lastMarks [op, op'] [b, c] = false := by with_unfolding_all rfl) :
    ST X C W H0 R (.Compare a [op, op'] [b, c] pos) (mi >>= fun i => mj >>= fun j => if f i j = true then mk >>= fun k => pure (f' j k) else pure false) :=
  ⟨(pt_chain ho.run ho'.run ha.run hb.run hc.run hm).weak fun σ H Q q => tR_chain (tT_of q)⟩
end
/-! ### lists of what is there -/
def allSome {α : Type} : List (Option α) → Option (List α)
  | [] => some []
  | none :: _ => none
  | some a :: xs => (allSome xs).map (a :: ·)
section
variable {α : Type} {ea : α → PyData}
theorem allSome_map : ∀ (xs : List (Option α)) (ys : List α), allSome xs = some ys → ys.map ea = xs.map (eOpt ea)
  | [], ys, h => by cases h; rfl
  | none :: xs, ys, h => by cases h
  | some a :: xs, ys, h => by
    obtain ⟨zs, h1, rfl⟩ := Option.map_eq_some_iff.mp h
    rw [List.map_cons, List.map_cons, allSome_map xs zs h1]
    rfl
theorem allSomeL_ok (xs : List (Option α)) (ys : List α) (h : allSome xs = some ys) : eLst ea ys = eLst (eOpt ea) xs := by unfold eLst; rw [allSome_map xs ys h]
theorem allSomeT_ok (xs : List (Option α)) (ys : List α) (h : allSome xs = some ys) : eTup ea ys = eTup (eOpt ea) xs := by unfold eTup; rw [allSome_map xs ys h]
theorem eopt_inj : True := trivial
end
end TT

namespace TT
open PyM (fromO)
open PySem PySem.Spec PyProof.Rows L2
/-- x in xs, by the type's own equality -/
def memD {α : Type} [DecidableEq α] (x : α) (xs : List α) : Bool := decide (x ∈ xs)
theorem memD_iff {α : Type} [DecidableEq α] {x : α} {xs : List α} : memD x xs = true ↔ x ∈ xs := decide_eq_true_iff
theorem memD_false {α : Type} [DecidableEq α] {x : α} {xs : List α} : memD x xs = false ↔ x ∉ xs := decide_eq_false_iff_not
section
variable {X : Cx} {m : Type → Type} [Monad m] [PyM m] {C : Wd X.K X.w m} {W : WX} {H0 : Hp} {R : Slots} {α : Type} [DecidableEq α] {ea : α → PyData} {a b : Expr} {ma : m α} {mxs : m (List α)} {n : Nat}
theorem sc_inLD (h : EqOk n ea) (hn : n < 60) (hu : X.A.units + 64 < cLine) (ha : SB X C W H0 R a ea ma) (hb : SB X C W H0 R b (eLst ea) mxs) : SC X C W H0 R .In a b (ma >>= fun i => mxs >>= fun xs => pure (memD i xs)) := sc_inL h hn hu ha hb
theorem sc_inTD (h : EqOk n ea) (hn : n < 60) (hu : X.A.units + 64 < cLine) (ha : SB X C W H0 R a ea ma) (hb : SB X C W H0 R b (eTup ea) mxs) : SC X C W H0 R .In a b (ma >>= fun i => mxs >>= fun xs => pure (memD i xs)) := sc_inT h hn hu ha hb
theorem sc_niLD (h : EqOk n ea) (hn : n < 60) (hu : X.A.units + 64 < cLine) (ha : SB X C W H0 R a ea ma) (hb : SB X C W H0 R b (eLst ea) mxs) : SC X C W H0 R .NotIn a b (ma >>= fun i => mxs >>= fun xs => pure (!memD i xs)) := sc_niL h hn hu ha hb
theorem sc_niTD (h : EqOk n ea) (hn : n < 60) (hu : X.A.units + 64 < cLine) (ha : SB X C W H0 R a ea ma) (hb : SB X C W H0 R b (eTup ea) mxs) : SC X C W H0 R .NotIn a b (ma >>= fun i => mxs >>= fun xs => pure (!memD i xs)) := sc_niT h hn hu ha hb
end
end TT

namespace TT
open PyM (fromO)
open PySem PySem.Spec PyProof.Rows L2
/-- two dicts alike -/
def dEq {α β : Type} [DecidableEq α] [DecidableEq β] (x y : List (α × β)) : Bool := decide (x.length = y.length) && x.all fun p => decide (dGet y p.1 = some p.2)
section
variable {X : Cx} {α β : Type} [DecidableEq α] [DecidableEq β] {ea : α → PyData} {eb : β → PyData} {n : Nat}
theorem hits_of {pins : List (Addr × Obj)} {σ : L2.St} {H : Hp} {s : Shared} {A : Around} (I : Inv X pins σ H s) (h : KeyA ea) (hb : EqOk n eb) (hn : n < 60) (hu : A.units + 62 < cLine) {ys : List Trip} {xs : List (L2.Key × Value)} {kvs : List (α × β)} (pa : Paired PA ys xs) (dr : DRel X.K X.w H (fun a => keyN (h.k a)) ea eb ys kvs) :
    ∀ {ys' : List Trip} {xs' : List (L2.Key × Value)} {kvs' : List (α × β)}, Paired PA ys' xs' → DRel X.K X.w H (fun a => keyN (h.k a)) ea eb ys' kvs' → PySem.W.KeqHits A s xs xs' (kvs'.all fun p => decide (dGet kvs p.1 = some p.2))
  | [], [], [], .nil, .nil => .nil
  | y' :: ys', x' :: xs', p' :: kvs', .cons ⟨p1, p2⟩ pt, .cons ⟨d1, _, v', d2, d3⟩ dt => by
    have ih := hits_of I h hb hn hu pa dr pt dt
    obtain ⟨q, w'⟩ := x'
    simp only at p1 p2
    have eq : q = h.k p'.1 := keyN_inj (by rw [← p1, d1])
    subst eq
    have g := drel_get (ky := fun a => keyN (h.k a)) (fun a b e => h.inj _ _ (keyN_inj e)) p'.1 dr
    have at' := pa_at (h.k p'.1) pa
    rw [List.all_cons]
    cases e : dGet kvs p'.1 with
    | none =>
      rw [e] at g
      simp only at g
      rw [g] at at'
      rw [decide_eq_false (by simp), Bool.false_and]
      exact .miss at'.symm
    | some b =>
      rw [e] at g
      obtain ⟨u, v, g1, g2, g3⟩ := g
      rw [g1] at at'
      subst p2
      obtain ⟨as, ra⟩ := Inv.reads I d3 d2
      obtain ⟨bs, rb⟩ := Inv.reads I g3 g2
      have E := SeqAt.eqAt_plain _ _ A s _ _ as bs ra rb (hb.plain _) (hb.plain _) (by have := hb.depth p'.2; omega)
      rw [hb.eqv] at E
      have : decide (some b = some p'.2) = decide (p'.2 = b) := decide_eq_decide.mpr ⟨fun e => (Option.some.inj e).symm, fun e => by rw [e]⟩
      rw [this]
      exact .hit at'.symm E ih
def rDEq (X : Cx) (mt : Addr → Prop) (ea : α → PyData) (eb : β → PyData) (neg : Bool) : R2 := fun x y H Q => ∃ d e, kB X.K X.w mt H H x (eDct ea eb d) ∧ kB X.K X.w mt H H y (eDct ea eb e) ∧ Q (.bl (xor neg (dEq d e))) H
theorem op_dEq {mt : Addr → Prop} (h : KeyA ea) (hb : EqOk n eb) (hn : n < 60) (hu : X.A.units + 64 < cLine) : OpR X (compareOp .Eq) (rDEq X mt ea eb false) := by
  intro pins s σ H x y u v Q I rx ry ⟨d, e, k1, k2, q⟩
  obtain ⟨l, ys, rfl, rfl, hs, ⟨xs, of, pa⟩, dr, hz, ty, _⟩ := kB_dct (kitA (X := X) h) I k1 rx
  obtain ⟨l', ys', rfl, rfl, hs', ⟨xs', of', pa'⟩, dr', hz', ty', _⟩ := kB_dct (kitA (X := X) h) I k2 ry
  refine PySem.W.keq_eq hs hs' of of' (by omega) (fun _ => hits_of I h hb hn (by show X.A.in1.units + 62 < cLine; have : X.A.in1.units ≤ X.A.units + 1 := Nat.le_refl _; omega) pa' dr' pa dr) ⟨_, H, I, ?_, q⟩
  have l1 := (Paired.length pa).symm.trans (DRel.len dr)
  have l2 := (Paired.length pa').symm.trans (DRel.len dr')
  rw [Bool.false_xor, dEq, ← l1, ← l2]
  rfl
theorem op_dNe {mt : Addr → Prop} (h : KeyA ea) (hb : EqOk n eb) (hn : n < 60) (hu : X.A.units + 64 < cLine) : OpR X (compareOp .NotEq) (rDEq X mt ea eb true) := by
  intro pins s σ H x y u v Q I rx ry ⟨d, e, k1, k2, q⟩
  obtain ⟨l, ys, rfl, rfl, hs, ⟨xs, of, pa⟩, dr, hz, ty, _⟩ := kB_dct (kitA (X := X) h) I k1 rx
  obtain ⟨l', ys', rfl, rfl, hs', ⟨xs', of', pa'⟩, dr', hz', ty', _⟩ := kB_dct (kitA (X := X) h) I k2 ry
  refine PySem.W.keq_ne hs hs' of of' (by omega) (fun _ => hits_of I h hb hn (by show X.A.in1.units + 62 < cLine; have : X.A.in1.units ≤ X.A.units + 1 := Nat.le_refl _; omega) pa' dr' pa dr) ⟨_, H, I, ?_, q⟩
  have l1 := (Paired.length pa).symm.trans (DRel.len dr)
  have l2 := (Paired.length pa').symm.trans (DRel.len dr')
  rw [Bool.true_xor, dEq, ← l1, ← l2]
  rfl
end
section
variable {X : Cx} {m : Type → Type} [Monad m] [PyM m] {C : Wd X.K X.w m} {W : WX} {H0 : Hp} {R : Slots} {α β : Type} [DecidableEq α] [DecidableEq β] {ea : α → PyData} {eb : β → PyData} {n : Nat} {a b : Expr} {ma mb : m (List (α × β))}
theorem sc_dEq (h : KeyA ea) (he : EqOk n eb) (hn : n < 60) (hu : X.A.units + 64 < cLine) (ha : SB X C W H0 R a (eDct ea eb) ma) (hb : SB X C W H0 R b (eDct ea eb) mb) : SC X C W H0 R .Eq a b (ma >>= fun i => mb >>= fun j => pure (dEq i j)) :=
  sc_cmp (op_dEq (mt := C.mt) (eb := eb) h he hn hu) ha hb fun x y σ H Q i j k1 k2 q => ⟨i, j, k1, k2, by rw [Bool.false_xor]; exact (tR_pure q).2 _ H (.refl H) (.bl _)⟩
theorem sc_dNe (h : KeyA ea) (he : EqOk n eb) (hn : n < 60) (hu : X.A.units + 64 < cLine) (ha : SB X C W H0 R a (eDct ea eb) ma) (hb : SB X C W H0 R b (eDct ea eb) mb) : SC X C W H0 R .NotEq a b (ma >>= fun i => mb >>= fun j => pure (!dEq i j)) :=
  sc_cmp (op_dNe (mt := C.mt) (eb := eb) h he hn hu) ha hb fun x y σ H Q i j k1 k2 q => ⟨i, j, k1, k2, by rw [Bool.true_xor]; exact (tR_pure q).2 _ H (.refl H) (.bl _)⟩
end
end TT

namespace TT
open PyM (fromO)
open PySem PySem.Spec PyProof.Rows L2
/-! ### dict(d), d.update(e): keys that are numbers or texts -/
section
variable {P : Program} {w : World} {A : Around} {E : Value → Shared → Prop} {s : Shared} {K : Type} [DecidableEq K] {kk : KeyKind P w K}
theorem upd_from {R : Result → Shared → Prop} {who : String} {to src : Addr} {xs ys : List (K × Value)} (res : Value) (ne : to ≠ src) (sys : (src == sysModules) = false) (D1 : s.heap.DictOf kk to xs) (D2 : s.heap.DictOf kk src ys) (len : xs.length + ys.length ≤ sizeLine)
    (fin : ∀ g, g.DictOf kk to (merged xs ys) → g.DictOf kk src ys → Heap.SameBut to s.heap g → R (.ok (.ret res)) { s with heap := g }) :
    wpAny (model P w) A.in1 (Builtin.Dict.updateFrom who to (.ref src) [] res)
      (fun f t => match f with | .done r => R (.ok r) t | .again c => c.quiet = true ∧ codeAny (model P w) A c R t) (fun e t => R (.error e) t) s := by
  unfold Builtin.Dict.updateFrom
  refine wpAny_bind (wpAny_typeOf D2.typeIs ?_)
  rw [if_neg (show ¬ _ by decide)]
  refine wpAny_bind ?_
  unfold Builtin.Dict.merge
  refine wpAny_bind ?_
  unfold Builtin.Dict.readDirectly
  refine wpAny_bind (wpAny_isInstance D2.typeIs isSubtype_dict_dict ?_)
  simp only [Bool.not_true, if_false, Bool.false_eq_true]
  refine wpAny_bind (wpAny_specialOf D2.typeIs F.slot_dict_iter.lookup (wpAny_pure ?_))
  simp only [if_true, beq_self_eq_true]
  refine wpAny_bind (wpAny_pure (wpAny_mergeDict (hsz := len) ne sys D1 D2 fun g g1 g2 g3 => ?_))
  show wpAny _ _ (Builtin.Dict.addKeywords to [] >>= _) _ _ _
  exact wpAny_bind (wpAny_pure (wpAny_pure (fin g g1 g2 g3)))
theorem call_copyD {src : Addr} {ys : List (K × Value)} {Q : Value → Shared → Prop} (sys : (src == sysModules) = false) (D2 : s.heap.DictOf kk src ys) (len : ys.length ≤ sizeLine)
    (fin : ∀ g, g.DictOf kk s.heap.objs.size ys → (∀ b o, s.heap.get? b = some o → g.get? b = some o) → Q (.ref s.heap.objs.size) { s with heap := g }) : wpAny (model P w) A (call (.type "dict") [.ref src]) Q E s := by
  have lt := D2.lt_size
  have nd : (ys.map (·.1)).Nodup := by obtain ⟨_, _, _, _, _, _, _, _, n⟩ := D2; exact n
  refine callType_codes (Q₁ := fun v t => v = .ref s.heap.objs.size ∧ t = { s with heap := s.heap.push { cls := .type "dict", data := .dict #[] } }) F.kt_called_dict (F.kt_typeCall_dict_1 _) F.entry_dict_init (kt_code_dict_new _ ⟨rfl, rfl⟩) ?_
  rintro v t ⟨rfl, rfl⟩
  have ty : Shared.TypeIs { s with heap := s.heap.push { cls := .type "dict", data := .dict #[] } } (.ref s.heap.objs.size) "dict" := ⟨_, Heap.get?_push_size _ rfl, rfl⟩
  refine ⟨ty, F.args_dict_init_2 _ _, ?_⟩
  unfold Builtin.«dict.__init__»
  refine wpAny_bind ?_
  unfold Builtin.Dict.selfAndRest
  refine wpAny_bind (wpAny_notOrdered_dict ty ?_)
  show wpAny _ _ (pure (s.heap.objs.size, [Value.ref src])) _ _ _
  refine wpAny_pure ?_
  refine upd_from (A := A.in1) .none (Nat.ne_of_gt lt) sys (Heap.DictOf.new s.heap) (D2.at' fun o e => Heap.get?_push_of_some _ e) (by simpa using len) fun g g1 g2 g3 => ⟨rfl, fin g (by rw [merged_nil_of_nodup ys nd] at g1; exact g1) fun b o e => ?_⟩
  exact g3.extBut b o (Nat.ne_of_lt (Heap.lt_size e)) (Heap.get?_push_of_some _ e)
end
section
variable {X : Cx} {α β : Type} [DecidableEq α] {ea : α → PyData} {eb : β → PyData}
theorem call_dictC {mt : Addr → Prop} (h : KeyA ea) : CallR X (.type "dict") (fun vs H Q => ∃ v kvs, vs = [v] ∧ kB X.K X.w mt H H v (eDct ea eb kvs) ∧ ∀ p o, H p = none → DCell X.K X.w (upd H p (DN p o)) (DN p o) p (kvs.map fun q => (ea q.1, eb q.2)) → Q (.ref p) (upd H p (DN p o))) := by
  intro pins s σ H vs us Q I rv ⟨v, kvs, e, k1, q⟩
  subst e
  obtain ⟨u, rfl, ru⟩ := vals1 rv
  obtain ⟨l, ys, rfl, rfl, hs, ⟨xs, of, pa⟩, dr, hz, ty, _⟩ := kB_dct (kitA (X := X) h) I k1 ru
  have lx : ys.length = xs.length := Paired.length pa
  refine call_copyD hs of (by omega) fun g g1 keep => ?_
  have fresh : (s.heap.objs.size == sysModules) = false := beq_eq_false_iff_ne.mpr (Ne.symm (Nat.ne_of_lt I.big))
  have lk : ys.length = kvs.length := DRel.len dr
  obtain ⟨o', ho', dc⟩ := cell_of (eb := eb) (H := H) (kitA (X := X) h) fresh ⟨xs, g1, pa⟩ (kvs := kvs) dr (by omega)
  have hp := I.hok.fresh (Nat.le_refl _)
  exact ⟨.ref s.heap.objs.size, upd H s.heap.objs.size (DN s.heap.objs.size o'), I.laid (t' := s.toks) keep (Nat.le_refl _) (dn_ok ho'), rfl, q _ _ hp (dc.firm (upd_firms hp))⟩
end
section
variable {X : Cx} {m : Type → Type} [Monad m] [PyM m] {C : Wd X.K X.w m} {W : WX} {H0 : Hp} {R : Slots} {α β : Type} [DecidableEq α] {ea : α → PyData} {eb : β → PyData} {a : Expr} {md : m (List (α × β))} {p pos : Pos}
theorem sd_dictC (h : KeyA ea) (hg : Gl X "dict") (hm : X.mg "dict" = none) (ha : SB X C W H0 R a (eDct ea eb) md) (hs : starEach (a :: []) X.env = (false, eval a X.env) :: starEach [] X.env := by rfl) :
    SD X C W H0 R (.Call (.Name "dict" p) [a] [] pos) (eDct ea eb) (md >>= fun kvs => pure kvs) :=
  sx_callT kOD_ok (call_dictC (mt := C.mt) (eb := eb) h) hg hm (by decide +kernel) (by decide) (by decide) ha (fun v σ H Q ps kv _ q => ⟨v, ps, rfl, kv, fun p o hp dc => (tR_pure q).2 _ _ (Same.new hp) ⟨p, _, _, rfl, rfl, upd_same, dc, hp⟩⟩) hs
end
end TT

namespace TT
open PyM (fromO)
open PySem PySem.Spec PyProof.Rows L2
/-! ### any data as a tuple of pairs -/
def deT2 : PyData → Option (PyData × PyData)
  | .tuple [x, y] => some (x, y)
  | _ => none
def deT2s : List PyData → Option (List (PyData × PyData))
  | [] => some []
  | d :: ds => match deT2 d with
    | none => none
    | some p => (deT2s ds).map (p :: ·)
def deTup2A : PyData → Option (List (PyData × PyData))
  | .tuple xs => deT2s xs
  | _ => none
theorem deT2_ok {d : PyData} {p : PyData × PyData} (h : deT2 d = some p) : eT2 eAny eAny p = d := by
  unfold deT2 at h
  split at h
  · cases h; rfl
  · cases h
theorem deT2s_ok : ∀ {ds : List PyData} {ps : List (PyData × PyData)}, deT2s ds = some ps → ps.map (eT2 eAny eAny) = ds
  | [], ps, h => by cases h; rfl
  | d :: ds, ps, h => by
    rw [deT2s] at h
    cases e : deT2 d with
    | none => rw [e] at h; cases h
    | some p =>
      rw [e] at h
      obtain ⟨qs, h1, rfl⟩ := Option.map_eq_some_iff.mp h
      rw [List.map_cons, deT2_ok e, deT2s_ok h1]
theorem deTup2A_ok (d : PyData) (i : List (PyData × PyData)) (h : deTup2A d = some i) : eTup (eT2 eAny eAny) i = eAny d := by
  cases d with
  | tuple xs => exact congrArg PyData.tuple (deT2s_ok h)
  | _ => cases h
/-! ### range(a, b, -1) -/
def rangeD (hi : Int) (n : Nat) : List Int := (List.range n).map fun k => hi - (k : Nat)
def rangeDG (hi lo st : Int) : Option (List Int) := if st = -1 ∧ -1000000000 ≤ lo ∧ lo ≤ 1000000000 ∧ -1000000000 ≤ hi ∧ hi ≤ 1000000000 ∧ hi - lo ≤ 16777216 then some (rangeD hi (hi - lo).toNat) else none
theorem wk_rangeD {K : PySem.W.Frag} {w : World} {Q : Hp → Prop} {hi : Int} {n : Nat} (hn : n ≤ sizeLine) : Wk K w Q (Itc hi (-1) n) ((rangeD hi n).map eInt) where
  go := fun i H _ hi' => by
    rw [rangeD, List.length_map, List.length_map, List.length_range] at hi'
    refine ⟨hi', fun x H' y => ?_⟩
    obtain ⟨rfl, rfl⟩ := y
    refine ⟨.refl _, .int (hi - (i : Nat)), by rw [rangeD, List.getElem?_map, List.getElem?_map, List.getElem?_range hi']; rfl, ?_⟩
    have e : hi + ((i : Nat) : Int) * (-1) = hi - (i : Nat) := by omega
    rw [e]
    exact .int _
  stop := fun i H _ hi' => by rw [rangeD, List.length_map, List.length_map, List.length_range] at hi'; exact hi'
  len := by rw [rangeD, List.length_map, List.length_map, List.length_range]; exact hn
section
variable {X : Cx} {m : Type → Type} [Monad m] [PyM m] {C : Wd X.K X.w m} {W : WX} {H0 : Hp} {R : Slots} {P : Pk} {tg : Expr} {a b c : Expr} {p pos : Pos} {mi mj mk : m Int}
theorem si_rangeD (hg : Gl X "range") (hm : X.mg "range" = none) (ha : SB X C W H0 R a eInt mi) (hb : SB X C W H0 R b eInt mj) (hc : SB X C W H0 R c eInt mk) (hs : starEach [a, b, c] X.env = (false, eval a X.env) :: starEach [b, c] X.env := by rfl)
    (hs2 : starEach [b, c] X.env = (false, eval b X.env) :: starEach [c] X.env := by rfl) (hs3 : starEach [c] X.env = (false, eval c X.env) :: starEach [] X.env := by rfl) (hpl : (backTo pos (starEach [b, c] X.env)).any (·.1) = false := by rfl) :
    SI X C W H0 R P tg (.Call (.Name "range" p) [a, b, c] [] pos) eInt (mi >>= fun i => mj >>= fun j => mk >>= fun k => fromO (rangeDG i j k)) :=
  ⟨(pi_range3 hg hm (pa_cons ha.run (pa_cons hb.run (pa_cons hc.run pa_nil hs3) hs2) hs) hs hpl).weak fun σ H Q q => tR_imp (tI_bind (k := kB X.K X.w C.mt) (ea := eInt) q) fun v H1 ⟨i, e, kv, q⟩ => tR_imp (tI_bind (k := kB X.K X.w C.mt) (ea := eInt) q) fun v2 H2 ⟨j, e2, kv2, q⟩ => tR_imp (tI_bind (k := kB X.K X.w C.mt) (ea := eInt) q) fun v3 H3 ⟨k, e3, kv3, q⟩ => by
    obtain ⟨xs, h, q4⟩ := tI_done q
    unfold rangeDG at h
    split at h
    · rename_i g
      cases h
      obtain ⟨rfl, g1, g2, g3, g4, g5⟩ := g
      exact ⟨i, j, -1, (i - j).toNat, by rw [kB_int kv, kB_int kv2, kB_int kv3], .neg (by omega) (by omega) (by omega) (by omega), q4 _ (wk_rangeD (by rw [sizeLine_eq]; omega))⟩
    · cases h⟩
end
end TT

namespace TT
open PyM (fromO)
open PySem PySem.Spec PyProof.Rows L2
/-! ### errors of the program's own -/
/-- what is written of an own base class over ValueError -/
structure BaseX (K : PySem.W.Frag) (mg : Str → Option Value) (bn : Str) (B : Addr) : Prop where
  g : mg bn = some (.ref B)
  sp : PySem.W.specialIn K (.ref B) "__getattribute__" = some (some (.builtin "type.__getattribute__"))
  rd : PySem.W.readsIn K B (.type "type") = true
  fc : PySem.W.findCls K (.ref B) (.type "type") "__init__" = some (.val (.builtin "ValueError.__init__"))
/-- what is written of a class of errors over it, which keeps one thing, f -/
structure ErrX (K : PySem.W.Frag) (mg : Str → Option Value) (cn f : Str) (B C fI : Addr) : Prop where
  g : mg cn = some (.ref C)
  ox : OexC K C
  xf : XfC K C
  no : PySem.W.findIn K (.ref C) f = some none
  iC : PySem.W.findIn K (.ref C) "__init__" = some (some (.ref fI))
  tI : PySem.W.typeIn K (.ref fI) = some (.type "function")
  te : PySem.W.exmOne K (.ref C) (.ref C) = some true
section
variable {X : Cx} {e : Expr} {es : List Expr} {ta : TA} {bn : Str} {B : Addr} {p p1 p2 pos : Pos}
/-- Base.__init__(self, ..) -/
theorem pe_binit {pl : Sem Bool} (T : BaseX X.K X.mg bn B) (hg : Gl X bn) (hdb : (bn == ("__debug__" : Str)) = false) (ha : L2.PA X (e :: es) ta)
    (hc : eval (.Call (.Attribute (.Name bn p1) "__init__" p2) (e :: es) [] pos) X.env = (do
      let ov ← eval (.Name bn p1) X.env
      standAt p2.atName
      let (f, first) ← holding [ov] (getMethod ov "__init__" pl)
      callWith pos f first (backTo pos (starEach (e :: es) X.env)) (backToKw pos (keywordEach [] X.env))) := by rfl)
    (he : starEach (e :: es) X.env = (false, eval e X.env) :: starEach es X.env := by rfl) (hpl : (backTo pos (starEach es X.env)).any (·.1) = false := by rfl) :
    PE X (.Call (.Attribute (.Name bn p1) "__init__" p2) (e :: es) [] pos) (tVeI X.K ta) := by
  refine ⟨fun pins s σ H Q I h => PySem.W.methodCall_KW (ld_glob I hg T.g ?_ hdb) hc⟩
  obtain ⟨m, fr⟩ := I.fr
  refine PySem.W.method_of_cls fr I.ok.mod.kin T.sp (PySem.W.cls_val fr I.ok.mod.kin (by
    have := T.rd
    simp only [PySem.W.readsIn, Bool.and_eq_true, beq_iff_eq] at this
    exact this.1.1.1.2) T.rd T.fc rfl ?_)
  show wpAny _ _ (callWith pos (Value.builtin "ValueError.__init__") [] (backTo pos (starEach (e :: es) X.env)) []) _ _ _
  refine PyProof.Rows.callWith_method1 (thn (ha.run pos pins _ σ H _ (I.tok _) h) fun us s1 ⟨vs, H1, I1, r1, a, C, ws, ev, hl, O, ea, q⟩ => ?_) he hpl
  subst ev
  cases r1 with
  | @cons _ u0 _ ur ra rw' =>
    obtain rfl : u0 = Value.ref a := ra
    exact oinit_ok O I1 ea (by rw [← Paired.length rw', sizeLine_eq]; omega) fun s' J => ⟨.non, H1, J, rfl, q⟩
end
/-! ### its __init__ -/
/-- self gets its one thing -/
def spE (K : PySem.W.Frag) (f : Str) (C : Addr) (ok : V → Prop) : Sp := fun vs H Q _ => ∃ a v, vs = [.ref a, v] ∧ ok v ∧ H a = some (exo a C none) ∧ ∀ dx, H dx = none → dx ≠ a → Q .non (upd (upd H dx (exd dx [(f, v)])) a (exo a C (some dx)))
def okInt (v : V) : Prop := ∃ i : Int, v = .int i ∧ i.natAbs.log2 < 1920
def okStr (v : V) : Prop := ∃ x : Str, v = .str x
section
variable {P : Program} {w : World} {K : PySem.W.Frag} {mg : Str → Option Value} {base : Heap} {cn f qual : Str} {B C fI : Addr} {fd : FuncData} {st : Stmt} {k : Nat} {p1 p2 p3 p4 p5 p6 p7 p8 p9 p10 p11 p12 : Pos}
/-- str(a number) -/
def rStrI : List V → Hp → VK → Prop := fun xs H Q => ∃ i : Int, xs = [.int i] ∧ i.natAbs.log2 < 1920 ∧ Q (.str (toString i)) H
/-- TideError.__init__(self, word); self.word = word -/
theorem init_str (E : ErrX K mg cn f B C fI) (Fu : Fun K "__init__" qual st fI fd) (S : FnScope ["self", f] ["self", f] (defScope st)) (hx : ∀ cdv A outer s H E', PE (cx0 P w K mg base ["self", f] qual st fI cdv A outer s H E') (.Call (.Attribute (.Name "TideError" p1) "__init__" p2) [.Name "self" p3, .Name f p4] [] p5) (tVeI K (tCons (tVar 0) (tCons (tVar 1) tNil)))) (hv : Vis (defScope st) f) (hv0 : Vis (defScope st) "self") (hd : (f == ("__debug__" : Str)) = false) (hcd : (f == ("__classdict__" : Str)) = false)
    (hb : defBody st = [.Expr (.Call (.Attribute (.Name "TideError" p1) "__init__" p2) [.Name "self" p3, .Name f p4] [] p5) p6, .Assign [.Attribute (.Name "self" p7) f p8] (.Name f p9) p10]) :
    FnOk P w K mg base CX0 (k + 1) fI fd ["self", f] (spE K f C okStr) := by
  refine Fu.ok S (fun vs H Q E h => ?_) (fun cdv A outer s H vs Q E' hr h => ?_)
  · obtain ⟨a, v, rfl, _⟩ := h
    rfl
  · obtain ⟨a, v, rfl, hv', ea, q⟩ := h
    rw [hb]
    refine ⟨tSeq (tDrop (tVeI K (tCons (tVar 0) (tCons (tVar 1) tNil)))) (tOst K f (tVar 0) (tVar 1)), ?_, ?_⟩
    · exact pss_cons (ps_expr (hx _ _ _ _ _ _)) (pss_one (ps_ost (pe_var (i := 0) rfl hv0 (by decide) (by decide)) (pe_var (i := 1) rfl hv hd hcd)))
    · refine ⟨_, rfl, _, rfl, a, C, [v], rfl, by simp, E.ox, ea, ?_⟩
      exact ⟨_, rfl, _, rfl, a, C, rfl, E.ox, E.no, .inl ⟨ea, fun dx n ne => q dx n ne⟩⟩
/-- TideError.__init__(self, str(line)); self.line = line -/
theorem init_int (E : ErrX K mg cn f B C fI) (Fu : Fun K "__init__" qual st fI fd) (S : FnScope ["self", f] ["self", f] (defScope st)) (hx : ∀ cdv A outer s H E', PE (cx0 P w K mg base ["self", f] qual st fI cdv A outer s H E') (.Call (.Attribute (.Name "TideError" p1) "__init__" p2) [.Name "self" p3, .Call (.Name "str" p11) [.Name f p4] [] p12] [] p5) (tVeI K (tCons (tVar 0) (tCons (tCB rStrI (tCons (tVar 1) tNil)) tNil))))
    (hv : Vis (defScope st) f) (hv0 : Vis (defScope st) "self") (hd : (f == ("__debug__" : Str)) = false) (hcd : (f == ("__classdict__" : Str)) = false)
    (hb : defBody st = [.Expr (.Call (.Attribute (.Name "TideError" p1) "__init__" p2) [.Name "self" p3, .Call (.Name "str" p11) [.Name f p4] [] p12] [] p5) p6, .Assign [.Attribute (.Name "self" p7) f p8] (.Name f p9) p10]) :
    FnOk P w K mg base CX0 (k + 1) fI fd ["self", f] (spE K f C okInt) := by
  refine Fu.ok S (fun vs H Q E h => ?_) (fun cdv A outer s H vs Q E' hr h => ?_)
  · obtain ⟨a, v, rfl, _⟩ := h
    rfl
  · obtain ⟨a, v, rfl, ⟨n, rfl, hn⟩, ea, q⟩ := h
    rw [hb]
    refine ⟨tSeq (tDrop (tVeI K (tCons (tVar 0) (tCons (tCB rStrI (tCons (tVar 1) tNil)) tNil)))) (tOst K f (tVar 0) (tVar 1)), ?_, ?_⟩
    · exact pss_cons (ps_expr (hx _ _ _ _ _ _)) (pss_one (ps_ost (pe_var (i := 0) rfl hv0 (by decide) (by decide)) (pe_var (i := 1) rfl hv hd hcd)))
    · refine ⟨_, rfl, _, rfl, n, rfl, hn, a, C, [.str (toString n)], rfl, by simp, E.ox, ea, ?_⟩
      exact ⟨_, rfl, _, rfl, a, C, rfl, E.ox, E.no, .inl ⟨ea, fun dx n ne => q dx n ne⟩⟩
end
/-! ### errors, told -/
/-- how an error of one of the classes lies -/
def exE (K : PySem.W.Frag) (w : World) (ys : List (Str × Addr × Str)) : Exc → Value → Option Addr → Hp → Prop := fun x cls d H => ∃ cn C f, (cn, C, f) ∈ ys ∧ x.cls = cn ∧ cls = .ref C ∧ ∃ dx v, d = some dx ∧ H dx = some (.xd [(f, v)]) ∧ Rep K w H v x.arg
noncomputable abbrev wdE (K : PySem.W.Frag) (w : World) (ys : List (Str × Addr × Str)) : Wd K w EM := wd0 (exE K w ys)
def throwE {α : Type} (cn : Str) (d : PyData) : EM α := ExceptT.mk (some (.error ⟨cn, d⟩))
def smallE (i : Int) : Option Int := if i.natAbs.log2 < 1920 then some i else none
section
variable {X : Cx} {W : WX} {H0 : Hp} {R : Slots} {ys : List (Str × Addr × Str)} {α ρ ε δ : Type} {ea : α → PyData} {er : ρ → PyData} {Rb : ε → Slots} {Rn : δ → Slots}
variable {e : Expr} {rest : List Stmt} {p pos pos2 : Pos} {cn f : Str} {B C fI : Addr} {fd : FuncData} {k : Nat} {ok : V → Prop}
theorem raise_core {me : EM α} (E : ErrX X.K X.mg cn f B C fI) (F1 : FnOk X.prog X.w X.K X.mg X.base CX0 k fI fd ["self", f] (spE X.K f C ok)) (hr : Room (k + 1) X.A) (hb : Binds X.K fd ["self", f] []) (hc : X.calm = true) (tk : Takes X W) (hg : Gl X cn) (hdb : (cn == ("__debug__" : Str)) = false) (hy : (cn, C, f) ∈ ys)
    (hs : starEach (e :: []) X.env = (false, eval e X.env) :: starEach [] X.env) (hpl : (backTo pos (starEach [] X.env)).any (·.1) = false)
    (h : SE X (wdE X.K X.w ys) W H0 R e ea me) (hok : ∀ v H a, Rep X.K X.w H v (ea a) → ok v) :
    SL X (wdE X.K X.w ys) W H0 R (.Raise (some (.Call (.Name cn p) [e] [] pos)) none pos2 :: rest) er Rb Rn (me >>= fun a => throwE cn (ea a)) := by
  refine ⟨(pss_cons (ps_raise hc tk (pmk_oex E.ox E.iC E.tI F1 hr hb .nil pass0 hg E.g (pa_cons h.run pa_nil hs) hdb hs hpl)) pss_never).weak fun D σ H q => ?_⟩
  have t := tS_bind (k := kF X.K X.w (wdE X.K X.w ys).mt) (ea := ea) q (Q := fun v H1 => [v].length ≤ 1000 ∧ ∀ a, H1 a = none → spE X.K f C ok (.ref a :: ([v] ++ [])) (upd H1 a (exo a C none)) (fun u H2 => u = .non ∧ ∃ (d : Addr) (fs : List (Str × V)), H2 a = some (exo a C (some d)) ∧ H2 d = some (exd d fs) ∧ H1 d = none ∧ W (.ref C) (some d) σ (upd (del H2 a) d (.xd fs))) (fun _ _ _ => False)) fun a v H' kv e' _ ⟨s, c, q⟩ => ?_
  · exact t
  · refine ⟨by simp, fun x hx => ⟨x, v, rfl, hok v H' a kv, upd_same, fun dx hd ne => ⟨rfl, dx, [(f, v)], upd_same, ?_, ?_, ?_⟩⟩⟩
    · rw [upd_ne ne, upd_same]
    · rw [upd_ne ne] at hd
      exact hd
    · rw [upd_ne ne] at hd
      have fin : ∀ b o, H' b = some o → upd (del (upd (upd (upd H' x (exo x C none)) dx (exd dx [(f, v)])) x (exo x C (some dx))) x) dx (.xd [(f, v)]) b = some o := fun b o hb => by
        have bx : b ≠ x := ne_of_none hb hx
        have bd : b ≠ dx := ne_of_none hb hd
        rw [upd_ne bd, del_ne bx, upd_ne bx, upd_ne bd, upd_ne bx]
        exact hb
      have q : AfterS (wdE X.K X.w ys) W H0 H' er Rb Rn D (some (.error ⟨cn, ea a⟩, s)) := q
      refine q (.ref C) (some dx) σ _ (c.base.trans (.of_same fin)) trivial ⟨cn, C, f, hy, rfl, rfl, dx, v, rfl, upd_same, Rep.firm (fun b o hb _ => fin b o hb) kv⟩
end
end TT

namespace PySem.W
open PySem PySem.Spec PySem.Calls PyProof.Rows
section
variable {prog : Program} {w : World} {A : Around} {E : Value → Shared → Prop} {s : Shared} {K : Frag} {x t c : Value} {Q : Value → Shared → Prop}
/-- isinstance(x, c) where x's class is below c: nothing else is asked -/
theorem isi_below (ty : ∀ (M : Model) (h : Heap), K.In h → s.heap = h → Looks M h (typeOf x) t) (X : K.In s.heap) (e : kitCls K t c = some true) (ne : (t == c) = false) (hx : x ≠ .builtin "__main__.__loader__#opaque") (h : ∀ tk, Q (.bool true) { s with toks := tk }) :
    wpAny (model prog w) A (call (.builtin "isinstance") [x, c]) Q E s := by
  have ans : Answers (fun s' => K.In s'.heap ∧ s'.heap = s.heap) x c true := by
    intro dep tk prog w A R s' hs
    obtain ⟨h0, g, d, tt, os⟩ := s'
    obtain ⟨⟨Y, p⟩, hq⟩ := hs
    have LT := ty (model prog w) h0 Y p.symm
    obtain ⟨hty, his, hsub⟩ := kit_cls (M := model prog w) Y e
    have LI : Looks (model prog w) h0 (isInstance x c) true := LT.andThen hsub
    unfold Builtin.«isinstance.nested»
    refine wpAny_bind (LT.at ?_)
    rw [if_neg (by rw [ne]; exact Bool.false_ne_true)]
    refine wpAny_bind (hty.at ?_); rw [if_pos (by decide)]
    k_delta "plainIsInstance"
    refine wpAny_bind (wpAny_bind (his.at ?_)); simp only [Bool.false_eq_true, Bool.not_true, if_false]
    refine wpAny_bind (LI.at ?_)
    first
      | exact wpAny_pure (wpAny_pure (hq tt))
      | (simp only [if_true]; first | exact wpAny_pure (wpAny_pure (hq tt)) | exact wpAny_pure (hq tt) | exact wpAny_bind (wpAny_pure (wpAny_pure (hq tt))))
  exact call_isinstance (S := fun _ R s' => (K.In s'.heap ∧ s'.heap = s.heap) ∧ ∀ tk, R (.ok (.ret (.bool true))) { s' with toks := tk })
    (fun prog w A R s' hs => isinstance_outer (ans 0 _ prog w A R s' hs) hx) ⟨⟨X, rfl⟩, h⟩
end
end PySem.W
namespace TT
open PyM (fromO)
open PySem PySem.Spec PyProof.Rows L2
/-! ### defs that may raise -/
section
variable {P : Program} {w : World} {K : PySem.W.Frag} {mg : Str → Option Value} {base : Heap}
abbrev cxE (P : Program) (w : World) (K : PySem.W.Frag) (mg : Str → Option Value) (base : Heap) (N : List Str) (qual : Str) (st : Stmt) (f : Addr) (cdv : Value) (A : Around) (outer : List Env) (s : Shared) (H : Hp) (E : XK) : Cx :=
  cxOf (L2.CX P w) P w K mg base N qual (defScope st) f cdv A outer s H E
theorem fn_exc {x qual : Str} {st : Stmt} {f : Addr} {fd : FuncData} {N ps : List Str} {k : Nat} {γ ρ : Type} {eg : γ → List PyData} {er : ρ → PyData} {ys : List (Str × Addr × Str)} {F : γ → EM ρ} (Fu : Fun K x qual st f fd) (S : FnScope N ps (defScope st))
    (hl : ∀ g, (eg g).length = ps.length) (hn : ps.length ≤ N.length)
    (body : ∀ (cdv : Value) (A : Around) (outer : List Env) (s : Shared) (H : Hp) (E : XK), Room k (A.deeper (envOfC qual (defScope st) s.heap.objs.size f cdv)) → Takes (cxE P w K mg base N qual st f cdv A outer s H E) (fun cls d _ H' => E cls d H') → ∀ g, SF (cxE P w K mg base N qual st f cdv A outer s H E) (wdE K w ys) (fun cls d _ H' => E cls d H') H (slots0 N.length (eg g)) (defBody st) er (F g)) :
    FnOk P w K mg base (L2.CX P w) (k + 1) f fd ps (spF K w (exE K w ys) eg er fun g => (F g).run) := by
  refine Fu.okX S (fun vs H Q E h => ?_) (fun cdv A outer s H vs Q E hr h => ?_)
  · obtain ⟨g, r, _⟩ := h
    rw [r.length, hl]
  · obtain ⟨g, r, h⟩ := h
    refine ⟨_, (body cdv A outer s H E hr (takes_of rfl rfl rfl rfl) g).run, (), cfg0 r trivial (by rw [hl]; exact hn), ?_⟩
    rw [PyM.run_bind]
    have e : PyM.run (F g) () = (F g).run.map fun r => (r, ()) := rfl
    rw [e]
    dsimp only at h
    cases z : (F g).run with
    | none => rw [z] at h; exact h.elim
    | some r =>
      rw [z] at h
      cases r with
      | ok a => exact fun v H' e _ rv => h v H' (fun b o hb => e b o hb (.inl (fun z => z))) rv
      | error y => exact fun cls d σ' H' e _ rx => h cls d H' (fun b o hb => e b o hb (.inl (fun z => z))) rx
end
section
variable {X : Cx} {W : WX} {H0 : Hp} {R : Slots} {ys : List (Str × Addr × Str)} {γ ρ : Type} {eg : γ → List PyData} {er : ρ → PyData} {mg : EM γ}
variable {a : Expr} {es : List Expr} {p pos : Pos} {x : Str} {k : Nat} {f : Addr} {fd : FuncData} {ps : List Str}
/-- a call of such a def -/
theorem se_callX {F : γ → EM ρ} (G : FnOk X.prog X.w X.K X.mg X.base (L2.CX X.prog X.w) k f fd ps (spF X.K X.w (exE X.K X.w ys) eg er fun g => (F g).run)) (tk : Takes X W) (hr : Room k X.A) (hg : Gl X x) (hm : X.mg x = some (.ref f)) (hk : PySem.W.keepIn X.K (.ref f) = true) (hb : Binds X.K fd ps [])
    (ha : SA X (wdE X.K X.w ys) W H0 R (a :: es) eg mg) (hdb : (x == ("__debug__" : Str)) = false) (he : starEach (a :: es) X.env = (false, eval a X.env) :: starEach es X.env) (hpl : (backTo pos (starEach es X.env)).any (·.1) = false) :
    SE X (wdE X.K X.w ys) W H0 R (.Call (.Name x p) (a :: es) [] pos) er (mg >>= F) :=
  .weak (pe_callS G hr hg hm hk hb (fun σ => passAt tk σ) ha.run hdb he hpl) fun σ H Q q => by
    obtain ⟨s, c, q⟩ := q
    refine ⟨s, c, ?_⟩
    rw [PyM.run_bind] at q
    cases z : PyM.run mg s with
    | none => rw [z] at q; exact q
    | some p =>
      obtain ⟨r, s1⟩ := p
      rw [z] at q
      cases r with
      | error x => exact q
      | ok g =>
        intro vs H' e rl rs
        have q : After (wdE X.K X.w ys) W (kF X.K X.w (wdE X.K X.w ys).mt) er σ H Q ((F g).run.map fun r => (r, ())) := q
        refine ⟨g, rs, ?_⟩
        dsimp only
        cases y : (F g).run with
        | none => rw [y] at q; exact q.elim
        | some r =>
          rw [y] at q
          cases r with
          | ok b => exact fun v H2 e2 rv => q v H2 (e.trans (.of_same e2)) trivial rv
          | error u => exact fun cls d H2 e2 rx => q cls d H2 (e.trans (.of_same e2)) trivial rx
end
end TT

namespace TT
open PyM (fromO)
open PySem PySem.Spec PyProof.Rows L2
/-! ### raise of a text, of a number -/
section
variable {X : Cx} {W : WX} {H0 : Hp} {R : Slots} {ys : List (Str × Addr × Str)} {ρ ε δ : Type} {er : ρ → PyData} {Rb : ε → Slots} {Rn : δ → Slots}
variable {e : Expr} {rest : List Stmt} {p pos pos2 : Pos} {cn f : Str} {B C fI : Addr} {fd : FuncData} {k : Nat}
theorem sl_raiseS {me : EM Str} (E : ErrX X.K X.mg cn f B C fI) (F1 : FnOk X.prog X.w X.K X.mg X.base CX0 k fI fd ["self", f] (spE X.K f C okStr)) (hr : Room (k + 1) X.A) (hb : Binds X.K fd ["self", f] []) (hc : X.calm = true) (tk : Takes X W) (hg : Gl X cn) (hdb : (cn == ("__debug__" : Str)) = false) (hy : (cn, C, f) ∈ ys)
    (h : SE X (wdE X.K X.w ys) W H0 R e eStr me) (hs : starEach (e :: []) X.env = (false, eval e X.env) :: starEach [] X.env := by rfl) (hpl : (backTo pos (starEach [] X.env)).any (·.1) = false := by rfl) :
    SL X (wdE X.K X.w ys) W H0 R (.Raise (some (.Call (.Name cn p) [e] [] pos)) none pos2 :: rest) er Rb Rn (me >>= fun a => throwE cn (eStr a)) :=
  raise_core E F1 hr hb hc tk hg hdb hy hs hpl h fun v H a r => by
    have r : Rep X.K X.w H v (.str a) := r
    cases r
    exact ⟨_, rfl⟩
abbrev SmI := { i : Int // i.natAbs.log2 < 1920 }
def eSmI (p : SmI) : PyData := .int p.1
def smI (i : Int) : Option SmI := if h : i.natAbs.log2 < 1920 then some ⟨i, h⟩ else none
theorem smI_ok (i : Int) (p : SmI) (h : smI i = some p) : eSmI p = eInt i := by
  unfold smI at h
  split at h
  · cases h; rfl
  · cases h
theorem sl_raiseI {me : EM Int} (E : ErrX X.K X.mg cn f B C fI) (F1 : FnOk X.prog X.w X.K X.mg X.base CX0 k fI fd ["self", f] (spE X.K f C okInt)) (hr : Room (k + 1) X.A) (hb : Binds X.K fd ["self", f] []) (hc : X.calm = true) (tk : Takes X W) (hg : Gl X cn) (hdb : (cn == ("__debug__" : Str)) = false) (hy : (cn, C, f) ∈ ys)
    (h : SE X (wdE X.K X.w ys) W H0 R e eInt me) (hs : starEach (e :: []) X.env = (false, eval e X.env) :: starEach [] X.env := by rfl) (hpl : (backTo pos (starEach [] X.env)).any (·.1) = false := by rfl) :
    SL X (wdE X.K X.w ys) W H0 R (.Raise (some (.Call (.Name cn p) [e] [] pos)) none pos2 :: rest) er Rb Rn ((me >>= fun i => fromO (smI i)) >>= fun a => throwE cn (eSmI a)) :=
  raise_core E F1 hr hb hc tk hg hdb hy hs hpl (SX.mapOI (ea := eInt) (eb := eSmI) (f := smI) h smI_ok) fun v H a r => by
    have r : Rep X.K X.w H v (.int a.1) := r
    cases r
    exact ⟨_, rfl, a.2⟩
theorem sf_raiseS {me : EM Str} (E : ErrX X.K X.mg cn f B C fI) (F1 : FnOk X.prog X.w X.K X.mg X.base CX0 k fI fd ["self", f] (spE X.K f C okStr)) (hr : Room (k + 1) X.A) (hb : Binds X.K fd ["self", f] []) (hc : X.calm = true) (tk : Takes X W) (hg : Gl X cn) (hdb : (cn == ("__debug__" : Str)) = false) (hy : (cn, C, f) ∈ ys)
    (h : SE X (wdE X.K X.w ys) W H0 R e eStr me) (hs : starEach (e :: []) X.env = (false, eval e X.env) :: starEach [] X.env := by rfl) (hpl : (backTo pos (starEach [] X.env)).any (·.1) = false := by rfl) :
    SF X (wdE X.K X.w ys) W H0 R (.Raise (some (.Call (.Name cn p) [e] [] pos)) none pos2 :: rest) er (me >>= fun a => throwE cn (eStr a)) := by
  have t := sl_raiseS (p := p) (er := er) (Rb := noE) (Rn := noE) (rest := rest) (pos2 := pos2) E F1 hr hb hc tk hg hdb hy h hs hpl
  show SL _ _ _ _ _ _ _ _ _ ((me >>= fun a => throwE cn (eStr a)) >>= fun r => pure (Out.rt r))
  rw [bind_assoc]
  exact t
theorem sf_raiseI {me : EM Int} (E : ErrX X.K X.mg cn f B C fI) (F1 : FnOk X.prog X.w X.K X.mg X.base CX0 k fI fd ["self", f] (spE X.K f C okInt)) (hr : Room (k + 1) X.A) (hb : Binds X.K fd ["self", f] []) (hc : X.calm = true) (tk : Takes X W) (hg : Gl X cn) (hdb : (cn == ("__debug__" : Str)) = false) (hy : (cn, C, f) ∈ ys)
    (h : SE X (wdE X.K X.w ys) W H0 R e eInt me) (hs : starEach (e :: []) X.env = (false, eval e X.env) :: starEach [] X.env := by rfl) (hpl : (backTo pos (starEach [] X.env)).any (·.1) = false := by rfl) :
    SF X (wdE X.K X.w ys) W H0 R (.Raise (some (.Call (.Name cn p) [e] [] pos)) none pos2 :: rest) er ((me >>= fun i => fromO (smI i)) >>= fun a => throwE cn (eSmI a)) := by
  have t := sl_raiseI (p := p) (er := er) (Rb := noE) (Rn := noE) (rest := rest) (pos2 := pos2) E F1 hr hb hc tk hg hdb hy h hs hpl
  show SL _ _ _ _ _ _ _ _ _ (((me >>= fun i => fromO (smI i)) >>= fun a => throwE cn (eSmI a)) >>= fun r => pure (Out.rt r))
  rw [bind_assoc]
  exact t
end
/-! ### the suite that has caught it -/
section
variable {X : Cx} {H0 : Hp} {R : Slots} {β : Type} {eb : β → PyData} {a C B fI dx : Addr} {oe : Obj} {pn : List (Addr × Obj)} {i : Nat} {n f cn bn : Str} {v : V} {val : β} {p p1 p2 pos : Pos}
/-- err.f -/
theorem se_errF (E : ErrX X.K X.mg cn f B C fI) (hz : Zc (.ref C) (some dx) oe) (hf : ∃ vs, oe.data = .fields vs) (hx : H0 dx = some (.xd [(f, v)])) (rv : Rep X.K X.w H0 v (eb val))
    (hN : X.N[i]? = some n) (hv : Vis X.env.scope n) (hR : R[i]? = some (some (.adr a))) (hd : (n == ("__debug__" : Str)) = false) (hcd : (n == ("__classdict__" : Str)) = false)
    (hb : attributeBase (.Name n p) f X.env (eval (.Name n p) X.env) = eval (.Name n p) X.env := by rfl) :
    SE (X.suite a ((a, oe) :: pn)) (m := Option) wd0 W0 H0 R (.Attribute (.Name n p) f pos) eb (pure val) :=
  .weak (pe_xf E.xf E.no hz hf (pe_var (X := X.suite a ((a, oe) :: pn)) (i := i) hN hv hd hcd) hb) fun σ H Q q => by
    obtain ⟨s, c, q⟩ := q
    obtain ⟨u, e1, e2⟩ := c.slot i _ hR
    have e2 : u = .ref a := e2
    subst e2
    rw [PyM.run_pure] at q
    have hx' : H dx = some (.xd [(f, v)]) := c.base _ _ hx (.inl fun z => z)
    exact ⟨_, e1, rfl, rfl, dx, [(f, v)], v, rfl, hx', by simp [List.lookup], q v H .refl trivial (Rep.firm (fun b o hb _ => c.base b o hb (.inl fun z => z)) rv)⟩
/-- isinstance(err, Base) -/
theorem se_errIs (E : ErrX X.K X.mg cn f B C fI) (T : BaseX X.K X.mg bn B) (hk : PySem.W.kitCls X.K (.ref C) (.ref B) = some true) (hne : C ≠ B) (hz : Zc (.ref C) (some dx) oe) (hf : ∃ vs, oe.data = .fields vs)
    (hN : X.N[i]? = some n) (hv : Vis X.env.scope n) (hR : R[i]? = some (some (.adr a))) (hd : (n == ("__debug__" : Str)) = false) (hcd : (n == ("__classdict__" : Str)) = false) (hg : Gl X "isinstance") (hm : X.mg "isinstance" = none) (hgb : Gl X bn) (hdb : (bn == ("__debug__" : Str)) = false)
    (hs : starEach (.Name n p :: [.Name bn p2]) X.env = (false, eval (.Name n p) X.env) :: starEach [.Name bn p2] X.env := by rfl) (hs2 : starEach (.Name bn p2 :: []) X.env = (false, eval (.Name bn p2) X.env) :: starEach [] X.env := by rfl) (hpl : (backTo pos (starEach [.Name bn p2] X.env)).any (·.1) = false := by rfl) :
    SE (X.suite a ((a, oe) :: pn)) (m := Option) wd0 W0 H0 R (.Call (.Name "isinstance" p1) [.Name n p, .Name bn p2] [] pos) eBool (pure true) := by
  have hc : CallR (X.suite a ((a, oe) :: pn)) (.builtin "isinstance") (fun xs H Q => xs = [.ref a, .ref B] ∧ Q (.bl true) H) := by
    intro pins s σ H xs us Q I r h
    obtain ⟨rfl, q⟩ := h
    cases r with
    | cons rx rr =>
      cases rr with
      | cons rt rr =>
        cases rr
        cases rx
        cases rt
        obtain ⟨hget, _⟩ := I.pin (a, oe) (List.mem_append.mpr (.inl List.mem_cons_self))
        refine PySem.W.isi_below (K := X.K) (t := .ref C) (fun M h Y e => ?_) I.kIn hk (by simpa using hne) (fun z => nomatch z) fun tk => ⟨.bl true, H, I.kept (t' := tk) fun _ _ z => z, rfl, q⟩
        subst e
        exact fun A Q E s k q => wpAny_typeOf_ref (k _ _ hget) (by rw [hz.1]; exact q)
  exact .weak (pe_callB hc hg hm (by decide +kernel) (pa_cons (pe_var (X := X.suite a ((a, oe) :: pn)) (i := i) hN hv hd hcd) (pa_cons (pe_glob (v := .ref B) hgb T.g rfl hdb) pa_nil hs2) hs) (by decide) (by decide) hs hpl) fun σ H Q q => by
    obtain ⟨s, c, q⟩ := q
    obtain ⟨u, e1, e2⟩ := c.slot i _ hR
    have e2 : u = .ref a := e2
    subst e2
    rw [PyM.run_pure] at q
    exact ⟨_, e1, rfl, q _ H .refl trivial (.bl true)⟩
end
/-! ### try: return e1; except C as n: return e2 -/
noncomputable abbrev cw0 (X : Cx) : Wd X.K X.w Option := wd0
/-- what the suite is to do -/
def tsE (X : Cx) {ρ β : Type} (R : Slots) (i : Nat) (C : Addr) (f : Str) (eb : β → PyData) (er : ρ → PyData) (h : β → Option ρ) : Addr → Value → Option Addr → TS := fun a cls d D σ H => ∃ (b : β) (dx : Addr) (v : V), cls = .ref C ∧ d = some dx ∧ H dx = some (.xd [(f, v)]) ∧ Rep X.K X.w H v (eb b) ∧ tR (cw0 X) W0 H ((List.replicate R.length none).set i (some (.adr a))) (kF X.K X.w (cw0 X).mt) er (h b) σ H D.rt
noncomputable def tryE {ρ : Type} (cn : Str) (body : EM ρ) (hd : PyData → Option ρ) : Option ρ := body.run >>= fun r => match r with
  | .ok v => some v
  | .error x => if x.cls = cn then hd x.arg else none
section
variable {X : Cx} {H0 : Hp} {R : Slots} {ρ ε δ β : Type} {er : ρ → PyData} {Rb : ε → Slots} {Rn : δ → Slots} {eb : β → PyData} {C B fI : Addr} {i : Nat} {n f cn : Str} {e1 e2 : Expr} {rest : List Stmt} {np p1 p2 p3 pos : Pos}
theorem sl_try {me : EM ρ} {de : PyData → Option β} {h : β → Option ρ} (hs : X.stack = X.env :: X.outer) (hf : X.env.frame = some X.env.locals) (hN : X.N.Nodup) (hi : X.N[i]? = some n) (hln : X.env.kindOf n = some .local) (hl : i < R.length)
    (E : ErrX X.K X.mg cn f B C fI) (hg : Gl X cn) (hdb : (cn == ("__debug__" : Str)) = false) (dok : ∀ d b, de d = some b → eb b = d)
    (hb : ∀ (W : WX) (pn : List (Addr × Obj)) (xe : Value → Shared → Prop), Takes (X.tr pn xe) W → SE (X.tr pn xe) (wdE X.K X.w [(cn, C, f)]) W H0 R e1 er me)
    (he : ∀ (a dx : Addr) (oe : Obj) (pn : List (Addr × Obj)) (v : V) (b : β) (H1 : Hp), Zc (.ref C) (some dx) oe → (∃ vs, oe.data = .fields vs) → H1 dx = some (.xd [(f, v)]) → Rep X.K X.w H1 v (eb b) → SE (X.suite a ((a, oe) :: pn)) (cw0 X) W0 H1 ((List.replicate R.length none).set i (some (.adr a))) e2 er (h b)) :
    SL X (cw0 X) W0 H0 R (.Try [.Return (some e1) p1] [.ExceptHandler (some (.Name cn np)) (some n) [.Return (some e2) p2] p3] [] [] pos :: rest) er Rb Rn (tryE cn me (fun d => de d >>= h) >>= fun r => pure (.rt r)) := by
  have hb' : ∀ (W : WX) (pn : List (Addr × Obj)) (xe : Value → Shared → Prop), Takes (X.tr pn xe) W → PassesOwn (model X.prog X.w) X.A X.env xe → PSs (X.tr pn xe) [.Return (some e1) p1] (tSeq (tRet (tR (wdE X.K X.w [(cn, C, f)]) W H0 R (kF X.K X.w (wdE X.K X.w [(cn, C, f)]).mt) er me)) tNext) := fun W pn xe tk _ => pss_cons (ps_ret (hb W pn xe tk).run) pss_nil
  have hsu : ∀ (a : Addr) (oe : Obj) (cls : Value) (d : Option Addr) (pn : List (Addr × Obj)), Zc cls d oe → (∃ vs, oe.data = .fields vs) → PSs (X.suite a ((a, oe) :: pn)) [.Return (some e2) p2] (tsE X R i C f eb er h a cls d) := fun a oe cls d pn hz hf => ⟨fun pins s σ H D I q => by
    obtain ⟨b, dx, v, e1', e2', hx, rv, q⟩ := q
    subst e1' e2'
    exact (pss_cons (ps_ret (he a dx oe pn v b H hz hf hx rv).run) pss_nil).run pins s σ H D I q⟩
  refine ⟨(pss_cons (ps_try_as (i := i) (c := .ref C) (Wout := W0) hs hf hN hi hln ⟨hg, hdb, .inl E.g⟩ takes0 hb' hsu) pss_never).weak fun D σ H q => ?_⟩
  obtain ⟨s, c, q⟩ := q
  refine ⟨s, ⟨c.len, c.base, trivial, c.slot, c.apart⟩, ?_⟩
  have er' : PyM.run me s = me.run.map fun r => (r, ()) := rfl
  rw [er']
  cases z : me.run with
  | none =>
    have e : tryE cn me (fun d => de d >>= h) = none := by rw [tryE, z]; rfl
    rw [e] at q
    exact q.elim
  | some r =>
    cases r with
    | ok v =>
      have e : tryE cn me (fun d => de d >>= h) = some v := by rw [tryE, z]; rfl
      rw [e] at q
      exact fun u H' e2 _ kv => q u H' (c.base.trans e2) trivial kv
    | error x =>
      intro cls d H' e2 _ rx
      obtain ⟨cn', C', f', hm, hc, rfl, dx, v, rfl, hx, rv⟩ := rx
      have hm := List.mem_singleton.mp hm
      cases hm
      have e : tryE cn me (fun d => de d >>= h) = de x.arg >>= h := by rw [tryE, z]; exact if_pos hc
      rw [e] at q
      cases y : de x.arg with
      | none => rw [y] at q; exact q.elim
      | some b =>
        rw [y] at q
        have q : AfterS (cw0 X) W0 H0 H er Rb Rn D (PyM.run (h b >>= fun r => (pure (.rt r) : Option (Out ρ ε δ))) s) := q
        refine ⟨true, E.te, fun _ a ha => ⟨b, dx, v, rfl, rfl, hx, by rw [dok _ _ y]; exact rv, (), ⟨?_, .refl, trivial, fun j w hj => ?_, fun j k w u n e1 e2 o1 o2 => ?_⟩, ?_⟩, fun z => nomatch z⟩
        · rw [List.length_set, List.length_set, List.length_replicate]
          exact c.len
        · by_cases hji : j = i
          · subst hji
            rw [List.getElem?_set_self (by rw [List.length_replicate]; exact hl)] at hj
            cases hj
            exact ⟨.ref a, by rw [List.getElem?_set_self (by rw [c.len]; exact hl)], rfl⟩
          · rw [List.getElem?_set_ne (Ne.symm hji), List.getElem?_replicate] at hj
            split at hj <;> cases hj
        · have : w = .adr a := by
            by_cases hji : j = i
            · subst hji
              rw [List.getElem?_set_self (by rw [List.length_replicate]; exact hl)] at e1
              cases e1
              rfl
            · rw [List.getElem?_set_ne (Ne.symm hji), List.getElem?_replicate] at e1
              split at e1 <;> cases e1
          subst this
          exact o1.elim
        · cases hh : h b with
          | none => rw [hh] at q; exact q.elim
          | some r =>
            rw [hh] at q
            exact fun u H2 e3 _ kv => q u H2 ((c.base.trans e2).trans e3) trivial kv
end
end TT

namespace TT
open PyM (fromO)
open PySem PySem.Spec PyProof.Rows L2
/-! ### pieces of a text -/
def cutSG (z : Str) (l u : Option Int) : Option Str := if z.length ≤ 16777216 then some (cutS z l u) else none
def revS (z : Str) : Str := ⟨((Builtin.Str.strSliceIndices none none (-1) z.length).filterMap (z.cps[·]?)).toArray⟩
def revSG (z : Str) : Option Str := if z.length ≤ 16777216 ∧ (revS z).length ≤ 16777216 then some (revS z) else none
def tRevS (te : TE) : TE := fun σ H Q => te σ H fun x H1 => ∃ z, x = .str z ∧ (revS z).length ≤ sizeLine ∧ Q (.str (revS z)) H1
theorem pe_revS {X : Cx} {e : Expr} {te : TE} {k : Nat} {p1 p2 p3 pos : Pos} (he : PE X e te) : PE X (.Subscript e (.Slice none none (some (.UnaryOp .USub (.Constant (.int 1) k p1) p2)) p3) pos) (tRevS te) := by
  refine ⟨fun pins s σ H Q I h => ?_⟩
  refine Subscript_ (thn (he.run pins s σ H _ I h) fun v s1 ⟨x, H1, I1, r1, q1⟩ => ?_)
  obtain ⟨z, ex, hz, q⟩ := q1
  subst ex
  obtain ⟨tz, rfl⟩ := r1
  have hst : PO X (some (.UnaryOp .USub (.Constant (.int 1) k p1) p2)) (tPart (tUn (rU fun i => .int (-i)) (tC (.int 1)))) := po_some (pe_un un_neg pe_int)
  refine wpAny_Slice (thn (po_none.run pins s1 σ H1 (fun o H2 => o = none ∧ H2 = H1) I1 ⟨rfl, rfl⟩) fun vl s2 ⟨l, H2, I2, pl, el, e2⟩ => ?_)
  subst el e2
  refine thn (po_none.run pins s2 σ H2 (fun o H3 => o = none ∧ H3 = H2) I2 ⟨rfl, rfl⟩) fun vu s3 ⟨u, H3, I3, pu, eu, e3⟩ => ?_
  subst eu e3
  refine thn (hst.run pins s3 σ H3 (fun o H4 => o = some (-1) ∧ H4 = H3) I3 ⟨1, rfl, -1, rfl, rfl, rfl⟩) fun vs s4 ⟨o, H4, I4, ps, eo, e4⟩ => ?_
  subst eo e4
  have I5 : L2.Inv X pins σ H4 { s4 with heap := s4.heap.push { cls := .type "slice", data := .fields #[vl, vu, vs] } } := I4.kept (t' := s4.toks) fun b ob q => Heap.get?_push_of_some _ q
  obtain ⟨os, hos, hcs, hds⟩ := Heap.IsSliceOf.new s4.heap vl vu vs
  obtain ⟨l, rfl, el⟩ := IsPart.raw pl
  obtain ⟨u, rfl, eu⟩ := IsPart.raw pu
  obtain ⟨st, rfl, es⟩ := IsPart.raw ps
  show wpAny (model X.prog X.w) X.A (subscriptTail e (.Slice none none (some (.UnaryOp .USub (.Constant (.int 1) k p1) p2)) p3) (.str z tz) (.ref s4.heap.objs.size)) (EP X pins σ Q) X.xe { s4 with heap := s4.heap.push { cls := .type "slice", data := .fields #[partValue l, partValue u, partValue st] } }
  refine tail_any (ops := [.str z tz, .ref s4.heap.objs.size]) (typeIs_str _ _ _) (F.slot_str_getitem.lookup) ?_ (by with_unfolding_all rfl)
  refine wpAny_getItem_str_slice (l := l) (u := u) (st := st) ⟨os, hos, hcs, hds⟩ (by rw [es]; rfl) ?_
  show Made.post (if (((st.map (·.1)).getD 1) == 1 && (Builtin.Str.strSliceIndices (l.map (·.1)) (u.map (·.1)) ((st.map (·.1)).getD 1) z.length).length == z.length) = true then Made.val (.str z tz)
    else Made.str ⟨((Builtin.Str.strSliceIndices (l.map (·.1)) (u.map (·.1)) ((st.map (·.1)).getD 1) z.length).filterMap (z.cps[·]?)).toArray⟩) (EP X pins σ Q) _
  rw [el, eu, es]
  rw [if_neg (by intro q; rw [Bool.and_eq_true] at q; exact absurd q.1 (by decide))]
  exact ⟨hz, .str _, _, I5.tok _, ⟨_, rfl⟩, q⟩
section
variable {X : Cx} {m : Type → Type} [Monad m] [PyM m] {C : Wd X.K X.w m} {W : WX} {H0 : Hp} {R : Slots} {a : Expr} {mz : m Str} {lo hi : Option Expr} {ml mh : m (Option Int)} {pos p2 : Pos}
theorem se_sliceS (ha : SB X C W H0 R a eStr mz) (hl : SQ X C W H0 R lo ml) (hh : SQ X C W H0 R hi mh) : SE X C W H0 R (.Subscript a (.Slice lo hi none p2) pos) eStr (mz >>= fun z => ml >>= fun l => mh >>= fun u => fromO (cutSG z l u)) :=
  sx_slice kF_ok sl_str ha hl hh fun x σ H Q z l u k1 q => by
    obtain ⟨c, e, _, q⟩ := tR_done q
    unfold cutSG at e
    split at e
    · rename_i g
      cases e
      exact ⟨z, kB_str k1, by rw [sizeLine_eq]; exact g, q _ H (.refl H) (.str _)⟩
    · cases e
theorem se_revS {k0 : Nat} {p1 p2 p3 : Pos} (ha : SB X C W H0 R a eStr mz) : SE X C W H0 R (.Subscript a (.Slice none none (some (.UnaryOp .USub (.Constant (.int 1) k0 p1) p2)) p3) pos) eStr (mz >>= fun z => fromO (revSG z)) :=
  .weak (pe_revS ha.run) fun σ H Q q => tR_one kF_ok q fun x H1 z k1 q1 => by
    obtain ⟨c, e, _, q⟩ := tR_done q1
    unfold revSG at e
    split at e
    · rename_i g
      cases e
      exact ⟨z, kB_str k1, by rw [sizeLine_eq]; exact g.2, q _ H1 (.refl H1) (.str _)⟩
    · cases e
end
/-! ### no error in it: done in Option -/
theorem SX.liftE {X : Cx} {W : WX} {H0 : Hp} {R : Slots} {k : Kd} {e : Expr} {α : Type} {ea : α → PyData} {mo : Option α} {ys : List (Str × Addr × Str)} (h : SX X (cw0 X) W H0 R k e ea mo) : SX X (wdE X.K X.w ys) W H0 R k e ea (fromO mo : EM α) :=
  ⟨h.run.weak fun σ H Q q => by
    obtain ⟨s, c, q⟩ := q
    refine ⟨(), ⟨c.len, c.base, trivial, c.slot, c.apart⟩, ?_⟩
    rw [PyM.run_fromO] at q
    cases z : mo with
    | none => rw [z] at q; exact q.elim
    | some a => rw [z] at q; exact fun v H' e _ kv => q v H' e trivial kv⟩
theorem kit_of {K : PySem.W.Frag} {C B : Addr} (e : PySem.W.kitOne K (.ref C) (.ref B) = some true) (ne : C ≠ B) : PySem.W.kitCls K (.ref C) (.ref B) = some true := by
  unfold PySem.W.kitOne at e
  rwa [if_neg (by rw [beq_iff_eq]; intro z; cases z; exact ne rfl)] at e
end TT

namespace TT
open PyM (fromO)
open PySem L2
/-! ### loops that draw nothing -/
theorem w_loop {α δ ρ : Type} (f : α → δ → Option (Out ρ δ δ)) : ∀ (xs : List α) (d : δ), loopL (m := WM DW) (fun x d => fromO (f x d)) xs d = fromO (loopL f xs d)
  | [], d => by show (pure (.inl d) : WM DW (δ ⊕ ρ)) = _; rw [w_pure]; rfl
  | x :: xs, d => by
    show ((fromO (f x d) : WM DW (Out ρ δ δ)) >>= Out.loop (loopL (fun x d => fromO (f x d)) xs)) = _
    have : (Out.loop (loopL (m := WM DW) (fun x d => fromO (f x d)) xs)) = fun o => (fromO (Out.loop (loopL f xs) o) : WM DW (δ ⊕ ρ)) := funext fun o => by
      cases o with
      | nx d => exact w_loop f xs d
      | ct d => exact w_loop f xs d
      | bk d => exact w_pure _
      | rt r => exact w_pure _
    rw [this, w_bind]
    rfl
theorem w_thenL {δ ρ ε δ' : Type} (k : δ → Option (Out ρ ε δ')) : thenL (m := WM DW) (fun d => fromO (k d)) = fun r => fromO (thenL k r) := funext fun r => by
  cases r with
  | inl d => rfl
  | inr r => exact w_pure _
theorem w_thenF {δ ρ : Type} (k : δ → Option ρ) : thenF (m := WM DW) (fun d => fromO (k d)) = fun r => fromO (thenF k r) := funext fun r => by
  cases r with
  | inl d => rfl
  | inr r => exact w_pure _
/-- a loop by the state at each place, none of which ends it -/
theorem Good.loopR {δ ρ β : Type} {n : Nat} {f : Int → δ → WM DW (Out ρ δ δ)} (s : Nat → δ) {k : δ ⊕ ρ → WM DW β} {Q : β → Prop} (h : ∀ i, i < n → Good (f (i : Int) (s i)) (fun o => o = .nx (s (i + 1)))) (h' : Good (k (.inl (s n))) Q) : Good (loopL f (rangeL 0 n) (s 0) >>= k) Q := by
  have main : ∀ (m lo : Nat), lo + m = n → Good (loopL f (rangeL (lo : Int) m) (s lo)) (fun r => r = .inl (s n)) := by
    intro m
    induction m with
    | zero =>
      intro lo e
      obtain rfl : lo = n := by omega
      exact Good.pure rfl
    | succ m ih =>
      intro lo e
      show Good (f (lo : Int) (s lo) >>= Out.loop (loopL f (rangeL ((lo : Int) + 1) m))) _
      refine Good.bind (h lo (by omega)) fun o eo => ?_
      subst eo
      have := ih (lo + 1) (by omega)
      rw [show ((lo + 1 : Nat) : Int) = (lo : Int) + 1 by omega] at this
      exact this
  refine Good.bind (main n 0 (by omega)) fun r e => ?_
  subst e
  exact h'
/-- the same with no draws -/
theorem loop_range {δ ρ : Type} {n : Nat} {f : Int → δ → Option (Out ρ δ δ)} (s : Nat → δ) (h : ∀ i, i < n → f (i : Int) (s i) = some (.nx (s (i + 1)))) : loopL f (rangeL 0 n) (s 0) = some (.inl (s n)) := by
  have main : ∀ (m lo : Nat), lo + m = n → loopL f (rangeL (lo : Int) m) (s lo) = some (.inl (s n)) := by
    intro m
    induction m with
    | zero =>
      intro lo e
      obtain rfl : lo = n := by omega
      rfl
    | succ m ih =>
      intro lo e
      show loopL f ((lo : Int) :: rangeL ((lo : Int) + 1) m) (s lo) = _
      rw [loop_nx (h lo (by omega))]
      have := ih (lo + 1) (by omega)
      rw [show ((lo + 1 : Nat) : Int) = (lo : Int) + 1 by omega] at this
      exact this
  exact main n 0 (by omega)
/-- the first of which p holds is told -/
theorem loop_first {α : Type} {f : α → Unit → Option (Out (Option α) Unit Unit)} {p : α → Bool} : ∀ {xs : List α}, (∀ x ∈ xs, f x () = some (if p x = true then .rt (some x) else .nx ())) → (loopL f xs () >>= thenF fun _ => some none) = some (xs.find? p)
  | [], _ => rfl
  | x :: xs, h => by
    have hx := h x List.mem_cons_self
    by_cases z : p x = true
    · rw [if_pos z] at hx
      rw [loop_rt hx, List.find?_cons_of_pos z]
      rfl
    · rw [if_neg z] at hx
      rw [loop_nx hx, List.find?_cons_of_neg z]
      exact loop_first fun y hy => h y (List.mem_cons_of_mem _ hy)
theorem loop_same {α δ ρ : Type} {f : α → δ → Option (Out ρ δ δ)} {d : δ} : ∀ {xs : List α}, (∀ x ∈ xs, f x d = some (.nx d)) → loopL f xs d = some (.inl d)
  | [], _ => rfl
  | x :: xs, h => by
    rw [loop_nx (h x List.mem_cons_self)]
    exact loop_same fun y hy => h y (List.mem_cons_of_mem _ hy)
/-! ### tables over keys -/
section
variable {α β : Type} [DecidableEq α]
theorem tab_nodup {cs : List α} (h : cs.Nodup) (g : α → β) : dOf (cs.map fun x => (x, g x)) = cs.map fun x => (x, g x) := dOf_nodup (by
  rw [List.map_map]
  have : ((fun p : α × β => p.1) ∘ fun x => (x, g x)) = id := rfl
  rw [this, List.map_id]
  exact h)
theorem tab_at {cs : List α} {x : α} (h : x ∈ cs) (g : α → β) : dGet (cs.map fun x => (x, g x)) x = some (g x) := dGet_mem (f := id) h fun y _ e => by
  have e : y = x := e
  rw [e]
theorem dEq_tab [DecidableEq β] (cs : List α) (g : α → β) : dEq (cs.map fun x => (x, g x)) (cs.map fun x => (x, g x)) = true := by
  rw [dEq, decide_eq_true rfl, Bool.true_and, List.all_eq_true]
  intro p hp
  obtain ⟨x, hx, rfl⟩ := List.mem_map.mp hp
  exact decide_eq_true (tab_at hx g)
theorem tab_put {cs : List α} {x : α} (h : x ∈ cs) (g : α → β) (v : β) : dPut (cs.map fun y => (y, g y)) x v = cs.map fun y => (y, if y = x then v else g y) := by
  rw [dPut, if_pos (dHas_iff.mpr (by rw [List.map_map]; exact List.mem_map.mpr ⟨x, h, rfl⟩)), List.map_map]
  refine List.map_congr_left fun y _ => ?_
  show (if y = x then (y, v) else (y, g y)) = _
  split <;> rfl
end
/-! ### one value -/
theorem dd_pos {α : Type} [DecidableEq α] {xs : List α} : dd xs = [] ↔ xs = [] := by
  constructor
  · intro h
    match xs, h with
    | [], _ => rfl
    | x :: xs, h =>
      have := (mem_dd x (x :: xs)).mpr List.mem_cons_self
      rw [h] at this
      cases this
  · rintro rfl
    rfl
theorem dd_one {α : Type} [DecidableEq α] {xs : List α} (ne : xs ≠ []) : (dd xs).length = 1 ↔ ∀ x ∈ xs, ∀ y ∈ xs, x = y := by
  constructor
  · intro h x hx y hy
    obtain ⟨a, e⟩ := List.length_eq_one_iff.mp h
    have h1 := (mem_dd x xs).mpr hx
    have h2 := (mem_dd y xs).mpr hy
    rw [e, List.mem_singleton] at h1 h2
    rw [h1, h2]
  · intro h
    have n := nodup_dd xs
    match e : dd xs with
    | [] => exact absurd (dd_pos.mp e) ne
    | [a] => rfl
    | a :: b :: r =>
      rw [e] at n
      have ma : a ∈ xs := (mem_dd a xs).mp (by rw [e]; simp)
      have mb : b ∈ xs := (mem_dd b xs).mp (by rw [e]; simp)
      have := h a ma b mb
      subst this
      simp at n
theorem lenSet_some {α : Type} [DecidableEq α] {few : Nat} {xs : List α} (h : xs.length < few) : lenSet few xs = some ((dd xs).length : Int) := if_pos h
theorem lenSet_one {α : Type} [DecidableEq α] {few : Nat} {xs : List α} (h : xs.length < few) (ne : xs ≠ []) : ∃ l, lenSet few xs = some l ∧ ((l = 1) ↔ ∀ x ∈ xs, ∀ y ∈ xs, x = y) := ⟨_, lenSet_some h, by rw [← dd_one ne]; omega⟩
/-! ### a tuple beside the empty one -/
theorem eqG_nil {α : Type} (ea : α → PyData) {xs : List PyData} (hp : (PyData.tuple xs).plain = true) : eqG (PyData.tuple xs) (eTup ea []) = some (decide (xs = [])) := by
  unfold eqG
  rw [if_pos ⟨hp, by simp [eTup, PyData.plain, PyData.plainAll], by simp [eTup, PyData.depth, PyData.depthAll]⟩]
  cases xs with
  | nil => rfl
  | cons x xs => simp [eTup, PyData.eqv, PyData.eqvAll]
theorem eqG_nilL {xs : List PyData} (hp : ∀ x ∈ xs, x.plain = true) : eqG (eLst eAny xs) (eLst eAny []) = some (decide (xs = [])) := by
  unfold eqG
  rw [if_pos ⟨plain_lst (ea := eAny) hp, by simp [eLst, PyData.plain, PyData.plainAll], by simp [eLst, PyData.depth, PyData.depthAll]⟩]
  cases xs with
  | nil => rfl
  | cons x xs => simp [eLst, PyData.eqv, PyData.eqvAll]
/-! ### a range of texts in groups -/
theorem rangeL_nil (lo : Int) : rangeL lo 0 = [] := rfl
theorem find_head {α : Type} (p : α → Bool) (xs : List α) : (xs.filter p).head? = xs.find? p := List.head?_filter
end TT

namespace TT
open PyM (fromO)
open PySem L2
theorem w_bindI {α : Type} (x : Option (Option α)) : ((fromO x : WM DW (Option α)) >>= fun v => (fromO v : WM DW α)) = fromO (x >>= fun v => v) := w_bind x fun v => v
/-! ### rows of numbers, in order -/
theorem ltD_row (a b : List Int) : ltD (eTup eInt) a b = decide (a < b) := by
  exact PySem.W.dataLt_ints a b
theorem not_lt_le {a b : List Int} : (!decide (b < a)) = decide (a ≤ b) := by
  by_cases h : b < a
  · rw [decide_eq_true h, decide_eq_false (by rw [← List.not_lt]; exact not_not_intro h)]; rfl
  · rw [decide_eq_false h, decide_eq_true (List.not_lt.mp h)]; rfl
theorem leD_row (a b : List Int) : leD (eTup eInt) a b = decide (a ≤ b) := by
  rw [← not_lt_le, ← ltD_row]
  rfl
theorem ordr_row : Ordr (ltD (eTup eInt)) := ⟨fun a b h => by
  simp only [ltD_row, decide_eq_true_eq, decide_eq_false_iff_not] at *
  exact List.lt_asymm h, fun a b c h1 h2 => by
  simp only [ltD_row, decide_eq_false_iff_not, List.not_lt] at *
  exact List.le_trans h2 h1⟩
theorem odrI_row : OdrI (eTup eInt) := ⟨fun a b h h' => by
  rw [leD_row, decide_eq_true_eq] at h h'
  exact List.le_antisymm h h', fun a b => by
  rw [leD_row, leD_row, Bool.or_eq_true, decide_eq_true_eq, decide_eq_true_eq]
  exact List.le_total _ _, fun a b c h h' => by
  rw [leD_row, decide_eq_true_eq] at *
  exact List.le_trans h h'⟩
theorem minRow_spec {xs : List (List Int)} (h : xs ≠ []) : ∃ m, minG (eTup eInt) xs = some m ∧ m ∈ xs ∧ ∀ x ∈ xs, m ≤ x := by
  obtain ⟨m, e, h1, h2⟩ := min_spec ordr_row h
  refine ⟨m, e, h1, fun x hx => ?_⟩
  have := h2 x hx
  rw [ltD_row, decide_eq_false_iff_not, List.not_lt] at this
  exact this
theorem ltD_sz (p q : Int × List Int) : ltD (eT2 eInt (eTup eInt)) p q = decide (p.1 < q.1 ∨ (p.1 = q.1 ∧ p.2 < q.2)) := by
  obtain ⟨x, a⟩ := p
  obtain ⟨y, b⟩ := q
  have h := PySem.W.dataLt_pair (x := .int x) (y := eTup eInt a) (x' := .int y) (y' := eTup eInt b) (by simp [PySem.W.alike]) ((odr_tup odr_int (n := 0)).alike a b)
  show PySem.W.dataLt (.tuple [.int x, eTup eInt a]) (.tuple [.int y, eTup eInt b]) = _
  rw [h, PySem.W.dataLt_int, (eq_tup eq_int).eqv, show PySem.W.dataLt (eTup eInt a) (eTup eInt b) = decide (a < b) from ltD_row a b]
  simp only [PyData.eqv, beq_iff_eq]
  by_cases h1 : x = y
  · subst h1
    rw [if_pos rfl]
    by_cases h2 : a = b
    · subst h2
      simp [List.lt_irrefl]
    · simp [h2]
  · rw [if_neg h1]
    simp [h1]
theorem leD_sz (p q : Int × List Int) : leD (eT2 eInt (eTup eInt)) p q = decide (p.1 < q.1 ∨ (p.1 = q.1 ∧ p.2 ≤ q.2)) := by
  show (!ltD (eT2 eInt (eTup eInt)) q p) = _
  rw [ltD_sz, ← decide_not]
  refine decide_eq_decide.mpr ⟨fun h => ?_, fun h e => ?_⟩
  · rcases Int.lt_trichotomy p.1 q.1 with z | z | z
    · exact .inl z
    · exact .inr ⟨z, List.not_lt.mp fun y => h (.inr ⟨z.symm, y⟩)⟩
    · exact absurd (.inl z) h
  · rcases h with h | h <;> rcases e with e | e
    · omega
    · omega
    · omega
    · exact absurd e.2 (List.not_lt.mpr h.2)
theorem odrI_sz : OdrI (eT2 eInt (eTup eInt)) := ⟨fun a b h h' => by
  rw [leD_sz, decide_eq_true_eq] at h h'
  rcases h with h | h <;> rcases h' with h' | h'
  · omega
  · omega
  · omega
  · exact Prod.ext h.1 (List.le_antisymm h.2 h'.2), fun a b => by
  rw [leD_sz, leD_sz, Bool.or_eq_true, decide_eq_true_eq, decide_eq_true_eq]
  rcases Int.lt_trichotomy a.1 b.1 with h | h | h
  · exact .inl (.inl h)
  · rcases List.le_total a.2 b.2 with h' | h'
    · exact .inl (.inr ⟨h, h'⟩)
    · exact .inr (.inr ⟨h.symm, h'⟩)
  · exact .inr (.inl h), fun a b c h h' => by
  rw [leD_sz, decide_eq_true_eq] at *
  rcases h with h | h <;> rcases h' with h' | h'
  · exact .inl (by omega)
  · exact .inl (by omega)
  · exact .inl (by omega)
  · exact .inr ⟨by omega, List.le_trans h.2 h'.2⟩⟩
theorem OdrI.sorted {α : Type} {e : α → PyData} {xs : List α} (h : xs.Pairwise fun a b => leD e a b = true) : sortG e xs = xs := List.mergeSort_of_pairwise h
/-! ### what rises -/
abbrev Asc (r : List Int) : Prop := r.Pairwise (· < ·)
theorem asc_nodup {r : List Int} (h : Asc r) : r.Nodup := h.imp fun h e => by omega
theorem asc_ext : ∀ {a b : List Int}, Asc a → Asc b → (∀ x, x ∈ a ↔ x ∈ b) → a = b := fun {a b} ha hb h =>
  ((List.perm_ext_iff_of_nodup (asc_nodup ha) (asc_nodup hb)).mpr h).eq_of_pairwise (le := fun x y : Int => x < y) (fun x y _ _ h1 h2 => absurd h1 (by omega)) ha hb
/-- the numbers of a list, each once, in order -/
def sset (xs : List Int) : List Int := sortG eInt (dd xs)
theorem mem_sset {xs : List Int} {x : Int} : x ∈ sset xs ↔ x ∈ xs := by
  rw [sset, sortG, List.mem_mergeSort, mem_dd]
theorem sset_asc (xs : List Int) : Asc (sset xs) := by
  have p := List.pairwise_mergeSort (le := leD eInt) odrI_int.trans odrI_int.le (dd xs)
  have n : (sset xs).Nodup := (List.mergeSort_perm (dd xs) _).nodup_iff.mpr (nodup_dd xs)
  refine (List.Pairwise.and p n).imp fun {a b} h => ?_
  have := h.1
  rw [leD_int, decide_eq_true_eq] at this
  have := h.2
  omega
theorem sset_self {xs : List Int} (h : Asc xs) : sset xs = xs := asc_ext (sset_asc xs) h fun x => mem_sset
theorem sset_len (xs : List Int) : (sset xs).length ≤ xs.length := by
  rw [sset, sortG, List.length_mergeSort]
  exact dd_len xs
theorem sortSet_int {xs : List Int} (h : xs.length < 4000) : sortSet 4000 eInt xs = some (sset xs) := if_pos h
/-- the keys of a dict of such pairs -/
theorem dPut_keys {α β : Type} [DecidableEq α] (d : List (α × β)) (k : α) (v : β) : (dPut d k v).map (·.1) = if k ∈ d.map (·.1) then d.map (·.1) else d.map (·.1) ++ [k] := by
  by_cases h : k ∈ d.map (·.1)
  · rw [if_pos h, dPut, if_pos (dHas_iff.mpr h), List.map_map]
    refine List.map_congr_left fun p _ => ?_
    show (if p.1 = k then (p.1, v) else p).1 = p.1
    split <;> rfl
  · rw [if_neg h, dPut_new v h, List.map_append]
    rfl
theorem dUpd_keys {α β : Type} [DecidableEq α] : ∀ (ps d : List (α × β)), (d.map (·.1)).Nodup → ((dUpd d ps).map (·.1)).Nodup ∧ ∀ k, k ∈ (dUpd d ps).map (·.1) ↔ k ∈ d.map (·.1) ∨ k ∈ ps.map (·.1)
  | [], d, h => ⟨h, fun k => by simp [dUpd]⟩
  | p :: ps, d, h => by
    have e := dPut_keys d p.1 p.2
    have n : ((dPut d p.1 p.2).map (·.1)).Nodup := by
      rw [e]
      split
      · exact h
      · rename_i z
        exact List.nodup_append.mpr ⟨h, by simp, fun a ha b hb e => z (by rw [← List.mem_singleton.mp hb, ← e]; exact ha)⟩
    obtain ⟨i1, i2⟩ := dUpd_keys ps _ n
    refine ⟨i1, fun k => (i2 k).trans ?_⟩
    rw [e, List.map_cons, List.mem_cons]
    split
    · rename_i z
      constructor
      · rintro (h | h)
        · exact .inl h
        · exact .inr (.inr h)
      · rintro (h | h | h)
        · exact .inl h
        · subst h; exact .inl z
        · exact .inr h
    · rw [List.mem_append, List.mem_singleton]
      constructor
      · rintro ((h | h) | h)
        · exact .inl h
        · exact .inr (.inl h)
        · exact .inr (.inr h)
      · rintro (h | h | h)
        · exact .inl (.inl h)
        · exact .inl (.inr h)
        · exact .inr h
theorem dOf_keys {α β : Type} [DecidableEq α] (ps : List (α × β)) : ((dOf ps).map (·.1)).Nodup ∧ ∀ k, k ∈ (dOf ps).map (·.1) ↔ k ∈ ps.map (·.1) := by
  obtain ⟨a, b⟩ := dUpd_keys ps [] List.nodup_nil
  exact ⟨a, fun k => (b k).trans (by simp)⟩
theorem sort_keys {β : Type} (ps : List (Int × β)) : sortG eInt ((dOf ps).map (·.1)) = sset (ps.map (·.1)) := by
  obtain ⟨a, b⟩ := dOf_keys ps
  exact odrI_int.sort_perm (dd_perm a b)
theorem dOf_app {α β : Type} [DecidableEq α] (ps qs : List (α × β)) : dOf (ps ++ qs) = dUpd (dOf ps) qs := by
  rw [dOf, List.foldl_append]
  rfl
/-! ### the sets of what rises -/
def okL (row : List Int) (one : Int) : Bool := match row.getLast? with
  | none => true
  | some l => decide (l < one)
def lev (xs : List Int) : Nat → List (List Int)
  | 0 => [[]]
  | m + 1 => (lev xs m).flatMap fun row => (xs.filter (okL row)).map fun one => row ++ [one]
theorem asc_last {r : List Int} {l : Int} (h : Asc r) (e : r.getLast? = some l) : ∀ a ∈ r, a ≤ l := by
  obtain ⟨i, rfl⟩ : ∃ i, r = i ++ [l] := by
    rw [List.getLast?_eq_some_iff] at e
    exact e
  intro a ha
  rw [Asc, List.pairwise_append] at h
  rcases List.mem_append.mp ha with z | z
  · have := h.2.2 a z l (by simp)
    omega
  · rw [List.mem_singleton.mp z]
    exact Int.le_refl _
theorem asc_snoc {r : List Int} {a : Int} : Asc (r ++ [a]) ↔ Asc r ∧ okL r a = true := by
  constructor
  · intro h
    rw [Asc, List.pairwise_append] at h
    refine ⟨h.1, ?_⟩
    unfold okL
    cases e : r.getLast? with
    | none => rfl
    | some l => exact decide_eq_true (h.2.2 l (List.mem_of_getLast? e) a (by simp))
  · rintro ⟨h1, h2⟩
    rw [Asc, List.pairwise_append]
    refine ⟨h1, by simp, fun x hx b hb => ?_⟩
    rw [List.mem_singleton.mp hb]
    unfold okL at h2
    cases e : r.getLast? with
    | none =>
      rw [List.getLast?_eq_none_iff] at e
      subst e
      cases hx
    | some l =>
      rw [e] at h2
      have := asc_last h1 e x hx
      have := of_decide_eq_true h2
      omega
theorem mem_lev {xs : List Int} : ∀ {m : Nat} {r : List Int}, r ∈ lev xs m ↔ r.length = m ∧ Asc r ∧ ∀ x ∈ r, x ∈ xs
  | 0, r => by
    rw [lev, List.mem_singleton]
    constructor
    · rintro rfl
      exact ⟨rfl, .nil, fun _ h => by cases h⟩
    · rintro ⟨h, _⟩
      exact List.length_eq_zero_iff.mp h
  | m + 1, r => by
    rw [lev, List.mem_flatMap]
    constructor
    · rintro ⟨row, h, hr⟩
      obtain ⟨one, h1, rfl⟩ := List.mem_map.mp hr
      obtain ⟨h2, h3⟩ := List.mem_filter.mp h1
      obtain ⟨a, b, c⟩ := mem_lev.mp h
      refine ⟨by simp [a], asc_snoc.mpr ⟨b, h3⟩, fun x hx => ?_⟩
      rcases List.mem_append.mp hx with z | z
      · exact c x z
      · rw [List.mem_singleton.mp z]; exact h2
    · rintro ⟨a, b, c⟩
      rcases List.eq_nil_or_concat r with rfl | ⟨row, one, rfl⟩
      · cases a
      · rw [List.concat_eq_append] at *
        obtain ⟨b1, b2⟩ := asc_snoc.mp b
        refine ⟨row, mem_lev.mpr ⟨by simpa using a, b1, fun x hx => c x (by simp [hx])⟩, List.mem_map.mpr ⟨one, List.mem_filter.mpr ⟨c one (by simp), b2⟩, rfl⟩⟩
theorem lex_app : ∀ {a b : List Int} (s t : List Int), a.length = b.length → a < b → a ++ s < b ++ t
  | [], [], _, _, _, h => absurd h (List.lt_irrefl _)
  | [], _ :: _, _, _, l, _ => by cases l
  | _ :: _, [], _, _, l, _ => by cases l
  | x :: a, y :: b, s, t, l, h => by
    rw [List.cons_append, List.cons_append, List.cons_lt_cons_iff]
    rw [List.cons_lt_cons_iff] at h
    rcases h with h | ⟨rfl, h⟩
    · exact .inl h
    · exact .inr ⟨rfl, lex_app s t (by simpa using l) h⟩
theorem lex_pre : ∀ (a : List Int) {s t : List Int}, s < t → a ++ s < a ++ t
  | [], _, _, h => h
  | x :: a, s, t, h => by
    rw [List.cons_append, List.cons_append, List.cons_lt_cons_iff]
    exact .inr ⟨rfl, lex_pre a h⟩
theorem lev_sorted {xs : List Int} (h : Asc xs) : ∀ m, (lev xs m).Pairwise (· < ·)
  | 0 => List.pairwise_singleton _ _
  | m + 1 => by
    rw [lev, List.pairwise_flatMap]
    refine ⟨fun row _ => ?_, (List.Pairwise.and_mem.mp (lev_sorted h m)).imp fun {a b} ⟨ha, hb, hl⟩ x hx y hy => ?_⟩
    · refine List.Pairwise.map _ (fun a b hab => lex_pre row (show [a] < [b] from ?_)) (h.filter _)
      rw [List.cons_lt_cons_iff]
      exact .inl hab
    · obtain ⟨p, _, rfl⟩ := List.mem_map.mp hx
      obtain ⟨q, _, rfl⟩ := List.mem_map.mp hy
      exact lex_app _ _ ((mem_lev.mp ha).1.trans (mem_lev.mp hb).1.symm) hl
theorem lt_ne {a b : List Int} (h : a < b) : a ≠ b := fun e => by subst e; exact List.lt_irrefl _ h
/-- all of them, by size -/
def allS (xs : List Int) : List (List Int) := (List.range (xs.length + 1)).flatMap (lev xs)
def sz (r : List Int) : Int × List Int := ((r.length : Int), r)
theorem allS_sorted {xs : List Int} (h : Asc xs) : (allS xs).Pairwise fun a b => a.length < b.length ∨ (a.length = b.length ∧ a < b) := by
  rw [allS, List.pairwise_flatMap]
  refine ⟨fun m _ => (List.Pairwise.and_mem.mp (lev_sorted h m)).imp fun {a b} ⟨ha, hb, hl⟩ => .inr ⟨(mem_lev.mp ha).1.trans (mem_lev.mp hb).1.symm, hl⟩, List.pairwise_lt_range.imp fun {m k} hmk x hx y hy => .inl (by rw [(mem_lev.mp hx).1, (mem_lev.mp hy).1]; exact hmk)⟩
theorem asc_le {r xs : List Int} (h : Asc r) (hs : ∀ x ∈ r, x ∈ xs) : r.length ≤ xs.length := by
  have p : r.Perm ((dd xs).filter fun x => decide (x ∈ r)) := (List.perm_ext_iff_of_nodup (asc_nodup h) ((nodup_dd xs).filter _)).mpr fun x => by
    rw [List.mem_filter, mem_dd, decide_eq_true_iff]
    exact ⟨fun z => ⟨hs x z, z⟩, fun z => z.2⟩
  rw [p.length_eq]
  exact Nat.le_trans (List.length_filter_le _ _) (dd_len xs)
theorem mem_allS {xs r : List Int} : r ∈ allS xs ↔ Asc r ∧ ∀ x ∈ r, x ∈ xs := by
  rw [allS, List.mem_flatMap]
  constructor
  · rintro ⟨m, _, h⟩
    exact (mem_lev.mp h).2
  · intro h
    exact ⟨r.length, List.mem_range.mpr (by have := asc_le h.1 h.2; omega), mem_lev.mpr ⟨rfl, h⟩⟩
/-- the same, thing by thing -/
def subR (xs : List Int) : List (List Int) := xs.foldl (fun rows t => rows ++ rows.map (· ++ [t])) [[]]
theorem subR_snoc (xs : List Int) (t : Int) : subR (xs ++ [t]) = subR xs ++ (subR xs).map (· ++ [t]) := by
  rw [subR, List.foldl_append]
  rfl
theorem rev_ind {P : List Int → Prop} (h0 : P []) (h1 : ∀ xs t, P xs → P (xs ++ [t])) (xs : List Int) : P xs := by
  have : ∀ n (xs : List Int), xs.length = n → P xs := by
    intro n
    induction n with
    | zero => intro xs h; rw [List.length_eq_zero_iff.mp h]; exact h0
    | succ n ih =>
      intro xs h
      rcases List.eq_nil_or_concat xs with rfl | ⟨r, a, rfl⟩
      · cases h
      · rw [List.concat_eq_append] at *
        exact h1 r a (ih r (by simpa using h))
  exact this _ xs rfl
theorem subR_len (xs : List Int) : (subR xs).length = 2 ^ xs.length := by
  refine rev_ind (P := fun xs => (subR xs).length = 2 ^ xs.length) rfl (fun xs t h => ?_) xs
  rw [subR_snoc, List.length_append, List.length_map, h, List.length_append, List.length_singleton, Nat.pow_succ]
  omega
theorem mem_subR (xs : List Int) : Asc xs → ∀ r, r ∈ subR xs ↔ Asc r ∧ ∀ x ∈ r, x ∈ xs := by
  refine rev_ind (P := fun xs => Asc xs → ∀ r, r ∈ subR xs ↔ Asc r ∧ ∀ x ∈ r, x ∈ xs) (fun _ r => ?_) (fun xs t ih h r => ?_) xs
  · show r ∈ [[]] ↔ _
    rw [List.mem_singleton]
    constructor
    · rintro rfl
      exact ⟨.nil, fun _ h => by cases h⟩
    · rintro ⟨_, h⟩
      exact List.eq_nil_iff_forall_not_mem.mpr fun x hx => by cases h x hx
  · have h' := h
    rw [Asc, List.pairwise_append] at h'
    obtain ⟨h1, _, h3⟩ := h'
    have h3 : ∀ a ∈ xs, a < t := fun a ha => h3 a ha t (by simp)
    rw [subR_snoc, List.mem_append, ih h1]
    constructor
    · rintro (⟨a, b⟩ | hm)
      · exact ⟨a, fun x hx => by simp [b x hx]⟩
      · obtain ⟨q, hq, rfl⟩ := List.mem_map.mp hm
        obtain ⟨a, b⟩ := (ih h1 q).mp hq
        refine ⟨?_, fun x hx => ?_⟩
        · rw [Asc, List.pairwise_append]
          exact ⟨a, by simp, fun x hx y hy => by rw [List.mem_singleton.mp hy]; exact h3 x (b x hx)⟩
        · rcases List.mem_append.mp hx with z | z
          · simp [b x z]
          · simp [List.mem_singleton.mp z]
    · rintro ⟨a, b⟩
      rcases List.eq_nil_or_concat r with rfl | ⟨q, l, rfl⟩
      · exact .inl ⟨.nil, fun _ h => by cases h⟩
      · rw [List.concat_eq_append] at *
        have a' := a
        rw [Asc, List.pairwise_append] at a'
        have q3 : ∀ x ∈ q, x < l := fun x hx => a'.2.2 x hx l (by simp)
        have hl := b l (by simp)
        have lt : l ≤ t := by
          rcases List.mem_append.mp hl with z | z
          · have := h3 l z; omega
          · rw [List.mem_singleton.mp z]; exact Int.le_refl _
        have hq : ∀ x ∈ q, x ∈ xs := fun x hx => by
          have := q3 x hx
          rcases List.mem_append.mp (b x (by simp [hx])) with z | z
          · exact z
          · have := List.mem_singleton.mp z; omega
        by_cases z : l = t
        · subst z
          exact .inr (List.mem_map.mpr ⟨q, (ih h1 q).mpr ⟨a'.1, hq⟩, rfl⟩)
        · refine .inl ⟨a, fun x hx => ?_⟩
          rcases List.mem_append.mp hx with y | y
          · exact hq x y
          · rw [List.mem_singleton.mp y]
            rcases List.mem_append.mp hl with u | u
            · exact u
            · exact absurd (List.mem_singleton.mp u) z
theorem subR_nodup (xs : List Int) : Asc xs → (subR xs).Nodup := by
  refine rev_ind (P := fun xs => Asc xs → (subR xs).Nodup) (fun _ => by simp [subR]) (fun xs t ih h => ?_) xs
  have h' := h
  rw [Asc, List.pairwise_append] at h'
  rw [subR_snoc, List.nodup_append]
  refine ⟨ih h'.1, List.Pairwise.map _ (fun a b hne e => hne (by simpa using e)) (ih h'.1), fun a ha b hb e => ?_⟩
  obtain ⟨q, _, rfl⟩ := List.mem_map.mp hb
  subst e
  have := ((mem_subR xs h'.1 _).mp ha).2 t (by simp)
  have := h'.2.2 t this t (by simp)
  omega
theorem allS_perm {xs : List Int} (h : Asc xs) : (allS xs).Perm (subR xs) :=
  (List.perm_ext_iff_of_nodup ((allS_sorted h).imp fun {a b} z e => by
    subst e
    rcases z with z | z
    · omega
    · exact List.lt_irrefl _ z.2) (subR_nodup xs h)).mpr fun r => mem_allS.trans (mem_subR xs h r).symm
theorem sort_subR {xs : List Int} (h : Asc xs) : (sortG (eT2 eInt (eTup eInt)) ((subR xs).map sz)).map (·.2) = allS xs := by
  rw [odrI_sz.sort_perm ((allS_perm h).symm.map sz), OdrI.sorted (xs := (allS xs).map sz) ?_, List.map_map]
  · exact List.map_id _
  · refine List.Pairwise.map _ (fun a b z => ?_) (allS_sorted h)
    rw [leD_sz, decide_eq_true_iff]
    show (a.length : Int) < b.length ∨ ((a.length : Int) = b.length ∧ a ≤ b)
    rcases z with z | z
    · exact .inl (by omega)
    · exact .inr ⟨by omega, List.le_of_lt z.2⟩
theorem lev_len {xs : List Int} (h : Asc xs) (m : Nat) : (lev xs m).length ≤ 2 ^ xs.length := by
  have p : (lev xs m).Perm ((subR xs).filter fun r => decide (r.length = m)) := (List.perm_ext_iff_of_nodup ((lev_sorted h m).imp lt_ne) ((subR_nodup xs h).filter _)).mpr fun r => by
    rw [List.mem_filter, mem_subR xs h, mem_lev, decide_eq_true_iff]
    exact ⟨fun z => ⟨z.2, z.1⟩, fun z => ⟨z.2, z.1⟩⟩
  rw [p.length_eq, ← subR_len]
  exact List.length_filter_le _ _
theorem allS_len {xs : List Int} (h : Asc xs) : (allS xs).length = 2 ^ xs.length := by rw [(allS_perm h).length_eq, subR_len]
/-! ### comprehensions of two clauses -/
theorem comp2_some {α β γ : Type} {it : α → Option (List β)} {g1 : α → β → Option Bool} {f : α → β → Option γ} {ys : α → List β} {p : α → β → Bool} {q : α → β → γ} : ∀ {xs : List α}, (∀ x ∈ xs, it x = some (ys x) ∧ (ys x).length ≤ 4096) → (∀ x ∈ xs, ∀ y ∈ ys x, g1 x y = some (p x y)) → (∀ x ∈ xs, ∀ y ∈ ys x, p x y = true → f x y = some (q x y)) →
    compL2 (m := Option) (fun _ => some true) it g1 f xs = some (xs.flatMap fun x => ((ys x).filter (p x)).map (q x))
  | [], _, _, _ => rfl
  | x :: xs, h1, h2, h3 => by
    obtain ⟨a, b⟩ := h1 x List.mem_cons_self
    show it x >>= _ = _
    rw [a, o_bind]
    show capG (ys x) >>= _ = _
    rw [capG, if_pos b, o_bind, comp_some (h2 x List.mem_cons_self) (h3 x List.mem_cons_self), o_bind, comp2_some (fun y hy => h1 y (List.mem_cons_of_mem _ hy)) (fun y hy => h2 y (List.mem_cons_of_mem _ hy)) (fun y hy => h3 y (List.mem_cons_of_mem _ hy)), o_bind]
    rfl
theorem flat_len {α β : Type} {f : α → List β} {B : Nat} : ∀ {xs : List α}, (∀ x ∈ xs, (f x).length ≤ B) → (xs.flatMap f).length ≤ xs.length * B
  | [], _ => by simp
  | x :: xs, h => by
    have := h x List.mem_cons_self
    have := flat_len fun y hy => h y (List.mem_cons_of_mem _ hy)
    rw [List.flatMap_cons, List.length_append, List.length_cons, Nat.succ_mul]
    omega
theorem dOf_len {α β : Type} [DecidableEq α] (ps : List (α × β)) : (dOf ps).length ≤ ps.length := by
  have : ∀ (ps d : List (α × β)), (dUpd d ps).length ≤ d.length + ps.length := by
    intro ps
    induction ps with
    | nil => intro d; exact Nat.le_refl _
    | cons p ps ih =>
      intro d
      have := ih (dPut d p.1 p.2)
      have := dPut_len d p.1 p.2
      rw [List.length_cons]
      show (dUpd (dPut d p.1 p.2) ps).length ≤ _
      omega
  have := this ps []
  simpa [dOf, dUpd] using this
/-- the last of a row -/
theorem row_last {r : List Int} {l : Int} (e : r.getLast? = some l) : L2.atI r (-1) = some l := by
  obtain ⟨i, rfl⟩ := List.getLast?_eq_some_iff.mp e
  exact at_last i l
theorem okL_eq (row : List Int) (one : Int) : (if (decide (row = [])) = true then some true else (L2.atI row (-1) >>= fun v2 => some (decide (v2 < one)))) = some (okL row one) := by
  unfold okL
  cases e : row.getLast? with
  | none =>
    rw [List.getLast?_eq_none_iff] at e
    rw [if_pos (decide_eq_true e)]
  | some l =>
    have : row ≠ [] := fun z => by subst z; cases e
    rw [if_neg (by simpa using this), row_last e, o_bind]
end TT

namespace K42
open PySem PySem.Spec PyProof.Rows L2 TT
open TT.PyM (fromO)
def topS (i : Nat) : Stmt := PySem.Challenge.pw_tidestold_k42_whole_points_of_the_compas.main.body.getD i (.Pass ⟨0, 0, 0, 0⟩)
abbrev N0 : List Str := ["a", "b"]
abbrev p0 : List Str := ["a", "b"]
theorem sc0 : FnScope N0 p0 (defScope (topS 4)) := ⟨rfl, rfl, rfl, by decide +kernel, rfl, by decide +kernel, by decide +kernel⟩
abbrev N1 : List Str := ["point"]
abbrev p1 : List Str := ["point"]
theorem sc1 : FnScope N1 p1 (defScope (topS 9)) := ⟨rfl, rfl, rfl, by decide +kernel, rfl, by decide +kernel, by decide +kernel⟩
abbrev N2 : List Str := ["point"]
abbrev p2 : List Str := ["point"]
theorem sc2 : FnScope N2 p2 (defScope (topS 10)) := ⟨rfl, rfl, rfl, by decide +kernel, rfl, by decide +kernel, by decide +kernel⟩
abbrev N3 : List Str := ["point", "step"]
abbrev p3 : List Str := ["point", "step"]
theorem sc3 : FnScope N3 p3 (defScope (topS 11)) := ⟨rfl, rfl, rfl, by decide +kernel, rfl, by decide +kernel, by decide +kernel⟩
abbrev N4 : List Str := ["point"]
abbrev p4 : List Str := ["point"]
theorem sc4 : FnScope N4 p4 (defScope (topS 15)) := ⟨rfl, rfl, rfl, by decide +kernel, rfl, by decide +kernel, by decide +kernel⟩
abbrev N5 : List Str := ["one", "other", "gap"]
abbrev p5 : List Str := ["one", "other"]
theorem sc5 : FnScope N5 p5 (defScope (topS 16)) := ⟨rfl, rfl, rfl, by decide +kernel, rfl, by decide +kernel, by decide +kernel⟩
abbrev N6 : List Str := ["degrees", "eight", "low", "rest"]
abbrev p6 : List Str := ["degrees"]
theorem sc6 : FnScope N6 p6 (defScope (topS 19)) := ⟨rfl, rfl, rfl, by decide +kernel, rfl, by decide +kernel, by decide +kernel⟩
abbrev N7 : List Str := ["script", "many", "draws", "mixed", "k", "cell", "rest", "turn"]
abbrev p7 : List Str := ["script", "many"]
theorem sc7 : FnScope N7 p7 (defScope (topS 24)) := ⟨rfl, rfl, rfl, by decide +kernel, rfl, by decide +kernel, by decide +kernel⟩
abbrev N8 : List Str := ["w", "many"]
abbrev p8 : List Str := ["w", "many"]
theorem sc8 : FnScope N8 p8 (defScope (topS 25)) := ⟨rfl, rfl, rfl, by decide +kernel, rfl, by decide +kernel, by decide +kernel⟩
abbrev N9 : List Str := ["seen", "due", "waiting", "one", "other", "keys", "key", "k"]
abbrev p9 : List Str := ["seen", "due"]
theorem sc9 : FnScope N9 p9 (defScope (topS 26)) := ⟨rfl, rfl, rfl, by decide +kernel, rfl, by decide +kernel, by decide +kernel⟩
abbrev N10 : List Str := ["top", "under", "one", "two"]
abbrev p10 : List Str := ["top", "under"]
theorem sc10 : FnScope N10 p10 (defScope (topS 28)) := ⟨rfl, rfl, rfl, by decide +kernel, rfl, by decide +kernel, by decide +kernel⟩
abbrev N11 : List Str := ["near_1"]
abbrev p11 : List Str := []
theorem sc11 : FnScope N11 p11 (defScope (topS 29)) := ⟨rfl, rfl, rfl, by decide +kernel, rfl, by decide +kernel, by decide +kernel⟩
abbrev N12 : List Str := ["number"]
abbrev p12 : List Str := ["number"]
theorem sc12 : FnScope N12 p12 (defScope (topS 30)) := ⟨rfl, rfl, rfl, by decide +kernel, rfl, by decide +kernel, by decide +kernel⟩
abbrev N13 : List Str := ["a", "b", "by"]
abbrev p13 : List Str := ["a", "b"]
theorem sc13 : FnScope N13 p13 (defScope (topS 5)) := ⟨rfl, rfl, rfl, by decide +kernel, rfl, by decide +kernel, by decide +kernel⟩
abbrev N14 : List Str := ["point", "base"]
abbrev p14 : List Str := ["point"]
theorem sc14 : FnScope N14 p14 (defScope (topS 12)) := ⟨rfl, rfl, rfl, by decide +kernel, rfl, by decide +kernel, by decide +kernel⟩
abbrev N15 : List Str := ["one", "other"]
abbrev p15 : List Str := ["one", "other"]
theorem sc15 : FnScope N15 p15 (defScope (topS 17)) := ⟨rfl, rfl, rfl, by decide +kernel, rfl, by decide +kernel, by decide +kernel⟩
abbrev N16 : List Str := ["wind", "course", "close"]
abbrev p16 : List Str := ["wind", "course", "close"]
theorem sc16 : FnScope N16 p16 (defScope (topS 20)) := ⟨rfl, rfl, rfl, by decide +kernel, rfl, by decide +kernel, by decide +kernel⟩
abbrev N17 : List Str := ["one", "other", "gap", "step", "k"]
abbrev p17 : List Str := ["one", "other"]
theorem sc17 : FnScope N17 p17 (defScope (topS 22)) := ⟨rfl, rfl, rfl, by decide +kernel, rfl, by decide +kernel, by decide +kernel⟩
abbrev N18 : List Str := ["w", "rows"]
abbrev p18 : List Str := ["w", "rows"]
theorem sc18 : FnScope N18 p18 (defScope (topS 27)) := ⟨rfl, rfl, rfl, by decide +kernel, rfl, by decide +kernel, by decide +kernel⟩
abbrev N19 : List Str := ["one", "other", "rows", "by"]
abbrev p19 : List Str := ["one", "other"]
theorem sc19 : FnScope N19 p19 (defScope (topS 31)) := ⟨rfl, rfl, rfl, by decide +kernel, rfl, by decide +kernel, by decide +kernel⟩
abbrev N20 : List Str := ["point"]
abbrev p20 : List Str := []
theorem sc20 : FnScope N20 p20 (defScope (topS 13)) := ⟨rfl, rfl, rfl, by decide +kernel, rfl, by decide +kernel, by decide +kernel⟩
abbrev N21 : List Str := ["point"]
abbrev p21 : List Str := ["point"]
theorem sc21 : FnScope N21 p21 (defScope (topS 18)) := ⟨rfl, rfl, rfl, by decide +kernel, rfl, by decide +kernel, by decide +kernel⟩
abbrev N22 : List Str := ["wind", "course", "close", "left", "right"]
abbrev p22 : List Str := ["wind", "course", "close"]
theorem sc22 : FnScope N22 p22 (defScope (topS 21)) := ⟨rfl, rfl, rfl, by decide +kernel, rfl, by decide +kernel, by decide +kernel⟩
abbrev N23 : List Str := ["text", "names", "long", "name"]
abbrev p23 : List Str := ["text"]
theorem sc23 : FnScope N23 p23 (defScope (topS 14)) := ⟨rfl, rfl, rfl, by decide +kernel, rfl, by decide +kernel, by decide +kernel⟩
abbrev N24 : List Str := ["text", "error"]
abbrev p24 : List Str := ["text"]
theorem sc24 : FnScope N24 p24 (defScope (topS 32)) := ⟨rfl, rfl, rfl, by decide +kernel, rfl, by decide +kernel, by decide +kernel⟩
abbrev N25 : List Str := ["script", "w", "names", "turn", "number", "one", "other", "said", "by", "between", "degrees", "rows", "point", "close", "left", "right", "due", "k", "name", "at", "text", "heads", "size", "own"]
abbrev p25 : List Str := ["script"]
theorem sc25 : FnScope N25 p25 (defScope (topS 33)) := ⟨rfl, rfl, rfl, by decide +kernel, rfl, by decide +kernel, by decide +kernel⟩
def clsB : Stmt → List Stmt
  | .ClassDef (body := b) .. => b
  | _ => []
def stI (i : Nat) : Stmt := (clsB (topS i)).getD 0 (.Pass ⟨0, 0, 0, 0⟩)
theorem scI_BadText : FnScope ["self", "place"] ["self", "place"] (defScope (stI 2)) := ⟨rfl, rfl, rfl, by decide +kernel, rfl, by decide +kernel, by decide +kernel⟩
structure Tp (K : PySem.W.Frag) (mg : Str → Option Value) where
  f0 : Addr
  d0 : FuncData
  F0 : Fun K "common" "common" (topS 4) f0 d0
  g0 : mg "common" = some (.ref f0)
  b0 : Binds K d0 p0 []
  f1 : Addr
  d1 : FuncData
  F1 : Fun K "main_near" "main_near" (topS 9) f1 d1
  g1 : mg "main_near" = some (.ref f1)
  b1 : Binds K d1 p1 []
  f2 : Addr
  d2 : FuncData
  F2 : Fun K "eighth_name" "eighth_name" (topS 10) f2 d2
  g2 : mg "eighth_name" = some (.ref f2)
  b2 : Binds K d2 p2 []
  f3 : Addr
  d3 : FuncData
  F3 : Fun K "towards" "towards" (topS 11) f3 d3
  g3 : mg "towards" = some (.ref f3)
  b3 : Binds K d3 p3 []
  f4 : Addr
  d4 : FuncData
  F4 : Fun K "opposite" "opposite" (topS 15) f4 d4
  g4 : mg "opposite" = some (.ref f4)
  b4 : Binds K d4 p4 []
  f5 : Addr
  d5 : FuncData
  F5 : Fun K "turned_by" "turned_by" (topS 16) f5 d5
  g5 : mg "turned_by" = some (.ref f5)
  b5 : Binds K d5 p5 []
  f6 : Addr
  d6 : FuncData
  F6 : Fun K "nearest_point" "nearest_point" (topS 19) f6 d6
  g6 : mg "nearest_point" = some (.ref f6)
  b6 : Binds K d6 p6 []
  f7 : Addr
  d7 : FuncData
  F7 : Fun K "_law_draws" "_law_draws" (topS 24) f7 d7
  g7 : mg "_law_draws" = some (.ref f7)
  b7 : Binds K d7 p7 []
  f8 : Addr
  d8 : FuncData
  F8 : Fun K "_law_next" "_law_next" (topS 25) f8 d8
  g8 : mg "_law_next" = some (.ref f8)
  b8 : Binds K d8 p8 []
  f9 : Addr
  d9 : FuncData
  F9 : Fun K "_law_same" "_law_same" (topS 26) f9 d9
  g9 : mg "_law_same" = some (.ref f9)
  b9 : Binds K d9 p9 []
  f10 : Addr
  d10 : FuncData
  F10 : Fun K "_law_fraction" "_law_fraction" (topS 28) f10 d10
  g10 : mg "_law_fraction" = some (.ref f10)
  b10 : Binds K d10 p10 []
  f11 : Addr
  d11 : FuncData
  F11 : Fun K "_law_names" "_law_names" (topS 29) f11 d11
  g11 : mg "_law_names" = some (.ref f11)
  b11 : Binds K d11 p11 []
  f12 : Addr
  d12 : FuncData
  F12 : Fun K "_law_round" "_law_round" (topS 30) f12 d12
  g12 : mg "_law_round" = some (.ref f12)
  b12 : Binds K d12 p12 []
  f13 : Addr
  d13 : FuncData
  F13 : Fun K "fraction" "fraction" (topS 5) f13 d13
  g13 : mg "fraction" = some (.ref f13)
  b13 : Binds K d13 p13 []
  f14 : Addr
  d14 : FuncData
  F14 : Fun K "name_of" "name_of" (topS 12) f14 d14
  g14 : mg "name_of" = some (.ref f14)
  b14 : Binds K d14 p14 []
  f15 : Addr
  d15 : FuncData
  F15 : Fun K "halfway" "halfway" (topS 17) f15 d15
  g15 : mg "halfway" = some (.ref f15)
  b15 : Binds K d15 p15 []
  f16 : Addr
  d16 : FuncData
  F16 : Fun K "can_sail" "can_sail" (topS 20) f16 d16
  g16 : mg "can_sail" = some (.ref f16)
  b16 : Binds K d16 p16 []
  f17 : Addr
  d17 : FuncData
  F17 : Fun K "points_between" "points_between" (topS 22) f17 d17
  g17 : mg "points_between" = some (.ref f17)
  b17 : Binds K d17 p17 []
  f18 : Addr
  d18 : FuncData
  F18 : Fun K "_law_pick" "_law_pick" (topS 27) f18 d18
  g18 : mg "_law_pick" = some (.ref f18)
  b18 : Binds K d18 p18 []
  f19 : Addr
  d19 : FuncData
  F19 : Fun K "_law_turn" "_law_turn" (topS 31) f19 d19
  g19 : mg "_law_turn" = some (.ref f19)
  b19 : Binds K d19 p19 []
  f20 : Addr
  d20 : FuncData
  F20 : Fun K "all_names" "all_names" (topS 13) f20 d20
  g20 : mg "all_names" = some (.ref f20)
  b20 : Binds K d20 p20 []
  f21 : Addr
  d21 : FuncData
  F21 : Fun K "in_degrees" "in_degrees" (topS 18) f21 d21
  g21 : mg "in_degrees" = some (.ref f21)
  b21 : Binds K d21 p21 []
  f22 : Addr
  d22 : FuncData
  F22 : Fun K "tacks_for" "tacks_for" (topS 21) f22 d22
  g22 : mg "tacks_for" = some (.ref f22)
  b22 : Binds K d22 p22 []
  f23 : Addr
  d23 : FuncData
  F23 : Fun K "point_of" "point_of" (topS 14) f23 d23
  g23 : mg "point_of" = some (.ref f23)
  b23 : Binds K d23 p23 []
  f24 : Addr
  d24 : FuncData
  F24 : Fun K "_law_said" "_law_said" (topS 32) f24 d24
  g24 : mg "_law_said" = some (.ref f24)
  b24 : Binds K d24 p24 []
  f25 : Addr
  d25 : FuncData
  F25 : Fun K "law" "law" (topS 33) f25 d25
  g25 : mg "law" = some (.ref f25)
  b25 : Binds K d25 p25 []
  B0 : Addr
  tB : BaseX K mg "TideError" B0
  C_BadText : Addr
  I_BadText : Addr
  D_BadText : FuncData
  e_BadText : ErrX K mg "BadText" "place" B0 C_BadText I_BadText
  fi_BadText : Fun K "__init__" "BadText.__init__" (stI 2) I_BadText D_BadText
  bi_BadText : Binds K D_BadText ["self", "place"] []
  ki_BadText : PySem.W.kitCls K (.ref C_BadText) (.ref B0) = some true
  ne_BadText : C_BadText ≠ B0
  z_abs : mg "abs" = none
  z_any : mg "any" = none
  z_bool : mg "bool" = none
  z_dict : mg "dict" = none
  z_int : mg "int" = none
  z_isinstance : mg "isinstance" = none
  z_len : mg "len" = none
  z_list : mg "list" = none
  z_max : mg "max" = none
  z_min : mg "min" = none
  z_range : mg "range" = none
  z_str : mg "str" = none
  z_tuple : mg "tuple" = none
  c_FOUR : GlobC K mg "FOUR" ((eTup eStr) [("ne" : Str), ("se" : Str), ("sw" : Str), ("nw" : Str)])
  c_MAIN : GlobC K mg "MAIN" ((eTup eStr) [("n" : Str), ("e" : Str), ("s" : Str), ("w" : Str)])
/-! ### the mirror -/
noncomputable def m_common (a_ : Int) (b_ : Int) : Option Int :=
  whileM (fun d_ => (pure (!decide (d_.2 = (0 : Int))))) (fun d_ => (fromO (modG d_.1 d_.2) >>= fun v1 => pure (d_.2, v1)) >>= fun p_ =>
  pure (p_.1, p_.2)) (a_, b_) >>= fun d_2 =>
  (pure (absI d_2.1))
noncomputable def m_main_near (point_ : Int) : Option Str :=
  (fromO (divG (point_ + (4 : Int)) (8 : Int)) >>= fun v1 => fromO (modG v1 (4 : Int)) >>= fun v2 => fromO (L2.atI [("n" : Str), ("e" : Str), ("s" : Str), ("w" : Str)] v2))
noncomputable def m_eighth_name (point_ : Int) : Option Str :=
  (fromO (modG point_ (8 : Int)) >>= fun v1 => (if (decide (v1 = (0 : Int))) = true then (fromO (divG point_ (8 : Int)) >>= fun v2 => fromO (modG v2 (4 : Int)) >>= fun v3 => fromO (L2.atI [("n" : Str), ("e" : Str), ("s" : Str), ("w" : Str)] v3)) else (fromO (divG point_ (8 : Int)) >>= fun v5 => fromO (modG v5 (4 : Int)) >>= fun v6 => fromO (L2.atI [("ne" : Str), ("se" : Str), ("sw" : Str), ("nw" : Str)] v6))))
noncomputable def m_towards (point_ : Int) (step_ : Int) : Option Str :=
  whileM (fun d_ => (fromO (modG d_ (8 : Int)) >>= fun v1 => pure (!decide (v1 = (0 : Int))))) (fun d_ => (pure step_) >>= fun a_ =>
  pure (d_ + a_)) point_ >>= fun d_2 =>
  (fromO (divG d_2 (8 : Int)) >>= fun v2 => fromO (modG v2 (4 : Int)) >>= fun v3 => fromO (L2.atI [("n" : Str), ("e" : Str), ("s" : Str), ("w" : Str)] v3))
noncomputable def m_opposite (point_ : Int) : Option Int :=
  (fromO (modG (point_ + (16 : Int)) (32 : Int)))
noncomputable def m_turned_by (one_ : Int) (other_ : Int) : Option Int :=
  (fromO (modG (other_ - one_) (32 : Int))) >>= fun gap_ =>
  (pure (if (decide (gap_ ≤ (16 : Int))) = true then gap_ else (gap_ - (32 : Int))))
noncomputable def m_nearest_point (degrees_ : Int) : Option Int :=
  (fromO (mulG degrees_ (8 : Int))) >>= fun eight_ =>
  (fromO (divG eight_ (90 : Int)) >>= fun v2 => fromO (modG eight_ (90 : Int)) >>= fun v3 => pure (v2, v3)) >>= fun p_ =>
  (pure (decide (p_.2 = (45 : Int)))) >>= fun b => if b = true then ((fromO (modG p_.1 (2 : Int)) >>= fun v4 => fromO (modG (if (decide (v4 = (0 : Int))) = true then p_.1 else (p_.1 + (1 : Int))) (32 : Int)))) else
  (fromO (modG (p_.1 + (intB (decide ((45 : Int) < p_.2)))) (32 : Int)))
noncomputable def m__law_draws (script_ : List Int) (many_ : Int) : Option (List Int) :=
  (pure []) >>= fun draws_ =>
  (pure (7 : Int)) >>= fun mixed_ =>
  (fromO (rangeG 0 (script_.length : Int))) >>= fun xs => foldL (fun k_ d_ => (fromO (L2.atI script_ k_) >>= fun v2 => pure (absI v2)) >>= fun cell_ =>
  (fromO (mulG d_.1 (48271 : Int)) >>= fun v3 => fromO (modG cell_ (1000003 : Int)) >>= fun v4 => fromO (modG ((v3 + v4) + k_) (65537 : Int))) >>= fun mixed_2 =>
  (pure (0 : Int)) >>= fun rest_ =>
  (fromO (powG (10 : Int) (18 : Int)) >>= fun v6 => pure (decide (v6 ≤ cell_))) >>= fun t => (if t = true then ((pure cell_) >>= fun rest_2 =>
  pure (rest_2, d_.2)) else ((fromO (modG cell_ (997 : Int))) >>= fun a => fromO (appG d_.2 a) >>= fun draws_2 =>
  (fromO (mulG mixed_2 (69621 : Int)) >>= fun v8 => fromO (modG (v8 + (5 : Int)) (65521 : Int)) >>= fun v9 => fromO (modG v9 (997 : Int))) >>= fun a => fromO (appG draws_2 a) >>= fun draws_3 =>
  pure (rest_, draws_3))) >>= fun d_3 =>
  (fromO (rangeG 0 (60 : Int))) >>= fun xs => foldL (fun turn_ d_4 => (pure (decide ((0 : Int) < d_4.2))) >>= fun t => (if t = true then ((fromO (modG d_4.2 (997 : Int))) >>= fun a => fromO (appG d_4.1 a) >>= fun draws_4 =>
  (fromO (divG d_4.2 (997 : Int))) >>= fun rest_3 =>
  pure (draws_4, rest_3)) else (pure (d_4.1, d_4.2))) >>= fun d_6 =>
  pure (d_6.1, d_6.2)) xs (d_3.2, d_3.1) >>= fun d_5 =>
  pure (mixed_2, d_5.1)) xs (mixed_, draws_) >>= fun d_2 =>
  (fromO (rangeG 0 many_)) >>= fun xs => foldL (fun k_2 d_7 => (fromO (mulG d_7.1 (16807 : Int)) >>= fun v15 => fromO (modG ((v15 + k_2) + (1 : Int)) (65537 : Int))) >>= fun mixed_3 =>
  (fromO (modG mixed_3 (997 : Int))) >>= fun a => fromO (appG d_7.2 a) >>= fun draws_5 =>
  pure (mixed_3, draws_5)) xs (d_2.1, d_2.2) >>= fun d_8 =>
  (pure (cutA d_8.2 none (some many_)))
noncomputable def m__law_next (many_ : Int) : WM DW Int :=
  incAt >>= fun _ =>
  (rdAt >>= fun v1 => rdDraws >>= fun v2 => pure (decide ((v2.length : Int) < v1))) >>= fun b => if b = true then ((pure (0 : Int))) else
  (rdDraws >>= fun v3 => rdAt >>= fun v4 => fromO (L2.atI v3 (v4 - (1 : Int))) >>= fun v5 => fromO (modG v5 many_))
noncomputable def m__law_same (seen_ : PyData) (due_ : PyData) : Option Bool :=
  (pure [(seen_, due_)]) >>= fun waiting_ =>
  whileG (fun d_ => (fromO (Option.map not (eqG ((eLst (eT2 eAny eAny)) d_) ((eLst (eT2 eAny eAny)) []))))) (fun d_ => fromO (lastG d_) >>= fun p_ =>
  (pure (PyData.isDict p_.2)) >>= fun t => if t = true then (fromO none) else ((pure ((PyData.isTuple p_.2) || (PyData.isList p_.2))) >>= fun t => if t = true then (((if (!decide ((PyData.isTuple p_.1) = (PyData.isTuple p_.2))) = true then pure true else ((if (!decide ((PyData.isList p_.1) = (PyData.isList p_.2))) = true then pure true else (fromO (lenA p_.1) >>= fun v2 => fromO (lenA p_.2) >>= fun v3 => pure (!decide (v2 = v3))))))) >>= fun b => if b = true then ((pure false) >>= fun r => pure (.rt r)) else
  (fromO (lenA p_.2) >>= fun v6 => fromO (rangeG 0 v6) >>= fun v7 => compL (fun k_ => pure true) (fun k_ => (fromO (ixA p_.1 k_) >>= fun v8 => fromO (ixA p_.2 k_) >>= fun v9 => pure (v8, v9))) v7) >>= fun ys => fromO (catG (List.dropLast d_) ys) >>= fun waiting_2 =>
  pure (.nx waiting_2)) else (((if (!decide ((PyData.isBool p_.1) = (PyData.isBool p_.2))) = true then pure true else ((if (!decide ((PyData.isInt p_.1) = (PyData.isInt p_.2))) = true then pure true else ((if (!decide ((PyData.isStr p_.1) = (PyData.isStr p_.2))) = true then pure true else (fromO (Option.map not (eqG (eAny p_.1) (eAny p_.2)))))))))) >>= fun b => if b = true then ((pure false) >>= fun r => pure (.rt r)) else
  pure (.nx (List.dropLast d_))))) waiting_ >>= thenF fun d_2 =>
  (pure true)
noncomputable def m__law_fraction (top_ : Int) (under_ : Int) : Option (Int × Int) :=
  (pure ((absI top_), (absI under_))) >>= fun p_ =>
  whileM (fun d_ => (pure (decide ((0 : Int) < d_.2)))) (fun d_ => (fromO (modG d_.1 d_.2) >>= fun v1 => pure (d_.2, v1)) >>= fun p_2 =>
  pure (p_2.1, p_2.2)) (p_.1, p_.2) >>= fun d_2 =>
  ((if (decide ((0 : Int) < under_)) = true then (fromO (divG top_ d_2.1) >>= fun v2 => fromO (divG under_ d_2.1) >>= fun v3 => pure (v2, v3)) else (fromO (divG top_ d_2.1) >>= fun v4 => fromO (divG under_ d_2.1) >>= fun v5 => pure (((0 : Int) - v4), ((0 : Int) - v5)))))
noncomputable def m__law_names  : Option (List Str) :=
  (pure [("n" : Str), ("nbe" : Str), ("nne" : Str), ("nebn" : Str), ("ne" : Str), ("nebe" : Str), ("ene" : Str), ("ebn" : Str)]) >>= fun near_1_ =>
  (fromO (catG near_1_ [("e" : Str), ("ebs" : Str), ("ese" : Str), ("sebe" : Str), ("se" : Str), ("sebs" : Str), ("sse" : Str), ("sbe" : Str)]) >>= fun v1 => fromO (catG v1 [("s" : Str), ("sbw" : Str), ("ssw" : Str), ("swbs" : Str), ("sw" : Str), ("swbw" : Str), ("wsw" : Str), ("wbs" : Str), ("w" : Str), ("wbn" : Str), ("wnw" : Str), ("nwbw" : Str), ("nw" : Str), ("nwbn" : Str), ("nnw" : Str), ("nbw" : Str)]))
noncomputable def m__law_round (number_ : Int) : Option Int :=
  (fromO (divG number_ (32 : Int)) >>= fun v1 => fromO (mulG v1 (32 : Int)) >>= fun v2 => pure (number_ - v2))
noncomputable def m_fraction (a_ : Int) (b_ : Int) : Option (Int × Int) :=
  (fromO (m_common a_ b_)) >>= fun by_ =>
  (pure (decide (b_ < (0 : Int)))) >>= fun t => (if t = true then ((pure (-by_)) >>= fun by_2 =>
  pure by_2) else (pure by_)) >>= fun d_ =>
  (fromO (divG a_ d_) >>= fun v2 => fromO (divG b_ d_) >>= fun v3 => pure (v2, v3))
noncomputable def m_name_of (point_ : Int) : Option Str :=
  (fromO (modG point_ (32 : Int))) >>= fun point_2 =>
  (fromO (modG point_2 (4 : Int)) >>= fun v2 => pure (decide (v2 = (0 : Int)))) >>= fun b => if b = true then ((fromO (m_eighth_name point_2))) else
  (fromO (modG point_2 (4 : Int)) >>= fun v4 => pure (decide (v4 = (2 : Int)))) >>= fun b => if b = true then ((fromO (m_main_near point_2) >>= fun v5 => fromO (divG point_2 (8 : Int)) >>= fun v6 => fromO (modG v6 (4 : Int)) >>= fun v7 => fromO (L2.atI [("ne" : Str), ("se" : Str), ("sw" : Str), ("nw" : Str)] v7) >>= fun v8 => fromO (catSG v5 v8))) else
  (fromO (modG point_2 (4 : Int)) >>= fun v10 => pure (if (decide (v10 = (1 : Int))) = true then (point_2 - (1 : Int)) else (point_2 + (1 : Int)))) >>= fun base_ =>
  (fromO (modG base_ (32 : Int)) >>= fun v12 => fromO (m_eighth_name v12) >>= fun v11 => fromO (catSG v11 ("b" : Str)) >>= fun v13 => fromO (m_towards (base_ + (point_2 - base_)) (point_2 - base_)) >>= fun v14 => fromO (catSG v13 v14))
noncomputable def m_halfway (one_ : Int) (other_ : Int) : Option Int :=
  (fromO (m_turned_by one_ other_) >>= fun v1 => fromO (divG v1 (2 : Int)) >>= fun v2 => fromO (modG (one_ + v2) (32 : Int)))
noncomputable def m_can_sail (wind_ : Int) (course_ : Int) (close_ : Int) : Option Bool :=
  (fromO (m_turned_by wind_ course_) >>= fun v1 => pure (decide (close_ ≤ (absI v1))))
noncomputable def m_points_between (one_ : Int) (other_ : Int) : Option (List Int) :=
  (fromO (m_turned_by one_ other_)) >>= fun gap_ =>
  (pure (if (decide ((0 : Int) < gap_)) = true then (1 : Int) else (-(1 : Int)))) >>= fun step_ =>
  (fromO (rangeG 0 ((absI gap_) + (1 : Int))) >>= fun v2 => compL (fun k_ => pure true) (fun k_ => (fromO (mulG step_ k_) >>= fun v3 => fromO (modG (one_ + v3) (32 : Int)))) v2)
noncomputable def m__law_pick_i1 (rows_ : (List Int)) : WM DW Int :=
  (m__law_next (rows_.length : Int) >>= fun v1 => fromO (L2.atI rows_ v1))
noncomputable def m__law_pick_i2 (rows_ : (List Str)) : WM DW Str :=
  (m__law_next (rows_.length : Int) >>= fun v1 => fromO (L2.atI rows_ v1))
noncomputable def m__law_turn (one_ : Int) (other_ : Int) : Option Int :=
  (fromO (rangeG ((0 : Int) - (15 : Int)) (17 : Int)) >>= fun v1 => compL (fun by_ => (fromO (m__law_round (one_ + by_)) >>= fun v2 => fromO (m__law_round other_) >>= fun v3 => pure (decide (v2 = v3)))) (fun by_ => (pure ((absI by_), ((0 : Int) - by_)))) v1) >>= fun rows_ =>
  (fromO (minG (eT2 eInt eInt) rows_) >>= fun v4 => pure ((0 : Int) - v4.2))
noncomputable def m_all_names  : Option (List Str) :=
  (fromO (rangeG 0 (32 : Int)) >>= fun v1 => compL (fun point_ => pure true) (fun point_ => (fromO (m_name_of point_))) v1)
noncomputable def m_in_degrees (point_ : Int) : Option (Int × Int) :=
  (fromO (mulG point_ (360 : Int)) >>= fun v2 => fromO (m_fraction v2 (32 : Int)))
noncomputable def m_tacks_for (wind_ : Int) (course_ : Int) (close_ : Int) : Option (Int × Int) :=
  (pure (course_, course_)) >>= fun p_ =>
  whileM (fun d_ => (fromO (m_can_sail wind_ d_ close_) >>= fun v1 => pure (!v1))) (fun d_ => (pure (1 : Int)) >>= fun a_ =>
  pure (d_ - a_)) p_.1 >>= fun d_2 =>
  whileM (fun d_3 => (fromO (m_can_sail wind_ d_3 close_) >>= fun v2 => pure (!v2))) (fun d_3 => (pure (1 : Int)) >>= fun a_2 =>
  pure (d_3 + a_2)) p_.2 >>= fun d_4 =>
  (fromO (modG d_2 (32 : Int)) >>= fun v3 => fromO (modG d_4 (32 : Int)) >>= fun v4 => pure (v3, v4))
noncomputable def m_point_of (text_ : Str) : EM Int :=
  (fromO (m_all_names)) >>= fun names_ =>
  (pure (decide (text_ ∈ names_))) >>= fun b => if b = true then ((fromO (idxG names_ text_))) else
  (pure (0 : Int)) >>= fun long_ =>
  whileM (fun d_ => (fromO (lenSG text_) >>= fun v3 => (if (decide (d_ < v3)) = true then ((fromO ((compL (fun name_ => pure true) (fun name_ => (fromO (cutSG name_ none (some (d_ + (1 : Int)))) >>= fun v4 => fromO (cutSG text_ none (some (d_ + (1 : Int)))) >>= fun v5 => pure (decide (v4 = v5)))) names_) : Option _) : EM _) >>= fun v6 => pure (List.any v6 id)) else pure false))) (fun d_ => (pure (1 : Int)) >>= fun a_ =>
  pure (d_ + a_)) long_ >>= fun d_2 =>
  ((pure d_2) >>= fun i => fromO (smI i)) >>= fun a => throwE ("BadText" : Str) (eSmI a)
noncomputable def m__law_said (text_ : Str) : Option PyData :=
  tryE ("BadText" : Str) ((m_point_of text_ >>= fun v1 => pure (eInt v1))) (fun d => deInt d >>= fun er_ => (pure (if true = true then (eT2 eStr eInt) (("text" : Str), er_) else eNon ())))
noncomputable def m_lawb (script_ : List Int) : WM DW Bool :=
  (fromO (m__law_names)) >>= fun names_ =>
  (fromO (rangeG 0 (6 : Int))) >>= fun xs => loopL (fun turn_ d_ => (m__law_next (200 : Int) >>= fun v3 => m__law_next (32 : Int) >>= fun v4 => m__law_next (32 : Int) >>= fun v5 => pure ((v3 - (100 : Int)), v4, v5)) >>= fun p_ =>
  (fromO (m__law_round (p_.2.1 + (16 : Int))) >>= fun v7 => m__law_pick_i1 [p_.2.2, p_.2.2, v7, p_.2.1]) >>= fun other_ =>
  (fromO (m_name_of p_.1) >>= fun v8 => fromO (m_opposite p_.2.1) >>= fun v9 => fromO (m_turned_by p_.2.1 other_) >>= fun v10 => fromO (m_in_degrees p_.2.1) >>= fun v11 => pure (v8, v9, v10, v11)) >>= fun said_ =>
  (fromO (m__law_round p_.1) >>= fun v13 => fromO (L2.atI names_ v13) >>= fun v14 => fromO (m__law_round (p_.2.1 + (16 : Int))) >>= fun v15 => fromO (m__law_turn p_.2.1 other_) >>= fun v16 => fromO (mulG p_.2.1 (45 : Int)) >>= fun v18 => fromO (m__law_fraction v18 (4 : Int)) >>= fun v17 => fromO (m__law_same ((eT4 eStr eInt eInt (eT2 eInt eInt)) said_) ((eT4 eStr eInt eInt (eT2 eInt eInt)) (v14, v15, v16, v17))) >>= fun v12 => pure (!v12)) >>= fun b => if b = true then ((pure false) >>= fun r => pure (.rt r)) else
  (fromO (m__law_turn p_.2.1 other_)) >>= fun by_ =>
  (fromO (rangeG 0 ((absI by_) + (1 : Int))) >>= fun v20 => compL (fun k_ => pure true) (fun k_ => (fromO (m__law_round (p_.2.1 + (if (decide ((0 : Int) < by_)) = true then k_ else ((0 : Int) - k_)))))) v20) >>= fun between_ =>
  (fromO (m_halfway p_.2.1 other_) >>= fun v24 => fromO (m_points_between p_.2.1 other_) >>= fun v25 => fromO (divG by_ (2 : Int)) >>= fun v27 => fromO (m__law_round (p_.2.1 + v27)) >>= fun v26 => fromO (m__law_same ((eT2 eInt (eTup eInt)) (v24, v25)) ((eT2 eInt (eTup eInt)) (v26, between_))) >>= fun v23 => pure (!v23)) >>= fun b => if b = true then ((pure false) >>= fun r => pure (.rt r)) else
  (m__law_next (999 : Int) >>= fun v29 => m__law_next (20 : Int) >>= fun v30 => fromO (mulG (2 : Int) v30) >>= fun v31 => fromO (mulG (45 : Int) (v31 + (1 : Int))) >>= fun v32 => fromO (divG v32 (8 : Int)) >>= fun v33 => m__law_next (20 : Int) >>= fun v34 => fromO (mulG (45 : Int) v34) >>= fun v35 => m__law_pick_i1 [(v29 - (400 : Int)), v33, v35]) >>= fun degrees_ =>
  (pure []) >>= fun rows_ =>
  (fromO (rangeG ((0 : Int) - (64 : Int)) (96 : Int))) >>= fun xs => foldL (fun point_ d_3 => (fromO (mulG (45 : Int) point_) >>= fun v37 => fromO (mulG (4 : Int) degrees_) >>= fun v38 => fromO (divG point_ (2 : Int)) >>= fun v39 => fromO (mulG v39 (2 : Int)) >>= fun v40 => pure ((absI (v37 - v38)), (point_ - v40), point_)) >>= fun a => fromO (appG d_3 a) >>= fun rows_2 =>
  pure rows_2) xs rows_ >>= fun d_4 =>
  (m__law_next (17 : Int)) >>= fun close_ =>
  (fromO (rangeG 0 (33 : Int)) >>= fun v42 => compL (fun k_2 => (fromO (m__law_round (other_ - k_2)) >>= fun v44 => fromO (m__law_turn p_.2.1 v44) >>= fun v43 => pure (decide (close_ ≤ (absI v43))))) (fun k_2 => (pure k_2)) v42) >>= fun left_ =>
  (fromO (rangeG 0 (33 : Int)) >>= fun v45 => compL (fun k_3 => (fromO (m__law_round (other_ + k_3)) >>= fun v47 => fromO (m__law_turn p_.2.1 v47) >>= fun v46 => pure (decide (close_ ≤ (absI v46))))) (fun k_3 => (pure k_3)) v45) >>= fun right_ =>
  (fromO (minG (eT3 eInt eInt eInt) d_4) >>= fun v49 => fromO (m__law_round v49.2.2) >>= fun v48 => fromO (m__law_turn p_.2.1 other_) >>= fun v50 => fromO (L2.atI left_ (0 : Int)) >>= fun v52 => fromO (m__law_round (other_ - v52)) >>= fun v51 => fromO (L2.atI right_ (0 : Int)) >>= fun v54 => fromO (m__law_round (other_ + v54)) >>= fun v53 => pure (v48, (decide (close_ ≤ (absI v50))), (v51, v53))) >>= fun due_ =>
  (fromO (m_nearest_point degrees_) >>= fun v56 => fromO (m_can_sail p_.2.1 other_ close_) >>= fun v57 => fromO (m_tacks_for p_.2.1 other_ close_) >>= fun v58 => fromO (m__law_same ((eT3 eInt eBool (eT2 eInt eInt)) (v56, v57, v58)) ((eT3 eInt eBool (eT2 eInt eInt)) due_)) >>= fun v55 => pure (!v55)) >>= fun b => if b = true then ((pure false) >>= fun r => pure (.rt r)) else
  (fromO (rangeG 0 (4 : Int))) >>= fun xs => loopL (fun k_4 d_5 => (m__law_pick_i2 names_) >>= fun name_ =>
  (fromO (lenSG name_) >>= fun v62 => m__law_next (v62 + (1 : Int))) >>= fun at_ =>
  (fromO (cutSG name_ none (some at_)) >>= fun v64 => fromO (cutSG name_ none (some at_)) >>= fun v65 => m__law_pick_i2 [("n" : Str), ("e" : Str), ("s" : Str), ("w" : Str), ("b" : Str), ("x" : Str), ("N" : Str), (" " : Str)] >>= fun v66 => fromO (catSG v65 v66) >>= fun v67 => fromO (cutSG name_ (some at_) none) >>= fun v68 => fromO (catSG v67 v68) >>= fun v69 => fromO (catSG name_ ("b" : Str)) >>= fun v70 => fromO (revSG name_) >>= fun v71 => m__law_pick_i2 [name_, name_, v64, v69, v70, ("" : Str), v71]) >>= fun text_ =>
  (fromO (lenSG text_) >>= fun v72 => fromO (rangeG 0 (v72 + (1 : Int))) >>= fun v73 => compL (fun size_ => (compL (fun own_ => (fromO (cutSG own_ none (some size_)) >>= fun v74 => fromO (cutSG text_ none (some size_)) >>= fun v75 => (if (decide (v74 = v75)) = true then (fromO (lenSG own_) >>= fun v76 => pure (decide (size_ ≤ v76))) else pure false))) (fun own_ => (pure own_)) names_ >>= fun v78 => pure (!decide (v78 = [])))) (fun size_ => (pure size_)) v73) >>= fun heads_ =>
  (fromO (m__law_said text_) >>= fun v80 => (if (decide (text_ ∈ names_)) = true then (fromO (idxG names_ text_) >>= fun v81 => pure (eInt v81)) else (fromO (maxG eInt heads_) >>= fun v82 => pure ((eT2 eStr eInt) (("text" : Str), v82)))) >>= fun v83 => fromO (m__law_same v80 v83) >>= fun v79 => pure (!v79)) >>= fun b => if b = true then ((pure false) >>= fun r => pure (.rt r)) else
  pure (.nx ())) xs () >>= thenL fun d_6 =>
  pure (.nx ())) xs () >>= thenF fun d_2 =>
  (pure true)
noncomputable def m_law (script_ : List Int) : Option Bool := m__law_draws script_ 400 >>= fun ds => ((m_lawb script_).run (ds, 0)).map (·.1)
/-! ### the walk -/
section
variable {P : Program} {w : World} {K : PySem.W.Frag} {mg : Str → Option Value} {base : Heap}
theorem ok_init_BadText (T : Tp K mg) : FnOk P w K mg base CX0 1 T.I_BadText T.D_BadText ["self", "place"] (spE K "place" T.C_BadText okInt) :=
  init_int T.e_BadText T.fi_BadText scI_BadText (fun cdv A outer s H E' => pe_binit T.tB rfl (by decide) (by exact pa_cons (pe_var (i := 0) rfl (.inl rfl) (by decide) (by decide)) (pa_cons (pe_callTy call_str_int rfl T.z_str (by decide +kernel) (by exact pa_cons (pe_var (i := 1) rfl (.inl rfl) (by decide) (by decide)) pa_nil)) pa_nil))) (.inl rfl) (.inl rfl) (by decide) (by decide) rfl
theorem bd_common (T : Tp K mg) (cdv : Value) (A : Around) (outer : List Env) (s : Shared) (H : Hp) (E : XK) (hr : Room 0 (A.deeper (envOfC "common" (defScope (topS 4)) s.heap.objs.size T.f0 cdv))) (a_ : Int) (b_ : Int) : SF (cx0 P w K mg base N0 "common" (topS 4) T.f0 cdv A outer s H E) (m := Option) wd0 W0 H [some (.frz (eInt a_)), some (.frz (eInt b_))] (defBody (topS 4)) eInt (m_common a_ b_) :=
  have nd := sc0.nd
  (SL.atR (R' := [some (.frz (eInt a_)), some (.frz (eInt b_))]) (SL.asc (sl_whP (Rl := fun d : Int × Int => [some (.frz (eInt d.1)), some (.frz (eInt d.2))]) (d0 := (a_, b_)) PassesOwn.never (subC (subC subE)) (fun d_ => (ST.eq (SC.t (sc_neT eq_int (by decide) hr.units (SX.b (se_var (ea := eInt) (d := d_.2) (i := 1) rfl (.inl rfl) rfl rfl rfl)) (SX.b se_int)) rfl) (by first | with_reducible rfl | (simp only [pure_bind, bind_assoc, bind_pure, tt_if, bif_and, bif_or]; done) | (simp only [pure_bind, bind_assoc, bind_pure, tt_if, bif_and, bif_or]; with_reducible rfl) | (simp only [pure_bind, bind_assoc, bind_pure, tt_if, bif_and, bif_or]; rfl) | rfl))) (fun d_ => (SL.atR (R' := [some (.frz (eInt d_.1)), some (.frz (eInt d_.2))]) (SL.asc (sl_par2 (i := 0) (j := 1) rfl nd rfl rfl (by decide) rfl rfl (ltAll 2 rfl rfl) (SM.eq (sm_consF (se_var (ea := eInt) (d := d_.2) (i := 1) rfl (.inl rfl) rfl rfl rfl) (sm_oneF (se_mod (SX.b (se_var (ea := eInt) (d := d_.1) (i := 0) rfl (.inl rfl) rfl rfl rfl)) (SX.b (se_var (ea := eInt) (d := d_.2) (i := 1) rfl (.inl rfl) rfl rfl rfl))))) (by first | with_reducible rfl | (simp only [pure_bind, bind_assoc, bind_pure, tt_if, bif_and, bif_or]; done) | (simp only [pure_bind, bind_assoc, bind_pure, tt_if, bif_and, bif_or]; with_reducible rfl) | (simp only [pure_bind, bind_assoc, bind_pure, tt_if, bif_and, bif_or]; rfl) | rfl)) (fun _ => rfl) (fun p_ => (sp_nil (p_.1, p_.2) (subC (subC subE)))) rfl rfl)) rfl)) (fun d_2 => (SL.atR (R' := [some (.frz (eInt d_2.1)), some (.frz (eInt d_2.2))]) (sf_ret (SX.eq (se_absI rfl T.z_abs (SX.b (se_var (ea := eInt) (d := d_2.1) (i := 0) rfl (.inl rfl) rfl rfl rfl))) (by first | with_reducible rfl | (simp only [pure_bind, bind_assoc, bind_pure, tt_if, bif_and, bif_or]; done) | (simp only [pure_bind, bind_assoc, bind_pure, tt_if, bif_and, bif_or]; with_reducible rfl) | (simp only [pure_bind, bind_assoc, bind_pure, tt_if, bif_and, bif_or]; rfl) | rfl))) rfl)))) rfl)
theorem ok_common (T : Tp K mg) : FnOk P w K mg base CX0 1 T.f0 T.d0 p0 (spP K w (fun g : Int × Int => [eInt g.1, eInt g.2]) eInt (fun g => m_common g.1 g.2)) :=
  fn_pure T.F0 sc0 (fun _ => rfl) (by decide) fun cdv A outer s H E hr g => bd_common T cdv A outer s H E hr g.1 g.2
theorem bd_main_near (T : Tp K mg) (cdv : Value) (A : Around) (outer : List Env) (s : Shared) (H : Hp) (E : XK) (hr : Room 0 (A.deeper (envOfC "main_near" (defScope (topS 9)) s.heap.objs.size T.f1 cdv))) (point_ : Int) : SF (cx0 P w K mg base N1 "main_near" (topS 9) T.f1 cdv A outer s H E) (m := Option) wd0 W0 H [some (.frz (eInt point_))] (defBody (topS 9)) eStr (m_main_near point_) :=
  have nd := sc1.nd
  (SL.atR (R' := [some (.frz (eInt point_))]) (sf_ret (SX.eq (se_ixT (ea := eStr) (SX.b (se_glob (ea := (eTup eStr)) (d := [("n" : Str), ("e" : Str), ("s" : Str), ("w" : Str)]) rfl T.c_MAIN rfl)) (SX.b (se_mod (SX.b (se_fdiv (SX.b (se_add (SX.b (se_var (ea := eInt) (d := point_) (i := 0) rfl (.inl rfl) rfl rfl rfl)) (SX.b se_int))) (SX.b se_int))) (SX.b se_int))) (fun _ _ => rfl)) (by first | with_reducible rfl | (simp only [pure_bind, bind_assoc, bind_pure, tt_if, bif_and, bif_or]; done) | (simp only [pure_bind, bind_assoc, bind_pure, tt_if, bif_and, bif_or]; with_reducible rfl) | (simp only [pure_bind, bind_assoc, bind_pure, tt_if, bif_and, bif_or]; rfl) | rfl))) rfl)
theorem ok_main_near (T : Tp K mg) : FnOk P w K mg base CX0 1 T.f1 T.d1 p1 (spP K w (fun g : Int => [eInt g]) eStr (fun g => m_main_near g)) :=
  fn_pure T.F1 sc1 (fun _ => rfl) (by decide) fun cdv A outer s H E hr g => bd_main_near T cdv A outer s H E hr g
theorem bd_eighth_name (T : Tp K mg) (cdv : Value) (A : Around) (outer : List Env) (s : Shared) (H : Hp) (E : XK) (hr : Room 0 (A.deeper (envOfC "eighth_name" (defScope (topS 10)) s.heap.objs.size T.f2 cdv))) (point_ : Int) : SF (cx0 P w K mg base N2 "eighth_name" (topS 10) T.f2 cdv A outer s H E) (m := Option) wd0 W0 H [some (.frz (eInt point_))] (defBody (topS 10)) eStr (m_eighth_name point_) :=
  have nd := sc2.nd
  (SL.atR (R' := [some (.frz (eInt point_))]) (sf_ret (SX.eq (sx_if kF_ok (SC.t (sc_eqT eq_int (by decide) hr.units (SX.b (se_mod (SX.b (se_var (ea := eInt) (d := point_) (i := 0) rfl (.inl rfl) rfl rfl rfl)) (SX.b se_int))) (SX.b se_int)) rfl) (se_ixT (ea := eStr) (SX.b (se_glob (ea := (eTup eStr)) (d := [("n" : Str), ("e" : Str), ("s" : Str), ("w" : Str)]) rfl T.c_MAIN rfl)) (SX.b (se_mod (SX.b (se_fdiv (SX.b (se_var (ea := eInt) (d := point_) (i := 0) rfl (.inl rfl) rfl rfl rfl)) (SX.b se_int))) (SX.b se_int))) (fun _ _ => rfl)) (se_ixT (ea := eStr) (SX.b (se_glob (ea := (eTup eStr)) (d := [("ne" : Str), ("se" : Str), ("sw" : Str), ("nw" : Str)]) rfl T.c_FOUR rfl)) (SX.b (se_mod (SX.b (se_fdiv (SX.b (se_var (ea := eInt) (d := point_) (i := 0) rfl (.inl rfl) rfl rfl rfl)) (SX.b se_int))) (SX.b se_int))) (fun _ _ => rfl))) (by first | with_reducible rfl | (simp only [pure_bind, bind_assoc, bind_pure, tt_if, bif_and, bif_or]; done) | (simp only [pure_bind, bind_assoc, bind_pure, tt_if, bif_and, bif_or]; with_reducible rfl) | (simp only [pure_bind, bind_assoc, bind_pure, tt_if, bif_and, bif_or]; rfl) | rfl))) rfl)
theorem ok_eighth_name (T : Tp K mg) : FnOk P w K mg base CX0 1 T.f2 T.d2 p2 (spP K w (fun g : Int => [eInt g]) eStr (fun g => m_eighth_name g)) :=
  fn_pure T.F2 sc2 (fun _ => rfl) (by decide) fun cdv A outer s H E hr g => bd_eighth_name T cdv A outer s H E hr g
theorem bd_towards (T : Tp K mg) (cdv : Value) (A : Around) (outer : List Env) (s : Shared) (H : Hp) (E : XK) (hr : Room 0 (A.deeper (envOfC "towards" (defScope (topS 11)) s.heap.objs.size T.f3 cdv))) (point_ : Int) (step_ : Int) : SF (cx0 P w K mg base N3 "towards" (topS 11) T.f3 cdv A outer s H E) (m := Option) wd0 W0 H [some (.frz (eInt point_)), some (.frz (eInt step_))] (defBody (topS 11)) eStr (m_towards point_ step_) :=
  have nd := sc3.nd
  (SL.atR (R' := [some (.frz (eInt point_)), some (.frz (eInt step_))]) (SL.asc (sl_whP (Rl := fun d : Int => [some (.frz (eInt d)), some (.frz (eInt step_))]) (d0 := point_) PassesOwn.never (subC (subC subE)) (fun d_ => (ST.eq (SC.t (sc_neT eq_int (by decide) hr.units (SX.b (se_mod (SX.b (se_var (ea := eInt) (d := d_) (i := 0) rfl (.inl rfl) rfl rfl rfl)) (SX.b se_int))) (SX.b se_int)) rfl) (by first | with_reducible rfl | (simp only [pure_bind, bind_assoc, bind_pure, tt_if, bif_and, bif_or]; done) | (simp only [pure_bind, bind_assoc, bind_pure, tt_if, bif_and, bif_or]; with_reducible rfl) | (simp only [pure_bind, bind_assoc, bind_pure, tt_if, bif_and, bif_or]; rfl) | rfl))) (fun d_ => (SL.atR (R' := [some (.frz (eInt d_)), some (.frz (eInt step_))]) (SL.asc (sl_augI (i := 0) (n := d_) ip_add nd rfl (.inl rfl) rfl (ltR 2 rfl rfl) (se_var (ea := eInt) (d := step_) (i := 1) rfl (.inl rfl) rfl rfl rfl) (fun a_ => (sp_nil (d_ + a_) (subC (subC subE)))) (.inr rfl))) rfl)) (fun d_2 => (SL.atR (R' := [some (.frz (eInt d_2)), some (.frz (eInt step_))]) (sf_ret (SX.eq (se_ixT (ea := eStr) (SX.b (se_glob (ea := (eTup eStr)) (d := [("n" : Str), ("e" : Str), ("s" : Str), ("w" : Str)]) rfl T.c_MAIN rfl)) (SX.b (se_mod (SX.b (se_fdiv (SX.b (se_var (ea := eInt) (d := d_2) (i := 0) rfl (.inl rfl) rfl rfl rfl)) (SX.b se_int))) (SX.b se_int))) (fun _ _ => rfl)) (by first | with_reducible rfl | (simp only [pure_bind, bind_assoc, bind_pure, tt_if, bif_and, bif_or]; done) | (simp only [pure_bind, bind_assoc, bind_pure, tt_if, bif_and, bif_or]; with_reducible rfl) | (simp only [pure_bind, bind_assoc, bind_pure, tt_if, bif_and, bif_or]; rfl) | rfl))) rfl)))) rfl)
theorem ok_towards (T : Tp K mg) : FnOk P w K mg base CX0 1 T.f3 T.d3 p3 (spP K w (fun g : Int × Int => [eInt g.1, eInt g.2]) eStr (fun g => m_towards g.1 g.2)) :=
  fn_pure T.F3 sc3 (fun _ => rfl) (by decide) fun cdv A outer s H E hr g => bd_towards T cdv A outer s H E hr g.1 g.2
theorem bd_opposite (T : Tp K mg) (cdv : Value) (A : Around) (outer : List Env) (s : Shared) (H : Hp) (E : XK) (hr : Room 0 (A.deeper (envOfC "opposite" (defScope (topS 15)) s.heap.objs.size T.f4 cdv))) (point_ : Int) : SF (cx0 P w K mg base N4 "opposite" (topS 15) T.f4 cdv A outer s H E) (m := Option) wd0 W0 H [some (.frz (eInt point_))] (defBody (topS 15)) eInt (m_opposite point_) :=
  have nd := sc4.nd
  (SL.atR (R' := [some (.frz (eInt point_))]) (sf_ret (SX.eq (se_mod (SX.b (se_add (SX.b (se_var (ea := eInt) (d := point_) (i := 0) rfl (.inl rfl) rfl rfl rfl)) (SX.b se_int))) (SX.b se_int)) (by first | with_reducible rfl | (simp only [pure_bind, bind_assoc, bind_pure, tt_if, bif_and, bif_or]; done) | (simp only [pure_bind, bind_assoc, bind_pure, tt_if, bif_and, bif_or]; with_reducible rfl) | (simp only [pure_bind, bind_assoc, bind_pure, tt_if, bif_and, bif_or]; rfl) | rfl))) rfl)
theorem ok_opposite (T : Tp K mg) : FnOk P w K mg base CX0 1 T.f4 T.d4 p4 (spP K w (fun g : Int => [eInt g]) eInt (fun g => m_opposite g)) :=
  fn_pure T.F4 sc4 (fun _ => rfl) (by decide) fun cdv A outer s H E hr g => bd_opposite T cdv A outer s H E hr g
theorem bd_turned_by (T : Tp K mg) (cdv : Value) (A : Around) (outer : List Env) (s : Shared) (H : Hp) (E : XK) (hr : Room 0 (A.deeper (envOfC "turned_by" (defScope (topS 16)) s.heap.objs.size T.f5 cdv))) (one_ : Int) (other_ : Int) : SF (cx0 P w K mg base N5 "turned_by" (topS 16) T.f5 cdv A outer s H E) (m := Option) wd0 W0 H [some (.frz (eInt one_)), some (.frz (eInt other_)), none] (defBody (topS 16)) eInt (m_turned_by one_ other_) :=
  have nd := sc5.nd
  (SL.atR (R' := [some (.frz (eInt one_)), some (.frz (eInt other_)), none]) (SL.asc (sl_set (i := 2) (ea := eInt) nd rfl (.inl rfl) (ltR 3 rfl rfl) (SX.eq (se_mod (SX.b (se_sub (SX.b (se_var (ea := eInt) (d := other_) (i := 1) rfl (.inl rfl) rfl rfl rfl)) (SX.b (se_var (ea := eInt) (d := one_) (i := 0) rfl (.inl rfl) rfl rfl rfl)))) (SX.b se_int)) (by first | with_reducible rfl | (simp only [pure_bind, bind_assoc, bind_pure, tt_if, bif_and, bif_or]; done) | (simp only [pure_bind, bind_assoc, bind_pure, tt_if, bif_and, bif_or]; with_reducible rfl) | (simp only [pure_bind, bind_assoc, bind_pure, tt_if, bif_and, bif_or]; rfl) | rfl)) (fun gap_ => (SL.atR (R' := [some (.frz (eInt one_)), some (.frz (eInt other_)), some (.frz (eInt gap_))]) (sf_ret (SX.eq (sx_if kF_ok (SC.t (sc_le (SX.b (se_var (ea := eInt) (d := gap_) (i := 2) rfl (.inl rfl) rfl rfl rfl)) (SX.b se_int)) rfl) (se_var (ea := eInt) (d := gap_) (i := 2) rfl (.inl rfl) rfl rfl rfl) (se_sub (SX.b (se_var (ea := eInt) (d := gap_) (i := 2) rfl (.inl rfl) rfl rfl rfl)) (SX.b se_int))) (by first | with_reducible rfl | (simp only [pure_bind, bind_assoc, bind_pure, tt_if, bif_and, bif_or]; done) | (simp only [pure_bind, bind_assoc, bind_pure, tt_if, bif_and, bif_or]; with_reducible rfl) | (simp only [pure_bind, bind_assoc, bind_pure, tt_if, bif_and, bif_or]; rfl) | rfl))) rfl)) rfl (.inr rfl))) rfl)
theorem ok_turned_by (T : Tp K mg) : FnOk P w K mg base CX0 1 T.f5 T.d5 p5 (spP K w (fun g : Int × Int => [eInt g.1, eInt g.2]) eInt (fun g => m_turned_by g.1 g.2)) :=
  fn_pure T.F5 sc5 (fun _ => rfl) (by decide) fun cdv A outer s H E hr g => bd_turned_by T cdv A outer s H E hr g.1 g.2
theorem bd_nearest_point (T : Tp K mg) (cdv : Value) (A : Around) (outer : List Env) (s : Shared) (H : Hp) (E : XK) (hr : Room 0 (A.deeper (envOfC "nearest_point" (defScope (topS 19)) s.heap.objs.size T.f6 cdv))) (degrees_ : Int) : SF (cx0 P w K mg base N6 "nearest_point" (topS 19) T.f6 cdv A outer s H E) (m := Option) wd0 W0 H [some (.frz (eInt degrees_)), none, none, none] (defBody (topS 19)) eInt (m_nearest_point degrees_) :=
  have nd := sc6.nd
  (SL.atR (R' := [some (.frz (eInt degrees_)), none, none, none]) (SL.asc (sl_set (i := 1) (ea := eInt) nd rfl (.inl rfl) (ltR 4 rfl rfl) (SX.eq (se_mul (SX.b (se_var (ea := eInt) (d := degrees_) (i := 0) rfl (.inl rfl) rfl rfl rfl)) (SX.b se_int)) (by first | with_reducible rfl | (simp only [pure_bind, bind_assoc, bind_pure, tt_if, bif_and, bif_or]; done) | (simp only [pure_bind, bind_assoc, bind_pure, tt_if, bif_and, bif_or]; with_reducible rfl) | (simp only [pure_bind, bind_assoc, bind_pure, tt_if, bif_and, bif_or]; rfl) | rfl)) (fun eight_ => (SL.atR (R' := [some (.frz (eInt degrees_)), some (.frz (eInt eight_)), none, none]) (SL.asc (sl_par2 (i := 2) (j := 3) rfl nd rfl rfl (by decide) rfl rfl (ltAll 4 rfl rfl) (SM.eq (sm_consF (se_fdiv (SX.b (se_var (ea := eInt) (d := eight_) (i := 1) rfl (.inl rfl) rfl rfl rfl)) (SX.b se_int)) (sm_oneF (se_mod (SX.b (se_var (ea := eInt) (d := eight_) (i := 1) rfl (.inl rfl) rfl rfl rfl)) (SX.b se_int)))) (by first | with_reducible rfl | (simp only [pure_bind, bind_assoc, bind_pure, tt_if, bif_and, bif_or]; done) | (simp only [pure_bind, bind_assoc, bind_pure, tt_if, bif_and, bif_or]; with_reducible rfl) | (simp only [pure_bind, bind_assoc, bind_pure, tt_if, bif_and, bif_or]; rfl) | rfl)) (fun _ => rfl) (fun p_ => (SL.atR (R' := [some (.frz (eInt degrees_)), some (.frz (eInt eight_)), some (.frz (eInt p_.1)), some (.frz (eInt p_.2))]) (sf_ifR (ST.eq (SC.t (sc_eqT eq_int (by decide) hr.units (SX.b (se_var (ea := eInt) (d := p_.2) (i := 3) rfl (.inl rfl) rfl rfl rfl)) (SX.b se_int)) rfl) (by first | with_reducible rfl | (simp only [pure_bind, bind_assoc, bind_pure, tt_if, bif_and, bif_or]; done) | (simp only [pure_bind, bind_assoc, bind_pure, tt_if, bif_and, bif_or]; with_reducible rfl) | (simp only [pure_bind, bind_assoc, bind_pure, tt_if, bif_and, bif_or]; rfl) | rfl)) (SL.atR (R' := [some (.frz (eInt degrees_)), some (.frz (eInt eight_)), some (.frz (eInt p_.1)), some (.frz (eInt p_.2))]) (sf_ret (SX.eq (se_mod (SX.b (sx_if kF_ok (SC.t (sc_eqT eq_int (by decide) hr.units (SX.b (se_mod (SX.b (se_var (ea := eInt) (d := p_.1) (i := 2) rfl (.inl rfl) rfl rfl rfl)) (SX.b se_int))) (SX.b se_int)) rfl) (se_var (ea := eInt) (d := p_.1) (i := 2) rfl (.inl rfl) rfl rfl rfl) (se_add (SX.b (se_var (ea := eInt) (d := p_.1) (i := 2) rfl (.inl rfl) rfl rfl rfl)) (SX.b se_int)))) (SX.b se_int)) (by first | with_reducible rfl | (simp only [pure_bind, bind_assoc, bind_pure, tt_if, bif_and, bif_or]; done) | (simp only [pure_bind, bind_assoc, bind_pure, tt_if, bif_and, bif_or]; with_reducible rfl) | (simp only [pure_bind, bind_assoc, bind_pure, tt_if, bif_and, bif_or]; rfl) | rfl))) rfl) (SL.atR (R' := [some (.frz (eInt degrees_)), some (.frz (eInt eight_)), some (.frz (eInt p_.1)), some (.frz (eInt p_.2))]) (sf_ret (SX.eq (se_mod (SX.b (se_add (SX.b (se_var (ea := eInt) (d := p_.1) (i := 2) rfl (.inl rfl) rfl rfl rfl)) (SX.b (se_intI rfl T.z_int (SX.b (SC.e (sc_gt (SX.b (se_var (ea := eInt) (d := p_.2) (i := 3) rfl (.inl rfl) rfl rfl rfl)) (SX.b se_int)) rfl)))))) (SX.b se_int)) (by first | with_reducible rfl | (simp only [pure_bind, bind_assoc, bind_pure, tt_if, bif_and, bif_or]; done) | (simp only [pure_bind, bind_assoc, bind_pure, tt_if, bif_and, bif_or]; with_reducible rfl) | (simp only [pure_bind, bind_assoc, bind_pure, tt_if, bif_and, bif_or]; rfl) | rfl))) rfl)) rfl)) rfl rfl)) rfl)) rfl (.inr rfl))) rfl)
theorem ok_nearest_point (T : Tp K mg) : FnOk P w K mg base CX0 1 T.f6 T.d6 p6 (spP K w (fun g : Int => [eInt g]) eInt (fun g => m_nearest_point g)) :=
  fn_pure T.F6 sc6 (fun _ => rfl) (by decide) fun cdv A outer s H E hr g => bd_nearest_point T cdv A outer s H E hr g
theorem bd__law_draws (T : Tp K mg) (cdv : Value) (A : Around) (outer : List Env) (s : Shared) (H : Hp) (E : XK) (hr : Room 0 (A.deeper (envOfC "_law_draws" (defScope (topS 24)) s.heap.objs.size T.f7 cdv))) (script_ : List Int) (many_ : Int) : SF (cx0 P w K mg base N7 "_law_draws" (topS 24) T.f7 cdv A outer s H E) (m := Option) wd0 W0 H [some (.scr script_), some (.frz (eInt many_)), none, none, none, none, none, none] (defBody (topS 24)) (eLst eInt) (m__law_draws script_ many_) :=
  have nd := sc7.nd
  (SL.atR (R' := [some (.scr script_), some (.frz (eInt many_)), none, none, none, none, none, none]) (SL.asc (sl_setO (i := 2) (ea := eInt) nd rfl (.inl rfl) (ltR 8 rfl rfl) (so_nil (ea := eInt)) (fun draws_ => (SL.atR (R' := [some (.scr script_), some (.frz (eInt many_)), some (.own (List.map eInt draws_)), none, none, none, none, none]) (SL.asc (sl_set (i := 3) (ea := eInt) nd rfl (.inl rfl) (ltR 8 rfl rfl) se_int (fun mixed_ => (SL.atR (R' := [some (.scr script_), some (.frz (eInt many_)), some (.own (List.map eInt draws_)), some (.frz (eInt mixed_)), none, none, none, none]) (SL.asc2 (sl_forP (Rl := fun d : Int × (List Int) => [some (.scr script_), some (.frz (eInt many_)), some (.own (List.map eInt d.2)), some (.frz (eInt d.1)), none, none, none, none]) (d0 := (mixed_, draws_)) (g := (gName 4)) (is := [4]) (dts := (fun a => [eInt a])) PassesOwn.never rfl (SI.eq (si_range1 rfl T.z_range (SX.b (se_lenScr (i := 0) rfl T.z_len rfl (.inl rfl) rfl rfl rfl rfl))) (by first | with_reducible rfl | (simp only [pure_bind, bind_assoc, bind_pure, tt_if, bif_and, bif_or]; done) | (simp only [pure_bind, bind_assoc, bind_pure, tt_if, bif_and, bif_or]; with_reducible rfl) | (simp only [pure_bind, bind_assoc, bind_pure, tt_if, bif_and, bif_or]; rfl) | rfl)) (pg_name (i := 4) nd rfl (.inl rfl)) g_name (subC (subC (subC (subC (subN (subN (subN (subN subE)))))))) (fun _ => ltAll 8 rfl rfl) (fun k_ d_ => (SL.atR (R' := [some (.scr script_), some (.frz (eInt many_)), some (.own (List.map eInt d_.2)), some (.frz (eInt d_.1)), some (.frz (eInt k_)), none, none, none]) (SL.asc (sl_set (i := 5) (ea := eInt) nd rfl (.inl rfl) (ltR 8 rfl rfl) (SX.eq (se_absI rfl T.z_abs (SX.b (se_int1 rfl T.z_int (SX.b (se_ixScr (i := 0) rfl (.inl rfl) rfl rfl rfl (SX.b (se_var (ea := eInt) (d := k_) (i := 4) rfl (.inl rfl) rfl rfl rfl)) (fun _ _ => rfl)))))) (by first | with_reducible rfl | (simp only [pure_bind, bind_assoc, bind_pure, tt_if, bif_and, bif_or]; done) | (simp only [pure_bind, bind_assoc, bind_pure, tt_if, bif_and, bif_or]; with_reducible rfl) | (simp only [pure_bind, bind_assoc, bind_pure, tt_if, bif_and, bif_or]; rfl) | rfl)) (fun cell_ => (SL.atR (R' := [some (.scr script_), some (.frz (eInt many_)), some (.own (List.map eInt d_.2)), some (.frz (eInt d_.1)), some (.frz (eInt k_)), some (.frz (eInt cell_)), none, none]) (SL.asc (sl_set (i := 3) (ea := eInt) nd rfl (.inl rfl) (ltR 8 rfl rfl) (SX.eq (se_mod (SX.b (se_int1 rfl T.z_int (SX.b (se_add (SX.b (se_add (SX.b (se_mul (SX.b (se_var (ea := eInt) (d := d_.1) (i := 3) rfl (.inl rfl) rfl rfl rfl)) (SX.b se_int))) (SX.b (se_mod (SX.b (se_var (ea := eInt) (d := cell_) (i := 5) rfl (.inl rfl) rfl rfl rfl)) (SX.b se_int))))) (SX.b (se_var (ea := eInt) (d := k_) (i := 4) rfl (.inl rfl) rfl rfl rfl)))))) (SX.b se_int)) (by first | with_reducible rfl | (simp only [pure_bind, bind_assoc, bind_pure, tt_if, bif_and, bif_or]; done) | (simp only [pure_bind, bind_assoc, bind_pure, tt_if, bif_and, bif_or]; with_reducible rfl) | (simp only [pure_bind, bind_assoc, bind_pure, tt_if, bif_and, bif_or]; rfl) | rfl)) (fun mixed_2 => (SL.atR (R' := [some (.scr script_), some (.frz (eInt many_)), some (.own (List.map eInt d_.2)), some (.frz (eInt mixed_2)), some (.frz (eInt k_)), some (.frz (eInt cell_)), none, none]) (SL.asc (sl_set (i := 6) (ea := eInt) nd rfl (.inl rfl) (ltR 8 rfl rfl) se_int (fun rest_ => (SL.atR (R' := [some (.scr script_), some (.frz (eInt many_)), some (.own (List.map eInt d_.2)), some (.frz (eInt mixed_2)), some (.frz (eInt k_)), some (.frz (eInt cell_)), some (.frz (eInt rest_)), none]) (SL.asc2 (sl_ifP (Rn := fun d : Int × (List Int) => [some (.scr script_), some (.frz (eInt many_)), some (.own (List.map eInt d.2)), some (.frz (eInt mixed_2)), some (.frz (eInt k_)), some (.frz (eInt cell_)), some (.frz (eInt d.1)), none]) (ST.eq (SC.t (sc_ge (SX.b (se_var (ea := eInt) (d := cell_) (i := 5) rfl (.inl rfl) rfl rfl rfl)) (SX.b (se_pow (SX.b se_int) (SX.b se_int)))) rfl) (by first | with_reducible rfl | (simp only [pure_bind, bind_assoc, bind_pure, tt_if, bif_and, bif_or]; done) | (simp only [pure_bind, bind_assoc, bind_pure, tt_if, bif_and, bif_or]; with_reducible rfl) | (simp only [pure_bind, bind_assoc, bind_pure, tt_if, bif_and, bif_or]; rfl) | rfl)) (SL.atR (R' := [some (.scr script_), some (.frz (eInt many_)), some (.own (List.map eInt d_.2)), some (.frz (eInt mixed_2)), some (.frz (eInt k_)), some (.frz (eInt cell_)), some (.frz (eInt rest_)), none]) (SL.asc (sl_set (i := 6) (ea := eInt) nd rfl (.inl rfl) (ltR 8 rfl rfl) (se_var (ea := eInt) (d := cell_) (i := 5) rfl (.inl rfl) rfl rfl rfl) (fun rest_2 => (sp_nil (rest_2, d_.2) (subC (subC (subC (subC (subC (subC (subC (subN subE)))))))))) rfl (.inr rfl))) rfl) (SL.atR (R' := [some (.scr script_), some (.frz (eInt many_)), some (.own (List.map eInt d_.2)), some (.frz (eInt mixed_2)), some (.frz (eInt k_)), some (.frz (eInt cell_)), some (.frz (eInt rest_)), none]) (SL.asc2 (sl_append (i := 2) (ea := eInt) (xs := d_.2) rfl (.inl rfl) rfl rfl rfl (SX.eq (se_mod (SX.b (se_int1 rfl T.z_int (SX.b (se_var (ea := eInt) (d := cell_) (i := 5) rfl (.inl rfl) rfl rfl rfl)))) (SX.b se_int)) (by first | with_reducible rfl | (simp only [pure_bind, bind_assoc, bind_pure, tt_if, bif_and, bif_or]; done) | (simp only [pure_bind, bind_assoc, bind_pure, tt_if, bif_and, bif_or]; with_reducible rfl) | (simp only [pure_bind, bind_assoc, bind_pure, tt_if, bif_and, bif_or]; rfl) | rfl)) (fun draws_2 => (SL.atR (R' := [some (.scr script_), some (.frz (eInt many_)), some (.own (List.map eInt draws_2)), some (.frz (eInt mixed_2)), some (.frz (eInt k_)), some (.frz (eInt cell_)), some (.frz (eInt rest_)), none]) (SL.asc2 (sl_append (i := 2) (ea := eInt) (xs := draws_2) rfl (.inl rfl) rfl rfl rfl (SX.eq (se_mod (SX.b (se_mod (SX.b (se_int1 rfl T.z_int (SX.b (se_add (SX.b (se_mul (SX.b (se_var (ea := eInt) (d := mixed_2) (i := 3) rfl (.inl rfl) rfl rfl rfl)) (SX.b se_int))) (SX.b se_int))))) (SX.b se_int))) (SX.b se_int)) (by first | with_reducible rfl | (simp only [pure_bind, bind_assoc, bind_pure, tt_if, bif_and, bif_or]; done) | (simp only [pure_bind, bind_assoc, bind_pure, tt_if, bif_and, bif_or]; with_reducible rfl) | (simp only [pure_bind, bind_assoc, bind_pure, tt_if, bif_and, bif_or]; rfl) | rfl)) (fun draws_3 => (sp_nil (rest_, draws_3) (subC (subC (subC (subC (subC (subC (subC (subN subE)))))))))) rfl rfl rfl rfl rfl)) rfl)) rfl rfl rfl rfl rfl)) rfl) (fun d_3 => (SL.atR (R' := [some (.scr script_), some (.frz (eInt many_)), some (.own (List.map eInt d_3.2)), some (.frz (eInt mixed_2)), some (.frz (eInt k_)), some (.frz (eInt cell_)), some (.frz (eInt d_3.1)), none]) (SL.asc2 (sl_forP (Rl := fun d : (List Int) × Int => [some (.scr script_), some (.frz (eInt many_)), some (.own (List.map eInt d.1)), some (.frz (eInt mixed_2)), some (.frz (eInt k_)), some (.frz (eInt cell_)), some (.frz (eInt d.2)), none]) (d0 := (d_3.2, d_3.1)) (g := (gName 7)) (is := [7]) (dts := (fun a => [eInt a])) PassesOwn.never rfl (SI.eq (si_range1 rfl T.z_range (SX.b se_int)) (by first | with_reducible rfl | (simp only [pure_bind, bind_assoc, bind_pure, tt_if, bif_and, bif_or]; done) | (simp only [pure_bind, bind_assoc, bind_pure, tt_if, bif_and, bif_or]; with_reducible rfl) | (simp only [pure_bind, bind_assoc, bind_pure, tt_if, bif_and, bif_or]; rfl) | rfl)) (pg_name (i := 7) nd rfl (.inl rfl)) g_name (subC (subC (subC (subC (subC (subC (subC (subN subE)))))))) (fun _ => ltAll 8 rfl rfl) (fun turn_ d_4 => (SL.atR (R' := [some (.scr script_), some (.frz (eInt many_)), some (.own (List.map eInt d_4.1)), some (.frz (eInt mixed_2)), some (.frz (eInt k_)), some (.frz (eInt cell_)), some (.frz (eInt d_4.2)), some (.frz (eInt turn_))]) (SL.asc2 (sl_ifP (Rn := fun d : (List Int) × Int => [some (.scr script_), some (.frz (eInt many_)), some (.own (List.map eInt d.1)), some (.frz (eInt mixed_2)), some (.frz (eInt k_)), some (.frz (eInt cell_)), some (.frz (eInt d.2)), some (.frz (eInt turn_))]) (ST.eq (SC.t (sc_gt (SX.b (se_var (ea := eInt) (d := d_4.2) (i := 6) rfl (.inl rfl) rfl rfl rfl)) (SX.b se_int)) rfl) (by first | with_reducible rfl | (simp only [pure_bind, bind_assoc, bind_pure, tt_if, bif_and, bif_or]; done) | (simp only [pure_bind, bind_assoc, bind_pure, tt_if, bif_and, bif_or]; with_reducible rfl) | (simp only [pure_bind, bind_assoc, bind_pure, tt_if, bif_and, bif_or]; rfl) | rfl)) (SL.atR (R' := [some (.scr script_), some (.frz (eInt many_)), some (.own (List.map eInt d_4.1)), some (.frz (eInt mixed_2)), some (.frz (eInt k_)), some (.frz (eInt cell_)), some (.frz (eInt d_4.2)), some (.frz (eInt turn_))]) (SL.asc2 (sl_append (i := 2) (ea := eInt) (xs := d_4.1) rfl (.inl rfl) rfl rfl rfl (SX.eq (se_mod (SX.b (se_int1 rfl T.z_int (SX.b (se_var (ea := eInt) (d := d_4.2) (i := 6) rfl (.inl rfl) rfl rfl rfl)))) (SX.b se_int)) (by first | with_reducible rfl | (simp only [pure_bind, bind_assoc, bind_pure, tt_if, bif_and, bif_or]; done) | (simp only [pure_bind, bind_assoc, bind_pure, tt_if, bif_and, bif_or]; with_reducible rfl) | (simp only [pure_bind, bind_assoc, bind_pure, tt_if, bif_and, bif_or]; rfl) | rfl)) (fun draws_4 => (SL.atR (R' := [some (.scr script_), some (.frz (eInt many_)), some (.own (List.map eInt draws_4)), some (.frz (eInt mixed_2)), some (.frz (eInt k_)), some (.frz (eInt cell_)), some (.frz (eInt d_4.2)), some (.frz (eInt turn_))]) (SL.asc (sl_set (i := 6) (ea := eInt) nd rfl (.inl rfl) (ltR 8 rfl rfl) (SX.eq (se_fdiv (SX.b (se_var (ea := eInt) (d := d_4.2) (i := 6) rfl (.inl rfl) rfl rfl rfl)) (SX.b se_int)) (by first | with_reducible rfl | (simp only [pure_bind, bind_assoc, bind_pure, tt_if, bif_and, bif_or]; done) | (simp only [pure_bind, bind_assoc, bind_pure, tt_if, bif_and, bif_or]; with_reducible rfl) | (simp only [pure_bind, bind_assoc, bind_pure, tt_if, bif_and, bif_or]; rfl) | rfl)) (fun rest_3 => (sp_nil (draws_4, rest_3) (subC (subC (subC (subC (subC (subC (subC (subC subE)))))))))) rfl (.inr rfl))) rfl)) rfl rfl rfl rfl rfl)) rfl) (sp_nil (d_4.1, d_4.2) (subC (subC (subC (subC (subC (subC (subC (subC subE))))))))) (fun d_6 => (sp_nil (d_6.1, d_6.2) (subC (subC (subC (subC (subC (subC (subC (subN subE)))))))))))) rfl)) (fun d_5 => (sp_nil (mixed_2, d_5.1) (subC (subC (subC (subC (subN (subN (subN (subN subE)))))))))) (fun _ => rfl))) rfl)))) rfl)) rfl (.inr rfl))) rfl)) rfl (.inr rfl))) rfl)) rfl (.inr rfl))) rfl)) (fun d_2 => (SL.atR (R' := [some (.scr script_), some (.frz (eInt many_)), some (.own (List.map eInt d_2.2)), some (.frz (eInt d_2.1)), none, none, none, none]) (SL.asc2 (sl_forP (Rl := fun d : Int × (List Int) => [some (.scr script_), some (.frz (eInt many_)), some (.own (List.map eInt d.2)), some (.frz (eInt d.1)), none, none, none, none]) (d0 := (d_2.1, d_2.2)) (g := (gName 4)) (is := [4]) (dts := (fun a => [eInt a])) PassesOwn.never rfl (SI.eq (si_range1 rfl T.z_range (SX.b (se_var (ea := eInt) (d := many_) (i := 1) rfl (.inl rfl) rfl rfl rfl))) (by first | with_reducible rfl | (simp only [pure_bind, bind_assoc, bind_pure, tt_if, bif_and, bif_or]; done) | (simp only [pure_bind, bind_assoc, bind_pure, tt_if, bif_and, bif_or]; with_reducible rfl) | (simp only [pure_bind, bind_assoc, bind_pure, tt_if, bif_and, bif_or]; rfl) | rfl)) (pg_name (i := 4) nd rfl (.inl rfl)) g_name (subC (subC (subC (subC (subN (subN (subN (subN subE)))))))) (fun _ => ltAll 8 rfl rfl) (fun k_2 d_7 => (SL.atR (R' := [some (.scr script_), some (.frz (eInt many_)), some (.own (List.map eInt d_7.2)), some (.frz (eInt d_7.1)), some (.frz (eInt k_2)), none, none, none]) (SL.asc (sl_set (i := 3) (ea := eInt) nd rfl (.inl rfl) (ltR 8 rfl rfl) (SX.eq (se_mod (SX.b (se_int1 rfl T.z_int (SX.b (se_add (SX.b (se_add (SX.b (se_mul (SX.b (se_var (ea := eInt) (d := d_7.1) (i := 3) rfl (.inl rfl) rfl rfl rfl)) (SX.b se_int))) (SX.b (se_var (ea := eInt) (d := k_2) (i := 4) rfl (.inl rfl) rfl rfl rfl)))) (SX.b se_int))))) (SX.b se_int)) (by first | with_reducible rfl | (simp only [pure_bind, bind_assoc, bind_pure, tt_if, bif_and, bif_or]; done) | (simp only [pure_bind, bind_assoc, bind_pure, tt_if, bif_and, bif_or]; with_reducible rfl) | (simp only [pure_bind, bind_assoc, bind_pure, tt_if, bif_and, bif_or]; rfl) | rfl)) (fun mixed_3 => (SL.atR (R' := [some (.scr script_), some (.frz (eInt many_)), some (.own (List.map eInt d_7.2)), some (.frz (eInt mixed_3)), some (.frz (eInt k_2)), none, none, none]) (SL.asc2 (sl_append (i := 2) (ea := eInt) (xs := d_7.2) rfl (.inl rfl) rfl rfl rfl (SX.eq (se_mod (SX.b (se_int1 rfl T.z_int (SX.b (se_var (ea := eInt) (d := mixed_3) (i := 3) rfl (.inl rfl) rfl rfl rfl)))) (SX.b se_int)) (by first | with_reducible rfl | (simp only [pure_bind, bind_assoc, bind_pure, tt_if, bif_and, bif_or]; done) | (simp only [pure_bind, bind_assoc, bind_pure, tt_if, bif_and, bif_or]; with_reducible rfl) | (simp only [pure_bind, bind_assoc, bind_pure, tt_if, bif_and, bif_or]; rfl) | rfl)) (fun draws_5 => (sp_nil (mixed_3, draws_5) (subC (subC (subC (subC (subN (subN (subN (subN subE)))))))))) rfl rfl rfl rfl rfl)) rfl)) rfl (.inr rfl))) rfl)) (fun d_8 => (SL.atR (R' := [some (.scr script_), some (.frz (eInt many_)), some (.own (List.map eInt d_8.2)), some (.frz (eInt d_8.1)), none, none, none, none]) (sf_ret (SX.eq (SX.f (so_sliceL (sb_own (ea := eInt) (d := d_8.2) (i := 2) rfl (.inl rfl) rfl rfl rfl) sq_none (sq_some (se_var (ea := eInt) (d := many_) (i := 1) rfl (.inl rfl) rfl rfl rfl)))) (by first | with_reducible rfl | (simp only [pure_bind, bind_assoc, bind_pure, tt_if, bif_and, bif_or]; done) | (simp only [pure_bind, bind_assoc, bind_pure, tt_if, bif_and, bif_or]; with_reducible rfl) | (simp only [pure_bind, bind_assoc, bind_pure, tt_if, bif_and, bif_or]; rfl) | rfl))) rfl)) (fun _ => rfl))) rfl)) (fun _ => rfl))) rfl)) rfl (.inr rfl))) rfl)) rfl (.inr rfl))) rfl)
theorem ok__law_draws (T : Tp K mg) : FnOk P w K mg base CX0 1 T.f7 T.d7 p7 (spScr K w (eLst eInt) m__law_draws) :=
  fn_scr T.F7 sc7 rfl (by decide) fun cdv A outer s H E hr ns n => bd__law_draws T cdv A outer s H E hr ns n
theorem bd__law_next (T : Tp K mg) (cdv : Value) (A : Around) (outer : List Env) (s : Shared) (H : Hp) (E : XK) (aw : Addr) (hr : Room 0 (A.deeper (envOfC "_law_next" (defScope (topS 25)) s.heap.objs.size T.f8 cdv))) (many_ : Int) : SF (cx0 P w K mg base N8 "_law_next" (topS 25) T.f8 cdv A outer s H E) (m := WM DW) (drawsW aw) W0 H [some (.adr aw), some (.frz (eInt many_))] (defBody (topS 25)) eInt (m__law_next many_) :=
  have nd := sc8.nd
  have huw : _ := Nat.lt_of_le_of_lt (Nat.add_le_add_left (by decide : 1 ≤ 64) _) hr.units
  (SL.atR (R' := [some (.adr aw), some (.frz (eInt many_))]) (SL.asc (sl_wInc (i := 0) huw rfl (.inl rfl) rfl rfl rfl (SL.atR (R' := [some (.adr aw), some (.frz (eInt many_))]) (sf_ifR (ST.eq (SC.t (sc_gt (SX.b (se_wAt (i := 0) huw rfl (.inl rfl) rfl rfl rfl)) (SX.b (se_lenL (ea := eInt) rfl T.z_len (SX.b (se_wDraws (i := 0) huw rfl (.inl rfl) rfl rfl rfl))))) rfl) (by first | with_reducible rfl | (simp only [pure_bind, bind_assoc, bind_pure, tt_if, bif_and, bif_or]; done) | (simp only [pure_bind, bind_assoc, bind_pure, tt_if, bif_and, bif_or]; with_reducible rfl) | (simp only [pure_bind, bind_assoc, bind_pure, tt_if, bif_and, bif_or]; rfl) | rfl)) (SL.atR (R' := [some (.adr aw), some (.frz (eInt many_))]) (sf_ret se_int) rfl) (SL.atR (R' := [some (.adr aw), some (.frz (eInt many_))]) (sf_ret (SX.eq (se_mod (SX.b (se_int1 rfl T.z_int (SX.b (se_ixL (ea := eInt) (SX.b (se_wDraws (i := 0) huw rfl (.inl rfl) rfl rfl rfl)) (SX.b (se_sub (SX.b (se_wAt (i := 0) huw rfl (.inl rfl) rfl rfl rfl)) (SX.b se_int))) (fun _ _ => rfl))))) (SX.b (se_var (ea := eInt) (d := many_) (i := 1) rfl (.inl rfl) rfl rfl rfl))) (by first | with_reducible rfl | (simp only [pure_bind, bind_assoc, bind_pure, tt_if, bif_and, bif_or]; done) | (simp only [pure_bind, bind_assoc, bind_pure, tt_if, bif_and, bif_or]; with_reducible rfl) | (simp only [pure_bind, bind_assoc, bind_pure, tt_if, bif_and, bif_or]; rfl) | rfl))) rfl)) rfl))) rfl)
theorem ok__law_next (T : Tp K mg) : FnOk P w K mg base CX0 1 T.f8 T.d8 p8 (spW K w drawsW (fun g : Int => [eInt g]) eInt (fun g => m__law_next g)) :=
  fn_world T.F8 sc8 (fun _ => rfl) (by decide) fun cdv A outer s H E aw hr g => bd__law_next T cdv A outer s H E aw hr g
theorem bd__law_same (T : Tp K mg) (cdv : Value) (A : Around) (outer : List Env) (s : Shared) (H : Hp) (E : XK) (hr : Room 0 (A.deeper (envOfC "_law_same" (defScope (topS 26)) s.heap.objs.size T.f9 cdv))) (seen_ : PyData) (due_ : PyData) : SF (cx0 P w K mg base N9 "_law_same" (topS 26) T.f9 cdv A outer s H E) (m := Option) wd0 W0 H [some (.frz (eAny seen_)), some (.frz (eAny due_)), none, none, none, none, none, none] (defBody (topS 26)) eBool (m__law_same seen_ due_) :=
  have nd := sc9.nd
  (SL.atR (R' := [some (.frz (eAny seen_)), some (.frz (eAny due_)), none, none, none, none, none, none]) (SL.asc (sl_setO (i := 2) (ea := (eT2 eAny eAny)) nd rfl (.inl rfl) (ltR 8 rfl rfl) (SX.eq (so_lst (ea := (eT2 eAny eAny)) (f := (fun g => [g])) (sa_one (ea := (eT2 eAny eAny)) (se_tup (et := (eT2 eAny eAny)) (sa_cons (ea := eAny) (eg := fun g : PyData => [eAny g]) (se_var (ea := eAny) (d := seen_) (i := 0) rfl (.inl rfl) rfl rfl rfl) (sa_one (ea := eAny) (se_var (ea := eAny) (d := due_) (i := 1) rfl (.inl rfl) rfl rfl rfl))) (fun _ => rfl) (fun _ => Nat.le_of_ble_eq_true rfl))) (fun _ => rfl) (fun _ => Nat.le_of_ble_eq_true rfl)) (by first | with_reducible rfl | (simp only [pure_bind, bind_assoc, bind_pure, tt_if, bif_and, bif_or]; done) | (simp only [pure_bind, bind_assoc, bind_pure, tt_if, bif_and, bif_or]; with_reducible rfl) | (simp only [pure_bind, bind_assoc, bind_pure, tt_if, bif_and, bif_or]; rfl) | rfl)) (fun waiting_ => (SL.atR (R' := [some (.frz (eAny seen_)), some (.frz (eAny due_)), some (.own (List.map (eT2 eAny eAny) waiting_)), none, none, none, none, none]) (sf_whG (Rl := fun d : (List (PyData × PyData)) => [some (.frz (eAny seen_)), some (.frz (eAny due_)), some (.own (List.map (eT2 eAny eAny) d)), none, none, none, none, none]) (d0 := waiting_) PassesOwn.never (subC (subC (subC (subN (subN (subN (subN (subN subE)))))))) (fun d_ => (ST.eq (SC.t (sc_ne (ea := (eLst (eT2 eAny eAny))) (eb := (eLst (eT2 eAny eAny))) hr.units (sb_own (ea := (eT2 eAny eAny)) (d := d_) (i := 2) rfl (.inl rfl) rfl rfl rfl) (SX.ob (so_nil (ea := (eT2 eAny eAny))))) rfl) (by first | with_reducible rfl | (simp only [pure_bind, bind_assoc, bind_pure, tt_if, bif_and, bif_or]; done) | (simp only [pure_bind, bind_assoc, bind_pure, tt_if, bif_and, bif_or]; with_reducible rfl) | (simp only [pure_bind, bind_assoc, bind_pure, tt_if, bif_and, bif_or]; rfl) | rfl))) (fun d_ => (SL.atR (R' := [some (.frz (eAny seen_)), some (.frz (eAny due_)), some (.own (List.map (eT2 eAny eAny) d_)), none, none, none, none, none]) (sl_popU (i := 2) (ea := (eT2 eAny eAny)) (xs := d_) (g := (gTup _ 2 (gNames [3, 4]))) (is := [3, 4]) (dts := (fun a : (PyData × PyData) => [eAny a.1, eAny a.2])) (pg_tup rfl (pgs_cons (pg_name (i := 3) nd rfl (.inr rfl)) (pgs_cons (pg_name (i := 4) nd rfl (.inr rfl)) pgs_nil))) (g_tup (is := [3, 4]) (dts := (fun a : (PyData × PyData) => [eAny a.1, eAny a.2])) (fun _ => rfl) (fun _ => rfl)) (ltAll 8 rfl rfl) rfl (.inl rfl) rfl rfl rfl rfl rfl (fun p_ => (SL.atR (R' := [some (.frz (eAny seen_)), some (.frz (eAny due_)), some (.own (List.map (eT2 eAny eAny) (List.dropLast d_))), some (.frz (eAny p_.1)), some (.frz (eAny p_.2)), none, none, none]) (sl_ifE (ST.eq (SX.t (se_isD is_dict rfl T.z_isinstance rfl T.z_dict PyProof.Rows.boot_dict (by decide) rfl (SX.b (se_var (ea := eAny) (d := p_.2) (i := 4) rfl (.inr (.inl rfl)) rfl rfl rfl))) (fun _ => rfl)) (by first | with_reducible rfl | (simp only [pure_bind, bind_assoc, bind_pure, tt_if, bif_and, bif_or]; done) | (simp only [pure_bind, bind_assoc, bind_pure, tt_if, bif_and, bif_or]; with_reducible rfl) | (simp only [pure_bind, bind_assoc, bind_pure, tt_if, bif_and, bif_or]; rfl) | rfl)) SL.never (SL.atR (R' := [some (.frz (eAny seen_)), some (.frz (eAny due_)), some (.own (List.map (eT2 eAny eAny) (List.dropLast d_))), some (.frz (eAny p_.1)), some (.frz (eAny p_.2)), none, none, none]) (sl_ifE (ST.eq (SW.t (sw_or (SX.t (se_isD is_tuple rfl T.z_isinstance rfl T.z_tuple PyProof.Rows.boot_tuple (by decide) rfl (SX.b (se_var (ea := eAny) (d := p_.2) (i := 4) rfl (.inr (.inl rfl)) rfl rfl rfl))) (fun _ => rfl)) (sw_or1 (SX.t (se_isD is_list rfl T.z_isinstance rfl T.z_list PyProof.Rows.boot_list (by decide) rfl (SX.b (se_var (ea := eAny) (d := p_.2) (i := 4) rfl (.inr (.inl rfl)) rfl rfl rfl))) (fun _ => rfl))))) (by first | with_reducible rfl | (simp only [pure_bind, bind_assoc, bind_pure, tt_if, bif_and, bif_or]; done) | (simp only [pure_bind, bind_assoc, bind_pure, tt_if, bif_and, bif_or]; with_reducible rfl) | (simp only [pure_bind, bind_assoc, bind_pure, tt_if, bif_and, bif_or]; rfl) | rfl)) (SL.atR (R' := [some (.frz (eAny seen_)), some (.frz (eAny due_)), some (.own (List.map (eT2 eAny eAny) (List.dropLast d_))), some (.frz (eAny p_.1)), some (.frz (eAny p_.2)), none, none, none]) (sl_ifR (ST.eq (SW.t (sw_or (SC.t (sc_neT eq_bool (by decide) hr.units (SX.b (se_isD is_tuple rfl T.z_isinstance rfl T.z_tuple PyProof.Rows.boot_tuple (by decide) rfl (SX.b (se_var (ea := eAny) (d := p_.1) (i := 3) rfl (.inr (.inl rfl)) rfl rfl rfl)))) (SX.b (se_isD is_tuple rfl T.z_isinstance rfl T.z_tuple PyProof.Rows.boot_tuple (by decide) rfl (SX.b (se_var (ea := eAny) (d := p_.2) (i := 4) rfl (.inr (.inl rfl)) rfl rfl rfl))))) rfl) (sw_or (SC.t (sc_neT eq_bool (by decide) hr.units (SX.b (se_isD is_list rfl T.z_isinstance rfl T.z_list PyProof.Rows.boot_list (by decide) rfl (SX.b (se_var (ea := eAny) (d := p_.1) (i := 3) rfl (.inr (.inl rfl)) rfl rfl rfl)))) (SX.b (se_isD is_list rfl T.z_isinstance rfl T.z_list PyProof.Rows.boot_list (by decide) rfl (SX.b (se_var (ea := eAny) (d := p_.2) (i := 4) rfl (.inr (.inl rfl)) rfl rfl rfl))))) rfl) (sw_or1 (SC.t (sc_neT eq_int (by decide) hr.units (SX.b (se_lenA rfl T.z_len (SX.b (se_var (ea := eAny) (d := p_.1) (i := 3) rfl (.inr (.inl rfl)) rfl rfl rfl)))) (SX.b (se_lenA rfl T.z_len (SX.b (se_var (ea := eAny) (d := p_.2) (i := 4) rfl (.inr (.inl rfl)) rfl rfl rfl))))) rfl))))) (by first | with_reducible rfl | (simp only [pure_bind, bind_assoc, bind_pure, tt_if, bif_and, bif_or]; done) | (simp only [pure_bind, bind_assoc, bind_pure, tt_if, bif_and, bif_or]; with_reducible rfl) | (simp only [pure_bind, bind_assoc, bind_pure, tt_if, bif_and, bif_or]; rfl) | rfl)) (SL.atR (R' := [some (.frz (eAny seen_)), some (.frz (eAny due_)), some (.own (List.map (eT2 eAny eAny) (List.dropLast d_))), some (.frz (eAny p_.1)), some (.frz (eAny p_.2)), none, none, none]) (sf_ret se_bool) rfl) (SL.atR (R' := [some (.frz (eAny seen_)), some (.frz (eAny due_)), some (.own (List.map (eT2 eAny eAny) (List.dropLast d_))), some (.frz (eAny p_.1)), some (.frz (eAny p_.2)), none, none, none]) (sl_extend (i := 2) (ea := (eT2 eAny eAny)) (xs := (List.dropLast d_)) rfl (.inl rfl) rfl rfl rfl (SX.eq (so_comp (eb := (eT2 eAny eAny)) (own := [("k", 7)]) (g := (gName 7)) (is := [7]) (dts := (fun a => [eInt a])) (mt := fun k_ => pure true) (me := fun k_ => (fromO (ixA p_.1 k_) >>= fun v8 => fromO (ixA p_.2 k_) >>= fun v9 => pure (v8, v9))) rfl nd (si_range1 rfl T.z_range (SX.b (se_lenA rfl T.z_len (SX.b (se_var (ea := eAny) (d := p_.2) (i := 4) rfl (.inr (.inl rfl)) rfl rfl rfl))))) (blkOk_by rfl) (fun _ _ _ _ _ => (pg_name (i := 7) nd rfl (.inl rfl))) g_name (by decide) (ltAll 8 rfl rfl) (fun k_ _ _ _ _ _ => sf_nil) (fun k_ _ _ _ _ _ => (SX.eq (se_tup (et := (eT2 eAny eAny)) (sa_cons (ea := eAny) (eg := fun g : PyData => [eAny g]) (se_ixA (SX.b (se_var (ea := eAny) (d := p_.1) (i := 3) rfl (.inr (.inl rfl)) rfl rfl rfl)) (SX.b (se_var (ea := eInt) (d := k_) (i := 7) rfl (.inl rfl) rfl rfl rfl)) (fun _ _ => rfl)) (sa_one (ea := eAny) (se_ixA (SX.b (se_var (ea := eAny) (d := p_.2) (i := 4) rfl (.inr (.inl rfl)) rfl rfl rfl)) (SX.b (se_var (ea := eInt) (d := k_) (i := 7) rfl (.inl rfl) rfl rfl rfl)) (fun _ _ => rfl)))) (fun _ => rfl) (fun _ => Nat.le_of_ble_eq_true rfl)) (by first | with_reducible rfl | (simp only [pure_bind, bind_assoc, bind_pure, tt_if, bif_and, bif_or]; done) | (simp only [pure_bind, bind_assoc, bind_pure, tt_if, bif_and, bif_or]; with_reducible rfl) | (simp only [pure_bind, bind_assoc, bind_pure, tt_if, bif_and, bif_or]; rfl) | rfl)))) (by first | with_reducible rfl | (simp only [pure_bind, bind_assoc, bind_pure, tt_if, bif_and, bif_or]; done) | (simp only [pure_bind, bind_assoc, bind_pure, tt_if, bif_and, bif_or]; with_reducible rfl) | (simp only [pure_bind, bind_assoc, bind_pure, tt_if, bif_and, bif_or]; rfl) | rfl)) (fun waiting_2 => (sl_nil waiting_2 (subC (subC (subC (subN (subN (subN (subN (subN subE)))))))))) rfl rfl rfl rfl rfl) rfl)) rfl) (SL.atR (R' := [some (.frz (eAny seen_)), some (.frz (eAny due_)), some (.own (List.map (eT2 eAny eAny) (List.dropLast d_))), some (.frz (eAny p_.1)), some (.frz (eAny p_.2)), none, none, none]) (sl_ifR (ST.eq (SW.t (sw_or (SC.t (sc_neT eq_bool (by decide) hr.units (SX.b (se_isD is_bool rfl T.z_isinstance rfl T.z_bool PyProof.Rows.boot_bool (by decide) rfl (SX.b (se_var (ea := eAny) (d := p_.1) (i := 3) rfl (.inr (.inl rfl)) rfl rfl rfl)))) (SX.b (se_isD is_bool rfl T.z_isinstance rfl T.z_bool PyProof.Rows.boot_bool (by decide) rfl (SX.b (se_var (ea := eAny) (d := p_.2) (i := 4) rfl (.inr (.inl rfl)) rfl rfl rfl))))) rfl) (sw_or (SC.t (sc_neT eq_bool (by decide) hr.units (SX.b (se_isD is_int rfl T.z_isinstance rfl T.z_int PyProof.Rows.boot_int (by decide) rfl (SX.b (se_var (ea := eAny) (d := p_.1) (i := 3) rfl (.inr (.inl rfl)) rfl rfl rfl)))) (SX.b (se_isD is_int rfl T.z_isinstance rfl T.z_int PyProof.Rows.boot_int (by decide) rfl (SX.b (se_var (ea := eAny) (d := p_.2) (i := 4) rfl (.inr (.inl rfl)) rfl rfl rfl))))) rfl) (sw_or (SC.t (sc_neT eq_bool (by decide) hr.units (SX.b (se_isD is_str rfl T.z_isinstance rfl T.z_str PyProof.Rows.boot_str (by decide) rfl (SX.b (se_var (ea := eAny) (d := p_.1) (i := 3) rfl (.inr (.inl rfl)) rfl rfl rfl)))) (SX.b (se_isD is_str rfl T.z_isinstance rfl T.z_str PyProof.Rows.boot_str (by decide) rfl (SX.b (se_var (ea := eAny) (d := p_.2) (i := 4) rfl (.inr (.inl rfl)) rfl rfl rfl))))) rfl) (sw_or1 (SC.t (sc_ne (ea := eAny) (eb := eAny) hr.units (SX.b (se_var (ea := eAny) (d := p_.1) (i := 3) rfl (.inr (.inl rfl)) rfl rfl rfl)) (SX.b (se_var (ea := eAny) (d := p_.2) (i := 4) rfl (.inr (.inl rfl)) rfl rfl rfl))) rfl)))))) (by first | with_reducible rfl | (simp only [pure_bind, bind_assoc, bind_pure, tt_if, bif_and, bif_or]; done) | (simp only [pure_bind, bind_assoc, bind_pure, tt_if, bif_and, bif_or]; with_reducible rfl) | (simp only [pure_bind, bind_assoc, bind_pure, tt_if, bif_and, bif_or]; rfl) | rfl)) (SL.atR (R' := [some (.frz (eAny seen_)), some (.frz (eAny due_)), some (.own (List.map (eT2 eAny eAny) (List.dropLast d_))), some (.frz (eAny p_.1)), some (.frz (eAny p_.2)), none, none, none]) (sf_ret se_bool) rfl) (sl_nil (List.dropLast d_) (subC (subC (subC (subN (subN (subN (subN (subN subE)))))))))) rfl)) rfl)) rfl)) rfl rfl rfl) rfl)) (fun d_2 => (SL.atR (R' := [some (.frz (eAny seen_)), some (.frz (eAny due_)), some (.own (List.map (eT2 eAny eAny) d_2)), none, none, none, none, none]) (sf_ret se_bool) rfl))) rfl)) rfl (.inr rfl))) rfl)
theorem ok__law_same (T : Tp K mg) : FnOk P w K mg base CX0 1 T.f9 T.d9 p9 (spP K w (fun g : PyData × PyData => [eAny g.1, eAny g.2]) eBool (fun g => m__law_same g.1 g.2)) :=
  fn_pure T.F9 sc9 (fun _ => rfl) (by decide) fun cdv A outer s H E hr g => bd__law_same T cdv A outer s H E hr g.1 g.2
theorem bd__law_fraction (T : Tp K mg) (cdv : Value) (A : Around) (outer : List Env) (s : Shared) (H : Hp) (E : XK) (hr : Room 0 (A.deeper (envOfC "_law_fraction" (defScope (topS 28)) s.heap.objs.size T.f10 cdv))) (top_ : Int) (under_ : Int) : SF (cx0 P w K mg base N10 "_law_fraction" (topS 28) T.f10 cdv A outer s H E) (m := Option) wd0 W0 H [some (.frz (eInt top_)), some (.frz (eInt under_)), none, none] (defBody (topS 28)) (eT2 eInt eInt) (m__law_fraction top_ under_) :=
  have nd := sc10.nd
  (SL.atR (R' := [some (.frz (eInt top_)), some (.frz (eInt under_)), none, none]) (SL.asc (sl_par2 (i := 2) (j := 3) rfl nd rfl rfl (by decide) rfl rfl (ltAll 4 rfl rfl) (SM.eq (sm_consF (se_absI rfl T.z_abs (SX.b (se_var (ea := eInt) (d := top_) (i := 0) rfl (.inl rfl) rfl rfl rfl))) (sm_oneF (se_absI rfl T.z_abs (SX.b (se_var (ea := eInt) (d := under_) (i := 1) rfl (.inl rfl) rfl rfl rfl))))) (by first | with_reducible rfl | (simp only [pure_bind, bind_assoc, bind_pure, tt_if, bif_and, bif_or]; done) | (simp only [pure_bind, bind_assoc, bind_pure, tt_if, bif_and, bif_or]; with_reducible rfl) | (simp only [pure_bind, bind_assoc, bind_pure, tt_if, bif_and, bif_or]; rfl) | rfl)) (fun _ => rfl) (fun p_ => (SL.atR (R' := [some (.frz (eInt top_)), some (.frz (eInt under_)), some (.frz (eInt p_.1)), some (.frz (eInt p_.2))]) (SL.asc (sl_whP (Rl := fun d : Int × Int => [some (.frz (eInt top_)), some (.frz (eInt under_)), some (.frz (eInt d.1)), some (.frz (eInt d.2))]) (d0 := (p_.1, p_.2)) PassesOwn.never (subC (subC (subC (subC subE)))) (fun d_ => (ST.eq (SC.t (sc_gt (SX.b (se_var (ea := eInt) (d := d_.2) (i := 3) rfl (.inl rfl) rfl rfl rfl)) (SX.b se_int)) rfl) (by first | with_reducible rfl | (simp only [pure_bind, bind_assoc, bind_pure, tt_if, bif_and, bif_or]; done) | (simp only [pure_bind, bind_assoc, bind_pure, tt_if, bif_and, bif_or]; with_reducible rfl) | (simp only [pure_bind, bind_assoc, bind_pure, tt_if, bif_and, bif_or]; rfl) | rfl))) (fun d_ => (SL.atR (R' := [some (.frz (eInt top_)), some (.frz (eInt under_)), some (.frz (eInt d_.1)), some (.frz (eInt d_.2))]) (SL.asc (sl_par2 (i := 2) (j := 3) rfl nd rfl rfl (by decide) rfl rfl (ltAll 4 rfl rfl) (SM.eq (sm_consF (se_var (ea := eInt) (d := d_.2) (i := 3) rfl (.inl rfl) rfl rfl rfl) (sm_oneF (se_mod (SX.b (se_int1 rfl T.z_int (SX.b (se_var (ea := eInt) (d := d_.1) (i := 2) rfl (.inl rfl) rfl rfl rfl)))) (SX.b (se_var (ea := eInt) (d := d_.2) (i := 3) rfl (.inl rfl) rfl rfl rfl))))) (by first | with_reducible rfl | (simp only [pure_bind, bind_assoc, bind_pure, tt_if, bif_and, bif_or]; done) | (simp only [pure_bind, bind_assoc, bind_pure, tt_if, bif_and, bif_or]; with_reducible rfl) | (simp only [pure_bind, bind_assoc, bind_pure, tt_if, bif_and, bif_or]; rfl) | rfl)) (fun _ => rfl) (fun p_2 => (sp_nil (p_2.1, p_2.2) (subC (subC (subC (subC subE)))))) rfl rfl)) rfl)) (fun d_2 => (SL.atR (R' := [some (.frz (eInt top_)), some (.frz (eInt under_)), some (.frz (eInt d_2.1)), some (.frz (eInt d_2.2))]) (sf_ret (SX.eq (sx_if kF_ok (SC.t (sc_gt (SX.b (se_var (ea := eInt) (d := under_) (i := 1) rfl (.inl rfl) rfl rfl rfl)) (SX.b se_int)) rfl) (se_tup (et := (eT2 eInt eInt)) (sa_cons (ea := eInt) (eg := fun g : Int => [eInt g]) (se_fdiv (SX.b (se_var (ea := eInt) (d := top_) (i := 0) rfl (.inl rfl) rfl rfl rfl)) (SX.b (se_var (ea := eInt) (d := d_2.1) (i := 2) rfl (.inl rfl) rfl rfl rfl))) (sa_one (ea := eInt) (se_fdiv (SX.b (se_var (ea := eInt) (d := under_) (i := 1) rfl (.inl rfl) rfl rfl rfl)) (SX.b (se_var (ea := eInt) (d := d_2.1) (i := 2) rfl (.inl rfl) rfl rfl rfl))))) (fun _ => rfl) (fun _ => Nat.le_of_ble_eq_true rfl)) (se_tup (et := (eT2 eInt eInt)) (sa_cons (ea := eInt) (eg := fun g : Int => [eInt g]) (se_sub (SX.b se_int) (SX.b (se_fdiv (SX.b (se_var (ea := eInt) (d := top_) (i := 0) rfl (.inl rfl) rfl rfl rfl)) (SX.b (se_var (ea := eInt) (d := d_2.1) (i := 2) rfl (.inl rfl) rfl rfl rfl))))) (sa_one (ea := eInt) (se_sub (SX.b se_int) (SX.b (se_fdiv (SX.b (se_var (ea := eInt) (d := under_) (i := 1) rfl (.inl rfl) rfl rfl rfl)) (SX.b (se_var (ea := eInt) (d := d_2.1) (i := 2) rfl (.inl rfl) rfl rfl rfl))))))) (fun _ => rfl) (fun _ => Nat.le_of_ble_eq_true rfl))) (by first | with_reducible rfl | (simp only [pure_bind, bind_assoc, bind_pure, tt_if, bif_and, bif_or]; done) | (simp only [pure_bind, bind_assoc, bind_pure, tt_if, bif_and, bif_or]; with_reducible rfl) | (simp only [pure_bind, bind_assoc, bind_pure, tt_if, bif_and, bif_or]; rfl) | rfl))) rfl)))) rfl)) rfl rfl)) rfl)
theorem ok__law_fraction (T : Tp K mg) : FnOk P w K mg base CX0 1 T.f10 T.d10 p10 (spP K w (fun g : Int × Int => [eInt g.1, eInt g.2]) (eT2 eInt eInt) (fun g => m__law_fraction g.1 g.2)) :=
  fn_pure T.F10 sc10 (fun _ => rfl) (by decide) fun cdv A outer s H E hr g => bd__law_fraction T cdv A outer s H E hr g.1 g.2
theorem bd__law_names (T : Tp K mg) (cdv : Value) (A : Around) (outer : List Env) (s : Shared) (H : Hp) (E : XK) (hr : Room 0 (A.deeper (envOfC "_law_names" (defScope (topS 29)) s.heap.objs.size T.f11 cdv)))  : SF (cx0 P w K mg base N11 "_law_names" (topS 29) T.f11 cdv A outer s H E) (m := Option) wd0 W0 H [none] (defBody (topS 29)) (eLst eStr) (m__law_names ) :=
  have nd := sc11.nd
  (SL.atR (R' := [none]) (SL.asc (sl_set (i := 0) (ea := (eLst eStr)) nd rfl (.inl rfl) (ltR 1 rfl rfl) (SX.eq (SX.f (so_lst (ea := eStr) (f := (fun g => [g.1, g.2.1, g.2.2.1, g.2.2.2.1, g.2.2.2.2.1, g.2.2.2.2.2.1, g.2.2.2.2.2.2.1, g.2.2.2.2.2.2.2])) (sa_cons (ea := eStr) (eg := fun g : Str × Str × Str × Str × Str × Str × Str => [eStr g.1, eStr g.2.1, eStr g.2.2.1, eStr g.2.2.2.1, eStr g.2.2.2.2.1, eStr g.2.2.2.2.2.1, eStr g.2.2.2.2.2.2]) se_str (sa_cons (ea := eStr) (eg := fun g : Str × Str × Str × Str × Str × Str => [eStr g.1, eStr g.2.1, eStr g.2.2.1, eStr g.2.2.2.1, eStr g.2.2.2.2.1, eStr g.2.2.2.2.2]) se_str (sa_cons (ea := eStr) (eg := fun g : Str × Str × Str × Str × Str => [eStr g.1, eStr g.2.1, eStr g.2.2.1, eStr g.2.2.2.1, eStr g.2.2.2.2]) se_str (sa_cons (ea := eStr) (eg := fun g : Str × Str × Str × Str => [eStr g.1, eStr g.2.1, eStr g.2.2.1, eStr g.2.2.2]) se_str (sa_cons (ea := eStr) (eg := fun g : Str × Str × Str => [eStr g.1, eStr g.2.1, eStr g.2.2]) se_str (sa_cons (ea := eStr) (eg := fun g : Str × Str => [eStr g.1, eStr g.2]) se_str (sa_cons (ea := eStr) (eg := fun g : Str => [eStr g]) se_str (sa_one (ea := eStr) se_str)))))))) (fun _ => rfl) (fun _ => Nat.le_of_ble_eq_true rfl))) (by first | with_reducible rfl | (simp only [pure_bind, bind_assoc, bind_pure, tt_if, bif_and, bif_or]; done) | (simp only [pure_bind, bind_assoc, bind_pure, tt_if, bif_and, bif_or]; with_reducible rfl) | (simp only [pure_bind, bind_assoc, bind_pure, tt_if, bif_and, bif_or]; rfl) | rfl)) (fun near_1_ => (SL.atR (R' := [some (.frz ((eLst eStr) near_1_))]) (sf_ret (SX.eq (SX.f (so_catL (SX.ob (so_catL (SX.b (se_var (ea := (eLst eStr)) (d := near_1_) (i := 0) rfl (.inl rfl) rfl rfl rfl)) (SX.ob (so_lst (ea := eStr) (f := (fun g => [g.1, g.2.1, g.2.2.1, g.2.2.2.1, g.2.2.2.2.1, g.2.2.2.2.2.1, g.2.2.2.2.2.2.1, g.2.2.2.2.2.2.2])) (sa_cons (ea := eStr) (eg := fun g : Str × Str × Str × Str × Str × Str × Str => [eStr g.1, eStr g.2.1, eStr g.2.2.1, eStr g.2.2.2.1, eStr g.2.2.2.2.1, eStr g.2.2.2.2.2.1, eStr g.2.2.2.2.2.2]) se_str (sa_cons (ea := eStr) (eg := fun g : Str × Str × Str × Str × Str × Str => [eStr g.1, eStr g.2.1, eStr g.2.2.1, eStr g.2.2.2.1, eStr g.2.2.2.2.1, eStr g.2.2.2.2.2]) se_str (sa_cons (ea := eStr) (eg := fun g : Str × Str × Str × Str × Str => [eStr g.1, eStr g.2.1, eStr g.2.2.1, eStr g.2.2.2.1, eStr g.2.2.2.2]) se_str (sa_cons (ea := eStr) (eg := fun g : Str × Str × Str × Str => [eStr g.1, eStr g.2.1, eStr g.2.2.1, eStr g.2.2.2]) se_str (sa_cons (ea := eStr) (eg := fun g : Str × Str × Str => [eStr g.1, eStr g.2.1, eStr g.2.2]) se_str (sa_cons (ea := eStr) (eg := fun g : Str × Str => [eStr g.1, eStr g.2]) se_str (sa_cons (ea := eStr) (eg := fun g : Str => [eStr g]) se_str (sa_one (ea := eStr) se_str)))))))) (fun _ => rfl) (fun _ => Nat.le_of_ble_eq_true rfl))))) (SX.ob (so_lst (ea := eStr) (f := (fun g => [g.1, g.2.1, g.2.2.1, g.2.2.2.1, g.2.2.2.2.1, g.2.2.2.2.2.1, g.2.2.2.2.2.2.1, g.2.2.2.2.2.2.2.1, g.2.2.2.2.2.2.2.2.1, g.2.2.2.2.2.2.2.2.2.1, g.2.2.2.2.2.2.2.2.2.2.1, g.2.2.2.2.2.2.2.2.2.2.2.1, g.2.2.2.2.2.2.2.2.2.2.2.2.1, g.2.2.2.2.2.2.2.2.2.2.2.2.2.1, g.2.2.2.2.2.2.2.2.2.2.2.2.2.2.1, g.2.2.2.2.2.2.2.2.2.2.2.2.2.2.2])) (sa_cons (ea := eStr) (eg := fun g : Str × Str × Str × Str × Str × Str × Str × Str × Str × Str × Str × Str × Str × Str × Str => [eStr g.1, eStr g.2.1, eStr g.2.2.1, eStr g.2.2.2.1, eStr g.2.2.2.2.1, eStr g.2.2.2.2.2.1, eStr g.2.2.2.2.2.2.1, eStr g.2.2.2.2.2.2.2.1, eStr g.2.2.2.2.2.2.2.2.1, eStr g.2.2.2.2.2.2.2.2.2.1, eStr g.2.2.2.2.2.2.2.2.2.2.1, eStr g.2.2.2.2.2.2.2.2.2.2.2.1, eStr g.2.2.2.2.2.2.2.2.2.2.2.2.1, eStr g.2.2.2.2.2.2.2.2.2.2.2.2.2.1, eStr g.2.2.2.2.2.2.2.2.2.2.2.2.2.2]) se_str (sa_cons (ea := eStr) (eg := fun g : Str × Str × Str × Str × Str × Str × Str × Str × Str × Str × Str × Str × Str × Str => [eStr g.1, eStr g.2.1, eStr g.2.2.1, eStr g.2.2.2.1, eStr g.2.2.2.2.1, eStr g.2.2.2.2.2.1, eStr g.2.2.2.2.2.2.1, eStr g.2.2.2.2.2.2.2.1, eStr g.2.2.2.2.2.2.2.2.1, eStr g.2.2.2.2.2.2.2.2.2.1, eStr g.2.2.2.2.2.2.2.2.2.2.1, eStr g.2.2.2.2.2.2.2.2.2.2.2.1, eStr g.2.2.2.2.2.2.2.2.2.2.2.2.1, eStr g.2.2.2.2.2.2.2.2.2.2.2.2.2]) se_str (sa_cons (ea := eStr) (eg := fun g : Str × Str × Str × Str × Str × Str × Str × Str × Str × Str × Str × Str × Str => [eStr g.1, eStr g.2.1, eStr g.2.2.1, eStr g.2.2.2.1, eStr g.2.2.2.2.1, eStr g.2.2.2.2.2.1, eStr g.2.2.2.2.2.2.1, eStr g.2.2.2.2.2.2.2.1, eStr g.2.2.2.2.2.2.2.2.1, eStr g.2.2.2.2.2.2.2.2.2.1, eStr g.2.2.2.2.2.2.2.2.2.2.1, eStr g.2.2.2.2.2.2.2.2.2.2.2.1, eStr g.2.2.2.2.2.2.2.2.2.2.2.2]) se_str (sa_cons (ea := eStr) (eg := fun g : Str × Str × Str × Str × Str × Str × Str × Str × Str × Str × Str × Str => [eStr g.1, eStr g.2.1, eStr g.2.2.1, eStr g.2.2.2.1, eStr g.2.2.2.2.1, eStr g.2.2.2.2.2.1, eStr g.2.2.2.2.2.2.1, eStr g.2.2.2.2.2.2.2.1, eStr g.2.2.2.2.2.2.2.2.1, eStr g.2.2.2.2.2.2.2.2.2.1, eStr g.2.2.2.2.2.2.2.2.2.2.1, eStr g.2.2.2.2.2.2.2.2.2.2.2]) se_str (sa_cons (ea := eStr) (eg := fun g : Str × Str × Str × Str × Str × Str × Str × Str × Str × Str × Str => [eStr g.1, eStr g.2.1, eStr g.2.2.1, eStr g.2.2.2.1, eStr g.2.2.2.2.1, eStr g.2.2.2.2.2.1, eStr g.2.2.2.2.2.2.1, eStr g.2.2.2.2.2.2.2.1, eStr g.2.2.2.2.2.2.2.2.1, eStr g.2.2.2.2.2.2.2.2.2.1, eStr g.2.2.2.2.2.2.2.2.2.2]) se_str (sa_cons (ea := eStr) (eg := fun g : Str × Str × Str × Str × Str × Str × Str × Str × Str × Str => [eStr g.1, eStr g.2.1, eStr g.2.2.1, eStr g.2.2.2.1, eStr g.2.2.2.2.1, eStr g.2.2.2.2.2.1, eStr g.2.2.2.2.2.2.1, eStr g.2.2.2.2.2.2.2.1, eStr g.2.2.2.2.2.2.2.2.1, eStr g.2.2.2.2.2.2.2.2.2]) se_str (sa_cons (ea := eStr) (eg := fun g : Str × Str × Str × Str × Str × Str × Str × Str × Str => [eStr g.1, eStr g.2.1, eStr g.2.2.1, eStr g.2.2.2.1, eStr g.2.2.2.2.1, eStr g.2.2.2.2.2.1, eStr g.2.2.2.2.2.2.1, eStr g.2.2.2.2.2.2.2.1, eStr g.2.2.2.2.2.2.2.2]) se_str (sa_cons (ea := eStr) (eg := fun g : Str × Str × Str × Str × Str × Str × Str × Str => [eStr g.1, eStr g.2.1, eStr g.2.2.1, eStr g.2.2.2.1, eStr g.2.2.2.2.1, eStr g.2.2.2.2.2.1, eStr g.2.2.2.2.2.2.1, eStr g.2.2.2.2.2.2.2]) se_str (sa_cons (ea := eStr) (eg := fun g : Str × Str × Str × Str × Str × Str × Str => [eStr g.1, eStr g.2.1, eStr g.2.2.1, eStr g.2.2.2.1, eStr g.2.2.2.2.1, eStr g.2.2.2.2.2.1, eStr g.2.2.2.2.2.2]) se_str (sa_cons (ea := eStr) (eg := fun g : Str × Str × Str × Str × Str × Str => [eStr g.1, eStr g.2.1, eStr g.2.2.1, eStr g.2.2.2.1, eStr g.2.2.2.2.1, eStr g.2.2.2.2.2]) se_str (sa_cons (ea := eStr) (eg := fun g : Str × Str × Str × Str × Str => [eStr g.1, eStr g.2.1, eStr g.2.2.1, eStr g.2.2.2.1, eStr g.2.2.2.2]) se_str (sa_cons (ea := eStr) (eg := fun g : Str × Str × Str × Str => [eStr g.1, eStr g.2.1, eStr g.2.2.1, eStr g.2.2.2]) se_str (sa_cons (ea := eStr) (eg := fun g : Str × Str × Str => [eStr g.1, eStr g.2.1, eStr g.2.2]) se_str (sa_cons (ea := eStr) (eg := fun g : Str × Str => [eStr g.1, eStr g.2]) se_str (sa_cons (ea := eStr) (eg := fun g : Str => [eStr g]) se_str (sa_one (ea := eStr) se_str)))))))))))))))) (fun _ => rfl) (fun _ => Nat.le_of_ble_eq_true rfl))))) (by first | with_reducible rfl | (simp only [pure_bind, bind_assoc, bind_pure, tt_if, bif_and, bif_or]; done) | (simp only [pure_bind, bind_assoc, bind_pure, tt_if, bif_and, bif_or]; with_reducible rfl) | (simp only [pure_bind, bind_assoc, bind_pure, tt_if, bif_and, bif_or]; rfl) | rfl))) rfl)) rfl (.inr rfl))) rfl)
theorem ok__law_names (T : Tp K mg) : FnOk P w K mg base CX0 1 T.f11 T.d11 p11 (spP K w (fun g : Unit => []) (eLst eStr) (fun g => m__law_names )) :=
  fn_pure T.F11 sc11 (fun _ => rfl) (by decide) fun cdv A outer s H E hr g => bd__law_names T cdv A outer s H E hr 
theorem bd__law_round (T : Tp K mg) (cdv : Value) (A : Around) (outer : List Env) (s : Shared) (H : Hp) (E : XK) (hr : Room 0 (A.deeper (envOfC "_law_round" (defScope (topS 30)) s.heap.objs.size T.f12 cdv))) (number_ : Int) : SF (cx0 P w K mg base N12 "_law_round" (topS 30) T.f12 cdv A outer s H E) (m := Option) wd0 W0 H [some (.frz (eInt number_))] (defBody (topS 30)) eInt (m__law_round number_) :=
  have nd := sc12.nd
  (SL.atR (R' := [some (.frz (eInt number_))]) (sf_ret (SX.eq (se_sub (SX.b (se_var (ea := eInt) (d := number_) (i := 0) rfl (.inl rfl) rfl rfl rfl)) (SX.b (se_mul (SX.b (se_fdiv (SX.b (se_var (ea := eInt) (d := number_) (i := 0) rfl (.inl rfl) rfl rfl rfl)) (SX.b se_int))) (SX.b se_int)))) (by first | with_reducible rfl | (simp only [pure_bind, bind_assoc, bind_pure, tt_if, bif_and, bif_or]; done) | (simp only [pure_bind, bind_assoc, bind_pure, tt_if, bif_and, bif_or]; with_reducible rfl) | (simp only [pure_bind, bind_assoc, bind_pure, tt_if, bif_and, bif_or]; rfl) | rfl))) rfl)
theorem ok__law_round (T : Tp K mg) : FnOk P w K mg base CX0 1 T.f12 T.d12 p12 (spP K w (fun g : Int => [eInt g]) eInt (fun g => m__law_round g)) :=
  fn_pure T.F12 sc12 (fun _ => rfl) (by decide) fun cdv A outer s H E hr g => bd__law_round T cdv A outer s H E hr g
theorem bd_fraction (T : Tp K mg) (cdv : Value) (A : Around) (outer : List Env) (s : Shared) (H : Hp) (E : XK) (hr : Room 1 (A.deeper (envOfC "fraction" (defScope (topS 5)) s.heap.objs.size T.f13 cdv))) (a_ : Int) (b_ : Int) : SF (cx0 P w K mg base N13 "fraction" (topS 5) T.f13 cdv A outer s H E) (m := Option) wd0 W0 H [some (.frz (eInt a_)), some (.frz (eInt b_)), none] (defBody (topS 5)) (eT2 eInt eInt) (m_fraction a_ b_) :=
  have nd := sc13.nd
  (SL.atR (R' := [some (.frz (eInt a_)), some (.frz (eInt b_)), none]) (SL.asc (sl_set (i := 2) (ea := eInt) nd rfl (.inl rfl) (ltR 3 rfl rfl) (SX.eq (se_call (FnOk.mono (ok_common T) (by decide)) hr rfl T.g0 T.F0.kp T.b0 (sa_cons (ea := eInt) (eg := fun g : Int => [eInt g]) (se_var (ea := eInt) (d := a_) (i := 0) rfl (.inl rfl) rfl rfl rfl) (sa_one (ea := eInt) (se_var (ea := eInt) (d := b_) (i := 1) rfl (.inl rfl) rfl rfl rfl))) rfl rfl rfl) (by first | with_reducible rfl | (simp only [pure_bind, bind_assoc, bind_pure, tt_if, bif_and, bif_or]; done) | (simp only [pure_bind, bind_assoc, bind_pure, tt_if, bif_and, bif_or]; with_reducible rfl) | (simp only [pure_bind, bind_assoc, bind_pure, tt_if, bif_and, bif_or]; rfl) | rfl)) (fun by_ => (SL.atR (R' := [some (.frz (eInt a_)), some (.frz (eInt b_)), some (.frz (eInt by_))]) (SL.asc2 (sl_ifP (Rn := fun d : Int => [some (.frz (eInt a_)), some (.frz (eInt b_)), some (.frz (eInt d))]) (ST.eq (SC.t (sc_lt (SX.b (se_var (ea := eInt) (d := b_) (i := 1) rfl (.inl rfl) rfl rfl rfl)) (SX.b se_int)) rfl) (by first | with_reducible rfl | (simp only [pure_bind, bind_assoc, bind_pure, tt_if, bif_and, bif_or]; done) | (simp only [pure_bind, bind_assoc, bind_pure, tt_if, bif_and, bif_or]; with_reducible rfl) | (simp only [pure_bind, bind_assoc, bind_pure, tt_if, bif_and, bif_or]; rfl) | rfl)) (SL.atR (R' := [some (.frz (eInt a_)), some (.frz (eInt b_)), some (.frz (eInt by_))]) (SL.asc (sl_set (i := 2) (ea := eInt) nd rfl (.inl rfl) (ltR 3 rfl rfl) (SX.eq (se_neg (SX.b (se_var (ea := eInt) (d := by_) (i := 2) rfl (.inl rfl) rfl rfl rfl))) (by first | with_reducible rfl | (simp only [pure_bind, bind_assoc, bind_pure, tt_if, bif_and, bif_or]; done) | (simp only [pure_bind, bind_assoc, bind_pure, tt_if, bif_and, bif_or]; with_reducible rfl) | (simp only [pure_bind, bind_assoc, bind_pure, tt_if, bif_and, bif_or]; rfl) | rfl)) (fun by_2 => (sp_nil by_2 (subC (subC (subC subE))))) rfl (.inr rfl))) rfl) (sp_nil by_ (subC (subC (subC subE)))) (fun d_ => (SL.atR (R' := [some (.frz (eInt a_)), some (.frz (eInt b_)), some (.frz (eInt d_))]) (sf_ret (SX.eq (se_tup (et := (eT2 eInt eInt)) (sa_cons (ea := eInt) (eg := fun g : Int => [eInt g]) (se_fdiv (SX.b (se_var (ea := eInt) (d := a_) (i := 0) rfl (.inl rfl) rfl rfl rfl)) (SX.b (se_var (ea := eInt) (d := d_) (i := 2) rfl (.inl rfl) rfl rfl rfl))) (sa_one (ea := eInt) (se_fdiv (SX.b (se_var (ea := eInt) (d := b_) (i := 1) rfl (.inl rfl) rfl rfl rfl)) (SX.b (se_var (ea := eInt) (d := d_) (i := 2) rfl (.inl rfl) rfl rfl rfl))))) (fun _ => rfl) (fun _ => Nat.le_of_ble_eq_true rfl)) (by first | with_reducible rfl | (simp only [pure_bind, bind_assoc, bind_pure, tt_if, bif_and, bif_or]; done) | (simp only [pure_bind, bind_assoc, bind_pure, tt_if, bif_and, bif_or]; with_reducible rfl) | (simp only [pure_bind, bind_assoc, bind_pure, tt_if, bif_and, bif_or]; rfl) | rfl))) rfl)))) rfl)) rfl (.inr rfl))) rfl)
theorem ok_fraction (T : Tp K mg) : FnOk P w K mg base CX0 2 T.f13 T.d13 p13 (spP K w (fun g : Int × Int => [eInt g.1, eInt g.2]) (eT2 eInt eInt) (fun g => m_fraction g.1 g.2)) :=
  fn_pure T.F13 sc13 (fun _ => rfl) (by decide) fun cdv A outer s H E hr g => bd_fraction T cdv A outer s H E hr g.1 g.2
theorem bd_name_of (T : Tp K mg) (cdv : Value) (A : Around) (outer : List Env) (s : Shared) (H : Hp) (E : XK) (hr : Room 1 (A.deeper (envOfC "name_of" (defScope (topS 12)) s.heap.objs.size T.f14 cdv))) (point_ : Int) : SF (cx0 P w K mg base N14 "name_of" (topS 12) T.f14 cdv A outer s H E) (m := Option) wd0 W0 H [some (.frz (eInt point_)), none] (defBody (topS 12)) eStr (m_name_of point_) :=
  have nd := sc14.nd
  (SL.atR (R' := [some (.frz (eInt point_)), none]) (SL.asc (sl_set (i := 0) (ea := eInt) nd rfl (.inl rfl) (ltR 2 rfl rfl) (SX.eq (se_mod (SX.b (se_var (ea := eInt) (d := point_) (i := 0) rfl (.inl rfl) rfl rfl rfl)) (SX.b se_int)) (by first | with_reducible rfl | (simp only [pure_bind, bind_assoc, bind_pure, tt_if, bif_and, bif_or]; done) | (simp only [pure_bind, bind_assoc, bind_pure, tt_if, bif_and, bif_or]; with_reducible rfl) | (simp only [pure_bind, bind_assoc, bind_pure, tt_if, bif_and, bif_or]; rfl) | rfl)) (fun point_2 => (SL.atR (R' := [some (.frz (eInt point_2)), none]) (sf_ifR (ST.eq (SC.t (sc_eqT eq_int (by decide) hr.units (SX.b (se_mod (SX.b (se_var (ea := eInt) (d := point_2) (i := 0) rfl (.inl rfl) rfl rfl rfl)) (SX.b se_int))) (SX.b se_int)) rfl) (by first | with_reducible rfl | (simp only [pure_bind, bind_assoc, bind_pure, tt_if, bif_and, bif_or]; done) | (simp only [pure_bind, bind_assoc, bind_pure, tt_if, bif_and, bif_or]; with_reducible rfl) | (simp only [pure_bind, bind_assoc, bind_pure, tt_if, bif_and, bif_or]; rfl) | rfl)) (SL.atR (R' := [some (.frz (eInt point_2)), none]) (sf_ret (SX.eq (se_call (FnOk.mono (ok_eighth_name T) (by decide)) hr rfl T.g2 T.F2.kp T.b2 (sa_one (ea := eInt) (se_var (ea := eInt) (d := point_2) (i := 0) rfl (.inl rfl) rfl rfl rfl)) rfl rfl rfl) (by first | with_reducible rfl | (simp only [pure_bind, bind_assoc, bind_pure, tt_if, bif_and, bif_or]; done) | (simp only [pure_bind, bind_assoc, bind_pure, tt_if, bif_and, bif_or]; with_reducible rfl) | (simp only [pure_bind, bind_assoc, bind_pure, tt_if, bif_and, bif_or]; rfl) | rfl))) rfl) (SL.atR (R' := [some (.frz (eInt point_2)), none]) (sf_ifR (ST.eq (SC.t (sc_eqT eq_int (by decide) hr.units (SX.b (se_mod (SX.b (se_var (ea := eInt) (d := point_2) (i := 0) rfl (.inl rfl) rfl rfl rfl)) (SX.b se_int))) (SX.b se_int)) rfl) (by first | with_reducible rfl | (simp only [pure_bind, bind_assoc, bind_pure, tt_if, bif_and, bif_or]; done) | (simp only [pure_bind, bind_assoc, bind_pure, tt_if, bif_and, bif_or]; with_reducible rfl) | (simp only [pure_bind, bind_assoc, bind_pure, tt_if, bif_and, bif_or]; rfl) | rfl)) (SL.atR (R' := [some (.frz (eInt point_2)), none]) (sf_ret (SX.eq (se_catG (SX.b (se_call (FnOk.mono (ok_main_near T) (by decide)) hr rfl T.g1 T.F1.kp T.b1 (sa_one (ea := eInt) (se_var (ea := eInt) (d := point_2) (i := 0) rfl (.inl rfl) rfl rfl rfl)) rfl rfl rfl)) (SX.b (se_ixT (ea := eStr) (SX.b (se_glob (ea := (eTup eStr)) (d := [("ne" : Str), ("se" : Str), ("sw" : Str), ("nw" : Str)]) rfl T.c_FOUR rfl)) (SX.b (se_mod (SX.b (se_fdiv (SX.b (se_var (ea := eInt) (d := point_2) (i := 0) rfl (.inl rfl) rfl rfl rfl)) (SX.b se_int))) (SX.b se_int))) (fun _ _ => rfl)))) (by first | with_reducible rfl | (simp only [pure_bind, bind_assoc, bind_pure, tt_if, bif_and, bif_or]; done) | (simp only [pure_bind, bind_assoc, bind_pure, tt_if, bif_and, bif_or]; with_reducible rfl) | (simp only [pure_bind, bind_assoc, bind_pure, tt_if, bif_and, bif_or]; rfl) | rfl))) rfl) (SL.atR (R' := [some (.frz (eInt point_2)), none]) (SL.asc (sl_set (i := 1) (ea := eInt) nd rfl (.inl rfl) (ltR 2 rfl rfl) (SX.eq (sx_if kF_ok (SC.t (sc_eqT eq_int (by decide) hr.units (SX.b (se_mod (SX.b (se_var (ea := eInt) (d := point_2) (i := 0) rfl (.inl rfl) rfl rfl rfl)) (SX.b se_int))) (SX.b se_int)) rfl) (se_sub (SX.b (se_var (ea := eInt) (d := point_2) (i := 0) rfl (.inl rfl) rfl rfl rfl)) (SX.b se_int)) (se_add (SX.b (se_var (ea := eInt) (d := point_2) (i := 0) rfl (.inl rfl) rfl rfl rfl)) (SX.b se_int))) (by first | with_reducible rfl | (simp only [pure_bind, bind_assoc, bind_pure, tt_if, bif_and, bif_or]; done) | (simp only [pure_bind, bind_assoc, bind_pure, tt_if, bif_and, bif_or]; with_reducible rfl) | (simp only [pure_bind, bind_assoc, bind_pure, tt_if, bif_and, bif_or]; rfl) | rfl)) (fun base_ => (SL.atR (R' := [some (.frz (eInt point_2)), some (.frz (eInt base_))]) (sf_ret (SX.eq (se_catG (SX.b (se_catG (SX.b (se_call (FnOk.mono (ok_eighth_name T) (by decide)) hr rfl T.g2 T.F2.kp T.b2 (sa_one (ea := eInt) (se_mod (SX.b (se_var (ea := eInt) (d := base_) (i := 1) rfl (.inl rfl) rfl rfl rfl)) (SX.b se_int))) rfl rfl rfl)) (SX.b se_str))) (SX.b (se_call (FnOk.mono (ok_towards T) (by decide)) hr rfl T.g3 T.F3.kp T.b3 (sa_cons (ea := eInt) (eg := fun g : Int => [eInt g]) (se_add (SX.b (se_var (ea := eInt) (d := base_) (i := 1) rfl (.inl rfl) rfl rfl rfl)) (SX.b (se_sub (SX.b (se_var (ea := eInt) (d := point_2) (i := 0) rfl (.inl rfl) rfl rfl rfl)) (SX.b (se_var (ea := eInt) (d := base_) (i := 1) rfl (.inl rfl) rfl rfl rfl))))) (sa_one (ea := eInt) (se_sub (SX.b (se_var (ea := eInt) (d := point_2) (i := 0) rfl (.inl rfl) rfl rfl rfl)) (SX.b (se_var (ea := eInt) (d := base_) (i := 1) rfl (.inl rfl) rfl rfl rfl))))) rfl rfl rfl))) (by first | with_reducible rfl | (simp only [pure_bind, bind_assoc, bind_pure, tt_if, bif_and, bif_or]; done) | (simp only [pure_bind, bind_assoc, bind_pure, tt_if, bif_and, bif_or]; with_reducible rfl) | (simp only [pure_bind, bind_assoc, bind_pure, tt_if, bif_and, bif_or]; rfl) | rfl))) rfl)) rfl (.inr rfl))) rfl)) rfl)) rfl)) rfl (.inr rfl))) rfl)
theorem ok_name_of (T : Tp K mg) : FnOk P w K mg base CX0 2 T.f14 T.d14 p14 (spP K w (fun g : Int => [eInt g]) eStr (fun g => m_name_of g)) :=
  fn_pure T.F14 sc14 (fun _ => rfl) (by decide) fun cdv A outer s H E hr g => bd_name_of T cdv A outer s H E hr g
theorem bd_halfway (T : Tp K mg) (cdv : Value) (A : Around) (outer : List Env) (s : Shared) (H : Hp) (E : XK) (hr : Room 1 (A.deeper (envOfC "halfway" (defScope (topS 17)) s.heap.objs.size T.f15 cdv))) (one_ : Int) (other_ : Int) : SF (cx0 P w K mg base N15 "halfway" (topS 17) T.f15 cdv A outer s H E) (m := Option) wd0 W0 H [some (.frz (eInt one_)), some (.frz (eInt other_))] (defBody (topS 17)) eInt (m_halfway one_ other_) :=
  have nd := sc15.nd
  (SL.atR (R' := [some (.frz (eInt one_)), some (.frz (eInt other_))]) (sf_ret (SX.eq (se_mod (SX.b (se_add (SX.b (se_var (ea := eInt) (d := one_) (i := 0) rfl (.inl rfl) rfl rfl rfl)) (SX.b (se_fdiv (SX.b (se_call (FnOk.mono (ok_turned_by T) (by decide)) hr rfl T.g5 T.F5.kp T.b5 (sa_cons (ea := eInt) (eg := fun g : Int => [eInt g]) (se_var (ea := eInt) (d := one_) (i := 0) rfl (.inl rfl) rfl rfl rfl) (sa_one (ea := eInt) (se_var (ea := eInt) (d := other_) (i := 1) rfl (.inl rfl) rfl rfl rfl))) rfl rfl rfl)) (SX.b se_int))))) (SX.b se_int)) (by first | with_reducible rfl | (simp only [pure_bind, bind_assoc, bind_pure, tt_if, bif_and, bif_or]; done) | (simp only [pure_bind, bind_assoc, bind_pure, tt_if, bif_and, bif_or]; with_reducible rfl) | (simp only [pure_bind, bind_assoc, bind_pure, tt_if, bif_and, bif_or]; rfl) | rfl))) rfl)
theorem ok_halfway (T : Tp K mg) : FnOk P w K mg base CX0 2 T.f15 T.d15 p15 (spP K w (fun g : Int × Int => [eInt g.1, eInt g.2]) eInt (fun g => m_halfway g.1 g.2)) :=
  fn_pure T.F15 sc15 (fun _ => rfl) (by decide) fun cdv A outer s H E hr g => bd_halfway T cdv A outer s H E hr g.1 g.2
theorem bd_can_sail (T : Tp K mg) (cdv : Value) (A : Around) (outer : List Env) (s : Shared) (H : Hp) (E : XK) (hr : Room 1 (A.deeper (envOfC "can_sail" (defScope (topS 20)) s.heap.objs.size T.f16 cdv))) (wind_ : Int) (course_ : Int) (close_ : Int) : SF (cx0 P w K mg base N16 "can_sail" (topS 20) T.f16 cdv A outer s H E) (m := Option) wd0 W0 H [some (.frz (eInt wind_)), some (.frz (eInt course_)), some (.frz (eInt close_))] (defBody (topS 20)) eBool (m_can_sail wind_ course_ close_) :=
  have nd := sc16.nd
  (SL.atR (R' := [some (.frz (eInt wind_)), some (.frz (eInt course_)), some (.frz (eInt close_))]) (sf_ret (SX.eq (SC.e (sc_ge (SX.b (se_absI rfl T.z_abs (SX.b (se_call (FnOk.mono (ok_turned_by T) (by decide)) hr rfl T.g5 T.F5.kp T.b5 (sa_cons (ea := eInt) (eg := fun g : Int => [eInt g]) (se_var (ea := eInt) (d := wind_) (i := 0) rfl (.inl rfl) rfl rfl rfl) (sa_one (ea := eInt) (se_var (ea := eInt) (d := course_) (i := 1) rfl (.inl rfl) rfl rfl rfl))) rfl rfl rfl)))) (SX.b (se_var (ea := eInt) (d := close_) (i := 2) rfl (.inl rfl) rfl rfl rfl))) rfl) (by first | with_reducible rfl | (simp only [pure_bind, bind_assoc, bind_pure, tt_if, bif_and, bif_or]; done) | (simp only [pure_bind, bind_assoc, bind_pure, tt_if, bif_and, bif_or]; with_reducible rfl) | (simp only [pure_bind, bind_assoc, bind_pure, tt_if, bif_and, bif_or]; rfl) | rfl))) rfl)
theorem ok_can_sail (T : Tp K mg) : FnOk P w K mg base CX0 2 T.f16 T.d16 p16 (spP K w (fun g : Int × Int × Int => [eInt g.1, eInt g.2.1, eInt g.2.2]) eBool (fun g => m_can_sail g.1 g.2.1 g.2.2)) :=
  fn_pure T.F16 sc16 (fun _ => rfl) (by decide) fun cdv A outer s H E hr g => bd_can_sail T cdv A outer s H E hr g.1 g.2.1 g.2.2
theorem bd_points_between (T : Tp K mg) (cdv : Value) (A : Around) (outer : List Env) (s : Shared) (H : Hp) (E : XK) (hr : Room 1 (A.deeper (envOfC "points_between" (defScope (topS 22)) s.heap.objs.size T.f17 cdv))) (one_ : Int) (other_ : Int) : SF (cx0 P w K mg base N17 "points_between" (topS 22) T.f17 cdv A outer s H E) (m := Option) wd0 W0 H [some (.frz (eInt one_)), some (.frz (eInt other_)), none, none, none] (defBody (topS 22)) (eTup eInt) (m_points_between one_ other_) :=
  have nd := sc17.nd
  (SL.atR (R' := [some (.frz (eInt one_)), some (.frz (eInt other_)), none, none, none]) (SL.asc (sl_set (i := 2) (ea := eInt) nd rfl (.inl rfl) (ltR 5 rfl rfl) (SX.eq (se_call (FnOk.mono (ok_turned_by T) (by decide)) hr rfl T.g5 T.F5.kp T.b5 (sa_cons (ea := eInt) (eg := fun g : Int => [eInt g]) (se_var (ea := eInt) (d := one_) (i := 0) rfl (.inr (.inl rfl)) rfl rfl rfl) (sa_one (ea := eInt) (se_var (ea := eInt) (d := other_) (i := 1) rfl (.inl rfl) rfl rfl rfl))) rfl rfl rfl) (by first | with_reducible rfl | (simp only [pure_bind, bind_assoc, bind_pure, tt_if, bif_and, bif_or]; done) | (simp only [pure_bind, bind_assoc, bind_pure, tt_if, bif_and, bif_or]; with_reducible rfl) | (simp only [pure_bind, bind_assoc, bind_pure, tt_if, bif_and, bif_or]; rfl) | rfl)) (fun gap_ => (SL.atR (R' := [some (.frz (eInt one_)), some (.frz (eInt other_)), some (.frz (eInt gap_)), none, none]) (SL.asc (sl_set (i := 3) (ea := eInt) nd rfl (.inr rfl) (ltR 5 rfl rfl) (SX.eq (sx_if kF_ok (SC.t (sc_gt (SX.b (se_var (ea := eInt) (d := gap_) (i := 2) rfl (.inl rfl) rfl rfl rfl)) (SX.b se_int)) rfl) se_int (se_neg (SX.b se_int))) (by first | with_reducible rfl | (simp only [pure_bind, bind_assoc, bind_pure, tt_if, bif_and, bif_or]; done) | (simp only [pure_bind, bind_assoc, bind_pure, tt_if, bif_and, bif_or]; with_reducible rfl) | (simp only [pure_bind, bind_assoc, bind_pure, tt_if, bif_and, bif_or]; rfl) | rfl)) (fun step_ => (SL.atR (R' := [some (.frz (eInt one_)), some (.frz (eInt other_)), some (.frz (eInt gap_)), some (.frz (eInt step_)), none]) (sf_ret (SX.eq (se_tupleL (ea := eInt) rfl T.z_tuple (SX.ob (so_comp (eb := eInt) (own := [("k", 4)]) (g := (gName 4)) (is := [4]) (dts := (fun a => [eInt a])) (mt := fun k_ => pure true) (me := fun k_ => (fromO (mulG step_ k_) >>= fun v3 => fromO (modG (one_ + v3) (32 : Int)))) rfl nd (si_range1 rfl T.z_range (SX.b (se_add (SX.b (se_absI rfl T.z_abs (SX.b (se_var (ea := eInt) (d := gap_) (i := 2) rfl (.inl rfl) rfl rfl rfl)))) (SX.b se_int)))) (blkOk_by rfl) (fun _ _ _ _ _ => (pg_name (i := 4) nd rfl (.inl rfl))) g_name (by decide) (ltAll 5 rfl rfl) (fun k_ _ _ _ _ _ => sf_nil) (fun k_ _ _ _ _ _ => (SX.eq (se_mod (SX.b (se_add (SX.b (se_var (ea := eInt) (d := one_) (i := 0) rfl (.inr (.inl rfl)) rfl rfl rfl)) (SX.b (se_mul (SX.b (se_var (ea := eInt) (d := step_) (i := 3) rfl (.inr (.inl rfl)) rfl rfl rfl)) (SX.b (se_var (ea := eInt) (d := k_) (i := 4) rfl (.inl rfl) rfl rfl rfl)))))) (SX.b se_int)) (by first | with_reducible rfl | (simp only [pure_bind, bind_assoc, bind_pure, tt_if, bif_and, bif_or]; done) | (simp only [pure_bind, bind_assoc, bind_pure, tt_if, bif_and, bif_or]; with_reducible rfl) | (simp only [pure_bind, bind_assoc, bind_pure, tt_if, bif_and, bif_or]; rfl) | rfl)))))) (by first | with_reducible rfl | (simp only [pure_bind, bind_assoc, bind_pure, tt_if, bif_and, bif_or]; done) | (simp only [pure_bind, bind_assoc, bind_pure, tt_if, bif_and, bif_or]; with_reducible rfl) | (simp only [pure_bind, bind_assoc, bind_pure, tt_if, bif_and, bif_or]; rfl) | rfl))) rfl)) rfl (.inl rfl))) rfl)) rfl (.inr rfl))) rfl)
theorem ok_points_between (T : Tp K mg) : FnOk P w K mg base CX0 2 T.f17 T.d17 p17 (spP K w (fun g : Int × Int => [eInt g.1, eInt g.2]) (eTup eInt) (fun g => m_points_between g.1 g.2)) :=
  fn_pure T.F17 sc17 (fun _ => rfl) (by decide) fun cdv A outer s H E hr g => bd_points_between T cdv A outer s H E hr g.1 g.2
theorem bd__law_pick_i1 (T : Tp K mg) (cdv : Value) (A : Around) (outer : List Env) (s : Shared) (H : Hp) (E : XK) (aw : Addr) (hr : Room 1 (A.deeper (envOfC "_law_pick" (defScope (topS 27)) s.heap.objs.size T.f18 cdv))) (rows_ : (List Int)) : SF (cx0 P w K mg base N18 "_law_pick" (topS 27) T.f18 cdv A outer s H E) (m := WM DW) (drawsW aw) W0 H [some (.adr aw), some (.frz ((eLst eInt) rows_))] (defBody (topS 27)) eInt (m__law_pick_i1 rows_) :=
  have nd := sc18.nd
  have huw : _ := Nat.lt_of_le_of_lt (Nat.add_le_add_left (by decide : 1 ≤ 64) _) hr.units
  (SL.atR (R' := [some (.adr aw), some (.frz ((eLst eInt) rows_))]) (sf_ret (SX.eq (se_ixL (ea := eInt) (SX.b (se_var (ea := (eLst eInt)) (d := rows_) (i := 1) rfl (.inl rfl) rfl rfl rfl)) (SX.b (se_callW (i := 0) (FnOk.mono (ok__law_next T) (by decide)) hr rfl T.g8 T.F8.kp T.b8 rfl (.inl rfl) rfl rfl rfl (sa_one (ea := eInt) (se_lenL (ea := eInt) rfl T.z_len (SX.b (se_var (ea := (eLst eInt)) (d := rows_) (i := 1) rfl (.inl rfl) rfl rfl rfl)))) rfl rfl rfl)) (fun _ _ => rfl)) (by first | with_reducible rfl | (simp only [pure_bind, bind_assoc, bind_pure, tt_if, bif_and, bif_or]; done) | (simp only [pure_bind, bind_assoc, bind_pure, tt_if, bif_and, bif_or]; with_reducible rfl) | (simp only [pure_bind, bind_assoc, bind_pure, tt_if, bif_and, bif_or]; rfl) | rfl))) rfl)
theorem ok__law_pick_i1 (T : Tp K mg) : FnOk P w K mg base CX0 2 T.f18 T.d18 p18 (spW K w drawsW (fun g : (List Int) => [(eLst eInt) g]) eInt (fun g => m__law_pick_i1 g)) :=
  fn_world T.F18 sc18 (fun _ => rfl) (by decide) fun cdv A outer s H E aw hr g => bd__law_pick_i1 T cdv A outer s H E aw hr g
theorem bd__law_pick_i2 (T : Tp K mg) (cdv : Value) (A : Around) (outer : List Env) (s : Shared) (H : Hp) (E : XK) (aw : Addr) (hr : Room 1 (A.deeper (envOfC "_law_pick" (defScope (topS 27)) s.heap.objs.size T.f18 cdv))) (rows_ : (List Str)) : SF (cx0 P w K mg base N18 "_law_pick" (topS 27) T.f18 cdv A outer s H E) (m := WM DW) (drawsW aw) W0 H [some (.adr aw), some (.frz ((eLst eStr) rows_))] (defBody (topS 27)) eStr (m__law_pick_i2 rows_) :=
  have nd := sc18.nd
  have huw : _ := Nat.lt_of_le_of_lt (Nat.add_le_add_left (by decide : 1 ≤ 64) _) hr.units
  (SL.atR (R' := [some (.adr aw), some (.frz ((eLst eStr) rows_))]) (sf_ret (SX.eq (se_ixL (ea := eStr) (SX.b (se_var (ea := (eLst eStr)) (d := rows_) (i := 1) rfl (.inl rfl) rfl rfl rfl)) (SX.b (se_callW (i := 0) (FnOk.mono (ok__law_next T) (by decide)) hr rfl T.g8 T.F8.kp T.b8 rfl (.inl rfl) rfl rfl rfl (sa_one (ea := eInt) (se_lenL (ea := eStr) rfl T.z_len (SX.b (se_var (ea := (eLst eStr)) (d := rows_) (i := 1) rfl (.inl rfl) rfl rfl rfl)))) rfl rfl rfl)) (fun _ _ => rfl)) (by first | with_reducible rfl | (simp only [pure_bind, bind_assoc, bind_pure, tt_if, bif_and, bif_or]; done) | (simp only [pure_bind, bind_assoc, bind_pure, tt_if, bif_and, bif_or]; with_reducible rfl) | (simp only [pure_bind, bind_assoc, bind_pure, tt_if, bif_and, bif_or]; rfl) | rfl))) rfl)
theorem ok__law_pick_i2 (T : Tp K mg) : FnOk P w K mg base CX0 2 T.f18 T.d18 p18 (spW K w drawsW (fun g : (List Str) => [(eLst eStr) g]) eStr (fun g => m__law_pick_i2 g)) :=
  fn_world T.F18 sc18 (fun _ => rfl) (by decide) fun cdv A outer s H E aw hr g => bd__law_pick_i2 T cdv A outer s H E aw hr g
theorem bd__law_turn (T : Tp K mg) (cdv : Value) (A : Around) (outer : List Env) (s : Shared) (H : Hp) (E : XK) (hr : Room 1 (A.deeper (envOfC "_law_turn" (defScope (topS 31)) s.heap.objs.size T.f19 cdv))) (one_ : Int) (other_ : Int) : SF (cx0 P w K mg base N19 "_law_turn" (topS 31) T.f19 cdv A outer s H E) (m := Option) wd0 W0 H [some (.frz (eInt one_)), some (.frz (eInt other_)), none, none] (defBody (topS 31)) eInt (m__law_turn one_ other_) :=
  have nd := sc19.nd
  (SL.atR (R' := [some (.frz (eInt one_)), some (.frz (eInt other_)), none, none]) (SL.asc (sl_setLc (eb := (eT2 eInt eInt)) (i := 2) (own := [("by", 3)]) (g := (gName 3)) (is := [3]) (dts := (fun a => [eInt a])) (mt := fun by_ => (fromO (m__law_round (one_ + by_)) >>= fun v2 => fromO (m__law_round other_) >>= fun v3 => pure (decide (v2 = v3)))) (me := fun by_ => (pure ((absI by_), ((0 : Int) - by_)))) rfl rfl (ltR 4 rfl rfl) (sw_true rfl rfl rfl rfl) rfl nd (si_range2 rfl T.z_range (SX.b (se_sub (SX.b se_int) (SX.b se_int))) (SX.b se_int)) (blkOk_by rfl) (fun _ _ _ _ _ => (pg_name (i := 3) nd rfl (.inl rfl))) g_name (by decide) (ltAll 4 rfl rfl) (fun by_ _ _ _ _ _ => (SIf.eq (sf_one (SC.t (sc_eqT eq_int (by decide) hr.units (SX.b (se_call (FnOk.mono (ok__law_round T) (by decide)) hr rfl T.g12 T.F12.kp T.b12 (sa_one (ea := eInt) (se_add (SX.b (se_var (ea := eInt) (d := one_) (i := 0) rfl (.inr (.inl rfl)) rfl rfl rfl)) (SX.b (se_var (ea := eInt) (d := by_) (i := 3) rfl (.inl rfl) rfl rfl rfl)))) rfl rfl rfl)) (SX.b (se_call (FnOk.mono (ok__law_round T) (by decide)) hr rfl T.g12 T.F12.kp T.b12 (sa_one (ea := eInt) (se_var (ea := eInt) (d := other_) (i := 1) rfl (.inr (.inl rfl)) rfl rfl rfl)) rfl rfl rfl))) rfl)) (by first | with_reducible rfl | (simp only [pure_bind, bind_assoc, bind_pure, tt_if, bif_and, bif_or]; done) | (simp only [pure_bind, bind_assoc, bind_pure, tt_if, bif_and, bif_or]; with_reducible rfl) | (simp only [pure_bind, bind_assoc, bind_pure, tt_if, bif_and, bif_or]; rfl) | rfl))) (fun by_ _ _ _ _ _ => (SX.eq (se_tup (et := (eT2 eInt eInt)) (sa_cons (ea := eInt) (eg := fun g : Int => [eInt g]) (se_absI rfl T.z_abs (SX.b (se_var (ea := eInt) (d := by_) (i := 3) rfl (.inl rfl) rfl rfl rfl))) (sa_one (ea := eInt) (se_sub (SX.b se_int) (SX.b (se_var (ea := eInt) (d := by_) (i := 3) rfl (.inl rfl) rfl rfl rfl))))) (fun _ => rfl) (fun _ => Nat.le_of_ble_eq_true rfl)) (by first | with_reducible rfl | (simp only [pure_bind, bind_assoc, bind_pure, tt_if, bif_and, bif_or]; done) | (simp only [pure_bind, bind_assoc, bind_pure, tt_if, bif_and, bif_or]; with_reducible rfl) | (simp only [pure_bind, bind_assoc, bind_pure, tt_if, bif_and, bif_or]; rfl) | rfl))) (by first | with_reducible rfl | (simp only [pure_bind, bind_assoc, bind_pure, tt_if, bif_and, bif_or]; done) | (simp only [pure_bind, bind_assoc, bind_pure, tt_if, bif_and, bif_or]; with_reducible rfl) | (simp only [pure_bind, bind_assoc, bind_pure, tt_if, bif_and, bif_or]; rfl) | rfl) (fun rows_ => (SL.lock 2 rfl (SL.atR (R' := [some (.frz (eInt one_)), some (.frz (eInt other_)), some (.frz ((eLst (eT2 eInt eInt)) rows_)), none]) (sf_ret (SX.eq (se_sub (SX.b se_int) (SX.b (se_ixCI (ea := (eT2 eInt eInt)) (ec := eInt) (i := 1) (f := fun p => p.2) (SX.b (se_minL (ea := (eT2 eInt eInt)) (n := 8) (odr_t2 odr_int odr_int) (by decide) rfl hr.units rfl T.z_min (SX.b (se_var (ea := (eLst (eT2 eInt eInt))) (d := rows_) (i := 2) rfl (.inl rfl) rfl rfl rfl)))) (SX.b se_int) (fun _ _ => rfl) (fun p => ⟨_, rfl, rfl⟩)))) (by first | with_reducible rfl | (simp only [pure_bind, bind_assoc, bind_pure, tt_if, bif_and, bif_or]; done) | (simp only [pure_bind, bind_assoc, bind_pure, tt_if, bif_and, bif_or]; with_reducible rfl) | (simp only [pure_bind, bind_assoc, bind_pure, tt_if, bif_and, bif_or]; rfl) | rfl))) rfl))))) rfl)
theorem ok__law_turn (T : Tp K mg) : FnOk P w K mg base CX0 2 T.f19 T.d19 p19 (spP K w (fun g : Int × Int => [eInt g.1, eInt g.2]) eInt (fun g => m__law_turn g.1 g.2)) :=
  fn_pure T.F19 sc19 (fun _ => rfl) (by decide) fun cdv A outer s H E hr g => bd__law_turn T cdv A outer s H E hr g.1 g.2
theorem bd_all_names (T : Tp K mg) (cdv : Value) (A : Around) (outer : List Env) (s : Shared) (H : Hp) (E : XK) (hr : Room 2 (A.deeper (envOfC "all_names" (defScope (topS 13)) s.heap.objs.size T.f20 cdv)))  : SF (cx0 P w K mg base N20 "all_names" (topS 13) T.f20 cdv A outer s H E) (m := Option) wd0 W0 H [none] (defBody (topS 13)) (eLst eStr) (m_all_names ) :=
  have nd := sc20.nd
  (SL.atR (R' := [none]) (sf_ret (SX.eq (SX.f (so_comp (eb := eStr) (own := [("point", 0)]) (g := (gName 0)) (is := [0]) (dts := (fun a => [eInt a])) (mt := fun point_ => pure true) (me := fun point_ => (fromO (m_name_of point_))) rfl nd (si_range1 rfl T.z_range (SX.b se_int)) (blkOk_by rfl) (fun _ _ _ _ _ => (pg_name (i := 0) nd rfl (.inl rfl))) g_name (by decide) (ltAll 1 rfl rfl) (fun point_ _ _ _ _ _ => sf_nil) (fun point_ _ _ _ _ _ => (SX.eq (se_call (FnOk.mono (ok_name_of T) (by decide)) hr rfl T.g14 T.F14.kp T.b14 (sa_one (ea := eInt) (se_var (ea := eInt) (d := point_) (i := 0) rfl (.inl rfl) rfl rfl rfl)) rfl rfl rfl) (by first | with_reducible rfl | (simp only [pure_bind, bind_assoc, bind_pure, tt_if, bif_and, bif_or]; done) | (simp only [pure_bind, bind_assoc, bind_pure, tt_if, bif_and, bif_or]; with_reducible rfl) | (simp only [pure_bind, bind_assoc, bind_pure, tt_if, bif_and, bif_or]; rfl) | rfl))))) (by first | with_reducible rfl | (simp only [pure_bind, bind_assoc, bind_pure, tt_if, bif_and, bif_or]; done) | (simp only [pure_bind, bind_assoc, bind_pure, tt_if, bif_and, bif_or]; with_reducible rfl) | (simp only [pure_bind, bind_assoc, bind_pure, tt_if, bif_and, bif_or]; rfl) | rfl))) rfl)
theorem ok_all_names (T : Tp K mg) : FnOk P w K mg base CX0 3 T.f20 T.d20 p20 (spP K w (fun g : Unit => []) (eLst eStr) (fun g => m_all_names )) :=
  fn_pure T.F20 sc20 (fun _ => rfl) (by decide) fun cdv A outer s H E hr g => bd_all_names T cdv A outer s H E hr 
theorem bd_in_degrees (T : Tp K mg) (cdv : Value) (A : Around) (outer : List Env) (s : Shared) (H : Hp) (E : XK) (hr : Room 2 (A.deeper (envOfC "in_degrees" (defScope (topS 18)) s.heap.objs.size T.f21 cdv))) (point_ : Int) : SF (cx0 P w K mg base N21 "in_degrees" (topS 18) T.f21 cdv A outer s H E) (m := Option) wd0 W0 H [some (.frz (eInt point_))] (defBody (topS 18)) (eT2 eInt eInt) (m_in_degrees point_) :=
  have nd := sc21.nd
  (SL.atR (R' := [some (.frz (eInt point_))]) (sf_ret (SX.eq (se_call (FnOk.mono (ok_fraction T) (by decide)) hr rfl T.g13 T.F13.kp T.b13 (sa_cons (ea := eInt) (eg := fun g : Int => [eInt g]) (se_mul (SX.b (se_var (ea := eInt) (d := point_) (i := 0) rfl (.inl rfl) rfl rfl rfl)) (SX.b se_int)) (sa_one (ea := eInt) se_int)) rfl rfl rfl) (by first | with_reducible rfl | (simp only [pure_bind, bind_assoc, bind_pure, tt_if, bif_and, bif_or]; done) | (simp only [pure_bind, bind_assoc, bind_pure, tt_if, bif_and, bif_or]; with_reducible rfl) | (simp only [pure_bind, bind_assoc, bind_pure, tt_if, bif_and, bif_or]; rfl) | rfl))) rfl)
theorem ok_in_degrees (T : Tp K mg) : FnOk P w K mg base CX0 3 T.f21 T.d21 p21 (spP K w (fun g : Int => [eInt g]) (eT2 eInt eInt) (fun g => m_in_degrees g)) :=
  fn_pure T.F21 sc21 (fun _ => rfl) (by decide) fun cdv A outer s H E hr g => bd_in_degrees T cdv A outer s H E hr g
theorem bd_tacks_for (T : Tp K mg) (cdv : Value) (A : Around) (outer : List Env) (s : Shared) (H : Hp) (E : XK) (hr : Room 2 (A.deeper (envOfC "tacks_for" (defScope (topS 21)) s.heap.objs.size T.f22 cdv))) (wind_ : Int) (course_ : Int) (close_ : Int) : SF (cx0 P w K mg base N22 "tacks_for" (topS 21) T.f22 cdv A outer s H E) (m := Option) wd0 W0 H [some (.frz (eInt wind_)), some (.frz (eInt course_)), some (.frz (eInt close_)), none, none] (defBody (topS 21)) (eT2 eInt eInt) (m_tacks_for wind_ course_ close_) :=
  have nd := sc22.nd
  (SL.atR (R' := [some (.frz (eInt wind_)), some (.frz (eInt course_)), some (.frz (eInt close_)), none, none]) (SL.asc (sl_par2 (i := 3) (j := 4) rfl nd rfl rfl (by decide) rfl rfl (ltAll 5 rfl rfl) (SM.eq (sm_consF (se_var (ea := eInt) (d := course_) (i := 1) rfl (.inl rfl) rfl rfl rfl) (sm_oneF (se_var (ea := eInt) (d := course_) (i := 1) rfl (.inl rfl) rfl rfl rfl))) (by first | with_reducible rfl | (simp only [pure_bind, bind_assoc, bind_pure, tt_if, bif_and, bif_or]; done) | (simp only [pure_bind, bind_assoc, bind_pure, tt_if, bif_and, bif_or]; with_reducible rfl) | (simp only [pure_bind, bind_assoc, bind_pure, tt_if, bif_and, bif_or]; rfl) | rfl)) (fun _ => rfl) (fun p_ => (SL.atR (R' := [some (.frz (eInt wind_)), some (.frz (eInt course_)), some (.frz (eInt close_)), some (.frz (eInt p_.1)), some (.frz (eInt p_.2))]) (SL.asc (sl_whP (Rl := fun d : Int => [some (.frz (eInt wind_)), some (.frz (eInt course_)), some (.frz (eInt close_)), some (.frz (eInt d)), some (.frz (eInt p_.2))]) (d0 := p_.1) PassesOwn.never (subC (subC (subC (subC (subC subE))))) (fun d_ => (ST.eq (st_not (SX.t (se_call (FnOk.mono (ok_can_sail T) (by decide)) hr rfl T.g16 T.F16.kp T.b16 (sa_cons (ea := eInt) (eg := fun g : Int × Int => [eInt g.1, eInt g.2]) (se_var (ea := eInt) (d := wind_) (i := 0) rfl (.inl rfl) rfl rfl rfl) (sa_cons (ea := eInt) (eg := fun g : Int => [eInt g]) (se_var (ea := eInt) (d := d_) (i := 3) rfl (.inl rfl) rfl rfl rfl) (sa_one (ea := eInt) (se_var (ea := eInt) (d := close_) (i := 2) rfl (.inl rfl) rfl rfl rfl)))) rfl rfl rfl) (fun _ => rfl))) (by first | with_reducible rfl | (simp only [pure_bind, bind_assoc, bind_pure, tt_if, bif_and, bif_or]; done) | (simp only [pure_bind, bind_assoc, bind_pure, tt_if, bif_and, bif_or]; with_reducible rfl) | (simp only [pure_bind, bind_assoc, bind_pure, tt_if, bif_and, bif_or]; rfl) | rfl))) (fun d_ => (SL.atR (R' := [some (.frz (eInt wind_)), some (.frz (eInt course_)), some (.frz (eInt close_)), some (.frz (eInt d_)), some (.frz (eInt p_.2))]) (SL.asc (sl_augI (i := 3) (n := d_) ip_sub nd rfl (.inl rfl) rfl (ltR 5 rfl rfl) se_int (fun a_ => (sp_nil (d_ - a_) (subC (subC (subC (subC (subC subE))))))) (.inr rfl))) rfl)) (fun d_2 => (SL.atR (R' := [some (.frz (eInt wind_)), some (.frz (eInt course_)), some (.frz (eInt close_)), some (.frz (eInt d_2)), some (.frz (eInt p_.2))]) (SL.asc (sl_whP (Rl := fun d : Int => [some (.frz (eInt wind_)), some (.frz (eInt course_)), some (.frz (eInt close_)), some (.frz (eInt d_2)), some (.frz (eInt d))]) (d0 := p_.2) PassesOwn.never (subC (subC (subC (subC (subC subE))))) (fun d_3 => (ST.eq (st_not (SX.t (se_call (FnOk.mono (ok_can_sail T) (by decide)) hr rfl T.g16 T.F16.kp T.b16 (sa_cons (ea := eInt) (eg := fun g : Int × Int => [eInt g.1, eInt g.2]) (se_var (ea := eInt) (d := wind_) (i := 0) rfl (.inl rfl) rfl rfl rfl) (sa_cons (ea := eInt) (eg := fun g : Int => [eInt g]) (se_var (ea := eInt) (d := d_3) (i := 4) rfl (.inl rfl) rfl rfl rfl) (sa_one (ea := eInt) (se_var (ea := eInt) (d := close_) (i := 2) rfl (.inl rfl) rfl rfl rfl)))) rfl rfl rfl) (fun _ => rfl))) (by first | with_reducible rfl | (simp only [pure_bind, bind_assoc, bind_pure, tt_if, bif_and, bif_or]; done) | (simp only [pure_bind, bind_assoc, bind_pure, tt_if, bif_and, bif_or]; with_reducible rfl) | (simp only [pure_bind, bind_assoc, bind_pure, tt_if, bif_and, bif_or]; rfl) | rfl))) (fun d_3 => (SL.atR (R' := [some (.frz (eInt wind_)), some (.frz (eInt course_)), some (.frz (eInt close_)), some (.frz (eInt d_2)), some (.frz (eInt d_3))]) (SL.asc (sl_augI (i := 4) (n := d_3) ip_add nd rfl (.inl rfl) rfl (ltR 5 rfl rfl) se_int (fun a_2 => (sp_nil (d_3 + a_2) (subC (subC (subC (subC (subC subE))))))) (.inr rfl))) rfl)) (fun d_4 => (SL.atR (R' := [some (.frz (eInt wind_)), some (.frz (eInt course_)), some (.frz (eInt close_)), some (.frz (eInt d_2)), some (.frz (eInt d_4))]) (sf_ret (SX.eq (se_tup (et := (eT2 eInt eInt)) (sa_cons (ea := eInt) (eg := fun g : Int => [eInt g]) (se_mod (SX.b (se_var (ea := eInt) (d := d_2) (i := 3) rfl (.inl rfl) rfl rfl rfl)) (SX.b se_int)) (sa_one (ea := eInt) (se_mod (SX.b (se_var (ea := eInt) (d := d_4) (i := 4) rfl (.inl rfl) rfl rfl rfl)) (SX.b se_int)))) (fun _ => rfl) (fun _ => Nat.le_of_ble_eq_true rfl)) (by first | with_reducible rfl | (simp only [pure_bind, bind_assoc, bind_pure, tt_if, bif_and, bif_or]; done) | (simp only [pure_bind, bind_assoc, bind_pure, tt_if, bif_and, bif_or]; with_reducible rfl) | (simp only [pure_bind, bind_assoc, bind_pure, tt_if, bif_and, bif_or]; rfl) | rfl))) rfl)))) rfl)))) rfl)) rfl rfl)) rfl)
theorem ok_tacks_for (T : Tp K mg) : FnOk P w K mg base CX0 3 T.f22 T.d22 p22 (spP K w (fun g : Int × Int × Int => [eInt g.1, eInt g.2.1, eInt g.2.2]) (eT2 eInt eInt) (fun g => m_tacks_for g.1 g.2.1 g.2.2)) :=
  fn_pure T.F22 sc22 (fun _ => rfl) (by decide) fun cdv A outer s H E hr g => bd_tacks_for T cdv A outer s H E hr g.1 g.2.1 g.2.2
theorem bd_point_of (T : Tp K mg) (cdv : Value) (A : Around) (outer : List Env) (s : Shared) (H : Hp) (E : XK) (hr : Room 3 (A.deeper (envOfC "point_of" (defScope (topS 14)) s.heap.objs.size T.f23 cdv))) (tk : Takes (cxE P w K mg base N23 "point_of" (topS 14) T.f23 cdv A outer s H E) (fun cls d _ H' => E cls d H')) (text_ : Str) : SF (cxE P w K mg base N23 "point_of" (topS 14) T.f23 cdv A outer s H E) (wdE K w [("BadText", T.C_BadText, "place")]) (fun cls d _ H' => E cls d H') H [some (.frz (eStr text_)), none, none, none] (defBody (topS 14)) eInt (m_point_of text_) :=
  have nd := sc23.nd
  (SL.atR (R' := [some (.frz (eStr text_)), none, none, none]) (SL.asc (sl_set (i := 1) (ea := (eLst eStr)) nd rfl (.inl rfl) (ltR 4 rfl rfl) (SX.eq (se_call0 (FnOk.mono (ok_all_names T) (by decide)) hr rfl T.g20 T.F20.kp T.b20 rfl) (by first | with_reducible rfl | (simp only [pure_bind, bind_assoc, bind_pure, tt_if, bif_and, bif_or]; done) | (simp only [pure_bind, bind_assoc, bind_pure, tt_if, bif_and, bif_or]; with_reducible rfl) | (simp only [pure_bind, bind_assoc, bind_pure, tt_if, bif_and, bif_or]; rfl) | rfl)) (fun names_ => (SL.atR (R' := [some (.frz (eStr text_)), some (.frz ((eLst eStr) names_)), none, none]) (sf_ifR (ST.eq (SC.t (sc_inL eq_str (by decide) hr.units (SX.b (se_var (ea := eStr) (d := text_) (i := 0) rfl (.inr (.inl rfl)) rfl rfl rfl)) (SX.b (se_var (ea := (eLst eStr)) (d := names_) (i := 1) rfl (.inl rfl) rfl rfl rfl))) rfl) (by first | with_reducible rfl | (simp only [pure_bind, bind_assoc, bind_pure, tt_if, bif_and, bif_or]; done) | (simp only [pure_bind, bind_assoc, bind_pure, tt_if, bif_and, bif_or]; with_reducible rfl) | (simp only [pure_bind, bind_assoc, bind_pure, tt_if, bif_and, bif_or]; rfl) | rfl)) (SL.atR (R' := [some (.frz (eStr text_)), some (.frz ((eLst eStr) names_)), none, none]) (sf_ret (SX.eq (se_index (ea := eStr) eq_str (by decide) hr.units (SX.b (se_var (ea := (eLst eStr)) (d := names_) (i := 1) rfl (.inl rfl) rfl rfl rfl)) (SX.b (se_var (ea := eStr) (d := text_) (i := 0) rfl (.inr (.inl rfl)) rfl rfl rfl)) rfl rfl rfl rfl) (by first | with_reducible rfl | (simp only [pure_bind, bind_assoc, bind_pure, tt_if, bif_and, bif_or]; done) | (simp only [pure_bind, bind_assoc, bind_pure, tt_if, bif_and, bif_or]; with_reducible rfl) | (simp only [pure_bind, bind_assoc, bind_pure, tt_if, bif_and, bif_or]; rfl) | rfl))) rfl) (SL.atR (R' := [some (.frz (eStr text_)), some (.frz ((eLst eStr) names_)), none, none]) (SL.asc (sl_set (i := 2) (ea := eInt) nd rfl (.inr rfl) (ltR 4 rfl rfl) se_int (fun long_ => (SL.atR (R' := [some (.frz (eStr text_)), some (.frz ((eLst eStr) names_)), some (.frz (eInt long_)), none]) (SL.asc (sl_whP (Rl := fun d : Int => [some (.frz (eStr text_)), some (.frz ((eLst eStr) names_)), some (.frz (eInt d)), none]) (d0 := long_) (passes_of rfl) (subC (subC (subC (subN subE)))) (fun d_ => (ST.eq (SW.t (sw_and (SC.t (sc_lt (SX.b (se_var (ea := eInt) (d := d_) (i := 2) rfl (.inr (.inl rfl)) rfl rfl rfl)) (SX.b (se_lenG rfl T.z_len (SX.b (se_var (ea := eStr) (d := text_) (i := 0) rfl (.inr (.inl rfl)) rfl rfl rfl))))) rfl) (sw_and1 (SX.t (se_anyL rfl rfl T.z_any (SX.ob (SX.liftE (so_comp (eb := eBool) (own := [("name", 3)]) (g := (gName 3)) (is := [3]) (dts := (fun a => [eStr a])) (mt := fun name_ => pure true) (me := fun name_ => (fromO (cutSG name_ none (some (d_ + (1 : Int)))) >>= fun v4 => fromO (cutSG text_ none (some (d_ + (1 : Int)))) >>= fun v5 => pure (decide (v4 = v5)))) rfl nd (si_lst (ea := eStr) (se_var (ea := (eLst eStr)) (d := names_) (i := 1) rfl (.inl rfl) rfl rfl rfl) (fun h => h.firms)) (blkOk_by rfl) (fun _ _ _ _ _ => (pg_name (i := 3) nd rfl (.inl rfl))) g_name (by decide) (ltAll 4 rfl rfl) (fun name_ _ _ _ _ _ => sf_nil) (fun name_ _ _ _ _ _ => (SX.eq (SC.e (sc_eqT eq_str (by decide) hr.units (SX.b (se_sliceS (SX.b (se_var (ea := eStr) (d := name_) (i := 3) rfl (.inl rfl) rfl rfl rfl)) sq_none (sq_some (se_add (SX.b (se_var (ea := eInt) (d := d_) (i := 2) rfl (.inr (.inl rfl)) rfl rfl rfl)) (SX.b se_int))))) (SX.b (se_sliceS (SX.b (se_var (ea := eStr) (d := text_) (i := 0) rfl (.inr (.inl rfl)) rfl rfl rfl)) sq_none (sq_some (se_add (SX.b (se_var (ea := eInt) (d := d_) (i := 2) rfl (.inr (.inl rfl)) rfl rfl rfl)) (SX.b se_int)))))) rfl) (by first | with_reducible rfl | (simp only [pure_bind, bind_assoc, bind_pure, tt_if, bif_and, bif_or]; done) | (simp only [pure_bind, bind_assoc, bind_pure, tt_if, bif_and, bif_or]; with_reducible rfl) | (simp only [pure_bind, bind_assoc, bind_pure, tt_if, bif_and, bif_or]; rfl) | rfl))))))) (fun _ => rfl))))) (by first | with_reducible rfl | (simp only [pure_bind, bind_assoc, bind_pure, tt_if, bif_and, bif_or]; done) | (simp only [pure_bind, bind_assoc, bind_pure, tt_if, bif_and, bif_or]; with_reducible rfl) | (simp only [pure_bind, bind_assoc, bind_pure, tt_if, bif_and, bif_or]; rfl) | rfl))) (fun d_ => (SL.atR (R' := [some (.frz (eStr text_)), some (.frz ((eLst eStr) names_)), some (.frz (eInt d_)), none]) (SL.asc (sl_augI (i := 2) (n := d_) ip_add nd rfl (.inr rfl) rfl (ltR 4 rfl rfl) se_int (fun a_ => (sp_nil (d_ + a_) (subC (subC (subC (subN subE)))))) (.inl rfl))) rfl)) (fun d_2 => (SL.atR (R' := [some (.frz (eStr text_)), some (.frz ((eLst eStr) names_)), some (.frz (eInt d_2)), none]) (sf_raiseI T.e_BadText (ok_init_BadText T) (hr.mono (by decide)) T.bi_BadText rfl tk rfl rfl (by first | exact List.mem_cons_self | decide) (se_var (ea := eInt) (d := d_2) (i := 2) rfl (.inr (.inl rfl)) rfl rfl rfl)) rfl)))) rfl)) rfl (.inl rfl))) rfl)) rfl)) rfl (.inr rfl))) rfl)
theorem ok_point_of (T : Tp K mg) : FnOk P w K mg base (L2.CX P w) 4 T.f23 T.d23 p23 (spF K w (exE K w [("BadText", T.C_BadText, "place")]) (fun g : Str => [eStr g]) eInt (fun g => (m_point_of g).run)) :=
  fn_exc T.F23 sc23 (fun _ => rfl) (by decide) fun cdv A outer s H E hr tk g => bd_point_of T cdv A outer s H E hr tk g
theorem bd__law_said (T : Tp K mg) (cdv : Value) (A : Around) (outer : List Env) (s : Shared) (H : Hp) (E : XK) (hr : Room 4 (A.deeper (envOfC "_law_said" (defScope (topS 32)) s.heap.objs.size T.f24 cdv))) (text_ : Str) : SF (cx0 P w K mg base N24 "_law_said" (topS 32) T.f24 cdv A outer s H E) (m := Option) wd0 W0 H [some (.frz (eStr text_)), none] (defBody (topS 32)) eAny (m__law_said text_) :=
  have nd := sc24.nd
  (SL.atR (R' := [some (.frz (eStr text_)), none]) (sl_try (i := 1) rfl rfl nd rfl rfl (ltR 2 rfl rfl) T.e_BadText rfl rfl (fun d b h => deInt_ok d b h) (fun W pn xe tk => (SX.eq (SX.mapI (ea := eInt) (eb := eAny) (f := eInt) (se_callX (FnOk.mono (ok_point_of T) (by decide)) tk hr rfl T.g23 T.F23.kp T.b23 (sa_one (ea := eStr) (se_var (ea := eStr) (d := text_) (i := 0) rfl (.inl rfl) rfl rfl rfl)) rfl rfl rfl) kF_ok (fun _ => rfl)) (by first | with_reducible rfl | (simp only [pure_bind, bind_assoc, bind_pure, tt_if, bif_and, bif_or]; done) | (simp only [pure_bind, bind_assoc, bind_pure, tt_if, bif_and, bif_or]; with_reducible rfl) | (simp only [pure_bind, bind_assoc, bind_pure, tt_if, bif_and, bif_or]; rfl) | rfl))) (fun a dx oe pn v er_ H1 hz hf hx rv => (SX.eq (sx_if kF_ok (SX.t (se_errIs (i := 1) T.e_BadText T.tB T.ki_BadText T.ne_BadText hz hf rfl (.inl rfl) rfl rfl rfl rfl T.z_isinstance rfl rfl) (fun _ => rfl)) (SX.mapI (ea := (eT2 eStr eInt)) (eb := eAny) (f := (eT2 eStr eInt)) (se_tup (et := (eT2 eStr eInt)) (sa_cons (ea := eStr) (eg := fun g : Int => [eInt g]) se_str (sa_one (ea := eInt) (se_errF (i := 1) T.e_BadText hz hf hx rv rfl (.inl rfl) rfl rfl rfl))) (fun _ => rfl) (fun _ => Nat.le_of_ble_eq_true rfl)) kF_ok (fun _ => rfl)) (SX.mapI (ea := eNon) (eb := eAny) (f := eNon) se_non kF_ok (fun _ => rfl))) (by first | with_reducible rfl | (simp only [pure_bind, bind_assoc, bind_pure, tt_if, bif_and, bif_or]; done) | (simp only [pure_bind, bind_assoc, bind_pure, tt_if, bif_and, bif_or]; with_reducible rfl) | (simp only [pure_bind, bind_assoc, bind_pure, tt_if, bif_and, bif_or]; rfl) | rfl)))) rfl)
theorem ok__law_said (T : Tp K mg) : FnOk P w K mg base CX0 5 T.f24 T.d24 p24 (spP K w (fun g : Str => [eStr g]) eAny (fun g => m__law_said g)) :=
  fn_pure T.F24 sc24 (fun _ => rfl) (by decide) fun cdv A outer s H E hr g => bd__law_said T cdv A outer s H E hr g
theorem bd_lawb (T : Tp K mg) (cdv : Value) (A : Around) (outer : List Env) (s : Shared) (H : Hp) (E : XK) (aw : Addr) (hr : Room 5 (A.deeper (envOfC "law" (defScope (topS 33)) s.heap.objs.size T.f25 cdv))) (script_ : List Int) : SF (cx0 P w K mg base N25 "law" (topS 33) T.f25 cdv A outer s H E) (m := WM DW) (drawsW aw) W0 H [some (.scr script_), some (.adr aw), none, none, none, none, none, none, none, none, none, none, none, none, none, none, none, none, none, none, none, none, none, none] ((defBody (topS 33)).drop 1) eBool (m_lawb script_) :=
  have nd := sc25.nd
  have huw : _ := Nat.lt_of_le_of_lt (Nat.add_le_add_left (by decide : 1 ≤ 64) _) hr.units
  (SL.atR (R' := [some (.scr script_), some (.adr aw), none, none, none, none, none, none, none, none, none, none, none, none, none, none, none, none, none, none, none, none, none, none]) (SL.asc (sl_set (i := 2) (ea := (eLst eStr)) nd rfl (.inr rfl) (ltR 24 rfl rfl) (SX.eq (se_call0 (FnOk.mono (ok__law_names T) (by decide)) hr rfl T.g11 T.F11.kp T.b11 rfl) (by first | with_reducible rfl | (simp only [pure_bind, bind_assoc, bind_pure, tt_if, bif_and, bif_or]; done) | (simp only [pure_bind, bind_assoc, bind_pure, tt_if, bif_and, bif_or]; with_reducible rfl) | (simp only [pure_bind, bind_assoc, bind_pure, tt_if, bif_and, bif_or]; rfl) | rfl)) (fun names_ => (SL.atR (R' := [some (.scr script_), some (.adr aw), some (.frz ((eLst eStr) names_)), none, none, none, none, none, none, none, none, none, none, none, none, none, none, none, none, none, none, none, none, none]) (sf_forG (Rl := fun d : Unit => [some (.scr script_), some (.adr aw), some (.frz ((eLst eStr) names_)), none, none, none, none, none, none, none, none, none, none, none, none, none, none, none, none, none, none, none, none, none]) (d0 := ()) (g := (gName 3)) (is := [3]) (dts := (fun a => [eInt a])) PassesOwn.never rfl (SI.eq (si_range1 rfl T.z_range (SX.b se_int)) (by first | with_reducible rfl | (simp only [pure_bind, bind_assoc, bind_pure, tt_if, bif_and, bif_or]; done) | (simp only [pure_bind, bind_assoc, bind_pure, tt_if, bif_and, bif_or]; with_reducible rfl) | (simp only [pure_bind, bind_assoc, bind_pure, tt_if, bif_and, bif_or]; rfl) | rfl)) (pg_name (i := 3) nd rfl (.inl rfl)) g_name (subC (subC (subC (subN (subN (subN (subN (subN (subN (subN (subN (subN (subN (subN (subN (subN (subN (subN (subN (subN (subN (subN (subN (subN subE)))))))))))))))))))))))) (fun _ => ltAll 24 rfl rfl) (fun turn_ d_ => (SL.atR (R' := [some (.scr script_), some (.adr aw), some (.frz ((eLst eStr) names_)), some (.frz (eInt turn_)), none, none, none, none, none, none, none, none, none, none, none, none, none, none, none, none, none, none, none, none]) (sl_parN (n := 0) (is := [4, 5, 6]) rfl (pg_tup rfl (pgs_cons (pg_name (i := 4) nd rfl (.inl rfl)) (pgs_cons (pg_name (i := 5) nd rfl (.inr rfl)) (pgs_cons (pg_name (i := 6) nd rfl (.inr rfl)) pgs_nil)))) (ltAll 24 rfl rfl) (SM.eq (sm_consF (se_sub (SX.b (se_callW (i := 1) (FnOk.mono (ok__law_next T) (by decide)) hr rfl T.g8 T.F8.kp T.b8 rfl (.inl rfl) rfl rfl rfl (sa_one (ea := eInt) se_int) rfl rfl rfl)) (SX.b se_int)) (sm_consF (se_callW (i := 1) (FnOk.mono (ok__law_next T) (by decide)) hr rfl T.g8 T.F8.kp T.b8 rfl (.inl rfl) rfl rfl rfl (sa_one (ea := eInt) se_int) rfl rfl rfl) (sm_oneF (se_callW (i := 1) (FnOk.mono (ok__law_next T) (by decide)) hr rfl T.g8 T.F8.kp T.b8 rfl (.inl rfl) rfl rfl rfl (sa_one (ea := eInt) se_int) rfl rfl rfl)))) (by first | with_reducible rfl | (simp only [pure_bind, bind_assoc, bind_pure, tt_if, bif_and, bif_or]; done) | (simp only [pure_bind, bind_assoc, bind_pure, tt_if, bif_and, bif_or]; with_reducible rfl) | (simp only [pure_bind, bind_assoc, bind_pure, tt_if, bif_and, bif_or]; rfl) | rfl)) (fun _ => rfl) (by decide) (fun p_ => (SL.atR (R' := [some (.scr script_), some (.adr aw), some (.frz ((eLst eStr) names_)), some (.frz (eInt turn_)), some (.frz (eInt p_.1)), some (.frz (eInt p_.2.1)), some (.frz (eInt p_.2.2)), none, none, none, none, none, none, none, none, none, none, none, none, none, none, none, none, none]) (sl_set (i := 6) (ea := eInt) nd rfl (.inr rfl) (ltR 24 rfl rfl) (SX.eq (se_callW (i := 1) (FnOk.mono (ok__law_pick_i1 T) (by decide)) hr rfl T.g18 T.F18.kp T.b18 rfl (.inl rfl) rfl rfl rfl (sa_one (ea := (eLst eInt)) (SX.f (so_lst (ea := eInt) (f := (fun g => [g.1, g.2.1, g.2.2.1, g.2.2.2])) (sa_cons (ea := eInt) (eg := fun g : Int × Int × Int => [eInt g.1, eInt g.2.1, eInt g.2.2]) (se_var (ea := eInt) (d := p_.2.2) (i := 6) rfl (.inr (.inl rfl)) rfl rfl rfl) (sa_cons (ea := eInt) (eg := fun g : Int × Int => [eInt g.1, eInt g.2]) (se_var (ea := eInt) (d := p_.2.2) (i := 6) rfl (.inr (.inl rfl)) rfl rfl rfl) (sa_cons (ea := eInt) (eg := fun g : Int => [eInt g]) (se_call (FnOk.mono (ok__law_round T) (by decide)) hr rfl T.g12 T.F12.kp T.b12 (sa_one (ea := eInt) (se_add (SX.b (se_var (ea := eInt) (d := p_.2.1) (i := 5) rfl (.inr (.inl rfl)) rfl rfl rfl)) (SX.b se_int))) rfl rfl rfl) (sa_one (ea := eInt) (se_var (ea := eInt) (d := p_.2.1) (i := 5) rfl (.inr (.inl rfl)) rfl rfl rfl))))) (fun _ => rfl) (fun _ => Nat.le_of_ble_eq_true rfl)))) rfl rfl rfl) (by first | with_reducible rfl | (simp only [pure_bind, bind_assoc, bind_pure, tt_if, bif_and, bif_or]; done) | (simp only [pure_bind, bind_assoc, bind_pure, tt_if, bif_and, bif_or]; with_reducible rfl) | (simp only [pure_bind, bind_assoc, bind_pure, tt_if, bif_and, bif_or]; rfl) | rfl)) (fun other_ => (SL.atR (R' := [some (.scr script_), some (.adr aw), some (.frz ((eLst eStr) names_)), some (.frz (eInt turn_)), some (.frz (eInt p_.1)), some (.frz (eInt p_.2.1)), some (.frz (eInt other_)), none, none, none, none, none, none, none, none, none, none, none, none, none, none, none, none, none]) (sl_set (i := 7) (ea := (eT4 eStr eInt eInt (eT2 eInt eInt))) nd rfl (.inl rfl) (ltR 24 rfl rfl) (SX.eq (se_tup (et := (eT4 eStr eInt eInt (eT2 eInt eInt))) (sa_cons (ea := eStr) (eg := fun g : Int × Int × (Int × Int) => [eInt g.1, eInt g.2.1, (eT2 eInt eInt) g.2.2]) (se_call (FnOk.mono (ok_name_of T) (by decide)) hr rfl T.g14 T.F14.kp T.b14 (sa_one (ea := eInt) (se_var (ea := eInt) (d := p_.1) (i := 4) rfl (.inl rfl) rfl rfl rfl)) rfl rfl rfl) (sa_cons (ea := eInt) (eg := fun g : Int × (Int × Int) => [eInt g.1, (eT2 eInt eInt) g.2]) (se_call (FnOk.mono (ok_opposite T) (by decide)) hr rfl T.g4 T.F4.kp T.b4 (sa_one (ea := eInt) (se_var (ea := eInt) (d := p_.2.1) (i := 5) rfl (.inr (.inl rfl)) rfl rfl rfl)) rfl rfl rfl) (sa_cons (ea := eInt) (eg := fun g : (Int × Int) => [(eT2 eInt eInt) g]) (se_call (FnOk.mono (ok_turned_by T) (by decide)) hr rfl T.g5 T.F5.kp T.b5 (sa_cons (ea := eInt) (eg := fun g : Int => [eInt g]) (se_var (ea := eInt) (d := p_.2.1) (i := 5) rfl (.inr (.inl rfl)) rfl rfl rfl) (sa_one (ea := eInt) (se_var (ea := eInt) (d := other_) (i := 6) rfl (.inr (.inl rfl)) rfl rfl rfl))) rfl rfl rfl) (sa_one (ea := (eT2 eInt eInt)) (se_call (FnOk.mono (ok_in_degrees T) (by decide)) hr rfl T.g21 T.F21.kp T.b21 (sa_one (ea := eInt) (se_var (ea := eInt) (d := p_.2.1) (i := 5) rfl (.inr (.inl rfl)) rfl rfl rfl)) rfl rfl rfl))))) (fun _ => rfl) (fun _ => Nat.le_of_ble_eq_true rfl)) (by first | with_reducible rfl | (simp only [pure_bind, bind_assoc, bind_pure, tt_if, bif_and, bif_or]; done) | (simp only [pure_bind, bind_assoc, bind_pure, tt_if, bif_and, bif_or]; with_reducible rfl) | (simp only [pure_bind, bind_assoc, bind_pure, tt_if, bif_and, bif_or]; rfl) | rfl)) (fun said_ => (SL.atR (R' := [some (.scr script_), some (.adr aw), some (.frz ((eLst eStr) names_)), some (.frz (eInt turn_)), some (.frz (eInt p_.1)), some (.frz (eInt p_.2.1)), some (.frz (eInt other_)), some (.frz ((eT4 eStr eInt eInt (eT2 eInt eInt)) said_)), none, none, none, none, none, none, none, none, none, none, none, none, none, none, none, none]) (sl_ifR (ST.eq (st_not (SX.t (se_call (FnOk.mono (ok__law_same T) (by decide)) hr rfl T.g9 T.F9.kp T.b9 (sa_cons (ea := eAny) (eg := fun g : PyData => [eAny g]) (SX.mapI (ea := (eT4 eStr eInt eInt (eT2 eInt eInt))) (eb := eAny) (f := (eT4 eStr eInt eInt (eT2 eInt eInt))) (se_var (ea := (eT4 eStr eInt eInt (eT2 eInt eInt))) (d := said_) (i := 7) rfl (.inl rfl) rfl rfl rfl) kF_ok (fun _ => rfl)) (sa_one (ea := eAny) (SX.mapI (ea := (eT4 eStr eInt eInt (eT2 eInt eInt))) (eb := eAny) (f := (eT4 eStr eInt eInt (eT2 eInt eInt))) (se_tup (et := (eT4 eStr eInt eInt (eT2 eInt eInt))) (sa_cons (ea := eStr) (eg := fun g : Int × Int × (Int × Int) => [eInt g.1, eInt g.2.1, (eT2 eInt eInt) g.2.2]) (se_ixL (ea := eStr) (SX.b (se_var (ea := (eLst eStr)) (d := names_) (i := 2) rfl (.inr (.inl rfl)) rfl rfl rfl)) (SX.b (se_call (FnOk.mono (ok__law_round T) (by decide)) hr rfl T.g12 T.F12.kp T.b12 (sa_one (ea := eInt) (se_var (ea := eInt) (d := p_.1) (i := 4) rfl (.inl rfl) rfl rfl rfl)) rfl rfl rfl)) (fun _ _ => rfl)) (sa_cons (ea := eInt) (eg := fun g : Int × (Int × Int) => [eInt g.1, (eT2 eInt eInt) g.2]) (se_call (FnOk.mono (ok__law_round T) (by decide)) hr rfl T.g12 T.F12.kp T.b12 (sa_one (ea := eInt) (se_add (SX.b (se_var (ea := eInt) (d := p_.2.1) (i := 5) rfl (.inr (.inl rfl)) rfl rfl rfl)) (SX.b se_int))) rfl rfl rfl) (sa_cons (ea := eInt) (eg := fun g : (Int × Int) => [(eT2 eInt eInt) g]) (se_call (FnOk.mono (ok__law_turn T) (by decide)) hr rfl T.g19 T.F19.kp T.b19 (sa_cons (ea := eInt) (eg := fun g : Int => [eInt g]) (se_var (ea := eInt) (d := p_.2.1) (i := 5) rfl (.inr (.inl rfl)) rfl rfl rfl) (sa_one (ea := eInt) (se_var (ea := eInt) (d := other_) (i := 6) rfl (.inr (.inl rfl)) rfl rfl rfl))) rfl rfl rfl) (sa_one (ea := (eT2 eInt eInt)) (se_call (FnOk.mono (ok__law_fraction T) (by decide)) hr rfl T.g10 T.F10.kp T.b10 (sa_cons (ea := eInt) (eg := fun g : Int => [eInt g]) (se_mul (SX.b (se_var (ea := eInt) (d := p_.2.1) (i := 5) rfl (.inr (.inl rfl)) rfl rfl rfl)) (SX.b se_int)) (sa_one (ea := eInt) se_int)) rfl rfl rfl))))) (fun _ => rfl) (fun _ => Nat.le_of_ble_eq_true rfl)) kF_ok (fun _ => rfl)))) rfl rfl rfl) (fun _ => rfl))) (by first | with_reducible rfl | (simp only [pure_bind, bind_assoc, bind_pure, tt_if, bif_and, bif_or]; done) | (simp only [pure_bind, bind_assoc, bind_pure, tt_if, bif_and, bif_or]; with_reducible rfl) | (simp only [pure_bind, bind_assoc, bind_pure, tt_if, bif_and, bif_or]; rfl) | rfl)) (SL.atR (R' := [some (.scr script_), some (.adr aw), some (.frz ((eLst eStr) names_)), some (.frz (eInt turn_)), some (.frz (eInt p_.1)), some (.frz (eInt p_.2.1)), some (.frz (eInt other_)), some (.frz ((eT4 eStr eInt eInt (eT2 eInt eInt)) said_)), none, none, none, none, none, none, none, none, none, none, none, none, none, none, none, none]) (sf_ret se_bool) rfl) (SL.atR (R' := [some (.scr script_), some (.adr aw), some (.frz ((eLst eStr) names_)), some (.frz (eInt turn_)), some (.frz (eInt p_.1)), some (.frz (eInt p_.2.1)), some (.frz (eInt other_)), some (.frz ((eT4 eStr eInt eInt (eT2 eInt eInt)) said_)), none, none, none, none, none, none, none, none, none, none, none, none, none, none, none, none]) (sl_set (i := 8) (ea := eInt) nd rfl (.inr rfl) (ltR 24 rfl rfl) (SX.eq (se_call (FnOk.mono (ok__law_turn T) (by decide)) hr rfl T.g19 T.F19.kp T.b19 (sa_cons (ea := eInt) (eg := fun g : Int => [eInt g]) (se_var (ea := eInt) (d := p_.2.1) (i := 5) rfl (.inr (.inl rfl)) rfl rfl rfl) (sa_one (ea := eInt) (se_var (ea := eInt) (d := other_) (i := 6) rfl (.inr (.inl rfl)) rfl rfl rfl))) rfl rfl rfl) (by first | with_reducible rfl | (simp only [pure_bind, bind_assoc, bind_pure, tt_if, bif_and, bif_or]; done) | (simp only [pure_bind, bind_assoc, bind_pure, tt_if, bif_and, bif_or]; with_reducible rfl) | (simp only [pure_bind, bind_assoc, bind_pure, tt_if, bif_and, bif_or]; rfl) | rfl)) (fun by_ => (SL.atR (R' := [some (.scr script_), some (.adr aw), some (.frz ((eLst eStr) names_)), some (.frz (eInt turn_)), some (.frz (eInt p_.1)), some (.frz (eInt p_.2.1)), some (.frz (eInt other_)), some (.frz ((eT4 eStr eInt eInt (eT2 eInt eInt)) said_)), some (.frz (eInt by_)), none, none, none, none, none, none, none, none, none, none, none, none, none, none, none]) (sl_set (i := 9) (ea := (eTup eInt)) nd rfl (.inl rfl) (ltR 24 rfl rfl) (SX.eq (se_tupleL (ea := eInt) rfl T.z_tuple (SX.ob (so_comp (eb := eInt) (own := [("k", 17)]) (g := (gName 17)) (is := [17]) (dts := (fun a => [eInt a])) (mt := fun k_ => pure true) (me := fun k_ => (fromO (m__law_round (p_.2.1 + (if (decide ((0 : Int) < by_)) = true then k_ else ((0 : Int) - k_)))))) rfl nd (si_range1 rfl T.z_range (SX.b (se_add (SX.b (se_absI rfl T.z_abs (SX.b (se_var (ea := eInt) (d := by_) (i := 8) rfl (.inr (.inl rfl)) rfl rfl rfl)))) (SX.b se_int)))) (blkOk_by rfl) (fun _ _ _ _ _ => (pg_name (i := 17) nd rfl (.inl rfl))) g_name (by decide) (ltAll 24 rfl rfl) (fun k_ _ _ _ _ _ => sf_nil) (fun k_ _ _ _ _ _ => (SX.eq (se_call (FnOk.mono (ok__law_round T) (by decide)) hr rfl T.g12 T.F12.kp T.b12 (sa_one (ea := eInt) (se_add (SX.b (se_var (ea := eInt) (d := p_.2.1) (i := 5) rfl (.inr (.inl rfl)) rfl rfl rfl)) (SX.b (sx_if kF_ok (SC.t (sc_gt (SX.b (se_var (ea := eInt) (d := by_) (i := 8) rfl (.inr (.inl rfl)) rfl rfl rfl)) (SX.b se_int)) rfl) (se_var (ea := eInt) (d := k_) (i := 17) rfl (.inl rfl) rfl rfl rfl) (se_sub (SX.b se_int) (SX.b (se_var (ea := eInt) (d := k_) (i := 17) rfl (.inl rfl) rfl rfl rfl))))))) rfl rfl rfl) (by first | with_reducible rfl | (simp only [pure_bind, bind_assoc, bind_pure, tt_if, bif_and, bif_or]; done) | (simp only [pure_bind, bind_assoc, bind_pure, tt_if, bif_and, bif_or]; with_reducible rfl) | (simp only [pure_bind, bind_assoc, bind_pure, tt_if, bif_and, bif_or]; rfl) | rfl)))))) (by first | with_reducible rfl | (simp only [pure_bind, bind_assoc, bind_pure, tt_if, bif_and, bif_or]; done) | (simp only [pure_bind, bind_assoc, bind_pure, tt_if, bif_and, bif_or]; with_reducible rfl) | (simp only [pure_bind, bind_assoc, bind_pure, tt_if, bif_and, bif_or]; rfl) | rfl)) (fun between_ => (SL.atR (R' := [some (.scr script_), some (.adr aw), some (.frz ((eLst eStr) names_)), some (.frz (eInt turn_)), some (.frz (eInt p_.1)), some (.frz (eInt p_.2.1)), some (.frz (eInt other_)), some (.frz ((eT4 eStr eInt eInt (eT2 eInt eInt)) said_)), some (.frz (eInt by_)), some (.frz ((eTup eInt) between_)), none, none, none, none, none, none, none, none, none, none, none, none, none, none]) (sl_ifR (ST.eq (st_not (SX.t (se_call (FnOk.mono (ok__law_same T) (by decide)) hr rfl T.g9 T.F9.kp T.b9 (sa_cons (ea := eAny) (eg := fun g : PyData => [eAny g]) (SX.mapI (ea := (eT2 eInt (eTup eInt))) (eb := eAny) (f := (eT2 eInt (eTup eInt))) (se_tup (et := (eT2 eInt (eTup eInt))) (sa_cons (ea := eInt) (eg := fun g : (List Int) => [(eTup eInt) g]) (se_call (FnOk.mono (ok_halfway T) (by decide)) hr rfl T.g15 T.F15.kp T.b15 (sa_cons (ea := eInt) (eg := fun g : Int => [eInt g]) (se_var (ea := eInt) (d := p_.2.1) (i := 5) rfl (.inr (.inl rfl)) rfl rfl rfl) (sa_one (ea := eInt) (se_var (ea := eInt) (d := other_) (i := 6) rfl (.inr (.inl rfl)) rfl rfl rfl))) rfl rfl rfl) (sa_one (ea := (eTup eInt)) (se_call (FnOk.mono (ok_points_between T) (by decide)) hr rfl T.g17 T.F17.kp T.b17 (sa_cons (ea := eInt) (eg := fun g : Int => [eInt g]) (se_var (ea := eInt) (d := p_.2.1) (i := 5) rfl (.inr (.inl rfl)) rfl rfl rfl) (sa_one (ea := eInt) (se_var (ea := eInt) (d := other_) (i := 6) rfl (.inr (.inl rfl)) rfl rfl rfl))) rfl rfl rfl))) (fun _ => rfl) (fun _ => Nat.le_of_ble_eq_true rfl)) kF_ok (fun _ => rfl)) (sa_one (ea := eAny) (SX.mapI (ea := (eT2 eInt (eTup eInt))) (eb := eAny) (f := (eT2 eInt (eTup eInt))) (se_tup (et := (eT2 eInt (eTup eInt))) (sa_cons (ea := eInt) (eg := fun g : (List Int) => [(eTup eInt) g]) (se_call (FnOk.mono (ok__law_round T) (by decide)) hr rfl T.g12 T.F12.kp T.b12 (sa_one (ea := eInt) (se_add (SX.b (se_var (ea := eInt) (d := p_.2.1) (i := 5) rfl (.inr (.inl rfl)) rfl rfl rfl)) (SX.b (se_fdiv (SX.b (se_var (ea := eInt) (d := by_) (i := 8) rfl (.inr (.inl rfl)) rfl rfl rfl)) (SX.b se_int))))) rfl rfl rfl) (sa_one (ea := (eTup eInt)) (se_var (ea := (eTup eInt)) (d := between_) (i := 9) rfl (.inl rfl) rfl rfl rfl))) (fun _ => rfl) (fun _ => Nat.le_of_ble_eq_true rfl)) kF_ok (fun _ => rfl)))) rfl rfl rfl) (fun _ => rfl))) (by first | with_reducible rfl | (simp only [pure_bind, bind_assoc, bind_pure, tt_if, bif_and, bif_or]; done) | (simp only [pure_bind, bind_assoc, bind_pure, tt_if, bif_and, bif_or]; with_reducible rfl) | (simp only [pure_bind, bind_assoc, bind_pure, tt_if, bif_and, bif_or]; rfl) | rfl)) (SL.atR (R' := [some (.scr script_), some (.adr aw), some (.frz ((eLst eStr) names_)), some (.frz (eInt turn_)), some (.frz (eInt p_.1)), some (.frz (eInt p_.2.1)), some (.frz (eInt other_)), some (.frz ((eT4 eStr eInt eInt (eT2 eInt eInt)) said_)), some (.frz (eInt by_)), some (.frz ((eTup eInt) between_)), none, none, none, none, none, none, none, none, none, none, none, none, none, none]) (sf_ret se_bool) rfl) (SL.atR (R' := [some (.scr script_), some (.adr aw), some (.frz ((eLst eStr) names_)), some (.frz (eInt turn_)), some (.frz (eInt p_.1)), some (.frz (eInt p_.2.1)), some (.frz (eInt other_)), some (.frz ((eT4 eStr eInt eInt (eT2 eInt eInt)) said_)), some (.frz (eInt by_)), some (.frz ((eTup eInt) between_)), none, none, none, none, none, none, none, none, none, none, none, none, none, none]) (sl_set (i := 10) (ea := eInt) nd rfl (.inl rfl) (ltR 24 rfl rfl) (SX.eq (se_callW (i := 1) (FnOk.mono (ok__law_pick_i1 T) (by decide)) hr rfl T.g18 T.F18.kp T.b18 rfl (.inl rfl) rfl rfl rfl (sa_one (ea := (eLst eInt)) (SX.f (so_lst (ea := eInt) (f := (fun g => [g.1, g.2.1, g.2.2])) (sa_cons (ea := eInt) (eg := fun g : Int × Int => [eInt g.1, eInt g.2]) (se_sub (SX.b (se_callW (i := 1) (FnOk.mono (ok__law_next T) (by decide)) hr rfl T.g8 T.F8.kp T.b8 rfl (.inl rfl) rfl rfl rfl (sa_one (ea := eInt) se_int) rfl rfl rfl)) (SX.b se_int)) (sa_cons (ea := eInt) (eg := fun g : Int => [eInt g]) (se_fdiv (SX.b (se_mul (SX.b se_int) (SX.b (se_add (SX.b (se_mul (SX.b se_int) (SX.b (se_callW (i := 1) (FnOk.mono (ok__law_next T) (by decide)) hr rfl T.g8 T.F8.kp T.b8 rfl (.inl rfl) rfl rfl rfl (sa_one (ea := eInt) se_int) rfl rfl rfl)))) (SX.b se_int))))) (SX.b se_int)) (sa_one (ea := eInt) (se_mul (SX.b se_int) (SX.b (se_callW (i := 1) (FnOk.mono (ok__law_next T) (by decide)) hr rfl T.g8 T.F8.kp T.b8 rfl (.inl rfl) rfl rfl rfl (sa_one (ea := eInt) se_int) rfl rfl rfl)))))) (fun _ => rfl) (fun _ => Nat.le_of_ble_eq_true rfl)))) rfl rfl rfl) (by first | with_reducible rfl | (simp only [pure_bind, bind_assoc, bind_pure, tt_if, bif_and, bif_or]; done) | (simp only [pure_bind, bind_assoc, bind_pure, tt_if, bif_and, bif_or]; with_reducible rfl) | (simp only [pure_bind, bind_assoc, bind_pure, tt_if, bif_and, bif_or]; rfl) | rfl)) (fun degrees_ => (SL.atR (R' := [some (.scr script_), some (.adr aw), some (.frz ((eLst eStr) names_)), some (.frz (eInt turn_)), some (.frz (eInt p_.1)), some (.frz (eInt p_.2.1)), some (.frz (eInt other_)), some (.frz ((eT4 eStr eInt eInt (eT2 eInt eInt)) said_)), some (.frz (eInt by_)), some (.frz ((eTup eInt) between_)), some (.frz (eInt degrees_)), none, none, none, none, none, none, none, none, none, none, none, none, none]) (sl_setO (i := 11) (ea := (eT3 eInt eInt eInt)) nd rfl (.inl rfl) (ltR 24 rfl rfl) (so_nil (ea := (eT3 eInt eInt eInt))) (fun rows_ => (SL.atR (R' := [some (.scr script_), some (.adr aw), some (.frz ((eLst eStr) names_)), some (.frz (eInt turn_)), some (.frz (eInt p_.1)), some (.frz (eInt p_.2.1)), some (.frz (eInt other_)), some (.frz ((eT4 eStr eInt eInt (eT2 eInt eInt)) said_)), some (.frz (eInt by_)), some (.frz ((eTup eInt) between_)), some (.frz (eInt degrees_)), some (.own (List.map (eT3 eInt eInt eInt) rows_)), none, none, none, none, none, none, none, none, none, none, none, none]) (sl_forP (Rl := fun d : (List (Int × Int × Int)) => [some (.scr script_), some (.adr aw), some (.frz ((eLst eStr) names_)), some (.frz (eInt turn_)), some (.frz (eInt p_.1)), some (.frz (eInt p_.2.1)), some (.frz (eInt other_)), some (.frz ((eT4 eStr eInt eInt (eT2 eInt eInt)) said_)), some (.frz (eInt by_)), some (.frz ((eTup eInt) between_)), some (.frz (eInt degrees_)), some (.own (List.map (eT3 eInt eInt eInt) d)), none, none, none, none, none, none, none, none, none, none, none, none]) (d0 := rows_) (g := (gName 12)) (is := [12]) (dts := (fun a => [eInt a])) PassesOwn.never rfl (SI.eq (si_lst (ea := eInt) (SX.f (so_listR2 rfl rfl T.z_list rfl T.z_range (SX.b (se_sub (SX.b se_int) (SX.b se_int))) (SX.b se_int))) (fun h => h)) (by first | with_reducible rfl | (simp only [pure_bind, bind_assoc, bind_pure, tt_if, bif_and, bif_or]; done) | (simp only [pure_bind, bind_assoc, bind_pure, tt_if, bif_and, bif_or]; with_reducible rfl) | (simp only [pure_bind, bind_assoc, bind_pure, tt_if, bif_and, bif_or]; rfl) | rfl)) (pg_name (i := 12) nd rfl (.inl rfl)) g_name (subC (subC (subC (subC (subC (subC (subC (subC (subC (subC (subC (subC (subN (subN (subN (subN (subN (subN (subN (subN (subN (subN (subN (subN subE)))))))))))))))))))))))) (fun _ => ltAll 24 rfl rfl) (fun point_ d_3 => (SL.atR (R' := [some (.scr script_), some (.adr aw), some (.frz ((eLst eStr) names_)), some (.frz (eInt turn_)), some (.frz (eInt p_.1)), some (.frz (eInt p_.2.1)), some (.frz (eInt other_)), some (.frz ((eT4 eStr eInt eInt (eT2 eInt eInt)) said_)), some (.frz (eInt by_)), some (.frz ((eTup eInt) between_)), some (.frz (eInt degrees_)), some (.own (List.map (eT3 eInt eInt eInt) d_3)), some (.frz (eInt point_)), none, none, none, none, none, none, none, none, none, none, none]) (SL.asc2 (sl_append (i := 11) (ea := (eT3 eInt eInt eInt)) (xs := d_3) rfl (.inl rfl) rfl rfl rfl (SX.eq (se_tup (et := (eT3 eInt eInt eInt)) (sa_cons (ea := eInt) (eg := fun g : Int × Int => [eInt g.1, eInt g.2]) (se_absI rfl T.z_abs (SX.b (se_sub (SX.b (se_mul (SX.b se_int) (SX.b (se_var (ea := eInt) (d := point_) (i := 12) rfl (.inl rfl) rfl rfl rfl)))) (SX.b (se_mul (SX.b se_int) (SX.b (se_var (ea := eInt) (d := degrees_) (i := 10) rfl (.inl rfl) rfl rfl rfl))))))) (sa_cons (ea := eInt) (eg := fun g : Int => [eInt g]) (se_sub (SX.b (se_var (ea := eInt) (d := point_) (i := 12) rfl (.inl rfl) rfl rfl rfl)) (SX.b (se_mul (SX.b (se_fdiv (SX.b (se_var (ea := eInt) (d := point_) (i := 12) rfl (.inl rfl) rfl rfl rfl)) (SX.b se_int))) (SX.b se_int)))) (sa_one (ea := eInt) (se_var (ea := eInt) (d := point_) (i := 12) rfl (.inl rfl) rfl rfl rfl)))) (fun _ => rfl) (fun _ => Nat.le_of_ble_eq_true rfl)) (by first | with_reducible rfl | (simp only [pure_bind, bind_assoc, bind_pure, tt_if, bif_and, bif_or]; done) | (simp only [pure_bind, bind_assoc, bind_pure, tt_if, bif_and, bif_or]; with_reducible rfl) | (simp only [pure_bind, bind_assoc, bind_pure, tt_if, bif_and, bif_or]; rfl) | rfl)) (fun rows_2 => (sp_nil rows_2 (subC (subC (subC (subC (subC (subC (subC (subC (subC (subC (subC (subC (subN (subN (subN (subN (subN (subN (subN (subN (subN (subN (subN (subN subE)))))))))))))))))))))))))) rfl rfl rfl rfl rfl)) rfl)) (fun d_4 => (SL.atR (R' := [some (.scr script_), some (.adr aw), some (.frz ((eLst eStr) names_)), some (.frz (eInt turn_)), some (.frz (eInt p_.1)), some (.frz (eInt p_.2.1)), some (.frz (eInt other_)), some (.frz ((eT4 eStr eInt eInt (eT2 eInt eInt)) said_)), some (.frz (eInt by_)), some (.frz ((eTup eInt) between_)), some (.frz (eInt degrees_)), some (.own (List.map (eT3 eInt eInt eInt) d_4)), none, none, none, none, none, none, none, none, none, none, none, none]) (sl_set (i := 13) (ea := eInt) nd rfl (.inr rfl) (ltR 24 rfl rfl) (SX.eq (se_callW (i := 1) (FnOk.mono (ok__law_next T) (by decide)) hr rfl T.g8 T.F8.kp T.b8 rfl (.inl rfl) rfl rfl rfl (sa_one (ea := eInt) se_int) rfl rfl rfl) (by first | with_reducible rfl | (simp only [pure_bind, bind_assoc, bind_pure, tt_if, bif_and, bif_or]; done) | (simp only [pure_bind, bind_assoc, bind_pure, tt_if, bif_and, bif_or]; with_reducible rfl) | (simp only [pure_bind, bind_assoc, bind_pure, tt_if, bif_and, bif_or]; rfl) | rfl)) (fun close_ => (SL.atR (R' := [some (.scr script_), some (.adr aw), some (.frz ((eLst eStr) names_)), some (.frz (eInt turn_)), some (.frz (eInt p_.1)), some (.frz (eInt p_.2.1)), some (.frz (eInt other_)), some (.frz ((eT4 eStr eInt eInt (eT2 eInt eInt)) said_)), some (.frz (eInt by_)), some (.frz ((eTup eInt) between_)), some (.frz (eInt degrees_)), some (.own (List.map (eT3 eInt eInt eInt) d_4)), none, some (.frz (eInt close_)), none, none, none, none, none, none, none, none, none, none]) (sl_setLc (eb := eInt) (i := 14) (own := [("k", 17)]) (g := (gName 17)) (is := [17]) (dts := (fun a => [eInt a])) (mt := fun k_2 => (fromO (m__law_round (other_ - k_2)) >>= fun v44 => fromO (m__law_turn p_.2.1 v44) >>= fun v43 => pure (decide (close_ ≤ (absI v43))))) (me := fun k_2 => (pure k_2)) rfl rfl (ltR 24 rfl rfl) (sw_true rfl rfl rfl rfl) rfl nd (si_range1 rfl T.z_range (SX.b se_int)) (blkOk_by rfl) (fun _ _ _ _ _ => (pg_name (i := 17) nd rfl (.inl rfl))) g_name (by decide) (ltAll 24 rfl rfl) (fun k_2 _ _ _ _ _ => (SIf.eq (sf_one (SC.t (sc_ge (SX.b (se_absI rfl T.z_abs (SX.b (se_call (FnOk.mono (ok__law_turn T) (by decide)) hr rfl T.g19 T.F19.kp T.b19 (sa_cons (ea := eInt) (eg := fun g : Int => [eInt g]) (se_var (ea := eInt) (d := p_.2.1) (i := 5) rfl (.inr (.inl rfl)) rfl rfl rfl) (sa_one (ea := eInt) (se_call (FnOk.mono (ok__law_round T) (by decide)) hr rfl T.g12 T.F12.kp T.b12 (sa_one (ea := eInt) (se_sub (SX.b (se_var (ea := eInt) (d := other_) (i := 6) rfl (.inr (.inl rfl)) rfl rfl rfl)) (SX.b (se_var (ea := eInt) (d := k_2) (i := 17) rfl (.inl rfl) rfl rfl rfl)))) rfl rfl rfl))) rfl rfl rfl)))) (SX.b (se_var (ea := eInt) (d := close_) (i := 13) rfl (.inr (.inl rfl)) rfl rfl rfl))) rfl)) (by first | with_reducible rfl | (simp only [pure_bind, bind_assoc, bind_pure, tt_if, bif_and, bif_or]; done) | (simp only [pure_bind, bind_assoc, bind_pure, tt_if, bif_and, bif_or]; with_reducible rfl) | (simp only [pure_bind, bind_assoc, bind_pure, tt_if, bif_and, bif_or]; rfl) | rfl))) (fun k_2 _ _ _ _ _ => (se_var (ea := eInt) (d := k_2) (i := 17) rfl (.inl rfl) rfl rfl rfl)) (by first | with_reducible rfl | (simp only [pure_bind, bind_assoc, bind_pure, tt_if, bif_and, bif_or]; done) | (simp only [pure_bind, bind_assoc, bind_pure, tt_if, bif_and, bif_or]; with_reducible rfl) | (simp only [pure_bind, bind_assoc, bind_pure, tt_if, bif_and, bif_or]; rfl) | rfl) (fun left_ => (SL.lock 14 rfl (SL.atR (R' := [some (.scr script_), some (.adr aw), some (.frz ((eLst eStr) names_)), some (.frz (eInt turn_)), some (.frz (eInt p_.1)), some (.frz (eInt p_.2.1)), some (.frz (eInt other_)), some (.frz ((eT4 eStr eInt eInt (eT2 eInt eInt)) said_)), some (.frz (eInt by_)), some (.frz ((eTup eInt) between_)), some (.frz (eInt degrees_)), some (.own (List.map (eT3 eInt eInt eInt) d_4)), none, some (.frz (eInt close_)), some (.frz ((eLst eInt) left_)), none, none, none, none, none, none, none, none, none]) (sl_setLc (eb := eInt) (i := 15) (own := [("k", 17)]) (g := (gName 17)) (is := [17]) (dts := (fun a => [eInt a])) (mt := fun k_3 => (fromO (m__law_round (other_ + k_3)) >>= fun v47 => fromO (m__law_turn p_.2.1 v47) >>= fun v46 => pure (decide (close_ ≤ (absI v46))))) (me := fun k_3 => (pure k_3)) rfl rfl (ltR 24 rfl rfl) (sw_true rfl rfl rfl rfl) rfl nd (si_range1 rfl T.z_range (SX.b se_int)) (blkOk_by rfl) (fun _ _ _ _ _ => (pg_name (i := 17) nd rfl (.inl rfl))) g_name (by decide) (ltAll 24 rfl rfl) (fun k_3 _ _ _ _ _ => (SIf.eq (sf_one (SC.t (sc_ge (SX.b (se_absI rfl T.z_abs (SX.b (se_call (FnOk.mono (ok__law_turn T) (by decide)) hr rfl T.g19 T.F19.kp T.b19 (sa_cons (ea := eInt) (eg := fun g : Int => [eInt g]) (se_var (ea := eInt) (d := p_.2.1) (i := 5) rfl (.inr (.inl rfl)) rfl rfl rfl) (sa_one (ea := eInt) (se_call (FnOk.mono (ok__law_round T) (by decide)) hr rfl T.g12 T.F12.kp T.b12 (sa_one (ea := eInt) (se_add (SX.b (se_var (ea := eInt) (d := other_) (i := 6) rfl (.inr (.inl rfl)) rfl rfl rfl)) (SX.b (se_var (ea := eInt) (d := k_3) (i := 17) rfl (.inl rfl) rfl rfl rfl)))) rfl rfl rfl))) rfl rfl rfl)))) (SX.b (se_var (ea := eInt) (d := close_) (i := 13) rfl (.inr (.inl rfl)) rfl rfl rfl))) rfl)) (by first | with_reducible rfl | (simp only [pure_bind, bind_assoc, bind_pure, tt_if, bif_and, bif_or]; done) | (simp only [pure_bind, bind_assoc, bind_pure, tt_if, bif_and, bif_or]; with_reducible rfl) | (simp only [pure_bind, bind_assoc, bind_pure, tt_if, bif_and, bif_or]; rfl) | rfl))) (fun k_3 _ _ _ _ _ => (se_var (ea := eInt) (d := k_3) (i := 17) rfl (.inl rfl) rfl rfl rfl)) (by first | with_reducible rfl | (simp only [pure_bind, bind_assoc, bind_pure, tt_if, bif_and, bif_or]; done) | (simp only [pure_bind, bind_assoc, bind_pure, tt_if, bif_and, bif_or]; with_reducible rfl) | (simp only [pure_bind, bind_assoc, bind_pure, tt_if, bif_and, bif_or]; rfl) | rfl) (fun right_ => (SL.lock 15 rfl (SL.atR (R' := [some (.scr script_), some (.adr aw), some (.frz ((eLst eStr) names_)), some (.frz (eInt turn_)), some (.frz (eInt p_.1)), some (.frz (eInt p_.2.1)), some (.frz (eInt other_)), some (.frz ((eT4 eStr eInt eInt (eT2 eInt eInt)) said_)), some (.frz (eInt by_)), some (.frz ((eTup eInt) between_)), some (.frz (eInt degrees_)), some (.own (List.map (eT3 eInt eInt eInt) d_4)), none, some (.frz (eInt close_)), some (.frz ((eLst eInt) left_)), some (.frz ((eLst eInt) right_)), none, none, none, none, none, none, none, none]) (sl_set (i := 16) (ea := (eT3 eInt eBool (eT2 eInt eInt))) nd rfl (.inl rfl) (ltR 24 rfl rfl) (SX.eq (se_tup (et := (eT3 eInt eBool (eT2 eInt eInt))) (sa_cons (ea := eInt) (eg := fun g : Bool × (Int × Int) => [eBool g.1, (eT2 eInt eInt) g.2]) (se_call (FnOk.mono (ok__law_round T) (by decide)) hr rfl T.g12 T.F12.kp T.b12 (sa_one (ea := eInt) (se_ixCI (ea := (eT3 eInt eInt eInt)) (ec := eInt) (i := 2) (f := fun p => p.2.2) (SX.b (se_minL (ea := (eT3 eInt eInt eInt)) (n := 8) (odr_t3 odr_int odr_int odr_int) (by decide) rfl hr.units rfl T.z_min (sb_own (ea := (eT3 eInt eInt eInt)) (d := d_4) (i := 11) rfl (.inl rfl) rfl rfl rfl))) (SX.b se_int) (fun _ _ => rfl) (fun p => ⟨_, rfl, rfl⟩))) rfl rfl rfl) (sa_cons (ea := eBool) (eg := fun g : (Int × Int) => [(eT2 eInt eInt) g]) (SC.e (sc_ge (SX.b (se_absI rfl T.z_abs (SX.b (se_call (FnOk.mono (ok__law_turn T) (by decide)) hr rfl T.g19 T.F19.kp T.b19 (sa_cons (ea := eInt) (eg := fun g : Int => [eInt g]) (se_var (ea := eInt) (d := p_.2.1) (i := 5) rfl (.inr (.inl rfl)) rfl rfl rfl) (sa_one (ea := eInt) (se_var (ea := eInt) (d := other_) (i := 6) rfl (.inr (.inl rfl)) rfl rfl rfl))) rfl rfl rfl)))) (SX.b (se_var (ea := eInt) (d := close_) (i := 13) rfl (.inr (.inl rfl)) rfl rfl rfl))) rfl) (sa_one (ea := (eT2 eInt eInt)) (se_tup (et := (eT2 eInt eInt)) (sa_cons (ea := eInt) (eg := fun g : Int => [eInt g]) (se_call (FnOk.mono (ok__law_round T) (by decide)) hr rfl T.g12 T.F12.kp T.b12 (sa_one (ea := eInt) (se_sub (SX.b (se_var (ea := eInt) (d := other_) (i := 6) rfl (.inr (.inl rfl)) rfl rfl rfl)) (SX.b (se_ixL (ea := eInt) (SX.b (se_var (ea := (eLst eInt)) (d := left_) (i := 14) rfl (.inl rfl) rfl rfl rfl)) (SX.b se_int) (fun _ _ => rfl))))) rfl rfl rfl) (sa_one (ea := eInt) (se_call (FnOk.mono (ok__law_round T) (by decide)) hr rfl T.g12 T.F12.kp T.b12 (sa_one (ea := eInt) (se_add (SX.b (se_var (ea := eInt) (d := other_) (i := 6) rfl (.inr (.inl rfl)) rfl rfl rfl)) (SX.b (se_ixL (ea := eInt) (SX.b (se_var (ea := (eLst eInt)) (d := right_) (i := 15) rfl (.inl rfl) rfl rfl rfl)) (SX.b se_int) (fun _ _ => rfl))))) rfl rfl rfl))) (fun _ => rfl) (fun _ => Nat.le_of_ble_eq_true rfl))))) (fun _ => rfl) (fun _ => Nat.le_of_ble_eq_true rfl)) (by first | with_reducible rfl | (simp only [pure_bind, bind_assoc, bind_pure, tt_if, bif_and, bif_or]; done) | (simp only [pure_bind, bind_assoc, bind_pure, tt_if, bif_and, bif_or]; with_reducible rfl) | (simp only [pure_bind, bind_assoc, bind_pure, tt_if, bif_and, bif_or]; rfl) | rfl)) (fun due_ => (SL.atR (R' := [some (.scr script_), some (.adr aw), some (.frz ((eLst eStr) names_)), some (.frz (eInt turn_)), some (.frz (eInt p_.1)), some (.frz (eInt p_.2.1)), some (.frz (eInt other_)), some (.frz ((eT4 eStr eInt eInt (eT2 eInt eInt)) said_)), some (.frz (eInt by_)), some (.frz ((eTup eInt) between_)), some (.frz (eInt degrees_)), some (.own (List.map (eT3 eInt eInt eInt) d_4)), none, some (.frz (eInt close_)), some (.frz ((eLst eInt) left_)), some (.frz ((eLst eInt) right_)), some (.frz ((eT3 eInt eBool (eT2 eInt eInt)) due_)), none, none, none, none, none, none, none]) (sl_ifR (ST.eq (st_not (SX.t (se_call (FnOk.mono (ok__law_same T) (by decide)) hr rfl T.g9 T.F9.kp T.b9 (sa_cons (ea := eAny) (eg := fun g : PyData => [eAny g]) (SX.mapI (ea := (eT3 eInt eBool (eT2 eInt eInt))) (eb := eAny) (f := (eT3 eInt eBool (eT2 eInt eInt))) (se_tup (et := (eT3 eInt eBool (eT2 eInt eInt))) (sa_cons (ea := eInt) (eg := fun g : Bool × (Int × Int) => [eBool g.1, (eT2 eInt eInt) g.2]) (se_call (FnOk.mono (ok_nearest_point T) (by decide)) hr rfl T.g6 T.F6.kp T.b6 (sa_one (ea := eInt) (se_var (ea := eInt) (d := degrees_) (i := 10) rfl (.inl rfl) rfl rfl rfl)) rfl rfl rfl) (sa_cons (ea := eBool) (eg := fun g : (Int × Int) => [(eT2 eInt eInt) g]) (se_call (FnOk.mono (ok_can_sail T) (by decide)) hr rfl T.g16 T.F16.kp T.b16 (sa_cons (ea := eInt) (eg := fun g : Int × Int => [eInt g.1, eInt g.2]) (se_var (ea := eInt) (d := p_.2.1) (i := 5) rfl (.inr (.inl rfl)) rfl rfl rfl) (sa_cons (ea := eInt) (eg := fun g : Int => [eInt g]) (se_var (ea := eInt) (d := other_) (i := 6) rfl (.inr (.inl rfl)) rfl rfl rfl) (sa_one (ea := eInt) (se_var (ea := eInt) (d := close_) (i := 13) rfl (.inr (.inl rfl)) rfl rfl rfl)))) rfl rfl rfl) (sa_one (ea := (eT2 eInt eInt)) (se_call (FnOk.mono (ok_tacks_for T) (by decide)) hr rfl T.g22 T.F22.kp T.b22 (sa_cons (ea := eInt) (eg := fun g : Int × Int => [eInt g.1, eInt g.2]) (se_var (ea := eInt) (d := p_.2.1) (i := 5) rfl (.inr (.inl rfl)) rfl rfl rfl) (sa_cons (ea := eInt) (eg := fun g : Int => [eInt g]) (se_var (ea := eInt) (d := other_) (i := 6) rfl (.inr (.inl rfl)) rfl rfl rfl) (sa_one (ea := eInt) (se_var (ea := eInt) (d := close_) (i := 13) rfl (.inr (.inl rfl)) rfl rfl rfl)))) rfl rfl rfl)))) (fun _ => rfl) (fun _ => Nat.le_of_ble_eq_true rfl)) kF_ok (fun _ => rfl)) (sa_one (ea := eAny) (SX.mapI (ea := (eT3 eInt eBool (eT2 eInt eInt))) (eb := eAny) (f := (eT3 eInt eBool (eT2 eInt eInt))) (se_var (ea := (eT3 eInt eBool (eT2 eInt eInt))) (d := due_) (i := 16) rfl (.inl rfl) rfl rfl rfl) kF_ok (fun _ => rfl)))) rfl rfl rfl) (fun _ => rfl))) (by first | with_reducible rfl | (simp only [pure_bind, bind_assoc, bind_pure, tt_if, bif_and, bif_or]; done) | (simp only [pure_bind, bind_assoc, bind_pure, tt_if, bif_and, bif_or]; with_reducible rfl) | (simp only [pure_bind, bind_assoc, bind_pure, tt_if, bif_and, bif_or]; rfl) | rfl)) (SL.atR (R' := [some (.scr script_), some (.adr aw), some (.frz ((eLst eStr) names_)), some (.frz (eInt turn_)), some (.frz (eInt p_.1)), some (.frz (eInt p_.2.1)), some (.frz (eInt other_)), some (.frz ((eT4 eStr eInt eInt (eT2 eInt eInt)) said_)), some (.frz (eInt by_)), some (.frz ((eTup eInt) between_)), some (.frz (eInt degrees_)), some (.own (List.map (eT3 eInt eInt eInt) d_4)), none, some (.frz (eInt close_)), some (.frz ((eLst eInt) left_)), some (.frz ((eLst eInt) right_)), some (.frz ((eT3 eInt eBool (eT2 eInt eInt)) due_)), none, none, none, none, none, none, none]) (sf_ret se_bool) rfl) (SL.atR (R' := [some (.scr script_), some (.adr aw), some (.frz ((eLst eStr) names_)), some (.frz (eInt turn_)), some (.frz (eInt p_.1)), some (.frz (eInt p_.2.1)), some (.frz (eInt other_)), some (.frz ((eT4 eStr eInt eInt (eT2 eInt eInt)) said_)), some (.frz (eInt by_)), some (.frz ((eTup eInt) between_)), some (.frz (eInt degrees_)), some (.own (List.map (eT3 eInt eInt eInt) d_4)), none, some (.frz (eInt close_)), some (.frz ((eLst eInt) left_)), some (.frz ((eLst eInt) right_)), some (.frz ((eT3 eInt eBool (eT2 eInt eInt)) due_)), none, none, none, none, none, none, none]) (sl_forG (Rl := fun d : Unit => [some (.scr script_), some (.adr aw), some (.frz ((eLst eStr) names_)), some (.frz (eInt turn_)), some (.frz (eInt p_.1)), some (.frz (eInt p_.2.1)), some (.frz (eInt other_)), some (.frz ((eT4 eStr eInt eInt (eT2 eInt eInt)) said_)), some (.frz (eInt by_)), some (.frz ((eTup eInt) between_)), some (.frz (eInt degrees_)), some (.own (List.map (eT3 eInt eInt eInt) d_4)), none, some (.frz (eInt close_)), some (.frz ((eLst eInt) left_)), some (.frz ((eLst eInt) right_)), some (.frz ((eT3 eInt eBool (eT2 eInt eInt)) due_)), none, none, none, none, none, none, none]) (d0 := ()) (g := (gName 17)) (is := [17]) (dts := (fun a => [eInt a])) PassesOwn.never rfl (SI.eq (si_range1 rfl T.z_range (SX.b se_int)) (by first | with_reducible rfl | (simp only [pure_bind, bind_assoc, bind_pure, tt_if, bif_and, bif_or]; done) | (simp only [pure_bind, bind_assoc, bind_pure, tt_if, bif_and, bif_or]; with_reducible rfl) | (simp only [pure_bind, bind_assoc, bind_pure, tt_if, bif_and, bif_or]; rfl) | rfl)) (pg_name (i := 17) nd rfl (.inl rfl)) g_name (subC (subC (subC (subC (subC (subC (subC (subC (subC (subC (subC (subC (subN (subC (subC (subC (subC (subN (subN (subN (subN (subN (subN (subN subE)))))))))))))))))))))))) (fun _ => ltAll 24 rfl rfl) (fun k_4 d_5 => (SL.atR (R' := [some (.scr script_), some (.adr aw), some (.frz ((eLst eStr) names_)), some (.frz (eInt turn_)), some (.frz (eInt p_.1)), some (.frz (eInt p_.2.1)), some (.frz (eInt other_)), some (.frz ((eT4 eStr eInt eInt (eT2 eInt eInt)) said_)), some (.frz (eInt by_)), some (.frz ((eTup eInt) between_)), some (.frz (eInt degrees_)), some (.own (List.map (eT3 eInt eInt eInt) d_4)), none, some (.frz (eInt close_)), some (.frz ((eLst eInt) left_)), some (.frz ((eLst eInt) right_)), some (.frz ((eT3 eInt eBool (eT2 eInt eInt)) due_)), some (.frz (eInt k_4)), none, none, none, none, none, none]) (sl_set (i := 18) (ea := eStr) nd rfl (.inl rfl) (ltR 24 rfl rfl) (SX.eq (se_callW (i := 1) (FnOk.mono (ok__law_pick_i2 T) (by decide)) hr rfl T.g18 T.F18.kp T.b18 rfl (.inl rfl) rfl rfl rfl (sa_one (ea := (eLst eStr)) (se_var (ea := (eLst eStr)) (d := names_) (i := 2) rfl (.inr (.inl rfl)) rfl rfl rfl)) rfl rfl rfl) (by first | with_reducible rfl | (simp only [pure_bind, bind_assoc, bind_pure, tt_if, bif_and, bif_or]; done) | (simp only [pure_bind, bind_assoc, bind_pure, tt_if, bif_and, bif_or]; with_reducible rfl) | (simp only [pure_bind, bind_assoc, bind_pure, tt_if, bif_and, bif_or]; rfl) | rfl)) (fun name_ => (SL.atR (R' := [some (.scr script_), some (.adr aw), some (.frz ((eLst eStr) names_)), some (.frz (eInt turn_)), some (.frz (eInt p_.1)), some (.frz (eInt p_.2.1)), some (.frz (eInt other_)), some (.frz ((eT4 eStr eInt eInt (eT2 eInt eInt)) said_)), some (.frz (eInt by_)), some (.frz ((eTup eInt) between_)), some (.frz (eInt degrees_)), some (.own (List.map (eT3 eInt eInt eInt) d_4)), none, some (.frz (eInt close_)), some (.frz ((eLst eInt) left_)), some (.frz ((eLst eInt) right_)), some (.frz ((eT3 eInt eBool (eT2 eInt eInt)) due_)), some (.frz (eInt k_4)), some (.frz (eStr name_)), none, none, none, none, none]) (sl_set (i := 19) (ea := eInt) nd rfl (.inl rfl) (ltR 24 rfl rfl) (SX.eq (se_callW (i := 1) (FnOk.mono (ok__law_next T) (by decide)) hr rfl T.g8 T.F8.kp T.b8 rfl (.inl rfl) rfl rfl rfl (sa_one (ea := eInt) (se_add (SX.b (se_lenG rfl T.z_len (SX.b (se_var (ea := eStr) (d := name_) (i := 18) rfl (.inl rfl) rfl rfl rfl)))) (SX.b se_int))) rfl rfl rfl) (by first | with_reducible rfl | (simp only [pure_bind, bind_assoc, bind_pure, tt_if, bif_and, bif_or]; done) | (simp only [pure_bind, bind_assoc, bind_pure, tt_if, bif_and, bif_or]; with_reducible rfl) | (simp only [pure_bind, bind_assoc, bind_pure, tt_if, bif_and, bif_or]; rfl) | rfl)) (fun at_ => (SL.atR (R' := [some (.scr script_), some (.adr aw), some (.frz ((eLst eStr) names_)), some (.frz (eInt turn_)), some (.frz (eInt p_.1)), some (.frz (eInt p_.2.1)), some (.frz (eInt other_)), some (.frz ((eT4 eStr eInt eInt (eT2 eInt eInt)) said_)), some (.frz (eInt by_)), some (.frz ((eTup eInt) between_)), some (.frz (eInt degrees_)), some (.own (List.map (eT3 eInt eInt eInt) d_4)), none, some (.frz (eInt close_)), some (.frz ((eLst eInt) left_)), some (.frz ((eLst eInt) right_)), some (.frz ((eT3 eInt eBool (eT2 eInt eInt)) due_)), some (.frz (eInt k_4)), some (.frz (eStr name_)), some (.frz (eInt at_)), none, none, none, none]) (sl_set (i := 20) (ea := eStr) nd rfl (.inr rfl) (ltR 24 rfl rfl) (SX.eq (se_callW (i := 1) (FnOk.mono (ok__law_pick_i2 T) (by decide)) hr rfl T.g18 T.F18.kp T.b18 rfl (.inl rfl) rfl rfl rfl (sa_one (ea := (eLst eStr)) (SX.f (so_lst (ea := eStr) (f := (fun g => [g.1, g.2.1, g.2.2.1, g.2.2.2.1, g.2.2.2.2.1, g.2.2.2.2.2.1, g.2.2.2.2.2.2])) (sa_cons (ea := eStr) (eg := fun g : Str × Str × Str × Str × Str × Str => [eStr g.1, eStr g.2.1, eStr g.2.2.1, eStr g.2.2.2.1, eStr g.2.2.2.2.1, eStr g.2.2.2.2.2]) (se_var (ea := eStr) (d := name_) (i := 18) rfl (.inl rfl) rfl rfl rfl) (sa_cons (ea := eStr) (eg := fun g : Str × Str × Str × Str × Str => [eStr g.1, eStr g.2.1, eStr g.2.2.1, eStr g.2.2.2.1, eStr g.2.2.2.2]) (se_var (ea := eStr) (d := name_) (i := 18) rfl (.inl rfl) rfl rfl rfl) (sa_cons (ea := eStr) (eg := fun g : Str × Str × Str × Str => [eStr g.1, eStr g.2.1, eStr g.2.2.1, eStr g.2.2.2]) (se_sliceS (SX.b (se_var (ea := eStr) (d := name_) (i := 18) rfl (.inl rfl) rfl rfl rfl)) sq_none (sq_some (se_var (ea := eInt) (d := at_) (i := 19) rfl (.inl rfl) rfl rfl rfl))) (sa_cons (ea := eStr) (eg := fun g : Str × Str × Str => [eStr g.1, eStr g.2.1, eStr g.2.2]) (se_catG (SX.b (se_catG (SX.b (se_sliceS (SX.b (se_var (ea := eStr) (d := name_) (i := 18) rfl (.inl rfl) rfl rfl rfl)) sq_none (sq_some (se_var (ea := eInt) (d := at_) (i := 19) rfl (.inl rfl) rfl rfl rfl)))) (SX.b (se_callW (i := 1) (FnOk.mono (ok__law_pick_i2 T) (by decide)) hr rfl T.g18 T.F18.kp T.b18 rfl (.inl rfl) rfl rfl rfl (sa_one (ea := (eLst eStr)) (SX.f (so_lst (ea := eStr) (f := (fun g => [g.1, g.2.1, g.2.2.1, g.2.2.2.1, g.2.2.2.2.1, g.2.2.2.2.2.1, g.2.2.2.2.2.2.1, g.2.2.2.2.2.2.2])) (sa_cons (ea := eStr) (eg := fun g : Str × Str × Str × Str × Str × Str × Str => [eStr g.1, eStr g.2.1, eStr g.2.2.1, eStr g.2.2.2.1, eStr g.2.2.2.2.1, eStr g.2.2.2.2.2.1, eStr g.2.2.2.2.2.2]) se_str (sa_cons (ea := eStr) (eg := fun g : Str × Str × Str × Str × Str × Str => [eStr g.1, eStr g.2.1, eStr g.2.2.1, eStr g.2.2.2.1, eStr g.2.2.2.2.1, eStr g.2.2.2.2.2]) se_str (sa_cons (ea := eStr) (eg := fun g : Str × Str × Str × Str × Str => [eStr g.1, eStr g.2.1, eStr g.2.2.1, eStr g.2.2.2.1, eStr g.2.2.2.2]) se_str (sa_cons (ea := eStr) (eg := fun g : Str × Str × Str × Str => [eStr g.1, eStr g.2.1, eStr g.2.2.1, eStr g.2.2.2]) se_str (sa_cons (ea := eStr) (eg := fun g : Str × Str × Str => [eStr g.1, eStr g.2.1, eStr g.2.2]) se_str (sa_cons (ea := eStr) (eg := fun g : Str × Str => [eStr g.1, eStr g.2]) se_str (sa_cons (ea := eStr) (eg := fun g : Str => [eStr g]) se_str (sa_one (ea := eStr) se_str)))))))) (fun _ => rfl) (fun _ => Nat.le_of_ble_eq_true rfl)))) rfl rfl rfl)))) (SX.b (se_sliceS (SX.b (se_var (ea := eStr) (d := name_) (i := 18) rfl (.inl rfl) rfl rfl rfl)) (sq_some (se_var (ea := eInt) (d := at_) (i := 19) rfl (.inl rfl) rfl rfl rfl)) sq_none))) (sa_cons (ea := eStr) (eg := fun g : Str × Str => [eStr g.1, eStr g.2]) (se_catG (SX.b (se_var (ea := eStr) (d := name_) (i := 18) rfl (.inl rfl) rfl rfl rfl)) (SX.b se_str)) (sa_cons (ea := eStr) (eg := fun g : Str => [eStr g]) se_str (sa_one (ea := eStr) (se_revS (SX.b (se_var (ea := eStr) (d := name_) (i := 18) rfl (.inl rfl) rfl rfl rfl)))))))))) (fun _ => rfl) (fun _ => Nat.le_of_ble_eq_true rfl)))) rfl rfl rfl) (by first | with_reducible rfl | (simp only [pure_bind, bind_assoc, bind_pure, tt_if, bif_and, bif_or]; done) | (simp only [pure_bind, bind_assoc, bind_pure, tt_if, bif_and, bif_or]; with_reducible rfl) | (simp only [pure_bind, bind_assoc, bind_pure, tt_if, bif_and, bif_or]; rfl) | rfl)) (fun text_ => (SL.atR (R' := [some (.scr script_), some (.adr aw), some (.frz ((eLst eStr) names_)), some (.frz (eInt turn_)), some (.frz (eInt p_.1)), some (.frz (eInt p_.2.1)), some (.frz (eInt other_)), some (.frz ((eT4 eStr eInt eInt (eT2 eInt eInt)) said_)), some (.frz (eInt by_)), some (.frz ((eTup eInt) between_)), some (.frz (eInt degrees_)), some (.own (List.map (eT3 eInt eInt eInt) d_4)), none, some (.frz (eInt close_)), some (.frz ((eLst eInt) left_)), some (.frz ((eLst eInt) right_)), some (.frz ((eT3 eInt eBool (eT2 eInt eInt)) due_)), some (.frz (eInt k_4)), some (.frz (eStr name_)), some (.frz (eInt at_)), some (.frz (eStr text_)), none, none, none]) (sl_setLc (eb := eInt) (i := 21) (own := [("size", 22)]) (g := (gName 22)) (is := [22]) (dts := (fun a => [eInt a])) (mt := fun size_ => (compL (fun own_ => (fromO (cutSG own_ none (some size_)) >>= fun v74 => fromO (cutSG text_ none (some size_)) >>= fun v75 => (if (decide (v74 = v75)) = true then (fromO (lenSG own_) >>= fun v76 => pure (decide (size_ ≤ v76))) else pure false))) (fun own_ => (pure own_)) names_ >>= fun v78 => pure (!decide (v78 = [])))) (me := fun size_ => (pure size_)) rfl rfl (ltR 24 rfl rfl) (sw_true rfl rfl rfl rfl) rfl nd (si_range1 rfl T.z_range (SX.b (se_add (SX.b (se_lenG rfl T.z_len (SX.b (se_var (ea := eStr) (d := text_) (i := 20) rfl (.inr (.inl rfl)) rfl rfl rfl)))) (SX.b se_int)))) (blkOk_by rfl) (fun _ _ _ _ _ => (pg_name (i := 22) nd rfl (.inr rfl))) g_name (by decide) (ltAll 24 rfl rfl) (fun size_ _ _ _ _ _ => (SIf.eq (sf_one (SC.t (sc_neT (eq_lst eq_str) (by decide) hr.units (SX.ob (so_comp (eb := eStr) (own := [("own", 23)]) (g := (gName 23)) (is := [23]) (dts := (fun a => [eStr a])) (mt := fun own_ => (fromO (cutSG own_ none (some size_)) >>= fun v74 => fromO (cutSG text_ none (some size_)) >>= fun v75 => (if (decide (v74 = v75)) = true then (fromO (lenSG own_) >>= fun v76 => pure (decide (size_ ≤ v76))) else pure false))) (me := fun own_ => (pure own_)) rfl nd (si_lst (ea := eStr) (se_var (ea := (eLst eStr)) (d := names_) (i := 2) rfl (.inr (.inl rfl)) rfl rfl rfl) (fun h => h.firms)) (blkOk_by rfl) (fun _ _ _ _ _ => (pg_name (i := 23) nd rfl (.inl rfl))) g_name (by decide) (ltAll 24 rfl rfl) (fun own_ _ _ _ _ _ => (SIf.eq (sf_one (SW.t (sw_and (SC.t (sc_eqT eq_str (by decide) hr.units (SX.b (se_sliceS (SX.b (se_var (ea := eStr) (d := own_) (i := 23) rfl (.inl rfl) rfl rfl rfl)) sq_none (sq_some (se_var (ea := eInt) (d := size_) (i := 22) rfl (.inr (.inl rfl)) rfl rfl rfl)))) (SX.b (se_sliceS (SX.b (se_var (ea := eStr) (d := text_) (i := 20) rfl (.inr (.inl rfl)) rfl rfl rfl)) sq_none (sq_some (se_var (ea := eInt) (d := size_) (i := 22) rfl (.inr (.inl rfl)) rfl rfl rfl))))) rfl) (sw_and1 (SC.t (sc_ge (SX.b (se_lenG rfl T.z_len (SX.b (se_var (ea := eStr) (d := own_) (i := 23) rfl (.inl rfl) rfl rfl rfl)))) (SX.b (se_var (ea := eInt) (d := size_) (i := 22) rfl (.inr (.inl rfl)) rfl rfl rfl))) rfl))))) (by first | with_reducible rfl | (simp only [pure_bind, bind_assoc, bind_pure, tt_if, bif_and, bif_or]; done) | (simp only [pure_bind, bind_assoc, bind_pure, tt_if, bif_and, bif_or]; with_reducible rfl) | (simp only [pure_bind, bind_assoc, bind_pure, tt_if, bif_and, bif_or]; rfl) | rfl))) (fun own_ _ _ _ _ _ => (se_var (ea := eStr) (d := own_) (i := 23) rfl (.inl rfl) rfl rfl rfl)))) (SX.ob (so_nil (ea := eStr)))) rfl)) (by first | with_reducible rfl | (simp only [pure_bind, bind_assoc, bind_pure, tt_if, bif_and, bif_or]; done) | (simp only [pure_bind, bind_assoc, bind_pure, tt_if, bif_and, bif_or]; with_reducible rfl) | (simp only [pure_bind, bind_assoc, bind_pure, tt_if, bif_and, bif_or]; rfl) | rfl))) (fun size_ _ _ _ _ _ => (se_var (ea := eInt) (d := size_) (i := 22) rfl (.inr (.inl rfl)) rfl rfl rfl)) (by first | with_reducible rfl | (simp only [pure_bind, bind_assoc, bind_pure, tt_if, bif_and, bif_or]; done) | (simp only [pure_bind, bind_assoc, bind_pure, tt_if, bif_and, bif_or]; with_reducible rfl) | (simp only [pure_bind, bind_assoc, bind_pure, tt_if, bif_and, bif_or]; rfl) | rfl) (fun heads_ => (SL.lock 21 rfl (SL.atR (R' := [some (.scr script_), some (.adr aw), some (.frz ((eLst eStr) names_)), some (.frz (eInt turn_)), some (.frz (eInt p_.1)), some (.frz (eInt p_.2.1)), some (.frz (eInt other_)), some (.frz ((eT4 eStr eInt eInt (eT2 eInt eInt)) said_)), some (.frz (eInt by_)), some (.frz ((eTup eInt) between_)), some (.frz (eInt degrees_)), some (.own (List.map (eT3 eInt eInt eInt) d_4)), none, some (.frz (eInt close_)), some (.frz ((eLst eInt) left_)), some (.frz ((eLst eInt) right_)), some (.frz ((eT3 eInt eBool (eT2 eInt eInt)) due_)), some (.frz (eInt k_4)), some (.frz (eStr name_)), some (.frz (eInt at_)), some (.frz (eStr text_)), some (.frz ((eLst eInt) heads_)), none, none]) (sl_ifR (ST.eq (st_not (SX.t (se_call (FnOk.mono (ok__law_same T) (by decide)) hr rfl T.g9 T.F9.kp T.b9 (sa_cons (ea := eAny) (eg := fun g : PyData => [eAny g]) (se_call (FnOk.mono (ok__law_said T) (by decide)) hr rfl T.g24 T.F24.kp T.b24 (sa_one (ea := eStr) (se_var (ea := eStr) (d := text_) (i := 20) rfl (.inr (.inl rfl)) rfl rfl rfl)) rfl rfl rfl) (sa_one (ea := eAny) (sx_if kF_ok (SC.t (sc_inL eq_str (by decide) hr.units (SX.b (se_var (ea := eStr) (d := text_) (i := 20) rfl (.inr (.inl rfl)) rfl rfl rfl)) (SX.b (se_var (ea := (eLst eStr)) (d := names_) (i := 2) rfl (.inr (.inl rfl)) rfl rfl rfl))) rfl) (SX.mapI (ea := eInt) (eb := eAny) (f := eInt) (se_index (ea := eStr) eq_str (by decide) hr.units (SX.b (se_var (ea := (eLst eStr)) (d := names_) (i := 2) rfl (.inr (.inl rfl)) rfl rfl rfl)) (SX.b (se_var (ea := eStr) (d := text_) (i := 20) rfl (.inr (.inl rfl)) rfl rfl rfl)) rfl rfl rfl rfl) kF_ok (fun _ => rfl)) (SX.mapI (ea := (eT2 eStr eInt)) (eb := eAny) (f := (eT2 eStr eInt)) (se_tup (et := (eT2 eStr eInt)) (sa_cons (ea := eStr) (eg := fun g : Int => [eInt g]) se_str (sa_one (ea := eInt) (se_maxL (ea := eInt) (n := 8) odr_int (by decide) rfl hr.units rfl T.z_max (SX.b (se_var (ea := (eLst eInt)) (d := heads_) (i := 21) rfl (.inl rfl) rfl rfl rfl))))) (fun _ => rfl) (fun _ => Nat.le_of_ble_eq_true rfl)) kF_ok (fun _ => rfl))))) rfl rfl rfl) (fun _ => rfl))) (by first | with_reducible rfl | (simp only [pure_bind, bind_assoc, bind_pure, tt_if, bif_and, bif_or]; done) | (simp only [pure_bind, bind_assoc, bind_pure, tt_if, bif_and, bif_or]; with_reducible rfl) | (simp only [pure_bind, bind_assoc, bind_pure, tt_if, bif_and, bif_or]; rfl) | rfl)) (SL.atR (R' := [some (.scr script_), some (.adr aw), some (.frz ((eLst eStr) names_)), some (.frz (eInt turn_)), some (.frz (eInt p_.1)), some (.frz (eInt p_.2.1)), some (.frz (eInt other_)), some (.frz ((eT4 eStr eInt eInt (eT2 eInt eInt)) said_)), some (.frz (eInt by_)), some (.frz ((eTup eInt) between_)), some (.frz (eInt degrees_)), some (.own (List.map (eT3 eInt eInt eInt) d_4)), none, some (.frz (eInt close_)), some (.frz ((eLst eInt) left_)), some (.frz ((eLst eInt) right_)), some (.frz ((eT3 eInt eBool (eT2 eInt eInt)) due_)), some (.frz (eInt k_4)), some (.frz (eStr name_)), some (.frz (eInt at_)), some (.frz (eStr text_)), some (.frz ((eLst eInt) heads_)), none, none]) (sf_ret se_bool) rfl) (sl_nil () (subC (subC (subC (subC (subC (subC (subC (subC (subC (subC (subC (subC (subN (subC (subC (subC (subC (subN (subN (subN (subN (subN (subN (subN subE)))))))))))))))))))))))))) rfl)))) rfl)) rfl (.inl rfl)) rfl)) rfl (.inr rfl)) rfl)) rfl (.inr rfl)) rfl)) (fun d_6 => (sl_nil () (subC (subC (subC (subN (subN (subN (subN (subN (subN (subN (subN (subN (subN (subN (subN (subN (subN (subN (subN (subN (subN (subN (subN (subN subE)))))))))))))))))))))))))) (fun _ => rfl)) rfl)) rfl)) rfl (.inr rfl)) rfl)))) rfl)))) rfl)) rfl (.inl rfl)) rfl)) (fun _ => rfl)) rfl)) rfl (.inr rfl)) rfl)) rfl (.inr rfl)) rfl)) rfl)) rfl (.inr rfl)) rfl)) rfl (.inl rfl)) rfl)) rfl)) rfl (.inr rfl)) rfl)) rfl (.inl rfl)) rfl)) rfl rfl rfl) rfl)) (fun d_2 => (SL.atR (R' := [some (.scr script_), some (.adr aw), some (.frz ((eLst eStr) names_)), none, none, none, none, none, none, none, none, none, none, none, none, none, none, none, none, none, none, none, none, none]) (sf_ret se_bool) rfl)) (fun _ => rfl)) rfl)) rfl (.inl rfl))) rfl)
theorem ok_law (T : Tp K mg) : FnOk P w K mg base CX0 6 T.f25 T.d25 p25 (spLaw K w m_law) :=
  fn_law T.F25 sc25 rfl (by decide) fun cdv A outer s H E hr ns =>
    sf_world (i := 0) (iw := 1) sc25.nd (FnOk.mono (ok__law_draws T) (by decide)) hr rfl T.g7 T.F7.kp T.b7 rfl (.inl rfl) rfl rfl rfl rfl rfl rfl rfl rfl (.inl rfl) (.inr rfl) (ltR 24 rfl rfl)
      (by intro y hy z e; subst e; have : z = Slot.scr ns := by simpa [slots0] using hy
          subst this; exact fun h => h) rfl fun aw => bd_lawb T cdv A outer s H E aw hr ns
end
end K42

namespace K42
open TT PySem L2
open TT.PyM (fromO)
theorem d_frac : m_fraction = fractionM := rfl
theorem d_lfrac : m__law_fraction = lawFraction2M := rfl
theorem d_same : m__law_same = lawSameM := rfl
def NAMES : List Str := [("n" : Str), ("nbe" : Str), ("nne" : Str), ("nebn" : Str), ("ne" : Str), ("nebe" : Str), ("ene" : Str), ("ebn" : Str)] ++ [("e" : Str), ("ebs" : Str), ("ese" : Str), ("sebe" : Str), ("se" : Str), ("sebs" : Str), ("sse" : Str), ("sbe" : Str)] ++ [("s" : Str), ("sbw" : Str), ("ssw" : Str), ("swbs" : Str), ("sw" : Str), ("swbw" : Str), ("wsw" : Str), ("wbs" : Str), ("w" : Str), ("wbn" : Str), ("wnw" : Str), ("nwbw" : Str), ("nw" : Str), ("nwbn" : Str), ("nnw" : Str), ("nbw" : Str)]
theorem lawNames_eq : m__law_names = some NAMES := rfl
theorem round_eq {x : Int} (h : x.natAbs < 100000) : m__law_round x = some (x % 32) := by
  unfold m__law_round
  simp only [o_fromO, o_pure]
  rw [div_small (by decide) (by decide), o_bind, mul_small (by omega) (by decide), o_bind]
  congr 1
  omega
/-! ### names -/
noncomputable def tF (p s : Int) : Option Int := whileFP (m := Option) (fun d_ => (fromO (modG d_ (8 : Int)) >>= fun v1 => pure (!decide (v1 = (0 : Int))))) (fun d_ => (pure s) >>= fun a_ => pure (d_ + a_)) 10 p
noncomputable def tailT (d_2 : Int) : Option Str := (fromO (divG d_2 (8 : Int)) >>= fun v2 => fromO (modG v2 (4 : Int)) >>= fun v3 => fromO (L2.atI [("n" : Str), ("e" : Str), ("s" : Str), ("w" : Str)] v3))
noncomputable def tw (p s : Int) : Option Str := match tF p s with
  | some r => tailT r
  | none => m_towards p s
theorem tow_eq : m_towards = tw := by
  funext p s
  unfold tw
  cases z : tF p s with
  | none => rfl
  | some r => exact o_go (whileM_of z)
noncomputable def nameV (tw : Int → Int → Option Str) (point_2 : Int) : Option Str :=
  (fromO (modG point_2 (4 : Int)) >>= fun v2 => pure (decide (v2 = (0 : Int)))) >>= fun b => if b = true then ((fromO (m_eighth_name point_2))) else
  (fromO (modG point_2 (4 : Int)) >>= fun v4 => pure (decide (v4 = (2 : Int)))) >>= fun b => if b = true then ((fromO (m_main_near point_2) >>= fun v5 => fromO (divG point_2 (8 : Int)) >>= fun v6 => fromO (modG v6 (4 : Int)) >>= fun v7 => fromO (L2.atI [("ne" : Str), ("se" : Str), ("sw" : Str), ("nw" : Str)] v7) >>= fun v8 => fromO (catSG v5 v8))) else
  (fromO (modG point_2 (4 : Int)) >>= fun v10 => pure (if (decide (v10 = (1 : Int))) = true then (point_2 - (1 : Int)) else (point_2 + (1 : Int)))) >>= fun base_ =>
  (fromO (modG base_ (32 : Int)) >>= fun v12 => fromO (m_eighth_name v12) >>= fun v11 => fromO (catSG v11 ("b" : Str)) >>= fun v13 => fromO (tw (base_ + (point_2 - base_)) (point_2 - base_)) >>= fun v14 => fromO (catSG v13 v14))
theorem name_V (x : Int) : m_name_of x = nameV tw (x % 32) := by
  rw [← tow_eq]
  exact o_go (mod_pos (by decide))
theorem names32 : ((List.range 32).all fun k => decide (nameV tw (k : Int) = NAMES[k]?)) = true := by decide +kernel
theorem name_eq (x : Int) : m_name_of x = NAMES[(x % 32).toNat]? := by
  rw [name_V]
  have := List.all_eq_true.mp names32 (x % 32).toNat (List.mem_range.mpr (by omega))
  have := of_decide_eq_true this
  rw [show (((x % 32).toNat : Nat) : Int) = x % 32 by omega] at this
  exact this
theorem at_names {x : Int} (h : 0 ≤ x) : L2.atI NAMES (x % 32) = NAMES[(x % 32).toNat]? := by
  have : (x % 32).toNat < NAMES.length := by show _ < 32; omega
  rw [List.getElem?_eq_getElem this]
  exact at_int (by omega) (by show _ < (32 : Int); omega)
theorem at_names' (x : Int) : L2.atI NAMES (x % 32) = NAMES[(x % 32).toNat]? := by
  have : (x % 32).toNat < NAMES.length := by show _ < 32; omega
  rw [List.getElem?_eq_getElem this]
  exact at_int (by omega) (by show _ < (32 : Int); omega)
theorem allNames_eq : m_all_names = some NAMES := by
  unfold m_all_names
  simp only [o_fromO, o_pure]
  rw [range_some (by decide), o_bind]
  refine (comp_allS (q := fun x => NAMES.getD (x % 32).toNat ("" : Str)) fun x _ => ?_).trans (congrArg some (by decide +kernel))
  rw [name_eq]
  have : (x % 32).toNat < NAMES.length := by show _ < 32; omega
  rw [List.getElem?_eq_getElem this, List.getD_eq_getElem?_getD, List.getElem?_eq_getElem this]
  rfl
/-! ### turns -/
def T (one other : Int) : Int := if (other - one) % 32 ≤ 16 then (other - one) % 32 else (other - one) % 32 - 32
theorem turned_eq (one other : Int) : m_turned_by one other = some (T one other) := by
  unfold m_turned_by
  simp only [o_fromO, o_pure]
  rw [mod_pos (by decide), o_bind]
  simp only [decide_eq_true_eq]
  rfl
theorem filter_one {p : Int → Bool} {lo t : Int} {n : Nat} (h : lo ≤ t) (h2 : t < lo + n) (hp : ∀ x, lo ≤ x → x < lo + n → (p x = true ↔ x = t)) : (rangeL lo n).filter p = [t] := by
  obtain ⟨a, rfl⟩ : ∃ a : Nat, t = lo + a := ⟨(t - lo).toNat, by omega⟩
  obtain ⟨m, rfl⟩ : ∃ m, n = a + (1 + m) := ⟨n - a - 1, by omega⟩
  rw [rangeL_app, rangeL_app, List.filter_append, List.filter_append]
  have e1 : (rangeL lo a).filter p = [] := List.filter_eq_nil_iff.mpr fun x hx => by
    rw [mem_rangeL] at hx
    rw [hp x (by omega) (by omega)]
    omega
  have e2 : (rangeL (lo + (a : Int)) 1).filter p = [lo + (a : Int)] := by
    show [lo + (a : Int)].filter p = _
    rw [List.filter_cons_of_pos ((hp _ (by omega) (by omega)).mpr rfl)]
    rfl
  have e3 : (rangeL (lo + (a : Int) + ((1 : Nat) : Int)) m).filter p = [] := List.filter_eq_nil_iff.mpr fun x hx => by
    rw [mem_rangeL] at hx
    rw [hp x (by omega) (by omega)]
    omega
  rw [e1, e2, e3]
  rfl
theorem T_in (one other : Int) : -16 < T one other ∧ T one other ≤ 16 ∧ (one + T one other) % 32 = other % 32 := by
  unfold T
  split <;> omega
theorem lawTurn_eq {one other : Int} (h : one.natAbs < 1000) (h2 : other.natAbs < 1000) : m__law_turn one other = some (T one other) := by
  obtain ⟨t1, t2, t3⟩ := T_in one other
  unfold m__law_turn
  simp only [o_fromO, o_pure]
  rw [range_some (by decide), o_bind, show ((17 : Int) - (0 - 15)).toNat = 32 from rfl, show (0 : Int) - 15 = -15 from rfl]
  refine (o_go (comp_some (p := fun by_ => decide ((one + by_) % 32 = other % 32)) (q := fun by_ => (absI by_, (0 : Int) - by_)) (fun x hx => ?_) (fun _ _ _ => rfl))).trans ?_
  · rw [mem_rangeL] at hx
    rw [round_eq (by omega), o_bind, round_eq (by omega), o_bind]
  · rw [filter_one (t := T one other) (by omega) (by omega) (fun x h1 h2 => by rw [decide_eq_true_eq]; omega)]
    show some ((0 : Int) - (0 - T one other)) = _
    congr 1
    omega
theorem T_mod (one x : Int) : T one (x % 32) = T one x := by
  unfold T
  have : (x % 32 - one) % 32 = (x - one) % 32 := by omega
  rw [this]
theorem absI_T (one other : Int) : 0 ≤ absI (T one other) ∧ absI (T one other) ≤ 16 := by
  have := T_in one other
  unfold absI
  split <;> omega
def betw (one other : Int) : List Int := (rangeL 0 (absI (T one other) + 1).toNat).map fun k => (one + (if 0 < T one other then k else 0 - k)) % 32
theorem betw_len (one other : Int) : (betw one other).length ≤ 17 := by
  have := absI_T one other
  rw [betw, List.length_map, rangeL_len]
  omega
theorem points_eq (one other : Int) : m_points_between one other = some (betw one other) := by
  have := absI_T one other
  unfold m_points_between
  simp only [o_fromO, o_pure]
  rw [turned_eq, o_bind, o_bind, range_some (by omega), o_bind, Int.sub_zero]
  refine comp_allS fun k hk => ?_
  rw [mem_rangeL] at hk
  by_cases z : 0 < T one other
  · rw [if_pos (decide_eq_true z), if_pos z, mul_small (by decide) (by omega), o_bind, mod_pos (by decide), Int.one_mul]
  · rw [if_neg (by simpa using z), if_neg z, mul_small (by decide) (by omega), o_bind, mod_pos (by decide), Int.neg_mul, Int.one_mul, Int.zero_sub]
theorem lawBetw_eq {one other : Int} (h : one.natAbs < 1000) : (rangeG 0 ((absI (T one other)) + (1 : Int)) >>= fun v20 => compL (m := Option) (fun k_ => some true) (fun k_ => m__law_round (one + (if (decide ((0 : Int) < T one other)) = true then k_ else ((0 : Int) - k_)))) v20) = some (betw one other) := by
  have := absI_T one other
  rw [range_some (by omega), o_bind, Int.sub_zero]
  refine comp_allS fun k hk => ?_
  rw [mem_rangeL] at hk
  simp only [decide_eq_true_eq]
  rw [round_eq (by split <;> omega)]
theorem half_eq (one other : Int) : m_halfway one other = some ((one + T one other / 2) % 32) := by
  unfold m_halfway
  simp only [o_fromO, o_pure]
  rw [turned_eq, o_bind, div_small (by decide) (by decide), o_bind, mod_pos (by decide)]
theorem sail_eq (one other close : Int) : m_can_sail one other close = some (decide (close ≤ absI (T one other))) := by
  unfold m_can_sail
  simp only [o_fromO, o_pure]
  rw [turned_eq, o_bind]
theorem degrees_eq : ((List.range 32).all fun k => decide (nf ((k : Int) * 360) 32 = nf ((k : Int) * 45) 4)) = true := by decide +kernel
theorem inDeg_eq {one : Int} (h : 0 ≤ one ∧ one < 32) : m_in_degrees one = some (nf (one * 45) 4) := by
  unfold m_in_degrees
  simp only [o_fromO, o_pure]
  rw [mul_small (by omega) (by decide), o_bind, d_frac, fracB (by decide) (Bd.of (by decide) (by decide))]
  have := of_decide_eq_true (List.all_eq_true.mp degrees_eq one.toNat (List.mem_range.mpr (by omega)))
  rw [show ((one.toNat : Nat) : Int) = one by omega] at this
  rw [this]
/-! ### the nearest -/
def rowT (d p : Int) : Int × Int × Int := (absI (45 * p - 4 * d), p - p / 2 * 2, p)
theorem ltD_iii (a b : Int × Int × Int) : ltD (eT3 eInt eInt eInt) a b = decide ([a.1, a.2.1, a.2.2] < [b.1, b.2.1, b.2.2]) := ltD_row [a.1, a.2.1, a.2.2] [b.1, b.2.1, b.2.2]
theorem ordr_iii : Ordr (ltD (eT3 eInt eInt eInt)) := ⟨fun a b h => ordr_row.asym [a.1, a.2.1, a.2.2] [b.1, b.2.1, b.2.2] h, fun a b c h1 h2 => ordr_row.nt [a.1, a.2.1, a.2.2] [b.1, b.2.1, b.2.2] [c.1, c.2.1, c.2.2] h1 h2⟩
def nearP (d : Int) : Int := 8 * d / 90 + (if 45 < 8 * d % 90 then 1 else 0)
theorem near_eq {d : Int} (h : d.natAbs < 100000) : m_nearest_point d = some (nearP d % 32) := by
  unfold m_nearest_point
  simp only [o_fromO, o_pure]
  rw [mul_small (by omega) (by decide), o_bind, div_small (by decide) (by decide), o_bind, mod_pos (by decide), o_bind, o_bind, o_bind, Int.mul_comm d 8]
  rw [if_neg (by simp only [decide_eq_true_eq]; omega), mod_pos (by decide)]
  unfold nearP intB
  simp only [decide_eq_true_eq]
theorem rows_eq {d : Int} (h : d.natAbs < 100000) : foldL (m := Option) (fun point_ d_3 => (mulG (45 : Int) point_ >>= fun v37 => mulG (4 : Int) d >>= fun v38 => divG point_ (2 : Int) >>= fun v39 => mulG v39 (2 : Int) >>= fun v40 => some ((absI (v37 - v38)), (point_ - v40), point_)) >>= fun a => appG d_3 a >>= fun rows_2 => some rows_2) (rangeL (-64) 160) [] = some ((rangeL (-64) 160).map (rowT d)) := by
  refine (fold_map (g := rowT d) (fun p hp acc ha => ?_) (by rw [rangeL_len]; decide)).trans rfl
  rw [mem_rangeL] at hp
  rw [mul_small (by decide) (by omega), o_bind, mul_small (by decide) (by omega), o_bind, div_small (by decide) (by decide), o_bind, mul_small (by omega) (by decide), o_bind, o_bind, app_some (by omega), o_bind]
  rfl
theorem min_near {d : Int} (h : -400 ≤ d ∧ d ≤ 900) : ∃ v, minG (eT3 eInt eInt eInt) ((rangeL (-64) 160).map (rowT d)) = some v ∧ v.2.2 = nearP d := by
  obtain ⟨m, e, hm, hl⟩ := min_spec (e := eT3 eInt eInt eInt) ordr_iii (xs := (rangeL (-64) 160).map (rowT d)) (by intro z; have := congrArg List.length z; rw [List.length_map, rangeL_len] at this; cases this)
  refine ⟨m, e, ?_⟩
  obtain ⟨p, hp, rfl⟩ := List.mem_map.mp hm
  show p = nearP d
  rw [mem_rangeL] at hp
  have hn : -64 ≤ nearP d ∧ nearP d < -64 + (160 : Nat) := by unfold nearP; split <;> omega
  have hq := hl _ (List.mem_map.mpr ⟨nearP d, mem_rangeL.mpr hn, rfl⟩)
  rw [ltD_iii, decide_eq_false_iff_not] at hq
  have hq : ¬ (rowT d (nearP d)).1 < (rowT d p).1 := fun z => hq (List.Lex.rel z)
  simp only [rowT] at hq
  unfold nearP at *
  unfold absI at hq
  split at * <;> split at * <;> (try split at *) <;> omega
/-! ### tacks -/
theorem while_first {c : Int → Option Bool} {b : Int → Option Int} (s : Nat → Int) (p : Nat → Bool) {n : Nat} (h : ∀ k, k ≤ n → c (s k) = some (!p k)) (hb : ∀ k, k < n → b (s k) = some (s (k + 1))) (hp : p n = true) : ∃ r, r ≤ n ∧ whileM (m := Option) c b (s 0) = some (s r) ∧ p r = true ∧ ∀ j, j < r → p j = false := by
  have main : ∀ (m lo : Nat), lo + m = n → ∃ r, lo ≤ r ∧ r ≤ n ∧ whileFP (m := Option) c b (m + 1) (s lo) = some (s r) ∧ p r = true ∧ ∀ j, lo ≤ j → j < r → p j = false := by
    intro m
    induction m with
    | zero =>
      intro lo e
      obtain rfl : lo = n := by omega
      refine ⟨lo, Nat.le_refl _, Nat.le_refl _, ?_, hp, fun j h1 h2 => by omega⟩
      show (c (s lo) >>= fun t => if t = true then _ else some (s lo)) = _
      rw [h lo (by omega), hp]
      rfl
    | succ m ih =>
      intro lo e
      cases z : p lo with
      | true =>
        refine ⟨lo, Nat.le_refl _, by omega, ?_, z, fun j h1 h2 => by omega⟩
        show (c (s lo) >>= fun t => if t = true then _ else some (s lo)) = _
        rw [h lo (by omega), z]
        rfl
      | false =>
        obtain ⟨r, h1, h2, h3, h4, h5⟩ := ih (lo + 1) (by omega)
        refine ⟨r, by omega, h2, ?_, h4, fun j a b => ?_⟩
        · show (c (s lo) >>= fun t => if t = true then b (s lo) >>= whileFP c b (m + 1) else some (s lo)) = _
          rw [h lo (by omega), z, o_bind, Bool.not_false, if_pos rfl, hb lo (by omega), o_bind]
          exact h3
        · rcases Nat.lt_or_eq_of_le a with y | y
          · exact h5 j y b
          · rw [← y]; exact z
  obtain ⟨r, _, h2, h3, h4, h5⟩ := main n 0 (by omega)
  exact ⟨r, h2, whileM_of h3, h4, fun j hj => h5 j (Nat.zero_le _) hj⟩
theorem at_first {p : Int → Bool} {n r : Nat} (h : r < n) (hp : p (r : Int) = true) (hj : ∀ j : Nat, j < r → p (j : Int) = false) : L2.atI ((rangeL 0 n).filter p) 0 = some (r : Int) := by
  obtain ⟨m, rfl⟩ : ∃ m, n = r + (m + 1) := ⟨n - r - 1, by omega⟩
  rw [rangeL_app, List.filter_append]
  have e1 : (rangeL 0 r).filter p = [] := List.filter_eq_nil_iff.mpr fun x hx => by
    obtain ⟨k, rfl, hk⟩ := mem_range0 hx
    rw [hj k hk]
    exact Bool.false_ne_true
  rw [e1, List.nil_append, Int.zero_add]
  show L2.atI (((r : Int) :: rangeL ((r : Int) + 1) m).filter p) 0 = _
  rw [List.filter_cons_of_pos hp]
  exact at0 _ _
section
variable {one other close : Int} (h1 : 0 ≤ one ∧ one < 32) (h2 : 0 ≤ other ∧ other < 32) (hc : 0 ≤ close ∧ close < 17)
include h1 h2 hc
theorem left_eq : ∃ r : Nat, r < 33 ∧ (rangeG 0 (33 : Int) >>= fun v42 => compL (m := Option) (fun k_2 => (m__law_round (other - k_2) >>= fun v44 => m__law_turn one v44 >>= fun v43 => some (decide (close ≤ (absI v43))))) (fun k_2 => some k_2) v42) = some ((rangeL 0 33).filter fun k => decide (close ≤ absI (T one (other - k)))) ∧ L2.atI ((rangeL 0 33).filter fun k => decide (close ≤ absI (T one (other - k)))) 0 = some (r : Int) ∧ whileM (m := Option) (fun d_ => m_can_sail one d_ close >>= fun v1 => some (!v1)) (fun d_ => some (d_ - (1 : Int))) other = some (other - (r : Int)) := by
  obtain ⟨n, hn⟩ : ∃ n : Nat, (other - one - 16) % 32 = (n : Int) := ⟨((other - one - 16) % 32).toNat, by omega⟩
  have hT : absI (T one (other - (n : Int))) = 16 := by
    have : (other - (n : Int) - one) % 32 = 16 := by omega
    unfold T
    rw [this]
    rfl
  obtain ⟨r, r1, r2, r3, r4⟩ := while_first (c := fun d_ => m_can_sail one d_ close >>= fun v1 => some (!v1)) (b := fun d_ => some (d_ - (1 : Int))) (fun k => other - (k : Int)) (fun k => decide (close ≤ absI (T one (other - (k : Int))))) (n := n) (fun k _ => by rw [sail_eq, o_bind]) (fun k _ => by congr 1; omega) (decide_eq_true (by rw [hT]; omega))
  refine ⟨r, by omega, ?_, at_first (by omega) r3 r4, ?_⟩
  · rw [range_some (by decide), o_bind, show ((33 : Int) - 0).toNat = 33 from rfl]
    refine (comp_some (p := fun k => decide (close ≤ absI (T one (other - k)))) (q := fun x => x) (fun x hx => ?_) (fun _ _ _ => rfl)).trans (by rw [List.map_id'])
    rw [mem_rangeL] at hx
    rw [round_eq (by omega), o_bind, lawTurn_eq (by omega) (by omega), o_bind, T_mod]
  · rw [show ((other - ((0 : Nat) : Int)) : Int) = other by omega] at r2
    exact r2
theorem right_eq : ∃ r : Nat, r < 33 ∧ (rangeG 0 (33 : Int) >>= fun v42 => compL (m := Option) (fun k_2 => (m__law_round (other + k_2) >>= fun v44 => m__law_turn one v44 >>= fun v43 => some (decide (close ≤ (absI v43))))) (fun k_2 => some k_2) v42) = some ((rangeL 0 33).filter fun k => decide (close ≤ absI (T one (other + k)))) ∧ L2.atI ((rangeL 0 33).filter fun k => decide (close ≤ absI (T one (other + k)))) 0 = some (r : Int) ∧ whileM (m := Option) (fun d_ => m_can_sail one d_ close >>= fun v1 => some (!v1)) (fun d_ => some (d_ + (1 : Int))) other = some (other + (r : Int)) := by
  obtain ⟨n, hn⟩ : ∃ n : Nat, (one + 16 - other) % 32 = (n : Int) := ⟨((one + 16 - other) % 32).toNat, by omega⟩
  have hT : absI (T one (other + (n : Int))) = 16 := by
    have : (other + (n : Int) - one) % 32 = 16 := by omega
    unfold T
    rw [this]
    rfl
  obtain ⟨r, r1, r2, r3, r4⟩ := while_first (c := fun d_ => m_can_sail one d_ close >>= fun v1 => some (!v1)) (b := fun d_ => some (d_ + (1 : Int))) (fun k => other + (k : Int)) (fun k => decide (close ≤ absI (T one (other + (k : Int))))) (n := n) (fun k _ => by rw [sail_eq, o_bind]) (fun k _ => by congr 1; omega) (decide_eq_true (by rw [hT]; omega))
  refine ⟨r, by omega, ?_, at_first (by omega) r3 r4, ?_⟩
  · rw [range_some (by decide), o_bind, show ((33 : Int) - 0).toNat = 33 from rfl]
    refine (comp_some (p := fun k => decide (close ≤ absI (T one (other + k)))) (q := fun x => x) (fun x hx => ?_) (fun _ _ _ => rfl)).trans (by rw [List.map_id'])
    rw [mem_rangeL] at hx
    rw [round_eq (by omega), o_bind, lawTurn_eq (by omega) (by omega), o_bind, T_mod]
  · rw [show ((other + ((0 : Nat) : Int)) : Int) = other by omega] at r2
    exact r2
end
/-! ### in the monad of errors -/
theorem e_pure {α : Type} (a : α) : (pure a : EM α) = fromO (some a) := congrArg id (rfl : (fromO (some a) : EM α) = fromO (some a))
theorem e_bind {α β : Type} (x : Option α) (f : α → Option β) : ((fromO x : EM α) >>= fun a => (fromO (f a) : EM β)) = fromO (x >>= f) := by cases x <;> rfl
theorem e_ite {α : Type} {c : Prop} [Decidable c] (x y : Option α) : (if c then (fromO x : EM α) else fromO y) = fromO (if c then x else y) := by split <;> rfl
theorem e_go {α β : Type} {o : Option α} {a : α} {f : α → EM β} (h : o = some a) : ((fromO o : EM α) >>= f) = f a := by subst h; rfl
theorem whileFE {δ : Type} (c : δ → Option Bool) (b : δ → Option δ) : ∀ (n : Nat) (d : δ), whileFP (m := EM) (fun d => fromO (c d)) (fun d => fromO (b d)) n d = fromO (whileFP (m := Option) c b n d)
  | 0, d => rfl
  | n + 1, d => by
    show ((fromO (c d) : EM Bool) >>= fun t => if t = true then (fromO (b d) : EM δ) >>= whileFP (m := EM) (fun d => fromO (c d)) (fun d => fromO (b d)) n else pure d) = _
    have : (fun d => whileFP (m := EM) (fun d => fromO (c d)) (fun d => fromO (b d)) n d) = fun d => fromO (whileFP (m := Option) c b n d) := funext fun d => whileFE c b n d
    have : whileFP (m := EM) (fun d => fromO (c d)) (fun d => fromO (b d)) n = fun d => fromO (whileFP (m := Option) c b n d) := this
    rw [this]
    simp only [e_pure, e_bind, e_ite]
    rfl
theorem supO_get {α : Type} {f : Nat → Option α} {a : α} (h : supO f = some a) (g : α → Except Exc α) : ∃ n, f n = some a := supO_some h
theorem whileE_of {δ : Type} {c : δ → Option Bool} {b : δ → Option δ} {c' : δ → EM Bool} {b' : δ → EM δ} {d r : δ} (hc : ∀ d, c' d = fromO (c d)) (hb : ∀ d, b' d = fromO (b d)) (h : whileM (m := Option) c b d = some r) : whileM (m := EM) c' b' d = pure r := by
  have hc : c' = fun d => fromO (c d) := funext hc
  have hb : b' = fun d => fromO (b d) := funext hb
  subst hc hb
  obtain ⟨n, hn⟩ := supO_some (f := fun n => whileFP (m := Option) c b n d) h
  have e : ∀ m, (whileFP (m := EM) (fun d => fromO (c d)) (fun d => fromO (b d)) m d).run = (whileFP (m := Option) c b m d).map .ok := fun m => by rw [whileFE]; rfl
  show ExceptT.mk (supO fun m => (whileFP (m := EM) (fun d => fromO (c d)) (fun d => fromO (b d)) m d).run) = _
  have : supO (fun m => (whileFP (m := EM) (fun d => fromO (c d)) (fun d => fromO (b d)) m d).run) = some (.ok r) := supO_of (n := n) (by rw [e]; show Option.map _ (whileFP c b n d) = _; rw [hn]; rfl) fun m q hq => by
    rw [e] at hq
    cases z : whileFP (m := Option) c b m d with
    | none => rw [z] at hq; cases hq
    | some x =>
      rw [z] at hq
      have := whileM_of z
      rw [h] at this
      cases this
      cases hq
      rfl
  rw [this]
  rfl
/-! ### texts -/
def tk (k : Nat) (z : Str) : List Nat := z.cps.toList.take k
theorem len_def (z : Str) : z.length = z.cps.toList.length := by rw [Array.length_toList]; rfl
theorem cutS_to (z : Str) (k : Nat) : cutS z none (some (k : Int)) = ⟨(tk k z).toArray⟩ := by
  unfold cutS tk
  rw [HT.sIx_none, HT.sIx_nat, List.drop_zero, Nat.sub_zero, len_def, ← List.take_eq_take_min]
theorem cut_iff (a b : Str) (k : Nat) : cutS a none (some (k : Int)) = cutS b none (some (k : Int)) ↔ tk k a = tk k b := by
  rw [cutS_to, cutS_to]
  constructor
  · intro h
    injection h with h
    exact congrArg Array.toList h
  · intro h
    rw [h]
theorem cutG_some {z : Str} (h : z.length ≤ 1000) (l u : Option Int) : cutSG z l u = some (cutS z l u) := if_pos (by omega)
theorem lenG_some {z : Str} (h : z.length ≤ 1000) : lenSG z = some (z.length : Int) := if_pos (by omega)
theorem names_len : ∀ own ∈ NAMES, own.length ≤ 4 := by decide +kernel
theorem names_rev : ∀ own ∈ NAMES, (revSG own).map (·.length) = some own.length := by decide +kernel
def Pk (text : Str) (k : Nat) : Bool := NAMES.any fun own => decide (tk k own = tk k text)
theorem Pk_iff {text : Str} {k : Nat} : Pk text k = true ↔ ∃ own ∈ NAMES, tk k own = tk k text := by
  unfold Pk
  rw [List.any_eq_true]
  simp only [decide_eq_true_eq]
theorem Pk_down {text : Str} {j k : Nat} (h : j ≤ k) (hk : Pk text k = true) : Pk text j = true := by
  obtain ⟨own, ho, e⟩ := Pk_iff.mp hk
  refine Pk_iff.mpr ⟨own, ho, ?_⟩
  have := congrArg (List.take j) e
  unfold tk at *
  rw [List.take_take, List.take_take, Nat.min_eq_left h] at this
  exact this
theorem Pk0 (text : Str) : Pk text 0 = true := Pk_iff.mpr ⟨("n" : Str), by decide +kernel, rfl⟩
def topL (text : Str) : Nat := lastUp (Pk text) text.length
theorem topL_spec (text : Str) : Pk text (topL text) = true ∧ topL text ≤ text.length ∧ ∀ j, j ≤ text.length → Pk text j = true → j ≤ topL text := lastUp_spec (Pk0 text) text.length
section
variable {text : Str} (hl : text.length ≤ 1000)
include hl
theorem cond_eq (k : Nat) : (lenSG text >>= fun v3 => (if (decide ((k : Int) < v3)) = true then ((compL (m := Option) (fun name_ => some true) (fun name_ => (cutSG name_ none (some ((k : Int) + (1 : Int))) >>= fun v4 => cutSG text none (some ((k : Int) + (1 : Int))) >>= fun v5 => some (decide (v4 = v5)))) NAMES) >>= fun v6 => some (List.any v6 id)) else some false)) = some (decide (k < text.length) && Pk text (k + 1)) := by
  rw [lenG_some hl, o_bind]
  by_cases z : k < text.length
  · rw [if_pos (decide_eq_true (by omega)), show (k : Int) + 1 = ((k + 1 : Nat) : Int) by omega, comp_allS (q := fun own => decide (tk (k + 1) own = tk (k + 1) text)) (fun own ho => ?_), o_bind, decide_eq_true z, Bool.true_and, List.any_map]
    · rfl
    · have := names_len own ho
      rw [cutG_some (by omega), o_bind, cutG_some hl, o_bind]
      congr 1
      exact decide_eq_decide.mpr (cut_iff own text (k + 1))
  · rw [if_neg (by rw [decide_eq_true_eq]; omega), decide_eq_false z, Bool.false_and]
theorem long_eq : whileM (m := Option) (fun d_ : Int => (lenSG text >>= fun v3 => (if (decide (d_ < v3)) = true then ((compL (m := Option) (fun name_ => some true) (fun name_ => (cutSG name_ none (some (d_ + (1 : Int))) >>= fun v4 => cutSG text none (some (d_ + (1 : Int))) >>= fun v5 => some (decide (v4 = v5)))) NAMES) >>= fun v6 => some (List.any v6 id)) else some false))) (fun d_ => some (d_ + 1)) 0 = some (topL text : Int) := by
  obtain ⟨t1, t2, t3⟩ := topL_spec text
  obtain ⟨r, r1, r2, r3, r4⟩ := while_first (c := fun d_ : Int => (lenSG text >>= fun v3 => (if (decide (d_ < v3)) = true then ((compL (m := Option) (fun name_ => some true) (fun name_ => (cutSG name_ none (some (d_ + (1 : Int))) >>= fun v4 => cutSG text none (some (d_ + (1 : Int))) >>= fun v5 => some (decide (v4 = v5)))) NAMES) >>= fun v6 => some (List.any v6 id)) else some false))) (b := fun d_ => some (d_ + 1)) (fun k => (k : Int)) (fun k => !(decide (k < text.length) && Pk text (k + 1))) (n := topL text) (fun k _ => by rw [Bool.not_not]; exact cond_eq hl k) (fun k _ => rfl) (by
    rw [Bool.not_eq_true', Bool.and_eq_false_iff]
    by_cases z : topL text < text.length
    · right
      cases y : Pk text (topL text + 1) with
      | false => rfl
      | true => have := t3 _ (by omega) y; omega
    · left
      exact decide_eq_false z)
  have : r = topL text := by
    rcases Nat.lt_or_eq_of_le r1 with z | z
    · rw [Bool.not_eq_true', Bool.and_eq_false_iff] at r3
      rcases r3 with y | y
      · have := of_decide_eq_false y; omega
      · rw [Pk_down (k := topL text) (by omega) t1] at y; cases y
    · exact z
  rw [← this]
  exact r2
theorem said_eq : m__law_said text = some (if text ∈ NAMES then eInt ((NAMES.idxOf text : Nat) : Int) else eT2 eStr eInt (("text" : Str), (topL text : Int))) := by
  have hp : m_point_of text = if text ∈ NAMES then fromO (some ((NAMES.idxOf text : Nat) : Int)) else throwE ("BadText" : Str) (eInt (topL text : Int)) := by
    unfold m_point_of
    refine (e_go allNames_eq).trans ?_
    rw [pure_bind]
    by_cases z : text ∈ NAMES
    · rw [if_pos (decide_eq_true z), if_pos z, idxG, if_pos z]
    · rw [if_neg (by rw [decide_eq_true_eq]; exact z), if_neg z, pure_bind]
      rw [whileE_of (fun d => by simp only [e_pure, e_bind, e_ite]; rfl) (fun d => by rw [pure_bind, e_pure]) (long_eq hl), pure_bind, pure_bind]
      have ts := (topL_spec text).2.1
      have sm : ((topL text : Nat) : Int).natAbs.log2 < 1920 := by
        rw [Int.natAbs_natCast]
        by_cases y : topL text = 0
        · rw [y]; decide
        · rw [Nat.log2_lt y]
          exact Nat.lt_of_le_of_lt (Nat.le_trans ts hl) (Nat.lt_of_lt_of_le (show 1000 < 2 ^ 10 by decide) (Nat.pow_le_pow_right (show 0 < 2 by decide) (show 10 ≤ 1920 by decide)))
      have : smI ((topL text : Nat) : Int) = some ⟨_, sm⟩ := dif_pos sm
      exact (e_go this).trans rfl
  unfold m__law_said
  rw [hp]
  by_cases z : text ∈ NAMES
  · rw [if_pos z, if_pos z]
    rfl
  · rw [if_neg z, if_neg z]
    rfl
def headsL (text : Str) : List Int := (rangeL 0 (text.length + 1)).filter fun k => Pk text k.toNat
theorem heads_eq : (lenSG text >>= fun v72 => rangeG 0 (v72 + (1 : Int)) >>= fun v73 => compL (m := Option) (fun size_ => (compL (m := Option) (fun own_ => (cutSG own_ none (some size_) >>= fun v74 => cutSG text none (some size_) >>= fun v75 => (if (decide (v74 = v75)) = true then (lenSG own_ >>= fun v76 => some (decide (size_ ≤ v76))) else some false))) (fun own_ => some own_) NAMES >>= fun v78 => some (!decide (v78 = [])))) (fun size_ => some size_) v73) = some (headsL text) := by
  rw [lenG_some hl, o_bind, show (text.length : Int) + 1 = ((text.length + 1 : Nat) : Int) by omega, range_nat (by omega), o_bind]
  refine (comp_some (p := fun k => Pk text k.toNat) (q := fun x => x) (fun x hx => ?_) (fun _ _ _ => rfl)).trans (by rw [List.map_id']; rfl)
  obtain ⟨k, rfl, hk⟩ := mem_range0 hx
  rw [comp_some (p := fun own => decide (tk k own = tk k text) && decide (k ≤ own.length)) (q := fun x => x) (fun own ho => ?_) (fun _ _ _ => rfl), o_bind, List.map_id', Int.toNat_natCast]
  · congr 1
    rw [Bool.eq_iff_iff, Pk_iff, Bool.not_eq_true', decide_eq_false_iff_not, List.filter_eq_nil_iff]
    constructor
    · intro h
      have : ∃ own ∈ NAMES, (decide (tk k own = tk k text) && decide (k ≤ own.length)) = true := Classical.byContradiction fun n => h fun own ho e => n ⟨own, ho, e⟩
      obtain ⟨own, ho, e⟩ := this
      rw [Bool.and_eq_true] at e
      exact ⟨own, ho, of_decide_eq_true e.1⟩
    · rintro ⟨own, ho, e⟩ h
      refine h own ho ?_
      rw [Bool.and_eq_true]
      refine ⟨decide_eq_true e, decide_eq_true ?_⟩
      have e := congrArg List.length e
      unfold tk at e
      rw [List.length_take, List.length_take, ← len_def, ← len_def] at e
      omega
  · have := names_len own ho
    rw [cutG_some (by omega), o_bind, cutG_some hl, o_bind, lenG_some (by omega), o_bind]
    by_cases z : tk k own = tk k text
    · rw [if_pos (decide_eq_true ((cut_iff own text k).mpr z)), decide_eq_true z, Bool.true_and]
      congr 1
      exact decide_eq_decide.mpr (by omega)
    · rw [if_neg (by rw [decide_eq_true_eq, cut_iff]; exact z), decide_eq_false z, Bool.false_and]
omit hl in
theorem max_heads : maxG eInt (headsL text) = some (topL text : Int) := by
  obtain ⟨t1, t2, t3⟩ := topL_spec text
  have mem : ((topL text : Nat) : Int) ∈ headsL text := List.mem_filter.mpr ⟨mem_rangeL.mpr (by omega), by rw [Int.toNat_natCast]; exact t1⟩
  obtain ⟨m, e, hm, hx⟩ := maxI_spec (xs := headsL text) (List.ne_nil_of_mem mem)
  have h1 := hx _ mem
  obtain ⟨h2, h3⟩ := List.mem_filter.mp hm
  obtain ⟨k, rfl, hk⟩ := mem_range0 h2
  rw [Int.toNat_natCast] at h3
  have := t3 k (by omega) h3
  rw [e]
  congr 1
  omega
theorem due_eq : (if (decide (text ∈ NAMES)) = true then (idxG NAMES text >>= fun v81 => some (eInt v81)) else (maxG eInt (headsL text) >>= fun v82 => some ((eT2 eStr eInt) (("text" : Str), v82)))) = m__law_said text := by
  rw [said_eq hl]
  by_cases z : text ∈ NAMES
  · rw [if_pos (decide_eq_true z), if_pos z, idxG, if_pos z, o_bind]
  · rw [if_neg (by rw [decide_eq_true_eq]; exact z), if_neg z, max_heads, o_bind]
theorem said_sml : ∃ v, m__law_said text = some v ∧ Sml 5 v := by
  refine ⟨_, said_eq hl, ?_⟩
  split
  · exact sml_int.le (by decide)
  · exact (sml_t2 sml_str sml_int).le (by decide)
end
/-! ### the law -/
theorem pick1 {rows : List Int} (h : rows ≠ []) : Good (m__law_pick_i1 rows) (· ∈ rows) := Good.pick h
theorem pick2 {rows : List Str} (h : rows ≠ []) : Good (m__law_pick_i2 rows) (· ∈ rows) := Good.pick h
theorem letters_len : ∀ c ∈ [("n" : Str), ("e" : Str), ("s" : Str), ("w" : Str), ("b" : Str), ("x" : Str), ("N" : Str), (" " : Str)], c.length ≤ 1 := by decide +kernel
theorem app_len (z y : Str) : (z ++ y).length = z.length + y.length := Array.size_append
theorem catS_some {z y : Str} (h : z.length + y.length ≤ 1000) : catSG z y = some (z ++ y) := if_pos (by omega)
theorem law_true (ns : List Int) (h : ns.length ≤ 63) : m_law ns = some true := by
  refine law_of (n := 400) rfl h (by decide) ?_
  unfold m_lawb
  simp only [w_pure, w_bind, w_bindI, w_ite, w_comp, w_fold, w_loop, w_thenL, w_thenF]
  have hn : m__law_next = nextM := rfl
  rw [hn]
  refine Good.go lawNames_eq ?_
  refine Good.go (range_some (by decide)) ?_
  refine Good.turns (fun turn _ => ?_) (Good.fromO rfl rfl)
  refine Good.bind (P := fun p : Int × Int × Int => (-100 ≤ p.1 ∧ p.1 < 100) ∧ (0 ≤ p.2.1 ∧ p.2.1 < 32) ∧ (0 ≤ p.2.2 ∧ p.2.2 < 32)) (Good.bind (Good.nextM (by decide)) fun a ha => Good.bind (Good.nextM (by decide)) fun b hb => Good.bind (Good.nextM (by decide)) fun c hc => Good.fromO rfl ⟨by show -100 ≤ a - 100 ∧ a - 100 < 100; omega, hb, hc⟩) fun p hp => ?_
  obtain ⟨number, one, other0⟩ := p
  obtain ⟨hnum, h1, h3⟩ := hp
  simp only at hnum h1 h3
  simp only []
  refine Good.bind (P := fun o => 0 ≤ o ∧ o < 32) (Good.go (round_eq (by omega)) ((pick1 (by simp)).imp fun x hx => ?_)) fun other h2 => ?_
  · simp only [List.mem_cons, List.not_mem_nil, or_false] at hx
    rcases hx with rfl | rfl | rfl | rfl
    · exact h3
    · exact h3
    · omega
    · exact h1
  obtain ⟨z, hz⟩ : ∃ z, NAMES[(number % 32).toNat]? = some z := by
    have : (number % 32).toNat < NAMES.length := by show _ < 32; omega
    exact ⟨_, List.getElem?_eq_getElem this⟩
  have tin := T_in one other
  have opp : m_opposite one = some ((one + 16) % 32) := by unfold m_opposite; rw [o_fromO]; exact mod_pos (by decide)
  refine Good.go (a := (z, (one + 16) % 32, T one other, nf (one * 45) 4)) ?_ ?_
  · rw [name_eq, hz, o_bind, opp, o_bind, turned_eq, o_bind, inDeg_eq h1, o_bind]
  refine Good.no ?_ ?_
  · rw [round_eq (by omega), o_bind, at_names', hz, o_bind, round_eq (by omega), o_bind, lawTurn_eq (by omega) (by omega), o_bind, mul_small (by omega) (by decide), o_bind, d_lfrac, lawFraction2_eq _ (by decide) (Bd.of (by decide) (by decide)), o_bind, d_same, (sml_t4 sml_str sml_int sml_int (sml_t2 sml_int sml_int)).same (by decide), o_bind]
    rfl
  refine Good.go (lawTurn_eq (by omega) (by omega)) ?_
  refine Good.go (lawBetw_eq (by omega)) ?_
  refine Good.no ?_ ?_
  · rw [half_eq, o_bind, points_eq, o_bind, div_small (by decide) (by decide), o_bind, round_eq (by omega), o_bind, d_same, (sml_t2 sml_int (sml_tup (m := 17) (fun _ _ => sml_int) (betw_len one other))).same (by decide), o_bind]
    rfl
  refine Good.bind (P := fun d : Int => -400 ≤ d ∧ d ≤ 900) (Good.bind (Good.nextM (by decide)) fun a ha => Good.bind (Good.nextM (by decide)) fun b hb => Good.go (mul_small (by decide) (by omega)) (Good.go (mul_small (by decide) (by omega)) (Good.go (div_small (by decide) (by decide)) (Good.bind (Good.nextM (by decide)) fun c hc => Good.go (mul_small (by decide) (by omega)) ((pick1 (by simp)).imp fun x hx => ?_))))) fun d hd => ?_
  · simp only [List.mem_cons, List.not_mem_nil, or_false] at hx
    omega
  refine Good.go rfl ?_
  refine Good.go (range_some (by decide)) ?_
  rw [show ((0 : Int) - 64) = -64 from rfl, show ((96 : Int) - (-64)).toNat = 160 from rfl]
  refine Good.go (rows_eq (by omega)) ?_
  refine Good.bind (Good.nextM (by decide)) fun close hc => ?_
  obtain ⟨rl, l1, l2, l3, l4⟩ := left_eq h1 h2 hc
  obtain ⟨rr, r1, r2, r3, r4⟩ := right_eq h1 h2 hc
  obtain ⟨v, v1, v2⟩ := min_near hd
  have nb : (nearP d).natAbs < 1000 := by unfold nearP; split <;> omega
  refine Good.go l2 ?_
  refine Good.go r2 ?_
  refine Good.go (a := (nearP d % 32, decide (close ≤ absI (T one other)), ((other - (rl : Int)) % 32, (other + (rr : Int)) % 32))) ?_ ?_
  · rw [v1, o_bind, v2, round_eq (by omega), o_bind, lawTurn_eq (by omega) (by omega), o_bind, l3, o_bind, round_eq (by omega), o_bind, r3, o_bind, round_eq (by omega), o_bind]
  refine Good.no ?_ ?_
  · have ht : m_tacks_for one other close = some ((other - (rl : Int)) % 32, (other + (rr : Int)) % 32) := by
      unfold m_tacks_for
      simp only [o_fromO, o_pure, o_bind]
      rw [l4, o_bind, r4, o_bind, mod_pos (by decide), o_bind, mod_pos (by decide), o_bind]
    rw [near_eq (by omega), o_bind, sail_eq, o_bind, ht, o_bind, d_same, (sml_t3 sml_int sml_bool (sml_t2 sml_int sml_int)).same (by decide), o_bind]
    rfl
  refine Good.go (range_some (by decide)) ?_
  refine Good.turns (fun k _ => ?_) (Good.fromO rfl rfl)
  refine Good.bind (pick2 (by simp [NAMES])) fun name hname => ?_
  have nl := names_len name hname
  refine Good.bind (P := fun a : Int => 0 ≤ a ∧ a ≤ 4) (Good.go (lenG_some (by omega)) ((Good.nextM (by omega)).imp fun x hx => by omega)) fun at_ hat => ?_
  have c1 := cutS_length name none (some at_)
  have c2 := cutS_length name (some at_) none
  obtain ⟨rv, rv1, rv2⟩ := Option.map_eq_some_iff.mp (names_rev name hname)
  refine Good.bind (P := fun t : Str => t.length ≤ 1000) (Good.go (cutG_some (by omega) _ _) (Good.go (cutG_some (by omega) _ _) (Good.bind (P := fun c : Str => c.length ≤ 1) ((pick2 (by simp)).imp fun c hc => letters_len c hc) fun c hc => Good.go (catS_some (by omega)) (Good.go (cutG_some (by omega) _ _) (Good.go (catS_some (by rw [app_len]; omega)) (Good.go (catS_some (by show name.length + 1 ≤ 1000; omega)) (Good.go rv1 ((pick2 (by simp)).imp fun x hx => ?_)))))))) fun text hl => ?_
  · simp only [List.mem_cons, List.not_mem_nil, or_false] at hx
    rcases hx with rfl | rfl | rfl | rfl | rfl | rfl | rfl
    · omega
    · omega
    · omega
    · rw [app_len, app_len]; omega
    · rw [app_len]; show name.length + 1 ≤ 1000; omega
    · decide
    · omega
  refine Good.fromO (a := .nx ()) ?_ rfl
  refine (o_go (heads_eq hl)).trans ?_
  obtain ⟨w, e, sm⟩ := said_sml hl
  refine (o_no ?_).trans rfl
  rw [due_eq hl, e, o_bind, o_bind, d_same, sm.same (by decide), o_bind]
  rfl
end K42

/-! ### what the top has written; the law's own head -/
namespace K42
open PySem PySem.Spec PyProof.Rows L2 TT
open TT.PyM (fromO)
theorem all_mk {l : PySem.W.OpenLaw} {w : World} {K : PySem.W.Frag} {h : Heap} {mg : Str → Option Value} {fa : Addr} (X : K.In h) (G : h.Ns mainGlobals mg) (hfa : mg "law" = some (.ref fa))
    {x0 : Addr} {od0 an0 : Option Addr} {sl0 : Array (Option Value)} {oc0 kV0 dc0 pm0 cd0 ct0 : Value}
    (a0 : PySem.W.nsIn K mainGlobals "common" = some (some (.ref x0))) (l0 : K.lookup x0 = some ⟨oc0, od0, .func (PySem.W.fnOf "common" "common" (defArgs (topS 4)) (defBody (topS 4)) (defScope (topS 4)) .none kV0 dc0 pm0 an0 cd0 ct0), sl0⟩) (c0 : PySem.W.codeIn K cd0 "common" = true) (k0 : PySem.W.keepIn K (.ref x0) = true)
    {x1 : Addr} {od1 an1 : Option Addr} {sl1 : Array (Option Value)} {oc1 kV1 dc1 pm1 cd1 ct1 : Value}
    (a1 : PySem.W.nsIn K mainGlobals "main_near" = some (some (.ref x1))) (l1 : K.lookup x1 = some ⟨oc1, od1, .func (PySem.W.fnOf "main_near" "main_near" (defArgs (topS 9)) (defBody (topS 9)) (defScope (topS 9)) .none kV1 dc1 pm1 an1 cd1 ct1), sl1⟩) (c1 : PySem.W.codeIn K cd1 "main_near" = true) (k1 : PySem.W.keepIn K (.ref x1) = true)
    {x2 : Addr} {od2 an2 : Option Addr} {sl2 : Array (Option Value)} {oc2 kV2 dc2 pm2 cd2 ct2 : Value}
    (a2 : PySem.W.nsIn K mainGlobals "eighth_name" = some (some (.ref x2))) (l2 : K.lookup x2 = some ⟨oc2, od2, .func (PySem.W.fnOf "eighth_name" "eighth_name" (defArgs (topS 10)) (defBody (topS 10)) (defScope (topS 10)) .none kV2 dc2 pm2 an2 cd2 ct2), sl2⟩) (c2 : PySem.W.codeIn K cd2 "eighth_name" = true) (k2 : PySem.W.keepIn K (.ref x2) = true)
    {x3 : Addr} {od3 an3 : Option Addr} {sl3 : Array (Option Value)} {oc3 kV3 dc3 pm3 cd3 ct3 : Value}
    (a3 : PySem.W.nsIn K mainGlobals "towards" = some (some (.ref x3))) (l3 : K.lookup x3 = some ⟨oc3, od3, .func (PySem.W.fnOf "towards" "towards" (defArgs (topS 11)) (defBody (topS 11)) (defScope (topS 11)) .none kV3 dc3 pm3 an3 cd3 ct3), sl3⟩) (c3 : PySem.W.codeIn K cd3 "towards" = true) (k3 : PySem.W.keepIn K (.ref x3) = true)
    {x4 : Addr} {od4 an4 : Option Addr} {sl4 : Array (Option Value)} {oc4 kV4 dc4 pm4 cd4 ct4 : Value}
    (a4 : PySem.W.nsIn K mainGlobals "opposite" = some (some (.ref x4))) (l4 : K.lookup x4 = some ⟨oc4, od4, .func (PySem.W.fnOf "opposite" "opposite" (defArgs (topS 15)) (defBody (topS 15)) (defScope (topS 15)) .none kV4 dc4 pm4 an4 cd4 ct4), sl4⟩) (c4 : PySem.W.codeIn K cd4 "opposite" = true) (k4 : PySem.W.keepIn K (.ref x4) = true)
    {x5 : Addr} {od5 an5 : Option Addr} {sl5 : Array (Option Value)} {oc5 kV5 dc5 pm5 cd5 ct5 : Value}
    (a5 : PySem.W.nsIn K mainGlobals "turned_by" = some (some (.ref x5))) (l5 : K.lookup x5 = some ⟨oc5, od5, .func (PySem.W.fnOf "turned_by" "turned_by" (defArgs (topS 16)) (defBody (topS 16)) (defScope (topS 16)) .none kV5 dc5 pm5 an5 cd5 ct5), sl5⟩) (c5 : PySem.W.codeIn K cd5 "turned_by" = true) (k5 : PySem.W.keepIn K (.ref x5) = true)
    {x6 : Addr} {od6 an6 : Option Addr} {sl6 : Array (Option Value)} {oc6 kV6 dc6 pm6 cd6 ct6 : Value}
    (a6 : PySem.W.nsIn K mainGlobals "nearest_point" = some (some (.ref x6))) (l6 : K.lookup x6 = some ⟨oc6, od6, .func (PySem.W.fnOf "nearest_point" "nearest_point" (defArgs (topS 19)) (defBody (topS 19)) (defScope (topS 19)) .none kV6 dc6 pm6 an6 cd6 ct6), sl6⟩) (c6 : PySem.W.codeIn K cd6 "nearest_point" = true) (k6 : PySem.W.keepIn K (.ref x6) = true)
    {x7 : Addr} {od7 an7 : Option Addr} {sl7 : Array (Option Value)} {oc7 kV7 dc7 pm7 cd7 ct7 : Value}
    (a7 : PySem.W.nsIn K mainGlobals "_law_draws" = some (some (.ref x7))) (l7 : K.lookup x7 = some ⟨oc7, od7, .func (PySem.W.fnOf "_law_draws" "_law_draws" (defArgs (topS 24)) (defBody (topS 24)) (defScope (topS 24)) .none kV7 dc7 pm7 an7 cd7 ct7), sl7⟩) (c7 : PySem.W.codeIn K cd7 "_law_draws" = true) (k7 : PySem.W.keepIn K (.ref x7) = true)
    {x8 : Addr} {od8 an8 : Option Addr} {sl8 : Array (Option Value)} {oc8 kV8 dc8 pm8 cd8 ct8 : Value}
    (a8 : PySem.W.nsIn K mainGlobals "_law_next" = some (some (.ref x8))) (l8 : K.lookup x8 = some ⟨oc8, od8, .func (PySem.W.fnOf "_law_next" "_law_next" (defArgs (topS 25)) (defBody (topS 25)) (defScope (topS 25)) .none kV8 dc8 pm8 an8 cd8 ct8), sl8⟩) (c8 : PySem.W.codeIn K cd8 "_law_next" = true) (k8 : PySem.W.keepIn K (.ref x8) = true)
    {x9 : Addr} {od9 an9 : Option Addr} {sl9 : Array (Option Value)} {oc9 kV9 dc9 pm9 cd9 ct9 : Value}
    (a9 : PySem.W.nsIn K mainGlobals "_law_same" = some (some (.ref x9))) (l9 : K.lookup x9 = some ⟨oc9, od9, .func (PySem.W.fnOf "_law_same" "_law_same" (defArgs (topS 26)) (defBody (topS 26)) (defScope (topS 26)) .none kV9 dc9 pm9 an9 cd9 ct9), sl9⟩) (c9 : PySem.W.codeIn K cd9 "_law_same" = true) (k9 : PySem.W.keepIn K (.ref x9) = true)
    {x10 : Addr} {od10 an10 : Option Addr} {sl10 : Array (Option Value)} {oc10 kV10 dc10 pm10 cd10 ct10 : Value}
    (a10 : PySem.W.nsIn K mainGlobals "_law_fraction" = some (some (.ref x10))) (l10 : K.lookup x10 = some ⟨oc10, od10, .func (PySem.W.fnOf "_law_fraction" "_law_fraction" (defArgs (topS 28)) (defBody (topS 28)) (defScope (topS 28)) .none kV10 dc10 pm10 an10 cd10 ct10), sl10⟩) (c10 : PySem.W.codeIn K cd10 "_law_fraction" = true) (k10 : PySem.W.keepIn K (.ref x10) = true)
    {x11 : Addr} {od11 an11 : Option Addr} {sl11 : Array (Option Value)} {oc11 kV11 dc11 pm11 cd11 ct11 : Value}
    (a11 : PySem.W.nsIn K mainGlobals "_law_names" = some (some (.ref x11))) (l11 : K.lookup x11 = some ⟨oc11, od11, .func (PySem.W.fnOf "_law_names" "_law_names" (defArgs (topS 29)) (defBody (topS 29)) (defScope (topS 29)) .none kV11 dc11 pm11 an11 cd11 ct11), sl11⟩) (c11 : PySem.W.codeIn K cd11 "_law_names" = true) (k11 : PySem.W.keepIn K (.ref x11) = true)
    {x12 : Addr} {od12 an12 : Option Addr} {sl12 : Array (Option Value)} {oc12 kV12 dc12 pm12 cd12 ct12 : Value}
    (a12 : PySem.W.nsIn K mainGlobals "_law_round" = some (some (.ref x12))) (l12 : K.lookup x12 = some ⟨oc12, od12, .func (PySem.W.fnOf "_law_round" "_law_round" (defArgs (topS 30)) (defBody (topS 30)) (defScope (topS 30)) .none kV12 dc12 pm12 an12 cd12 ct12), sl12⟩) (c12 : PySem.W.codeIn K cd12 "_law_round" = true) (k12 : PySem.W.keepIn K (.ref x12) = true)
    {x13 : Addr} {od13 an13 : Option Addr} {sl13 : Array (Option Value)} {oc13 kV13 dc13 pm13 cd13 ct13 : Value}
    (a13 : PySem.W.nsIn K mainGlobals "fraction" = some (some (.ref x13))) (l13 : K.lookup x13 = some ⟨oc13, od13, .func (PySem.W.fnOf "fraction" "fraction" (defArgs (topS 5)) (defBody (topS 5)) (defScope (topS 5)) .none kV13 dc13 pm13 an13 cd13 ct13), sl13⟩) (c13 : PySem.W.codeIn K cd13 "fraction" = true) (k13 : PySem.W.keepIn K (.ref x13) = true)
    {x14 : Addr} {od14 an14 : Option Addr} {sl14 : Array (Option Value)} {oc14 kV14 dc14 pm14 cd14 ct14 : Value}
    (a14 : PySem.W.nsIn K mainGlobals "name_of" = some (some (.ref x14))) (l14 : K.lookup x14 = some ⟨oc14, od14, .func (PySem.W.fnOf "name_of" "name_of" (defArgs (topS 12)) (defBody (topS 12)) (defScope (topS 12)) .none kV14 dc14 pm14 an14 cd14 ct14), sl14⟩) (c14 : PySem.W.codeIn K cd14 "name_of" = true) (k14 : PySem.W.keepIn K (.ref x14) = true)
    {x15 : Addr} {od15 an15 : Option Addr} {sl15 : Array (Option Value)} {oc15 kV15 dc15 pm15 cd15 ct15 : Value}
    (a15 : PySem.W.nsIn K mainGlobals "halfway" = some (some (.ref x15))) (l15 : K.lookup x15 = some ⟨oc15, od15, .func (PySem.W.fnOf "halfway" "halfway" (defArgs (topS 17)) (defBody (topS 17)) (defScope (topS 17)) .none kV15 dc15 pm15 an15 cd15 ct15), sl15⟩) (c15 : PySem.W.codeIn K cd15 "halfway" = true) (k15 : PySem.W.keepIn K (.ref x15) = true)
    {x16 : Addr} {od16 an16 : Option Addr} {sl16 : Array (Option Value)} {oc16 kV16 dc16 pm16 cd16 ct16 : Value}
    (a16 : PySem.W.nsIn K mainGlobals "can_sail" = some (some (.ref x16))) (l16 : K.lookup x16 = some ⟨oc16, od16, .func (PySem.W.fnOf "can_sail" "can_sail" (defArgs (topS 20)) (defBody (topS 20)) (defScope (topS 20)) .none kV16 dc16 pm16 an16 cd16 ct16), sl16⟩) (c16 : PySem.W.codeIn K cd16 "can_sail" = true) (k16 : PySem.W.keepIn K (.ref x16) = true)
    {x17 : Addr} {od17 an17 : Option Addr} {sl17 : Array (Option Value)} {oc17 kV17 dc17 pm17 cd17 ct17 : Value}
    (a17 : PySem.W.nsIn K mainGlobals "points_between" = some (some (.ref x17))) (l17 : K.lookup x17 = some ⟨oc17, od17, .func (PySem.W.fnOf "points_between" "points_between" (defArgs (topS 22)) (defBody (topS 22)) (defScope (topS 22)) .none kV17 dc17 pm17 an17 cd17 ct17), sl17⟩) (c17 : PySem.W.codeIn K cd17 "points_between" = true) (k17 : PySem.W.keepIn K (.ref x17) = true)
    {x18 : Addr} {od18 an18 : Option Addr} {sl18 : Array (Option Value)} {oc18 kV18 dc18 pm18 cd18 ct18 : Value}
    (a18 : PySem.W.nsIn K mainGlobals "_law_pick" = some (some (.ref x18))) (l18 : K.lookup x18 = some ⟨oc18, od18, .func (PySem.W.fnOf "_law_pick" "_law_pick" (defArgs (topS 27)) (defBody (topS 27)) (defScope (topS 27)) .none kV18 dc18 pm18 an18 cd18 ct18), sl18⟩) (c18 : PySem.W.codeIn K cd18 "_law_pick" = true) (k18 : PySem.W.keepIn K (.ref x18) = true)
    {x19 : Addr} {od19 an19 : Option Addr} {sl19 : Array (Option Value)} {oc19 kV19 dc19 pm19 cd19 ct19 : Value}
    (a19 : PySem.W.nsIn K mainGlobals "_law_turn" = some (some (.ref x19))) (l19 : K.lookup x19 = some ⟨oc19, od19, .func (PySem.W.fnOf "_law_turn" "_law_turn" (defArgs (topS 31)) (defBody (topS 31)) (defScope (topS 31)) .none kV19 dc19 pm19 an19 cd19 ct19), sl19⟩) (c19 : PySem.W.codeIn K cd19 "_law_turn" = true) (k19 : PySem.W.keepIn K (.ref x19) = true)
    {x20 : Addr} {od20 an20 : Option Addr} {sl20 : Array (Option Value)} {oc20 kV20 dc20 pm20 cd20 ct20 : Value}
    (a20 : PySem.W.nsIn K mainGlobals "all_names" = some (some (.ref x20))) (l20 : K.lookup x20 = some ⟨oc20, od20, .func (PySem.W.fnOf "all_names" "all_names" (defArgs (topS 13)) (defBody (topS 13)) (defScope (topS 13)) .none kV20 dc20 pm20 an20 cd20 ct20), sl20⟩) (c20 : PySem.W.codeIn K cd20 "all_names" = true) (k20 : PySem.W.keepIn K (.ref x20) = true)
    {x21 : Addr} {od21 an21 : Option Addr} {sl21 : Array (Option Value)} {oc21 kV21 dc21 pm21 cd21 ct21 : Value}
    (a21 : PySem.W.nsIn K mainGlobals "in_degrees" = some (some (.ref x21))) (l21 : K.lookup x21 = some ⟨oc21, od21, .func (PySem.W.fnOf "in_degrees" "in_degrees" (defArgs (topS 18)) (defBody (topS 18)) (defScope (topS 18)) .none kV21 dc21 pm21 an21 cd21 ct21), sl21⟩) (c21 : PySem.W.codeIn K cd21 "in_degrees" = true) (k21 : PySem.W.keepIn K (.ref x21) = true)
    {x22 : Addr} {od22 an22 : Option Addr} {sl22 : Array (Option Value)} {oc22 kV22 dc22 pm22 cd22 ct22 : Value}
    (a22 : PySem.W.nsIn K mainGlobals "tacks_for" = some (some (.ref x22))) (l22 : K.lookup x22 = some ⟨oc22, od22, .func (PySem.W.fnOf "tacks_for" "tacks_for" (defArgs (topS 21)) (defBody (topS 21)) (defScope (topS 21)) .none kV22 dc22 pm22 an22 cd22 ct22), sl22⟩) (c22 : PySem.W.codeIn K cd22 "tacks_for" = true) (k22 : PySem.W.keepIn K (.ref x22) = true)
    {x23 : Addr} {od23 an23 : Option Addr} {sl23 : Array (Option Value)} {oc23 kV23 dc23 pm23 cd23 ct23 : Value}
    (a23 : PySem.W.nsIn K mainGlobals "point_of" = some (some (.ref x23))) (l23 : K.lookup x23 = some ⟨oc23, od23, .func (PySem.W.fnOf "point_of" "point_of" (defArgs (topS 14)) (defBody (topS 14)) (defScope (topS 14)) .none kV23 dc23 pm23 an23 cd23 ct23), sl23⟩) (c23 : PySem.W.codeIn K cd23 "point_of" = true) (k23 : PySem.W.keepIn K (.ref x23) = true)
    {x24 : Addr} {od24 an24 : Option Addr} {sl24 : Array (Option Value)} {oc24 kV24 dc24 pm24 cd24 ct24 : Value}
    (a24 : PySem.W.nsIn K mainGlobals "_law_said" = some (some (.ref x24))) (l24 : K.lookup x24 = some ⟨oc24, od24, .func (PySem.W.fnOf "_law_said" "_law_said" (defArgs (topS 32)) (defBody (topS 32)) (defScope (topS 32)) .none kV24 dc24 pm24 an24 cd24 ct24), sl24⟩) (c24 : PySem.W.codeIn K cd24 "_law_said" = true) (k24 : PySem.W.keepIn K (.ref x24) = true)
    {x25 : Addr} {od25 an25 : Option Addr} {sl25 : Array (Option Value)} {oc25 kV25 dc25 pm25 cd25 ct25 : Value}
    (a25 : PySem.W.nsIn K mainGlobals "law" = some (some (.ref x25))) (l25 : K.lookup x25 = some ⟨oc25, od25, .func (PySem.W.fnOf "law" "law" (defArgs (topS 33)) (defBody (topS 33)) (defScope (topS 33)) .none kV25 dc25 pm25 an25 cd25 ct25), sl25⟩) (c25 : PySem.W.codeIn K cd25 "law" = true) (k25 : PySem.W.keepIn K (.ref x25) = true)
    {q_FOUR : Addr} {dd_FOUR : Option Addr} {n_FOUR : Nat} {sl_FOUR : Array (Option Value)} {t_FOUR_0 t_FOUR_1 t_FOUR_2 t_FOUR_3 : Tok} (ca_FOUR : PySem.W.nsIn K mainGlobals "FOUR" = some (some (.ref q_FOUR))) (cl_FOUR : K.lookup q_FOUR = some ⟨.type "tuple", dd_FOUR, .seq [.str "ne" t_FOUR_0, .str "se" t_FOUR_1, .str "sw" t_FOUR_2, .str "nw" t_FOUR_3].toArray n_FOUR, sl_FOUR⟩)
    {q_MAIN : Addr} {dd_MAIN : Option Addr} {n_MAIN : Nat} {sl_MAIN : Array (Option Value)} {t_MAIN_0 t_MAIN_1 t_MAIN_2 t_MAIN_3 : Tok} (ca_MAIN : PySem.W.nsIn K mainGlobals "MAIN" = some (some (.ref q_MAIN))) (cl_MAIN : K.lookup q_MAIN = some ⟨.type "tuple", dd_MAIN, .seq [.str "n" t_MAIN_0, .str "e" t_MAIN_1, .str "s" t_MAIN_2, .str "w" t_MAIN_3].toArray n_MAIN, sl_MAIN⟩)
    {xB : Addr} (gB : PySem.W.nsIn K mainGlobals "TideError" = some (some (.ref xB))) (sB : PySem.W.specialIn K (.ref xB) "__getattribute__" = some (some (.builtin "type.__getattribute__"))) (rB : PySem.W.readsIn K xB (.type "type") = true) (fB : PySem.W.findCls K (.ref xB) (.type "type") "__init__" = some (.val (.builtin "ValueError.__init__")))
    {xC_BadText xI_BadText : Addr} {nm_BadText qn_BadText : Str} {Nn_BadText : Addr} {bs_BadText : List Value} {sn_BadText : List Str} {sub_BadText : List Value} {ab_BadText : Bool} {col_BadText : Option Bool} {dd_BadText : Option Addr} {m0_BadText m1_BadText m2_BadText m3_BadText m5_BadText : Option Value}
    {od_BadText an_BadText : Option Addr} {sl_BadText : Array (Option Value)} {oc_BadText kV_BadText dc_BadText pm_BadText cd_BadText ct_BadText : Value}
    (aC_BadText : PySem.W.nsIn K mainGlobals "BadText" = some (some (.ref xC_BadText))) (xL_BadText : K.lookup xC_BadText = some (excClassObj nm_BadText qn_BadText xC_BadText Nn_BadText bs_BadText [.ref xB, .type "ValueError", .type "Exception", .type "BaseException", .type "object"] true sn_BadText sub_BadText ab_BadText col_BadText dd_BadText m0_BadText m1_BadText m2_BadText m3_BadText m5_BadText "ValueError.__new__"))
    (sa_BadText : PySem.W.findIn K (.ref xC_BadText) "__setattr__" = some (some (.builtin "object.__setattr__"))) (ga_BadText : PySem.W.findIn K (.ref xC_BadText) "__getattribute__" = some (some (.builtin "BaseException.__getattribute__"))) (gg_BadText : PySem.W.findIn K (.ref xC_BadText) "__getattr__" = some none) (nb_BadText : PySem.W.findIn K (.ref xC_BadText) "place" = some none)
    (ia_BadText : PySem.W.findIn K (.ref xC_BadText) "__init__" = some (some (.ref xI_BadText))) (it_BadText : PySem.W.typeIn K (.ref xI_BadText) = some (.type "function")) (il_BadText : K.lookup xI_BadText = some ⟨oc_BadText, od_BadText, .func (PySem.W.fnOf "__init__" "BadText.__init__" (defArgs (stI 2)) (defBody (stI 2)) (defScope (stI 2)) .none kV_BadText dc_BadText pm_BadText an_BadText cd_BadText ct_BadText), sl_BadText⟩) (ic_BadText : PySem.W.codeIn K cd_BadText "BadText.__init__" = true) (ik_BadText : PySem.W.keepIn K (.ref xI_BadText) = true)
    (kC_BadText : PySem.W.keepIn K (.ref xC_BadText) = true) (eC_BadText : PySem.W.subIn K (.ref xC_BadText) (.type "BaseException") = some true) (tC_BadText : PySem.W.typeIn K (.ref xC_BadText) = some (.type "type")) (hC_BadText : PySem.W.hasDictIn K xC_BadText = true) (sC_BadText : PySem.W.subIn K (.ref xC_BadText) (.ref xC_BadText) = some true) (ki_BadText : PySem.W.kitOne K (.ref xC_BadText) (.ref xB) = some true) (ne_BadText : (xC_BadText == xB) = false)
    (z_abs : PySem.W.nsIn K mainGlobals "abs" = some none)
    (z_any : PySem.W.nsIn K mainGlobals "any" = some none)
    (z_bool : PySem.W.nsIn K mainGlobals "bool" = some none)
    (z_dict : PySem.W.nsIn K mainGlobals "dict" = some none)
    (z_int : PySem.W.nsIn K mainGlobals "int" = some none)
    (z_isinstance : PySem.W.nsIn K mainGlobals "isinstance" = some none)
    (z_len : PySem.W.nsIn K mainGlobals "len" = some none)
    (z_list : PySem.W.nsIn K mainGlobals "list" = some none)
    (z_max : PySem.W.nsIn K mainGlobals "max" = some none)
    (z_min : PySem.W.nsIn K mainGlobals "min" = some none)
    (z_range : PySem.W.nsIn K mainGlobals "range" = some none)
    (z_str : PySem.W.nsIn K mainGlobals "str" = some none)
    (z_tuple : PySem.W.nsIn K mainGlobals "tuple" = some none)
    : ∃ fd : FuncData, (∀ (s : Shared) (v : Value), BindsTo s fd ⟨[v], []⟩ [("script", v)]) ∧ ∀ base : Heap, K.In base → base.Ns mainGlobals mg → FnOk l.prog w K mg base CX0 6 fa fd p25 (spLaw K w m_law) := by
  have e := hfa.symm.trans (PySem.W.mg_of X G a25)
  cases e
  have F0 := fun_mk (st := topS 4) l0 c0 k0
  have b0 := F0.binds (ps := p0) fun _ _ _ _ _ _ us hl => match us, hl with | [_, _], _ => rfl
  have F1 := fun_mk (st := topS 9) l1 c1 k1
  have b1 := F1.binds (ps := p1) fun _ _ _ _ _ _ us hl => match us, hl with | [_], _ => rfl
  have F2 := fun_mk (st := topS 10) l2 c2 k2
  have b2 := F2.binds (ps := p2) fun _ _ _ _ _ _ us hl => match us, hl with | [_], _ => rfl
  have F3 := fun_mk (st := topS 11) l3 c3 k3
  have b3 := F3.binds (ps := p3) fun _ _ _ _ _ _ us hl => match us, hl with | [_, _], _ => rfl
  have F4 := fun_mk (st := topS 15) l4 c4 k4
  have b4 := F4.binds (ps := p4) fun _ _ _ _ _ _ us hl => match us, hl with | [_], _ => rfl
  have F5 := fun_mk (st := topS 16) l5 c5 k5
  have b5 := F5.binds (ps := p5) fun _ _ _ _ _ _ us hl => match us, hl with | [_, _], _ => rfl
  have F6 := fun_mk (st := topS 19) l6 c6 k6
  have b6 := F6.binds (ps := p6) fun _ _ _ _ _ _ us hl => match us, hl with | [_], _ => rfl
  have F7 := fun_mk (st := topS 24) l7 c7 k7
  have b7 := F7.binds (ps := p7) fun _ _ _ _ _ _ us hl => match us, hl with | [_, _], _ => rfl
  have F8 := fun_mk (st := topS 25) l8 c8 k8
  have b8 := F8.binds (ps := p8) fun _ _ _ _ _ _ us hl => match us, hl with | [_, _], _ => rfl
  have F9 := fun_mk (st := topS 26) l9 c9 k9
  have b9 := F9.binds (ps := p9) fun _ _ _ _ _ _ us hl => match us, hl with | [_, _], _ => rfl
  have F10 := fun_mk (st := topS 28) l10 c10 k10
  have b10 := F10.binds (ps := p10) fun _ _ _ _ _ _ us hl => match us, hl with | [_, _], _ => rfl
  have F11 := fun_mk (st := topS 29) l11 c11 k11
  have b11 := F11.binds (ps := p11) fun _ _ _ _ _ _ us hl => match us, hl with | [], _ => rfl
  have F12 := fun_mk (st := topS 30) l12 c12 k12
  have b12 := F12.binds (ps := p12) fun _ _ _ _ _ _ us hl => match us, hl with | [_], _ => rfl
  have F13 := fun_mk (st := topS 5) l13 c13 k13
  have b13 := F13.binds (ps := p13) fun _ _ _ _ _ _ us hl => match us, hl with | [_, _], _ => rfl
  have F14 := fun_mk (st := topS 12) l14 c14 k14
  have b14 := F14.binds (ps := p14) fun _ _ _ _ _ _ us hl => match us, hl with | [_], _ => rfl
  have F15 := fun_mk (st := topS 17) l15 c15 k15
  have b15 := F15.binds (ps := p15) fun _ _ _ _ _ _ us hl => match us, hl with | [_, _], _ => rfl
  have F16 := fun_mk (st := topS 20) l16 c16 k16
  have b16 := F16.binds (ps := p16) fun _ _ _ _ _ _ us hl => match us, hl with | [_, _, _], _ => rfl
  have F17 := fun_mk (st := topS 22) l17 c17 k17
  have b17 := F17.binds (ps := p17) fun _ _ _ _ _ _ us hl => match us, hl with | [_, _], _ => rfl
  have F18 := fun_mk (st := topS 27) l18 c18 k18
  have b18 := F18.binds (ps := p18) fun _ _ _ _ _ _ us hl => match us, hl with | [_, _], _ => rfl
  have F19 := fun_mk (st := topS 31) l19 c19 k19
  have b19 := F19.binds (ps := p19) fun _ _ _ _ _ _ us hl => match us, hl with | [_, _], _ => rfl
  have F20 := fun_mk (st := topS 13) l20 c20 k20
  have b20 := F20.binds (ps := p20) fun _ _ _ _ _ _ us hl => match us, hl with | [], _ => rfl
  have F21 := fun_mk (st := topS 18) l21 c21 k21
  have b21 := F21.binds (ps := p21) fun _ _ _ _ _ _ us hl => match us, hl with | [_], _ => rfl
  have F22 := fun_mk (st := topS 21) l22 c22 k22
  have b22 := F22.binds (ps := p22) fun _ _ _ _ _ _ us hl => match us, hl with | [_, _, _], _ => rfl
  have F23 := fun_mk (st := topS 14) l23 c23 k23
  have b23 := F23.binds (ps := p23) fun _ _ _ _ _ _ us hl => match us, hl with | [_], _ => rfl
  have F24 := fun_mk (st := topS 32) l24 c24 k24
  have b24 := F24.binds (ps := p24) fun _ _ _ _ _ _ us hl => match us, hl with | [_], _ => rfl
  have F25 := fun_mk (st := topS 33) l25 c25 k25
  have b25 := F25.binds (ps := p25) fun _ _ _ _ _ _ us hl => match us, hl with | [_], _ => rfl
  have FI_BadText := fun_mk (st := stI 2) il_BadText ic_BadText ik_BadText
  have bI_BadText := FI_BadText.binds (ps := ["self", "place"]) fun _ _ _ _ _ _ us hl => match us, hl with | [_, _], _ => rfl
  exact ⟨PySem.W.fnOf "law" "law" (defArgs (topS 33)) (defBody (topS 33)) (defScope (topS 33)) .none kV25 dc25 pm25 an25 cd25 ct25, fun s v => .of_eq rfl, fun base _ _ => ok_law ⟨x0, _, F0, (PySem.W.mg_of X G a0), b0, x1, _, F1, (PySem.W.mg_of X G a1), b1, x2, _, F2, (PySem.W.mg_of X G a2), b2, x3, _, F3, (PySem.W.mg_of X G a3), b3, x4, _, F4, (PySem.W.mg_of X G a4), b4, x5, _, F5, (PySem.W.mg_of X G a5), b5, x6, _, F6, (PySem.W.mg_of X G a6), b6, x7, _, F7, (PySem.W.mg_of X G a7), b7, x8, _, F8, (PySem.W.mg_of X G a8), b8, x9, _, F9, (PySem.W.mg_of X G a9), b9, x10, _, F10, (PySem.W.mg_of X G a10), b10, x11, _, F11, (PySem.W.mg_of X G a11), b11, x12, _, F12, (PySem.W.mg_of X G a12), b12, x13, _, F13, (PySem.W.mg_of X G a13), b13, x14, _, F14, (PySem.W.mg_of X G a14), b14, x15, _, F15, (PySem.W.mg_of X G a15), b15, x16, _, F16, (PySem.W.mg_of X G a16), b16, x17, _, F17, (PySem.W.mg_of X G a17), b17, x18, _, F18, (PySem.W.mg_of X G a18), b18, x19, _, F19, (PySem.W.mg_of X G a19), b19, x20, _, F20, (PySem.W.mg_of X G a20), b20, x21, _, F21, (PySem.W.mg_of X G a21), b21, x22, _, F22, (PySem.W.mg_of X G a22), b22, x23, _, F23, (PySem.W.mg_of X G a23), b23, x24, _, F24, (PySem.W.mg_of X G a24), b24, fa, _, F25, (PySem.W.mg_of X G a25), b25, xB, ⟨PySem.W.mg_of X G gB, sB, rB, fB⟩, xC_BadText, xI_BadText, _, ⟨PySem.W.mg_of X G aC_BadText, ⟨⟨nm_BadText, qn_BadText, Nn_BadText, bs_BadText, _, sn_BadText, sub_BadText, ab_BadText, col_BadText, dd_BadText, m0_BadText, m1_BadText, m2_BadText, m3_BadText, m5_BadText, xL_BadText, rfl⟩, sa_BadText, eC_BadText, tC_BadText, kC_BadText⟩, ⟨ga_BadText, gg_BadText, eC_BadText, hC_BadText⟩, nb_BadText, ia_BadText, it_BadText, PySem.W.exm_ref eC_BadText hC_BadText tC_BadText sC_BadText⟩, FI_BadText, bI_BadText, (kit_of ki_BadText (by simpa using ne_BadText)), (by simpa using ne_BadText), (PySem.W.mg_none_of X G z_abs), (PySem.W.mg_none_of X G z_any), (PySem.W.mg_none_of X G z_bool), (PySem.W.mg_none_of X G z_dict), (PySem.W.mg_none_of X G z_int), (PySem.W.mg_none_of X G z_isinstance), (PySem.W.mg_none_of X G z_len), (PySem.W.mg_none_of X G z_list), (PySem.W.mg_none_of X G z_max), (PySem.W.mg_none_of X G z_min), (PySem.W.mg_none_of X G z_range), (PySem.W.mg_none_of X G z_str), (PySem.W.mg_none_of X G z_tuple), (glob_tup (vs := [.str "ne", .str "se", .str "sw", .str "nw"]) X G ca_FOUR cl_FOUR (Nat.le_of_ble_eq_true rfl) (.cons ⟨_, rfl⟩ (.cons ⟨_, rfl⟩ (.cons ⟨_, rfl⟩ (.cons ⟨_, rfl⟩ Paired.nil)))) (fun _ _ => (.cons (.str _) (.cons (.str _) (.cons (.str _) (.cons (.str _) Reps.nil)))))), (glob_tup (vs := [.str "n", .str "e", .str "s", .str "w"]) X G ca_MAIN cl_MAIN (Nat.le_of_ble_eq_true rfl) (.cons ⟨_, rfl⟩ (.cons ⟨_, rfl⟩ (.cons ⟨_, rfl⟩ (.cons ⟨_, rfl⟩ Paired.nil)))) (fun _ _ => (.cons (.str _) (.cons (.str _) (.cons (.str _) (.cons (.str _) Reps.nil))))))⟩⟩
end K42
open PySem PySem.W PyProof.Rows
set_option maxHeartbeats 0 in
theorem PySem.Challenge.cw_tidestold_k42_whole_points_of_the_compas_holds : PySem.Challenge.rw_tidestold_k42_whole_points_of_the_compas.Holds := by
  w_on; o_law; k_head; (case hw => w_witness2)
  k_fill
  refine L2.walk_of (l := PySem.Challenge.rw_tidestold_k42_whole_points_of_the_compas) (n := 63) (k := 6) (x := "script") (CX := fun _ => L2.CX0) (sp := fun w => TT.spLaw _ w K42.m_law) rfl (by decide) rfl ⟨rfl, by decide, by decide⟩ (fun w h Y => PySem.W.kIn_of Y) ?F (fun _ _ a ns hl o hS => TT.spLaw_true o hS (K42.law_true ns hl)) (fun _ _ _ _ _ h => h)
  case F =>
    intro w mg fa h KX G hmg
    refine' K42.all_mk KX G hmg ?a0 ?l0 ?c0 ?k0 ?a1 ?l1 ?c1 ?k1 ?a2 ?l2 ?c2 ?k2 ?a3 ?l3 ?c3 ?k3 ?a4 ?l4 ?c4 ?k4 ?a5 ?l5 ?c5 ?k5 ?a6 ?l6 ?c6 ?k6 ?a7 ?l7 ?c7 ?k7 ?a8 ?l8 ?c8 ?k8 ?a9 ?l9 ?c9 ?k9 ?a10 ?l10 ?c10 ?k10 ?a11 ?l11 ?c11 ?k11 ?a12 ?l12 ?c12 ?k12 ?a13 ?l13 ?c13 ?k13 ?a14 ?l14 ?c14 ?k14 ?a15 ?l15 ?c15 ?k15 ?a16 ?l16 ?c16 ?k16 ?a17 ?l17 ?c17 ?k17 ?a18 ?l18 ?c18 ?k18 ?a19 ?l19 ?c19 ?k19 ?a20 ?l20 ?c20 ?k20 ?a21 ?l21 ?c21 ?k21 ?a22 ?l22 ?c22 ?k22 ?a23 ?l23 ?c23 ?k23 ?a24 ?l24 ?c24 ?k24 ?a25 ?l25 ?c25 ?k25 ?ca_FOUR ?cl_FOUR ?ca_MAIN ?cl_MAIN ?gB ?sB ?rB ?fB ?aC_BadText ?xL_BadText ?sa_BadText ?ga_BadText ?gg_BadText ?nb_BadText ?ia_BadText ?it_BadText ?il_BadText ?ic_BadText ?ik_BadText ?kC_BadText ?eC_BadText ?tC_BadText ?hC_BadText ?sC_BadText ?ki_BadText ?ne_BadText ?z_abs ?z_any ?z_bool ?z_dict ?z_int ?z_isinstance ?z_len ?z_list ?z_max ?z_min ?z_range ?z_str ?z_tuple
    (case a0 => k_is)
    (case l0 => k_is)
    (case c0 => k_is)
    (case k0 => k_is)
    (case a1 => k_is)
    (case l1 => k_is)
    (case c1 => k_is)
    (case k1 => k_is)
    (case a2 => k_is)
    (case l2 => k_is)
    (case c2 => k_is)
    (case k2 => k_is)
    (case a3 => k_is)
    (case l3 => k_is)
    (case c3 => k_is)
    (case k3 => k_is)
    (case a4 => k_is)
    (case l4 => k_is)
    (case c4 => k_is)
    (case k4 => k_is)
    (case a5 => k_is)
    (case l5 => k_is)
    (case c5 => k_is)
    (case k5 => k_is)
    (case a6 => k_is)
    (case l6 => k_is)
    (case c6 => k_is)
    (case k6 => k_is)
    (case a7 => k_is)
    (case l7 => k_is)
    (case c7 => k_is)
    (case k7 => k_is)
    (case a8 => k_is)
    (case l8 => k_is)
    (case c8 => k_is)
    (case k8 => k_is)
    (case a9 => k_is)
    (case l9 => k_is)
    (case c9 => k_is)
    (case k9 => k_is)
    (case a10 => k_is)
    (case l10 => k_is)
    (case c10 => k_is)
    (case k10 => k_is)
    (case a11 => k_is)
    (case l11 => k_is)
    (case c11 => k_is)
    (case k11 => k_is)
    (case a12 => k_is)
    (case l12 => k_is)
    (case c12 => k_is)
    (case k12 => k_is)
    (case a13 => k_is)
    (case l13 => k_is)
    (case c13 => k_is)
    (case k13 => k_is)
    (case a14 => k_is)
    (case l14 => k_is)
    (case c14 => k_is)
    (case k14 => k_is)
    (case a15 => k_is)
    (case l15 => k_is)
    (case c15 => k_is)
    (case k15 => k_is)
    (case a16 => k_is)
    (case l16 => k_is)
    (case c16 => k_is)
    (case k16 => k_is)
    (case a17 => k_is)
    (case l17 => k_is)
    (case c17 => k_is)
    (case k17 => k_is)
    (case a18 => k_is)
    (case l18 => k_is)
    (case c18 => k_is)
    (case k18 => k_is)
    (case a19 => k_is)
    (case l19 => k_is)
    (case c19 => k_is)
    (case k19 => k_is)
    (case a20 => k_is)
    (case l20 => k_is)
    (case c20 => k_is)
    (case k20 => k_is)
    (case a21 => k_is)
    (case l21 => k_is)
    (case c21 => k_is)
    (case k21 => k_is)
    (case a22 => k_is)
    (case l22 => k_is)
    (case c22 => k_is)
    (case k22 => k_is)
    (case a23 => k_is)
    (case l23 => k_is)
    (case c23 => k_is)
    (case k23 => k_is)
    (case a24 => k_is)
    (case l24 => k_is)
    (case c24 => k_is)
    (case k24 => k_is)
    (case a25 => k_is)
    (case l25 => k_is)
    (case c25 => k_is)
    (case k25 => k_is)
    (case ca_FOUR => k_is)
    (case cl_FOUR => k_is)
    (case ca_MAIN => k_is)
    (case cl_MAIN => k_is)
    (case gB => k_is)
    (case sB => k_is)
    (case rB => k_is)
    (case fB => k_is)
    (case aC_BadText => k_is)
    (case xL_BadText => k_is)
    (case sa_BadText => k_is)
    (case ga_BadText => k_is)
    (case gg_BadText => k_is)
    (case nb_BadText => k_is)
    (case ia_BadText => k_is)
    (case it_BadText => k_is)
    (case il_BadText => k_is)
    (case ic_BadText => k_is)
    (case ik_BadText => k_is)
    (case kC_BadText => k_is)
    (case eC_BadText => k_is)
    (case tC_BadText => k_is)
    (case hC_BadText => k_is)
    (case sC_BadText => k_is)
    (case ki_BadText => kit_is)
    (case ne_BadText => exact rfl)
    (case z_abs => k_is)
    (case z_any => k_is)
    (case z_bool => k_is)
    (case z_dict => k_is)
    (case z_int => k_is)
    (case z_isinstance => k_is)
    (case z_len => k_is)
    (case z_list => k_is)
    (case z_max => k_is)
    (case z_min => k_is)
    (case z_range => k_is)
    (case z_str => k_is)
    (case z_tuple => k_is)

