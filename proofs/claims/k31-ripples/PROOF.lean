import PyProof.Rows.All
import Wide.All
import OpenK.AllK
import Wide.FinOn
import HandS.ForMost
import HandS.TupAny
import HandS.TupMul
import HandS.WordsExc
import HandS.ExcInit
import HandS.CallSlots
import KE.SortData
import KE.DataFind
import KE.DataIsa
import KE.DataAny
import KE.DatumIndex
import KE.KDictKeyed
import HandS.Wide
import HandS.Style
import HandS.Zip
import PySem.Challenge.RW_tidestold_k31_whole_ripples
set_option Elab.async false
set_option linter.all false
set_option autoImplicit false
set_option maxRecDepth 100000
set_option maxHeartbeats 0
/-! A typed layer over the hand layer: values as data, judgements that carry a typed mirror. -/
namespace TT
open PySem PySem.Spec PyProof.Rows L2

/-! ### data held by a value -/
/-- a list that nobody writes any more -/
def FzL (K : PySem.W.Frag) (H : Hp) (a : Addr) (vs : List V) : Prop := ∃ o, H a = some (.frz o (.lst vs))
theorem FzL.sq {K : PySem.W.Frag} {H : Hp} {a : Addr} {vs : List V} (h : FzL K H a vs) : SqL K H a vs := .inl (.inr h)
/-! a key as data -/
mutual
def nkOf : PyData → Option NestedKey
  | .none => some .none
  | .bool b => some (.num (if b = true then 1 else 0))
  | .int i => some (.num i)
  | .str x => some (.text x)
  | .tuple xs => (nksOf xs).map .tup
  | .list _ => none
  | .dict _ => none
def nksOf : List PyData → Option (List NestedKey)
  | [] => some []
  | x :: xs => match nkOf x, nksOf xs with
    | some k, some ks => some (k :: ks)
    | _, _ => none
end
/-- a dict's object, entry by entry -/
def DObj (w : World) (o : Obj) (ents : List (NestedKey × V × V)) : Prop :=
  o.ExactDict ∧ (∃ es n, o.data = .dict es n ∧ Paired (fun (e : DictEntry) (x : NestedKey × V × V) => e.hash = x.1.hash w ∧ RelV x.2.1 e.key ∧ RelV x.2.2 e.val) es.toList ents) ∧ (ents.map (·.1)).Nodup

mutual
inductive Rep (K : PySem.W.Frag) (w : World) (H : Hp) : V → PyData → Prop
  | non : Rep K w H .non .none
  | bl (b : Bool) : Rep K w H (.bl b) (.bool b)
  | int (i : Int) : Rep K w H (.int i) (.int i)
  | str (x : Str) : Rep K w H (.str x) (.str x)
  | tup {a vs ds} : SqT K H a vs → Reps K w H vs ds → Rep K w H (.ref a) (.tuple ds)
  | lst {a vs ds} : FzL K H a vs → Reps K w H vs ds → Rep K w H (.ref a) (.list ds)
  | dct {a o u ents kvs} : H a = some (.frz o u) → (a == sysModules) = false → DObj w o ents → kvs.map (fun p => nkOf p.1) = ents.map (fun x => some x.1) →
      Reps K w H (ents.map (fun x => x.2.1)) (kvs.map (·.1)) → Reps K w H (ents.map (fun x => x.2.2)) (kvs.map (·.2)) → Rep K w H (.ref a) (.dict kvs)
inductive Reps (K : PySem.W.Frag) (w : World) (H : Hp) : List V → List PyData → Prop
  | nil : Reps K w H [] []
  | cons {v d vs ds} : Rep K w H v d → Reps K w H vs ds → Reps K w H (v :: vs) (d :: ds)
end

/-- what stands for good: tuples and what is locked -/
def Firm : HO → Prop
  | .tup _ => True
  | .frz _ _ => True
  | _ => False
/-- a heap's firm things are in another one -/
def Firms (H H' : Hp) : Prop := ∀ b o, H b = some o → Firm o → H' b = some o
theorem SqT.firm {K : PySem.W.Frag} {H H' : Hp} {a : Addr} {vs : List V} (f : Firms H H') (h : SqT K H a vs) : SqT K H' a vs := by
  rcases h with (h | ⟨o, h⟩) | h
  · exact .inl (.inl (f _ _ h trivial))
  · exact .inl (.inr ⟨o, f _ _ h trivial⟩)
  · exact .inr h
theorem FzL.firm {K : PySem.W.Frag} {H H' : Hp} {a : Addr} {vs : List V} (f : Firms H H') (h : FzL K H a vs) : FzL K H' a vs := by
  obtain ⟨o, h⟩ := h
  exact ⟨o, f _ _ h trivial⟩
section
variable {K : PySem.W.Frag} {w : World} {H H' : Hp}
mutual
theorem Rep.firm (f : Firms H H') : ∀ {v d}, Rep K w H v d → Rep K w H' v d
  | _, _, .non => .non
  | _, _, .bl b => .bl b
  | _, _, .int i => .int i
  | _, _, .str x => .str x
  | _, _, .tup h r => .tup (SqT.firm f h) (Reps.firm f r)
  | _, _, .lst h r => .lst (FzL.firm f h) (Reps.firm f r)
  | _, _, .dct h h1 h2 h3 r1 r2 => .dct (f _ _ h trivial) h1 h2 h3 (Reps.firm f r1) (Reps.firm f r2)
theorem Reps.firm (f : Firms H H') : ∀ {vs ds}, Reps K w H vs ds → Reps K w H' vs ds
  | _, _, .nil => .nil
  | _, _, .cons r t => .cons (Rep.firm f r) (Reps.firm f t)
end
theorem Reps.length : ∀ {vs ds}, Reps K w H vs ds → vs.length = ds.length
  | _, _, .nil => rfl
  | _, _, .cons _ t => by rw [List.length_cons, List.length_cons, Reps.length t]
theorem Reps.get : ∀ {vs ds} {i : Nat} {d : PyData}, Reps K w H vs ds → ds[i]? = some d → ∃ v, vs[i]? = some v ∧ Rep K w H v d
  | _, _, _, _, .nil, e => by simp at e
  | _, _, 0, _, .cons r _, e => by simp at e; subst e; exact ⟨_, rfl, r⟩
  | _, _, i + 1, _, .cons _ t, e => by
    obtain ⟨v, h1, h2⟩ := Reps.get (i := i) t (by simpa using e)
    exact ⟨v, by simpa using h1, h2⟩
theorem Reps.getV : ∀ {vs ds} {i : Nat} {v : V}, Reps K w H vs ds → vs[i]? = some v → ∃ d, ds[i]? = some d ∧ Rep K w H v d
  | _, _, _, _, .nil, e => by simp at e
  | _, _, 0, _, .cons r _, e => by simp at e; subst e; exact ⟨_, rfl, r⟩
  | _, _, i + 1, _, .cons _ t, e => by
    obtain ⟨d, h1, h2⟩ := Reps.getV (i := i) t (by simpa using e)
    exact ⟨d, by simpa using h1, h2⟩
theorem Reps.append : ∀ {vs ws : List V} {ds es : List PyData}, Reps K w H vs ds → Reps K w H ws es → Reps K w H (vs ++ ws) (ds ++ es)
  | _, _, _, _, .nil, s => s
  | _, _, _, _, .cons r t, s => .cons r (Reps.append t s)
theorem Reps.take : ∀ {vs : List V} {ds : List PyData} (n : Nat), Reps K w H vs ds → Reps K w H (vs.take n) (ds.take n)
  | _, _, 0, _ => .nil
  | _, _, _ + 1, .nil => .nil
  | _, _, n + 1, .cons r t => .cons r (Reps.take n t)
theorem Reps.drop : ∀ {vs : List V} {ds : List PyData} (n : Nat), Reps K w H vs ds → Reps K w H (vs.drop n) (ds.drop n)
  | _, _, 0, r => r
  | _, _, _ + 1, .nil => .nil
  | _, _, n + 1, .cons _ t => Reps.drop n t
theorem Reps.set {v : V} {d : PyData} (r : Rep K w H v d) : ∀ {vs : List V} {ds : List PyData} (i : Nat), Reps K w H vs ds → Reps K w H (vs.set i v) (ds.set i d)
  | _, _, _, .nil => .nil
  | _, _, 0, .cons _ t => .cons r t
  | _, _, i + 1, .cons q t => .cons q (Reps.set r i t)
theorem Reps.reverse : ∀ {vs : List V} {ds : List PyData}, Reps K w H vs ds → Reps K w H vs.reverse ds.reverse
  | _, _, .nil => .nil
  | _, _, .cons r t => by
    rw [List.reverse_cons, List.reverse_cons]
    exact (Reps.reverse t).append (.cons r .nil)
theorem Reps.inv {v : V} {vs : List V} {ds : List PyData} (h : Reps K w H (v :: vs) ds) : ∃ d es, ds = d :: es ∧ Rep K w H v d ∧ Reps K w H vs es := by
  cases h with
  | cons r t => exact ⟨_, _, rfl, r, t⟩
theorem Reps.inv' {d : PyData} {vs : List V} {ds : List PyData} (h : Reps K w H vs (d :: ds)) : ∃ v ws, vs = v :: ws ∧ Rep K w H v d ∧ Reps K w H ws ds := by
  cases h with
  | cons r t => exact ⟨_, _, rfl, r, t⟩
end

/-! ### the heap's own reading -/
section
variable {X : Cx} {pins : List (Addr × Obj)} {σ : L2.St} {H : Hp} {s : Shared}
theorem Inv.fzL (I : Inv X pins σ H s) {a : Addr} {vs : List V} (h : FzL X.K H a vs) : ∃ its : List Value, Vals vs its ∧ PlainL s.heap a its.toArray ∧ vs.length ≤ sizeLine := I.list h.sq
theorem pairedReads {α : Type} {f : α → V} {g : α → Value} : ∀ {es : List DictEntry} {ents : List (NestedKey × V × V)}, Paired (fun (e : DictEntry) (x : NestedKey × V × V) => e.hash = x.1.hash X.w ∧ RelV x.2.1 e.key ∧ RelV x.2.2 e.val) es ents →
    Vals (ents.map (fun x => x.2.1)) (es.map (·.key)) ∧ Vals (ents.map (fun x => x.2.2)) (es.map (·.val))
  | _, _, .nil => ⟨.nil, .nil⟩
  | _, _, .cons r t => by
    obtain ⟨h1, h2⟩ := pairedReads (f := f) (g := g) t
    exact ⟨.cons r.2.1 h1, .cons r.2.2 h2⟩
mutual
theorem Inv.reads (I : Inv X pins σ H s) : ∀ {v : V} {d : PyData} {u : Value}, Rep X.K X.w H v d → RelV v u → ∃ as, Reads s.heap u d as
  | _, _, _, .non, r => by cases r; exact ⟨_, .none⟩
  | _, _, _, .bl b, r => by cases r; exact ⟨_, .bool b⟩
  | _, _, _, .int i, r => by obtain ⟨t, rfl⟩ := r; exact ⟨_, .int i t⟩
  | _, _, _, .str x, r => by obtain ⟨t, rfl⟩ := r; exact ⟨_, .str x t⟩
  | _, _, _, .tup h t, r => by
    cases r
    obtain ⟨its, rv, ⟨o, ho, hc, n, hd⟩, _⟩ := I.tuple h
    obtain ⟨as, ra⟩ := Inv.readsAll I t rv
    exact ⟨_, .tuple ho hc hd (by simpa using ra)⟩
  | _, _, _, .lst h t, r => by
    cases r
    obtain ⟨its, rv, ⟨o, n, ho, hc, hx, hd⟩, _⟩ := Inv.fzL I h
    obtain ⟨as, ra⟩ := Inv.readsAll I t rv
    exact ⟨_, .list ho hc hd (by simpa using ra)⟩
  | _, _, _, .dct h h1 h2 h3 t1 t2, r => by
    cases r
    obtain ⟨ho, _⟩ := I.hok _ _ h
    obtain ⟨⟨hc, _, _⟩, ⟨es, n, hd, hp⟩, _⟩ := h2
    obtain ⟨k1, k2⟩ := pairedReads (X := X) (α := Nat) (f := fun _ => .non) (g := fun _ => .none) hp
    obtain ⟨as, ra⟩ := Inv.readsAll I t1 k1
    obtain ⟨bs, rb⟩ := Inv.readsAll I t2 k2
    exact ⟨_, .dict ho hc hd ra rb⟩
theorem Inv.readsAll (I : Inv X pins σ H s) : ∀ {vs : List V} {ds : List PyData} {us : List Value}, Reps X.K X.w H vs ds → Vals vs us → ∃ as, ReadsAll s.heap us ds as
  | _, _, _, .nil, r => by cases r; exact ⟨_, .nil⟩
  | _, _, _, .cons h t, r => by
    cases r with
    | cons r1 r2 =>
      obtain ⟨as, ra⟩ := Inv.reads I h r1
      obtain ⟨bs, rb⟩ := Inv.readsAll I t r2
      exact ⟨_, .cons ra rb⟩
end
end
end TT

namespace TT
open PySem PySem.Spec PyProof.Rows L2

/-! ### the mirror's monads -/
/-- an error of the program's own: its class's name, what it carries -/
structure Exc where
  cls : Str
  arg : PyData
/-- what a run gives: nothing (no promise), or a value or an error, with the state -/
abbrev Res (S α : Type) := Option (Except Exc α × S)
def Res.bind {S α β : Type} (x : Res S α) (f : α → S → Res S β) : Res S β := match x with
  | none => none
  | some (.ok a, s) => f a s
  | some (.error e, s) => some (.error e, s)
class PyM (m : Type → Type) [Monad m] where
  S : Type
  run : {α : Type} → m α → S → Res S α
  run_pure : ∀ {α : Type} (a : α) (s : S), run (pure a) s = some (.ok a, s)
  run_bind : ∀ {α β : Type} (x : m α) (f : α → m β) (s : S), run (x >>= f) s = Res.bind (run x s) fun a s' => run (f a) s'
  fromO : {α : Type} → Option α → m α
  run_fromO : ∀ {α : Type} (o : Option α) (s : S), run (fromO o) s = o.map fun a => (Except.ok a, s)
  sup : {α : Type} → (Nat → m α) → m α
  run_sup : ∀ {α : Type} (f : Nat → m α) (s : S) (r : Except Exc α × S), run (sup f) s = some r → ∃ n, run (f n) s = some r
open PyM (fromO)
open Classical in
/-- the first that is something -/
noncomputable def supO {α : Type} (f : Nat → Option α) : Option α := if h : ∃ n, (f n).isSome = true then f (choose h) else none
theorem supO_some {α : Type} {f : Nat → Option α} {a : α} (h : supO f = some a) : ∃ n, f n = some a := by
  unfold supO at h
  split at h
  · exact ⟨_, h⟩
  · cases h
/-- no error comes of it -/
class NoErr (m : Type → Type) [Monad m] [PyM m] : Prop where
  ok : ∀ {α : Type} (x : m α) (s : PyM.S m) e s', PyM.run x s ≠ some (.error e, s')
noncomputable instance : PyM Option where
  S := Unit
  run x _ := x.map fun a => (.ok a, ())
  run_pure _ _ := rfl
  run_bind x f s := by cases x <;> rfl
  fromO o := o
  run_fromO o s := rfl
  sup f := supO f
  run_sup f s r h := by
    obtain ⟨a, h1, h2⟩ := Option.map_eq_some_iff.mp h
    obtain ⟨n, hn⟩ := supO_some h1
    exact ⟨n, by show Option.map _ (f n) = _; rw [hn, ← h2]; rfl⟩
instance : NoErr Option where
  ok x s e s' := by
    show Option.map _ x ≠ _
    cases x <;> simp
/-- values or errors -/
abbrev EM := ExceptT Exc Option
noncomputable instance : PyM EM where
  S := Unit
  run x _ := Option.map (fun r => (r, ())) x.run
  run_pure _ _ := rfl
  run_bind x f s := by
    show Option.map _ (ExceptT.run (ExceptT.bind x f)) = _
    show Option.map _ (Option.bind x _) = Res.bind (Option.map _ (show Option _ from x)) _
    cases (show Option _ from x) with
    | none => rfl
    | some r => cases r <;> rfl
  fromO o := ExceptT.mk (o.map .ok)
  run_fromO o s := by cases o <;> rfl
  sup f := ExceptT.mk (supO fun n => (f n).run)
  run_sup f s r h := by
    obtain ⟨a, h1, h2⟩ := Option.map_eq_some_iff.mp h
    obtain ⟨n, hn⟩ := supO_some (f := fun n => (f n).run) h1
    exact ⟨n, by show Option.map _ ((f n).run) = _; rw [hn, ← h2]; rfl⟩
/-- a state beside -/
abbrev WM (S : Type) := StateT S Option
noncomputable instance (S : Type) : PyM (WM S) where
  S := S
  run x s := (x.run s).map fun p => (.ok p.1, p.2)
  run_pure _ _ := rfl
  run_bind x f s := by
    show Option.map _ (Option.bind (x s) _) = Res.bind (Option.map _ (x s)) _
    cases x s <;> rfl
  fromO o := StateT.mk fun s => o.map fun a => (a, s)
  run_fromO o s := by cases o <;> rfl
  sup f := StateT.mk fun s => supO fun n => (f n).run s
  run_sup f s r h := by
    obtain ⟨a, h1, h2⟩ := Option.map_eq_some_iff.mp h
    obtain ⟨n, hn⟩ := supO_some (f := fun n => (f n).run s) h1
    exact ⟨n, by show Option.map _ ((f n).run s) = _; rw [hn, ← h2]; rfl⟩
instance (S : Type) : NoErr (WM S) where
  ok x s e s' := by
    show Option.map _ (StateT.run x s) ≠ _
    cases StateT.run x s <;> simp

/-! ### the world beside: objects that callees may write -/
structure Wd (K : PySem.W.Frag) (w : World) (m : Type → Type) [Monad m] [PyM m] where
  rel : PyM.S m → Hp → Prop
  mt : Addr → Prop
  exc : Exc → Value → Option Addr → Hp → Prop
  keep : ∀ s H H', rel s H → (∀ b o, H b = some o → H' b = some o) → rel s H'
  other : ∀ s H b o, rel s H → ¬ mt b → (∀ c u, H c = some u → Firm u → c ≠ b) → rel s (upd H b o)
  there : ∀ s H b, rel s H → mt b → ∃ o, H b = some o ∧ ¬ Firm o
/-- nothing beside -/
def wd0 {K : PySem.W.Frag} {w : World} {m : Type → Type} [Monad m] [PyM m] (ex : Exc → Value → Option Addr → Hp → Prop := fun _ _ _ _ => False) : Wd K w m where
  rel _ _ := True
  mt _ := False
  exc := ex
  keep _ _ _ _ _ := trivial
  other _ _ _ _ _ _ _ := trivial
  there _ _ _ _ h := h.elim

/-- all that was tracked, but what the world may write, is as it was -/
def Ext (mt : Addr → Prop) (H H' : Hp) : Prop := ∀ b o, H b = some o → (¬ mt b ∨ Firm o) → H' b = some o
theorem Ext.refl {mt : Addr → Prop} {H : Hp} : Ext mt H H := fun _ _ h _ => h
theorem Ext.trans {mt : Addr → Prop} {H H1 H2 : Hp} (a : Ext mt H H1) (b : Ext mt H1 H2) : Ext mt H H2 := fun c o h k => b c o (a c o h k) k
theorem Ext.firms {mt : Addr → Prop} {H H' : Hp} (a : Ext mt H H') : Firms H H' := fun b o h f => a b o h (.inr f)
theorem Ext.of_same {mt : Addr → Prop} {H H' : Hp} (a : Same H H') : Ext mt H H' := fun b o h _ => a b o h
theorem firms_upd' {H : Hp} {a : Addr} {u u' : HO} (h : H a = some u) (n : ¬ Firm u) : Firms H (upd H a u') := fun b o e f => by
  by_cases hb : b = a
  · subst hb; rw [h] at e; cases e; exact absurd f n
  · rw [upd_ne hb]; exact e
theorem Same.new {H : Hp} {p : Addr} {o : HO} (h : H p = none) : Same H (upd H p o) := fun b x e => by
  rw [upd_ne (ne_of_none e h)]
  exact e

/-! ### the slots -/
inductive Slot where
  /-- a value that nobody writes -/
  | frz (d : PyData)
  /-- a list of the def's own -/
  | own (ds : List PyData)
  /-- the object at an address -/
  | adr (a : Addr)
  /-- the script -/
  | scr (ns : List Int)
def Slot.Own : Slot → Prop
  | .own _ => True
  | _ => False
abbrev Slots := List (Option Slot)

section
variable {K : PySem.W.Frag} {w : World}
def SlotOk (K : PySem.W.Frag) (w : World) (mt : Addr → Prop) (H0 H : Hp) : Slot → V → Prop
  | .frz d, v => Rep K w H v d
  | .own ds, v => ∃ a vs, v = .ref a ∧ H a = some (.lst vs) ∧ Reps K w H vs ds ∧ H0 a = none ∧ ¬ mt a
  | .adr a, v => v = .ref a
  | .scr ns, v => ∃ a, v = .ref a ∧ SqL K H a (ns.map V.int) ∧ ((∃ o, H a = some (.frz o (.lst (ns.map V.int)))) ∨ ∃ o its n, K.lookup a = some o ∧ o.cls = .type "list" ∧ o.dict = none ∧ o.data = .seq its n ∧ its.size ≤ sizeLine ∧ Vals (ns.map V.int) its.toList)
theorem SlotOk.ext {mt : Addr → Prop} {H0 H H' : Hp} (e : Ext mt H H') : ∀ {x : Slot} {v : V}, SlotOk K w mt H0 H x v → SlotOk K w mt H0 H' x v
  | .frz _, _, h => Rep.firm e.firms h
  | .own _, _, ⟨a, vs, h1, h2, h3, h4, h5⟩ => ⟨a, vs, h1, e a _ h2 (.inl h5), Reps.firm e.firms h3, h4, h5⟩
  | .adr _, _, h => h
  | .scr _, _, ⟨a, h1, h2, h3⟩ => ⟨a, h1, by
    rcases h3 with ⟨o, h3⟩ | h3
    · exact .inl (.inr ⟨o, e.firms _ _ h3 trivial⟩)
    · exact .inr h3, by
    rcases h3 with ⟨o, h3⟩ | h3
    · exact .inl ⟨o, e.firms _ _ h3 trivial⟩
    · exact .inr h3⟩

structure Cfg {m : Type → Type} [Monad m] [PyM m] (C : Wd K w m) (H0 : Hp) (R : Slots) (s : PyM.S m) (σ : L2.St) (H : Hp) : Prop where
  len : σ.length = R.length
  base : Ext C.mt H0 H
  rel : C.rel s H
  slot : ∀ (i : Nat) (x : Slot), R[i]? = some (some x) → ∃ v, σ[i]? = some (some v) ∧ SlotOk K w C.mt H0 H x v
  apart : ∀ (i j : Nat) (x y : Slot), i ≠ j → R[i]? = some (some x) → R[j]? = some (some y) → x.Own → y.Own → σ[i]? ≠ σ[j]?
section
variable {m : Type → Type} [Monad m] [PyM m] {C : Wd K w m} {H0 : Hp} {R R' : Slots} {s s' : PyM.S m} {σ : L2.St} {H H' : Hp}
theorem Cfg.ext (c : Cfg C H0 R s σ H) (e : Ext C.mt H H') (r : C.rel s' H') : Cfg C H0 R s' σ H' :=
  ⟨c.len, c.base.trans e, r, fun i x h => let ⟨v, h1, h2⟩ := c.slot i x h; ⟨v, h1, SlotOk.ext e h2⟩, c.apart⟩
theorem Cfg.same (c : Cfg C H0 R s σ H) (e : Same H H') : Cfg C H0 R s σ H' := c.ext (.of_same e) (C.keep _ _ _ c.rel e)
/-- fewer slots told -/
def SubS : Slots → Slots → Prop
  | [], [] => True
  | none :: r, _ :: r' => SubS r r'
  | some x :: r, y :: r' => y = some x ∧ SubS r r'
  | none :: _, [] => False
  | some _ :: _, [] => False
  | [], _ :: _ => False
theorem SubS.len : ∀ {R R' : Slots}, SubS R R' → R.length = R'.length
  | [], [], _ => rfl
  | none :: r, y :: r', h => by rw [List.length_cons, List.length_cons, SubS.len (R := r) (R' := r') h]
  | some x :: r, y :: r', h => by rw [List.length_cons, List.length_cons, SubS.len (R := r) (R' := r') h.2]
  | none :: _, [], h => h.elim
  | some _ :: _, [], h => h.elim
  | [], _ :: _, h => h.elim
theorem SubS.at : ∀ {R R' : Slots}, SubS R R' → ∀ (i : Nat) (x : Slot), R[i]? = some (some x) → R'[i]? = some (some x)
  | [], _, _, i, x, h => by simp at h
  | none :: r, y :: r', h, 0, x, e => by simp at e
  | none :: r, y :: r', h, i + 1, x, e => by
    have := SubS.at (R := r) (R' := r') h i x (by simpa using e)
    simpa using this
  | some z :: r, y :: r', h, 0, x, e => by
    simp at e ⊢
    rw [h.1, e]
  | some z :: r, y :: r', h, i + 1, x, e => by
    have := SubS.at (R := r) (R' := r') h.2 i x (by simpa using e)
    simpa using this
  | none :: _, [], h, _, _, _ => h.elim
  | some _ :: _, [], h, _, _, _ => h.elim
theorem Cfg.sub (c : Cfg C H0 R s σ H) (h : SubS R' R) : Cfg C H0 R' s σ H :=
  ⟨c.len.trans h.len.symm, c.base, c.rel, fun i x e => c.slot i x (h.at i x e), fun i j x y n e1 e2 => c.apart i j x y n (h.at i x e1) (h.at j y e2)⟩
theorem SubS.refl : ∀ R : Slots, SubS R R
  | [] => trivial
  | none :: r => SubS.refl r
  | some _ :: r => ⟨rfl, SubS.refl r⟩
/-- a slot gets data -/
theorem Cfg.setF {i : Nat} {v : V} {d : PyData} (c : Cfg C H0 R s σ H) (hi : i < R.length) (r : Rep K w H v d) : Cfg C H0 (R.set i (some (.frz d))) s (σ.set i (some v)) H := by
  have hi' : i < σ.length := by rw [c.len]; exact hi
  refine ⟨by rw [List.length_set, List.length_set]; exact c.len, c.base, c.rel, fun j x h => ?_, fun j l x y n h1 h2 ox oy => ?_⟩
  · by_cases e : i = j
    · subst e
      rw [List.getElem?_set_self hi] at h
      cases h
      exact ⟨v, List.getElem?_set_self hi', r⟩
    · rw [List.getElem?_set_ne e] at h ⊢
      exact c.slot j x h
  · have nj : i ≠ j := fun e => by
      subst e
      rw [List.getElem?_set_self hi] at h1
      cases h1
      exact ox
    have nl : i ≠ l := fun e => by
      subst e
      rw [List.getElem?_set_self hi] at h2
      cases h2
      exact oy
    rw [List.getElem?_set_ne nj] at h1 ⊢
    rw [List.getElem?_set_ne nl] at h2 ⊢
    exact c.apart j l x y n h1 h2 ox oy
/-- a slot gets a list of its own -/
theorem Cfg.setO {i : Nat} {a : Addr} {vs : List V} {ds : List PyData} (c : Cfg C H0 R s σ H) (hi : i < R.length) (h : H a = some (.lst vs)) (r : Reps K w H vs ds) (h0 : H0 a = none) (hm : ¬ C.mt a)
    (new : ∀ (j : Nat) (y : Slot), R[j]? = some (some y) → y.Own → σ[j]? ≠ some (some (.ref a))) : Cfg C H0 (R.set i (some (.own ds))) s (σ.set i (some (.ref a))) H := by
  have hi' : i < σ.length := by rw [c.len]; exact hi
  refine ⟨by rw [List.length_set, List.length_set]; exact c.len, c.base, c.rel, fun j x h => ?_, fun j l x y n h1 h2 ox oy => ?_⟩
  · by_cases e : i = j
    · subst e
      rw [List.getElem?_set_self hi] at h
      cases h
      exact ⟨_, List.getElem?_set_self hi', a, vs, rfl, by assumption, r, h0, hm⟩
    · rw [List.getElem?_set_ne e] at h ⊢
      exact c.slot j x h
  · by_cases e1 : i = j
    · subst e1
      rw [List.getElem?_set_self hi']
      rw [List.getElem?_set_ne n] at h2 ⊢
      exact fun q => new l y h2 oy q.symm
    · rw [List.getElem?_set_ne e1] at h1 ⊢
      by_cases e2 : i = l
      · subst e2
        rw [List.getElem?_set_self hi']
        exact new j x h1 ox
      · rw [List.getElem?_set_ne e2] at h2 ⊢
        exact c.apart j l x y n h1 h2 ox oy
/-- a list of its own is changed -/
theorem Cfg.updO {i : Nat} {a : Addr} {vs ws : List V} {ds es : List PyData} (c : Cfg C H0 R s σ H) (hR : R[i]? = some (some (.own ds))) (ha : σ[i]? = some (some (.ref a))) (h : H a = some (.lst vs)) (r : Reps K w H ws es) :
    Cfg C H0 (R.set i (some (.own es))) s σ (upd H a (.lst ws)) := by
  obtain ⟨v, e, a', vs', e1, e2, e3, e4, e5⟩ := c.slot i _ hR
  rw [ha] at e; cases e
  cases e1
  have hi : i < R.length := (List.getElem?_eq_some_iff.mp hR).1
  have nf : ∀ b u, H b = some u → Firm u → b ≠ a := fun b u hu f z => by subst z; rw [h] at hu; cases hu; exact f
  have fm : Firms H (upd H a (.lst ws)) := firms_upd' h (fun z => z)
  refine ⟨by rw [List.length_set]; exact c.len, fun b o hb k => ?_, C.other _ _ _ _ c.rel e5 nf, fun j x h1 => ?_, fun j l x y n h1 h2 ox oy => ?_⟩
  · rw [upd_ne (ne_of_none hb e4)]
    exact c.base b o hb k
  · by_cases e : i = j
    · subst e
      rw [List.getElem?_set_self hi] at h1
      cases h1
      exact ⟨_, ha, a, ws, rfl, upd_same, Reps.firm fm r, e4, e5⟩
    · rw [List.getElem?_set_ne e] at h1
      obtain ⟨v, h2, h3⟩ := c.slot j x h1
      refine ⟨v, h2, ?_⟩
      cases x with
      | frz d => exact Rep.firm fm h3
      | adr b => exact h3
      | scr ns =>
        obtain ⟨b, k1, k2, k3⟩ := h3
        refine ⟨b, k1, ?_, ?_⟩
        · rcases k3 with ⟨o, k3⟩ | k3
          · exact .inl (.inr ⟨o, fm _ _ k3 trivial⟩)
          · exact .inr k3
        · rcases k3 with ⟨o, k3⟩ | k3
          · exact .inl ⟨o, fm _ _ k3 trivial⟩
          · exact .inr k3
      | own ds' =>
        obtain ⟨b, us, rfl, k1, k2, k3, k4⟩ := h3
        have ne : b ≠ a := fun z => by
          subst z
          exact c.apart i j _ _ e hR h1 trivial trivial (ha.trans h2.symm)
        exact ⟨b, us, rfl, by rw [upd_ne ne]; exact k1, Reps.firm fm k2, k3, k4⟩
  · by_cases e1 : i = j
    · subst e1
      rw [List.getElem?_set_ne n] at h2
      exact c.apart i l _ y n hR h2 trivial oy
    · rw [List.getElem?_set_ne e1] at h1
      by_cases e2 : i = l
      · subst e2
        exact c.apart j i x _ n h1 hR ox trivial
      · rw [List.getElem?_set_ne e2] at h2
        exact c.apart j l x y n h1 h2 ox oy
end

/-! ### what an expression's value may be -/
/-- the heap ahead, the heap behind, the value, the data -/
abbrev Kd := Hp → Hp → V → PyData → Prop
/-- data that nobody writes -/
def kF (K : PySem.W.Frag) (w : World) (mt : Addr → Prop) : Kd := fun _ H' v d => Rep K w H' v d
/-- such, or a list that is only read here -/
def kB (K : PySem.W.Frag) (w : World) (mt : Addr → Prop) : Kd := fun _ H' v d => Rep K w H' v d ∨ ∃ a vs ds, v = .ref a ∧ d = .list ds ∧ H' a = some (.lst vs) ∧ Reps K w H' vs ds ∧ ¬ mt a
/-- a new list -/
def kO (K : PySem.W.Frag) (w : World) (mt : Addr → Prop) : Kd := fun H H' v d => ∃ a vs ds, v = .ref a ∧ d = .list ds ∧ H' a = some (.lst vs) ∧ Reps K w H' vs ds ∧ H a = none
structure KdOk (k : Kd) : Prop where
  back : ∀ H H1 H2 v d, (∀ a, H1 a = none → H a = none) → k H1 H2 v d → k H H2 v d
theorem kF_ok {mt : Addr → Prop} : KdOk (kF K w mt) := ⟨fun _ _ _ _ _ _ h => h⟩
theorem kB_ok {mt : Addr → Prop} : KdOk (kB K w mt) := ⟨fun _ _ _ _ _ _ h => h⟩
theorem kO_ok {mt : Addr → Prop} : KdOk (kO K w mt) := ⟨fun H H1 H2 v d h ⟨a, vs, ds, e1, e2, e3, e4, e5⟩ => ⟨a, vs, ds, e1, e2, e3, e4, h a e5⟩⟩
theorem kB.ext {mt : Addr → Prop} {H H1 H2 : Hp} {v : V} {d : PyData} (e : Ext mt H1 H2) (h : kB K w mt H H1 v d) : kB K w mt H H2 v d := by
  rcases h with h | ⟨a, vs, ds, h1, h2, h3, h4, h5⟩
  · exact .inl (Rep.firm e.firms h)
  · exact .inr ⟨a, vs, ds, h1, h2, e a _ h3 (.inl h5), Reps.firm e.firms h4, h5⟩
theorem kF.ext {mt : Addr → Prop} {H H1 H2 : Hp} {v : V} {d : PyData} (e : Ext mt H1 H2) (h : kF K w mt H H1 v d) : kF K w mt H H2 v d := Rep.firm e.firms h
end

/-! ### the judgement of an expression -/
section
variable {K : PySem.W.Frag} {w : World} {m : Type → Type} [Monad m] [PyM m]
/-- behind a run: the value's wish, or the error's -/
def After (C : Wd K w m) (W : WX) (k : Kd) {α : Type} (e : α → PyData) (σ : L2.St) (H : Hp) (Q : VK) : Res (PyM.S m) α → Prop
  | none => False
  | some (.ok a, s') => ∀ v H', Ext C.mt H H' → C.rel s' H' → k H H' v (e a) → Q v H'
  | some (.error x, s') => ∀ cls d H', Ext C.mt H H' → C.rel s' H' → C.exc x cls d H' → W cls d σ H'
def tR (C : Wd K w m) (W : WX) (H0 : Hp) (R : Slots) (k : Kd) {α : Type} (e : α → PyData) (mm : m α) : TE := fun σ H Q => ∃ s, Cfg C H0 R s σ H ∧ After C W k e σ H Q (PyM.run mm s)
structure SX (X : Cx) (C : Wd X.K X.w m) (W : WX) (H0 : Hp) (R : Slots) (k : Kd) (ex : Expr) {α : Type} (e : α → PyData) (mm : m α) : Prop where
  run : PE X ex (tR C W H0 R k e mm)
abbrev SE (X : Cx) (C : Wd X.K X.w m) (W : WX) (H0 : Hp) (R : Slots) (ex : Expr) {α : Type} (e : α → PyData) (mm : m α) : Prop := SX X C W H0 R (kF X.K X.w C.mt) ex e mm
abbrev SB (X : Cx) (C : Wd X.K X.w m) (W : WX) (H0 : Hp) (R : Slots) (ex : Expr) {α : Type} (e : α → PyData) (mm : m α) : Prop := SX X C W H0 R (kB X.K X.w C.mt) ex e mm
abbrev SO (X : Cx) (C : Wd X.K X.w m) (W : WX) (H0 : Hp) (R : Slots) (ex : Expr) {α : Type} (e : α → PyData) (mm : m α) : Prop := SX X C W H0 R (kO X.K X.w C.mt) ex e mm
theorem _root_.L2.PE.weak {X : Cx} {ex : Expr} {t t' : TE} (h : PE X ex t) (i : ∀ σ H Q, t' σ H Q → t σ H Q) : PE X ex t' := ⟨fun pins s σ H Q I q => h.run pins s σ H Q I (i σ H Q q)⟩
theorem _root_.L2.PT.weak {X : Cx} {ex : Expr} {t t' : TT} (h : PT X ex t) (i : ∀ σ H Q, t' σ H Q → t σ H Q) : PT X ex t' := ⟨fun pins s σ H Q I q => h.run pins s σ H Q I (i σ H Q q)⟩
theorem _root_.L2.PSs.weak {X : Cx} {sts : List Stmt} {t t' : TS} (h : PSs X sts t) (i : ∀ D σ H, t' D σ H → t D σ H) : PSs X sts t' := ⟨fun pins s σ H D I q => h.run pins s σ H D I (i D σ H q)⟩
theorem _root_.L2.PS.weak {X : Cx} {st : Stmt} {t t' : TS} (h : PS X st t) (i : ∀ D σ H, t' D σ H → t D σ H) : PS X st t' := ⟨fun pins s σ H D I q => h.run pins s σ H D I (i D σ H q)⟩

variable {C : Wd K w m} {W : WX} {H0 : Hp} {R : Slots} {k k' : Kd} {α β : Type} {ea : α → PyData} {eb : β → PyData} {σ : L2.St} {H : Hp} {Q : VK}
theorem none_back {mt : Addr → Prop} {H H1 : Hp} (e : Ext mt H H1) (t : ∀ b, mt b → ∃ o, H1 b = some o) : ∀ a, H1 a = none → H a = none := fun a h => by
  cases q : H a with
  | none => rfl
  | some o =>
    by_cases hm : mt a
    · obtain ⟨o', h'⟩ := t a hm
      rw [h] at h'; cases h'
    · rw [e a o q (.inl hm)] at h; cases h
/-- the wish of a run that goes on from H, asked of a run from the older heap -/
theorem After.back (kk : KdOk k) {H1 : Hp} {s1 : PyM.S m} (e : Ext C.mt H H1) (r1 : C.rel s1 H1) {r : Res (PyM.S m) α} (h : After C W k ea σ H Q r) : After C W k ea σ H1 Q r := by
  match r, h with
  | some (.ok a, s'), h => exact fun v H' e' rl kv => h v H' (e.trans e') rl (kk.back _ _ _ _ _ (none_back e fun b hb => let ⟨o, ho, _⟩ := C.there _ _ _ r1 hb; ⟨o, ho⟩) kv)
  | some (.error x, s'), h => exact fun cls d H' e' rl kv => h cls d H' (e.trans e') rl kv
/-- one part is evaluated, then the rest -/
theorem tR_bind (kk' : KdOk k') {ma : m α} {f : α → m β} (h : tR C W H0 R k' eb (ma >>= f) σ H Q) :
    tR C W H0 R k ea ma σ H fun v H1 => ∃ a, Ext C.mt H H1 ∧ k H H1 v (ea a) ∧ tR C W H0 R k' eb (f a) σ H1 Q := by
  obtain ⟨s, c, h⟩ := h
  refine ⟨s, c, ?_⟩
  rw [PyM.run_bind] at h
  cases q : PyM.run ma s with
  | none => rw [q] at h; exact h
  | some p =>
    obtain ⟨r, s1⟩ := p
    rw [q] at h
    cases r with
    | error x => exact h
    | ok a => exact fun v H1 e rl kv => ⟨a, e, kv, s1, c.ext e rl, After.back kk' e rl h⟩
/-- the end: a value without another change than new things -/
theorem tR_done {o : Option α} (h : tR C W H0 R k ea (fromO o) σ H Q) : ∃ a, o = some a ∧ (∃ s, Cfg C H0 R s σ H) ∧ ∀ v H', Same H H' → k H H' v (ea a) → Q v H' := by
  obtain ⟨s, c, h⟩ := h
  rw [PyM.run_fromO] at h
  cases o with
  | none => exact h.elim
  | some a => exact ⟨a, rfl, ⟨s, c⟩, fun v H' e kv => h v H' (.of_same e) (C.keep _ _ _ c.rel e) kv⟩
theorem tR_pure {a : α} (h : tR C W H0 R k ea (pure a) σ H Q) : (∃ s, Cfg C H0 R s σ H) ∧ ∀ v H', Same H H' → k H H' v (ea a) → Q v H' := by
  obtain ⟨s, c, h⟩ := h
  rw [PyM.run_pure] at h
  exact ⟨⟨s, c⟩, fun v H' e kv => h v H' (.of_same e) (C.keep _ _ _ c.rel e) kv⟩
theorem tR_imp {mm : m α} (h : tR C W H0 R k ea mm σ H Q) {Q' : VK} (i : ∀ v H', Q v H' → Q' v H') : tR C W H0 R k ea mm σ H Q' := by
  obtain ⟨s, c, h⟩ := h
  refine ⟨s, c, ?_⟩
  cases q : PyM.run mm s with
  | none => rw [q] at h; exact h
  | some p =>
    obtain ⟨r, s1⟩ := p
    rw [q] at h
    cases r with
    | error x => exact h
    | ok a => exact fun v H1 e rl kv => i _ _ (h v H1 e rl kv)
theorem tR_kind {mm : m α} (h : tR C W H0 R k' ea mm σ H Q) (i : ∀ H' v d, Ext C.mt H H' → (∀ b, H' b = none → H b = none) → (∀ b, C.mt b → ∃ o, H b = some o ∧ ¬ Firm o) → k H H' v d → k' H H' v d) : tR C W H0 R k ea mm σ H Q := by
  obtain ⟨s, c, h⟩ := h
  refine ⟨s, c, ?_⟩
  cases q : PyM.run mm s with
  | none => rw [q] at h; exact h
  | some p =>
    obtain ⟨r, s1⟩ := p
    rw [q] at h
    cases r with
    | error x => exact h
    | ok a => exact fun v H1 e rl kv => h v H1 e rl (i H1 v _ e (none_back e fun b hb => let ⟨o, ho, _⟩ := C.there _ _ _ rl hb; ⟨o, ho⟩) (fun b hb => C.there _ _ _ c.rel hb) kv)
end
section
variable {X : Cx} {m : Type → Type} [Monad m] [PyM m] {C : Wd X.K X.w m} {W : WX} {H0 : Hp} {R : Slots} {ex : Expr} {α : Type} {e : α → PyData} {mm : m α}
/-- frozen data may be read -/
theorem SX.b (h : SE X C W H0 R ex e mm) : SB X C W H0 R ex e mm := ⟨h.run.weak fun σ H Q q => tR_kind q fun _ _ _ _ _ _ k => .inl k⟩
/-- a new list may be read -/
theorem SX.ob (h : SO X C W H0 R ex e mm) : SB X C W H0 R ex e mm := ⟨h.run.weak fun σ H Q q => tR_kind q fun H' v d _ _ th ⟨a, vs, ds, h1, h2, h3, h4, h5⟩ => .inr ⟨a, vs, ds, h1, h2, h3, h4, fun z => by
  obtain ⟨o, ho, _⟩ := th a z
  rw [h5] at ho; cases ho⟩⟩
end

/-! ### freezing -/
/-- a list is locked for good -/
theorem Inv.freeze {X : Cx} {pins : List (Addr × Obj)} {σ : L2.St} {H : Hp} {s : Shared} {a : Addr} {vs : List V} (I : Inv X pins σ H s) (h : H a = some (.lst vs)) : ∃ o, Inv X pins σ (upd H a (.frz o (.lst vs))) s := by
  obtain ⟨hz, its, n, rv, he⟩ := I.hok a _ h
  refine ⟨_, I.write (o := .frz _ (.lst vs)) (t' := s.toks) (by rw [h]; trivial) (.inl rfl) (fun b u _ q => q) ⟨_, he⟩ ⟨he, hz, its, n, rv, he⟩⟩
theorem _root_.L2.PE.frozen {X : Cx} {ex : Expr} {t : TE} (h : PE X ex t) : PE X ex fun σ H Q => t σ H fun v H' => Q v H' ∨ ∃ a vs, H' a = some (.lst vs) ∧ ∀ o, Q v (upd H' a (.frz o (.lst vs))) := by
  refine ⟨fun pins s σ H Q I q => thn (h.run pins s σ H _ I q) fun u s' ⟨v, H', I', r, q⟩ => ?_⟩
  rcases q with q | ⟨a, vs, ha, q⟩
  · exact ⟨v, H', I', r, q⟩
  · obtain ⟨o, J⟩ := Inv.freeze I' ha
    exact ⟨v, _, J, r, q o⟩
section
variable {K : PySem.W.Frag} {w : World}
theorem firms_freeze {H : Hp} {a : Addr} {u u' : HO} (h : H a = some u) (n : ¬ Firm u) : Firms H (upd H a u') := fun b o e f => by
  by_cases hb : b = a
  · subst hb; rw [h] at e; cases e; exact absurd f n
  · rw [upd_ne hb]; exact e
end
section
variable {X : Cx} {m : Type → Type} [Monad m] [PyM m] {C : Wd X.K X.w m} {W : WX} {H0 : Hp} {R : Slots} {ex : Expr} {α : Type} {e : α → PyData} {mm : m α}
/-- a new list becomes data -/
theorem SX.f (h : SO X C W H0 R ex e mm) : SE X C W H0 R ex e mm := by
  refine ⟨(PE.frozen h.run).weak fun σ H Q q => ?_⟩
  obtain ⟨s, c, q⟩ := q
  refine ⟨s, c, ?_⟩
  cases z : PyM.run mm s with
  | none => rw [z] at q; exact q
  | some p =>
    obtain ⟨r, s1⟩ := p
    rw [z] at q
    cases r with
    | error x => exact q
    | ok a =>
      rintro v H' ex rl ⟨b, vs, ds, rfl, e2, e3, e4, e5⟩
      have nm : ¬ C.mt b := fun z => by
        obtain ⟨o, ho, _⟩ := C.there _ _ _ c.rel z
        rw [e5] at ho; cases ho
      have ne : ∀ b' u, H' b' = some u → Firm u → b' ≠ b := fun b' u hu f z => by subst z; rw [e3] at hu; cases hu; exact f
      refine .inr ⟨b, vs, e3, fun o => q _ _ (fun b' u hu k => ?_) (C.other _ _ _ _ rl nm ne) ?_⟩
      · have h1 := ex b' u hu k
        rw [upd_ne (ne_of_none hu e5)]
        exact h1
      · show Rep _ _ _ _ (e a)
        rw [e2]
        exact .lst ⟨o, upd_same⟩ (Reps.firm (firms_freeze e3 (fun z => z)) e4)
end
end TT

namespace TT
open PyM (fromO)
open PySem PySem.Spec PyProof.Rows L2

/-! ### encoders -/
abbrev eInt : Int → PyData := .int
abbrev eBool : Bool → PyData := .bool
abbrev eStr : Str → PyData := .str
abbrev eNon : Unit → PyData := fun _ => .none
abbrev eAny : PyData → PyData := fun d => d
def eOpt {α : Type} (e : α → PyData) : Option α → PyData
  | none => .none
  | some a => e a
def eTup {α : Type} (e : α → PyData) : List α → PyData := fun xs => .tuple (xs.map e)
def eLst {α : Type} (e : α → PyData) : List α → PyData := fun xs => .list (xs.map e)
def eNil : Unit → PyData := fun _ => .tuple []
def eT1 {α : Type} (e : α → PyData) : α → PyData := fun p => .tuple [e p]
def eT2 {α β : Type} (e : α → PyData) (f : β → PyData) : α × β → PyData := fun p => .tuple [e p.1, f p.2]
def eT3 {α β γ : Type} (e : α → PyData) (f : β → PyData) (g : γ → PyData) : α × β × γ → PyData := fun p => .tuple [e p.1, f p.2.1, g p.2.2]
def eT4 {α β γ δ : Type} (e : α → PyData) (f : β → PyData) (g : γ → PyData) (h : δ → PyData) : α × β × γ × δ → PyData := fun p => .tuple [e p.1, f p.2.1, g p.2.2.1, h p.2.2.2]
def eT5 {α β γ δ ε : Type} (e : α → PyData) (f : β → PyData) (g : γ → PyData) (h : δ → PyData) (i : ε → PyData) : α × β × γ × δ × ε → PyData := fun p => .tuple [e p.1, f p.2.1, g p.2.2.1, h p.2.2.2.1, i p.2.2.2.2]

section
variable {K : PySem.W.Frag} {w : World} {mt : Addr → Prop} {H H' : Hp} {v : V}
theorem kB_int {i : Int} (h : kB K w mt H H' v (.int i)) : v = .int i := by
  rcases h with h | ⟨_, _, _, _, e, _⟩
  · cases h; rfl
  · cases e
theorem kB_bool {i : Bool} (h : kB K w mt H H' v (.bool i)) : v = .bl i := by
  rcases h with h | ⟨_, _, _, _, e, _⟩
  · cases h; rfl
  · cases e
theorem kB_str {i : Str} (h : kB K w mt H H' v (.str i)) : v = .str i := by
  rcases h with h | ⟨_, _, _, _, e, _⟩
  · cases h; rfl
  · cases e
theorem kB_non (h : kB K w mt H H' v .none) : v = .non := by
  rcases h with h | ⟨_, _, _, _, e, _⟩
  · cases h; rfl
  · cases e
theorem kB_tup {ds : List PyData} (h : kB K w mt H H' v (.tuple ds)) : ∃ a vs, v = .ref a ∧ SqT K H' a vs ∧ Reps K w H' vs ds := by
  rcases h with h | ⟨_, _, _, _, e, _⟩
  · cases h with
    | tup h r => exact ⟨_, _, rfl, h, r⟩
  · cases e
theorem kB_rd {ds : List PyData} (h : kB K w mt H H' v (.list ds)) : ∃ a vs, v = .ref a ∧ Rd H' a (.lst vs) ∧ Reps K w H' vs ds := by
  rcases h with h | ⟨a, vs, ds', h1, e, h2, h3, _⟩
  · cases h with
    | lst h r => exact ⟨_, _, rfl, .inr h, r⟩
  · cases e
    exact ⟨a, vs, h1, .inl h2, h3⟩
theorem kB_lst {ds : List PyData} (h : kB K w mt H H' v (.list ds)) : ∃ a vs, v = .ref a ∧ SqL K H' a vs ∧ Reps K w H' vs ds :=
  let ⟨a, vs, h1, h2, h3⟩ := kB_rd h; ⟨a, vs, h1, .inl h2, h3⟩
end

section
variable {X : Cx} {m : Type → Type} [Monad m] [PyM m] {C : Wd X.K X.w m} {W : WX} {H0 : Hp} {R : Slots} {k : Kd} {α β γ : Type} {ea : α → PyData} {eb : β → PyData} {ec : γ → PyData}
variable {a b : Expr} {ma : m α} {mb : m β} {pos : Pos}
theorem SX.weak {ex : Expr} {t : TE} {e : α → PyData} {mm : m α} (h : PE X ex t) (i : ∀ σ H Q, tR C W H0 R k e mm σ H Q → t σ H Q) : SX X C W H0 R k ex e mm := ⟨h.weak i⟩
/-- the monad's term may be said otherwise -/
theorem SX.eq {ex : Expr} {e : α → PyData} {mm mm' : m α} (h : SX X C W H0 R k ex e mm) (q : mm' = mm) : SX X C W H0 R k ex e mm' := by rw [q]; exact h
/-- the value may be said otherwise -/
theorem SX.map {ex : Expr} {e : α → PyData} {mm : m α} (h : SX X C W H0 R k ex e mm) (kk : KdOk k) (f : α → β) (q : ∀ a, eb (f a) = e a) : SX X C W H0 R k ex eb (mm >>= fun a => pure (f a)) :=
  .weak h.run fun σ H Q q1 => by
    obtain ⟨s, c, h⟩ := q1
    refine ⟨s, c, ?_⟩
    rw [PyM.run_bind] at h
    cases z : PyM.run mm s with
    | none => rw [z] at h; exact h
    | some p =>
      obtain ⟨r, s1⟩ := p
      rw [z] at h
      cases r with
      | error x => exact h
      | ok a =>
        have h' : After C W k eb σ H Q (PyM.run (pure (f a)) s1) := h
        rw [PyM.run_pure] at h'
        exact fun v H1 e rl kv => h' v H1 e rl (by rw [q]; exact kv)

/-! ### names and constants -/
theorem se_var {i : Nat} {x : Str} {d : α} (hN : X.N[i]? = some x) (hv : Vis X.env.scope x) (hR : R[i]? = some (some (.frz (ea d)))) (hd : (x == ("__debug__" : Str)) = false) (hcd : (x == ("__classdict__" : Str)) = false) :
    SE X C W H0 R (.Name x pos) ea (pure d) := .weak (pe_var hN hv hd hcd) fun σ H Q h => by
  obtain ⟨⟨s, c⟩, q⟩ := tR_pure h
  obtain ⟨v, e, ok⟩ := c.slot i _ hR
  exact ⟨v, e, q v H (.refl H) ok⟩
theorem sb_own {i : Nat} {x : Str} {d : List α} (hN : X.N[i]? = some x) (hv : Vis X.env.scope x) (hR : R[i]? = some (some (.own (d.map ea)))) (hd : (x == ("__debug__" : Str)) = false) (hcd : (x == ("__classdict__" : Str)) = false) :
    SB X C W H0 R (.Name x pos) (eLst ea) (pure d) := .weak (pe_var hN hv hd hcd) fun σ H Q h => by
  obtain ⟨⟨s, c⟩, q⟩ := tR_pure h
  obtain ⟨v, e, a, vs, h1, h2, h3, h4, h5⟩ := c.slot i _ hR
  exact ⟨v, e, q v H (.refl H) (.inr ⟨a, vs, _, h1, rfl, h2, h3, h5⟩)⟩
theorem se_int {i : Int} {j} : SE X C W H0 R (.Constant (.int i) j pos) eInt (pure i) := .weak pe_int fun σ H Q h => (tR_pure h).2 _ H (.refl H) (.int i)
theorem se_bool {i : Bool} {j} : SE X C W H0 R (.Constant (.bool i) j pos) eBool (pure i) := .weak pe_bl fun σ H Q h => (tR_pure h).2 _ H (.refl H) (.bl i)
theorem se_str {x : Str} {j} : SE X C W H0 R (.Constant (.str x) j pos) eStr (pure x) := .weak pe_str fun σ H Q h => (tR_pure h).2 _ H (.refl H) (.str x)
theorem se_non {j} : SE X C W H0 R (.Constant .none j pos) eNon (pure ()) := .weak pe_non fun σ H Q h => (tR_pure h).2 _ H (.refl H) .non
theorem se_non_any {j} : SE X C W H0 R (.Constant .none j pos) eAny (pure PyData.none) := .weak pe_non fun σ H Q h => (tR_pure h).2 _ H (.refl H) .non
theorem se_non_opt {j} : SE X C W H0 R (.Constant .none j pos) (eOpt ea) (pure none) := .weak pe_non fun σ H Q h => (tR_pure h).2 _ H (.refl H) .non

/-! ### two operands -/
theorem tR_two {tb : TE} (kk : KdOk k) {g : α → β → m γ} {σ : L2.St} {H : Hp} {Q : VK} (h : tR C W H0 R k ec (ma >>= fun i => mb >>= fun j => g i j) σ H Q) {r : V → V → Hp → Prop}
    (i : ∀ x y H i j, kB X.K X.w C.mt H H x (ea i) → kB X.K X.w C.mt H H y (eb j) → tR C W H0 R k ec (g i j) σ H Q → r x y H) :
    tR C W H0 R (kB X.K X.w C.mt) ea ma σ H fun x H1 => tR C W H0 R (kB X.K X.w C.mt) eb mb σ H1 fun y H2 => r x y H2 :=
  tR_imp (tR_bind kk h) fun x H1 ⟨a, e1, k1, h1⟩ => tR_imp (tR_bind kk h1) fun y H2 ⟨b, e2, k2, h2⟩ => i x y H2 a b (kB.ext e2 k1) k2 h2
theorem sx_bin {op : Operator} {r : R2} (kk : KdOk k) (ho : OpR X (binaryOp op) r) (ha : SB X C W H0 R a ea ma) (hb : SB X C W H0 R b eb mb) {g : α → β → m γ}
    (h : ∀ x y σ H Q i j, kB X.K X.w C.mt H H x (ea i) → kB X.K X.w C.mt H H y (eb j) → tR C W H0 R k ec (g i j) σ H Q → r x y H Q) :
    SX X C W H0 R k (.BinOp a op b pos) ec (ma >>= fun i => mb >>= fun j => g i j) :=
  .weak (pe_op ho ha.run hb.run) fun σ H Q q => tR_two (tb := fun _ _ _ => True) kk q fun x y H2 i j k1 k2 q2 => h x y σ H2 Q i j k1 k2 q2
/-- a comparison, as a value or as a test -/
structure SC (X : Cx) (C : Wd X.K X.w m) (W : WX) (H0 : Hp) (R : Slots) (op : CmpOp) (a b : Expr) (mm : m Bool) : Prop where
  run : PC X op a b (tR C W H0 R (kF X.K X.w C.mt) eBool mm)
theorem SC.e {op : CmpOp} {mm : m Bool} (h : SC X C W H0 R op a b mm) (hm : behindInMarks op b = false) : SE X C W H0 R (.Compare a [op] [b] pos) eBool mm := ⟨pe_cmp h.run hm⟩
theorem sc_cmp {op : CmpOp} {r : R2} (ho : OpR X (compareOp op) r) (ha : SB X C W H0 R a ea ma) (hb : SB X C W H0 R b eb mb) {g : α → β → m Bool}
    (h : ∀ x y σ H Q i j, kB X.K X.w C.mt H H x (ea i) → kB X.K X.w C.mt H H y (eb j) → tR C W H0 R (kF X.K X.w C.mt) eBool (g i j) σ H Q → r x y H Q) :
    SC X C W H0 R op a b (ma >>= fun i => mb >>= fun j => g i j) :=
  ⟨⟨fun pins s σ H Q I q => binT ha.run hb.run I (tR_two (tb := fun _ _ _ => True) (r := fun x y H => r x y H Q) kF_ok q fun x y H2 i j k1 k2 q2 => h x y σ H2 Q i j k1 k2 q2) fun v u s2 x y H2 I2 rx ry q => ho pins s2 σ H2 x y v u Q I2 rx ry q⟩⟩
/-- a one-place thing -/
theorem tR_one (kk : KdOk k) {g : α → m γ} {σ : L2.St} {H : Hp} {Q : VK} (h : tR C W H0 R k ec (ma >>= fun i => g i) σ H Q) {r : V → Hp → Prop}
    (i : ∀ x H i, kB X.K X.w C.mt H H x (ea i) → tR C W H0 R k ec (g i) σ H Q → r x H) : tR C W H0 R (kB X.K X.w C.mt) ea ma σ H r :=
  tR_imp (tR_bind kk h) fun x H1 ⟨a, e1, k1, h1⟩ => i x H1 a k1 h1

/-! ### ints -/
variable {mi mj : m Int}
def mulG (i j : Int) : Option Int := if i.natAbs < 2 ^ 4000 ∧ j.natAbs < 2 ^ 4000 then some (i * j) else none
def divG (i j : Int) : Option Int := if (0 < j ∧ j.natAbs < 2 ^ 4000) ∨ (j ≠ 0 ∧ j.natAbs < 1073741824) then some (i.fdiv j) else none
def modG (i j : Int) : Option Int := if j ≠ 0 then some (i.fmod j) else none
def powG (i j : Int) : Option Int := if 0 ≤ j ∧ j ≤ 1000 ∧ i.natAbs < 2 ^ 64 then some (i ^ j.toNat) else none
theorem op_fdivG : OpR X (binaryOp .FloorDiv) (rI (fun _ j => (0 < j ∧ j.natAbs < 2 ^ 4000) ∨ (j ≠ 0 ∧ j.natAbs < 1073741824)) fun i j => .int (i.fdiv j)) := opI fun i j _ _ _ _ _ hc q => by
  rcases hc with ⟨h1, h2⟩ | ⟨h1, h2⟩
  · exact floordiv_int (by omega) q (.inl (PyProof.noPylong_of_log2 (wide_div (i := i) h1 h2 (by decide) (by decide)).2))
  · exact floordiv_int h1 q (.inl (PyProof.noPylong_small h2))
theorem se_add (ha : SB X C W H0 R a eInt mi) (hb : SB X C W H0 R b eInt mj) : SE X C W H0 R (.BinOp a .Add b pos) eInt (mi >>= fun i => mj >>= fun j => pure (i + j)) :=
  sx_bin kF_ok op_add ha hb fun x y σ H Q i j k1 k2 q => ⟨i, j, kB_int k1, kB_int k2, (tR_pure q).2 _ H (.refl H) (.int _)⟩
theorem se_sub (ha : SB X C W H0 R a eInt mi) (hb : SB X C W H0 R b eInt mj) : SE X C W H0 R (.BinOp a .Sub b pos) eInt (mi >>= fun i => mj >>= fun j => pure (i - j)) :=
  sx_bin kF_ok op_sub ha hb fun x y σ H Q i j k1 k2 q => ⟨i, j, kB_int k1, kB_int k2, (tR_pure q).2 _ H (.refl H) (.int _)⟩
theorem se_mul (ha : SB X C W H0 R a eInt mi) (hb : SB X C W H0 R b eInt mj) : SE X C W H0 R (.BinOp a .Mult b pos) eInt (mi >>= fun i => mj >>= fun j => fromO (mulG i j)) :=
  sx_bin kF_ok op_mulW ha hb fun x y σ H Q i j k1 k2 q => by
    obtain ⟨c, e, _, q⟩ := tR_done q
    unfold mulG at e
    split at e
    · rename_i g
      cases e
      exact ⟨i, j, kB_int k1, kB_int k2, wide_mul g.1 g.2 (by decide) (by decide) (by decide), q _ H (.refl H) (.int _)⟩
    · cases e
theorem se_fdiv (ha : SB X C W H0 R a eInt mi) (hb : SB X C W H0 R b eInt mj) : SE X C W H0 R (.BinOp a .FloorDiv b pos) eInt (mi >>= fun i => mj >>= fun j => fromO (divG i j)) :=
  sx_bin kF_ok op_fdivG ha hb fun x y σ H Q i j k1 k2 q => by
    obtain ⟨c, e, _, q⟩ := tR_done q
    unfold divG at e
    split at e
    · rename_i g
      cases e
      exact ⟨i, j, kB_int k1, kB_int k2, g, q _ H (.refl H) (.int _)⟩
    · cases e
theorem se_mod (ha : SB X C W H0 R a eInt mi) (hb : SB X C W H0 R b eInt mj) : SE X C W H0 R (.BinOp a .Mod b pos) eInt (mi >>= fun i => mj >>= fun j => fromO (modG i j)) :=
  sx_bin kF_ok op_modN ha hb fun x y σ H Q i j k1 k2 q => by
    obtain ⟨c, e, _, q⟩ := tR_done q
    unfold modG at e
    split at e
    · rename_i g
      cases e
      exact ⟨i, j, kB_int k1, kB_int k2, g, q _ H (.refl H) (.int _)⟩
    · cases e
theorem se_pow (ha : SB X C W H0 R a eInt mi) (hb : SB X C W H0 R b eInt mj) : SE X C W H0 R (.BinOp a .Pow b pos) eInt (mi >>= fun i => mj >>= fun j => fromO (powG i j)) :=
  sx_bin kF_ok op_pow ha hb fun x y σ H Q i j k1 k2 q => by
    obtain ⟨c, e, _, q⟩ := tR_done q
    unfold powG at e
    split at e
    · rename_i g
      cases e
      exact ⟨i, j, kB_int k1, kB_int k2, ⟨g.1, Int.le_trans g.2.1 (by decide), g.2.2⟩, q _ H (.refl H) (.int _)⟩
    · cases e
theorem se_neg (ha : SB X C W H0 R a eInt mi) : SE X C W H0 R (.UnaryOp .USub a pos) eInt (mi >>= fun i => pure (-i)) :=
  .weak (pe_un un_neg ha.run) fun σ H Q q => tR_one kF_ok q fun x H1 i k1 q1 => ⟨i, kB_int k1, (tR_pure q1).2 _ H1 (.refl H1) (.int _)⟩

/-! ### comparisons of ints -/
theorem sc_lt (ha : SB X C W H0 R a eInt mi) (hb : SB X C W H0 R b eInt mj) : SC X C W H0 R .Lt a b (mi >>= fun i => mj >>= fun j => pure (decide (i < j))) :=
  sc_cmp op_lt ha hb fun x y σ H Q i j k1 k2 q => ⟨i, j, kB_int k1, kB_int k2, (tR_pure q).2 _ H (.refl H) (.bl _)⟩
theorem sc_le (ha : SB X C W H0 R a eInt mi) (hb : SB X C W H0 R b eInt mj) : SC X C W H0 R .LtE a b (mi >>= fun i => mj >>= fun j => pure (decide (i ≤ j))) :=
  sc_cmp op_le ha hb fun x y σ H Q i j k1 k2 q => ⟨i, j, kB_int k1, kB_int k2, (tR_pure q).2 _ H (.refl H) (.bl _)⟩
theorem sc_gt (ha : SB X C W H0 R a eInt mi) (hb : SB X C W H0 R b eInt mj) : SC X C W H0 R .Gt a b (mi >>= fun i => mj >>= fun j => pure (decide (j < i))) :=
  sc_cmp op_gt ha hb fun x y σ H Q i j k1 k2 q => ⟨i, j, kB_int k1, kB_int k2, (tR_pure q).2 _ H (.refl H) (.bl _)⟩
theorem sc_ge (ha : SB X C W H0 R a eInt mi) (hb : SB X C W H0 R b eInt mj) : SC X C W H0 R .GtE a b (mi >>= fun i => mj >>= fun j => pure (decide (j ≤ i))) :=
  sc_cmp op_ge ha hb fun x y σ H Q i j k1 k2 q => ⟨i, j, kB_int k1, kB_int k2, (tR_pure q).2 _ H (.refl H) (.bl _)⟩

/-! ### == and != of any data -/
theorem reps_plain {K : PySem.W.Frag} {w : World} {H : Hp} {a : Addr} {vs : List V} {ds : List PyData} (h : SqL K H a vs) : True := trivial
/-- what may be compared -/
def eqG (x y : PyData) : Option Bool := if x.plain = true ∧ y.plain = true ∧ min x.depth y.depth < 60 then some (PyData.eqv x y) else none
theorem Inv.readsB {pins : List (Addr × Obj)} {σ : L2.St} {H : Hp} {s : Shared} (I : Inv X pins σ H s) {mt : Addr → Prop} {H1 : Hp} {v : V} {d : PyData} {u : Value} (h : kB X.K X.w mt H1 H v d) (r : RelV v u) : ∃ as, Reads s.heap u d as := by
  rcases h with h | ⟨a, vs, ds, rfl, rfl, h2, h3, _⟩
  · exact Inv.reads I h r
  · cases r
    obtain ⟨its, rv, ⟨o, n, ho, hc, hx, hd⟩, _⟩ := I.list (.inl (.inl h2))
    obtain ⟨as, ra⟩ := Inv.readsAll I h3 rv
    exact ⟨_, .list ho hc hd (by simpa using ra)⟩
def rDat (mt : Addr → Prop) (X : Cx) (g : PyData → PyData → Option Bool) : R2 := fun x y H Q => ∃ d e b, kB X.K X.w mt H H x d ∧ kB X.K X.w mt H H y e ∧ g d e = some b ∧ Q (.bl b) H
theorem op_eqG {mt : Addr → Prop} (hu : X.A.units + 64 < cLine) : OpR X (compareOp .Eq) (rDat mt X eqG) := by
  intro pins s σ H x y v u Q I rx ry h
  obtain ⟨d, e, b, hx, hy, g, q⟩ := h
  obtain ⟨as, ra⟩ := Inv.readsB I hx rx
  obtain ⟨bs, rb⟩ := Inv.readsB I hy ry
  unfold eqG at g
  split at g
  · rename_i c
    cases g
    exact SeqAt.eq_plain ra rb c.1 c.2.1 (by omega) (fin_bl I q rfl)
  · cases g
theorem op_neG {mt : Addr → Prop} (hu : X.A.units + 64 < cLine) : OpR X (compareOp .NotEq) (rDat mt X fun x y => (eqG x y).map not) := by
  intro pins s σ H x y v u Q I rx ry h
  obtain ⟨d, e, b, hx, hy, g, q⟩ := h
  obtain ⟨as, ra⟩ := Inv.readsB I hx rx
  obtain ⟨bs, rb⟩ := Inv.readsB I hy ry
  have g : (eqG d e).map not = some b := g
  unfold eqG at g
  split at g
  · rename_i c
    cases g
    exact SeqAt.ne_plain ra rb c.1 c.2.1 (by omega) (fin_bl I q rfl)
  · cases g
theorem sc_dat {op : CmpOp} {g : PyData → PyData → Option Bool} (ho : OpR X (compareOp op) (rDat C.mt X g)) (ha : SB X C W H0 R a ea ma) (hb : SB X C W H0 R b eb mb) :
    SC X C W H0 R op a b (ma >>= fun i => mb >>= fun j => fromO (g (ea i) (eb j))) :=
  sc_cmp ho ha hb fun x y σ H Q i j k1 k2 q => by
    obtain ⟨c, e, _, q⟩ := tR_done q
    exact ⟨_, _, c, k1, k2, e, q _ H (.refl H) (.bl _)⟩
theorem sc_eq (hu : X.A.units + 64 < cLine) (ha : SB X C W H0 R a ea ma) (hb : SB X C W H0 R b eb mb) : SC X C W H0 R .Eq a b (ma >>= fun i => mb >>= fun j => fromO (eqG (ea i) (eb j))) := sc_dat (op_eqG hu) ha hb
theorem sc_ne (hu : X.A.units + 64 < cLine) (ha : SB X C W H0 R a ea ma) (hb : SB X C W H0 R b eb mb) : SC X C W H0 R .NotEq a b (ma >>= fun i => mb >>= fun j => fromO ((eqG (ea i) (eb j)).map not)) := sc_dat (op_neG hu) ha hb
end
end TT

namespace TT
open PyM (fromO)
open PySem PySem.Spec PyProof.Rows L2

/-! ### tests -/
section
variable {K : PySem.W.Frag} {w : World} {m : Type → Type} [Monad m] [PyM m]
def AfterT (C : Wd K w m) (W : WX) (σ : L2.St) (H : Hp) (Q : Bool → Hp → Prop) : Res (PyM.S m) Bool → Prop
  | none => False
  | some (.ok a, s') => ∀ H', Ext C.mt H H' → C.rel s' H' → Q a H'
  | some (.error x, s') => ∀ cls d H', Ext C.mt H H' → C.rel s' H' → C.exc x cls d H' → W cls d σ H'
def tT (C : Wd K w m) (W : WX) (H0 : Hp) (R : Slots) (mm : m Bool) : TT := fun σ H Q => ∃ s, Cfg C H0 R s σ H ∧ AfterT C W σ H Q (PyM.run mm s)
structure ST (X : Cx) (C : Wd X.K X.w m) (W : WX) (H0 : Hp) (R : Slots) (ex : Expr) (mm : m Bool) : Prop where
  run : PT X ex (tT C W H0 R mm)
/-- a test whatever its whole is -/
structure SW (X : Cx) (C : Wd X.K X.w m) (W : WX) (H0 : Hp) (R : Slots) (ex : Expr) (mm : m Bool) : Prop where
  run : PW X ex (tT C W H0 R mm)
theorem SW.t {X : Cx} {C : Wd X.K X.w m} {W : WX} {H0 : Hp} {R : Slots} {ex : Expr} {mm : m Bool} (h : SW X C W H0 R ex mm) : ST X C W H0 R ex mm := ⟨h.run.pt⟩
theorem _root_.L2.PW.weak {X : Cx} {ex : Expr} {t t' : TT} (h : PW X ex t) (i : ∀ σ H Q, t' σ H Q → t σ H Q) : PW X ex t' := ⟨fun wh pins s σ H Q I q => h.run wh pins s σ H Q I (i σ H Q q)⟩
variable {C : Wd K w m} {W : WX} {H0 : Hp} {R : Slots} {k : Kd} {β : Type} {eb : β → PyData} {σ : L2.St} {H : Hp} {Q : VK}
theorem tT_bind (kk : KdOk k) {mc : m Bool} {f : Bool → m β} (h : tR C W H0 R k eb (mc >>= f) σ H Q) : tT C W H0 R mc σ H fun c H1 => tR C W H0 R k eb (f c) σ H1 Q := by
  obtain ⟨s, c, h⟩ := h
  refine ⟨s, c, ?_⟩
  rw [PyM.run_bind] at h
  cases q : PyM.run mc s with
  | none => rw [q] at h; exact h
  | some p =>
    obtain ⟨r, s1⟩ := p
    rw [q] at h
    cases r with
    | error x => exact h
    | ok a => exact fun H1 e rl => ⟨s1, c.ext e rl, After.back kk e rl h⟩
theorem tTT_bind {mc : m Bool} {f : Bool → m Bool} {Q : Bool → Hp → Prop} (h : tT C W H0 R (mc >>= f) σ H Q) : tT C W H0 R mc σ H fun c H1 => tT C W H0 R (f c) σ H1 Q := by
  obtain ⟨s, c, h⟩ := h
  refine ⟨s, c, ?_⟩
  rw [PyM.run_bind] at h
  cases q : PyM.run mc s with
  | none => rw [q] at h; exact h
  | some p =>
    obtain ⟨r, s1⟩ := p
    rw [q] at h
    cases r with
    | error x => exact h
    | ok a =>
      refine fun H1 e rl => ⟨s1, c.ext e rl, ?_⟩
      have h : AfterT C W σ H Q (PyM.run (f a) s1) := h
      cases z : PyM.run (f a) s1 with
      | none => rw [z] at h; exact h
      | some p2 =>
        obtain ⟨r2, s2⟩ := p2
        rw [z] at h
        cases r2 with
        | error x => exact fun cls d H' e' rl' => h cls d H' (e.trans e') rl'
        | ok a => exact fun H' e' rl' => h H' (e.trans e') rl'
theorem tT_pure {b : Bool} {Q : Bool → Hp → Prop} (h : tT C W H0 R (pure b) σ H Q) : Q b H := by
  obtain ⟨s, c, h⟩ := h
  rw [PyM.run_pure] at h
  exact h H .refl c.rel
/-- a bool's evaluation, as a test -/
theorem tT_of {mm : m Bool} {Q : Bool → Hp → Prop} (h : tT C W H0 R mm σ H Q) : tR C W H0 R (kF K w C.mt) eBool mm σ H fun x H' => ∃ c, x = .bl c ∧ Q c H' := by
  obtain ⟨s, c, h⟩ := h
  refine ⟨s, c, ?_⟩
  cases q : PyM.run mm s with
  | none => rw [q] at h; exact h
  | some p =>
    obtain ⟨r, s1⟩ := p
    rw [q] at h
    cases r with
    | error x => exact h
    | ok a => exact fun v H1 e rl kv => ⟨a, kB_bool (mt := C.mt) (H := H1) (.inl kv), h H1 e rl⟩
end
section
variable {X : Cx} {m : Type → Type} [Monad m] [PyM m] {C : Wd X.K X.w m} {W : WX} {H0 : Hp} {R : Slots} {k : Kd} {α β γ : Type} {ea : α → PyData} {eb : β → PyData} {ec : γ → PyData}
variable {a b c : Expr} {es : List Expr} {ma : m α} {mb : m β} {mi mj : m Int} {pos : Pos} {mc md : m Bool}
theorem SX.t (h : SE X C W H0 R a eBool mc) (he : ∀ whole, isTrue a X.env whole = (do let v ← whole; standAt a.pos; holding [v] (truthy v))) : ST X C W H0 R a mc :=
  ⟨(pt_val h.run he).weak fun σ H Q q => tT_of q⟩
theorem SC.t {op : CmpOp} (h : SC X C W H0 R op a b mc) (hm : behindInMarks op b = false) : ST X C W H0 R (.Compare a [op] [b] pos) mc := ⟨(pt_cmp h.run hm).weak fun σ H Q q => tT_of q⟩
theorem sw_and1 (h : ST X C W H0 R a mc) : SW X C W H0 R (.BoolOp .And [a] pos) mc := ⟨pw_and1 h.run⟩
theorem sw_or1 (h : ST X C W H0 R a mc) : SW X C W H0 R (.BoolOp .Or [a] pos) mc := ⟨pw_or1 h.run⟩
theorem sw_and (ha : ST X C W H0 R a mc) (hb : SW X C W H0 R (.BoolOp .And (b :: es) pos) md) : SW X C W H0 R (.BoolOp .And (a :: b :: es) pos) (mc >>= fun c => if c = true then md else pure false) :=
  ⟨(pw_and ha.run hb.run).weak fun σ H Q q => by
    obtain ⟨s, c, q⟩ := tTT_bind q
    refine ⟨s, c, ?_⟩
    cases z : PyM.run mc s with
    | none => rw [z] at q; exact q
    | some p =>
      obtain ⟨r, s1⟩ := p
      rw [z] at q
      cases r with
      | error x => exact q
      | ok a =>
        intro H' e rl
        have q := q H' e rl
        cases a with
        | true => exact q
        | false => exact tT_pure q⟩
theorem sw_or (ha : ST X C W H0 R a mc) (hb : SW X C W H0 R (.BoolOp .Or (b :: es) pos) md) : SW X C W H0 R (.BoolOp .Or (a :: b :: es) pos) (mc >>= fun c => if c = true then pure true else md) :=
  ⟨(pw_or ha.run hb.run).weak fun σ H Q q => by
    obtain ⟨s, c, q⟩ := tTT_bind q
    refine ⟨s, c, ?_⟩
    cases z : PyM.run mc s with
    | none => rw [z] at q; exact q
    | some p =>
      obtain ⟨r, s1⟩ := p
      rw [z] at q
      cases r with
      | error x => exact q
      | ok a =>
        intro H' e rl
        have q := q H' e rl
        cases a with
        | true => exact tT_pure q
        | false => exact q⟩
theorem st_not (ha : ST X C W H0 R a mc) : ST X C W H0 R (.UnaryOp .Not a pos) (mc >>= fun c => pure (!c)) :=
  ⟨(pt_not ha.run).weak fun σ H Q q => by
    obtain ⟨s, c, q⟩ := tTT_bind q
    refine ⟨s, c, ?_⟩
    cases z : PyM.run mc s with
    | none => rw [z] at q; exact q
    | some p =>
      obtain ⟨r, s1⟩ := p
      rw [z] at q
      cases r with
      | error x => exact q
      | ok a => exact fun H' e rl => tT_pure (q H' e rl)⟩
theorem kF_bool {K : PySem.W.Frag} {w : World} {mt : Addr → Prop} {H H' : Hp} {v : V} {i : Bool} (h : kF K w mt H H' v (.bool i)) : v = .bl i := kB_bool (mt := mt) (H := H) (.inl h)
/-- and, or, not as values -/
theorem se_and1 (h : SE X C W H0 R a eBool mc) : SE X C W H0 R (.BoolOp .And [a] pos) eBool mc := ⟨pe_one h.run⟩
theorem se_or1 (h : SE X C W H0 R a eBool mc) : SE X C W H0 R (.BoolOp .Or [a] pos) eBool mc := ⟨pe_one h.run⟩
theorem se_and (ha : SE X C W H0 R a eBool mc) (hb : SE X C W H0 R (.BoolOp .And (b :: es) pos) eBool md) : SE X C W H0 R (.BoolOp .And (a :: b :: es) pos) eBool (mc >>= fun c => if c = true then md else pure false) :=
  .weak (pe_and ha.run hb.run) fun σ H Q q => tR_imp (tR_bind kF_ok q) fun v H1 ⟨a, e, kv, q1⟩ => ⟨a, kF_bool kv, by
    cases a with
    | true => exact q1
    | false => exact (tR_pure q1).2 _ H1 (.refl H1) (.bl _)⟩
theorem se_or (ha : SE X C W H0 R a eBool mc) (hb : SE X C W H0 R (.BoolOp .Or (b :: es) pos) eBool md) : SE X C W H0 R (.BoolOp .Or (a :: b :: es) pos) eBool (mc >>= fun c => if c = true then pure true else md) :=
  .weak (pe_or ha.run hb.run) fun σ H Q q => tR_imp (tR_bind kF_ok q) fun v H1 ⟨a, e, kv, q1⟩ => ⟨a, kF_bool kv, by
    cases a with
    | true => exact (tR_pure q1).2 _ H1 (.refl H1) (.bl _)
    | false => exact q1⟩
theorem se_not (ha : SE X C W H0 R a eBool mc) : SE X C W H0 R (.UnaryOp .Not a pos) eBool (mc >>= fun c => pure (!c)) :=
  .weak (pe_not ha.run) fun σ H Q q => tR_imp (tR_bind kF_ok q) fun v H1 ⟨a, e, kv, q1⟩ => ⟨a, kF_bool kv, (tR_pure q1).2 _ H1 (.refl H1) (.bl _)⟩
theorem sx_if {na nb : m α} (kk : KdOk k) (hc : ST X C W H0 R c mc) (ha : SX X C W H0 R k a ea na) (hb : SX X C W H0 R k b ea nb) : SX X C W H0 R k (.IfExp c a b pos) ea (mc >>= fun c => if c = true then na else nb) :=
  .weak (pe_ifExp hc.run ha.run hb.run) fun σ H Q q => by
    obtain ⟨s, c, q⟩ := tT_bind kk q
    refine ⟨s, c, ?_⟩
    cases z : PyM.run mc s with
    | none => rw [z] at q; exact q
    | some p =>
      obtain ⟨r, s1⟩ := p
      rw [z] at q
      cases r with
      | error x => exact q
      | ok a =>
        intro H' e rl
        have q := q H' e rl
        cases a with
        | true => exact q
        | false => exact q
/-- is None -/
def isNon : PyData → Bool
  | .none => true
  | _ => false
theorem isNon_of {K : PySem.W.Frag} {w : World} {mt : Addr → Prop} {H H' : Hp} {v : V} {d : PyData} (h : kB K w mt H H' v d) : decide (v = .non) = isNon d := by
  rcases h with h | ⟨a, vs, ds, rfl, rfl, _⟩
  · cases h <;> simp [isNon]
  · simp [isNon]
theorem sc_is {j} {pos' : Pos} (ha : SB X C W H0 R a ea ma) : SC X C W H0 R .Is a (.Constant .none j pos') (ma >>= fun i => pure (isNon (ea i))) :=
  sc_cmp (mb := pure ()) (eb := eNon) op_isN ha (SX.b se_non) (g := fun i _ => pure (isNon (ea i))) (fun x y σ H Q i j k1 k2 q => ⟨kB_non k2, by rw [isNon_of k1]; exact (tR_pure q).2 _ H (.refl H) (.bl _)⟩) |> fun h => ⟨by
    have := h.run
    refine ⟨fun pins s σ H Q I q => this.run pins s σ H Q I ?_⟩
    obtain ⟨s, c, q⟩ := q
    refine ⟨s, c, ?_⟩
    have e : PyM.run (ma >>= fun i => (pure () : m Unit) >>= fun _ => pure (isNon (ea i))) s = PyM.run (ma >>= fun i => pure (isNon (ea i))) s := by
      rw [PyM.run_bind, PyM.run_bind]
      congr 1
      funext a s'
      rw [PyM.run_bind, PyM.run_pure]
      rfl
    rw [e]
    exact q⟩
theorem sc_isnot {j} {pos' : Pos} (ha : SB X C W H0 R a ea ma) : SC X C W H0 R .IsNot a (.Constant .none j pos') (ma >>= fun i => pure (!isNon (ea i))) :=
  sc_cmp (mb := pure ()) (eb := eNon) op_notN ha (SX.b se_non) (g := fun i _ => pure (!isNon (ea i))) (fun x y σ H Q i j k1 k2 q => ⟨kB_non k2, by rw [isNon_of k1]; exact (tR_pure q).2 _ H (.refl H) (.bl _)⟩) |> fun h => ⟨by
    have := h.run
    refine ⟨fun pins s σ H Q I q => this.run pins s σ H Q I ?_⟩
    obtain ⟨s, c, q⟩ := q
    refine ⟨s, c, ?_⟩
    have e : PyM.run (ma >>= fun i => (pure () : m Unit) >>= fun _ => pure (!isNon (ea i))) s = PyM.run (ma >>= fun i => pure (!isNon (ea i))) s := by
      rw [PyM.run_bind, PyM.run_bind]
      congr 1
      funext a s'
      rw [PyM.run_bind, PyM.run_pure]
      rfl
    rw [e]
    exact q⟩
end

/-! ### argument lists and displays -/
section
variable {K : PySem.W.Frag} {w : World} {m : Type → Type} [Monad m] [PyM m]
def AfterA (C : Wd K w m) (W : WX) {γ : Type} (eg : γ → List PyData) (σ : L2.St) (H : Hp) (Q : List V → Hp → Prop) : Res (PyM.S m) γ → Prop
  | none => False
  | some (.ok g, s') => ∀ vs H', Ext C.mt H H' → C.rel s' H' → Reps K w H' vs (eg g) → Q vs H'
  | some (.error x, s') => ∀ cls d H', Ext C.mt H H' → C.rel s' H' → C.exc x cls d H' → W cls d σ H'
def tA (C : Wd K w m) (W : WX) (H0 : Hp) (R : Slots) {γ : Type} (eg : γ → List PyData) (mm : m γ) : TA := fun σ H Q => ∃ s, Cfg C H0 R s σ H ∧ AfterA C W eg σ H Q (PyM.run mm s)
structure SA (X : Cx) (C : Wd X.K X.w m) (W : WX) (H0 : Hp) (R : Slots) (es : List Expr) {γ : Type} (eg : γ → List PyData) (mm : m γ) : Prop where
  run : PA X es (tA C W H0 R eg mm)
theorem _root_.L2.PA.weak {X : Cx} {es : List Expr} {t t' : TA} (h : PA X es t) (i : ∀ σ H Q, t' σ H Q → t σ H Q) : PA X es t' := ⟨fun pos pins s σ H Q I q => h.run pos pins s σ H Q I (i σ H Q q)⟩
end
section
variable {X : Cx} {m : Type → Type} [Monad m] [PyM m] {C : Wd X.K X.w m} {W : WX} {H0 : Hp} {R : Slots} {k : Kd} {α β γ : Type} {ea : α → PyData} {eb : β → PyData} {ec : γ → PyData}
variable {a b c : Expr} {es : List Expr} {ma : m α} {mb : m β} {mi mj : m Int} {pos : Pos} {mc md : m Bool} {eg : γ → List PyData} {mg : m γ}
theorem sa_one (ha : SE X C W H0 R a ea ma) (hs : starEach (a :: []) X.env = (false, eval a X.env) :: starEach [] X.env := by rfl) : SA X C W H0 R [a] (fun x => [ea x]) ma :=
  ⟨(pa_cons ha.run pa_nil hs).weak fun σ H Q q => by
    obtain ⟨s, c, q⟩ := q
    refine ⟨s, c, ?_⟩
    cases z : PyM.run ma s with
    | none => rw [z] at q; exact q
    | some p =>
      obtain ⟨r, s1⟩ := p
      rw [z] at q
      cases r with
      | error x => exact q
      | ok a => exact fun v H' e rl kv => q [v] H' e rl (.cons kv .nil)⟩
theorem sa_cons (ha : SE X C W H0 R a ea ma) (hb : SA X C W H0 R es eg mg) (hs : starEach (a :: es) X.env = (false, eval a X.env) :: starEach es X.env := by rfl) :
    SA X C W H0 R (a :: es) (fun p : α × γ => ea p.1 :: eg p.2) (ma >>= fun x => mg >>= fun g => pure (x, g)) :=
  ⟨(pa_cons ha.run hb.run hs).weak fun σ H Q q => by
    obtain ⟨s, c, q⟩ := q
    refine ⟨s, c, ?_⟩
    rw [PyM.run_bind] at q
    cases z : PyM.run ma s with
    | none => rw [z] at q; exact q
    | some p =>
      obtain ⟨r, s1⟩ := p
      rw [z] at q
      cases r with
      | error x => exact q
      | ok a =>
        intro v H1 e rl kv
        have q : AfterA C W (fun p : α × γ => ea p.1 :: eg p.2) σ H Q (PyM.run (mg >>= fun g => pure (a, g)) s1) := q
        rw [PyM.run_bind] at q
        refine ⟨s1, c.ext e rl, ?_⟩
        cases z2 : PyM.run mg s1 with
        | none => rw [z2] at q; exact q
        | some p2 =>
          obtain ⟨r2, s2⟩ := p2
          rw [z2] at q
          cases r2 with
          | error x => exact fun cls d H' e' rl' => q cls d H' (e.trans e') rl'
          | ok g =>
            have q : AfterA C W (fun p : α × γ => ea p.1 :: eg p.2) σ H Q (PyM.run (pure (a, g) : m (α × γ)) s2) := q
            rw [PyM.run_pure] at q
            exact fun vs H' e' rl' rs => q (v :: vs) H' (e.trans e') rl' (.cons (Rep.firm e'.firms kv) rs)⟩
theorem small64 {n : Nat} (h : n ≤ 64) : n ≤ sizeLine := Nat.le_trans h (by rw [sizeLine_eq]; decide)
theorem se_tup {et : γ → PyData} {x1 : Nat} (h : SA X C W H0 R es eg mg) (q : ∀ g, et g = .tuple (eg g)) (hl : ∀ g, (eg g).length ≤ 64) : SE X C W H0 R (.Tuple es x1 pos) et mg :=
  .weak (pe_tup h.run) fun σ H Q z => by
    obtain ⟨s, c, z⟩ := z
    refine ⟨s, c, ?_⟩
    cases y : PyM.run mg s with
    | none => rw [y] at z; exact z
    | some p =>
      obtain ⟨r, s1⟩ := p
      rw [y] at z
      cases r with
      | error x => exact z
      | ok g =>
        intro vs H' e rl rs
        refine ⟨small64 (by rw [rs.length]; exact hl g), fun p hp => z _ _ (e.trans (.of_same (Same.new hp))) (C.keep _ _ _ rl (Same.new hp)) ?_⟩
        show Rep _ _ _ _ (et g)
        rw [q]
        exact .tup (.of upd_same) (Reps.firm (fun b o h _ => Same.new hp b o h) rs)
theorem se_tup0 {x1} : SE X C W H0 R (.Tuple [] x1 pos) (eTup ea) (pure []) :=
  .weak (pe_tup pa_nil) fun σ H Q z => ⟨small64 (Nat.zero_le _), fun p hp => (tR_pure z).2 _ _ (Same.new hp) (.tup (.of upd_same) .nil)⟩
theorem so_nil : SO X C W H0 R (.List [] pos) (eLst ea) (pure []) :=
  .weak (pe_lst pa_nil) fun σ H Q z => ⟨small64 (Nat.zero_le _), fun p hp => (tR_pure z).2 _ _ (Same.new hp) ⟨p, [], [], rfl, rfl, upd_same, .nil, hp⟩⟩
theorem so_lst {f : γ → List α} (h : SA X C W H0 R es eg mg) (q : ∀ g, (f g).map ea = eg g) (hl : ∀ g, (eg g).length ≤ 64) : SO X C W H0 R (.List es pos) (eLst ea) (mg >>= fun g => pure (f g)) :=
  .weak (pe_lst h.run) fun σ H Q z => by
    obtain ⟨s, c, z⟩ := z
    refine ⟨s, c, ?_⟩
    rw [PyM.run_bind] at z
    cases y : PyM.run mg s with
    | none => rw [y] at z; exact z
    | some p =>
      obtain ⟨r, s1⟩ := p
      rw [y] at z
      cases r with
      | error x => exact z
      | ok g =>
        intro vs H' e rl rs
        have z : After C W (kO X.K X.w C.mt) (eLst ea) σ H Q (PyM.run (pure (f g)) s1) := z
        rw [PyM.run_pure] at z
        refine ⟨small64 (by rw [rs.length]; exact hl g), fun p hp => z _ _ (e.trans (.of_same (Same.new hp))) (C.keep _ _ _ rl (Same.new hp)) ⟨p, vs, eg g, rfl, ?_, upd_same, Reps.firm (fun b o h _ => Same.new hp b o h) rs, ?_⟩⟩
        · show PyData.list _ = _
          rw [q]
        · exact none_back e (fun b hb => let ⟨o, ho, _⟩ := C.there _ _ _ rl hb; ⟨o, ho⟩) p hp
/-- a tuple of things of one kind -/
theorem se_tupH {f : γ → List α} {x1 : Nat} (h : SA X C W H0 R es eg mg) (q : ∀ g, (f g).map ea = eg g) (hl : ∀ g, (eg g).length ≤ 64) : SE X C W H0 R (.Tuple es x1 pos) (eTup ea) (mg >>= fun g => pure (f g)) :=
  SX.map (se_tup (et := fun g => .tuple (eg g)) h (fun _ => rfl) hl) kF_ok f fun g => by show PyData.tuple _ = _; rw [q]

/-! ### subscripts -/
theorem Reps.atI {K : PySem.W.Frag} {w : World} {H : Hp} {vs : List V} {ds : List PyData} {i : Int} {d : PyData} (r : Reps K w H vs ds) (h : L2.atI ds i = some d) : ∃ v, L2.atI vs i = some v ∧ Rep K w H v d := by
  unfold L2.atI at h ⊢
  rw [r.length]
  cases e : ixN ds.length i with
  | none => rw [e] at h; cases h
  | some j =>
    rw [e] at h
    exact r.get h
theorem atI_map {f : α → β} {xs : List α} {i : Int} : L2.atI (xs.map f) i = (L2.atI xs i).map f := by
  unfold L2.atI
  rw [List.length_map]
  cases ixN xs.length i with
  | none => rfl
  | some j => exact List.getElem?_map
theorem sx_ix {r : R2} (kk : KdOk k) (hr : IxR X r) (ha : SB X C W H0 R a ea ma) (hb : SB X C W H0 R b eb mb) (hs : PlainIx b) {g : α → β → m γ}
    (h : ∀ x y σ H Q i j, kB X.K X.w C.mt H H x (ea i) → kB X.K X.w C.mt H H y (eb j) → tR C W H0 R k ec (g i j) σ H Q → r x y H Q) :
    SX X C W H0 R k (.Subscript a b pos) ec (ma >>= fun i => mb >>= fun j => g i j) :=
  .weak (pe_ix hr ha.run hb.run hs) fun σ H Q q => tR_two (tb := fun _ _ _ => True) kk q fun x y H2 i j k1 k2 q2 => h x y σ H2 Q i j k1 k2 q2
theorem se_ixT {mxs : m (List α)} (ha : SB X C W H0 R a (eTup ea) mxs) (hb : SB X C W H0 R b eInt mi) (hs : PlainIx b) : SE X C W H0 R (.Subscript a b pos) ea (mxs >>= fun xs => mi >>= fun i => fromO (L2.atI xs i)) :=
  sx_ix kF_ok ix_tup ha hb hs fun x y σ H Q xs i k1 k2 q => by
    obtain ⟨c, e, _, q⟩ := tR_done q
    obtain ⟨p, vs, rfl, h1, h2⟩ := kB_tup k1
    obtain ⟨v, e1, r⟩ := h2.atI (i := i) (d := ea c) (by rw [atI_map, e]; rfl)
    exact ⟨p, vs, i, v, rfl, kB_int k2, h1, e1, q v H (.refl H) r⟩
theorem se_ixL {mxs : m (List α)} (ha : SB X C W H0 R a (eLst ea) mxs) (hb : SB X C W H0 R b eInt mi) (hs : PlainIx b) : SE X C W H0 R (.Subscript a b pos) ea (mxs >>= fun xs => mi >>= fun i => fromO (L2.atI xs i)) :=
  sx_ix kF_ok ix_list ha hb hs fun x y σ H Q xs i k1 k2 q => by
    obtain ⟨c, e, _, q⟩ := tR_done q
    obtain ⟨p, vs, rfl, h1, h2⟩ := kB_lst k1
    obtain ⟨v, e1, r⟩ := h2.atI (i := i) (d := ea c) (by rw [atI_map, e]; rfl)
    exact ⟨p, vs, i, v, rfl, kB_int k2, h1, e1, q v H (.refl H) r⟩
/-- a written place of a tuple of known form -/
theorem se_ixC {i : Int} (ha : SB X C W H0 R a ea ma) (hb : SB X C W H0 R b eInt (pure i)) (hs : PlainIx b) (f : α → γ) (h : ∀ p, ∃ ds, ea p = .tuple ds ∧ L2.atI ds i = some (ec (f p))) :
    SE X C W H0 R (.Subscript a b pos) ec (ma >>= fun p => pure (f p)) :=
  .weak (pe_ix ix_tup ha.run hb.run hs) fun σ H Q q => tR_imp (tR_bind kF_ok q) fun x H1 ⟨p, e1, k1, q1⟩ => by
    obtain ⟨s, c, q1⟩ := q1
    rw [PyM.run_pure] at q1
    refine ⟨s, c, ?_⟩
    rw [PyM.run_pure]
    intro y H2 e rl ky
    obtain ⟨ds, h1, h2⟩ := h p
    have k1' := kB.ext e k1
    rw [h1] at k1'
    obtain ⟨t, vs, rfl, h3, h4⟩ := kB_tup k1'
    obtain ⟨v, e2, r⟩ := h4.atI h2
    refine ⟨t, vs, i, v, rfl, kB_int ky, h3, e2, ?_⟩
    exact q1 v H2 e rl r
end
end TT

namespace TT
open PyM (fromO)
open PySem PySem.Spec PyProof.Rows L2

/-! ### what a loop walks -/
structure Wk (K : PySem.W.Frag) (w : World) (P : Hp → Prop) (J : It) (ds : List PyData) : Prop where
  go : ∀ i H, P H → i < ds.length → J.go i H ∧ ∀ x H', J.yld i H x H' → Same H H' ∧ ∃ d, ds[i]? = some d ∧ Rep K w H' x d
  stop : ∀ i H, P H → ds.length ≤ i → J.stop i H
  len : ds.length ≤ sizeLine
/-- while what is firm stands; while all that was tracked stands -/
abbrev Pk := Hp → Hp → Prop
section
variable {K : PySem.W.Frag} {w : World} {m : Type → Type} [Monad m] [PyM m]
def AfterI (C : Wd K w m) (W : WX) (P : Pk) {α : Type} (e : α → PyData) (σ : L2.St) (H : Hp) (Q : It → Hp → Prop) : Res (PyM.S m) (List α) → Prop
  | none => False
  | some (.ok xs, s') => ∀ J H', Ext C.mt H H' → C.rel s' H' → Wk K w (P H') J (xs.map e) → Q J H'
  | some (.error x, s') => ∀ cls d H', Ext C.mt H H' → C.rel s' H' → C.exc x cls d H' → W cls d σ H'
def tI (C : Wd K w m) (W : WX) (H0 : Hp) (R : Slots) (P : Pk) {α : Type} (e : α → PyData) (mm : m (List α)) : TI := fun σ H Q => ∃ s, Cfg C H0 R s σ H ∧ AfterI C W P e σ H Q (PyM.run mm s)
structure SI (X : Cx) (C : Wd X.K X.w m) (W : WX) (H0 : Hp) (R : Slots) (P : Pk) (tg ex : Expr) {α : Type} (e : α → PyData) (mm : m (List α)) : Prop where
  run : PI X tg ex (tI C W H0 R P e mm)
end
theorem _root_.L2.PI.weak {X : Cx} {tg ex : Expr} {t t' : TI} (h : PI X tg ex t) (i : ∀ σ H Q, t' σ H Q → t σ H Q) : PI X tg ex t' := ⟨fun pins s σ H Q I q => h.run pins s σ H Q I (i σ H Q q)⟩
/-- lengths that the heap grants -/
def LenOk (K : PySem.W.Frag) (H : Hp) : Prop := (∀ a vs, SqL K H a vs → vs.length ≤ sizeLine) ∧ (∀ a vs, SqT K H a vs → vs.length ≤ sizeLine) ∧ (∀ a vs ws, SqL K H a vs → SqL K H a ws → vs = ws) ∧ (∀ a vs ws, SqT K H a vs → SqT K H a ws → vs = ws)
theorem Inv.lenOk {X : Cx} {pins : List (Addr × Obj)} {σ : L2.St} {H : Hp} {s : Shared} (I : Inv X pins σ H s) : LenOk X.K H :=
  ⟨fun a vs h => let ⟨_, _, _, z⟩ := I.list h; z, fun a vs h => let ⟨_, _, _, z⟩ := I.tuple h; z, fun a vs ws h h' => I.list_inj h h', fun a vs ws h h' => I.tuple_inj h h'⟩
theorem _root_.L2.PE.facts {X : Cx} {ex : Expr} {t : TE} (h : PE X ex t) : PE X ex fun σ H Q => t σ H fun v H' => LenOk X.K H' → Q v H' :=
  ⟨fun pins s σ H Q I q => thn (h.run pins s σ H _ I q) fun u s' ⟨v, H', I', r, q⟩ => ⟨v, H', I', r, q (Inv.lenOk I')⟩⟩
theorem _root_.L2.PA.facts {X : Cx} {es : List Expr} {t : TA} (h : PA X es t) : PA X es fun σ H Q => t σ H fun v H' => LenOk X.K H' → Q v H' :=
  ⟨fun pos pins s σ H Q I q => thn (h.run pos pins s σ H _ I q) fun u s' ⟨v, H', I', r, q⟩ => ⟨v, H', I', r, q (Inv.lenOk I')⟩⟩

section
variable {X : Cx} {m : Type → Type} [Monad m] [PyM m] {C : Wd X.K X.w m} {W : WX} {H0 : Hp} {R : Slots} {P : Pk} {α β γ : Type} {ea : α → PyData} {eb : β → PyData} {ec : γ → PyData}
variable {a b c tg : Expr} {es : List Expr} {ma : m α} {mb : m β} {mi mj : m Int} {pos p : Pos} {mxs : m (List α)}
theorem tI_of {σ : L2.St} {H : Hp} {Q : It → Hp → Prop} {k : Kd} {e : List α → PyData} (h : tI C W H0 R P ea mxs σ H Q) {Q' : VK}
    (i : ∀ xs s' v H', Ext C.mt H H' → C.rel s' H' → k H H' v (e xs) → (∀ J, Wk X.K X.w (P H') J (xs.map ea) → Q J H') → Q' v H') : tR C W H0 R k e mxs σ H Q' := by
  obtain ⟨s, c, h⟩ := h
  refine ⟨s, c, ?_⟩
  cases q : PyM.run mxs s with
  | none => rw [q] at h; exact h
  | some p =>
    obtain ⟨r, s1⟩ := p
    rw [q] at h
    cases r with
    | error x => exact h
    | ok xs => exact fun v H' e rl kv => i xs s1 v H' e rl kv fun J wk => h J H' e rl wk
theorem wk_tup {K : PySem.W.Frag} {w : World} {H : Hp} {a : Addr} {vs : List V} {ds : List PyData} (l : LenOk K H) (h : SqT K H a vs) (r : Reps K w H vs ds) (fs : ∀ {H'}, P H H' → Firms H H') : Wk K w (P H) (Itt K a) ds where
  go := fun i H' p hi => by
    obtain ⟨v, hv, rv⟩ := r.get (i := i) (List.getElem?_eq_getElem hi)
    refine ⟨⟨vs, v, SqT.firm (fs p) h, hv⟩, fun x H2 y => ?_⟩
    obtain ⟨rfl, y⟩ := y
    have e := y vs (SqT.firm (fs p) h)
    rw [hv] at e; cases e
    exact ⟨.refl _, _, List.getElem?_eq_getElem hi, Rep.firm (fs p) rv⟩
  stop := fun i H' p hi => ⟨vs, SqT.firm (fs p) h, by rw [r.length]; exact hi⟩
  len := by rw [← r.length]; exact l.2.1 _ _ h
theorem si_tup (ha : SB X C W H0 R a (eTup ea) mxs) (fs : ∀ {H H'}, P H H' → Firms H H') : SI X C W H0 R P tg a ea mxs :=
  ⟨(pi_tup (PE.facts ha.run)).weak fun σ H Q q => tI_of q fun xs s' v H' e rl kv f l => by
    obtain ⟨t, vs, rfl, h1, h2⟩ := kB_tup kv
    exact ⟨t, rfl, ⟨vs, h1⟩, f _ (wk_tup l h1 h2 fs)⟩⟩
theorem wk_lst {K : PySem.W.Frag} {w : World} {H : Hp} {a : Addr} {vs : List V} {ds : List PyData} (l : LenOk K H) (h : SqL K H a vs) (r : Reps K w H vs ds) (fs : ∀ {H'}, P H H' → Firms H H') (ls : ∀ {H'}, P H H' → SqL K H' a vs) : Wk K w (P H) (Itl K a) ds where
  go := fun i H' p hi => by
    obtain ⟨v, hv, rv⟩ := r.get (i := i) (List.getElem?_eq_getElem hi)
    refine ⟨⟨vs, v, ls p, hv⟩, fun x H2 y => ?_⟩
    obtain ⟨rfl, y⟩ := y
    have e := y vs (ls p)
    rw [hv] at e; cases e
    exact ⟨.refl _, _, List.getElem?_eq_getElem hi, Rep.firm (fs p) rv⟩
  stop := fun i H' p hi => ⟨vs, ls p, by rw [r.length]; exact hi⟩
  len := by rw [← r.length]; exact l.1 _ _ h
/-- a list that nobody writes any more -/
theorem si_lst (ha : SE X C W H0 R a (eLst ea) mxs) (fs : ∀ {H H'}, P H H' → Firms H H') : SI X C W H0 R P tg a ea mxs :=
  ⟨(pi_list (PE.facts ha.run)).weak fun σ H Q q => tI_of q fun xs s' v H' e rl kv f l => by
    have kv : Rep X.K X.w H' v (.list (xs.map ea)) := kv
    cases kv with
    | lst h r => exact ⟨_, rfl, ⟨_, h.sq⟩, f _ (wk_lst l h.sq r fs fun p => (h.firm (fs p)).sq)⟩⟩
/-- a list that is not written while it is walked -/
theorem si_lstB (ha : SB X C W H0 R a (eLst ea) mxs) : SI X C W H0 R (Ext C.mt) tg a ea mxs :=
  ⟨(pi_list (PE.facts ha.run)).weak fun σ H Q q => tI_of q fun xs s' v H' e rl kv f l => by
    rcases kv with h | ⟨t, vs, ds, h1, h2, h3, h4, h5⟩
    · have kv : Rep X.K X.w H' v (.list (xs.map ea)) := h
      cases kv with
      | lst h9 r => exact ⟨_, rfl, ⟨_, h9.sq⟩, f _ (wk_lst l h9.sq r Ext.firms fun p => (h9.firm (Ext.firms p)).sq)⟩
    · have h2 : PyData.list (xs.map ea) = .list ds := h2
      injection h2 with h2
      subst h2
      exact ⟨t, h1, ⟨vs, .of h3⟩, f _ (wk_lst l (.of h3) h4 Ext.firms fun p => .of (p _ _ h3 (.inl h5)))⟩⟩
/-- lo, lo + 1, .. -/
def rangeL (lo : Int) : Nat → List Int
  | 0 => []
  | n + 1 => lo :: rangeL (lo + 1) n
theorem rangeL_len : ∀ (n : Nat) (lo : Int), (rangeL lo n).length = n
  | 0, _ => rfl
  | n + 1, lo => by show (rangeL (lo + 1) n).length + 1 = _; rw [rangeL_len n]
theorem rangeL_get : ∀ (n : Nat) (lo : Int) (i : Nat), i < n → (rangeL lo n)[i]? = some (lo + i)
  | 0, _, _, h => absurd h (Nat.not_lt_zero _)
  | n + 1, lo, 0, _ => by show some lo = _; simp
  | n + 1, lo, i + 1, h => by
    show (rangeL (lo + 1) n)[i]? = _
    rw [rangeL_get n (lo + 1) i (by omega)]
    congr 1
    omega
theorem wk_range {K : PySem.W.Frag} {w : World} {Q : Hp → Prop} {lo : Int} {n : Nat} (hn : n ≤ sizeLine) : Wk K w Q (Itr lo n) ((rangeL lo n).map eInt) where
  go := fun i H _ hi => by
    rw [List.length_map, rangeL_len] at hi
    refine ⟨hi, fun x H' y => ?_⟩
    obtain ⟨rfl, rfl⟩ := y
    exact ⟨.refl _, _, by rw [List.getElem?_map, rangeL_get n lo i hi]; rfl, .int _⟩
  stop := fun i H _ hi => by rw [List.length_map, rangeL_len] at hi; exact hi
  len := by rw [List.length_map, rangeL_len]; exact hn
/-- range(n), range(a, b) -/
def rangeG (lo hi : Int) : Option (List Int) := if -1000000000 ≤ lo ∧ lo ≤ 1000000000 ∧ -1000000000 ≤ hi ∧ hi ≤ 1000000000 ∧ hi - lo ≤ 16777216 then some (rangeL lo (hi - lo).toNat) else none
theorem rangeG_some {lo hi : Int} {xs : List Int} (h : rangeG lo hi = some xs) : (-1000000000 ≤ lo ∧ lo ≤ 1000000000 ∧ -1000000000 ≤ hi ∧ hi ≤ 1000000000 ∧ hi - lo ≤ 16777216) ∧ xs = rangeL lo (hi - lo).toNat := by
  unfold rangeG at h
  split at h
  · rename_i g
    cases h
    exact ⟨g, rfl⟩
  · cases h
theorem tI_done {o : Option (List α)} {σ : L2.St} {H : Hp} {Q : It → Hp → Prop} (h : tI C W H0 R P ea (fromO o) σ H Q) : ∃ xs, o = some xs ∧ ∀ J, Wk X.K X.w (P H) J (xs.map ea) → Q J H := by
  obtain ⟨s, c, h⟩ := h
  rw [PyM.run_fromO] at h
  cases o with
  | none => exact h.elim
  | some a => exact ⟨a, rfl, fun J wk => h J H .refl c.rel wk⟩
theorem tI_bind {f : α → m (List β)} {k : Kd} {σ : L2.St} {H : Hp} {Q : It → Hp → Prop} (h : tI C W H0 R P eb (ma >>= f) σ H Q) :
    tR C W H0 R k ea ma σ H fun v H1 => ∃ a, Ext C.mt H H1 ∧ k H H1 v (ea a) ∧ tI C W H0 R P eb (f a) σ H1 Q := by
  obtain ⟨s, c, h⟩ := h
  refine ⟨s, c, ?_⟩
  rw [PyM.run_bind] at h
  cases q : PyM.run ma s with
  | none => rw [q] at h; exact h
  | some p =>
    obtain ⟨r, s1⟩ := p
    rw [q] at h
    cases r with
    | error x => exact h
    | ok a =>
      refine fun v H1 e rl kv => ⟨a, e, kv, s1, c.ext e rl, ?_⟩
      have h : AfterI C W P eb σ H Q (PyM.run (f a) s1) := h
      cases z : PyM.run (f a) s1 with
      | none => rw [z] at h; exact h
      | some p2 =>
        obtain ⟨r2, s2⟩ := p2
        rw [z] at h
        cases r2 with
        | error x => exact fun cls d H' e' rl' => h cls d H' (e.trans e') rl'
        | ok a => exact fun J H' e' rl' wk => h J H' (e.trans e') rl' wk
theorem si_range1 (hg : Gl X "range") (hm : X.mg "range" = none) (ha : SB X C W H0 R a eInt mi) (hs : starEach [a] X.env = [(false, eval a X.env)] := by rfl) :
    SI X C W H0 R P tg (.Call (.Name "range" p) [a] [] pos) eInt (mi >>= fun i => fromO (rangeG 0 i)) :=
  ⟨(pi_range1 hg hm (pa_cons ha.run pa_nil (by rw [hs]; rfl)) hs).weak fun σ H Q q => tR_imp (tI_bind (k := kB X.K X.w C.mt) (ea := eInt) q) fun v H1 ⟨i, e, kv, q⟩ => by
    obtain ⟨xs, h, q⟩ := tI_done q
    obtain ⟨g, rfl⟩ := rangeG_some h
    refine ⟨i, by rw [kB_int kv], by omega, by omega, q _ ?_⟩
    rw [show (i - 0).toNat = i.toNat by omega]
    exact wk_range (by rw [sizeLine_eq]; omega)⟩
theorem si_range2 (hg : Gl X "range") (hm : X.mg "range" = none) (ha : SB X C W H0 R a eInt mi) (hb : SB X C W H0 R b eInt mj) (hs : starEach [a, b] X.env = [(false, eval a X.env), (false, eval b X.env)] := by rfl) (hs2 : starEach [b] X.env = [(false, eval b X.env)] := by rfl) :
    SI X C W H0 R P tg (.Call (.Name "range" p) [a, b] [] pos) eInt (mi >>= fun i => mj >>= fun j => fromO (rangeG i j)) :=
  ⟨(pi_range2 hg hm (pa_cons ha.run (pa_cons hb.run pa_nil (by rw [hs2]; rfl)) (by rw [hs, hs2])) hs hs2).weak fun σ H Q q => tR_imp (tI_bind (k := kB X.K X.w C.mt) (ea := eInt) q) fun v H1 ⟨i, e, kv, q⟩ => tR_imp (tI_bind (k := kB X.K X.w C.mt) (ea := eInt) q) fun v2 H2 ⟨j, e2, kv2, q⟩ => by
    obtain ⟨xs, h, q⟩ := tI_done q
    obtain ⟨g, rfl⟩ := rangeG_some h
    refine ⟨i, j, by rw [kB_int kv, kB_int kv2], ⟨by omega, by omega, by omega, by omega⟩, q _ ?_⟩
    exact wk_range (by rw [sizeLine_eq]; omega)⟩
end

/-! ### targets -/
/-- the slots is get the values vs -/
def setσ : L2.St → List Nat → List V → L2.St
  | σ, i :: is, v :: vs => setσ (σ.set i (some v)) is vs
  | σ, _, _ => σ
def setR : Slots → List Nat → List PyData → Slots
  | R, i :: is, d :: ds => setR (R.set i (some (.frz d))) is ds
  | R, _, _ => R
structure GOk (K : PySem.W.Frag) (w : World) (g : TG) {α : Type} (ea : α → PyData) (is : List Nat) (dts : α → List PyData) : Prop where
  run : ∀ a v σ H Q, Rep K w H v (ea a) → (∀ vs, Reps K w H vs (dts a) → Q (setσ σ is vs) H) → g v σ H Q
section
variable {K : PySem.W.Frag} {w : World} {m : Type → Type} [Monad m] [PyM m] {C : Wd K w m} {H0 : Hp} {R R' : Slots} {s s' : PyM.S m} {σ : L2.St} {H H' : Hp} {α : Type} {ea : α → PyData}
theorem setR_len : ∀ {is : List Nat} {ds : List PyData} {R : Slots}, (setR R is ds).length = R.length
  | [], _, _ => by simp [setR]
  | _ :: _, [], _ => by simp [setR]
  | i :: is, d :: ds, R => by show (setR _ is ds).length = _; rw [setR_len, List.length_set]
theorem Cfg.setAll : ∀ {is : List Nat} {ds : List PyData} {vs : List V} {R : Slots} {σ : L2.St}, Cfg C H0 R s σ H → (∀ i ∈ is, i < R.length) → Reps K w H vs ds → Cfg C H0 (setR R is ds) s (setσ σ is vs) H
  | [], _, _, _, _, c, _, _ => by simpa [setR, setσ] using c
  | _ :: _, _, _, _, _, c, _, .nil => by simpa [setR, setσ] using c
  | i :: is, _, _, R, σ, c, h, .cons r t => by
    show Cfg C H0 (setR _ is _) s (setσ _ is _) H
    exact Cfg.setAll (c.setF (h i (by simp)) r) (fun j hj => by rw [List.length_set]; exact h j (by simp [hj])) t
theorem g_name {i : Nat} : GOk K w (gName i) ea [i] (fun a => [ea a]) := ⟨fun a v σ H Q r q => q [v] (.cons r .nil)⟩
def gNames : List Nat → TGs
  | [] => gNil
  | i :: is => gCons (gName i) (gNames is)
theorem gNames_ok {K : PySem.W.Frag} {w : World} {H : Hp} {Q : L2.St → Hp → Prop} : ∀ {is : List Nat} {vs : List V} {σ : L2.St}, vs.length = is.length → Q (setσ σ is vs) H → gNames is vs σ H Q
  | [], [], σ, _, q => ⟨rfl, by simpa [setσ] using q⟩
  | i :: is, v :: vs, σ, h, q => ⟨v, vs, rfl, gNames_ok (K := K) (w := w) (is := is) (by simpa using h) q⟩
  | [], _ :: _, _, h, _ => by simp at h
  | _ :: _, [], _, h, _ => by simp at h
theorem g_tup {is : List Nat} {dts : α → List PyData} (h : ∀ a, ea a = .tuple (dts a)) (hl : ∀ a, (dts a).length = is.length) : GOk K w (gTup K is.length (gNames is)) ea is dts := ⟨fun a v σ H Q r q => by
  rw [h] at r
  cases r with
  | tup h r => exact ⟨_, _, rfl, h, by rw [r.length, hl], gNames_ok (K := K) (w := w) (by rw [r.length, hl]) (q _ r)⟩⟩
end
/-! ### the slots of a comprehension's block -/
def wipeR : Slots → List Nat → Slots
  | R, [] => R
  | R, v :: vs => (wipeR R vs).set v none
theorem wipeR_len {R : Slots} : ∀ vs, (wipeR R vs).length = R.length
  | [] => rfl
  | v :: vs => by show ((wipeR R vs).set v none).length = _; rw [List.length_set, wipeR_len vs]
theorem wipeR_at {R : Slots} {i : Nat} {x : Slot} : ∀ {vs : List Nat}, (wipeR R vs)[i]? = some (some x) → R[i]? = some (some x) ∧ i ∉ vs
  | [], h => ⟨h, by simp⟩
  | v :: vs, h => by
    have h : ((wipeR R vs).set v none)[i]? = some (some x) := h
    by_cases hi : v = i
    · subst hi
      by_cases hl : v < (wipeR R vs).length
      · rw [List.getElem?_set_self hl] at h; cases h
      · rw [List.getElem?_eq_none (by rw [List.length_set]; omega)] at h; cases h
    · rw [List.getElem?_set_ne hi] at h
      obtain ⟨h1, h2⟩ := wipeR_at h
      exact ⟨h1, by simp only [List.mem_cons, not_or]; exact ⟨fun e => hi e.symm, h2⟩⟩
theorem wipe_other {σ : L2.St} {i : Nat} : ∀ {vs : List Nat}, i ∉ vs → (wipe σ vs)[i]? = σ[i]?
  | [], _ => rfl
  | v :: vs, h => by
    show ((wipe σ vs).set v none)[i]? = _
    rw [List.getElem?_set_ne (fun e => h (by simp [e])), wipe_other fun q => h (by simp [q])]
theorem Cfg.wipe {K : PySem.W.Frag} {w : World} {m : Type → Type} [Monad m] [PyM m] {C : Wd K w m} {H0 : Hp} {R : Slots} {s : PyM.S m} {σ : L2.St} {H : Hp} (c : Cfg C H0 R s σ H) (vs : List Nat) : Cfg C H0 (wipeR R vs) s (L2.wipe σ vs) H :=
  ⟨by rw [wipeR_len, wipe_length]; exact c.len, c.base, c.rel, fun i x h => by
    obtain ⟨h1, h2⟩ := wipeR_at h
    rw [wipe_other h2]
    exact c.slot i x h1, fun i j x y n h1 h2 ox oy => by
    obtain ⟨a1, a2⟩ := wipeR_at h1
    obtain ⟨b1, b2⟩ := wipeR_at h2
    rw [wipe_other a2, wipe_other b2]
    exact c.apart i j x y n a1 b1 ox oy⟩
theorem wipe_set_in {σ : L2.St} {i : Nat} {x : Option V} : ∀ {vs : List Nat}, i ∈ vs → wipe (σ.set i x) vs = wipe σ vs
  | [], h => by simp at h
  | v :: vs, h => by
    show (wipe (σ.set i x) vs).set v none = (wipe σ vs).set v none
    by_cases hi : i ∈ vs
    · rw [wipe_set_in hi]
    · have e : i = v := by
        rcases List.mem_cons.mp h with e | e
        · exact e
        · exact absurd e hi
      subst e
      apply List.ext_getElem?
      intro j
      by_cases hj : i = j
      · subst hj
        have l1 : (wipe (σ.set i x) vs).length = (wipe σ vs).length := by rw [wipe_length, wipe_length, List.length_set]
        by_cases hl : i < (wipe σ vs).length
        · rw [List.getElem?_set_self hl, List.getElem?_set_self (by rw [l1]; exact hl)]
        · rw [List.getElem?_eq_none (by rw [List.length_set]; omega), List.getElem?_eq_none (by rw [List.length_set]; omega)]
      · rw [List.getElem?_set_ne hj, List.getElem?_set_ne hj]
        by_cases hv : j ∈ vs
        · have : ∀ (τ : L2.St) {us : List Nat}, j ∈ us → (wipe τ us)[j]? = if j < τ.length then some none else none := by
            intro τ us
            induction us with
            | nil => intro h; simp at h
            | cons u us ih =>
              intro h
              show ((wipe τ us).set u none)[j]? = _
              by_cases hu : u = j
              · subst hu
                by_cases hl : u < (wipe τ us).length
                · rw [List.getElem?_set_self hl, if_pos (by rw [wipe_length] at hl; exact hl)]
                · rw [List.getElem?_eq_none (by rw [List.length_set]; omega), if_neg (by rw [wipe_length] at hl; exact hl)]
              · rw [List.getElem?_set_ne hu]
                refine ih ?_
                rcases List.mem_cons.mp h with e | e
                · exact absurd e.symm hu
                · exact e
          rw [this _ hv, this _ hv, List.length_set]
        · rw [wipe_other hv, wipe_other hv, List.getElem?_set_ne hj]
theorem wipe_wipe {σ : L2.St} : ∀ {vs us : List Nat}, (∀ v ∈ us, v ∈ vs) → wipe (wipe σ us) vs = wipe σ vs
  | vs, [], _ => rfl
  | vs, u :: us, h => by
    show wipe ((wipe σ us).set u none) vs = _
    rw [wipe_set_in (h u (by simp)), wipe_wipe fun v hv => h v (by simp [hv])]
theorem wipe_setσ : ∀ {is : List Nat} {ws : List V} {σ : L2.St} {vs : List Nat}, (∀ i ∈ is, i ∈ vs) → wipe (setσ σ is ws) vs = wipe σ vs
  | [], _, _, _, _ => by simp [setσ]
  | _ :: _, [], _, _, _ => by simp [setσ]
  | i :: is, v :: ws, σ, vs, h => by
    show wipe (setσ _ is ws) vs = _
    rw [wipe_setσ fun j hj => h j (by simp [hj]), wipe_set_in (h i (by simp))]
end TT

namespace TT
open PyM (fromO)
open PySem PySem.Spec PyProof.Rows L2

/-- [f x for x in xs if g x] -/
def compL {m : Type → Type} [Monad m] {α β : Type} (g : α → m Bool) (f : α → m β) : List α → m (List β)
  | [] => pure []
  | x :: xs => g x >>= fun c => if c = true then f x >>= fun y => compL g f xs >>= fun ys => pure (y :: ys) else compL g f xs
/-- a clause's tests -/
structure SIf (X : Cx) {m : Type → Type} [Monad m] [PyM m] (C : Wd X.K X.w m) (W : WX) (H0 : Hp) (R : Slots) (ifs : List Expr) (mm : m Bool) : Prop where
  run : PTs X ifs (tT C W H0 R mm)
section
variable {X : Cx} {m : Type → Type} [Monad m] [PyM m] {C : Wd X.K X.w m} {W : WX} {H0 : Hp} {R : Slots} {mc : m Bool} {c : Expr}
theorem sf_nil : SIf X C W H0 R [] (pure true) := ⟨⟨fun pins s σ H Q I h => pts_nil.run pins s σ H Q I (tT_pure h)⟩⟩
theorem sf_one (h : ST X C W H0 R c mc) : SIf X C W H0 R [c] mc := ⟨pts_one h.run⟩
end
abbrev W0 : WX := fun _ _ _ _ => False
section
variable {X : Cx} {m : Type → Type} [Monad m] [PyM m] {C : Wd X.K X.w m} {W : WX} {H0 : Hp} {R : Slots} {α β : Type} {ea : α → PyData} {eb : β → PyData}
variable {elt tg iter : Expr} {ifs : List Expr} {scope : Scope} {own : List (Str × Nat)} {pos : Pos} {mi : m (List α)} {mt : α → m Bool} {me : α → m β} {g : TG} {is : List Nat} {dts : α → List PyData}
/-- what holds between a comprehension's turns -/
def CompW (X : Cx) (C : Wd X.K X.w m) (W : WX) (eb : β → PyData) (mt : α → m Bool) (me : α → m β) (xs : List α) (σ : L2.St) (H1 : Hp) (D : Addr) (Q : VK) (i k : Nat) (H2 : Hp) : Prop :=
  k = xs.length - i ∧ i ≤ xs.length ∧ ∃ (s2 : PyM.S m) (accV : List V) (acc : List β), Ext C.mt H1 H2 ∧ C.rel s2 H2 ∧ H2 D = some (.lst accV) ∧ Reps X.K X.w H2 accV (acc.map eb) ∧ acc.length ≤ i ∧
        After C W (kO X.K X.w C.mt) (fun ys => eLst eb (acc ++ ys)) σ H1 Q (PyM.run (compL mt me (xs.drop i)) s2)
/-- what goes on in a comprehension's turns -/
theorem tLc_ok [NoErr m] {vs : List Nat} (hgo : GOk X.K X.w g ea is dts) (hin : ∀ i ∈ is, i ∈ vs) (hlt : ∀ i ∈ is, i < R.length) {σ : L2.St} {H : Hp} {Q : VK}
    (q : tR C W H0 R (kO X.K X.w C.mt) (eLst eb) (mi >>= compL mt me) σ H Q) :
    tLc (tI C W H0 R (Ext C.mt) ea mi) g (fun σ H Q => ∃ a, tT C W0 H0 (setR (wipeR R vs) is (dts a)) (mt a) σ H Q) (fun σ H Q => ∃ a, tR C W0 H0 (setR (wipeR R vs) is (dts a)) (kF X.K X.w C.mt) eb (me a) σ H Q) vs σ H Q := by
  obtain ⟨s, c, q⟩ := q
  refine ⟨s, c, ?_⟩
  rw [PyM.run_bind] at q
  cases z : PyM.run mi s with
  | none => rw [z] at q; exact q
  | some p =>
    obtain ⟨r, s1⟩ := p
    rw [z] at q
    cases r with
    | error x => exact q
    | ok xs =>
      intro J H1 e1 rl1 wk D hD
      have c1 : Cfg C H0 R s1 σ H1 := c.ext e1 rl1
      have q : After C W (kO X.K X.w C.mt) (eLst eb) σ H Q (PyM.run (compL mt me xs) s1) := q
      have q := After.back (k := kO X.K X.w C.mt) kO_ok e1 rl1 q
      have nD : ¬ C.mt D := fun z => by
        obtain ⟨o, ho, _⟩ := C.there _ _ _ rl1 z
        rw [hD] at ho; cases ho
      have ex0 : Ext C.mt H1 (upd H1 D (.lst [])) := .of_same (Same.new hD)
      -- what holds between the turns
      refine ⟨CompW X C W eb mt me xs σ H1 D Q, ⟨xs.length, rfl, Nat.zero_le _, s1, [], [], ex0, C.keep _ _ _ rl1 (Same.new hD), upd_same, .nil, Nat.le_refl _, q⟩, ?_⟩
      rintro i k H2 ⟨rfl, hi, s2, accV, acc, e2, rl2, hD2, ra, hl, q2⟩
      by_cases hlt' : i < xs.length
      · obtain ⟨go, yl⟩ := wk.go i H2 e2 (by rw [List.length_map]; exact hlt')
        refine .inr ⟨go, CompW X C W eb mt me xs σ H1 D Q (i + 1) (xs.length - (i + 1)), fun H' hN => ⟨xs.length - (i + 1), by omega, hN⟩, ?_⟩
        · intro x H3 y
          obtain ⟨e3, d, hd, rx⟩ := yl x H3 y
          have hx : xs[i]? = some xs[i] := List.getElem?_eq_getElem hlt'
          rw [List.getElem?_map, hx] at hd
          have hd : some (ea xs[i]) = some d := hd
          cases hd
          refine hgo.run xs[i] x _ H3 _ rx fun ws rws => ⟨?_, xs[i], ?_⟩
          · rw [wipe_setσ hin, wipe_wipe fun v hv => hv]
          have rl3 : C.rel s2 H3 := C.keep _ _ _ rl2 e3
          have e13 : Ext C.mt H1 H3 := e2.trans (.of_same e3)
          have c3 : Cfg C H0 (setR (wipeR R vs) is (dts xs[i])) s2 (setσ (wipe σ vs) is ws) H3 := ((c1.ext e13 rl3).wipe vs).setAll (fun j hj => by rw [wipeR_len]; exact hlt j hj) rws
          refine ⟨s2, c3, ?_⟩
          have hdr : xs.drop i = xs[i] :: xs.drop (i + 1) := List.drop_eq_getElem_cons hlt'
          rw [hdr] at q2
          have q2 : After C W (kO X.K X.w C.mt) (fun ys => eLst eb (acc ++ ys)) σ H1 Q (PyM.run (mt xs[i] >>= fun c => if c = true then me xs[i] >>= fun y => compL mt me (xs.drop (i + 1)) >>= fun ys => pure (y :: ys) else compL mt me (xs.drop (i + 1))) s2) := q2
          rw [PyM.run_bind] at q2
          cases z2 : PyM.run (mt xs[i]) s2 with
          | none => rw [z2] at q2; exact q2
          | some p2 =>
            obtain ⟨r2, s3⟩ := p2
            cases r2 with
            | error x => exact absurd z2 (NoErr.ok _ _ _ _)
            | ok b =>
              rw [z2] at q2
              intro H4 e4 rl4
              have e14 : Ext C.mt H1 H4 := e13.trans e4
              have hD3 : H3 D = some (.lst accV) := e3 _ _ hD2
              have hD4 : H4 D = some (.lst accV) := e4 _ _ hD3 (.inl nD)
              cases b with
              | false =>
                rw [if_neg Bool.false_ne_true]
                exact ⟨rfl, hlt', s3, accV, acc, e14, rl4, hD4, Reps.firm e4.firms (Reps.firm (fun b o h _ => e3 b o h) ra), Nat.le_succ_of_le hl, q2⟩
              | true =>
                rw [if_pos rfl]
                have q2 : After C W (kO X.K X.w C.mt) (fun ys => eLst eb (acc ++ ys)) σ H1 Q (PyM.run (me xs[i] >>= fun y => compL mt me (xs.drop (i + 1)) >>= fun ys => pure (y :: ys)) s3) := q2
                rw [PyM.run_bind] at q2
                refine ⟨xs[i], s3, c3.ext e4 rl4, ?_⟩
                cases z3 : PyM.run (me xs[i]) s3 with
                | none => rw [z3] at q2; exact q2
                | some p3 =>
                  obtain ⟨r3, s4⟩ := p3
                  cases r3 with
                  | error x => exact absurd z3 (NoErr.ok _ _ _ _)
                  | ok y =>
                    rw [z3] at q2
                    intro v H5 e5 rl5 kv
                    have hD5 : H5 D = some (.lst accV) := e5 _ _ hD4 (.inl nD)
                    have nf : ∀ b u, H5 b = some u → Firm u → b ≠ D := fun b u hu f z => by subst z; rw [hD5] at hu; cases hu; exact f
                    have fm : Firms H5 (upd H5 D (.lst (accV ++ [v]))) := firms_upd' hD5 (fun z => z)
                    have ra5 : Reps X.K X.w H5 accV (acc.map eb) := Reps.firm e5.firms (Reps.firm e4.firms (Reps.firm (fun b o h _ => e3 b o h) ra))
                    have hlen : accV.length = acc.length := by rw [ra.length, List.length_map]
                    have hn := wk.len
                    rw [List.length_map] at hn
                    refine ⟨accV, hD5, by omega, rfl, hlt', s4, accV ++ [v], acc ++ [y], ?_, C.other _ _ _ _ rl5 nD nf, upd_same, ?_, ?_, ?_⟩
                    · intro b o hb k
                      rw [upd_ne (ne_of_none hb hD)]
                      exact (e14.trans e5) b o hb k
                    · rw [List.map_append]
                      exact Reps.append (Reps.firm fm ra5) (.cons (Rep.firm fm kv) .nil)
                    · rw [List.length_append]
                      simp
                      exact hl
                    · have q2 : After C W (kO X.K X.w C.mt) (fun ys => eLst eb (acc ++ ys)) σ H1 Q (PyM.run (compL mt me (xs.drop (i + 1)) >>= fun ys => pure (y :: ys)) s4) := q2
                      rw [PyM.run_bind] at q2
                      cases z4 : PyM.run (compL mt me (xs.drop (i + 1))) s4 with
                      | none => rw [z4] at q2; exact q2
                      | some p4 =>
                        obtain ⟨r4, s5⟩ := p4
                        rw [z4] at q2
                        cases r4 with
                        | error x => exact q2
                        | ok ys =>
                          have q2 : After C W (kO X.K X.w C.mt) (fun ys => eLst eb (acc ++ ys)) σ H1 Q (PyM.run (pure (y :: ys)) s5) := q2
                          rw [PyM.run_pure] at q2
                          intro v' H' e' rl' kv'
                          refine q2 v' H' e' rl' ?_
                          show kO X.K X.w C.mt H1 H' v' (eLst eb (acc ++ (y :: ys)))
                          have : acc ++ (y :: ys) = acc ++ [y] ++ ys := by simp
                          rw [this]
                          exact kv'
      · have hi' : i = xs.length := by omega
        subst hi'
        refine .inl ⟨wk.stop _ H2 e2 (by rw [List.length_map]; exact Nat.le_refl _), ?_⟩
        rw [List.drop_length] at q2
        have q2 : After C W (kO X.K X.w C.mt) (fun ys => eLst eb (acc ++ ys)) σ H1 Q (PyM.run (pure []) s2) := q2
        rw [PyM.run_pure] at q2
        refine q2 (.ref D) H2 e2 rl2 ⟨D, accV, acc.map eb, rfl, ?_, hD2, ra, hD⟩
        show PyData.list _ = _
        rw [List.append_nil]
theorem so_comp [NoErr m] (hc : X.calm = true) (hN : X.N.Nodup) (hi : SI X C W H0 R (Ext C.mt) tg iter ea mi) (ok : BlkOk X.N X.env.scope scope own)
    (hg : ∀ (s : Shared) (H : Hp) (Cc : Addr) (cl : List (Str × Addr)) (fp : List Addr), PG (X.blk s H scope (compEnvC scope cl Cc X.env) fp) tg g)
    (hgo : GOk X.K X.w g ea is dts) (hin : ∀ i ∈ is, i ∈ own.map (·.2)) (hlt : ∀ i ∈ is, i < R.length)
    (ht : ∀ (a : α) (s : Shared) (H : Hp) (Cc : Addr) (cl : List (Str × Addr)) (fp : List Addr), SIf (X.blk s H scope (compEnvC scope cl Cc X.env) fp) C W0 H0 (setR (wipeR R (own.map (·.2))) is (dts a)) ifs (mt a))
    (he : ∀ (a : α) (s : Shared) (H : Hp) (Cc : Addr) (cl : List (Str × Addr)) (fp : List Addr), SE (X.blk s H scope (compEnvC scope cl Cc X.env) fp) C W0 H0 (setR (wipeR R (own.map (·.2))) is (dts a)) elt eb (me a))
    (hs : ∀ x, foldedSetIterable iter X.env x = pure x := by intro _; rfl) :
    SO X C W H0 R (.ListComp elt [⟨tg, iter, ifs, 0⟩] scope pos) (eLst eb) (mi >>= compL mt me) :=
  .weak (pe_lc hc hN hi.run ok hg (tt := fun σ H Q => ∃ a, tT C W0 H0 (setR (wipeR R (own.map (·.2))) is (dts a)) (mt a) σ H Q)
      (te := fun σ H Q => ∃ a, tR C W0 H0 (setR (wipeR R (own.map (·.2))) is (dts a)) (kF X.K X.w C.mt) eb (me a) σ H Q)
      (fun s H Cc cl fp => ⟨fun pins s' σ H' Q I ⟨a, h⟩ => (ht a s H Cc cl fp).run.run pins s' σ H' Q I h⟩) (fun s H Cc cl fp => ⟨fun pins s' σ H' Q I ⟨a, h⟩ => (he a s H Cc cl fp).run.run pins s' σ H' Q I h⟩) hs)
    fun σ H Q q => tLc_ok hgo hin hlt q
end
end TT

namespace TT
open PyM (fromO)
open PySem PySem.Spec PyProof.Rows L2

/-- how a block ends: it goes on, it returns, it leaves the loop, it goes to the loop's next turn -/
inductive Out (ρ ε δ : Type) where
  | nx (d : δ)
  | rt (r : ρ)
  | bk (d : ε)
  | ct (d : ε)
section
variable {K : PySem.W.Frag} {w : World} {m : Type → Type} [Monad m] [PyM m]
def AfterS (C : Wd K w m) (W : WX) (H0 H : Hp) {ρ ε δ : Type} (er : ρ → PyData) (Rb : ε → Slots) (Rn : δ → Slots) (D : Ends) : Res (PyM.S m) (Out ρ ε δ) → Prop
  | none => False
  | some (.ok (.nx d), s') => ∀ σ' H', Firms H H' → Cfg C H0 (Rn d) s' σ' H' → D.nx σ' H'
  | some (.ok (.rt r), s') => ∀ v H', Ext C.mt H0 H' → C.rel s' H' → Rep K w H' v (er r) → D.rt v H'
  | some (.ok (.bk d), s') => ∀ σ' H', Firms H H' → Cfg C H0 (Rb d) s' σ' H' → D.bk σ' H'
  | some (.ok (.ct d), s') => ∀ σ' H', Firms H H' → Cfg C H0 (Rb d) s' σ' H' → D.ct σ' H'
  | some (.error x, s') => ∀ cls d σ' H', Ext C.mt H0 H' → C.rel s' H' → C.exc x cls d H' → W cls d σ' H'
def tS (C : Wd K w m) (W : WX) (H0 : Hp) (R : Slots) {ρ ε δ : Type} (er : ρ → PyData) (Rb : ε → Slots) (Rn : δ → Slots) (mm : m (Out ρ ε δ)) : TS := fun D σ H => ∃ s, Cfg C H0 R s σ H ∧ AfterS C W H0 H er Rb Rn D (PyM.run mm s)
theorem Firms.refl (H : Hp) : Firms H H := fun _ _ h _ => h
theorem Firms.trans {H H1 H2 : Hp} (a : Firms H H1) (b : Firms H1 H2) : Firms H H2 := fun c o h f => b c o (a c o h f) f
theorem AfterS.mono {C : Wd K w m} {W : WX} {H0 H H1 : Hp} {ρ ε δ : Type} {er : ρ → PyData} {Rb : ε → Slots} {Rn : δ → Slots} {D : Ends} (f : Firms H H1) : ∀ {r : Res (PyM.S m) (Out ρ ε δ)}, AfterS C W H0 H er Rb Rn D r → AfterS C W H0 H1 er Rb Rn D r
  | some (.ok (.nx d), s'), h => fun σ' H' f' c => h σ' H' (f.trans f') c
  | some (.ok (.rt r), s'), h => h
  | some (.ok (.bk d), s'), h => fun σ' H' f' c => h σ' H' (f.trans f') c
  | some (.ok (.ct d), s'), h => fun σ' H' f' c => h σ' H' (f.trans f') c
  | some (.error x, s'), h => h
end
structure SL (X : Cx) {m : Type → Type} [Monad m] [PyM m] (C : Wd X.K X.w m) (W : WX) (H0 : Hp) (R : Slots) (sts : List Stmt) {ρ ε δ : Type} (er : ρ → PyData) (Rb : ε → Slots) (Rn : δ → Slots) (mm : m (Out ρ ε δ)) : Prop where
  run : PSs X sts (tS C W H0 R er Rb Rn mm)
abbrev noE : Empty → Slots := fun e => e.elim
/-- a block that always returns -/
abbrev SF (X : Cx) {m : Type → Type} [Monad m] [PyM m] (C : Wd X.K X.w m) (W : WX) (H0 : Hp) (R : Slots) (sts : List Stmt) {ρ : Type} (er : ρ → PyData) (mm : m ρ) : Prop :=
  SL X C W H0 R sts er noE noE (mm >>= fun r => pure (Out.rt r))
/-- a block that always goes on -/
abbrev SP (X : Cx) {m : Type → Type} [Monad m] [PyM m] (C : Wd X.K X.w m) (W : WX) (H0 : Hp) (R : Slots) (sts : List Stmt) {δ : Type} (Rn : δ → Slots) (mm : m δ) : Prop :=
  SL X C W H0 R sts (ρ := Empty) (fun e => e.elim) noE Rn (mm >>= fun d => pure (Out.nx d))

section
variable {X : Cx} {m : Type → Type} [Monad m] [PyM m] {C : Wd X.K X.w m} {W : WX} {H0 : Hp} {R : Slots} {α β γ ρ ε δ : Type} {ea : α → PyData} {eb : β → PyData} {er : ρ → PyData} {Rb : ε → Slots} {Rn : δ → Slots}
variable {e : Expr} {st : Stmt} {rest sts : List Stmt} {me : m α} {pos : Pos} {mm mm' : m (Out ρ ε δ)}
theorem Res.bind_assoc {S α β γ : Type} (x : Res S α) (f : α → S → Res S β) (g : β → S → Res S γ) : Res.bind (Res.bind x f) g = Res.bind x fun a s => Res.bind (f a s) g := by
  match x with
  | none => rfl
  | some (.ok a, s) => rfl
  | some (.error e, s) => rfl
/-- two terms that run alike -/
def Alike {α : Type} (x y : m α) : Prop := ∀ s, PyM.run x s = PyM.run y s
theorem Alike.refl (x : m α) : Alike x x := fun _ => rfl
theorem Alike.symm {x y : m α} (h : Alike x y) : Alike y x := fun s => (h s).symm
theorem Alike.trans {x y z : m α} (h : Alike x y) (h' : Alike y z) : Alike x z := fun s => (h s).trans (h' s)
theorem alike_assoc (x : m α) (f : α → m β) (g : β → m γ) : Alike (x >>= f >>= g) (x >>= fun a => f a >>= g) := fun s => by
  rw [PyM.run_bind, PyM.run_bind, PyM.run_bind, Res.bind_assoc]
  congr 1
  funext a s'
  rw [PyM.run_bind]
theorem alike_bind {x : m α} {f g : α → m β} (h : ∀ a, Alike (f a) (g a)) : Alike (x >>= f) (x >>= g) := fun s => by
  rw [PyM.run_bind, PyM.run_bind]
  congr 1
  funext a s'
  exact h a s'
theorem alike_bind2 {x y : m α} {f g : α → m β} (hx : Alike x y) (h : ∀ a, Alike (f a) (g a)) : Alike (x >>= f) (y >>= g) := fun s => by
  rw [PyM.run_bind, PyM.run_bind, hx s]
  congr 1
  funext a s'
  exact h a s'
theorem alike_pure {a : α} {f : α → m β} : Alike (pure a >>= f) (f a) := fun s => by rw [PyM.run_bind, PyM.run_pure]; rfl
theorem SL.alike (h : SL X C W H0 R sts er Rb Rn mm) (a : Alike mm' mm) : SL X C W H0 R sts er Rb Rn mm' := ⟨h.run.weak fun D σ H ⟨s, c, q⟩ => ⟨s, c, by rw [← a s]; exact q⟩⟩
theorem SL.sub {R' : Slots} (h : SL X C W H0 R sts er Rb Rn mm) (i : SubS R R') : SL X C W H0 R' sts er Rb Rn mm := ⟨h.run.weak fun D σ H ⟨s, c, q⟩ => ⟨s, c.sub i, q⟩⟩
/-- an expression is evaluated for a statement -/
theorem tS_bind {k : Kd} {f : α → m (Out ρ ε δ)} {D : Ends} {σ : L2.St} {H : Hp} (h : tS C W H0 R er Rb Rn (me >>= f) D σ H) {Q : VK}
    (i : ∀ a v H', k H H' v (ea a) → Ext C.mt H H' → (∀ b, H' b = none → H b = none) → tS C W H0 R er Rb Rn (f a) D σ H' → Q v H') : tR C W H0 R k ea me σ H Q := by
  obtain ⟨s, c, h⟩ := h
  refine ⟨s, c, ?_⟩
  rw [PyM.run_bind] at h
  cases q : PyM.run me s with
  | none => rw [q] at h; exact h
  | some p =>
    obtain ⟨r, s1⟩ := p
    rw [q] at h
    cases r with
    | error x => exact fun cls d H' e rl ex => h cls d σ H' (c.base.trans e) rl ex
    | ok a => exact fun v H1 e rl kv => i a v H1 kv e (none_back e fun b hb => let ⟨o, ho, _⟩ := C.there _ _ _ rl hb; ⟨o, ho⟩) ⟨s1, c.ext e rl, AfterS.mono e.firms h⟩
theorem tS_test {mc : m Bool} {f : Bool → m (Out ρ ε δ)} {D : Ends} {σ : L2.St} {H : Hp} (h : tS C W H0 R er Rb Rn (mc >>= f) D σ H) : tT C W H0 R mc σ H fun b H' => tS C W H0 R er Rb Rn (f b) D σ H' := by
  obtain ⟨s, c, h⟩ := h
  refine ⟨s, c, ?_⟩
  rw [PyM.run_bind] at h
  cases q : PyM.run mc s with
  | none => rw [q] at h; exact h
  | some p =>
    obtain ⟨r, s1⟩ := p
    rw [q] at h
    cases r with
    | error x => exact fun cls d H' e rl ex => h cls d σ H' (c.base.trans e) rl ex
    | ok a => exact fun H1 e rl => ⟨s1, c.ext e rl, AfterS.mono e.firms h⟩

/-! ### blocks -/
theorem sl_nil (d : δ) (h : SubS (Rn d) R) : SL X C W H0 R [] er Rb Rn (pure (.nx d)) := ⟨pss_nil.weak fun D σ H ⟨s, c, q⟩ => by
  rw [PyM.run_pure] at q
  exact q σ H (Firms.refl H) (c.sub h)⟩
theorem sp_nil (d : δ) (h : SubS (Rn d) R) : SP X C W H0 R [] Rn (pure d) := (sl_nil d h).alike alike_pure
theorem sl_ret {me : m ρ} (h : SE X C W H0 R e er me) : SL X C W H0 R (.Return (some e) pos :: rest) er Rb Rn (me >>= fun r => pure (.rt r)) :=
  ⟨(pss_cons (ps_ret h.run) pss_never).weak fun D σ H q => by
    have := tS_bind (k := kF X.K X.w C.mt) (ea := er) q (Q := D.rt) fun a v H' kv e _ ⟨s, c, q⟩ => by
      rw [PyM.run_pure] at q
      exact q v H' c.base c.rel kv
    exact this⟩
theorem sf_ret {me : m ρ} (h : SE X C W H0 R e er me) : SF X C W H0 R (Stmt.Return (some e) pos :: rest) er me := sl_ret h
theorem sl_pass (h : SL X C W H0 R rest er Rb Rn mm) : SL X C W H0 R (.Pass pos :: rest) er Rb Rn mm := ⟨(pss_cons ps_pass h.run).weak fun D σ H q => q⟩
theorem sl_break (d : ε) (h : SubS (Rb d) R) : SL X C W H0 R (.Break pos :: rest) er Rb Rn (pure (.bk d)) := ⟨(pss_cons ps_break pss_never).weak fun D σ H ⟨s, c, q⟩ => by
  rw [PyM.run_pure] at q
  exact q σ H (Firms.refl H) (c.sub h)⟩
/-- x = e -/
theorem sl_set {i : Nat} {x : Str} {k : α → m (Out ρ ε δ)} {pos' : Pos} (hN : X.N.Nodup) (hi : X.N[i]? = some x) (hx : Loc X.env.scope x) (hl : i < R.length) (h : SE X C W H0 R e ea me) (hr : ∀ a, SL X C W H0 (R.set i (some (.frz (ea a)))) rest er Rb Rn (k a))
    (hs : swapsWith e (some (.Name x pos')) pos.line X.env = pure false) (hf : X.fn x = true ∨ X.env.scope.names.lookup x = some .local) : SL X C W H0 R (.Assign [.Name x pos'] e pos :: rest) er Rb Rn (me >>= k) :=
  ⟨(pss_cons (ps_set hN hi hx h.run hs hf) (u := fun D σ H => ∃ a, tS C W H0 (R.set i (some (.frz (ea a)))) er Rb Rn (k a) D σ H) ⟨fun pins s σ H D I ⟨a, q⟩ => (hr a).run.run pins s σ H D I q⟩).weak fun D σ H q =>
    tS_bind (k := kF X.K X.w C.mt) (ea := ea) q fun a v H' kv e _ ⟨s, c, q⟩ => ⟨a, s, c.setF hl kv, q⟩⟩
theorem sl_setO {i : Nat} {x : Str} {k : List α → m (Out ρ ε δ)} {pos' : Pos} {me : m (List α)} (hN : X.N.Nodup) (hi : X.N[i]? = some x) (hx : Loc X.env.scope x) (hl : i < R.length) (h : SO X C W H0 R e (eLst ea) me) (hr : ∀ a, SL X C W H0 (R.set i (some (.own (a.map ea)))) rest er Rb Rn (k a))
    (hs : swapsWith e (some (.Name x pos')) pos.line X.env = pure false) (hf : X.fn x = true ∨ X.env.scope.names.lookup x = some .local) : SL X C W H0 R (.Assign [.Name x pos'] e pos :: rest) er Rb Rn (me >>= k) :=
  ⟨(pss_cons (ps_set hN hi hx h.run hs hf) (u := fun D σ H => ∃ a : List α, tS C W H0 (R.set i (some (.own (a.map ea)))) er Rb Rn (k a) D σ H) ⟨fun pins s σ H D I ⟨a, q⟩ => (hr a).run.run pins s σ H D I q⟩).weak fun D σ H q => by
    obtain ⟨s0, c0, q0⟩ := id q
    refine tS_bind (k := kO X.K X.w C.mt) (ea := eLst ea) q fun a v H' ⟨b, vs, ds, h1, h2, h3, h4, h5⟩ e nb ⟨s, c, q⟩ => ⟨a, s, ?_, q⟩
    subst h1
    have h2 : PyData.list (a.map ea) = .list ds := h2
    injection h2 with h2
    subst h2
    have nm : ¬ C.mt b := fun z => by
      obtain ⟨o, ho, _⟩ := C.there _ _ _ c0.rel z
      rw [h5] at ho; cases ho
    have h0 : H0 b = none := by
      cases z : H0 b with
      | none => rfl
      | some o => rw [c0.base b o z (.inl nm)] at h5; cases h5
    refine c.setO hl h3 h4 h0 nm fun j y hy oy z => ?_
    obtain ⟨v, e1, ok⟩ := c0.slot j y hy
    rw [z] at e1; cases e1
    cases y with
    | own ds =>
      obtain ⟨b', us, k1, k2, _⟩ := ok
      cases k1
      rw [h5] at k2; cases k2
    | frz d => exact oy
    | adr d => exact oy
    | scr d => exact oy⟩
end
end TT

namespace TT
open PyM (fromO)
open PySem PySem.Spec PyProof.Rows L2

section
variable {m : Type → Type} [Monad m] {α δ ρ ε : Type}
def foldL (f : α → δ → m δ) : List α → δ → m δ
  | [], d => pure d
  | x :: xs, d => f x d >>= foldL f xs
/-- a turn's end, in a loop -/
def Out.loop (k : δ → m (δ ⊕ ρ)) : Out ρ δ δ → m (δ ⊕ ρ)
  | .nx d => k d
  | .ct d => k d
  | .bk d => pure (.inl d)
  | .rt r => pure (.inr r)
/-- a loop that may be left -/
def loopL (f : α → δ → m (Out ρ δ δ)) : List α → δ → m (δ ⊕ ρ)
  | [], d => pure (.inl d)
  | x :: xs, d => f x d >>= Out.loop (loopL f xs)
def thenL {ρ ε δ' : Type} (k : δ → m (Out ρ ε δ')) : δ ⊕ ρ → m (Out ρ ε δ')
  | .inl d => k d
  | .inr r => pure (.rt r)
def whileF [PyM m] (c : δ → m Bool) (b : δ → m (Out ρ δ δ)) : Nat → δ → m (δ ⊕ ρ)
  | 0, _ => fromO none
  | n + 1, d => c d >>= fun t => if t = true then b d >>= Out.loop (whileF c b n) else pure (.inl d)
noncomputable def whileG [PyM m] (c : δ → m Bool) (b : δ → m (Out ρ δ δ)) (d : δ) : m (δ ⊕ ρ) := PyM.sup fun n => whileF c b n d
def whileFP [PyM m] (c : δ → m Bool) (b : δ → m δ) : Nat → δ → m δ
  | 0, _ => fromO none
  | n + 1, d => c d >>= fun t => if t = true then b d >>= whileFP c b n else pure d
noncomputable def whileM [PyM m] (c : δ → m Bool) (b : δ → m δ) (d : δ) : m δ := PyM.sup fun n => whileFP c b n d
def Out.thn {ρ ε δ δ' : Type} (k : δ → m (Out ρ ε δ')) : Out ρ ε δ → m (Out ρ ε δ')
  | .nx d => k d
  | .rt r => pure (.rt r)
  | .bk d => pure (.bk d)
  | .ct d => pure (.ct d)
end

section
variable {X : Cx} {m : Type → Type} [Monad m] [PyM m] {C : Wd X.K X.w m} {W : WX} {H0 : Hp} {R : Slots} {α β γ ρ ε δ δ' : Type} {ea : α → PyData} {eb : β → PyData} {er : ρ → PyData} {Rb : ε → Slots} {Rn : δ → Slots} {Rn' : δ' → Slots}
variable {e c : Expr} {st : Stmt} {rest sts body : List Stmt} {me : m α} {mc : m Bool} {pos : Pos} {mm mm' : m (Out ρ ε δ)}
theorem tS_rt {ma : m ρ} {D D' : Ends} {σ : L2.St} {H : Hp} (h : tS C W H0 R er Rb Rn (ma >>= fun r => pure (Out.rt r)) D σ H) (e : D'.rt = D.rt) : tS C W H0 R er noE noE (ma >>= fun r => pure (Out.rt r)) D' σ H := by
  obtain ⟨s, c, h⟩ := h
  refine ⟨s, c, ?_⟩
  rw [PyM.run_bind] at h ⊢
  cases q : PyM.run ma s with
  | none => rw [q] at h; exact h
  | some p =>
    obtain ⟨r, s1⟩ := p
    rw [q] at h
    cases r with
    | error x => exact h
    | ok a =>
      show AfterS C W H0 H er noE noE D' (PyM.run (pure (Out.rt a)) s1)
      have h : AfterS C W H0 H er Rb Rn D (PyM.run (pure (Out.rt a)) s1) := h
      rw [PyM.run_pure] at h ⊢
      show ∀ v H', _ → _ → _ → D'.rt v H'
      rw [e]
      exact h
theorem sl_ifR {a : List Stmt} {ma : m ρ} (hc : ST X C W H0 R c mc) (ha : SF X C W H0 R a er ma) (hr : SL X C W H0 R rest er Rb Rn mm) :
    SL X C W H0 R (.If c a [] pos :: rest) er Rb Rn (mc >>= fun b => if b = true then ma >>= fun r => pure (.rt r) else mm) :=
  ⟨(pss_cons (ps_if hc.run ha.run pss_nil) hr.run).weak fun D σ H q => by
    have q := tS_test q
    obtain ⟨s, c, q⟩ := q
    refine ⟨s, c, ?_⟩
    cases z : PyM.run mc s with
    | none => rw [z] at q; exact q
    | some p =>
      obtain ⟨r, s1⟩ := p
      rw [z] at q
      cases r with
      | error x => exact q
      | ok b =>
        intro H' e rl
        have q := q H' e rl
        cases b with
        | true => exact tS_rt q rfl
        | false => exact q⟩
/-- both ways return -/
theorem sl_ifRR {a b : List Stmt} {ma mb : m ρ} (hc : ST X C W H0 R c mc) (ha : SF X C W H0 R a er ma) (hb : SF X C W H0 R b er mb) :
    SL X C W H0 R (.If c a b pos :: rest) er Rb Rn (mc >>= fun b => if b = true then ma >>= fun r => pure (.rt r) else mb >>= fun r => pure (.rt r)) :=
  ⟨(pss_cons (ps_if hc.run ha.run hb.run) pss_never).weak fun D σ H q => by
    have q := tS_test q
    obtain ⟨s, c, q⟩ := q
    refine ⟨s, c, ?_⟩
    cases z : PyM.run mc s with
    | none => rw [z] at q; exact q
    | some p =>
      obtain ⟨r, s1⟩ := p
      rw [z] at q
      cases r with
      | error x => exact q
      | ok b =>
        intro H' e rl
        have q := q H' e rl
        cases b with
        | true => exact tS_rt q rfl
        | false => exact tS_rt q rfl⟩
/-- the first part goes on with another state -/
theorem tS_thn {ma : m (Out ρ ε δ)} {k : δ → m (Out ρ ε δ')} {D D' : Ends} {σ : L2.St} {H : Hp} (h : tS C W H0 R er Rb Rn' (ma >>= Out.thn k) D σ H) (e1 : D'.rt = D.rt) (e2 : D'.bk = D.bk) (e3 : D'.ct = D.ct)
    (n : ∀ d s σ' H', Firms H H' → Cfg C H0 (Rn d) s σ' H' → AfterS C W H0 H' er Rb Rn' D (PyM.run (k d) s) → D'.nx σ' H') : tS C W H0 R er Rb Rn ma D' σ H := by
  obtain ⟨s, c, h⟩ := h
  refine ⟨s, c, ?_⟩
  rw [PyM.run_bind] at h
  cases q : PyM.run ma s with
  | none => rw [q] at h; exact h
  | some p =>
    obtain ⟨r, s1⟩ := p
    rw [q] at h
    cases r with
    | error x => exact h
    | ok o =>
      have h : AfterS C W H0 H er Rb Rn' D (PyM.run (Out.thn k o) s1) := h
      cases o with
      | nx d => exact fun σ' H' f cf => n d s1 σ' H' f cf (AfterS.mono f h)
      | rt r =>
        have h : AfterS C W H0 H er Rb Rn' D (PyM.run (pure (.rt r)) s1) := h
        rw [PyM.run_pure] at h
        show ∀ v H', _ → _ → _ → D'.rt v H'
        rw [e1]; exact h
      | bk d =>
        have h : AfterS C W H0 H er Rb Rn' D (PyM.run (pure (.bk d)) s1) := h
        rw [PyM.run_pure] at h
        show ∀ σ' H', _ → _ → D'.bk σ' H'
        rw [e2]; exact h
      | ct d =>
        have h : AfterS C W H0 H er Rb Rn' D (PyM.run (pure (.ct d)) s1) := h
        rw [PyM.run_pure] at h
        show ∀ σ' H', _ → _ → D'.ct σ' H'
        rw [e3]; exact h
theorem sl_ifG {a b : List Stmt} {ma mb : m (Out ρ ε δ)} {k : δ → m (Out ρ ε δ')} (hc : ST X C W H0 R c mc) (ha : SL X C W H0 R a er Rb Rn ma) (hb : SL X C W H0 R b er Rb Rn mb) (hr : ∀ d, SL X C W H0 (Rn d) rest er Rb Rn' (k d)) :
    SL X C W H0 R (.If c a b pos :: rest) er Rb Rn' (mc >>= fun t => (if t = true then ma else mb) >>= Out.thn k) :=
  ⟨(pss_cons (ps_if hc.run ha.run hb.run) (u := fun D σ H => ∃ d, tS C W H0 (Rn d) er Rb Rn' (k d) D σ H) ⟨fun pins s σ H D I ⟨d, q⟩ => (hr d).run.run pins s σ H D I q⟩).weak fun D σ H q => by
    have q := tS_test q
    obtain ⟨s, c, q⟩ := q
    refine ⟨s, c, ?_⟩
    cases z : PyM.run mc s with
    | none => rw [z] at q; exact q
    | some p =>
      obtain ⟨r, s1⟩ := p
      rw [z] at q
      cases r with
      | error x => exact q
      | ok b =>
        intro H' e rl
        have q := q H' e rl
        cases b with
        | true => exact tS_thn q rfl rfl rfl fun d s σ' H' f cf h => ⟨d, s, cf, h⟩
        | false => exact tS_thn q rfl rfl rfl fun d s σ' H' f cf h => ⟨d, s, cf, h⟩⟩
/-- a plain block within a block of any kind -/
theorem SP.up {ma : m δ} (h : SP X C W H0 R sts Rn ma) : SL X C W H0 R sts er Rb Rn (ma >>= fun d => pure (.nx d)) :=
  ⟨h.run.weak fun D σ H ⟨s, c, q⟩ => by
    refine ⟨s, c, ?_⟩
    rw [PyM.run_bind] at q ⊢
    cases z : PyM.run ma s with
    | none => rw [z] at q; exact q
    | some p =>
      obtain ⟨r, s1⟩ := p
      rw [z] at q
      cases r with
      | error x => exact q
      | ok d =>
        show AfterS C W H0 H _ noE Rn D (PyM.run (pure (.nx d)) s1)
        have q : AfterS C W H0 H er Rb Rn D (PyM.run (pure (.nx d)) s1) := q
        rw [PyM.run_pure] at q ⊢
        exact q⟩
theorem sl_ifP {a b : List Stmt} {ma mb : m δ} {k : δ → m (Out ρ ε δ')} (hc : ST X C W H0 R c mc) (ha : SP X C W H0 R a Rn ma) (hb : SP X C W H0 R b Rn mb) (hr : ∀ d, SL X C W H0 (Rn d) rest er Rb Rn' (k d)) :
    SL X C W H0 R (.If c a b pos :: rest) er Rb Rn' (mc >>= fun t => (if t = true then ma else mb) >>= k) :=
  (sl_ifG hc ha.up hb.up hr).alike (alike_bind fun t => by
    cases t with
    | true => exact Alike.symm (((alike_assoc ma (fun d => pure (Out.nx d)) (Out.thn k)).trans (alike_bind fun d => alike_pure)))
    | false => exact Alike.symm ((alike_assoc mb (fun d => pure (Out.nx d)) (Out.thn k)).trans (alike_bind fun d => alike_pure)))

/-! ### for -/
variable {tg iter : Expr} {mi : m (List α)} {g : TG} {is : List Nat} {dts : α → List PyData} {Rl : δ → Slots} {d0 : δ}
/-- what holds between a loop's turns -/
def ForW (X : Cx) (C : Wd X.K X.w m) (W : WX) (H0 : Hp) (er : ρ → PyData) (Rl : δ → Slots) (mb : α → δ → m (Out ρ δ δ)) (xs : List α) (H1 : Hp) (D : Ends) (i k : Nat) (σ : L2.St) (H : Hp) : Prop :=
  k = xs.length - i ∧ i ≤ xs.length ∧ ∃ d s, Firms H1 H ∧ Cfg C H0 (Rl d) s σ H ∧ match PyM.run (loopL mb (xs.drop i) d) s with
    | none => False
    | some (.ok (.inl d'), s') => ∀ σ' H', Firms H1 H' → Cfg C H0 (Rl d') s' σ' H' → D.nx σ' H'
    | some (.ok (.inr r), s') => ∀ v H', Ext C.mt H0 H' → C.rel s' H' → Rep X.K X.w H' v (er r) → D.rt v H'
    | some (.error x, s') => ∀ cls d σ' H', Ext C.mt H0 H' → C.rel s' H' → C.exc x cls d H' → W cls d σ' H'
theorem sl_forG {mb : α → δ → m (Out ρ δ δ)} {k : δ → m (Out ρ ε δ')} (hp : PassesOwn (model X.prog X.w) X.A X.env X.xe) (hc : X.calm = true) (hi : SI X C W H0 R Firms tg iter ea mi) (hg : PG X tg g) (hgo : GOk X.K X.w g ea is dts)
    (h0 : SubS (Rl d0) R) (hlt : ∀ d, ∀ i ∈ is, i < (Rl d).length) (hb : ∀ a d, SL X C W H0 (setR (Rl d) is (dts a)) body er Rl Rl (mb a d)) (hr : ∀ d, SL X C W H0 (Rl d) rest er Rb Rn' (k d))
    (hs : ∀ x, foldedSetIterable iter X.env x = pure x) : SL X C W H0 R (.For tg iter body [] pos :: rest) er Rb Rn' (mi >>= fun xs => loopL mb xs d0 >>= thenL k) :=
  ⟨(pss_cons (ps_for hp hc hi.run hg (tb := fun D σ H => ∃ a d, tS C W H0 (setR (Rl d) is (dts a)) er Rl Rl (mb a d) D σ H) ⟨fun pins s σ H D I ⟨a, d, q⟩ => (hb a d).run.run pins s σ H D I q⟩ hs)
      (u := fun D σ H => ∃ d, tS C W H0 (Rl d) er Rb Rn' (k d) D σ H) ⟨fun pins s σ H D I ⟨d, q⟩ => (hr d).run.run pins s σ H D I q⟩).weak fun D σ H q => by
    obtain ⟨s, c, q⟩ := q
    refine ⟨s, c, ?_⟩
    rw [PyM.run_bind] at q
    cases z : PyM.run mi s with
    | none => rw [z] at q; exact q
    | some p =>
      obtain ⟨r, s1⟩ := p
      rw [z] at q
      cases r with
      | error x => exact fun cls d H' e rl ex => q cls d σ H' (c.base.trans e) rl ex
      | ok xs =>
        intro J H1 e1 rl1 wk
        have q : AfterS C W H0 H er Rb Rn' D (PyM.run (loopL mb xs d0 >>= thenL k) s1) := q
        have q := AfterS.mono e1.firms q
        rw [PyM.run_bind] at q
        refine ⟨ForW X C W H0 er Rl mb xs H1 { D with nx := fun σ H => ∃ d, tS C W H0 (Rl d) er Rb Rn' (k d) D σ H }, ⟨xs.length, rfl, Nat.zero_le _, d0, s1, Firms.refl _, (c.ext e1 rl1).sub h0, ?_⟩, ?_⟩
        · show match PyM.run (loopL mb xs d0) s1 with | none => _ | some (.ok (.inl d'), s') => _ | some (.ok (.inr r), s') => _ | some (.error x, s') => _
          cases z2 : PyM.run (loopL mb xs d0) s1 with
          | none => rw [z2] at q; exact q
          | some p2 =>
            obtain ⟨r2, s2⟩ := p2
            rw [z2] at q
            cases r2 with
            | error x => exact q
            | ok o =>
              cases o with
              | inl d' => exact fun σ' H' f cf => ⟨d', s2, cf, AfterS.mono f q⟩
              | inr r =>
                have q : AfterS C W H0 H1 er Rb Rn' D (PyM.run (pure (.rt r)) s2) := q
                rw [PyM.run_pure] at q
                exact q
        · rintro i n σ2 H2 ⟨rfl, hi, d, s2, f2, c2, w2⟩
          by_cases hlt' : i < xs.length
          · obtain ⟨go, yl⟩ := wk.go i H2 f2 (by rw [List.length_map]; exact hlt')
            refine .inr ⟨go, ForW X C W H0 er Rl mb xs H1 { D with nx := fun σ H => ∃ d, tS C W H0 (Rl d) er Rb Rn' (k d) D σ H } (i + 1) (xs.length - (i + 1)), fun σ' H' hN => ⟨_, by omega, hN⟩, fun x H3 y => ?_⟩
            obtain ⟨e3, dx, hd, rx⟩ := yl x H3 y
            have hx : xs[i]? = some xs[i] := List.getElem?_eq_getElem hlt'
            rw [List.getElem?_map, hx] at hd
            have hd : some (ea xs[i]) = some dx := hd
            cases hd
            refine hgo.run xs[i] x _ H3 _ rx fun ws rws => ⟨xs[i], d, s2, (c2.same e3).setAll (hlt d) rws, ?_⟩
            have f13 : Firms H1 H3 := f2.trans fun b o h _ => e3 b o h
            have hdr : xs.drop i = xs[i] :: xs.drop (i + 1) := List.drop_eq_getElem_cons hlt'
            rw [hdr] at w2
            have e : PyM.run (loopL mb (xs[i] :: xs.drop (i + 1)) d) s2 = Res.bind (PyM.run (mb xs[i] d) s2) fun o s' => PyM.run (Out.loop (loopL mb (xs.drop (i + 1))) o) s' := PyM.run_bind (mb xs[i] d) _ s2
            rw [e] at w2
            cases z3 : PyM.run (mb xs[i] d) s2 with
            | none => rw [z3] at w2; exact w2
            | some p3 =>
              obtain ⟨r3, s3⟩ := p3
              rw [z3] at w2
              cases r3 with
              | error x => exact w2
              | ok o =>
                cases o with
                | nx d' => exact fun σ' H' f cf => ⟨rfl, hlt', d', s3, f13.trans f, cf, w2⟩
                | ct d' => exact fun σ' H' f cf => ⟨rfl, hlt', d', s3, f13.trans f, cf, w2⟩
                | bk d' =>
                  have w2 : match PyM.run (pure (Sum.inl d') : m (δ ⊕ ρ)) s3 with
                    | none => False
                    | some (.ok (.inl d'), s') => ∀ σ' H', Firms H1 H' → Cfg C H0 (Rl d') s' σ' H' → ∃ d, tS C W H0 (Rl d) er Rb Rn' (k d) D σ' H'
                    | some (.ok (.inr r), s') => ∀ v H', Ext C.mt H0 H' → C.rel s' H' → Rep X.K X.w H' v (er r) → D.rt v H'
                    | some (.error x, s') => ∀ cls d σ' H', Ext C.mt H0 H' → C.rel s' H' → C.exc x cls d H' → W cls d σ' H' := w2
                  rw [PyM.run_pure] at w2
                  exact fun σ' H' f cf => w2 σ' H' (f13.trans f) cf
                | rt r =>
                  have w2 : match PyM.run (pure (Sum.inr r) : m (δ ⊕ ρ)) s3 with
                    | none => False
                    | some (.ok (.inl d'), s') => ∀ σ' H', Firms H1 H' → Cfg C H0 (Rl d') s' σ' H' → ∃ d, tS C W H0 (Rl d) er Rb Rn' (k d) D σ' H'
                    | some (.ok (.inr r), s') => ∀ v H', Ext C.mt H0 H' → C.rel s' H' → Rep X.K X.w H' v (er r) → D.rt v H'
                    | some (.error x, s') => ∀ cls d σ' H', Ext C.mt H0 H' → C.rel s' H' → C.exc x cls d H' → W cls d σ' H' := w2
                  rw [PyM.run_pure] at w2
                  exact w2
          · have hi' : i = xs.length := by omega
            subst hi'
            refine .inl ⟨wk.stop _ H2 f2 (by rw [List.length_map]; exact Nat.le_refl _), ?_⟩
            rw [List.drop_length] at w2
            have w2 : match PyM.run (pure (Sum.inl d) : m (δ ⊕ ρ)) s2 with
                    | none => False
                    | some (.ok (.inl d'), s') => ∀ σ' H', Firms H1 H' → Cfg C H0 (Rl d') s' σ' H' → ∃ d, tS C W H0 (Rl d) er Rb Rn' (k d) D σ' H'
                    | some (.ok (.inr r), s') => ∀ v H', Ext C.mt H0 H' → C.rel s' H' → Rep X.K X.w H' v (er r) → D.rt v H'
                    | some (.error x, s') => ∀ cls d σ' H', Ext C.mt H0 H' → C.rel s' H' → C.exc x cls d H' → W cls d σ' H' := w2
            rw [PyM.run_pure] at w2
            exact w2 σ2 H2 f2 c2⟩
theorem loop_fold {f : α → δ → m δ} : ∀ (xs : List α) (d : δ), Alike (loopL (ρ := ρ) (fun x d => f x d >>= fun d' => pure (.nx d')) xs d) (foldL f xs d >>= fun d => pure (.inl d))
  | [], d => alike_pure.symm
  | x :: xs, d => by
    show Alike ((f x d >>= fun d' => pure (Out.nx d')) >>= _) ((f x d >>= foldL f xs) >>= _)
    refine (alike_assoc _ _ _).trans (.trans (alike_bind fun d' => ?_) (alike_assoc _ _ _).symm)
    exact alike_pure.trans (loop_fold xs d')
theorem sl_forP {mb : α → δ → m δ} {k : δ → m (Out ρ ε δ')} (hp : PassesOwn (model X.prog X.w) X.A X.env X.xe) (hc : X.calm = true) (hi : SI X C W H0 R Firms tg iter ea mi) (hg : PG X tg g) (hgo : GOk X.K X.w g ea is dts)
    (h0 : SubS (Rl d0) R) (hlt : ∀ d, ∀ i ∈ is, i < (Rl d).length) (hb : ∀ a d, SP X C W H0 (setR (Rl d) is (dts a)) body Rl (mb a d)) (hr : ∀ d, SL X C W H0 (Rl d) rest er Rb Rn' (k d))
    (hs : ∀ x, foldedSetIterable iter X.env x = pure x) : SL X C W H0 R (.For tg iter body [] pos :: rest) er Rb Rn' (mi >>= fun xs => foldL mb xs d0 >>= k) :=
  (sl_forG hp hc hi hg hgo h0 hlt (fun a d => (hb a d).up) hr hs).alike (alike_bind fun xs =>
    (((alike_bind2 (g := thenL k) (loop_fold xs d0) fun _ => .refl _).trans (alike_assoc (foldL mb xs d0) (fun d => pure (Sum.inl d)) (thenL k))).trans (alike_bind fun d => alike_pure)).symm)

/-! ### while -/
def WhW (X : Cx) (C : Wd X.K X.w m) (W : WX) (H0 : Hp) (er : ρ → PyData) (Rl : δ → Slots) (mc : δ → m Bool) (mb : δ → m (Out ρ δ δ)) (H1 : Hp) (D : Ends) (n : Nat) (σ : L2.St) (H : Hp) : Prop :=
  ∃ d s, Firms H1 H ∧ Cfg C H0 (Rl d) s σ H ∧ match PyM.run (whileF mc mb n d) s with
    | none => False
    | some (.ok (.inl d'), s') => ∀ σ' H', Firms H1 H' → Cfg C H0 (Rl d') s' σ' H' → D.nx σ' H'
    | some (.ok (.inr r), s') => ∀ v H', Ext C.mt H0 H' → C.rel s' H' → Rep X.K X.w H' v (er r) → D.rt v H'
    | some (.error x, s') => ∀ cls d σ' H', Ext C.mt H0 H' → C.rel s' H' → C.exc x cls d H' → W cls d σ' H'
theorem sl_whG {mc : δ → m Bool} {mb : δ → m (Out ρ δ δ)} {k : δ → m (Out ρ ε δ')} (hp : PassesOwn (model X.prog X.w) X.A X.env X.xe)
    (h0 : SubS (Rl d0) R) (hc : ∀ d, ST X C W H0 (Rl d) c (mc d)) (hb : ∀ d, SL X C W H0 (Rl d) body er Rl Rl (mb d)) (hr : ∀ d, SL X C W H0 (Rl d) rest er Rb Rn' (k d)) :
    SL X C W H0 R (.While c body [] pos :: rest) er Rb Rn' (whileG mc mb d0 >>= thenL k) :=
  ⟨(pss_cons (ps_while hp (tc := fun σ H Q => ∃ d, tT C W H0 (Rl d) (mc d) σ H Q) (tb := fun D σ H => ∃ d, tS C W H0 (Rl d) er Rl Rl (mb d) D σ H) ⟨fun pins s σ H Q I ⟨d, q⟩ => (hc d).run.run pins s σ H Q I q⟩ ⟨fun pins s σ H D I ⟨d, q⟩ => (hb d).run.run pins s σ H D I q⟩)
      (u := fun D σ H => ∃ d, tS C W H0 (Rl d) er Rb Rn' (k d) D σ H) ⟨fun pins s σ H D I ⟨d, q⟩ => (hr d).run.run pins s σ H D I q⟩).weak fun D σ H q => by
    obtain ⟨s, c, q⟩ := q
    rw [PyM.run_bind] at q
    cases z : PyM.run (whileG mc mb d0) s with
    | none => rw [z] at q; exact q.elim
    | some p =>
      obtain ⟨n, hn⟩ := PyM.run_sup _ _ _ z
      rw [z] at q
      refine ⟨WhW X C W H0 er Rl mc mb H { D with nx := fun σ H => ∃ d, tS C W H0 (Rl d) er Rb Rn' (k d) D σ H }, ⟨n, d0, s, Firms.refl _, c.sub h0, ?_⟩, ?_⟩
      · rw [hn]
        obtain ⟨r2, s2⟩ := p
        cases r2 with
        | error x => exact q
        | ok o =>
          cases o with
          | inl d' => exact fun σ' H' f cf => ⟨d', s2, cf, AfterS.mono f q⟩
          | inr r =>
            have q : AfterS C W H0 H er Rb Rn' D (PyM.run (pure (.rt r)) s2) := q
            rw [PyM.run_pure] at q
            exact q
      · rintro i σ2 H2 ⟨d, s2, f2, c2, w2⟩
        cases i with
        | zero =>
          have w2 : match PyM.run (fromO none : m (δ ⊕ ρ)) s2 with
                    | none => False
                    | some (.ok (.inl d'), s') => ∀ σ' H', Firms H H' → Cfg C H0 (Rl d') s' σ' H' → ∃ d, tS C W H0 (Rl d) er Rb Rn' (k d) D σ' H'
                    | some (.ok (.inr r), s') => ∀ v H', Ext C.mt H0 H' → C.rel s' H' → Rep X.K X.w H' v (er r) → D.rt v H'
                    | some (.error x, s') => ∀ cls d σ' H', Ext C.mt H0 H' → C.rel s' H' → C.exc x cls d H' → W cls d σ' H' := w2
          rw [PyM.run_fromO] at w2
          exact w2.elim
        | succ i =>
          have e : PyM.run (whileF mc mb (i + 1) d) s2 = Res.bind (PyM.run (mc d) s2) fun t s' => PyM.run (if t = true then mb d >>= Out.loop (whileF mc mb i) else pure (.inl d)) s' := PyM.run_bind (mc d) _ s2
          rw [e] at w2
          refine ⟨d, s2, c2, ?_⟩
          cases z3 : PyM.run (mc d) s2 with
          | none => rw [z3] at w2; exact w2
          | some p3 =>
            obtain ⟨r3, s3⟩ := p3
            rw [z3] at w2
            cases r3 with
            | error x => exact fun cls dd H' e rl ex => w2 cls dd σ2 H' (c2.base.trans e) rl ex
            | ok t =>
              intro H3 e3 rl3
              have c3 := c2.ext e3 rl3
              have f3 : Firms H H3 := f2.trans e3.firms
              cases t with
              | false =>
                have w2 : match PyM.run (pure (Sum.inl d) : m (δ ⊕ ρ)) s3 with
                    | none => False
                    | some (.ok (.inl d'), s') => ∀ σ' H', Firms H H' → Cfg C H0 (Rl d') s' σ' H' → ∃ d, tS C W H0 (Rl d) er Rb Rn' (k d) D σ' H'
                    | some (.ok (.inr r), s') => ∀ v H', Ext C.mt H0 H' → C.rel s' H' → Rep X.K X.w H' v (er r) → D.rt v H'
                    | some (.error x, s') => ∀ cls d σ' H', Ext C.mt H0 H' → C.rel s' H' → C.exc x cls d H' → W cls d σ' H' := w2
                rw [PyM.run_pure] at w2
                exact w2 σ2 H3 f3 c3
              | true =>
                rw [if_pos rfl]
                refine ⟨WhW X C W H0 er Rl mc mb H { D with nx := fun σ H => ∃ d, tS C W H0 (Rl d) er Rb Rn' (k d) D σ H } i, fun σ' H' w => ⟨i, Nat.lt_succ_self i, w⟩, d, s3, c3, ?_⟩
                have e : PyM.run (mb d >>= Out.loop (whileF mc mb i)) s3 = Res.bind (PyM.run (mb d) s3) fun o s' => PyM.run (Out.loop (whileF mc mb i) o) s' := PyM.run_bind (mb d) _ s3
                have w2 : match PyM.run (mb d >>= Out.loop (whileF mc mb i)) s3 with
                    | none => False
                    | some (.ok (.inl d'), s') => ∀ σ' H', Firms H H' → Cfg C H0 (Rl d') s' σ' H' → ∃ d, tS C W H0 (Rl d) er Rb Rn' (k d) D σ' H'
                    | some (.ok (.inr r), s') => ∀ v H', Ext C.mt H0 H' → C.rel s' H' → Rep X.K X.w H' v (er r) → D.rt v H'
                    | some (.error x, s') => ∀ cls d σ' H', Ext C.mt H0 H' → C.rel s' H' → C.exc x cls d H' → W cls d σ' H' := w2
                rw [e] at w2
                cases z4 : PyM.run (mb d) s3 with
                | none => rw [z4] at w2; exact w2
                | some p4 =>
                  obtain ⟨r4, s4⟩ := p4
                  rw [z4] at w2
                  cases r4 with
                  | error x => exact w2
                  | ok o =>
                    cases o with
                    | nx d' => exact fun σ' H' f cf => ⟨d', s4, f3.trans f, cf, w2⟩
                    | ct d' => exact fun σ' H' f cf => ⟨d', s4, f3.trans f, cf, w2⟩
                    | bk d' =>
                      have w2 : match PyM.run (pure (Sum.inl d') : m (δ ⊕ ρ)) s4 with
                        | none => False
                        | some (.ok (.inl d'), s') => ∀ σ' H', Firms H H' → Cfg C H0 (Rl d') s' σ' H' → ∃ d, tS C W H0 (Rl d) er Rb Rn' (k d) D σ' H'
                        | some (.ok (.inr r), s') => ∀ v H', Ext C.mt H0 H' → C.rel s' H' → Rep X.K X.w H' v (er r) → D.rt v H'
                        | some (.error x, s') => ∀ cls d σ' H', Ext C.mt H0 H' → C.rel s' H' → C.exc x cls d H' → W cls d σ' H' := w2
                      rw [PyM.run_pure] at w2
                      exact fun σ' H' f cf => w2 σ' H' (f3.trans f) cf
                    | rt r =>
                      have w2 : match PyM.run (pure (Sum.inr r) : m (δ ⊕ ρ)) s4 with
                        | none => False
                        | some (.ok (.inl d'), s') => ∀ σ' H', Firms H H' → Cfg C H0 (Rl d') s' σ' H' → ∃ d, tS C W H0 (Rl d) er Rb Rn' (k d) D σ' H'
                        | some (.ok (.inr r), s') => ∀ v H', Ext C.mt H0 H' → C.rel s' H' → Rep X.K X.w H' v (er r) → D.rt v H'
                        | some (.error x, s') => ∀ cls d σ' H', Ext C.mt H0 H' → C.rel s' H' → C.exc x cls d H' → W cls d σ' H' := w2
                      rw [PyM.run_pure] at w2
                      exact w2⟩
end
end TT

namespace TT
open PyM (fromO)
open PySem PySem.Spec PyProof.Rows L2

section
variable {X : Cx} {m : Type → Type} [Monad m] [PyM m] {C : Wd X.K X.w m} {W : WX} {H0 : Hp} {R : Slots} {k : Kd} {α β γ ρ ε δ : Type} {ea : α → PyData} {eb : β → PyData} {ec : γ → PyData} {er : ρ → PyData} {Rb : ε → Slots} {Rn : δ → Slots}
variable {a b c e : Expr} {st : Stmt} {rest sts : List Stmt} {es : List Expr} {ma : m α} {mb : m β} {me : m α} {mi mj : m Int} {pos p : Pos} {mxs mys : m (List α)} {mz my : m Str} {x : Str}

/-! ### built-in functions of one thing -/
theorem sx_callB {id : String} {r : List V → Hp → VK → Prop} (kk : KdOk k) (hc : CallR X (.builtin id) r) (hg : Gl X x) (hm : X.mg x = none) (hv : bootBuiltins x = some (.builtin id)) (hn : x ≠ "__name__") (hd : (x == ("__debug__" : Str)) = false)
    (ha : SB X C W H0 R a ea ma) {g : α → m γ} (h : ∀ v σ H Q i, kB X.K X.w C.mt H H v (ea i) → LenOk X.K H → tR C W H0 R k ec (g i) σ H Q → r [v] H Q)
    (hs : starEach (a :: []) X.env = (false, eval a X.env) :: starEach [] X.env := by rfl) : SX X C W H0 R k (.Call (.Name x p) [a] [] pos) ec (ma >>= g) :=
  .weak (pe_callB hc hg hm hv (pa_cons (PE.facts ha.run) pa_nil hs) hn hd hs) fun σ H Q q => tR_imp (tR_bind kk q) fun v H1 ⟨i, e1, k1, h1⟩ l => h v σ H1 Q i k1 l h1
theorem sx_callT {T : String} {r : List V → Hp → VK → Prop} (kk : KdOk k) (hc : CallR X (.type T) r) (hg : Gl X x) (hm : X.mg x = none) (hv : bootBuiltins x = some (.type T)) (hn : x ≠ "__name__") (hd : (x == ("__debug__" : Str)) = false)
    (ha : SB X C W H0 R a ea ma) {g : α → m γ} (h : ∀ v σ H Q i, kB X.K X.w C.mt H H v (ea i) → LenOk X.K H → tR C W H0 R k ec (g i) σ H Q → r [v] H Q)
    (hs : starEach (a :: []) X.env = (false, eval a X.env) :: starEach [] X.env := by rfl) : SX X C W H0 R k (.Call (.Name x p) [a] [] pos) ec (ma >>= g) :=
  .weak (pe_callTy hc hg hm hv (pa_cons (PE.facts ha.run) pa_nil hs) hn hd hs) fun σ H Q q => tR_imp (tR_bind kk q) fun v H1 ⟨i, e1, k1, h1⟩ l => h v σ H1 Q i k1 l h1
theorem sx_callB2 {id : String} {r : List V → Hp → VK → Prop} (kk : KdOk k) (hc : CallR X (.builtin id) r) (hg : Gl X x) (hm : X.mg x = none) (hv : bootBuiltins x = some (.builtin id)) (hn : x ≠ "__name__") (hd : (x == ("__debug__" : Str)) = false)
    (ha : SB X C W H0 R a ea ma) (hb : SB X C W H0 R b eb mb) {g : α → β → m γ} (h : ∀ v u σ H Q i j, kB X.K X.w C.mt H H v (ea i) → kB X.K X.w C.mt H H u (eb j) → tR C W H0 R k ec (g i j) σ H Q → r [v, u] H Q)
    (hs : starEach (a :: [b]) X.env = (false, eval a X.env) :: starEach [b] X.env := by rfl) (hs2 : starEach (b :: []) X.env = (false, eval b X.env) :: starEach [] X.env := by rfl) (hpl : (backTo pos (starEach [b] X.env)).any (·.1) = false := by rfl) : SX X C W H0 R k (.Call (.Name x p) [a, b] [] pos) ec (ma >>= fun i => mb >>= fun j => g i j) :=
  .weak (pe_callB hc hg hm hv (pa_cons ha.run (pa_cons hb.run pa_nil hs2) hs) hn hd hs hpl) fun σ H Q q => tR_two (tb := fun _ _ _ => True) (r := fun v u H => r [v, u] H Q) kk q fun v u H2 i j k1 k2 q2 => h v u σ H2 Q i j k1 k2 q2
abbrev nN {x : Str} (h : (x != "__name__") = true) : x ≠ "__name__" := by simpa using h
theorem se_lenT (hg : Gl X "len") (hm : X.mg "len" = none) (ha : SB X C W H0 R a (eTup ea) mxs) (hs : starEach (a :: []) X.env = (false, eval a X.env) :: starEach [] X.env := by rfl) : SE X C W H0 R (.Call (.Name "len" p) [a] [] pos) eInt (mxs >>= fun xs => pure (xs.length : Int)) :=
  sx_callB kF_ok call_len hg hm PySem.boot_len (by decide) (by decide) ha (fun v σ H Q xs kv _ q => by
    obtain ⟨t, vs, rfl, h1, h2⟩ := kB_tup kv
    refine ⟨_, vs.length, rfl, .inr ⟨vs, h1, rfl⟩, ?_⟩
    rw [h2.length, List.length_map]
    exact (tR_pure q).2 _ H (.refl H) (.int _)) hs
theorem se_lenL (hg : Gl X "len") (hm : X.mg "len" = none) (ha : SB X C W H0 R a (eLst ea) mxs) (hs : starEach (a :: []) X.env = (false, eval a X.env) :: starEach [] X.env := by rfl) : SE X C W H0 R (.Call (.Name "len" p) [a] [] pos) eInt (mxs >>= fun xs => pure (xs.length : Int)) :=
  sx_callB kF_ok call_len hg hm PySem.boot_len (by decide) (by decide) ha (fun v σ H Q xs kv _ q => by
    obtain ⟨t, vs, rfl, h1, h2⟩ := kB_lst kv
    refine ⟨_, vs.length, rfl, .inl ⟨vs, h1, rfl⟩, ?_⟩
    rw [h2.length, List.length_map]
    exact (tR_pure q).2 _ H (.refl H) (.int _)) hs
theorem se_lenS (hg : Gl X "len") (hm : X.mg "len" = none) (ha : SB X C W H0 R a eStr mz) (hs : starEach (a :: []) X.env = (false, eval a X.env) :: starEach [] X.env := by rfl) : SE X C W H0 R (.Call (.Name "len" p) [a] [] pos) eInt (mz >>= fun z => fromO (if z.length ≤ 16777216 then some (z.length : Int) else none)) :=
  sx_callB kF_ok call_len hg hm PySem.boot_len (by decide) (by decide) ha (fun v σ H Q z kv _ q => by
    obtain ⟨c, e, _, q⟩ := tR_done q
    split at e
    · rename_i g
      cases e
      rw [kB_str kv]
      exact ⟨_, z.length, rfl, ⟨by rw [sizeLine_eq]; exact g, rfl⟩, q _ H (.refl H) (.int _)⟩
    · cases e) hs
theorem se_abs (hg : Gl X "abs") (hm : X.mg "abs" = none) (ha : SB X C W H0 R a eInt mi) (hs : starEach (a :: []) X.env = (false, eval a X.env) :: starEach [] X.env := by rfl) : SE X C W H0 R (.Call (.Name "abs" p) [a] [] pos) eInt (mi >>= fun i => pure (if i < 0 then -i else i)) :=
  sx_callB kF_ok call_abs hg hm (by decide +kernel) (by decide) (by decide) ha (fun v σ H Q i kv _ q => ⟨i, by rw [kB_int kv], (tR_pure q).2 _ H (.refl H) (.int _)⟩) hs
theorem se_int1 (hg : Gl X "int") (hm : X.mg "int" = none) (ha : SB X C W H0 R a eInt mi) (hs : starEach (a :: []) X.env = (false, eval a X.env) :: starEach [] X.env := by rfl) : SE X C W H0 R (.Call (.Name "int" p) [a] [] pos) eInt (mi >>= fun i => pure i) :=
  sx_callT kF_ok call_int1 hg hm (by decide +kernel) (by decide) (by decide) ha (fun v σ H Q i kv _ q => .inl ⟨i, by rw [kB_int kv], (tR_pure q).2 _ H (.refl H) (.int _)⟩) hs
theorem se_intB {mc : m Bool} (hg : Gl X "int") (hm : X.mg "int" = none) (ha : SB X C W H0 R a eBool mc) (hs : starEach (a :: []) X.env = (false, eval a X.env) :: starEach [] X.env := by rfl) : SE X C W H0 R (.Call (.Name "int" p) [a] [] pos) eInt (mc >>= fun i => pure (if i = true then 1 else 0)) :=
  sx_callT kF_ok call_int1 hg hm (by decide +kernel) (by decide) (by decide) ha (fun v σ H Q i kv _ q => .inr ⟨i, by rw [kB_bool kv], (tR_pure q).2 _ H (.refl H) (.int _)⟩) hs
theorem se_min2 (hk : X.calm = true) (hg : Gl X "min") (hm : X.mg "min" = none) (ha : SB X C W H0 R a eInt mi) (hb : SB X C W H0 R b eInt mj)
    (hs : starEach (a :: [b]) X.env = (false, eval a X.env) :: starEach [b] X.env := by rfl) (hs2 : starEach (b :: []) X.env = (false, eval b X.env) :: starEach [] X.env := by rfl) (hpl : (backTo pos (starEach [b] X.env)).any (·.1) = false := by rfl) :
    SE X C W H0 R (.Call (.Name "min" p) [a, b] [] pos) eInt (mi >>= fun i => mj >>= fun j => pure (if j < i then j else i)) :=
  sx_callB2 kF_ok (call_min2 hk) hg hm (by decide +kernel) (by decide) (by decide) ha hb (fun v u σ H Q i j k1 k2 q => ⟨i, j, by rw [kB_int k1, kB_int k2], (tR_pure q).2 _ H (.refl H) (.int _)⟩) hs hs2 hpl
theorem se_max2 (hk : X.calm = true) (hg : Gl X "max") (hm : X.mg "max" = none) (ha : SB X C W H0 R a eInt mi) (hb : SB X C W H0 R b eInt mj)
    (hs : starEach (a :: [b]) X.env = (false, eval a X.env) :: starEach [b] X.env := by rfl) (hs2 : starEach (b :: []) X.env = (false, eval b X.env) :: starEach [] X.env := by rfl) (hpl : (backTo pos (starEach [b] X.env)).any (·.1) = false := by rfl) :
    SE X C W H0 R (.Call (.Name "max" p) [a, b] [] pos) eInt (mi >>= fun i => mj >>= fun j => pure (if j > i then j else i)) :=
  sx_callB2 kF_ok (call_max2 hk) hg hm (by decide +kernel) (by decide) (by decide) ha hb (fun v u σ H Q i j k1 k2 q => ⟨i, j, by rw [kB_int k1, kB_int k2], (tR_pure q).2 _ H (.refl H) (.int _)⟩) hs hs2 hpl
/-- tuple(xs), list(xs) -/
theorem se_tupleL (hg : Gl X "tuple") (hm : X.mg "tuple" = none) (ha : SB X C W H0 R a (eLst ea) mxs) (hs : starEach (a :: []) X.env = (false, eval a X.env) :: starEach [] X.env := by rfl) : SE X C W H0 R (.Call (.Name "tuple" p) [a] [] pos) (eTup ea) (mxs >>= fun xs => pure xs) :=
  sx_callT kF_ok call_tuple_of hg hm (by decide +kernel) (by decide) (by decide) ha (fun v σ H Q xs kv _ q => by
    obtain ⟨t, vs, rfl, h1, h2⟩ := kB_lst kv
    exact ⟨t, vs, rfl, .inl ⟨h1, fun l hl => (tR_pure q).2 _ _ (Same.new hl) (.tup (.of upd_same) (Reps.firm (fun b o h _ => Same.new hl b o h) h2))⟩⟩) hs
theorem se_tupleT (hg : Gl X "tuple") (hm : X.mg "tuple" = none) (ha : SB X C W H0 R a (eTup ea) mxs) (hs : starEach (a :: []) X.env = (false, eval a X.env) :: starEach [] X.env := by rfl) : SE X C W H0 R (.Call (.Name "tuple" p) [a] [] pos) (eTup ea) (mxs >>= fun xs => pure xs) :=
  sx_callT kF_ok call_tuple_of hg hm (by decide +kernel) (by decide) (by decide) ha (fun v σ H Q xs kv _ q => by
    obtain ⟨t, vs, rfl, h1, h2⟩ := kB_tup kv
    exact ⟨t, vs, rfl, .inr ⟨h1, (tR_pure q).2 _ _ (.refl H) (.tup h1 h2)⟩⟩) hs
theorem so_listT (hg : Gl X "list") (hm : X.mg "list" = none) (ha : SB X C W H0 R a (eTup ea) mxs) (hs : starEach (a :: []) X.env = (false, eval a X.env) :: starEach [] X.env := by rfl) : SO X C W H0 R (.Call (.Name "list" p) [a] [] pos) (eLst ea) (mxs >>= fun xs => pure xs) :=
  sx_callT kO_ok call_list_of hg hm (by decide +kernel) (by decide) (by decide) ha (fun v σ H Q xs kv _ q => by
    obtain ⟨t, vs, rfl, h1, h2⟩ := kB_tup kv
    exact ⟨t, vs, rfl, .inr h1, fun l hl => (tR_pure q).2 _ _ (Same.new hl) ⟨l, vs, _, rfl, rfl, upd_same, Reps.firm (fun b o h _ => Same.new hl b o h) h2, hl⟩⟩) hs
theorem so_listL (hg : Gl X "list") (hm : X.mg "list" = none) (ha : SB X C W H0 R a (eLst ea) mxs) (hs : starEach (a :: []) X.env = (false, eval a X.env) :: starEach [] X.env := by rfl) : SO X C W H0 R (.Call (.Name "list" p) [a] [] pos) (eLst ea) (mxs >>= fun xs => pure xs) :=
  sx_callT kO_ok call_list_of hg hm (by decide +kernel) (by decide) (by decide) ha (fun v σ H Q xs kv _ q => by
    obtain ⟨t, vs, rfl, h1, h2⟩ := kB_lst kv
    exact ⟨t, vs, rfl, .inl h1, fun l hl => (tR_pure q).2 _ _ (Same.new hl) ⟨l, vs, _, rfl, rfl, upd_same, Reps.firm (fun b o h _ => Same.new hl b o h) h2, hl⟩⟩) hs
theorem reps_ints {K : PySem.W.Frag} {w : World} {H : Hp} : ∀ {vs : List V} {ns : List Int}, Reps K w H vs (ns.map eInt) → vs = ns.map V.int
  | _, [], .nil => rfl
  | _, n :: ns, .cons r t => by
    cases r
    rw [reps_ints t]
    rfl
theorem reps_bools {K : PySem.W.Frag} {w : World} {H : Hp} : ∀ {vs : List V} {ns : List Bool}, Reps K w H vs (ns.map eBool) → vs = ns.map V.bl
  | _, [], .nil => rfl
  | _, n :: ns, .cons r t => by
    cases r
    rw [reps_bools t]
    rfl
theorem se_sumL {mn : m (List Int)} (hk : X.calm = true) (hg : Gl X "sum") (hm : X.mg "sum" = none) (ha : SB X C W H0 R a (eLst eInt) mn) (hs : starEach (a :: []) X.env = (false, eval a X.env) :: starEach [] X.env := by rfl) : SE X C W H0 R (.Call (.Name "sum" p) [a] [] pos) eInt (mn >>= fun ns => pure ns.sum) :=
  sx_callB kF_ok (cr_sum hk) hg hm (by decide +kernel) (by decide) (by decide) ha (fun v σ H Q ns kv _ q => by
    obtain ⟨t, vs, rfl, h1, h2⟩ := kB_lst kv
    rw [reps_ints h2] at h1
    exact ⟨t, ns, rfl, h1, (tR_pure q).2 _ H (.refl H) (.int _)⟩) hs
theorem se_allL {mn : m (List Bool)} (hk : X.calm = true) (hg : Gl X "all") (hm : X.mg "all" = none) (ha : SB X C W H0 R a (eLst eBool) mn) (hs : starEach (a :: []) X.env = (false, eval a X.env) :: starEach [] X.env := by rfl) : SE X C W H0 R (.Call (.Name "all" p) [a] [] pos) eBool (mn >>= fun ns => pure (ns.all id)) :=
  sx_callB kF_ok (cr_all hk) hg hm (by decide +kernel) (by decide) (by decide) ha (fun v σ H Q ns kv _ q => by
    obtain ⟨t, vs, rfl, h1, h2⟩ := kB_lst kv
    rw [reps_bools h2] at h1
    exact ⟨t, ns, rfl, h1, (tR_pure q).2 _ H (.refl H) (.bl _)⟩) hs
theorem se_anyL {mn : m (List Bool)} (hk : X.calm = true) (hg : Gl X "any") (hm : X.mg "any" = none) (ha : SB X C W H0 R a (eLst eBool) mn) (hs : starEach (a :: []) X.env = (false, eval a X.env) :: starEach [] X.env := by rfl) : SE X C W H0 R (.Call (.Name "any" p) [a] [] pos) eBool (mn >>= fun ns => pure (ns.any id)) :=
  sx_callB kF_ok (cr_any hk) hg hm (by decide +kernel) (by decide) (by decide) ha (fun v σ H Q ns kv _ q => by
    obtain ⟨t, vs, rfl, h1, h2⟩ := kB_lst kv
    rw [reps_bools h2] at h1
    exact ⟨t, ns, rfl, h1, (tR_pure q).2 _ H (.refl H) (.bl _)⟩) hs

/-! ### + and * of tuples, lists, texts -/
def catG (xs ys : List α) : Option (List α) := if xs.length + ys.length ≤ 16777216 then some (xs ++ ys) else none
theorem catG_some {xs ys zs : List α} (h : catG xs ys = some zs) : xs.length + ys.length ≤ 16777216 ∧ zs = xs ++ ys := by
  unfold catG at h
  split at h
  · rename_i g
    cases h
    exact ⟨g, rfl⟩
  · cases h
theorem se_catT (ha : SB X C W H0 R a (eTup ea) mxs) (hb : SB X C W H0 R b (eTup ea) mys) : SE X C W H0 R (.BinOp a .Add b pos) (eTup ea) (mxs >>= fun xs => mys >>= fun ys => fromO (catG xs ys)) :=
  sx_bin kF_ok op_catA ha hb fun x y σ H Q xs ys k1 k2 q => by
    obtain ⟨c, e, _, q⟩ := tR_done q
    obtain ⟨g, rfl⟩ := catG_some e
    obtain ⟨s, vs, rfl, h1, h2⟩ := kB_tup k1
    obtain ⟨t, us, rfl, h3, h4⟩ := kB_tup k2
    have l1 : vs.length = xs.length := by rw [h2.length, List.length_map]
    have l2 : us.length = ys.length := by rw [h4.length, List.length_map]
    have all : Reps X.K X.w H (vs ++ us) ((xs ++ ys).map ea) := by rw [List.map_append]; exact h2.append h4
    refine ⟨s, t, vs, us, rfl, rfl, h1, h3, by rw [sizeLine_eq, l1, l2]; exact g, fun z => ?_, fun _ z => ?_, fun _ _ p hp => ?_⟩
    · subst z
      exact q _ H (.refl H) (.tup h3 all)
    · subst z
      rw [List.append_nil] at all
      exact q _ H (.refl H) (.tup h1 all)
    · exact q _ _ (Same.new hp) (.tup (.of upd_same) (Reps.firm (fun b o h _ => Same.new hp b o h) all))
theorem _root_.L2.Inv.rdL {X : Cx} {pins : List (Addr × Obj)} {σ : L2.St} {H : Hp} {s : Shared} {l : Addr} {xs : List V} (I : L2.Inv X pins σ H s) (h : Rd H l (.lst xs)) : xs.length ≤ sizeLine ∧ ∃ (its : List Value) (n : Nat), Vals xs its ∧ xs.length = its.length ∧ s.heap.get? l = some { cls := .type "list", data := .seq its.toArray n } := by
  obtain ⟨z, its, n, r, e⟩ := h.ok I.hok
  exact ⟨z, its, n, r, r.length, e⟩
def rCatL : R2 := fun x y H Q => ∃ l b xs zs, x = .ref l ∧ y = .ref b ∧ Rd H l (.lst xs) ∧ Rd H b (.lst zs) ∧ xs.length + zs.length ≤ sizeLine ∧ ∀ p, H p = none → Q (.ref p) (upd H p (.lst (xs ++ zs)))
theorem op_catL : OpR X (binaryOp .Add) rCatL := by
  intro pins s σ H x y v u Q I rx ry ⟨l, b, xs, zs, e1, e2, hH, hB, hz, q⟩
  subst e1 e2
  cases rx
  cases ry
  obtain ⟨z, its, n, r, hl, e⟩ := I.rdL hH
  obtain ⟨z2, its2, n2, r2, hl2, e2⟩ := I.rdL hB
  refine PySem.P.add_list (n := n) (n2 := n2) e e2 ?_ (by simp only [List.size_toArray]; omega)
  rw [show its.toArray ++ its2.toArray = (its ++ its2).toArray by simp]
  exact ⟨.ref s.heap.objs.size, _, L2.Inv.lnew (t' := s.toks) I (r.append r2) (by simp only [List.length_append]; omega), rfl, q _ I.fresh⟩
theorem so_catL (ha : SB X C W H0 R a (eLst ea) mxs) (hb : SB X C W H0 R b (eLst ea) mys) : SO X C W H0 R (.BinOp a .Add b pos) (eLst ea) (mxs >>= fun xs => mys >>= fun ys => fromO (catG xs ys)) :=
  sx_bin kO_ok op_catL ha hb fun x y σ H Q xs ys k1 k2 q => by
    obtain ⟨c, e, _, q⟩ := tR_done q
    obtain ⟨g, rfl⟩ := catG_some e
    obtain ⟨s, vs, rfl, h1, h2⟩ := kB_rd k1
    obtain ⟨t, us, rfl, h3, h4⟩ := kB_rd k2
    have l1 : vs.length = xs.length := by rw [h2.length, List.length_map]
    have l2 : us.length = ys.length := by rw [h4.length, List.length_map]
    have all : Reps X.K X.w H (vs ++ us) ((xs ++ ys).map ea) := by rw [List.map_append]; exact h2.append h4
    exact ⟨s, t, vs, us, rfl, rfl, h1, h3, by rw [sizeLine_eq, l1, l2]; exact g, fun p hp => q _ _ (Same.new hp) ⟨p, vs ++ us, _, rfl, rfl, upd_same, Reps.firm (fun b o h _ => Same.new hp b o h) all, hp⟩⟩
theorem se_catS (ha : SB X C W H0 R a eStr mz) (hb : SB X C W H0 R b eStr my) : SE X C W H0 R (.BinOp a .Add b pos) eStr (mz >>= fun z => my >>= fun y => fromO (if z.length + y.length ≤ 16777216 then some (z ++ y) else none)) :=
  sx_bin kF_ok op_add_str ha hb fun x y σ H Q z z' k1 k2 q => by
    obtain ⟨c, e, _, q⟩ := tR_done q
    split at e
    · rename_i g
      cases e
      exact ⟨z, z', kB_str k1, kB_str k2, by rw [sizeLine_eq]; exact g, q _ H (.refl H) (.str _)⟩
    · cases e
def repT (xs : List α) (i : Int) : Option (List α) := if xs ≠ [] ∧ 2 ≤ i ∧ i ≤ 1000 ∧ xs.length ≤ 1000 then some (List.replicate i.toNat xs).flatten else none
theorem Reps.rep {K : PySem.W.Frag} {w : World} {H : Hp} {vs : List V} {ds : List PyData} (r : Reps K w H vs ds) : ∀ n, Reps K w H (List.replicate n vs).flatten (List.replicate n ds).flatten
  | 0 => .nil
  | n + 1 => by
    rw [List.replicate_succ, List.replicate_succ, List.flatten_cons, List.flatten_cons]
    exact r.append (Reps.rep r n)
theorem map_rep (f : α → β) (xs : List α) (n : Nat) : ((List.replicate n xs).flatten).map f = (List.replicate n (xs.map f)).flatten := by
  rw [List.map_flatten, List.map_replicate]
theorem se_repT (ha : SB X C W H0 R a (eTup ea) mxs) (hb : SB X C W H0 R b eInt mi) : SE X C W H0 R (.BinOp a .Mult b pos) (eTup ea) (mxs >>= fun xs => mi >>= fun i => fromO (repT xs i)) :=
  sx_bin kF_ok op_repT ha hb fun x y σ H Q xs i k1 k2 q => by
    obtain ⟨c, e, _, q⟩ := tR_done q
    unfold repT at e
    split at e
    · rename_i g
      cases e
      obtain ⟨s, vs, rfl, h1, h2⟩ := kB_tup k1
      have l1 : vs.length = xs.length := by rw [h2.length, List.length_map]
      refine ⟨s, i, vs, rfl, kB_int k2, h1, fun z => g.1 (List.eq_nil_of_length_eq_zero (by rw [← l1, z]; rfl)), g.2.1, g.2.2.1, by rw [l1]; exact g.2.2.2, fun p hp => q _ _ (Same.new hp) ?_⟩
      refine .tup (.of upd_same) ?_
      rw [map_rep]
      exact Reps.firm (fun b o h _ => Same.new hp b o h) (h2.rep _)
    · cases e

/-! ### slices -/
def cutA {α : Type} (xs : List α) (lo hi : Option Int) : List α := (xs.drop (HT.sIx xs.length 0 lo)).take (HT.sIx xs.length xs.length hi - HT.sIx xs.length 0 lo)
theorem cut_reps {K : PySem.W.Frag} {w : World} {H : Hp} {vs : List V} {xs : List α} (r : Reps K w H vs (xs.map ea)) (lo hi : Option Int) : Reps K w H (cutV vs lo hi) ((cutA xs lo hi).map ea) := by
  have l : vs.length = xs.length := by rw [r.length, List.length_map]
  unfold cutV cutA
  rw [l, List.map_take, List.map_drop]
  exact (r.drop _).take _
/-- the parts of a slice -/
structure SQ (X : Cx) (C : Wd X.K X.w m) (W : WX) (H0 : Hp) (R : Slots) (e : Option Expr) (mm : m (Option Int)) : Prop where
  run : ∃ t, PO X e t ∧ ∀ {k : Kd} {γ : Type} {ec : γ → PyData} {f : Option Int → m γ} {σ : L2.St} {H : Hp} {Q : VK} {Q' : Option Int → Hp → Prop}, KdOk k → tR C W H0 R k ec (mm >>= f) σ H Q → (∀ i H1, Ext C.mt H H1 → tR C W H0 R k ec (f i) σ H1 Q → Q' i H1) → t σ H Q'
theorem sq_none : SQ X C W H0 R none (pure none) := ⟨_, po_none, fun {k γ ec f σ H Q Q'} kk h i => i none H .refl (by
  obtain ⟨s, c, h⟩ := h
  rw [PyM.run_bind, PyM.run_pure] at h
  exact ⟨s, c, h⟩)⟩
theorem sq_some (ha : SE X C W H0 R a eInt mi) : SQ X C W H0 R (some a) (mi >>= fun i => pure (some i)) := ⟨_, po_some ha.run, fun {k γ ec f σ H Q Q'} kk h i => by
  have h2 : tR C W H0 R k ec (mi >>= fun i => f (some i)) σ H Q := by
    obtain ⟨s, c, h⟩ := h
    refine ⟨s, c, ?_⟩
    rw [PyM.run_bind, PyM.run_bind, Res.bind_assoc] at h
    rw [PyM.run_bind]
    have e : (fun (a : Int) s => Res.bind (PyM.run (pure (some a) : m (Option Int)) s) fun a s' => PyM.run (f a) s') = fun a s' => PyM.run (f (some a)) s' := by
      funext a s'
      rw [PyM.run_pure]
      rfl
    rw [e] at h
    exact h
  exact tR_imp (tR_bind kk h2) fun v H1 ⟨j, e, kv, q⟩ => ⟨j, kB_int (mt := C.mt) (H := H1) (.inl kv), i _ H1 e q⟩⟩
theorem sx_slice {lo hi : Option Expr} {ml mh : m (Option Int)} {r : V → Option Int → Option Int → Hp → VK → Prop} {p2 : Pos} (kk : KdOk k) (hr : SlR X r) (ha : SB X C W H0 R a ea ma) (hl : SQ X C W H0 R lo ml) (hh : SQ X C W H0 R hi mh) {g : α → Option Int → Option Int → m γ}
    (h : ∀ x σ H Q i l u, kB X.K X.w C.mt H H x (ea i) → tR C W H0 R k ec (g i l u) σ H Q → r x l u H Q) : SX X C W H0 R k (.Subscript a (.Slice lo hi none p2) pos) ec (ma >>= fun i => ml >>= fun l => mh >>= fun u => g i l u) := by
  obtain ⟨tl, pl, fl⟩ := hl.run
  obtain ⟨th, ph, fh⟩ := hh.run
  exact .weak (pe_slice hr ha.run pl ph) fun σ H Q q => tR_imp (tR_bind kk q) fun x H1 ⟨i, e1, k1, h1⟩ => fl kk h1 fun l H2 e2 h2 => fh kk h2 fun u H3 e3 h3 => h x σ H3 Q i l u (kB.ext (e2.trans e3) k1) h3
theorem se_sliceT {lo hi : Option Expr} {ml mh : m (Option Int)} {p2 : Pos} (ha : SB X C W H0 R a (eTup ea) mxs) (hl : SQ X C W H0 R lo ml) (hh : SQ X C W H0 R hi mh) : SE X C W H0 R (.Subscript a (.Slice lo hi none p2) pos) (eTup ea) (mxs >>= fun xs => ml >>= fun l => mh >>= fun u => pure (cutA xs l u)) :=
  sx_slice kF_ok sl_tupA ha hl hh fun x σ H Q xs l u k1 q => by
    obtain ⟨_, q⟩ := tR_pure q
    obtain ⟨s, vs, rfl, h1, h2⟩ := kB_tup k1
    refine ⟨s, vs, rfl, h1, fun z => ?_, fun z p hp => q _ _ (Same.new hp) (.tup (.of upd_same) (Reps.firm (fun b o h _ => Same.new hp b o h) (cut_reps h2 l u)))⟩
    have e : cutV vs l u = vs := by
      unfold cutV
      rw [z.1, z.2]
      simp
    have r := cut_reps h2 l u
    rw [e] at r
    exact q _ H (.refl H) (.tup h1 r)
theorem so_sliceL {lo hi : Option Expr} {ml mh : m (Option Int)} {p2 : Pos} (ha : SB X C W H0 R a (eLst ea) mxs) (hl : SQ X C W H0 R lo ml) (hh : SQ X C W H0 R hi mh) : SO X C W H0 R (.Subscript a (.Slice lo hi none p2) pos) (eLst ea) (mxs >>= fun xs => ml >>= fun l => mh >>= fun u => pure (cutA xs l u)) :=
  sx_slice kO_ok sl_list ha hl hh fun x σ H Q xs l u k1 q => by
    obtain ⟨_, q⟩ := tR_pure q
    obtain ⟨s, vs, rfl, h1, h2⟩ := kB_lst k1
    exact ⟨s, vs, rfl, h1, fun p hp => q _ _ (Same.new hp) ⟨p, _, _, rfl, rfl, upd_same, Reps.firm (fun b o h _ => Same.new hp b o h) (cut_reps h2 l u), hp⟩⟩
theorem so_revL {k0 : Nat} {p1 p2 p3 : Pos} (ha : SB X C W H0 R a (eLst ea) mxs) : SO X C W H0 R (.Subscript a (.Slice none none (some (.UnaryOp .USub (.Constant (.int 1) k0 p1) p2)) p3) pos) (eLst ea) (mxs >>= fun xs => pure xs.reverse) :=
  .weak (pe_revL ha.run) fun σ H Q q => tR_one kO_ok q fun x H1 xs k1 q1 => by
    obtain ⟨_, q⟩ := tR_pure q1
    obtain ⟨s, vs, rfl, h1, h2⟩ := kB_lst k1
    refine ⟨s, vs, rfl, h1, fun p hp => q _ _ (Same.new hp) ⟨p, _, _, rfl, rfl, upd_same, ?_, hp⟩⟩
    rw [List.map_reverse]
    exact Reps.firm (fun b o h _ => Same.new hp b o h) h2.reverse
end
end TT

namespace TT
open PyM (fromO)
open PySem PySem.Spec PyProof.Rows L2

/-! ### several things, some of them lists of one's own -/
def ItemOk (K : PySem.W.Frag) (w : World) (mt : Addr → Prop) (H H' : Hp) (v : V) : Slot → Prop
  | .frz d => Rep K w H' v d
  | .own ds => ∃ a us, v = .ref a ∧ H' a = some (.lst us) ∧ Reps K w H' us ds ∧ H a = none ∧ ¬ mt a
  | _ => False
inductive ItemsOk (K : PySem.W.Frag) (w : World) (mt : Addr → Prop) (H H' : Hp) : List V → List Slot → Prop
  | nil : ItemsOk K w mt H H' [] []
  | cons {v x vs xs} : ItemOk K w mt H H' v x → (x.Own → ∀ (i : Nat) (y : Slot), xs[i]? = some y → y.Own → vs[i]? ≠ some v) → ItemsOk K w mt H H' vs xs → ItemsOk K w mt H H' (v :: vs) (x :: xs)
section
variable {K : PySem.W.Frag} {w : World} {m : Type → Type} [Monad m] [PyM m]
theorem ItemOk.ext {mt : Addr → Prop} {H H1 H2 : Hp} (e : Ext mt H1 H2) : ∀ {x : Slot} {v : V}, ItemOk K w mt H H1 v x → ItemOk K w mt H H2 v x
  | .frz _, _, h => Rep.firm e.firms h
  | .own _, _, ⟨a, us, h1, h2, h3, h4, h5⟩ => ⟨a, us, h1, e a _ h2 (.inl h5), Reps.firm e.firms h3, h4, h5⟩
  | .adr _, _, h => h
  | .scr _, _, h => h
theorem ItemOk.back {mt : Addr → Prop} {H H1 H2 : Hp} (n : ∀ a, H1 a = none → H a = none) : ∀ {x : Slot} {v : V}, ItemOk K w mt H1 H2 v x → ItemOk K w mt H H2 v x
  | .frz _, _, h => h
  | .own _, _, ⟨a, us, h1, h2, h3, h4, h5⟩ => ⟨a, us, h1, h2, h3, n a h4, h5⟩
  | .adr _, _, h => h
  | .scr _, _, h => h
theorem ItemsOk.back {mt : Addr → Prop} {H H1 H2 : Hp} (n : ∀ a, H1 a = none → H a = none) : ∀ {vs : List V} {xs : List Slot}, ItemsOk K w mt H1 H2 vs xs → ItemsOk K w mt H H2 vs xs
  | _, _, .nil => .nil
  | _, _, .cons h1 h2 h3 => .cons (h1.back n) h2 (h3.back n)
theorem ItemsOk.len {mt : Addr → Prop} {H H' : Hp} : ∀ {vs : List V} {xs : List Slot}, ItemsOk K w mt H H' vs xs → vs.length = xs.length
  | _, _, .nil => rfl
  | _, _, .cons _ _ t => by rw [List.length_cons, List.length_cons, t.len]
def AfterX (C : Wd K w m) (W : WX) {γ : Type} (eg : γ → List Slot) (σ : L2.St) (H : Hp) (Q : List V → Hp → Prop) : Res (PyM.S m) γ → Prop
  | none => False
  | some (.ok g, s') => ∀ vs H', Ext C.mt H H' → C.rel s' H' → ItemsOk K w C.mt H H' vs (eg g) → Q vs H'
  | some (.error x, s') => ∀ cls d H', Ext C.mt H H' → C.rel s' H' → C.exc x cls d H' → W cls d σ H'
def tX (C : Wd K w m) (W : WX) (H0 : Hp) (R : Slots) {γ : Type} (eg : γ → List Slot) (mm : m γ) : TA := fun σ H Q => ∃ s, Cfg C H0 R s σ H ∧ AfterX C W eg σ H Q (PyM.run mm s)
structure SM (X : Cx) (C : Wd X.K X.w m) (W : WX) (H0 : Hp) (R : Slots) (es : List Expr) {γ : Type} (eg : γ → List Slot) (mm : m γ) : Prop where
  run : PA X es (tX C W H0 R eg mm)
/-- the slots is become xs -/
def setS : Slots → List Nat → List Slot → Slots
  | R, i :: is, x :: xs => setS (R.set i (some x)) is xs
  | R, _, _ => R
theorem Cfg.setItems {C : Wd K w m} {H0 H H' : Hp} {s : PyM.S m} : ∀ {is : List Nat} {xs : List Slot} {vs : List V} {R : Slots} {σ : L2.St}, Cfg C H0 R s σ H' → (∀ i ∈ is, i < R.length) → ItemsOk K w C.mt H H' vs xs → (∀ a, H a = none → H0 a = none) →
    (∀ (i j : Nat) (x y : Slot), xs[i]? = some x → x.Own → R[j]? = some (some y) → y.Own → σ[j]? ≠ (vs[i]?).map some) → Cfg C H0 (setS R is xs) s (setσ σ is vs) H'
  | [], _, _, _, _, c, _, _, _, _ => by simpa [setS, setσ] using c
  | _ :: _, _, _, _, _, c, _, .nil, _, _ => by simpa [setS, setσ] using c
  | i :: is, _, _, R, σ, c, h, .cons (v := v) (x := x) (vs := vs) (xs := xs) h1 h2 h3, n, ap => by
    show Cfg C H0 (setS _ is _) s (setσ _ is _) H'
    have hi := h i (by simp)
    have c1 : Cfg C H0 (R.set i (some x)) s (σ.set i (some v)) H' := by
      cases x with
      | frz d => exact c.setF hi h1
      | own ds =>
        obtain ⟨a, us, rfl, k1, k2, k3, k4⟩ := h1
        exact c.setO hi k1 k2 (n a k3) k4 fun j y hy oy => ap 0 j _ y rfl trivial hy oy
      | adr a => exact False.elim h1
      | scr a => exact False.elim h1
    refine Cfg.setItems c1 (fun j hj => by rw [List.length_set]; exact h j (by simp [hj])) h3 n fun k j z y hz oz hy oy => ?_
    by_cases e : i = j
    · subst e
      rw [List.getElem?_set_self hi] at hy
      cases hy
      rw [List.getElem?_set_self (by rw [c.len]; exact hi)]
      intro q
      have lk : k < vs.length := by rw [h3.len]; exact (List.getElem?_eq_some_iff.mp hz).1
      rw [List.getElem?_eq_getElem lk] at q
      simp only [Option.map_some, Option.some.injEq] at q
      exact h2 oy k z hz oz (by rw [List.getElem?_eq_getElem lk, ← q])
    · rw [List.getElem?_set_ne e] at hy ⊢
      exact ap (k + 1) j z y hz oz hy oy
end
section
variable {X : Cx} {m : Type → Type} [Monad m] [PyM m] {C : Wd X.K X.w m} {W : WX} {H0 : Hp} {R : Slots} {k : Kd} {α β γ δ ρ ε : Type} {ea : α → PyData} {eb : β → PyData} {er : ρ → PyData} {Rb : ε → Slots} {Rn : δ → Slots}
variable {a b c e : Expr} {rest : List Stmt} {es : List Expr} {ma : m α} {mb : m β} {mxs : m (List α)} {mi mj : m Int} {pos : Pos} {eg : γ → List Slot} {mg : m γ}
theorem sm_oneF (ha : SE X C W H0 R a ea ma) (hs : starEach (a :: []) X.env = (false, eval a X.env) :: starEach [] X.env := by rfl) : SM X C W H0 R [a] (fun x => [.frz (ea x)]) ma :=
  ⟨(pa_cons ha.run pa_nil hs).weak fun σ H Q q => by
    obtain ⟨s, c, q⟩ := q
    refine ⟨s, c, ?_⟩
    cases z : PyM.run ma s with
    | none => rw [z] at q; exact q
    | some p =>
      obtain ⟨r, s1⟩ := p
      rw [z] at q
      cases r with
      | error x => exact q
      | ok a => exact fun v H' e rl kv => q [v] H' e rl (.cons kv (fun o => o.elim) .nil)⟩
theorem kO_item {K : PySem.W.Frag} {w : World} {C : Wd K w m} {H H' : Hp} {s : PyM.S m} {xs : List α} {v : V} (rl : C.rel s H) (h : kO K w C.mt H H' v (eLst ea xs)) : ItemOk K w C.mt H H' v (.own (xs.map ea)) := by
  obtain ⟨a, us, ds, rfl, e, h2, h3, h4⟩ := h
  have e : PyData.list (xs.map ea) = .list ds := e
  injection e with e
  subst e
  exact ⟨a, us, rfl, h2, h3, h4, fun z => by
    obtain ⟨o, ho, _⟩ := C.there _ _ _ rl z
    rw [h4] at ho; cases ho⟩
theorem sm_oneO (ha : SO X C W H0 R a (eLst ea) mxs) (hs : starEach (a :: []) X.env = (false, eval a X.env) :: starEach [] X.env := by rfl) : SM X C W H0 R [a] (fun x => [.own (x.map ea)]) mxs :=
  ⟨(pa_cons ha.run pa_nil hs).weak fun σ H Q q => by
    obtain ⟨s, c, q⟩ := q
    refine ⟨s, c, ?_⟩
    cases z : PyM.run mxs s with
    | none => rw [z] at q; exact q
    | some p =>
      obtain ⟨r, s1⟩ := p
      rw [z] at q
      cases r with
      | error x => exact q
      | ok a => exact fun v H' e rl kv => q [v] H' e rl (.cons (kO_item c.rel kv) (fun _ i y h => by simp at h) .nil)⟩
theorem tX_cons {ka : Kd} {f : α → Slot} {hb : SM X C W H0 R es eg mg} {σ : L2.St} {H : Hp} {Q : List V → Hp → Prop} (ik : ∀ H H' s v a, C.rel s H → ka H H' v (ea a) → ItemOk X.K X.w C.mt H H' v (f a))
    (q : tX C W H0 R (fun p : α × γ => f p.1 :: eg p.2) (ma >>= fun x => mg >>= fun g => pure (x, g)) σ H Q) : tCons (tR C W H0 R ka ea ma) (tX C W H0 R eg mg) σ H Q := by
  obtain ⟨s, c, q⟩ := q
  refine ⟨s, c, ?_⟩
  rw [PyM.run_bind] at q
  cases z : PyM.run ma s with
  | none => rw [z] at q; exact q
  | some p =>
    obtain ⟨r, s1⟩ := p
    rw [z] at q
    cases r with
    | error x => exact q
    | ok a =>
      intro v H1 e rl kv
      have q : AfterX C W (fun p : α × γ => f p.1 :: eg p.2) σ H Q (PyM.run (mg >>= fun g => pure (a, g)) s1) := q
      rw [PyM.run_bind] at q
      refine ⟨s1, c.ext e rl, ?_⟩
      have it := ik H H1 s v a c.rel kv
      have nb : ∀ b, H1 b = none → H b = none := none_back e fun b hb => let ⟨o, ho, _⟩ := C.there _ _ _ rl hb; ⟨o, ho⟩
      cases z2 : PyM.run mg s1 with
      | none => rw [z2] at q; exact q
      | some p2 =>
        obtain ⟨r2, s2⟩ := p2
        rw [z2] at q
        cases r2 with
        | error x => exact fun cls d H' e' rl' => q cls d H' (e.trans e') rl'
        | ok g =>
          have q : AfterX C W (fun p : α × γ => f p.1 :: eg p.2) σ H Q (PyM.run (pure (a, g) : m (α × γ)) s2) := q
          rw [PyM.run_pure] at q
          refine fun vs H' e' rl' rs => q (v :: vs) H' (e.trans e') rl' (.cons (it.ext e') (fun o i y hy oy z => ?_) (rs.back nb))
          -- a later list is none of the former
          have own : ∀ {vs : List V} {xs : List Slot}, ItemsOk X.K X.w C.mt H1 H' vs xs → ∀ (i : Nat) (y : Slot), xs[i]? = some y → y.Own → ∃ b, vs[i]? = some (.ref b) ∧ H1 b = none := by
            intro vs xs h
            induction h with
            | nil => intro i y h; simp at h
            | cons h1 h2 h3 ih =>
              intro i y hy oy
              cases i with
              | zero =>
                simp at hy
                subst hy
                rename_i x0 _ _
                cases x0 with
                | own ds => obtain ⟨b, us, e1, _, _, e2, _⟩ := h1; exact ⟨b, by rw [e1]; rfl, e2⟩
                | frz d => exact oy.elim
                | adr d => exact oy.elim
                | scr d => exact oy.elim
              | succ i => exact ih i y (by simpa using hy) oy
          obtain ⟨b, h1, h2⟩ := own rs i y hy oy
          rw [z] at h1
          cases h1
          cases hf : f a with
          | own ds =>
            rw [hf] at it
            obtain ⟨b', us, e1, e2, _⟩ := it
            cases e1
            rw [h2] at e2; cases e2
          | frz d => rw [hf] at o; exact o
          | adr d => rw [hf] at o; exact o
          | scr d => rw [hf] at o; exact o
theorem sm_consF (ha : SE X C W H0 R a ea ma) (hb : SM X C W H0 R es eg mg) (hs : starEach (a :: es) X.env = (false, eval a X.env) :: starEach es X.env := by rfl) :
    SM X C W H0 R (a :: es) (fun p : α × γ => .frz (ea p.1) :: eg p.2) (ma >>= fun x => mg >>= fun g => pure (x, g)) :=
  ⟨(pa_cons ha.run hb.run hs).weak fun σ H Q q => tX_cons (ka := kF X.K X.w C.mt) (hb := hb) (f := fun x => .frz (ea x)) (fun H H' s v a rl kv => kv) q⟩
theorem sm_consO (ha : SO X C W H0 R a (eLst ea) mxs) (hb : SM X C W H0 R es eg mg) (hs : starEach (a :: es) X.env = (false, eval a X.env) :: starEach es X.env := by rfl) :
    SM X C W H0 R (a :: es) (fun p : List α × γ => .own (p.1.map ea) :: eg p.2) (mxs >>= fun x => mg >>= fun g => pure (x, g)) :=
  ⟨(pa_cons ha.run hb.run hs).weak fun σ H Q q => tX_cons (ka := kO X.K X.w C.mt) (hb := hb) (f := fun x : List α => .own (x.map ea)) (fun H H' s v a rl kv => kO_item rl kv) q⟩
/-- evaluated for a statement -/
theorem tS_items {f : γ → m (Out ρ ε δ)} {D : Ends} {σ : L2.St} {H : Hp} {is : List Nat} (hl : ∀ i ∈ is, i < R.length) (h : tS C W H0 R er Rb Rn (mg >>= f) D σ H) {Q : List V → Hp → Prop}
    (i : ∀ g vs H', vs.length = (eg g).length → tS C W H0 (setS R is (eg g)) er Rb Rn (f g) D (setσ σ is vs) H' → Q vs H') : tX C W H0 R eg mg σ H Q := by
  obtain ⟨s, c, h⟩ := h
  refine ⟨s, c, ?_⟩
  rw [PyM.run_bind] at h
  cases q : PyM.run mg s with
  | none => rw [q] at h; exact h
  | some p =>
    obtain ⟨r, s1⟩ := p
    rw [q] at h
    cases r with
    | error x => exact fun cls d H' e rl ex => h cls d σ H' (c.base.trans e) rl ex
    | ok g =>
      refine fun vs H1 e rl its => i g vs H1 its.len ⟨s1, Cfg.setItems (c.ext e rl) hl its (fun a ha => ?_) fun k j x y hx ox hy oy z => ?_, AfterS.mono e.firms h⟩
      · exact none_back c.base (fun b hb => let ⟨o, ho, _⟩ := C.there _ _ _ c.rel hb; ⟨o, ho⟩) a ha
      · have own : ∀ {vs : List V} {xs : List Slot}, ItemsOk X.K X.w C.mt H H1 vs xs → ∀ (i : Nat) (y : Slot), xs[i]? = some y → y.Own → ∃ b, vs[i]? = some (.ref b) ∧ H b = none := by
          intro vs xs h
          induction h with
          | nil => intro i y h; simp at h
          | cons h1 h2 h3 ih =>
            intro i y hy oy
            cases i with
            | zero =>
              simp at hy
              subst hy
              rename_i x0 _ _
              cases x0 with
              | own ds => obtain ⟨b, us, e1, _, _, e2, _⟩ := h1; exact ⟨b, by rw [e1]; rfl, e2⟩
              | frz d => exact oy.elim
              | adr d => exact oy.elim
              | scr d => exact oy.elim
            | succ i => exact ih i y (by simpa using hy) oy
        obtain ⟨b, h1, h2⟩ := own its k x hx ox
        obtain ⟨v, h3, ok⟩ := c.slot j y hy
        rw [h1, h3] at z
        cases z
        cases y with
        | own ds => obtain ⟨b', us, e1, e2, _⟩ := ok; cases e1; rw [h2] at e2; cases e2
        | frz d => exact oy
        | adr d => exact oy
        | scr d => exact oy
/-- a, b = x, y -/
theorem sl_par2 {i j : Nat} {x y : Str} {px py pt : Pos} {kt k2 pt2} {f : γ → m (Out ρ ε δ)} (hc : X.calm = true) (hN : X.N.Nodup) (hi : X.N[i]? = some x) (hj : X.N[j]? = some y) (hij : i ≠ j) (hx : X.env.scope.names.lookup x = some .local) (hy : X.env.scope.names.lookup y = some .local)
    (hl : ∀ k ∈ [i, j], k < R.length) (ha : SM X C W H0 R [a, b] eg mg) (h2 : ∀ g, (eg g).length = 2) (hr : ∀ g, SL X C W H0 (setS R [i, j] (eg g)) rest er Rb Rn (f g))
    (hw : swappedStores [.Tuple [.Name x px, .Name y py] kt pt] (.Tuple [a, b] k2 pt2) X.env = pure (some [x, y])) (hs : swapsWithSole [.Tuple [.Name x px, .Name y py] kt pt] (.Tuple [a, b] k2 pt2) pos.line X.env = pure false) :
    SL X C W H0 R (.Assign [.Tuple [.Name x px, .Name y py] kt pt] (.Tuple [a, b] k2 pt2) pos :: rest) er Rb Rn (mg >>= f) :=
  ⟨(pss_cons (ps_par hc hN hi hj hij hx hy ha.run hw hs) (u := fun D σ H => ∃ g, tS C W H0 (setS R [i, j] (eg g)) er Rb Rn (f g) D σ H) ⟨fun pins s σ H D I ⟨g, q⟩ => (hr g).run.run pins s σ H D I q⟩).weak fun D σ H q =>
    tS_items hl q fun g vs H' l t => by
      rw [h2] at l
      match vs, l with
      | [v, u], _ => exact ⟨v, u, rfl, g, t⟩⟩
theorem sl_par3 {i j l : Nat} {x y z : Str} {px py pz pt : Pos} {kt k2 pt2} {f : γ → m (Out ρ ε δ)} (hc : X.calm = true) (hN : X.N.Nodup) (hi : X.N[i]? = some x) (hj : X.N[j]? = some y) (hk : X.N[l]? = some z) (hij : i ≠ j) (hil : i ≠ l) (hjl : j ≠ l)
    (hx : X.env.scope.names.lookup x = some .local) (hy : X.env.scope.names.lookup y = some .local) (hz : X.env.scope.names.lookup z = some .local)
    (hl : ∀ k ∈ [i, j, l], k < R.length) (ha : SM X C W H0 R [a, b, c] eg mg) (h2 : ∀ g, (eg g).length = 3) (hr : ∀ g, SL X C W H0 (setS R [i, j, l] (eg g)) rest er Rb Rn (f g))
    (hw : swappedStores [.Tuple [.Name x px, .Name y py, .Name z pz] kt pt] (.Tuple [a, b, c] k2 pt2) X.env = pure (some [x, y, z])) (hs : swapsWithSole [.Tuple [.Name x px, .Name y py, .Name z pz] kt pt] (.Tuple [a, b, c] k2 pt2) pos.line X.env = pure false) :
    SL X C W H0 R (.Assign [.Tuple [.Name x px, .Name y py, .Name z pz] kt pt] (.Tuple [a, b, c] k2 pt2) pos :: rest) er Rb Rn (mg >>= f) :=
  ⟨(pss_cons (ps_par3 hc hN hi hj hk hij hil hjl hx hy hz ha.run hw hs) (u := fun D σ H => ∃ g, tS C W H0 (setS R [i, j, l] (eg g)) er Rb Rn (f g) D σ H) ⟨fun pins s σ H D I ⟨g, q⟩ => (hr g).run.run pins s σ H D I q⟩).weak fun D σ H q =>
    tS_items hl q fun g vs H' l t => by
      rw [h2] at l
      match vs, l with
      | [v, u, w'], _ => exact ⟨v, u, w', rfl, g, t⟩⟩
/-- (a, b, ..) = (x, y, ..) by a tuple that is made and taken apart -/
theorem sl_parN {tgs : List Expr} {n : Nat} {is : List Nat} {pt pt2 : Pos} {k1 k2 : Nat} {f : γ → m (Out ρ ε δ)} (hc : X.calm = true) (hg : PG X (.Tuple tgs k1 pt) (gTup X.K is.length (gNames is)))
    (hl : ∀ k ∈ is, k < R.length) (ha : SM X C W H0 R es eg mg) (h2 : ∀ g, (eg g).length = is.length) (h64 : is.length ≤ 64) (hr : ∀ g, SL X C W H0 (setS R is (eg g)) rest er Rb Rn (f g))
    (hs : swapsWithSole [.Tuple tgs k1 pt] (.Tuple es k2 pt2) pos.line X.env = pure false) (hw : swappedStores [.Tuple tgs k1 pt] (.Tuple es k2 pt2) X.env = pure none) (h1 : (assignEach [.Tuple tgs k1 pt] X.env).map (·.2) = [assign (.Tuple tgs k1 pt) X.env]) :
    SL X C W H0 R (.Assign [.Tuple tgs k1 pt] (.Tuple es k2 pt2) pos :: rest) er Rb Rn (mg >>= f) :=
  ⟨(pss_cons (ps_asg (pe_tup ha.run) hg hs hw h1) (u := fun D σ H => ∃ g, tS C W H0 (setS R is (eg g)) er Rb Rn (f g) D σ H) ⟨fun pins s σ H D I ⟨g, q⟩ => (hr g).run.run pins s σ H D I q⟩).weak fun D σ H q =>
    tS_items hl q fun g vs H' l t => by
      rw [h2] at l
      refine ⟨small64 (by rw [l]; exact h64), fun p hp => ⟨p, vs, rfl, .of upd_same, l, gNames_ok (K := X.K) (w := X.w) l ?_⟩⟩
      obtain ⟨s, c, q⟩ := t
      exact ⟨g, s, c.same (Same.new hp), AfterS.mono (fun b o h _ => Same.new hp b o h) q⟩⟩
/-- a target of any form gets data -/
theorem sl_unpack {tg : Expr} {g : TG} {is : List Nat} {dts : α → List PyData} {f : α → m (Out ρ ε δ)} (hg : PG X tg g) (hgo : GOk X.K X.w g ea is dts) (hl : ∀ k ∈ is, k < R.length) (ha : SE X C W H0 R e ea ma) (hr : ∀ a, SL X C W H0 (setR R is (dts a)) rest er Rb Rn (f a))
    (hs : swapsWithSole [tg] e pos.line X.env = pure false) (hw : swappedStores [tg] e X.env = pure none) (h1 : (assignEach [tg] X.env).map (·.2) = [assign tg X.env]) : SL X C W H0 R (.Assign [tg] e pos :: rest) er Rb Rn (ma >>= f) :=
  ⟨(pss_cons (ps_asg ha.run hg hs hw h1) (u := fun D σ H => ∃ a, tS C W H0 (setR R is (dts a)) er Rb Rn (f a) D σ H) ⟨fun pins s σ H D I ⟨g, q⟩ => (hr g).run.run pins s σ H D I q⟩).weak fun D σ H q =>
    tS_bind (k := kF X.K X.w C.mt) (ea := ea) q fun a v H' kv e _ ⟨s, c, q⟩ => hgo.run a v σ H' _ kv fun vs rs => ⟨a, s, c.setAll hl rs, q⟩⟩

/-! ### lists of one's own, written -/
def appG (xs : List α) (a : α) : Option (List α) := if xs.length < 16777216 then some (xs ++ [a]) else none
theorem sl_append {i : Nat} {x : Str} {xs : List α} {f : List α → m (Out ρ ε δ)} {p1 p2 p3 : Pos} (hN : X.N[i]? = some x) (hv : Vis X.env.scope x) (hd : (x == ("__debug__" : Str)) = false) (hcd : (x == ("__classdict__" : Str)) = false)
    (hR : R[i]? = some (some (.own (xs.map ea)))) (ha : SE X C W H0 R a ea ma) (hr : ∀ ys : List α, SL X C W H0 (R.set i (some (.own (ys.map ea)))) rest er Rb Rn (f ys))
    (hbase : attributeBase (.Name x p1) "append" X.env (eval (.Name x p1) X.env) = eval (.Name x p1) X.env)
    (hfew : ((backTo p3 (starEach (a :: []) X.env)).all (fun x => !x.1) && (backToKw p3 (keywordEach [] X.env)).all (fun x => x.1.isSome) && decide ((a :: ([] : List Expr)).length + ([] : List Keyword).length + (if ([] : List Keyword).isEmpty then 0 else 1) < 30)) = true)
    (hline : (p2.endLine == p3.line) = true) (hs : starEach (a :: []) X.env = (false, eval a X.env) :: starEach [] X.env) (hsw : swapsWith (.Call (.Attribute (.Name x p1) "append" p2) [a] [] p3) none pos.line X.env = pure false) :
    SL X C W H0 R (.Expr (.Call (.Attribute (.Name x p1) "append" p2) [a] [] p3) pos :: rest) er Rb Rn (ma >>= fun a => fromO (appG xs a) >>= f) :=
  ⟨(pss_cons (ps_expr (pe_bm PySem.F.plainAttrs_list PySem.F.slot_list_append PySem.F.type_list_append mt_append (pe_var hN hv hd hcd) (pa_cons ha.run pa_nil hs) hbase hfew hline hs) hsw)
      (u := fun D σ H => ∃ ys : List α, tS C W H0 (R.set i (some (.own (ys.map ea)))) er Rb Rn (f ys) D σ H) ⟨fun pins s σ H D I ⟨g, q⟩ => (hr g).run.run pins s σ H D I q⟩).weak fun D σ H q => by
    obtain ⟨s0, c0, _⟩ := id q
    obtain ⟨v, hv', l, vs, rfl, hl, hrs, h0, hm⟩ := c0.slot i _ hR
    refine ⟨.ref l, hv', .inl ⟨rfl, vs, .of hl⟩, ?_⟩
    refine tS_bind (k := kF X.K X.w C.mt) (ea := ea) q fun a u H' kv e _ ⟨s, c, q⟩ => ?_
    rw [PyM.run_bind, PyM.run_fromO] at q
    unfold appG at q
    have hl' := e l _ hl (.inl hm)
    have len : vs.length = xs.length := by rw [hrs.length, List.length_map]
    split at q
    · rename_i g
      refine ⟨l, vs, u, rfl, rfl, hl', by rw [sizeLine_eq, len]; exact g, xs ++ [a], s, c.updO hR hv' hl' ?_, AfterS.mono (firms_upd' hl' (fun z => z)) q⟩
      rw [List.map_append]
      exact (Reps.firm e.firms hrs).append (.cons kv .nil)
    · exact q.elim⟩
end
end TT

namespace TT
open PyM (fromO)
open PySem PySem.Spec PyProof.Rows L2

/-! ### the program's own functions -/
/-- a promise: from data to data or an error -/
def spF (K : PySem.W.Frag) (w : World) (ex : Exc → Value → Option Addr → Hp → Prop) {γ ρ : Type} (eg : γ → List PyData) (er : ρ → PyData) (f : γ → Option (Except Exc ρ)) : Sp := fun vs H Q E => ∃ g, Reps K w H vs (eg g) ∧ match f g with
  | none => False
  | some (.ok r) => ∀ v H', Same H H' → Rep K w H' v (er r) → Q v H'
  | some (.error x) => ∀ cls d H', Same H H' → ex x cls d H' → E cls d H'
/-- no error comes of it -/
def spP (K : PySem.W.Frag) (w : World) {γ ρ : Type} (eg : γ → List PyData) (er : ρ → PyData) (f : γ → Option ρ) : Sp := fun vs H Q E => ∃ g, Reps K w H vs (eg g) ∧ ∃ r, f g = some r ∧ ∀ v H', Same H H' → Rep K w H' v (er r) → Q v H'
/-- a promise of a def whose first thing is the world's object -/
def spW (K : PySem.W.Frag) (w : World) {S : Type} (C : Addr → Wd K w (WM S)) {γ ρ : Type} (eg : γ → List PyData) (er : ρ → PyData) (f : γ → WM S ρ) : Sp := fun vs H Q E => ∃ aw us g s r s', vs = .ref aw :: us ∧ (C aw).rel s H ∧ Reps K w H us (eg g) ∧ (f g).run s = some (r, s') ∧
  ∀ v H', Ext (C aw).mt H H' → (C aw).rel s' H' → Rep K w H' v (er r) → Q v H'
/-- the slots at a def's entry -/
def slots0 (n : Nat) (ds : List PyData) : Slots := ds.map (fun d => some (.frz d)) ++ List.replicate (n - ds.length) none
theorem slots0_len {n : Nat} {ds : List PyData} (h : ds.length ≤ n) : (slots0 n ds).length = n := by
  unfold slots0
  rw [List.length_append, List.length_map, List.length_replicate]
  omega
theorem cfg0 {K : PySem.W.Frag} {w : World} {m : Type → Type} [Monad m] [PyM m] {C : Wd K w m} {N : List Str} {vs : List V} {ds : List PyData} {H : Hp} {s : PyM.S m} (r : Reps K w H vs ds) (rl : C.rel s H) (h : ds.length ≤ N.length) : Cfg C H (slots0 N.length ds) s (L2.start N vs) H := by
  have hl := r.length
  have at' : ∀ (i : Nat) (x : Slot), (slots0 N.length ds)[i]? = some (some x) → ∃ d v, x = .frz d ∧ Rep K w H v d ∧ (L2.start N vs)[i]? = some (some v) := fun i x e => by
    unfold slots0 at e
    by_cases hi : i < ds.length
    · rw [List.getElem?_append_left (by rw [List.length_map]; exact hi), List.getElem?_map, List.getElem?_eq_getElem hi] at e
      have e : some (some (Slot.frz ds[i])) = some (some x) := e
      cases e
      obtain ⟨v, hv, rv⟩ := r.get (List.getElem?_eq_getElem hi)
      refine ⟨_, v, rfl, rv, ?_⟩
      unfold L2.start
      rw [List.getElem?_append_left (by rw [List.length_map, hl]; exact hi), List.getElem?_map, hv]
      rfl
    · rw [List.getElem?_append_right (by rw [List.length_map]; omega), List.getElem?_replicate] at e
      split at e <;> cases e
  refine ⟨?_, .refl, rl, fun i x e => ?_, fun i j x y n e1 e2 ox oy => ?_⟩
  · rw [slots0_len h]
    unfold L2.start
    rw [List.length_append, List.length_map, List.length_replicate]
    omega
  · obtain ⟨d, v, rfl, rv, hv⟩ := at' i x e
    exact ⟨v, hv, rv⟩
  · obtain ⟨d, v, rfl, _⟩ := at' i x e1
    exact ox.elim
section
variable {P : Program} {w : World} {K : PySem.W.Frag} {mg : Str → Option Value} {base : Heap}
/-- where a def's body runs, no error leaving it -/
abbrev cx0 (P : Program) (w : World) (K : PySem.W.Frag) (mg : Str → Option Value) (base : Heap) (N : List Str) (qual : Str) (st : Stmt) (f : Addr) (cdv : Value) (A : Around) (outer : List Env) (s : Shared) (H : Hp) (E : XK) : Cx :=
  (cxOf CX0 P w K mg base N qual (defScope st) f cdv A outer s H E).nox
theorem fn_pure {x qual : Str} {st : Stmt} {f : Addr} {fd : FuncData} {N ps : List Str} {k : Nat} {γ ρ : Type} {eg : γ → List PyData} {er : ρ → PyData} {F : γ → Option ρ} (Fu : Fun K x qual st f fd) (S : FnScope N ps (defScope st))
    (hl : ∀ g, (eg g).length = ps.length) (hn : ps.length ≤ N.length)
    (body : ∀ (cdv : Value) (A : Around) (outer : List Env) (s : Shared) (H : Hp) (E : XK), Room k (A.deeper (envOfC qual (defScope st) s.heap.objs.size f cdv)) → ∀ g, SF (cx0 P w K mg base N qual st f cdv A outer s H E) (m := Option) wd0 W0 H (slots0 N.length (eg g)) (defBody st) er (F g)) :
    FnOk P w K mg base CX0 (k + 1) f fd ps (spP K w eg er F) := by
  refine Fu.ok S (fun vs H Q E h => ?_) (fun cdv A outer s H vs Q E hr h => ?_)
  · obtain ⟨g, r, _⟩ := h
    rw [r.length, hl]
  · obtain ⟨g, r, h⟩ := h
    refine ⟨_, (body cdv A outer s H E hr g).run, (), cfg0 r trivial (by rw [hl]; exact hn), ?_⟩
    rw [PyM.run_bind]
    obtain ⟨a, z, h⟩ := h
    rw [z]
    exact fun v H' e _ rv => h v H' (fun b o hb => e b o hb (.inl (fun z => z))) rv
theorem fn_world {S : Type} {C : Addr → Wd K w (WM S)} {x qual : Str} {st : Stmt} {f : Addr} {fd : FuncData} {N ps : List Str} {k : Nat} {γ ρ : Type} {eg : γ → List PyData} {er : ρ → PyData} {F : γ → WM S ρ} (Fu : Fun K x qual st f fd) (Sc : FnScope N ps (defScope st))
    (hl : ∀ g, (eg g).length + 1 = ps.length) (hn : ps.length ≤ N.length)
    (body : ∀ (cdv : Value) (A : Around) (outer : List Env) (s : Shared) (H : Hp) (E : XK) (aw : Addr), Room k (A.deeper (envOfC qual (defScope st) s.heap.objs.size f cdv)) → ∀ g, SF (cx0 P w K mg base N qual st f cdv A outer s H E) (m := WM S) (C aw) W0 H (some (.adr aw) :: slots0 (N.length - 1) (eg g)) (defBody st) er (F g)) :
    FnOk P w K mg base CX0 (k + 1) f fd ps (spW K w C eg er F) := by
  refine Fu.ok Sc (fun vs H Q E h => ?_) (fun cdv A outer s H vs Q E hr h => ?_)
  · obtain ⟨aw, us, g, s, r, s', rfl, _, rs, _⟩ := h
    rw [List.length_cons, rs.length, hl]
  · obtain ⟨aw, us, g, s1, r, s', rfl, rl, rs, hrun, h⟩ := h
    have hl' := hl g
    have c0 : Cfg (C aw) H (slots0 (N.drop 1).length (eg g)) s1 (L2.start (N.drop 1) us) H := cfg0 rs rl (by rw [List.length_drop]; omega)
    refine ⟨_, (body cdv A outer s H E aw hr g).run, s1, ?_, ?_⟩
    · have e1 : L2.start N (.ref aw :: us) = some (.ref aw) :: L2.start (N.drop 1) us := by
        unfold L2.start
        rw [List.map_cons, List.cons_append, List.length_drop, List.length_cons]
        congr 3
        omega
      have e2 : slots0 (N.drop 1).length (eg g) = slots0 (N.length - 1) (eg g) := by rw [List.length_drop]
      rw [e2] at c0
      refine ⟨by rw [e1, List.length_cons, List.length_cons, c0.len], .refl, rl, fun i x e => ?_, fun i j x y n e1' e2' ox oy => ?_⟩
      · cases i with
        | zero =>
          simp at e
          subst e
          exact ⟨.ref aw, by rw [e1]; rfl, rfl⟩
        | succ i =>
          obtain ⟨v, h1, h2⟩ := c0.slot i x (by simpa using e)
          exact ⟨v, by rw [e1]; simpa using h1, h2⟩
      · cases i with
        | zero => simp at e1'; subst e1'; exact ox.elim
        | succ i =>
          cases j with
          | zero => simp at e2'; subst e2'; exact oy.elim
          | succ j =>
            rw [e1]
            exact c0.apart i j x y (fun z => n (by rw [z])) (by simpa using e1') (by simpa using e2') ox oy
    · rw [PyM.run_bind]
      have e : PyM.run (F g) s1 = some (.ok r, s') := by
        show ((F g).run s1).map _ = _
        rw [hrun]; rfl
      rw [e]
      exact fun v H' e rl rv => h v H' e rl rv
end
section
variable {X : Cx} {m : Type → Type} [Monad m] [PyM m] {C : Wd X.K X.w m} {W : WX} {H0 : Hp} {R : Slots} {γ ρ : Type} {eg : γ → List PyData} {er : ρ → PyData} {mg : m γ}
variable {a : Expr} {es : List Expr} {p pos : Pos} {x : Str} {k : Nat} {f : Addr} {fd : FuncData} {ps : List Str}
/-- a call -/
theorem se_call {F : γ → Option ρ} (G : FnOk X.prog X.w X.K X.mg X.base CX0 k f fd ps (spP X.K X.w eg er F)) (hr : Room k X.A) (hg : Gl X x) (hm : X.mg x = some (.ref f)) (hk : PySem.W.keepIn X.K (.ref f) = true) (hb : Binds X.K fd ps [])
    (ha : SA X C W H0 R (a :: es) eg mg) (hdb : (x == ("__debug__" : Str)) = false) (he : starEach (a :: es) X.env = (false, eval a X.env) :: starEach es X.env) (hpl : (backTo pos (starEach es X.env)).any (·.1) = false) :
    SE X C W H0 R (.Call (.Name x p) (a :: es) [] pos) er (mg >>= fun g => fromO (F g)) :=
  .weak (pe_call G hr hg hm hk hb .nil pass0 ha.run hdb he hpl) fun σ H Q q => by
    obtain ⟨s, c, q⟩ := q
    refine ⟨s, c, ?_⟩
    rw [PyM.run_bind] at q
    cases z : PyM.run mg s with
    | none => rw [z] at q; exact q
    | some p =>
      obtain ⟨r, s1⟩ := p
      rw [z] at q
      cases r with
      | error x => exact q
      | ok g =>
        intro vs H' e rl rs
        have q : After C W (kF X.K X.w C.mt) er σ H Q (PyM.run (fromO (F g)) s1) := q
        rw [PyM.run_fromO] at q
        rw [List.append_nil]
        cases y : F g with
        | none => rw [y] at q; exact q.elim
        | some r =>
          rw [y] at q
          exact ⟨g, rs, r, y, fun v H2 e2 rv => q v H2 (e.trans (.of_same e2)) (C.keep _ _ _ rl e2) rv⟩
theorem se_call0 {F : Unit → Option ρ} (G : FnOk X.prog X.w X.K X.mg X.base CX0 k f fd ps (spP X.K X.w (fun _ : Unit => []) er F)) (hr : Room k X.A) (hg : Gl X x) (hm : X.mg x = some (.ref f)) (hk : PySem.W.keepIn X.K (.ref f) = true) (hb : Binds X.K fd ps [])
    (hdb : (x == ("__debug__" : Str)) = false) : SE X C W H0 R (.Call (.Name x p) [] [] pos) er (fromO (F ())) :=
  .weak (pe_call0 G hr hg hm hk hb .nil pass0 hdb) fun σ H Q q => by
    obtain ⟨r, e, _, q⟩ := tR_done q
    exact ⟨(), .nil, r, e, q⟩
end
section
variable {X : Cx} {S : Type} {Cw : Addr → Wd X.K X.w (WM S)} {aw : Addr} {W : WX} {H0 : Hp} {R : Slots} {γ ρ : Type} {eg : γ → List PyData} {er : ρ → PyData} {mg : WM S γ}
variable {a : Expr} {es : List Expr} {p pos pw : Pos} {x xw : Str} {k i : Nat} {f : Addr} {fd : FuncData} {ps : List Str}
/-- a call that is handed the world's object -/
theorem se_callW {F : γ → WM S ρ} (G : FnOk X.prog X.w X.K X.mg X.base CX0 k f fd ps (spW X.K X.w Cw eg er F)) (hr : Room k X.A) (hg : Gl X x) (hm : X.mg x = some (.ref f)) (hk : PySem.W.keepIn X.K (.ref f) = true) (hb : Binds X.K fd ps [])
    (hN : X.N[i]? = some xw) (hv : Vis X.env.scope xw) (hR : R[i]? = some (some (.adr aw))) (hd : (xw == ("__debug__" : Str)) = false) (hcd : (xw == ("__classdict__" : Str)) = false)
    (ha : SA X (Cw aw) W H0 R es eg mg) (hdb : (x == ("__debug__" : Str)) = false) (he : starEach (.Name xw pw :: es) X.env = (false, eval (.Name xw pw) X.env) :: starEach es X.env) (hpl : (backTo pos (starEach es X.env)).any (·.1) = false) :
    SE X (Cw aw) W H0 R (.Call (.Name x p) (.Name xw pw :: es) [] pos) er (mg >>= F) :=
  .weak (pe_call G hr hg hm hk hb .nil pass0 (pa_cons (pe_var hN hv hd hcd) ha.run he) hdb he hpl) fun σ H Q q => by
    obtain ⟨s, c, q⟩ := q
    obtain ⟨v, e1, e2⟩ := c.slot i _ hR
    have e2 : v = .ref aw := e2
    subst e2
    refine ⟨.ref aw, e1, s, c, ?_⟩
    rw [PyM.run_bind] at q
    cases z : PyM.run mg s with
    | none => rw [z] at q; exact q
    | some p =>
      obtain ⟨r, s1⟩ := p
      rw [z] at q
      cases r with
      | error x => exact q
      | ok g =>
        intro vs H' e rl rs
        have q : After (Cw aw) W (kF X.K X.w (Cw aw).mt) er σ H Q (PyM.run (F g) s1) := q
        show spW X.K X.w Cw eg er F ((V.ref aw :: vs) ++ []) H' Q E0
        rw [List.append_nil]
        cases y : (F g).run s1 with
        | none =>
          have y' : PyM.run (F g) s1 = none := by show ((F g).run s1).map _ = _; rw [y]; rfl
          rw [y'] at q
          exact q.elim
        | some p =>
          obtain ⟨r, s2⟩ := p
          have y' : PyM.run (F g) s1 = some (.ok r, s2) := by show ((F g).run s1).map _ = _; rw [y]; rfl
          rw [y'] at q
          exact ⟨aw, vs, g, s1, r, s2, rfl, rl, rs, y, fun v H2 e2 rl2 rv => q v H2 (e.trans e2) rl2 rv⟩
end
end TT

namespace TT
open PyM (fromO)
open PySem PySem.Spec PyProof.Rows L2

/-! ### the world: what is drawn, and where one stands -/
abbrev DW := List Int × Int
def dwOf (al : Addr) (at' : Int) : HO := .dK [(.inr "draws", .ref al), (.inr "at", .int at')]
def drawsW {K : PySem.W.Frag} {w : World} (aw : Addr) : Wd K w (WM DW) where
  rel s H := ∃ al, H aw = some (dwOf al s.2) ∧ FzL K H al (s.1.map V.int)
  mt b := b = aw
  exc _ _ _ _ := False
  keep s H H' h e := let ⟨al, h1, h2⟩ := h; ⟨al, e _ _ h1, h2.firm fun b o hb _ => e b o hb⟩
  other s H b o h hb hf := by
    obtain ⟨al, h1, h2⟩ := h
    refine ⟨al, by rw [upd_ne (fun z => hb z.symm)]; exact h1, ?_⟩
    obtain ⟨ob, h2⟩ := h2
    exact ⟨ob, by rw [upd_ne (hf al _ h2 trivial)]; exact h2⟩
  there s H b h e := by
    obtain ⟨al, h1, _⟩ := h
    have e : b = aw := e
    subst e
    exact ⟨_, h1, fun z => z⟩
def rdAt : WM DW Int := StateT.mk fun s => some (s.2, s)
def rdDraws : WM DW (List Int) := StateT.mk fun s => some (s.1, s)
def incAt : WM DW Unit := StateT.mk fun s => some ((), (s.1, s.2 + 1))
theorem reps_of_ints {K : PySem.W.Frag} {w : World} {H : Hp} : ∀ {ns : List Int}, Reps K w H (ns.map V.int) (ns.map eInt)
  | [] => .nil
  | n :: ns => .cons (.int n) reps_of_ints
section
variable {X : Cx} {aw : Addr} {W : WX} {H0 : Hp} {R : Slots} {ρ ε δ : Type} {er : ρ → PyData} {Rb : ε → Slots} {Rn : δ → Slots} {i : Nat} {xw : Str} {pw pos p2 : Pos} {j j2} {rest : List Stmt}
theorem se_wAt (hu : X.A.units + 1 < cLine) (hN : X.N[i]? = some xw) (hv : Vis X.env.scope xw) (hR : R[i]? = some (some (.adr aw))) (hd : (xw == ("__debug__" : Str)) = false) (hcd : (xw == ("__classdict__" : Str)) = false) :
    SE X (drawsW aw) W H0 R (.Subscript (.Name xw pw) (.Constant (.str "at") j p2) pos) eInt rdAt :=
  .weak (pe_dget hu (pe_var hN hv hd hcd) pe_str (fun _ _ => rfl)) fun σ H Q q => by
    obtain ⟨s, c, q⟩ := q
    obtain ⟨v, e1, e2⟩ := c.slot i _ hR
    have e2 : v = .ref aw := e2
    subst e2
    obtain ⟨al, h1, h2⟩ := c.rel
    exact ⟨.ref aw, e1, aw, .int s.2, rfl, DGet.k (k := Sum.inr "at") h1, q _ H .refl c.rel (.int _)⟩
theorem se_wDraws (hu : X.A.units + 1 < cLine) (hN : X.N[i]? = some xw) (hv : Vis X.env.scope xw) (hR : R[i]? = some (some (.adr aw))) (hd : (xw == ("__debug__" : Str)) = false) (hcd : (xw == ("__classdict__" : Str)) = false) :
    SE X (drawsW aw) W H0 R (.Subscript (.Name xw pw) (.Constant (.str "draws") j p2) pos) (eLst eInt) rdDraws :=
  .weak (pe_dget hu (pe_var hN hv hd hcd) pe_str (fun _ _ => rfl)) fun σ H Q q => by
    obtain ⟨s, c, q⟩ := q
    obtain ⟨v, e1, e2⟩ := c.slot i _ hR
    have e2 : v = .ref aw := e2
    subst e2
    obtain ⟨al, h1, h2⟩ := c.rel
    exact ⟨.ref aw, e1, aw, .ref al, rfl, DGet.k (k := Sum.inr "draws") h1, q _ H .refl c.rel (.lst h2 reps_of_ints)⟩
theorem Cfg.updW {K : PySem.W.Frag} {w : World} {aw : Addr} {H0 H : Hp} {R : Slots} {s s' : DW} {σ : L2.St} {o : HO} (c : Cfg (K := K) (w := w) (m := WM DW) (drawsW aw) H0 R s σ H) (hn : ¬ Firm o) (r : (drawsW (K := K) (w := w) aw).rel s' (upd H aw o)) : Cfg (K := K) (w := w) (m := WM DW) (drawsW aw) H0 R s' σ (upd H aw o) ∧ Firms H (upd H aw o) := by
  obtain ⟨al, h1, h2⟩ := c.rel
  have fm : Firms H (upd H aw o) := firms_upd' h1 (fun z => z)
  refine ⟨⟨c.len, fun b u hb k => ?_, r, fun i x e => ?_, c.apart⟩, fm⟩
  · have hb' := c.base b u hb k
    by_cases e : b = aw
    · subst e
      rcases k with k | k
      · exact absurd rfl k
      · rw [h1] at hb'
        cases hb'
        exact False.elim k
    · rw [upd_ne e]
      exact hb'
  · obtain ⟨v, h3, h4⟩ := c.slot i x e
    refine ⟨v, h3, ?_⟩
    cases x with
    | frz d => exact Rep.firm fm h4
    | own ds =>
      obtain ⟨a, vs, k1, k2, k3, k4, k5⟩ := h4
      exact ⟨a, vs, k1, by rw [upd_ne k5]; exact k2, Reps.firm fm k3, k4, k5⟩
    | adr a => exact h4
    | scr ns =>
      obtain ⟨b, k1, k2, k3⟩ := h4
      refine ⟨b, k1, ?_, ?_⟩
      · rcases k3 with ⟨o, k3⟩ | k3
        · exact .inl (.inr ⟨o, fm _ _ k3 trivial⟩)
        · exact .inr k3
      · rcases k3 with ⟨o, k3⟩ | k3
        · exact .inl ⟨o, fm _ _ k3 trivial⟩
        · exact .inr k3
theorem sl_wInc {mm : WM DW (Out ρ ε δ)} (hu : X.A.units + 1 < cLine) (hN : X.N[i]? = some xw) (hv : Vis X.env.scope xw) (hR : R[i]? = some (some (.adr aw))) (hd : (xw == ("__debug__" : Str)) = false) (hcd : (xw == ("__classdict__" : Str)) = false)
    {p3 p4 : Pos} (hr : SL X (drawsW aw) W H0 R rest er Rb Rn mm) : SL X (drawsW aw) W H0 R (.AugAssign (.Subscript (.Name xw pw) (.Constant (.str "at") j p2) p3) .Add (.Constant (.int 1) j2 p4) pos :: rest) er Rb Rn (incAt >>= fun _ => mm) :=
  ⟨(pss_cons (ps_daug hu (pe_var hN hv hd hcd) pe_str pe_int in_add (by intros; rfl)) hr.run).weak fun D σ H q => by
    obtain ⟨s, c, q⟩ := q
    obtain ⟨v, e1, e2⟩ := c.slot i _ hR
    have e2 : v = .ref aw := e2
    subst e2
    obtain ⟨al, h1, h2⟩ := id c.rel
    refine ⟨.ref aw, e1, aw, .int s.2, rfl, DGet.k (k := Sum.inr "at") h1, s.2, 1, rfl, rfl, _, DPut.k (k := Sum.inr "at") h1 (by show 2 < sizeLine; rw [sizeLine_eq]; decide), ?_⟩
    obtain ⟨ob, h3⟩ := id h2
    have ne : al ≠ aw := fun z => by rw [z, h1] at h3; cases h3
    have cf := Cfg.updW (o := dwOf al (s.2 + 1)) (s' := (s.1, s.2 + 1)) c (fun z => z) ⟨al, upd_same, ob, by rw [upd_ne ne]; exact h3⟩
    exact ⟨(s.1, s.2 + 1), cf.1, AfterS.mono cf.2 q⟩⟩
end

/-! ### the script -/
section
variable {X : Cx} {m : Type → Type} [Monad m] [PyM m] {C : Wd X.K X.w m} {W : WX} {H0 : Hp} {R : Slots} {i : Nat} {x : Str} {p pos p2 : Pos} {b : Expr} {mi : m Int} {ns : List Int}
theorem se_lenScr (hg : Gl X "len") (hm : X.mg "len" = none) (hN : X.N[i]? = some x) (hv : Vis X.env.scope x) (hR : R[i]? = some (some (.scr ns))) (hd : (x == ("__debug__" : Str)) = false) (hcd : (x == ("__classdict__" : Str)) = false)
    (hs : starEach (.Name x p2 :: []) X.env = (false, eval (.Name x p2) X.env) :: starEach [] X.env) : SE X C W H0 R (.Call (.Name "len" p) [.Name x p2] [] pos) eInt (pure (ns.length : Int)) :=
  .weak (pe_callB call_len hg hm PySem.boot_len (pa_cons (pe_var hN hv hd hcd) pa_nil hs) (by decide) (by decide) hs) fun σ H Q q => by
    obtain ⟨⟨s, c⟩, q⟩ := tR_pure q
    obtain ⟨v, e1, a, e2, h1, h2⟩ := c.slot i _ hR
    subst e2
    refine ⟨.ref a, e1, .ref a, _, rfl, .inl ⟨_, h1, rfl⟩, ?_⟩
    rw [List.length_map]
    exact q _ H (.refl H) (.int _)
theorem se_ixScr (hN : X.N[i]? = some x) (hv : Vis X.env.scope x) (hR : R[i]? = some (some (.scr ns))) (hd : (x == ("__debug__" : Str)) = false) (hcd : (x == ("__classdict__" : Str)) = false) (hb : SB X C W H0 R b eInt mi) (hs : PlainIx b) :
    SE X C W H0 R (.Subscript (.Name x p2) b pos) eInt (mi >>= fun k => fromO (L2.atI ns k)) :=
  .weak (pe_ix ix_list (pe_var hN hv hd hcd) hb.run hs) fun σ H Q q => by
    obtain ⟨s, c, _⟩ := id q
    obtain ⟨v, e1, a, e2, h1, h2⟩ := c.slot i _ hR
    subst e2
    refine ⟨.ref a, e1, tR_imp (tR_bind kF_ok q) fun v H1 ⟨k, e, kv, q⟩ => ?_⟩
    obtain ⟨n, en, _, q⟩ := tR_done q
    refine ⟨a, ns.map V.int, k, .int n, rfl, kB_int kv, ?_, by rw [atI_map, en]; rfl, q _ H1 (.refl H1) (.int _)⟩
    rcases h2 with ⟨o, h2⟩ | h2
    · exact .inl (.inr ⟨o, e.firms _ _ h2 trivial⟩)
    · exact .inr h2
end
/-- a promise of a def that is handed the script and a number -/
def spScr (K : PySem.W.Frag) (w : World) {ρ : Type} (er : ρ → PyData) (f : List Int → Int → Option ρ) : Sp := fun vs H Q E => ∃ a ns n r, vs = [.ref a, .int n] ∧ SlotOk K w (fun _ => False) H H (.scr ns) (.ref a) ∧ f ns n = some r ∧ ∀ v H', Same H H' → Rep K w H' v (er r) → Q v H'
/-- the law's own promise -/
def spLaw (K : PySem.W.Frag) (w : World) (f : List Int → Option Bool) : Sp := fun vs H Q E => ∃ a ns r, vs = [.ref a] ∧ SlotOk K w (fun _ => False) H H (.scr ns) (.ref a) ∧ f ns = some r ∧ ∀ v H', Rep K w H' v (.bool r) → Q v H'
theorem spLaw_true {K : PySem.W.Frag} {w : World} {f : List Int → Option Bool} {H : Hp} {a : Addr} {ns : List Int} (o : Only H) (h : SqL K H a (ns.map V.int)) (t : f ns = some true) : spLaw K w f [.ref a] H (fun v _ => v = .bl true) fun _ _ _ => False := by
  refine ⟨a, ns, true, rfl, ⟨a, rfl, h, ?_⟩, t, fun v H' r => by cases r; rfl⟩
  rcases h with (h | ⟨ob, h⟩) | h
  · rcases o a with z | ⟨ob, xs, z⟩ <;> rw [h] at z <;> cases z
  · exact .inl ⟨ob, h⟩
  · exact .inr h
section
variable {P : Program} {w : World} {K : PySem.W.Frag} {mg : Str → Option Value} {base : Heap}
theorem cfgS {m : Type → Type} [Monad m] [PyM m] {C : Wd K w m} {N : List Str} {v : V} {vs : List V} {x : Slot} {ds : List PyData} {H : Hp} {s : PyM.S m} (hx : SlotOk K w C.mt H H x v) (no : ¬ x.Own) (r : Reps K w H vs ds) (rl : C.rel s H) (h : ds.length + 1 ≤ N.length) :
    Cfg C H (some x :: slots0 (N.length - 1) ds) s (L2.start N (v :: vs)) H := by
  have c0 : Cfg C H (slots0 (N.drop 1).length ds) s (L2.start (N.drop 1) vs) H := cfg0 r rl (by rw [List.length_drop]; omega)
  have e1 : L2.start N (v :: vs) = some v :: L2.start (N.drop 1) vs := by
    unfold L2.start
    rw [List.map_cons, List.cons_append, List.length_drop, List.length_cons]
    congr 3
    omega
  have e2 : slots0 (N.drop 1).length ds = slots0 (N.length - 1) ds := by rw [List.length_drop]
  rw [e2] at c0
  refine ⟨by rw [e1, List.length_cons, List.length_cons, c0.len], .refl, rl, fun i y e => ?_, fun i j y z n e1' e2' ox oy => ?_⟩
  · cases i with
    | zero =>
      simp at e
      subst e
      exact ⟨v, by rw [e1]; rfl, hx⟩
    | succ i =>
      obtain ⟨u, h1, h2⟩ := c0.slot i y (by simpa using e)
      exact ⟨u, by rw [e1]; simpa using h1, h2⟩
  · cases i with
    | zero => simp at e1'; subst e1'; exact absurd ox no
    | succ i =>
      cases j with
      | zero => simp at e2'; subst e2'; exact absurd oy no
      | succ j =>
        rw [e1]
        exact c0.apart i j y z (fun q => n (by rw [q])) (by simpa using e1') (by simpa using e2') ox oy
theorem fn_scr {x qual : Str} {st : Stmt} {f : Addr} {fd : FuncData} {N ps : List Str} {k : Nat} {ρ : Type} {er : ρ → PyData} {F : List Int → Int → Option ρ} (Fu : Fun K x qual st f fd) (S : FnScope N ps (defScope st)) (hp : ps.length = 2) (hn : 2 ≤ N.length)
    (body : ∀ (cdv : Value) (A : Around) (outer : List Env) (s : Shared) (H : Hp) (E : XK), Room k (A.deeper (envOfC qual (defScope st) s.heap.objs.size f cdv)) → ∀ ns n, SF (cx0 P w K mg base N qual st f cdv A outer s H E) (m := Option) wd0 W0 H (some (.scr ns) :: slots0 (N.length - 1) [.int n]) (defBody st) er (F ns n)) :
    FnOk P w K mg base CX0 (k + 1) f fd ps (spScr K w er F) := by
  refine Fu.ok S (fun vs H Q E h => ?_) (fun cdv A outer s H vs Q E hr h => ?_)
  · obtain ⟨a, ns, n, r, rfl, _⟩ := h
    exact hp.symm
  · obtain ⟨a, ns, n, r, rfl, hs, z, h⟩ := h
    refine ⟨_, (body cdv A outer s H E hr ns n).run, (), cfgS (C := wd0) hs (fun z => z) (.cons (.int n) .nil) trivial hn, ?_⟩
    rw [PyM.run_bind, z]
    exact fun v H' e _ rv => h v H' (fun b o hb => e b o hb (.inl (fun z => z))) rv
theorem fn_law {x qual : Str} {st : Stmt} {f : Addr} {fd : FuncData} {N ps : List Str} {k : Nat} {F : List Int → Option Bool} (Fu : Fun K x qual st f fd) (S : FnScope N ps (defScope st)) (hp : ps.length = 1) (hn : 1 ≤ N.length)
    (body : ∀ (cdv : Value) (A : Around) (outer : List Env) (s : Shared) (H : Hp) (E : XK), Room k (A.deeper (envOfC qual (defScope st) s.heap.objs.size f cdv)) → ∀ ns, SF (cx0 P w K mg base N qual st f cdv A outer s H E) (m := Option) wd0 W0 H (some (.scr ns) :: slots0 (N.length - 1) []) (defBody st) eBool (F ns)) :
    FnOk P w K mg base CX0 (k + 1) f fd ps (spLaw K w F) := by
  refine Fu.ok S (fun vs H Q E h => ?_) (fun cdv A outer s H vs Q E hr h => ?_)
  · obtain ⟨a, ns, r, rfl, _⟩ := h
    exact hp.symm
  · obtain ⟨a, ns, r, rfl, hs, z, h⟩ := h
    refine ⟨_, (body cdv A outer s H E hr ns).run, (), cfgS (C := wd0) hs (fun z => z) .nil trivial hn, ?_⟩
    rw [PyM.run_bind, z]
    exact fun v H' e _ rv => h v H' rv
end
section
variable {X : Cx} {W : WX} {H0 : Hp} {R : Slots} {ρ : Type} {er : ρ → PyData} {i iw : Nat} {x xs xw : Str} {p p1 p2 p3 p4 p5 p6 p7 p8 pos : Pos} {rest : List Stmt} {k : Nat} {f : Addr} {fd : FuncData} {ps : List Str} {ns : List Int} {n : Int} {j1 j2 j3 j4}
/-- w = {'draws': _law_draws(script, n), 'at': 0} -/
theorem sf_world {F : List Int → Int → Option (List Int)} {mr : WM DW ρ} (hN' : X.N.Nodup) (G : FnOk X.prog X.w X.K X.mg X.base CX0 k f fd ps (spScr X.K X.w (eLst eInt) F)) (hr : Room k X.A) (hg : Gl X x) (hm : X.mg x = some (.ref f)) (hk : PySem.W.keepIn X.K (.ref f) = true) (hb : Binds X.K fd ps [])
    (hN : X.N[i]? = some xs) (hv : Vis X.env.scope xs) (hR : R[i]? = some (some (.scr ns))) (hd : (xs == ("__debug__" : Str)) = false) (hcd : (xs == ("__classdict__" : Str)) = false) (hdb : (x == ("__debug__" : Str)) = false)
    (he : starEach [.Name xs p3, .Constant (.int n) j2 p4] X.env = (false, eval (.Name xs p3) X.env) :: starEach [.Constant (.int n) j2 p4] X.env) (he2 : starEach [.Constant (.int n) j2 p4] X.env = (false, eval (.Constant (.int n) j2 p4) X.env) :: starEach [] X.env) (hpl : (backTo p5 (starEach [.Constant (.int n) j2 p4] X.env)).any (·.1) = false)
    (hNw : X.N[iw]? = some xw) (hlw : Loc X.env.scope xw) (hfw : X.fn xw = true ∨ X.env.scope.names.lookup xw = some .local) (hl : iw < R.length) (hno : ∀ y ∈ R, ∀ z, y = some z → ¬ z.Own)
    (hs : swapsWith (.Dict [some (.Constant (.str "draws") j1 p1), some (.Constant (.str "at") j3 p6)] [.Call (.Name x p2) [.Name xs p3, .Constant (.int n) j2 p4] [] p5, .Constant (.int 0) j4 p7] p8) (some (.Name xw p)) pos.line X.env = pure false)
    (hrest : ∀ aw, SF X (m := WM DW) (drawsW aw) W H0 (R.set iw (some (.adr aw))) rest er mr) :
    SF X (m := Option) wd0 W H0 R (.Assign [.Name xw p] (.Dict [some (.Constant (.str "draws") j1 p1), some (.Constant (.str "at") j3 p6)] [.Call (.Name x p2) [.Name xs p3, .Constant (.int n) j2 p4] [] p5, .Constant (.int 0) j4 p7] p8) pos :: rest) er
      (F ns n >>= fun ds => (mr.run (ds, 0)).map (·.1)) :=
  ⟨(pss_cons (ps_set hN' hNw hlw (pe_disp (pps_cons pe_str (pe_call G hr hg hm hk hb .nil pass0 (pa_cons (pe_var hN hv hd hcd) (pa_cons pe_int pa_nil he2) he) hdb he hpl) (pps_cons pe_str pe_int pps_nil)) rfl rfl (fun z => by cases z) (Nat.le_of_ble_eq_true rfl)) hs hfw)
      (u := fun D σ H => ∃ aw, tS (m := WM DW) (drawsW aw) W H0 (R.set iw (some (.adr aw))) er noE noE (mr >>= fun r => pure (.rt r)) D σ H) ⟨fun pins s σ H D I ⟨g, q⟩ => (hrest g).run.run pins s σ H D I q⟩).weak fun D σ H q => by
    obtain ⟨s, c, q⟩ := q
    intro p0 hp0
    obtain ⟨v, e1, a, e2, h1, h2⟩ := c.slot i _ hR
    subst e2
    have up : ∀ b o, H b = some o → (upd H p0 (.dK [])) b = some o := Same.new hp0
    -- 'draws'
    refine ⟨.ref a, e1, ?_⟩
    have q : AfterS (m := Option) wd0 W H0 H er noE noE D (PyM.run (((F ns n >>= fun ds => (mr.run (ds, 0)).map (·.1)) : Option ρ) >>= fun r => pure (Out.rt r)) s) := q
    rw [PyM.run_bind, PyM.run_bind] at q
    cases z : F ns n with
    | none => rw [z] at q; exact q.elim
    | some ds =>
      rw [z] at q
      have sc : SlotOk X.K X.w (fun _ => False) (upd H p0 (.dK [])) (upd H p0 (.dK [])) (.scr ns) (.ref a) := by
        refine ⟨a, rfl, ?_, ?_⟩
        · rcases h2 with ⟨o, h2⟩ | h2
          · exact .inl (.inr ⟨o, up _ _ h2⟩)
          · exact .inr h2
        · rcases h2 with ⟨o, h2⟩ | h2
          · exact .inl ⟨o, up _ _ h2⟩
          · exact .inr h2
      refine ⟨a, ns, n, ds, rfl, sc, z, fun v H1 sm rv => ?_⟩
      have rv : Rep X.K X.w H1 v (.list (ds.map eInt)) := rv
      cases rv with
      | lst fz rs =>
        rename_i al vs
        have ev := reps_ints rs
        subst ev
        have hp1 : H1 p0 = some (.dK []) := sm _ _ upd_same
        refine ⟨hp1, [(.inr "draws", .ref al), (.inr "at", .int 0)], rfl, Nat.le_of_ble_eq_true rfl, p0, ?_⟩
        -- the rest
        obtain ⟨ob, fz⟩ := fz
        have ne : al ≠ p0 := fun z => by rw [z, hp1] at fz; cases fz
        have mg' : mergeK [] [((.inr "draws" : Key), V.ref al), (.inr "at", .int 0)] = [(.inr "draws", .ref al), (.inr "at", .int 0)] := by rfl
        rw [mg']
        have s0 : H0 p0 = none := by
          cases y : H0 p0 with
          | none => rfl
          | some o => rw [c.base p0 o y (.inl (fun z => z))] at hp0; cases hp0
        have sm2 : ∀ b o, H b = some o → (upd H1 p0 (dwOf al 0)) b = some o := fun b o hb => by
          rw [upd_ne (ne_of_none hb hp0)]
          exact sm _ _ (up _ _ hb)
        have hl' : iw < σ.length := by rw [c.len]; exact hl
        refine ⟨(ds, 0), ⟨by rw [List.length_set, List.length_set]; exact c.len, fun b o hb _ => sm2 b o (c.base b o hb (.inl (fun z => z))), ⟨al, upd_same, ob, by rw [upd_ne ne]; exact fz⟩, fun j y e => ?_, fun j l y y2 _ e _ oy _ => ?_⟩, ?_⟩
        · by_cases e' : iw = j
          · subst e'
            rw [List.getElem?_set_self hl] at e
            cases e
            exact ⟨.ref p0, List.getElem?_set_self hl', rfl⟩
          · rw [List.getElem?_set_ne e'] at e
            rw [List.getElem?_set_ne e']
            obtain ⟨v, k1, k2⟩ := c.slot j y e
            refine ⟨v, k1, ?_⟩
            cases y with
            | frz d => exact Rep.firm (fun b o h _ => sm2 b o h) k2
            | adr b => exact k2
            | own ds => exact absurd trivial (hno _ (List.mem_of_getElem? e) _ rfl)
            | scr ms =>
              obtain ⟨b, l1, l2, l3⟩ := k2
              refine ⟨b, l1, ?_, ?_⟩
              · rcases l3 with ⟨o, l3⟩ | l3
                · exact .inl (.inr ⟨o, sm2 _ _ l3⟩)
                · exact .inr l3
              · rcases l3 with ⟨o, l3⟩ | l3
                · exact .inl ⟨o, sm2 _ _ l3⟩
                · exact .inr l3
        · by_cases e' : iw = j
          · subst e'
            rw [List.getElem?_set_self hl] at e
            cases e
            exact oy.elim
          · rw [List.getElem?_set_ne e'] at e
            exact (hno _ (List.mem_of_getElem? e) _ rfl oy).elim
        · rw [PyM.run_bind]
          cases y : mr.run (ds, 0) with
          | none =>
            have q : AfterS (m := Option) wd0 W H0 H er noE noE D (Res.bind (PyM.run ((mr.run (ds, 0)).map (·.1) : Option ρ) ()) fun a s' => PyM.run (pure (Out.rt a) : Option (Out ρ Empty Empty)) s') := q
            rw [y] at q
            exact q.elim
          | some pr =>
            have q : AfterS (m := Option) wd0 W H0 H er noE noE D (Res.bind (PyM.run ((mr.run (ds, 0)).map (·.1) : Option ρ) ()) fun a s' => PyM.run (pure (Out.rt a) : Option (Out ρ Empty Empty)) s') := q
            rw [y] at q
            have e : PyM.run mr (ds, 0) = some (.ok pr.1, pr.2) := by
              show (mr.run (ds, 0)).map _ = _
              rw [y]; rfl
            rw [e]
            exact fun v H' ex _ rv => q v H' (fun b o hb _ => ex b o hb (.inl (fun z => by
              have z : b = p0 := z
              rw [z, s0] at hb; cases hb))) trivial rv⟩
end
end TT

namespace TT
open PyM (fromO)
open PySem PySem.Spec PyProof.Rows L2

/-! ### one term for another -/
theorem tt_if {m : Type → Type} [Monad m] {α : Type} {p : Prop} [Decidable p] {a b : α} : (if p then (pure a : m α) else pure b) = pure (if p then a else b) := by split <;> rfl
theorem bif_and {c d : Bool} : (if c = true then d else false) = (c && d) := by cases c <;> rfl
theorem bif_or {c d : Bool} : (if c = true then true else d) = (c || d) := by cases c <;> rfl
theorem ltAll {is : List Nat} {R : Slots} (n : Nat) (h : R.length = n) (h2 : is.all (fun i => decide (i < n)) = true) : ∀ i ∈ is, i < R.length := by
  subst h
  intro i hi
  have := List.all_eq_true.mp h2 i hi
  simpa using this
theorem subN {r r' : Slots} {y : Option Slot} (h : SubS r r') : SubS (none :: r) (y :: r') := h
theorem subC {r r' : Slots} {x : Slot} (h : SubS r r') : SubS (some x :: r) (some x :: r') := ⟨rfl, h⟩
theorem subE : SubS [] [] := trivial
section
variable {X : Cx} {m : Type → Type} [Monad m] [PyM m] {C : Wd X.K X.w m} {W : WX} {H0 : Hp} {R : Slots} {α β γ ρ ε δ δ' η : Type} {ea : α → PyData} {eb : β → PyData} {er : ρ → PyData} {Rb : ε → Slots} {Rn : δ → Slots} {Rn' : δ' → Slots}
variable {e c : Expr} {st : Stmt} {rest sts body a b : List Stmt} {me : m α} {mc : m Bool} {pos : Pos} {mm mm' : m (Out ρ ε δ)}
theorem SL.asc {me : m α} {k : α → m β} {r : β → m (Out ρ ε δ)} (h : SL X C W H0 R sts er Rb Rn (me >>= fun a => k a >>= r)) : SL X C W H0 R sts er Rb Rn ((me >>= k) >>= r) := h.alike (alike_assoc me k r)
theorem SL.asc2 {me : m α} {f : α → m γ} {k : γ → m β} {r : β → m (Out ρ ε δ)} (h : SL X C W H0 R sts er Rb Rn (me >>= fun a => f a >>= fun c => k c >>= r)) : SL X C W H0 R sts er Rb Rn ((me >>= fun a => f a >>= k) >>= r) :=
  h.alike ((alike_assoc me _ r).trans (alike_bind fun a => alike_assoc (f a) k r))
/-- slots said otherwise -/
theorem SL.atR {R' : Slots} (h : SL X C W H0 R' sts er Rb Rn mm) (q : R = R') : SL X C W H0 R sts er Rb Rn mm := q ▸ h
theorem sf_ifR {ma mr : m ρ} (hc : ST X C W H0 R c mc) (ha : SF X C W H0 R a er ma) (hr : SF X C W H0 R rest er mr) :
    SF X C W H0 R (.If c a [] pos :: rest) er (mc >>= fun b => if b = true then ma else mr) :=
  (sl_ifR hc ha hr).alike ((alike_assoc _ _ _).trans (alike_bind fun b => by cases b <;> exact .refl _))
theorem sf_ifRR {ma mr : m ρ} (hc : ST X C W H0 R c mc) (ha : SF X C W H0 R a er ma) (hb : SF X C W H0 R b er mr) :
    SF X C W H0 R (.If c a b pos :: rest) er (mc >>= fun b => if b = true then ma else mr) :=
  (sl_ifRR hc ha hb).alike ((alike_assoc _ _ _).trans (alike_bind fun b => by cases b <;> exact .refl _))
/-- behind a loop that may return -/
def thenF (k : δ → m ρ) : δ ⊕ ρ → m ρ
  | .inl d => k d
  | .inr r => pure r
theorem alike_thenF {k : δ → m ρ} (x : δ ⊕ ρ) : Alike (thenF k x >>= fun r => pure (Out.rt r : Out ρ ε δ')) (thenL (fun d => k d >>= fun r => pure (.rt r)) x) := by
  cases x with
  | inl d => exact .refl _
  | inr r => exact alike_pure
/-- a return on one way -/
def Out.thnF (k : δ → m ρ) : Out ρ Empty δ → m ρ
  | .nx d => k d
  | .rt r => pure r
  | .bk d => d.elim
  | .ct d => d.elim
theorem sf_ifG {ma mb : m (Out ρ Empty δ)} {k : δ → m ρ} (hc : ST X C W H0 R c mc) (ha : SL X C W H0 R a er noE Rn ma) (hb : SL X C W H0 R b er noE Rn mb) (hr : ∀ d, SF X C W H0 (Rn d) rest er (k d)) :
    SF X C W H0 R (.If c a b pos :: rest) er (mc >>= fun t => (if t = true then ma else mb) >>= Out.thnF k) :=
  (sl_ifG hc ha hb hr).alike ((alike_assoc _ _ _).trans (alike_bind fun t => (alike_assoc _ _ _).trans (alike_bind fun o => by
    cases o with
    | nx d => exact .refl _
    | rt r => exact alike_pure
    | bk d => exact d.elim
    | ct d => exact d.elim)))
variable {tg iter : Expr} {mi : m (List α)} {g : TG} {is : List Nat} {dts : α → List PyData} {Rl : δ → Slots} {d0 : δ}
theorem sf_forG {mb : α → δ → m (Out ρ δ δ)} {k : δ → m ρ} (hp : PassesOwn (model X.prog X.w) X.A X.env X.xe) (hc : X.calm = true) (hi : SI X C W H0 R Firms tg iter ea mi) (hg : PG X tg g) (hgo : GOk X.K X.w g ea is dts)
    (h0 : SubS (Rl d0) R) (hlt : ∀ d, ∀ i ∈ is, i < (Rl d).length) (hb : ∀ a d, SL X C W H0 (setR (Rl d) is (dts a)) body er Rl Rl (mb a d)) (hr : ∀ d, SF X C W H0 (Rl d) rest er (k d))
    (hs : ∀ x, foldedSetIterable iter X.env x = pure x) : SF X C W H0 R (.For tg iter body [] pos :: rest) er (mi >>= fun xs => loopL mb xs d0 >>= thenF k) :=
  (sl_forG hp hc hi hg hgo h0 hlt hb hr hs).alike ((alike_assoc _ _ _).trans (alike_bind fun xs => (alike_assoc _ _ _).trans (alike_bind fun x => alike_thenF x)))
theorem sf_whG {mc : δ → m Bool} {mb : δ → m (Out ρ δ δ)} {k : δ → m ρ} (hp : PassesOwn (model X.prog X.w) X.A X.env X.xe)
    (h0 : SubS (Rl d0) R) (hc : ∀ d, ST X C W H0 (Rl d) c (mc d)) (hb : ∀ d, SL X C W H0 (Rl d) body er Rl Rl (mb d)) (hr : ∀ d, SF X C W H0 (Rl d) rest er (k d)) :
    SF X C W H0 R (.While c body [] pos :: rest) er (whileG mc mb d0 >>= thenF k) :=
  (sl_whG hp h0 hc hb hr).alike ((alike_assoc _ _ _).trans (alike_bind fun x => alike_thenF x))
/-! ### a plain while -/
def WhP (X : Cx) (C : Wd X.K X.w m) (W : WX) (H0 : Hp) (Rl : δ → Slots) (mc : δ → m Bool) (mb : δ → m δ) (H1 : Hp) (D : Ends) (n : Nat) (σ : L2.St) (H : Hp) : Prop :=
  ∃ d s, Firms H1 H ∧ Cfg C H0 (Rl d) s σ H ∧ match PyM.run (whileFP mc mb n d) s with
    | none => False
    | some (.ok d', s') => ∀ σ' H', Firms H1 H' → Cfg C H0 (Rl d') s' σ' H' → D.nx σ' H'
    | some (.error x, s') => ∀ cls d σ' H', Ext C.mt H0 H' → C.rel s' H' → C.exc x cls d H' → W cls d σ' H'
theorem sl_whP {mc : δ → m Bool} {mb : δ → m δ} {k : δ → m (Out ρ ε δ')} (hp : PassesOwn (model X.prog X.w) X.A X.env X.xe)
    (h0 : SubS (Rl d0) R) (hc : ∀ d, ST X C W H0 (Rl d) c (mc d)) (hb : ∀ d, SP X C W H0 (Rl d) body Rl (mb d)) (hr : ∀ d, SL X C W H0 (Rl d) rest er Rb Rn' (k d)) :
    SL X C W H0 R (.While c body [] pos :: rest) er Rb Rn' (whileM mc mb d0 >>= k) :=
  ⟨(pss_cons (ps_while hp (tc := fun σ H Q => ∃ d, tT C W H0 (Rl d) (mc d) σ H Q) (tb := fun D σ H => ∃ d, tS C W H0 (Rl d) er Rl Rl (mb d >>= fun d => pure (.nx d)) D σ H) ⟨fun pins s σ H Q I ⟨d, q⟩ => (hc d).run.run pins s σ H Q I q⟩ ⟨fun pins s σ H D I ⟨d, q⟩ => (SP.up (hb d)).run.run pins s σ H D I q⟩)
      (u := fun D σ H => ∃ d, tS C W H0 (Rl d) er Rb Rn' (k d) D σ H) ⟨fun pins s σ H D I ⟨d, q⟩ => (hr d).run.run pins s σ H D I q⟩).weak fun D σ H q => by
    obtain ⟨s, c, q⟩ := q
    rw [PyM.run_bind] at q
    cases z : PyM.run (whileM mc mb d0) s with
    | none => rw [z] at q; exact q.elim
    | some p =>
      obtain ⟨n, hn⟩ := PyM.run_sup _ _ _ z
      rw [z] at q
      refine ⟨WhP X C W H0 Rl mc mb H { D with nx := fun σ H => ∃ d, tS C W H0 (Rl d) er Rb Rn' (k d) D σ H }, ⟨n, d0, s, Firms.refl _, c.sub h0, ?_⟩, ?_⟩
      · rw [hn]
        obtain ⟨r2, s2⟩ := p
        cases r2 with
        | error x => exact q
        | ok d' => exact fun σ' H' f cf => ⟨d', s2, cf, AfterS.mono f q⟩
      · rintro i σ2 H2 ⟨d, s2, f2, c2, w2⟩
        cases i with
        | zero =>
          have w2 : match PyM.run (fromO none : m δ) s2 with
                    | none => False
                    | some (.ok d', s') => ∀ σ' H', Firms H H' → Cfg C H0 (Rl d') s' σ' H' → ∃ d, tS C W H0 (Rl d) er Rb Rn' (k d) D σ' H'
                    | some (.error x, s') => ∀ cls d σ' H', Ext C.mt H0 H' → C.rel s' H' → C.exc x cls d H' → W cls d σ' H' := w2
          rw [PyM.run_fromO] at w2
          exact w2.elim
        | succ i =>
          have e : PyM.run (whileFP mc mb (i + 1) d) s2 = Res.bind (PyM.run (mc d) s2) fun t s' => PyM.run (if t = true then mb d >>= whileFP mc mb i else pure d) s' := PyM.run_bind (mc d) _ s2
          rw [e] at w2
          refine ⟨d, s2, c2, ?_⟩
          cases z3 : PyM.run (mc d) s2 with
          | none => rw [z3] at w2; exact w2
          | some p3 =>
            obtain ⟨r3, s3⟩ := p3
            rw [z3] at w2
            cases r3 with
            | error x => exact fun cls dd H' e rl ex => w2 cls dd σ2 H' (c2.base.trans e) rl ex
            | ok t =>
              intro H3 e3 rl3
              have c3 := c2.ext e3 rl3
              have f3 : Firms H H3 := f2.trans e3.firms
              cases t with
              | false =>
                have w2 : match PyM.run (pure d : m δ) s3 with
                    | none => False
                    | some (.ok d', s') => ∀ σ' H', Firms H H' → Cfg C H0 (Rl d') s' σ' H' → ∃ d, tS C W H0 (Rl d) er Rb Rn' (k d) D σ' H'
                    | some (.error x, s') => ∀ cls d σ' H', Ext C.mt H0 H' → C.rel s' H' → C.exc x cls d H' → W cls d σ' H' := w2
                rw [PyM.run_pure] at w2
                exact w2 σ2 H3 f3 c3
              | true =>
                rw [if_pos rfl]
                refine ⟨WhP X C W H0 Rl mc mb H { D with nx := fun σ H => ∃ d, tS C W H0 (Rl d) er Rb Rn' (k d) D σ H } i, fun σ' H' w => ⟨i, Nat.lt_succ_self i, w⟩, d, s3, c3, ?_⟩
                have w2 : match PyM.run (mb d >>= whileFP mc mb i) s3 with
                    | none => False
                    | some (.ok d', s') => ∀ σ' H', Firms H H' → Cfg C H0 (Rl d') s' σ' H' → ∃ d, tS C W H0 (Rl d) er Rb Rn' (k d) D σ' H'
                    | some (.error x, s') => ∀ cls d σ' H', Ext C.mt H0 H' → C.rel s' H' → C.exc x cls d H' → W cls d σ' H' := w2
                rw [PyM.run_bind] at w2 ⊢
                cases z4 : PyM.run (mb d) s3 with
                | none => rw [z4] at w2; exact w2
                | some p4 =>
                  obtain ⟨r4, s4⟩ := p4
                  rw [z4] at w2
                  cases r4 with
                  | error x => exact w2
                  | ok d' =>
                    show AfterS C W H0 H3 er Rl Rl _ (PyM.run (pure (.nx d')) s4)
                    rw [PyM.run_pure]
                    exact fun σ' H' f cf => ⟨d', s4, f3.trans f, cf, w2⟩⟩
end

/-! ### a list of one's own is locked -/
section
variable {X : Cx} {m : Type → Type} [Monad m] [PyM m] {C : Wd X.K X.w m} {W : WX} {H0 : Hp} {R : Slots} {α β γ ρ ε δ : Type} {ea : α → PyData} {eb : β → PyData} {er : ρ → PyData} {Rb : ε → Slots} {Rn : δ → Slots}
variable {e : Expr} {rest sts : List Stmt} {pos : Pos} {mm : m (Out ρ ε δ)}
theorem Cfg.lock {K : PySem.W.Frag} {w : World} {C : Wd K w m} {s : PyM.S m} {σ : L2.St} {H : Hp} {i : Nat} {a : Addr} {vs : List V} {ds : List PyData} {o : Obj} (c : Cfg C H0 R s σ H) (hR : R[i]? = some (some (.own ds))) (ha : σ[i]? = some (some (.ref a))) (h : H a = some (.lst vs)) (r : Reps K w H vs ds) (h0 : H0 a = none) (hm : ¬ C.mt a) :
    Cfg C H0 (R.set i (some (.frz (.list ds)))) s σ (upd H a (.frz o (.lst vs))) := by
  have hl : i < R.length := by
    rcases Nat.lt_or_ge i R.length with z | z
    · exact z
    · rw [List.getElem?_eq_none z] at hR; cases hR
  have fm : Firms H (upd H a (.frz o (.lst vs))) := firms_upd' h (fun z => z)
  have nf : ∀ b u, H b = some u → Firm u → b ≠ a := fun b u hu f z => by subst z; rw [h] at hu; cases hu; exact f
  refine ⟨by rw [List.length_set]; exact c.len, fun b u hb k => ?_, C.other _ _ _ _ c.rel hm nf, fun j y e => ?_, fun j l y y2 n e1 e2 o1 o2 => ?_⟩
  · rw [upd_ne (ne_of_none hb h0)]
    exact c.base b u hb k
  · by_cases q : i = j
    · subst q
      rw [List.getElem?_set_self hl] at e
      cases e
      exact ⟨.ref a, ha, .lst ⟨o, upd_same⟩ (Reps.firm fm r)⟩
    · rw [List.getElem?_set_ne q] at e
      obtain ⟨v, h1, h2⟩ := c.slot j y e
      refine ⟨v, h1, ?_⟩
      cases y with
      | frz d => exact Rep.firm fm h2
      | adr b => exact h2
      | own es =>
        obtain ⟨b, us, k1, k2, k3, k4, k5⟩ := h2
        have nb : b ≠ a := fun z => c.apart i j _ _ q hR e trivial trivial (by rw [ha, h1, k1, z])
        exact ⟨b, us, k1, by rw [upd_ne nb]; exact k2, Reps.firm fm k3, k4, k5⟩
      | scr ns =>
        obtain ⟨b, k1, k2, k3⟩ := h2
        refine ⟨b, k1, ?_, ?_⟩
        · rcases k3 with ⟨o, k3⟩ | k3
          · exact .inl (.inr ⟨o, fm _ _ k3 trivial⟩)
          · exact .inr k3
        · rcases k3 with ⟨o, k3⟩ | k3
          · exact .inl ⟨o, fm _ _ k3 trivial⟩
          · exact .inr k3
  · have n1 : i ≠ j := fun z => by
      subst z
      rw [List.getElem?_set_self hl] at e1
      cases e1
      exact o1
    have n2 : i ≠ l := fun z => by
      subst z
      rw [List.getElem?_set_self hl] at e2
      cases e2
      exact o2
    rw [List.getElem?_set_ne n1] at e1
    rw [List.getElem?_set_ne n2] at e2
    exact c.apart j l y y2 n e1 e2 o1 o2
theorem SL.lock (i : Nat) {ds : List PyData} (hR : R[i]? = some (some (.own ds))) (h : SL X C W H0 (R.set i (some (.frz (.list ds)))) sts er Rb Rn mm) : SL X C W H0 R sts er Rb Rn mm :=
  ⟨⟨fun pins s σ H D I q => by
    obtain ⟨s', c, q⟩ := q
    obtain ⟨v, h1, a, vs, k1, k2, k3, k4, k5⟩ := c.slot i _ hR
    subst k1
    obtain ⟨o, I2⟩ := Inv.freeze I k2
    have fm : Firms H (upd H a (.frz o (.lst vs))) := firms_upd' k2 (fun z => z)
    exact h.run.run pins s σ _ D I2 ⟨s', c.lock hR h1 k2 k3 k4 k5, AfterS.mono fm q⟩⟩⟩
end

/-! ### y = [..] on one line -/
section
variable {X : Cx} {m : Type → Type} [Monad m] [PyM m] {C : Wd X.K X.w m} {W : WX} {H0 : Hp} {R : Slots} {α β ρ ε δ : Type} {ea : α → PyData} {eb : β → PyData} {er : ρ → PyData} {Rb : ε → Slots} {Rn : δ → Slots}
variable {elt tg iter : Expr} {ifs : List Expr} {scope : Scope} {own : List (Str × Nat)} {pos spos py : Pos} {mi : m (List α)} {mt : α → m Bool} {me : α → m β} {g : TG} {is : List Nat} {dts : α → List PyData} {rest : List Stmt}
theorem sl_setLc [NoErr m] {i : Nat} {y : Str} {ml : m (List β)} {k : List β → m (Out ρ ε δ)} (hy : X.N[i]? = some y) (hyl : X.env.scope.names.lookup y = some .local) (hl : i < R.length)
    (hsw : swapsWith (.ListComp elt [⟨tg, iter, ifs, 0⟩] scope pos) (some (.Name y py)) spos.line X.env = pure true)
    (hc : X.calm = true) (hN : X.N.Nodup) (hi : SI X C W H0 R (Ext C.mt) tg iter ea mi) (ok : BlkOk X.N X.env.scope scope own)
    (hg : ∀ (s : Shared) (H : Hp) (Cc : Addr) (cl : List (Str × Addr)) (fp : List Addr), PG (X.blk s H scope (compEnvC scope cl Cc X.env) fp) tg g)
    (hgo : GOk X.K X.w g ea is dts) (hin : ∀ i ∈ is, i ∈ own.map (·.2)) (hlt : ∀ i ∈ is, i < R.length)
    (ht : ∀ (a : α) (s : Shared) (H : Hp) (Cc : Addr) (cl : List (Str × Addr)) (fp : List Addr), SIf (X.blk s H scope (compEnvC scope cl Cc X.env) fp) C W0 H0 (setR (wipeR R (own.map (·.2))) is (dts a)) ifs (mt a))
    (he : ∀ (a : α) (s : Shared) (H : Hp) (Cc : Addr) (cl : List (Str × Addr)) (fp : List Addr), SE (X.blk s H scope (compEnvC scope cl Cc X.env) fp) C W0 H0 (setR (wipeR R (own.map (·.2))) is (dts a)) elt eb (me a))
    (q : ml = mi >>= compL mt me) (hr : ∀ a : List β, SL X C W H0 (R.set i (some (.own (a.map eb)))) rest er Rb Rn (k a))
    (hs : ∀ x, foldedSetIterable iter X.env x = pure x := by intro _; rfl) :
    SL X C W H0 R (.Assign [.Name y py] (.ListComp elt [⟨tg, iter, ifs, 0⟩] scope pos) spos :: rest) er Rb Rn (ml >>= k) := by
  subst q
  refine ⟨(pss_cons (ps_setLc hc hN hy hyl hsw hi.run ok hg (tt := fun σ H Q => ∃ a, tT C W0 H0 (setR (wipeR R (own.map (·.2))) is (dts a)) (mt a) σ H Q) (fun s H Cc cl fp => ⟨fun pins s σ H Q I ⟨a, h⟩ => (ht a _ _ _ _ _).run.run pins s σ H Q I h⟩) (te := fun σ H Q => ∃ a, tR C W0 H0 (setR (wipeR R (own.map (·.2))) is (dts a)) (kF X.K X.w C.mt) eb (me a) σ H Q)
    (fun s H Cc cl fp => ⟨fun pins s σ H Q I ⟨a, h⟩ => (he a _ _ _ _ _).run.run pins s σ H Q I h⟩) hs)
      (u := fun D σ H => ∃ a : List β, tS C W H0 (R.set i (some (.own (a.map eb)))) er Rb Rn (k a) D σ H) ⟨fun pins s σ H D I ⟨a, q⟩ => (hr a).run.run pins s σ H D I q⟩).weak fun D σ H q => ?_⟩
  obtain ⟨s0, c0, q0⟩ := id q
  refine (show tLc _ _ _ _ _ σ H (fun v H1 => ∃ a : List β, tS C W H0 (R.set i (some (.own (a.map eb)))) er Rb Rn (k a) D (σ.set i (some v)) H1) from tLc_ok hgo hin hlt (tS_bind (k := kO X.K X.w C.mt) (ea := eLst eb) q fun a v H' kv e nb hh => ?_))
  obtain ⟨b, vs, ds, h1, h2, h3, h4, h5⟩ := kv
  obtain ⟨s, c, q⟩ := hh
  refine ⟨a, s, ?_, q⟩
  subst h1
  have h2 : PyData.list (a.map eb) = .list ds := h2
  injection h2 with h2
  subst h2
  have nm : ¬ C.mt b := fun z => by
    obtain ⟨o, ho, _⟩ := C.there _ _ _ c0.rel z
    rw [h5] at ho; cases ho
  have h0 : H0 b = none := by
    cases z : H0 b with
    | none => rfl
    | some o => rw [c0.base b o z (.inl nm)] at h5; cases h5
  refine c.setO hl h3 h4 h0 nm fun j y hy oy z => ?_
  obtain ⟨v, e1, ok⟩ := c0.slot j y hy
  have : v = V.ref b := by rw [e1] at z; injection z with z; injection z
  subst this
  cases y with
  | own es =>
    obtain ⟨b', us, k1, k2, _⟩ := ok
    cases k1
    rw [h5] at k2
    cases k2
  | frz _ => exact oy
  | adr _ => exact oy
  | scr _ => exact oy
end

/-! ### += -/
section
variable {X : Cx} {m : Type → Type} [Monad m] [PyM m] {C : Wd X.K X.w m} {W : WX} {H0 : Hp} {R : Slots} {α β γ ρ ε δ : Type} {ea : α → PyData} {eb : β → PyData} {er : ρ → PyData} {Rb : ε → Slots} {Rn : δ → Slots}
variable {e : Expr} {rest sts : List Stmt} {pos pos' : Pos} {mi : m Int} {i : Nat} {x : Str} {n : Int}
theorem sl_augI {op : Operator} {f : Int → Int → Int} {k : Int → m (Out ρ ε δ)} (ho : PIp X op (ipI f)) (hN : X.N.Nodup) (hi : X.N[i]? = some x) (hx : Loc X.env.scope x) (hR : R[i]? = some (some (.frz (eInt n)))) (hl : i < R.length) (h : SE X C W H0 R e eInt mi)
    (hr : ∀ j, SL X C W H0 (R.set i (some (.frz (eInt (f n j))))) rest er Rb Rn (k j)) (hf : X.fn x = true ∨ X.env.scope.names.lookup x = some .local) : SL X C W H0 R (.AugAssign (.Name x pos') op e pos :: rest) er Rb Rn (mi >>= k) :=
  ⟨(pss_cons (ps_aug hN hi hx h.run ho hf) (u := fun D σ H => ∃ j, tS C W H0 (R.set i (some (.frz (eInt (f n j))))) er Rb Rn (k j) D σ H) ⟨fun pins s σ H D I ⟨a, q⟩ => (hr a).run.run pins s σ H D I q⟩).weak fun D σ H q => by
    obtain ⟨s0, c0, q0⟩ := id q
    obtain ⟨v, e1, ok⟩ := c0.slot i _ hR
    have ok : Rep X.K X.w H v (.int n) := ok
    cases ok
    refine ⟨.int n, e1, tS_bind (k := kF X.K X.w C.mt) (ea := eInt) q fun a v H' kv e _ ⟨s, c, q⟩ => ?_⟩
    have kv : Rep X.K X.w H' v (.int a) := kv
    cases kv
    exact ⟨n, a, rfl, rfl, a, s, c.setF hl (.int _), q⟩⟩
end

/-! ### zip -/
section
variable {X : Cx} {m : Type → Type} [Monad m] [PyM m] {C : Wd X.K X.w m} {W : WX} {H0 : Hp} {R : Slots} {P : Pk} {α β : Type} {ea : α → PyData} {eb : β → PyData}
variable {a b : Expr} {elts : List Expr} {pos p tpos : Pos} {kk : Nat} {mxs : m (List α)} {mys : m (List β)}
theorem zip_at {α β : Type} : ∀ {xs : List α} {ys : List β} {i : Nat} {x : α} {y : β}, xs[i]? = some x → ys[i]? = some y → (xs.zip ys)[i]? = some (x, y)
  | [], _, _, _, _, h, _ => by simp at h
  | _ :: _, [], _, _, _, _, h => by simp at h
  | a :: xs, b :: ys, 0, x, y, h, h' => by simp at h h' ⊢; exact ⟨h, h'⟩
  | a :: xs, b :: ys, i + 1, x, y, h, h' => by simpa using zip_at (xs := xs) (ys := ys) (i := i) (by simpa using h) (by simpa using h')
theorem wk_zipT {K : PySem.W.Frag} {w : World} {H : Hp} {a b : Addr} {vs us : List V} {xs : List α} {ys : List β} (l : LenOk K H) (h : SqT K H a vs) (h' : SqT K H b us) (r : Reps K w H vs (xs.map ea)) (r' : Reps K w H us (ys.map eb)) (fs : ∀ {H'}, P H H' → Firms H H') : Wk K w (P H) (RZ.ItzT K a b) ((xs.zip ys).map (eT2 ea eb)) where
  go i H' p hi := by
    have f := fs p
    have hA := SqT.firm f h
    have hB := SqT.firm f h'
    rw [List.length_map, List.length_zip] at hi
    have l1 := r.length
    have l2 := r'.length
    rw [List.length_map] at l1 l2
    have i1 : i < xs.length := by omega
    have i2 : i < ys.length := by omega
    have g1 : (xs.map ea)[i]? = some (ea xs[i]) := by rw [List.getElem?_map, List.getElem?_eq_getElem i1]; rfl
    have g2 : (ys.map eb)[i]? = some (eb ys[i]) := by rw [List.getElem?_map, List.getElem?_eq_getElem i2]; rfl
    obtain ⟨v, e1, rv⟩ := r.get g1
    obtain ⟨u, e2, ru⟩ := r'.get g2
    refine ⟨⟨vs, us, v, u, hA, hB, e1, e2⟩, fun x H2 y => ?_⟩
    obtain ⟨T, x1, x2, rfl, nT, rfl, f1, f2⟩ := y
    have q1 := f1 _ hA
    have q2 := f2 _ hB
    rw [e1] at q1; cases q1
    rw [e2] at q2; cases q2
    refine ⟨Same.new nT, eT2 ea eb (xs[i], ys[i]), ?_, ?_⟩
    · rw [List.getElem?_map, zip_at (List.getElem?_eq_getElem i1) (List.getElem?_eq_getElem i2)]; rfl
    · have s2 : Firms H (upd H' T (.tup [v, u])) := fun c o hc k => Same.new nT _ _ (f _ _ hc k)
      exact .tup (.inl (.inl upd_same)) (.cons (Rep.firm s2 rv) (.cons (Rep.firm s2 ru) .nil))
  stop i H' p hi := by
    have f := fs p
    rw [List.length_map, List.length_zip] at hi
    have l1 := r.length
    have l2 := r'.length
    rw [List.length_map] at l1 l2
    exact ⟨vs, us, SqT.firm f h, SqT.firm f h', by omega⟩
  len := by
    have l1 := r.length
    rw [List.length_map] at l1
    rw [List.length_map, List.length_zip]
    exact Nat.le_trans (Nat.min_le_left _ _) (l1 ▸ l.2.1 a vs h)
theorem si_zipT (hg : Gl X "zip") (hm : X.mg "zip" = none) (ha : SE X C W H0 R a (eTup ea) mxs) (hb : SE X C W H0 R b (eTup eb) mys) (fs : ∀ {H H'}, P H H' → Firms H H')
    (hs : starEach [a, b] X.env = (false, eval a X.env) :: starEach [b] X.env := by rfl) (hs2 : starEach [b] X.env = (false, eval b X.env) :: starEach [] X.env := by rfl) (hpl : (backTo pos (starEach [b] X.env)).any (·.1) = false := by rfl) :
    SI X C W H0 R P (.Tuple elts kk tpos) (.Call (.Name "zip" p) [a, b] [] pos) (eT2 ea eb) (mxs >>= fun xs => mys >>= fun ys => pure (xs.zip ys)) :=
  ⟨(RZ.pi_zipA hg hm (pa_cons ha.run.facts (pa_cons hb.run.facts pa_nil hs2) hs) hs hpl).weak fun σ H Q q => tR_imp (tI_bind (k := kF X.K X.w C.mt) (ea := eTup ea) q) fun v H1 ⟨xs, e, kv, q⟩ lk => tR_imp (tI_bind (k := kF X.K X.w C.mt) (ea := eTup eb) q) fun v2 H2 ⟨ys, e2, kv2, q⟩ lk2 => by
    obtain ⟨s, c, q⟩ := q
    rw [PyM.run_pure] at q
    have kv : Rep X.K X.w H1 v (.tuple (xs.map ea)) := kv
    have kv2 : Rep X.K X.w H2 v2 (.tuple (ys.map eb)) := kv2
    cases kv with
    | tup h r =>
      cases kv2 with
      | tup h' r' =>
        exact ⟨_, _, _, _, rfl, .inr ⟨SqT.firm e2.firms h, h', q _ _ .refl c.rel (wk_zipT lk2 (SqT.firm e2.firms h) h' (Reps.firm e2.firms r) r' fs)⟩⟩⟩
end
end TT

namespace HT
open PySem PySem.Spec PyProof.Rows
section
variable {prog : Program} {w : World} {A : Around} {E : Value → Shared → Prop} {s : Shared}
theorem filterMap_same {α β : Type} {f g : α → Option β} : ∀ {l : List α}, (∀ x ∈ l, f x = g x) → l.filterMap f = l.filterMap g
  | [], _ => rfl
  | x :: l, h => by
    rw [List.filterMap_cons, List.filterMap_cons, h x (by simp), filterMap_same fun y hy => h y (by simp [hy])]
theorem pick_rev {α : Type} (xs : Array α) : (List.range xs.size).filterMap (fun (m : Nat) => xs[(((xs.size : Int) - 1) + (m : Int) * (-1)).toNat]?) = xs.toList.reverse := by
  have e : ∀ m ∈ List.range xs.size, xs[(((xs.size : Int) - 1) + (m : Int) * (-1)).toNat]? = ((xs[·]?) ∘ fun k => xs.size - 1 - k) m := by
    intro m hm
    have := List.mem_range.mp hm
    have : (((xs.size : Int) - 1) + (m : Int) * (-1)).toNat = xs.size - 1 - m := by omega
    rw [this]; rfl
  have e2 : (List.range xs.size).filterMap (fun (m : Nat) => xs[(((xs.size : Int) - 1) + (m : Int) * (-1)).toNat]?) = (List.range xs.size).filterMap ((xs[·]?) ∘ fun k => xs.size - 1 - k) := filterMap_same e
  rw [e2, ← List.filterMap_map, PySem.W.krv_range, List.filterMap_reverse, PySem.W.krv_all]
theorem sliceApplied_rev {sl : Addr} {vl vu vs : Value} {n : Nat} {Q : Int × Int × Nat → Shared → Prop} (hs : s.heap.IsSliceOf sl vl vu vs) (pl : IsPart vl none) (pu : IsPart vu none) (ps : IsPart vs (some (-1)))
    (h : Q ((n : Int) - 1, -1, n) s) : wpAny (model prog w) A (Builtin.Slice.sliceApplied (.ref sl) (pure (n : Int))) Q E s := by
  obtain ⟨os, hos, hcs, hds⟩ := id hs
  unfold Builtin.Slice.sliceApplied Builtin.Slice.sliceFields
  refine wpAny_bind (wpAny_bind (wpAny_field hos hds (x := vl) rfl (wpAny_bind (wpAny_field hos hds (x := vu) rfl (wpAny_bind (wpAny_field hos hds (x := vs) rfl (wpAny_pure ?_)))))))
  refine wpAny_bind (slicePart_ ps ?_)
  show wpAny _ _ (if ((-1 : Int) == 0) = true then _ else _) _ _ s
  rw [if_neg (by decide)]
  refine wpAny_bind (slicePart_ pl (wpAny_bind (slicePart_ pu (wpAny_bind (wpAny_pure ?_)))))
  show wpAny _ _ (match Builtin.Slice.sliceAdjust none none (-1) (n : Int) with | (lo, hi) => pure (lo, (-1 : Int), Builtin.Slice.slicePlaces lo hi (-1))) _ _ s
  have ea : Builtin.Slice.sliceAdjust none none (-1) (n : Int) = ((n : Int) - 1, -1) := by
    first | rfl | simp [Builtin.Slice.sliceAdjust]
  have ep : Builtin.Slice.slicePlaces ((n : Int) - 1) (-1) (-1) = n := by
    unfold Builtin.Slice.slicePlaces
    first
      | (simp; omega)
      | (split <;> simp <;> omega)
  rw [ea]
  show wpAny _ _ (pure ((n : Int) - 1, (-1 : Int), Builtin.Slice.slicePlaces ((n : Int) - 1) (-1) (-1))) _ _ s
  rw [ep]
  exact wpAny_pure h
theorem getItem_tuple_rev {t sl : Addr} {items : Array Value} {vl vu vs : Value} {Q : Value → Shared → Prop} (ht : IsTup s.heap t items) (hs : s.heap.IsSliceOf sl vl vu vs) (pl : IsPart vl none) (pu : IsPart vu none) (ps : IsPart vs (some (-1)))
    (h : Q (.ref s.heap.objs.size) { s with heap := s.heap.push { cls := .type "tuple", data := .seq items.toList.reverse.toArray } })
    (hsz : items.size ≤ sizeLine) : wpAny (model prog w) A (getItem (.ref t) (.ref sl)) Q E s := by
  have htake : sizeOk (.seq items.toList.reverse.toArray) := by
    show items.toList.reverse.toArray.size ≤ sizeLine
    rw [List.size_toArray, List.length_reverse, Array.length_toList]
    omega
  obtain ⟨os, hos, hcs, hds⟩ := id hs
  have hTs : s.TypeIs (.ref sl) "slice" := ⟨os, hos, hcs⟩
  unfold getItem
  try with_reducible refine wpAny_holding ?_
  first | refine wpAny_bind (wpAny_pure ?_) | skip
  refine wpAny_bind (wpAny_sequenceKey ht.typeIs (by decide) ?_)
  refine wpAny_bind (wpAny_callSpecial?_slot (name := Str.ofString "__getitem__") ht.typeIs PyProof.Rows.slot_tuple_getitem
    (wpAny_call_entry PyProof.Rows.slot_tuple_getitem ht.typeIs entry_tuple_getitem ?_ (args_tuple_getitem _ _)))
  show wpAny _ _ (Builtin.Tuple.tupleItemsOf (.ref t) >>= _) _ _ s
  refine wpAny_bind (tupleItemsOf_ ht ?_)
  refine wpAny_bind (wpAny_typeOf hTs ?_)
  rw [if_pos (by decide)]
  refine wpAny_bind (sliceApplied_rev hs pl pu ps ?_)
  have hno : ¬ ((((items.size : Int) - 1) == 0 && (-1 : Int) == 1 && items.size == items.size) = true) := by
    intro q
    rw [Bool.and_eq_true, Bool.and_eq_true] at q
    exact absurd q.1.2 (by decide)
  show wpAny _ _ (if ((((items.size : Int) - 1) == 0 && (-1 : Int) == 1 && items.size == items.size) = true) then _ else _) _ _ s
  rw [if_neg hno, pick_rev]
  first
    | exact wpAny_bind (m := Builtin.Tuple.tupleExact _) (wpAny_newObj_type (wpAny_pure ⟨_, rfl, wpAny_pure h⟩) htake)
    | exact wpAny_bind (m := Builtin.Tuple.tupleExact _) (wpAny_newObj_type (wpAny_bind (wpAny_pure (wpAny_pure ⟨_, rfl, wpAny_pure h⟩))) htake)
    | exact wpAny_bind (wpAny_bind (m := Builtin.Tuple.tupleExact _) (wpAny_newObj_type (wpAny_pure (wpAny_pure ⟨_, rfl, wpAny_pure h⟩)) htake))
    | exact wpAny_bind (wpAny_bind (m := Builtin.Tuple.tupleExact _) (wpAny_newObj_type (wpAny_pure ⟨_, rfl, wpAny_pure h⟩) htake))
end
end HT
namespace TT
open PyM (fromO)
open PySem PySem.Spec PyProof.Rows L2
/-! ### t[::-1] -/
def tRevT (K : PySem.W.Frag) (te : TE) : TE := fun σ H Q => te σ H fun x H1 => ∃ a xs, x = .ref a ∧ SqT K H1 a xs ∧ ∀ p, H1 p = none → Q (.ref p) (upd H1 p (.tup xs.reverse))
theorem pe_revT {X : Cx} {e : Expr} {te : TE} {k : Nat} {p1 p2 p3 pos : Pos} (he : PE X e te) : PE X (.Subscript e (.Slice none none (some (.UnaryOp .USub (.Constant (.int 1) k p1) p2)) p3) pos) (tRevT X.K te) := by
  refine ⟨fun pins s σ H Q I h => ?_⟩
  refine Subscript_ (thn (he.run pins s σ H _ I h) fun v s1 ⟨x, H1, I1, r1, q1⟩ => ?_)
  obtain ⟨a, xs, ex, hx, q⟩ := q1
  subst ex
  cases r1
  have hst : PO X (some (.UnaryOp .USub (.Constant (.int 1) k p1) p2)) (tPart (tUn (rU fun i => .int (-i)) (tC (.int 1)))) := po_some (pe_un un_neg pe_int)
  refine wpAny_Slice (thn (po_none.run pins s1 σ H1 (fun o H2 => o = none ∧ H2 = H1) I1 ⟨rfl, rfl⟩) fun vl s2 ⟨l, H2, I2, pl, el, e2⟩ => ?_)
  subst el e2
  refine thn (po_none.run pins s2 σ H2 (fun o H3 => o = none ∧ H3 = H2) I2 ⟨rfl, rfl⟩) fun vu s3 ⟨u, H3, I3, pu, eu, e3⟩ => ?_
  subst eu e3
  refine thn (hst.run pins s3 σ H3 (fun o H4 => o = some (-1) ∧ H4 = H3) I3 ⟨1, rfl, -1, rfl, rfl, rfl⟩) fun vs s4 ⟨o, H4, I4, ps, eo, e4⟩ => ?_
  subst eo e4
  have I5 : L2.Inv X pins σ H4 { s4 with heap := s4.heap.push { cls := .type "slice", data := .fields #[vl, vu, vs] } } := I4.kept (t' := s4.toks) fun b ob q => Heap.get?_push_of_some _ q
  obtain ⟨its, r, ht, hz⟩ := I5.tuple hx
  have hlen := r.length
  show wpAny (model X.prog X.w) X.A (subscriptTail e (.Slice none none (some (.UnaryOp .USub (.Constant (.int 1) k p1) p2)) p3) (.ref a) (.ref s4.heap.objs.size)) (EP X pins σ Q) X.xe { s4 with heap := s4.heap.push { cls := .type "slice", data := .fields #[vl, vu, vs] } }
  refine tail_any (ops := [.ref a, .ref s4.heap.objs.size]) ht.typeIs (PyProof.Rows.slot_tuple_getitem.lookup) ?_ (by with_unfolding_all rfl)
  refine HT.getItem_tuple_rev ht (Heap.IsSliceOf.new _ vl vu vs) pl pu ps ?_ (by rw [List.size_toArray]; omega)
  refine ⟨.ref _, _, I5.laid (t' := s4.toks) (o := .tup xs.reverse) (fun b ob q => Heap.get?_push_of_some _ q) (Nat.le_refl _) ?_, rfl, q _ (I5.hok.fresh (Nat.le_refl _))⟩
  exact ⟨by rw [List.length_reverse]; exact hz, _, r.reverse, IsTup.new _ _⟩
section
variable {X : Cx} {m : Type → Type} [Monad m] [PyM m] {C : Wd X.K X.w m} {W : WX} {H0 : Hp} {R : Slots} {α β : Type} {ea : α → PyData} {eb : β → PyData} {a b : Expr} {ma mb : m α} {mxs : m (List α)} {pos : Pos}
theorem se_revT {k0 : Nat} {p1 p2 p3 : Pos} (ha : SB X C W H0 R a (eTup ea) mxs) : SE X C W H0 R (.Subscript a (.Slice none none (some (.UnaryOp .USub (.Constant (.int 1) k0 p1) p2)) p3) pos) (eTup ea) (mxs >>= fun xs => pure xs.reverse) :=
  .weak (pe_revT ha.run) fun σ H Q q => tR_one kF_ok q fun x H1 xs k1 q1 => by
    obtain ⟨_, q⟩ := tR_pure q1
    obtain ⟨s, vs, rfl, h1, h2⟩ := kB_tup k1
    refine ⟨s, vs, rfl, h1, fun p hp => q _ _ (Same.new hp) ?_⟩
    refine .tup (.inl (.inl upd_same)) ?_
    rw [List.map_reverse]
    exact Reps.firm (fun b o h _ => Same.new hp b o h) h2.reverse

/-! ### == of things of one kind -/
structure EqOk {α : Type} [DecidableEq α] (n : Nat) (ea : α → PyData) : Prop where
  eqv : ∀ a b, PyData.eqv (ea a) (ea b) = decide (a = b)
  plain : ∀ a, (ea a).plain = true
  depth : ∀ a, (ea a).depth ≤ n
theorem eq_int : EqOk 0 eInt where
  eqv a b := by show (a == b) = _; cases h : decide (a = b) <;> simp_all
  plain _ := by simp [PyData.plain]
  depth _ := by simp [PyData.depth]
theorem eq_bool : EqOk 0 eBool where
  eqv a b := by cases a <;> cases b <;> rfl
  plain _ := by simp [PyData.plain]
  depth _ := by simp [PyData.depth]
theorem eq_str : EqOk 0 eStr where
  eqv a b := by show (a == b) = _; cases h : decide (a = b) <;> simp_all
  plain _ := by simp [PyData.plain]
  depth _ := by simp [PyData.depth]
theorem eq_non : EqOk 0 eNon where
  eqv a b := by cases a; cases b; rfl
  plain _ := by simp [PyData.plain, eNon]
  depth _ := by simp [PyData.depth, eNon]
theorem eq_opt {n : Nat} [DecidableEq α] (h : EqOk n ea) (hn : ∀ a, isNon (ea a) = false) : EqOk n (eOpt ea) where
  eqv a b := by
    have hz : ∀ a, ea a ≠ .none := fun a z => by have := hn a; rw [z] at this; cases this
    have l : ∀ d : PyData, d ≠ .none → PyData.eqv .none d = false ∧ PyData.eqv d .none = false := by
      intro d hd
      cases d <;> first | exact absurd rfl hd | exact ⟨by simp [PyData.eqv], by simp [PyData.eqv]⟩
    cases a with
    | none =>
      cases b with
      | none => simp [eOpt, PyData.eqv]
      | some b => simpa [eOpt] using (l _ (hz b)).1
    | some a =>
      cases b with
      | none => simpa [eOpt] using (l _ (hz a)).2
      | some b => simpa [eOpt] using h.eqv a b
  plain a := by cases a; simp [eOpt, PyData.plain]; exact h.plain _
  depth a := by cases a; simp [eOpt, PyData.depth]; exact h.depth _
theorem eqvAll_map [DecidableEq α] {n : Nat} (h : EqOk n ea) : ∀ xs ys : List α, PyData.eqvAll (xs.map ea) (ys.map ea) = decide (xs = ys)
  | [], [] => by simp [PyData.eqvAll]
  | [], _ :: _ => by simp [PyData.eqvAll]
  | _ :: _, [] => by simp [PyData.eqvAll]
  | x :: xs, y :: ys => by simp [PyData.eqvAll, h.eqv, eqvAll_map h xs ys]
theorem plainAll_map' [DecidableEq α] {n : Nat} (h : EqOk n ea) : ∀ xs : List α, PyData.plainAll (xs.map ea) = true
  | [] => by simp [PyData.plainAll]
  | x :: xs => by simp [PyData.plainAll, h.plain, plainAll_map' h xs]
theorem depthAll_map [DecidableEq α] {n : Nat} (h : EqOk n ea) : ∀ xs : List α, PyData.depthAll (xs.map ea) ≤ n
  | [] => by simp [PyData.depthAll]
  | x :: xs => by
    show max _ _ ≤ n
    exact Nat.max_le.mpr ⟨h.depth x, depthAll_map h xs⟩
theorem eq_tup {n : Nat} [DecidableEq α] (h : EqOk n ea) : EqOk (n + 1) (eTup ea) where
  eqv a b := by simp [eTup, PyData.eqv, eqvAll_map h]
  plain a := by simp [eTup, PyData.plain, plainAll_map' h]
  depth a := by simp [eTup, PyData.depth]; exact depthAll_map h a
theorem eq_lst {n : Nat} [DecidableEq α] (h : EqOk n ea) : EqOk (n + 1) (eLst ea) where
  eqv a b := by simp [eLst, PyData.eqv, eqvAll_map h]
  plain a := by simp [eLst, PyData.plain, plainAll_map' h]
  depth a := by simp [eLst, PyData.depth]; exact depthAll_map h a
theorem eq_t1 {n : Nat} [DecidableEq α] (h : EqOk n ea) : EqOk (n + 1) (eT1 ea) where
  eqv a b := by simp [eT1, PyData.eqv, PyData.eqvAll, h.eqv]
  plain a := by simp [eT1, PyData.plain, PyData.plainAll, h.plain]
  depth a := by simp [eT1, PyData.depth, PyData.depthAll, h.depth]
theorem eq_t2 {n k : Nat} [DecidableEq α] [DecidableEq β] (h : EqOk n ea) (h' : EqOk k eb) : EqOk (max n k + 1) (eT2 ea eb) where
  eqv a b := by obtain ⟨a1, a2⟩ := a; obtain ⟨b1, b2⟩ := b; simp [eT2, PyData.eqv, PyData.eqvAll, h.eqv, h'.eqv]
  plain a := by simp [eT2, PyData.plain, PyData.plainAll, h.plain, h'.plain]
  depth a := by have := h.depth a.1; have := h'.depth a.2; simp [eT2, PyData.depth, PyData.depthAll]; omega
variable {γ δ ε : Type} {ec : γ → PyData} {ed : δ → PyData} {ee : ε → PyData}
theorem eq_t3 {n k l : Nat} [DecidableEq α] [DecidableEq β] [DecidableEq γ] (h : EqOk n ea) (h' : EqOk k eb) (h3 : EqOk l ec) : EqOk (max n (max k l) + 1) (eT3 ea eb ec) where
  eqv a b := by obtain ⟨a1, a2, a3⟩ := a; obtain ⟨b1, b2, b3⟩ := b; simp [eT3, PyData.eqv, PyData.eqvAll, h.eqv, h'.eqv, h3.eqv]
  plain a := by simp [eT3, PyData.plain, PyData.plainAll, h.plain, h'.plain, h3.plain]
  depth a := by have := h.depth a.1; have := h'.depth a.2.1; have := h3.depth a.2.2; simp [eT3, PyData.depth, PyData.depthAll]; omega
theorem eq_t4 {n k l o : Nat} [DecidableEq α] [DecidableEq β] [DecidableEq γ] [DecidableEq δ] (h : EqOk n ea) (h' : EqOk k eb) (h3 : EqOk l ec) (h4 : EqOk o ed) : EqOk (max n (max k (max l o)) + 1) (eT4 ea eb ec ed) where
  eqv a b := by obtain ⟨a1, a2, a3, a4⟩ := a; obtain ⟨b1, b2, b3, b4⟩ := b; simp [eT4, PyData.eqv, PyData.eqvAll, h.eqv, h'.eqv, h3.eqv, h4.eqv]
  plain a := by simp [eT4, PyData.plain, PyData.plainAll, h.plain, h'.plain, h3.plain, h4.plain]
  depth a := by have := h.depth a.1; have := h'.depth a.2.1; have := h3.depth a.2.2.1; have := h4.depth a.2.2.2; simp [eT4, PyData.depth, PyData.depthAll]; omega
theorem eqG_of [DecidableEq α] {n : Nat} (h : EqOk n ea) (hn : n < 60) (x y : α) : eqG (ea x) (ea y) = some (decide (x = y)) := by
  unfold eqG
  rw [if_pos ⟨h.plain x, h.plain y, Nat.lt_of_le_of_lt (Nat.min_le_left _ _) (Nat.lt_of_le_of_lt (h.depth x) hn)⟩, h.eqv]
theorem fromO_some {γ : Type} (x : γ) (s : PyM.S m) : PyM.run (fromO (some x) : m γ) s = PyM.run (pure x) s := by rw [PyM.run_fromO, PyM.run_pure]; rfl
theorem SC.alike {op : CmpOp} {mm mm' : m Bool} (h : SC X C W H0 R op a b mm) (q : Alike mm' mm) : SC X C W H0 R op a b mm' :=
  ⟨⟨fun pins s σ H Q I q' => h.run.run pins s σ H Q I (by obtain ⟨s', c, q'⟩ := q'; exact ⟨s', c, by rw [← q s']; exact q'⟩)⟩⟩
theorem sc_eqT [DecidableEq α] {n : Nat} (h : EqOk n ea) (hn : n < 60) (hu : X.A.units + 64 < cLine) (ha : SB X C W H0 R a ea ma) (hb : SB X C W H0 R b ea mb) : SC X C W H0 R .Eq a b (ma >>= fun i => mb >>= fun j => pure (decide (i = j))) :=
  (sc_eq hu ha hb).alike (alike_bind fun i => alike_bind fun j s => by rw [eqG_of h hn, fromO_some])
theorem sc_neT [DecidableEq α] {n : Nat} (h : EqOk n ea) (hn : n < 60) (hu : X.A.units + 64 < cLine) (ha : SB X C W H0 R a ea ma) (hb : SB X C W H0 R b ea mb) : SC X C W H0 R .NotEq a b (ma >>= fun i => mb >>= fun j => pure (!decide (i = j))) :=
  (sc_ne hu ha hb).alike (alike_bind fun i => alike_bind fun j s => by rw [eqG_of h hn]; exact (fromO_some (m := m) _ s).symm)
end
end TT

namespace TT
open PyM (fromO)
open PySem PySem.Spec PyProof.Rows L2
theorem ltR {i : Nat} {R : Slots} (n : Nat) (h : R.length = n) (h2 : Nat.ble (i + 1) n = true) : i < R.length := h ▸ Nat.le_of_ble_eq_true h2
def absI (i : Int) : Int := if i < 0 then -i else i
def intB (b : Bool) : Int := if b = true then 1 else 0
def minI (i j : Int) : Int := if j < i then j else i
def maxI (i j : Int) : Int := if j > i then j else i
def lenSG (z : Str) : Option Int := if z.length ≤ 16777216 then some (z.length : Int) else none
def catSG (z y : Str) : Option Str := if z.length + y.length ≤ 16777216 then some (z ++ y) else none
section
variable {X : Cx} {m : Type → Type} [Monad m] [PyM m] {C : Wd X.K X.w m} {W : WX} {H0 : Hp} {R : Slots} {P : Pk} {α β γ : Type} {ea : α → PyData} {eb : β → PyData} {e a b tg : Expr} {es : List Expr} {ma mb : m α} {mc mc' : m Bool} {mxs mxs' : m (List α)} {pos : Pos} {k : Kd} {ifs : List Expr}
theorem ST.eq (h : ST X C W H0 R e mc) (q : mc' = mc) : ST X C W H0 R e mc' := q ▸ h
theorem SIf.eq (h : SIf X C W H0 R ifs mc) (q : mc' = mc) : SIf X C W H0 R ifs mc' := q ▸ h
theorem SC.eq {op : CmpOp} (h : SC X C W H0 R op a b mc) (q : mc' = mc) : SC X C W H0 R op a b mc' := q ▸ h
theorem SI.eq (h : SI X C W H0 R P tg e ea mxs) (q : mxs' = mxs) : SI X C W H0 R P tg e ea mxs' := q ▸ h
theorem SA.eq {eg : γ → List PyData} {mg mg' : m γ} (h : SA X C W H0 R es eg mg) (q : mg' = mg) : SA X C W H0 R es eg mg' := q ▸ h
theorem SM.eq {eg : γ → List Slot} {mg mg' : m γ} (h : SM X C W H0 R es eg mg) (q : mg' = mg) : SM X C W H0 R es eg mg' := q ▸ h
/-- a value that is not None -/
theorem SX.get {mo : m (Option α)} (h : SE X C W H0 R e (eOpt ea) mo) : SE X C W H0 R e ea (mo >>= fun o => fromO o) :=
  ⟨h.run.weak fun σ H Q q => tR_imp (tR_bind (k := kF X.K X.w C.mt) (ea := eOpt ea) kF_ok q) fun v H1 ⟨o, ex, kv, q⟩ => by
    obtain ⟨x, rfl, _, q⟩ := tR_done q
    exact q v H1 (Same.refl _) kv⟩
end
section
variable {X : Cx} {m : Type → Type} [Monad m] [PyM m] {C : Wd X.K X.w m} {W : WX} {H0 : Hp} {R : Slots} {a b : Expr} {mi mj : m Int} {mc : m Bool} {mz my : m Str} {pos p : Pos}
theorem se_absI (hg : Gl X "abs") (hm : X.mg "abs" = none) (ha : SB X C W H0 R a eInt mi) (hs : starEach (a :: []) X.env = (false, eval a X.env) :: starEach [] X.env := by rfl) : SE X C W H0 R (.Call (.Name "abs" p) [a] [] pos) eInt (mi >>= fun i => pure (absI i)) := se_abs hg hm ha hs
theorem se_intI (hg : Gl X "int") (hm : X.mg "int" = none) (ha : SB X C W H0 R a eBool mc) (hs : starEach (a :: []) X.env = (false, eval a X.env) :: starEach [] X.env := by rfl) : SE X C W H0 R (.Call (.Name "int" p) [a] [] pos) eInt (mc >>= fun i => pure (intB i)) := se_intB hg hm ha hs
theorem se_minI (hk : X.calm = true) (hg : Gl X "min") (hm : X.mg "min" = none) (ha : SB X C W H0 R a eInt mi) (hb : SB X C W H0 R b eInt mj)
    (hs : starEach (a :: [b]) X.env = (false, eval a X.env) :: starEach [b] X.env := by rfl) (hs2 : starEach (b :: []) X.env = (false, eval b X.env) :: starEach [] X.env := by rfl) (hpl : (backTo pos (starEach [b] X.env)).any (·.1) = false := by rfl) :
    SE X C W H0 R (.Call (.Name "min" p) [a, b] [] pos) eInt (mi >>= fun i => mj >>= fun j => pure (minI i j)) := se_min2 hk hg hm ha hb hs hs2 hpl
theorem se_maxI (hk : X.calm = true) (hg : Gl X "max") (hm : X.mg "max" = none) (ha : SB X C W H0 R a eInt mi) (hb : SB X C W H0 R b eInt mj)
    (hs : starEach (a :: [b]) X.env = (false, eval a X.env) :: starEach [b] X.env := by rfl) (hs2 : starEach (b :: []) X.env = (false, eval b X.env) :: starEach [] X.env := by rfl) (hpl : (backTo pos (starEach [b] X.env)).any (·.1) = false := by rfl) :
    SE X C W H0 R (.Call (.Name "max" p) [a, b] [] pos) eInt (mi >>= fun i => mj >>= fun j => pure (maxI i j)) := se_max2 hk hg hm ha hb hs hs2 hpl
theorem se_lenG (hg : Gl X "len") (hm : X.mg "len" = none) (ha : SB X C W H0 R a eStr mz) (hs : starEach (a :: []) X.env = (false, eval a X.env) :: starEach [] X.env := by rfl) : SE X C W H0 R (.Call (.Name "len" p) [a] [] pos) eInt (mz >>= fun z => fromO (lenSG z)) := se_lenS hg hm ha hs
theorem se_catG (ha : SB X C W H0 R a eStr mz) (hb : SB X C W H0 R b eStr my) : SE X C W H0 R (.BinOp a .Add b pos) eStr (mz >>= fun z => my >>= fun y => fromO (catSG z y)) := se_catS ha hb
end
end TT

namespace TT
open PyM (fromO)
open PySem L2
/-! ### plain laws of the mirror's words, in Option -/
theorem o_fromO {α : Type} (o : Option α) : (fromO o : Option α) = o := congrArg id (rfl : o = o)
theorem o_pure {α : Type} (a : α) : (pure a : Option α) = some a := congrArg id (rfl : some a = some a)
theorem o_bind {α β : Type} (a : α) (f : α → Option β) : (some a >>= f) = f a := congrArg id (rfl : f a = f a)
theorem o_go {α β : Type} {x : Option α} {a : α} {f : α → Option β} (h : x = some a) : (x >>= f) = f a := by rw [h]; rfl
theorem filter_yes {α : Type} : ∀ xs : List α, xs.filter (fun _ => true) = xs
  | [] => rfl
  | x :: xs => by rw [List.filter_cons_of_pos rfl, filter_yes xs]
theorem comp_some {α β : Type} {g : α → Option Bool} {f : α → Option β} {p : α → Bool} {q : α → β} : ∀ {xs : List α}, (∀ x ∈ xs, g x = some (p x)) → (∀ x ∈ xs, p x = true → f x = some (q x)) → compL g f xs = some ((xs.filter p).map q)
  | [], _, _ => rfl
  | x :: xs, h, h' => by
    show (g x >>= fun c => if c = true then f x >>= fun y => compL g f xs >>= fun ys => pure (y :: ys) else compL g f xs) = _
    rw [o_go (h x (by simp)), comp_some (fun y hy => h y (by simp [hy])) fun y hy => h' y (by simp [hy])]
    cases e : p x with
    | true =>
      rw [if_pos rfl, o_go (h' x (by simp) e)]
      simp [e]
    | false => rw [if_neg Bool.false_ne_true]; simp [e]
theorem comp_all {α β : Type} {f : α → Option β} {q : α → β} {xs : List α} (h : ∀ x ∈ xs, f x = some (q x)) : compL (fun _ => pure true) f xs = some (xs.map q) := by
  have := comp_some (g := fun _ => some true) (p := fun _ => true) (q := q) (f := f) (xs := xs) (fun _ _ => rfl) fun x hx _ => h x hx
  rw [filter_yes] at this
  exact this
theorem comp_pure {α β : Type} {p : α → Bool} {q : α → β} {xs : List α} : compL (m := Option) (fun x => pure (p x)) (fun x => pure (q x)) xs = some ((xs.filter p).map q) := comp_some (fun _ _ => rfl) fun _ _ _ => rfl
theorem fold_some {α δ : Type} {f : α → δ → Option δ} {g : δ → α → δ} (I : δ → Prop) : ∀ {xs : List α} {d : δ}, I d → (∀ x ∈ xs, ∀ d, I d → f x d = some (g d x) ∧ I (g d x)) → foldL f xs d = some (xs.foldl g d) ∧ I (xs.foldl g d)
  | [], d, i, _ => ⟨rfl, i⟩
  | x :: xs, d, i, h => by
    obtain ⟨e, i'⟩ := h x (by simp) d i
    show (f x d >>= foldL f xs) = _ ∧ _
    rw [o_go e]
    exact fold_some I i' fun y hy => h y (by simp [hy])
/-- by an invariant of the place and the state -/
theorem fold_inv {α δ : Type} {f : α → δ → Option δ} (I : Nat → δ → Prop) : ∀ {xs : List α} {d : δ} (i : Nat), I i d → (∀ (j : Nat) (x : α) (d : δ), xs[j]? = some x → I (i + j) d → ∃ d', f x d = some d' ∧ I (i + j + 1) d') → ∃ d', foldL f xs d = some d' ∧ I (i + xs.length) d'
  | [], d, i, h, _ => ⟨d, rfl, h⟩
  | x :: xs, d, i, h, t => by
    obtain ⟨d', e, i'⟩ := t 0 x d (by simp) h
    obtain ⟨r, e2, i2⟩ := fold_inv I (xs := xs) (d := d') (i + 1) i' fun j y d hy hd => by
      have := t (j + 1) y d (by simpa using hy) (by rw [show i + (j + 1) = i + 1 + j by omega]; exact hd)
      rw [show i + 1 + j + 1 = i + (j + 1) + 1 by omega]
      exact this
    refine ⟨r, ?_, ?_⟩
    · show (f x d >>= foldL f xs) = _
      rw [o_go e]; exact e2
    · rw [List.length_cons, show i + (xs.length + 1) = i + 1 + xs.length by omega]; exact i2
theorem range_some {lo hi : Int} (h : -1000000000 ≤ lo ∧ lo ≤ 1000000000 ∧ -1000000000 ≤ hi ∧ hi ≤ 1000000000 ∧ hi - lo ≤ 16777216) : rangeG lo hi = some (rangeL lo (hi - lo).toNat) := if_pos h
theorem range_nat {n : Nat} (h : n ≤ 16777216) : rangeG 0 (n : Int) = some (rangeL 0 n) := by
  rw [range_some (by omega)]
  congr 1
theorem rangeL_map (lo : Int) (n : Nat) : rangeL lo n = (List.range n).map fun (i : Nat) => lo + (i : Int) := by
  apply List.ext_getElem?
  intro i
  by_cases h : i < n
  · rw [rangeL_get n lo i h, List.getElem?_map, List.getElem?_range h]; rfl
  · rw [List.getElem?_eq_none (by rw [rangeL_len]; omega), List.getElem?_eq_none (by simp; omega)]
theorem mem_rangeL {lo : Int} {n : Nat} {x : Int} : x ∈ rangeL lo n ↔ lo ≤ x ∧ x < lo + n := by
  rw [rangeL_map]
  simp only [List.mem_map, List.mem_range]
  constructor
  · rintro ⟨i, h, rfl⟩; omega
  · rintro ⟨h1, h2⟩; exact ⟨(x - lo).toNat, by omega, by omega⟩
theorem at_nat {α : Type} {xs : List α} {i : Nat} {x : α} (h : xs[i]? = some x) : L2.atI xs (i : Int) = some x := atI_nat h
theorem at_int {α : Type} {xs : List α} {k : Int} (h : 0 ≤ k) (h2 : k < xs.length) : L2.atI xs k = some (xs[k.toNat]'(by omega)) := by
  have e : k = ((k.toNat : Nat) : Int) := by omega
  have q : L2.atI xs ((k.toNat : Nat) : Int) = some (xs[k.toNat]'(by omega)) := at_nat (List.getElem?_eq_getElem _)
  rw [← e] at q
  exact q
theorem cat_some {α : Type} {xs ys : List α} (h : xs.length + ys.length ≤ 16777216) : catG xs ys = some (xs ++ ys) := if_pos h
theorem app_some {α : Type} {xs : List α} {a : α} (h : xs.length < 16777216) : appG xs a = some (xs ++ [a]) := if_pos h
theorem mul_some {i j : Int} (h : i.natAbs < 2 ^ 4000 ∧ j.natAbs < 2 ^ 4000) : mulG i j = some (i * j) := if_pos h
theorem big_of {i : Int} (h : i.natAbs < 2 ^ 200) : i.natAbs < 2 ^ 4000 := Nat.lt_of_lt_of_le h (Nat.pow_le_pow_right (by decide) (by decide))
theorem mul_small {i j : Int} (h : i.natAbs < 1267650600228229401496703205376) (h' : j.natAbs < 1267650600228229401496703205376) : mulG i j = some (i * j) := by
  have e : (1267650600228229401496703205376 : Nat) = 2 ^ 100 := by decide
  rw [e] at h h'
  have z : (2 : Nat) ^ 100 ≤ 2 ^ 4000 := Nat.pow_le_pow_right (by decide) (by decide)
  exact mul_some ⟨Nat.lt_of_lt_of_le h z, Nat.lt_of_lt_of_le h' z⟩
theorem mod_pos {i j : Int} (h : 0 < j) : modG i j = some (i % j) := by
  unfold modG
  rw [if_pos (by omega), Int.fmod_eq_emod_of_nonneg i (by omega)]
theorem div_small {i j : Int} (h : 0 < j) (h' : j.natAbs < 1073741824) : divG i j = some (i / j) := by
  unfold divG
  rw [if_pos (.inr ⟨by omega, h'⟩), Int.fdiv_eq_ediv_of_nonneg i (by omega)]
theorem supO_of {α : Type} {f : Nat → Option α} {n : Nat} {a : α} (h : f n = some a) (u : ∀ m b, f m = some b → b = a) : supO f = some a := by
  unfold supO
  have ex : ∃ n, (f n).isSome = true := ⟨n, by rw [h]; rfl⟩
  split
  · rename_i hx
    cases e : f (Classical.choose hx) with
    | none => have := Classical.choose_spec hx; rw [e] at this; cases this
    | some b => rw [u _ _ e]
  · rename_i hx
    exact absurd ex hx
/-! ### while, in Option -/
theorem whileFP_mono {δ : Type} {c : δ → Option Bool} {b : δ → Option δ} : ∀ (n : Nat) (d r : δ), whileFP c b n d = some r → ∀ m, n ≤ m → whileFP c b m d = some r
  | 0, d, r, h, _, _ => by cases h
  | n + 1, d, r, h, m, hm => by
    obtain ⟨m, rfl⟩ : ∃ k, m = k + 1 := ⟨m - 1, by omega⟩
    have h : (c d >>= fun t => if t = true then b d >>= whileFP c b n else pure d) = some r := h
    show (c d >>= fun t => if t = true then b d >>= whileFP c b m else pure d) = some r
    cases e : c d with
    | none => rw [e] at h; cases h
    | some t =>
      rw [e] at h
      cases t with
      | false => exact h
      | true =>
        have h : (b d >>= whileFP c b n) = some r := h
        show (b d >>= whileFP c b m) = some r
        cases e2 : b d with
        | none => rw [e2] at h; cases h
        | some d' =>
          rw [e2] at h
          exact whileFP_mono n d' r h m (by omega)
theorem whileM_of {δ : Type} {c : δ → Option Bool} {b : δ → Option δ} {n : Nat} {d r : δ} (h : whileFP c b n d = some r) : whileM c b d = some r :=
  supO_of (f := fun n => whileFP c b n d) h fun m q e => by
    have h1 := whileFP_mono n d r h (max n m) (Nat.le_max_left _ _)
    have h2 := whileFP_mono m d q e (max n m) (Nat.le_max_right _ _)
    rw [h1] at h2
    exact (Option.some.inj h2).symm
/-- a measure that falls, an invariant -/
theorem while_inv {δ : Type} {c : δ → Option Bool} {b : δ → Option δ} (I : δ → Prop) (μ : δ → Nat) (h : ∀ d, I d → ∃ t, c d = some t ∧ (t = true → ∃ d', b d = some d' ∧ I d' ∧ μ d' < μ d)) : ∀ (n : Nat) (d : δ), μ d < n → I d → ∃ r, whileFP c b n d = some r ∧ I r ∧ c r = some false
  | 0, _, z, _ => absurd z (Nat.not_lt_zero _)
  | n + 1, d, z, i => by
    obtain ⟨t, e, ht⟩ := h d i
    show ∃ r, (c d >>= fun t => if t = true then b d >>= whileFP c b n else pure d) = some r ∧ _
    rw [o_go e]
    cases t with
    | false => exact ⟨d, rfl, i, e⟩
    | true =>
      obtain ⟨d', e2, i', l⟩ := ht rfl
      rw [if_pos rfl, o_go e2]
      exact while_inv I μ h n d' (by omega) i'
theorem whileM_inv {δ : Type} {c : δ → Option Bool} {b : δ → Option δ} (I : δ → Prop) (μ : δ → Nat) (h : ∀ d, I d → ∃ t, c d = some t ∧ (t = true → ∃ d', b d = some d' ∧ I d' ∧ μ d' < μ d)) {d : δ} (i : I d) : ∃ r, whileM c b d = some r ∧ I r ∧ c r = some false := by
  obtain ⟨r, e, i', e'⟩ := while_inv I μ h (μ d + 1) d (Nat.lt_succ_self _) i
  exact ⟨r, whileM_of e, i', e'⟩

/-! ### the law's own runs: every draw -/
def Good {α : Type} (x : WM DW α) (P : α → Prop) : Prop := ∀ s : DW, 0 ≤ s.2 → ∃ a s', x.run s = some (a, s') ∧ 0 ≤ s'.2 ∧ P a
theorem Good.pure {α : Type} {a : α} {P : α → Prop} (h : P a) : Good (Pure.pure a) P := fun s hs => ⟨a, s, rfl, hs, h⟩
theorem Good.bind {α β : Type} {x : WM DW α} {f : α → WM DW β} {P : α → Prop} {Q : β → Prop} (h : Good x P) (h' : ∀ a, P a → Good (f a) Q) : Good (x >>= f) Q := fun s hs => by
  obtain ⟨a, s1, e, h1, p⟩ := h s hs
  obtain ⟨b, s2, e2, h2, q⟩ := h' a p s1 h1
  refine ⟨b, s2, ?_, h2, q⟩
  show (x.run s >>= fun p => (f p.1).run p.2) = _
  rw [e]
  exact e2
theorem Good.imp {α : Type} {x : WM DW α} {P Q : α → Prop} (h : Good x P) (i : ∀ a, P a → Q a) : Good x Q := fun s hs => let ⟨a, s', e, h', p⟩ := h s hs; ⟨a, s', e, h', i a p⟩
theorem Good.fromO {α : Type} {o : Option α} {a : α} {P : α → Prop} (h : o = some a) (p : P a) : Good (PyM.fromO o) P := fun s hs => ⟨a, s, by rw [h]; rfl, hs, p⟩
/-- a known value, then the rest -/
theorem Good.go {α β : Type} {o : Option α} {a : α} {f : α → WM DW β} {Q : β → Prop} (h : o = some a) (h' : Good (f a) Q) : Good (PyM.fromO o >>= f) Q := Good.bind (P := fun x => x = a) (.fromO h rfl) fun x e => e ▸ h'
theorem Good.go0 {α β : Type} {a : α} {f : α → WM DW β} {Q : β → Prop} (h' : Good (f a) Q) : Good (Pure.pure a >>= f) Q := Good.bind (P := fun x => x = a) (.pure rfl) fun x e => e ▸ h'
theorem Good.asc {α β γ : Type} {x : WM DW α} {f : α → WM DW β} {g : β → WM DW γ} {Q : γ → Prop} (h : Good (x >>= fun a => f a >>= g) Q) : Good ((x >>= f) >>= g) Q := by rw [bind_assoc]; exact h
theorem Good.ite {α : Type} {c : Bool} {x y : WM DW α} {P : α → Prop} (h : c = true → Good x P) (h' : c = false → Good y P) : Good (if c = true then x else y) P := by
  cases c with
  | true => exact h rfl
  | false => exact h' rfl
inductive All2 {α β : Type} (Q : α → β → Prop) : List α → List β → Prop
  | nil : All2 Q [] []
  | cons {x y xs ys} : Q x y → All2 Q xs ys → All2 Q (x :: xs) (y :: ys)
theorem Good.comp {α β : Type} {f : α → WM DW β} {Q : α → β → Prop} : ∀ {xs : List α}, (∀ x ∈ xs, Good (f x) (Q x)) → Good (compL (fun _ => Pure.pure true) f xs) (fun ys => All2 Q xs ys)
  | [], _ => .pure .nil
  | x :: xs, h => by
    show Good (Pure.pure true >>= fun c => if c = true then f x >>= fun y => compL (fun _ => Pure.pure true) f xs >>= fun ys => Pure.pure (y :: ys) else compL (fun _ => Pure.pure true) f xs) _
    refine .go0 ?_
    rw [if_pos rfl]
    exact .bind (h x (by simp)) fun y hy => .bind (Good.comp fun z hz => h z (by simp [hz])) fun ys hys => .pure (.cons hy hys)
theorem Good.comp' {α β : Type} {f : α → WM DW β} {Q : β → Prop} {xs : List α} (h : ∀ x ∈ xs, Good (f x) Q) : Good (compL (fun _ => Pure.pure true) f xs) (fun ys => ys.length = xs.length ∧ ∀ y ∈ ys, Q y) := by
  refine (Good.comp (Q := fun _ => Q) h).imp fun ys hy => ⟨?_, ?_⟩
  · clear h
    induction hy with
    | nil => rfl
    | cons _ _ ih => simp [ih]
  · clear h
    induction hy with
    | nil => simp
    | cons h _ ih => simp; exact ⟨h, ih⟩
/-- a comprehension that draws nothing -/
theorem Good.compO {α β : Type} {g : α → WM DW Bool} {f : α → WM DW β} {p : α → Bool} {q : α → β} : ∀ {xs : List α}, (∀ x ∈ xs, Good (g x) (· = p x)) → (∀ x ∈ xs, p x = true → Good (f x) (· = q x)) → Good (compL g f xs) (· = (xs.filter p).map q)
  | [], _, _ => .pure rfl
  | x :: xs, h, h' => by
    show Good (g x >>= fun c => if c = true then f x >>= fun y => compL g f xs >>= fun ys => Pure.pure (y :: ys) else compL g f xs) _
    have ih := Good.compO (xs := xs) (fun y hy => h y (by simp [hy])) fun y hy => h' y (by simp [hy])
    refine .bind (h x (by simp)) fun c hc => ?_
    subst hc
    refine .ite (fun e => ?_) fun e => ?_
    · refine .bind (h' x (by simp) e) fun y hy => .bind ih fun ys hys => .pure ?_
      subst hy hys
      simp [e]
    · refine ih.imp fun ys hys => ?_
      subst hys
      simp [e]
theorem Good.compA {α β : Type} {f : α → WM DW β} {q : α → β} {xs : List α} (h : ∀ x ∈ xs, Good (f x) (· = q x)) : Good (compL (fun _ => Pure.pure true) f xs) (· = xs.map q) := by
  refine (Good.compO (p := fun _ => true) (q := q) (fun _ _ => .pure rfl) fun x hx _ => h x hx).imp fun ys hy => ?_
  rw [filter_yes] at hy
  exact hy
theorem Good.foldL {α δ : Type} {f : α → δ → WM DW δ} (I : δ → Prop) : ∀ {xs : List α} {d : δ}, I d → (∀ x ∈ xs, ∀ d, I d → Good (f x d) I) → Good (TT.foldL f xs d) I
  | [], d, i, _ => .pure i
  | x :: xs, d, i, h => .bind (h x (by simp) d i) fun d' i' => Good.foldL I i' fun y hy => h y (by simp [hy])
/-- the state at the place of a loop -/
theorem Good.foldI {α δ : Type} {f : α → δ → WM DW δ} (I : Nat → δ → Prop) : ∀ {xs : List α} {d : δ} (i : Nat), I i d → (∀ (j : Nat) (x : α) (d : δ), xs[j]? = some x → I (i + j) d → Good (f x d) (I (i + j + 1))) → Good (TT.foldL f xs d) (I (i + xs.length))
  | [], d, i, h, _ => .pure h
  | x :: xs, d, i, h, t => by
    refine .bind (t 0 x d (by simp) h) fun d' i' => ?_
    have := Good.foldI I (xs := xs) (d := d') (i + 1) i' fun j y d hy hd => by
      have := t (j + 1) y d (by simpa using hy) (by rw [show i + (j + 1) = i + 1 + j by omega]; exact hd)
      rw [show i + 1 + j + 1 = i + (j + 1) + 1 by omega]
      exact this
    rw [List.length_cons, show i + (xs.length + 1) = i + 1 + xs.length by omega]
    exact this
/-- a loop that is never left -/
theorem Good.loop {α δ ρ : Type} {f : α → δ → WM DW (Out ρ δ δ)} (I : δ → Prop) : ∀ {xs : List α} {d : δ}, I d → (∀ x ∈ xs, ∀ d, I d → Good (f x d) (fun o => ∃ d', o = .nx d' ∧ I d')) → Good (loopL f xs d) (fun r => ∃ d', r = .inl d' ∧ I d')
  | [], d, i, _ => .pure ⟨d, rfl, i⟩
  | x :: xs, d, i, h => .bind (h x (by simp) d i) fun o ⟨d', e, i'⟩ => by
    subst e
    exact Good.loop I i' fun y hy => h y (by simp [hy])
/-! ### the draws -/
noncomputable def nextM (many_ : Int) : WM DW Int :=
  incAt >>= fun _ =>
  (rdAt >>= fun v1 => rdDraws >>= fun v2 => pure (decide ((v2.length : Int) < v1))) >>= fun b => if b = true then ((pure (0 : Int))) else
  (rdDraws >>= fun v3 => rdAt >>= fun v4 => fromO (L2.atI v3 (v4 - (1 : Int))) >>= fun v5 => fromO (modG v5 many_))
theorem Good.nextM {n : Int} (h : 0 < n) : Good (nextM n) (fun v => 0 ≤ v ∧ v < n) := fun s hs => by
  obtain ⟨ds, k⟩ := s
  have hs : 0 ≤ k := hs
  by_cases z : (ds.length : Int) < k + 1
  · refine ⟨0, (ds, k + 1), ?_, by show 0 ≤ k + 1; omega, by omega, h⟩
    show (if decide ((ds.length : Int) < k + 1) = true then _ else _ : WM DW Int).run (ds, k + 1) = _
    rw [if_pos (decide_eq_true z)]
    rfl
  · have l : k < ds.length := by omega
    refine ⟨(ds[k.toNat]'(by omega)) % n, (ds, k + 1), ?_, by show 0 ≤ k + 1; omega, Int.emod_nonneg _ (by omega), Int.emod_lt_of_pos _ h⟩
    show (if decide ((ds.length : Int) < k + 1) = true then _ else _ : WM DW Int).run (ds, k + 1) = _
    rw [if_neg (by simpa using z)]
    have e1 : L2.atI ds (k + 1 - 1) = some (ds[k.toNat]'(by omega)) := by rw [show k + 1 - 1 = k by omega]; exact at_int hs l
    show ((PyM.fromO (L2.atI ds (k + 1 - 1)) : WM DW Int) >>= fun v5 => PyM.fromO (modG v5 n)).run (ds, k + 1) = _
    rw [e1]
    show (PyM.fromO (modG _ n) : WM DW Int).run (ds, k + 1) = _
    rw [mod_pos h]
    rfl
end TT

namespace TT
open PyM (fromO)
open PySem L2
/-! ### what is drawn of a script: a list, whatever the script -/
noncomputable def drawsM (script_ : List Int) (many_ : Int) : Option (List Int) :=
  (pure []) >>= fun draws_ =>
  (pure (7 : Int)) >>= fun mixed_ =>
  (fromO (rangeG 0 (script_.length : Int))) >>= fun xs => foldL (fun k_ d_ => (fromO (L2.atI script_ k_) >>= fun v2 => pure (absI v2)) >>= fun cell_ =>
  (fromO (mulG d_.1 (48271 : Int)) >>= fun v3 => fromO (modG cell_ (1000003 : Int)) >>= fun v4 => fromO (modG ((v3 + v4) + k_) (65537 : Int))) >>= fun mixed_2 =>
  (pure (0 : Int)) >>= fun rest_ =>
  (fromO (powG (10 : Int) (18 : Int)) >>= fun v6 => pure (decide (v6 ≤ cell_))) >>= fun t => (if t = true then ((pure cell_) >>= fun rest_2 =>
  pure (rest_2, d_.2)) else ((fromO (modG cell_ (997 : Int))) >>= fun a => fromO (appG d_.2 a) >>= fun draws_2 =>
  (fromO (mulG mixed_2 (69621 : Int)) >>= fun v8 => fromO (modG (v8 + (5 : Int)) (65521 : Int)) >>= fun v9 => fromO (modG v9 (997 : Int))) >>= fun a => fromO (appG draws_2 a) >>= fun draws_3 =>
  pure (rest_, draws_3))) >>= fun d_3 =>
  (fromO (rangeG 0 (60 : Int))) >>= fun xs => foldL (fun turn_ d_4 => (pure (decide ((0 : Int) < d_4.2))) >>= fun t => (if t = true then ((fromO (modG d_4.2 (997 : Int))) >>= fun a => fromO (appG d_4.1 a) >>= fun draws_4 =>
  (fromO (divG d_4.2 (997 : Int))) >>= fun rest_3 =>
  pure (draws_4, rest_3)) else (pure (d_4.1, d_4.2))) >>= fun d_6 =>
  pure (d_6.1, d_6.2)) xs (d_3.2, d_3.1) >>= fun d_5 =>
  pure (mixed_2, d_5.1)) xs (mixed_, draws_) >>= fun d_2 =>
  (fromO (rangeG 0 many_)) >>= fun xs => foldL (fun k_2 d_7 => (fromO (mulG d_7.1 (16807 : Int)) >>= fun v15 => fromO (modG ((v15 + k_2) + (1 : Int)) (65537 : Int))) >>= fun mixed_3 =>
  (fromO (modG mixed_3 (997 : Int))) >>= fun a => fromO (appG d_7.2 a) >>= fun draws_5 =>
  pure (mixed_3, draws_5)) xs (d_2.1, d_2.2) >>= fun d_8 =>
  (pure (cutA d_8.2 none (some many_)))
theorem pow18 : powG 10 18 = some 1000000000000000000 := by
  unfold powG
  rw [if_pos (by decide)]
  rfl
theorem get_mem {α : Type} {xs : List α} {i : Nat} {x : α} (h : xs[i]? = some x) : x ∈ xs := List.mem_of_getElem? h
/-- the inner walk -/
theorem draws_in {ds : List Int} {rest : Int} (h : ds.length ≤ 16000000) : ∃ r : List Int × Int, foldL (m := Option) (fun (turn_ : Int) (d_4 : List Int × Int) => (if decide ((0 : Int) < d_4.2) = true then ((modG d_4.2 (997 : Int)) >>= fun a => appG d_4.1 a >>= fun draws_4 =>
        (divG d_4.2 (997 : Int)) >>= fun rest_3 =>
        some (draws_4, rest_3)) else (some (d_4.1, d_4.2))) >>= fun d_6 =>
        some (d_6.1, d_6.2)) (rangeL 0 60) (ds, rest) = some r ∧ r.1.length ≤ ds.length + 60 := by
  obtain ⟨r, e, i⟩ := fold_inv (f := fun (turn_ : Int) (d_4 : List Int × Int) => (if decide ((0 : Int) < d_4.2) = true then ((modG d_4.2 (997 : Int)) >>= fun a => appG d_4.1 a >>= fun draws_4 =>
        (divG d_4.2 (997 : Int)) >>= fun rest_3 =>
        some (draws_4, rest_3)) else (some (d_4.1, d_4.2))) >>= fun d_6 =>
        some (d_6.1, d_6.2)) (fun i r => i ≤ 60 ∧ r.1.length ≤ ds.length + i) (xs := rangeL 0 60) (d := (ds, rest)) 0 ⟨by omega, Nat.le_refl _⟩ (by
    intro j x d hj i
    have hj : j < 60 := by
      rcases Nat.lt_or_ge j 60 with z | z
      · exact z
      · rw [List.getElem?_eq_none (by rw [rangeL_len]; exact z)] at hj; cases hj
    by_cases z : 0 < d.2
    · refine ⟨(d.1 ++ [d.2 % 997], d.2 / 997), ?_, by omega, ?_⟩
      · simp only [o_bind, decide_eq_true z, if_true, mod_pos (i := d.2) (show (0 : Int) < 997 by decide), app_some (xs := d.1) (show d.1.length < 16777216 by omega), div_small (i := d.2) (show (0 : Int) < 997 by decide) (by decide)]
      · simp; omega
    · refine ⟨d, ?_, by omega, by omega⟩
      simp only [o_bind, decide_eq_false z, Bool.false_eq_true, if_false])
  rw [rangeL_len] at i
  exact ⟨r, e, by omega⟩
theorem draws_some {script : List Int} {n : Nat} (h : script.length ≤ 1000) (hn : n ≤ 1000) : ∃ ds, drawsM script n = some ds := by
  have r60 : rangeG 0 60 = some (rangeL 0 60) := range_nat (n := 60) (by decide)
  have n997 : (0 : Int) < 997 := by decide
  unfold drawsM
  simp only [o_pure, o_bind, o_fromO, range_nat (show script.length ≤ 16777216 by omega), range_nat (show n ≤ 16777216 by omega)]
  obtain ⟨r, e, i⟩ := fold_inv (f := fun (k_ : Int) (d_ : Int × List Int) => (L2.atI script k_ >>= fun v2 => some (absI v2)) >>= fun cell_ =>
  (mulG d_.1 (48271 : Int) >>= fun v3 => modG cell_ (1000003 : Int) >>= fun v4 => modG ((v3 + v4) + k_) (65537 : Int)) >>= fun mixed_2 =>
  (powG (10 : Int) (18 : Int) >>= fun v6 => some (decide (v6 ≤ cell_))) >>= fun t => (if t = true then some (cell_, d_.2) else (modG cell_ (997 : Int)) >>= fun a => appG d_.2 a >>= fun draws_2 =>
  (mulG mixed_2 (69621 : Int) >>= fun v8 => modG (v8 + (5 : Int)) (65521 : Int) >>= fun v9 => modG v9 (997 : Int)) >>= fun a => appG draws_2 a >>= fun draws_3 =>
  some ((0 : Int), draws_3)) >>= fun d_3 =>
  (rangeG 0 (60 : Int)) >>= fun xs => foldL (fun turn_ d_4 => (if decide ((0 : Int) < d_4.2) = true then ((modG d_4.2 (997 : Int)) >>= fun a => appG d_4.1 a >>= fun draws_4 =>
  (divG d_4.2 (997 : Int)) >>= fun rest_3 =>
  some (draws_4, rest_3)) else (some (d_4.1, d_4.2))) >>= fun d_6 =>
  some (d_6.1, d_6.2)) xs (d_3.2, d_3.1) >>= fun d_5 =>
  some (mixed_2, d_5.1)) (fun i r => i ≤ script.length ∧ 0 ≤ r.1 ∧ r.1 < 65537 ∧ r.2.length ≤ 62 * i) (xs := rangeL 0 script.length) (d := (7, [])) 0 ⟨by omega, by decide, by decide, Nat.le_refl _⟩ (by
    intro j x d hj i
    have hx := get_mem hj
    rw [mem_rangeL] at hx
    have hj : j < script.length := by
      rcases Nat.lt_or_ge j script.length with z | z
      · exact z
      · rw [List.getElem?_eq_none (by rw [rangeL_len]; exact z)] at hj; cases hj
    obtain ⟨i1, i2, i3, i4⟩ := i
    rw [at_int (xs := script) hx.1 (by omega)]
    simp only [o_bind, mul_small (i := d.1) (j := 48271) (by omega) (by decide), mod_pos (show (0 : Int) < 1000003 by decide), mod_pos (show (0 : Int) < 65537 by decide), pow18]
    generalize absI (script[x.toNat]'(by omega)) = cell
    have m1 := Int.emod_nonneg (d.1 * 48271 + cell % 1000003 + x) (show (65537 : Int) ≠ 0 by decide)
    have m2 := Int.emod_lt_of_pos (d.1 * 48271 + cell % 1000003 + x) (show (0 : Int) < 65537 by decide)
    generalize (d.1 * 48271 + cell % 1000003 + x) % 65537 = mixed at m1 m2
    have fin : ∀ (ds : List Int) (rest : Int), ds.length ≤ d.2.length + 2 → ∃ d', (some (rest, ds) >>= fun d_3 =>
        (rangeG 0 (60 : Int)) >>= fun xs => foldL (fun turn_ d_4 => (if decide ((0 : Int) < d_4.2) = true then ((modG d_4.2 (997 : Int)) >>= fun a => appG d_4.1 a >>= fun draws_4 =>
        (divG d_4.2 (997 : Int)) >>= fun rest_3 =>
        some (draws_4, rest_3)) else (some (d_4.1, d_4.2))) >>= fun d_6 =>
        some (d_6.1, d_6.2)) xs (d_3.2, d_3.1) >>= fun d_5 =>
        some (mixed, d_5.1)) = some d' ∧ (0 + j + 1 ≤ script.length ∧ 0 ≤ d'.1 ∧ d'.1 < 65537 ∧ d'.2.length ≤ 62 * (0 + j + 1)) := by
      intro ds rest hl
      obtain ⟨r, e, l⟩ := draws_in (ds := ds) (rest := rest) (by omega)
      refine ⟨(mixed, r.1), ?_, by omega, m1, m2, by show r.1.length ≤ _; omega⟩
      rw [o_bind, o_go r60]
      exact o_go e
    by_cases z : 1000000000000000000 ≤ cell
    · rw [decide_eq_true z, if_pos rfl]
      exact fin d.2 cell (by omega)
    · rw [decide_eq_false z, if_neg Bool.false_ne_true]
      simp only [o_bind, mod_pos (i := cell) n997, app_some (xs := d.2) (show d.2.length < 16777216 by omega), mul_small (i := mixed) (j := 69621) (by omega) (by decide), mod_pos (i := mixed * 69621 + 5) (show (0 : Int) < 65521 by decide), mod_pos (i := (mixed * 69621 + 5) % 65521) n997]
      rw [app_some (by simp; omega)]
      simp only [o_bind] at fin ⊢
      exact fin _ 0 (by simp))
  rw [o_go e]
  rw [rangeL_len] at i
  obtain ⟨r2, e2, i2⟩ := fold_inv (f := fun (k_2 : Int) (d_7 : Int × List Int) => (mulG d_7.1 (16807 : Int) >>= fun v15 => modG ((v15 + k_2) + (1 : Int)) (65537 : Int)) >>= fun mixed_3 =>
  (modG mixed_3 (997 : Int)) >>= fun a => appG d_7.2 a >>= fun draws_5 =>
  some (mixed_3, draws_5)) (fun i q => i ≤ n ∧ 0 ≤ q.1 ∧ q.1 < 65537 ∧ q.2.length ≤ r.2.length + i) (xs := rangeL 0 n) (d := (r.1, r.2)) 0 ⟨by omega, i.2.1, i.2.2.1, Nat.le_refl _⟩ (by
    intro j x d hj i'
    have hj : j < n := by
      rcases Nat.lt_or_ge j n with z | z
      · exact z
      · rw [List.getElem?_eq_none (by rw [rangeL_len]; exact z)] at hj; cases hj
    obtain ⟨i1, i2, i3, i4⟩ := i'
    have il := i.2.2.2
    simp only [o_bind, mul_small (i := d.1) (j := 16807) (by omega) (by decide), mod_pos (show (0 : Int) < 65537 by decide), mod_pos n997, app_some (xs := d.2) (show d.2.length < 16777216 by omega)]
    exact ⟨_, rfl, by omega, Int.emod_nonneg _ (by decide), Int.emod_lt_of_pos _ (by decide), by simp; omega⟩)
  rw [o_go e2]
  exact ⟨_, rfl⟩
/-- the law: what is drawn, then the rest -/
theorem law_of {f : List Int → Int → Option (List Int)} (hf : f = drawsM) {n : Nat} {b : WM DW Bool} {script : List Int} (h : script.length ≤ 63) (hn : n ≤ 1000) (g : Good b (· = true)) : (f script n >>= fun ds => (b.run (ds, 0)).map (·.1)) = some true := by
  subst hf
  obtain ⟨ds, e⟩ := draws_some (script := script) (n := n) (by omega) hn
  rw [o_go e]
  obtain ⟨a, s', e2, _, p⟩ := g (ds, 0) (Int.le_refl 0)
  rw [e2, p]
  rfl
end TT

namespace TT
open PyM (fromO)
open PySem L2
/-! ### over a range, by the natural numbers -/
theorem rangeL0 (n : Nat) : rangeL 0 n = (List.range n).map fun (i : Nat) => (i : Int) := by
  rw [rangeL_map]
  apply List.map_congr_left
  intro i _
  omega
theorem comp_map {α β γ : Type} {m : Type → Type} [Monad m] {g : β → m Bool} {f : β → m γ} (h : α → β) : ∀ xs : List α, compL g f (xs.map h) = compL (fun x => g (h x)) (fun x => f (h x)) xs
  | [] => rfl
  | x :: xs => by
    show (g (h x) >>= fun c => if c = true then f (h x) >>= fun y => compL g f (xs.map h) >>= fun ys => pure (y :: ys) else compL g f (xs.map h)) = _
    rw [comp_map h xs]
    rfl
theorem comp_range {β : Type} {n : Nat} {f : Int → Option β} {q : Nat → β} (h : ∀ k, k < n → f (k : Int) = some (q k)) : compL (fun _ => pure true) f (rangeL 0 n) = some ((List.range n).map q) := by
  rw [rangeL0, comp_map]
  exact comp_all fun k hk => h k (List.mem_range.mp hk)
theorem comp_rangeF {β : Type} {n : Nat} {g : Int → Option Bool} {f : Int → Option β} {p : Nat → Bool} {q : Nat → β} (h : ∀ k, k < n → g (k : Int) = some (p k)) (h' : ∀ k, k < n → p k = true → f (k : Int) = some (q k)) : compL g f (rangeL 0 n) = some (((List.range n).filter p).map q) := by
  rw [rangeL0, comp_map]
  exact comp_some (fun k hk => h k (List.mem_range.mp hk)) fun k hk => h' k (List.mem_range.mp hk)
theorem comp_rangeS {β : Type} {n : Nat} {f : Int → Option β} {q : Nat → β} (h : ∀ k, k < n → f (k : Int) = some (q k)) : compL (fun _ => some true) f (rangeL 0 n) = some ((List.range n).map q) := comp_range h
theorem comp_allS {α β : Type} {f : α → Option β} {q : α → β} {xs : List α} (h : ∀ x ∈ xs, f x = some (q x)) : compL (fun _ => some true) f xs = some (xs.map q) := comp_all h
/-- a fold over a range, by the state at each place -/
theorem fold_range {δ : Type} {n : Nat} {f : Int → δ → Option δ} (s : Nat → δ) (h : ∀ k, k < n → f (k : Int) (s k) = some (s (k + 1))) : foldL f (rangeL 0 n) (s 0) = some (s n) := by
  obtain ⟨r, e, i⟩ := fold_inv (f := f) (fun i d => d = s i) (xs := rangeL 0 n) (d := s 0) 0 rfl (by
    intro j x d hj hd
    have hj' : j < n := by
      rcases Nat.lt_or_ge j n with z | z
      · exact z
      · rw [List.getElem?_eq_none (by rw [rangeL_len]; exact z)] at hj; cases hj
    rw [rangeL_get n 0 j hj'] at hj
    have e : x = (j : Int) := by
      have := Option.some.inj hj
      omega
    subst e
    rw [Nat.zero_add] at hd ⊢
    subst hd
    exact ⟨_, h j hj', rfl⟩)
  rw [rangeL_len, Nat.zero_add] at i
  rw [e, i]
theorem at_getD {xs : List Int} {k : Nat} (h : k < xs.length) : L2.atI xs (k : Int) = some (xs.getD k 0) := by
  rw [at_nat (List.getElem?_eq_getElem h)]
  simp [List.getD, h]
theorem at_of {α : Type} {xs : List α} {k : Int} (i : Nat) {x : α} (e : k = (i : Int)) (h : xs[i]? = some x) : L2.atI xs k = some x := by
  subst e
  exact at_nat h
theorem at_head {α : Type} (x : α) (xs : List α) : L2.atI (x :: xs) 0 = some x := at_of 0 rfl rfl
/-- from the end -/
theorem at_neg {α : Type} {xs : List α} {k : Int} (j : Nat) {x : α} (e : k = -((j : Int) + 1)) (h : j < xs.length) (hx : xs[xs.length - 1 - j]? = some x) : L2.atI xs k = some x := by
  subst e
  unfold L2.atI L2.ixN
  rw [if_neg (by omega), if_pos (by omega)]
  show xs[(-((j : Int) + 1) + (xs.length : Int)).toNat]? = some x
  rw [show (-((j : Int) + 1) + (xs.length : Int)).toNat = xs.length - 1 - j by omega]
  exact hx
theorem sIx_nat (n i : Nat) (d : Nat) : HT.sIx n d (some (i : Int)) = min i n := HT.sIx_nat n d i
theorem cut_nat {α : Type} (xs : List α) (i j : Nat) : cutA xs (some (i : Int)) (some (j : Int)) = (xs.drop (min i xs.length)).take (min j xs.length - min i xs.length) := by
  unfold cutA
  rw [sIx_nat, sIx_nat]
theorem cut_from {α : Type} (xs : List α) (i : Nat) : cutA xs (some (i : Int)) none = xs.drop i := by
  unfold cutA
  rw [sIx_nat, HT.sIx_none]
  rcases Nat.le_total i xs.length with h | h
  · rw [Nat.min_eq_left h, List.take_of_length_le (by rw [List.length_drop]; exact Nat.le_refl _)]
  · rw [Nat.min_eq_right h, List.drop_eq_nil_of_le (Nat.le_refl _), List.drop_eq_nil_of_le h, List.take_nil]
theorem cut_to {α : Type} (xs : List α) (j : Nat) : cutA xs none (some (j : Int)) = xs.take j := by
  unfold cutA
  rw [sIx_nat, HT.sIx_none]
  simp
theorem ext_getD {xs ys : List Int} (h : xs.length = ys.length) (e : ∀ k, k < xs.length → xs.getD k 0 = ys.getD k 0) : xs = ys := by
  apply List.ext_getElem h
  intro i h1 h2
  have := e i h1
  simpa [List.getD, h1, h2] using this
theorem getD_map_range {n k : Nat} (f : Nat → Int) (h : k < n) : ((List.range n).map f).getD k 0 = f k := by
  simp [List.getD, h]
end TT

namespace TT
open PyM (fromO)
open PySem L2
/-! ### what draws nothing, as one thing -/
theorem w_bind {α β : Type} (x : Option α) (f : α → Option β) : ((fromO x : WM DW α) >>= fun a => (fromO (f a) : WM DW β)) = fromO (x >>= f) := by
  cases x with
  | none => funext s; rfl
  | some a => funext s; rfl
theorem w_pure {α : Type} (a : α) : (pure a : WM DW α) = fromO (some a) := congrArg id (rfl : (fromO (some a) : WM DW α) = fromO (some a))
theorem w_ite {α : Type} {c : Prop} [Decidable c] (x y : Option α) : (if c then (fromO x : WM DW α) else fromO y) = fromO (if c then x else y) := by split <;> rfl
theorem w_comp {α β : Type} (g : α → Option Bool) (f : α → Option β) : ∀ xs : List α, compL (m := WM DW) (fun x => fromO (g x)) (fun x => fromO (f x)) xs = fromO (compL g f xs)
  | [] => by show (pure [] : WM DW (List β)) = _; rw [w_pure]; rfl
  | x :: xs => by
    show ((fromO (g x) : WM DW Bool) >>= fun c => if c = true then (fromO (f x) : WM DW β) >>= fun y => compL (fun x => fromO (g x)) (fun x => fromO (f x)) xs >>= fun ys => pure (y :: ys) else compL (fun x => fromO (g x)) (fun x => fromO (f x)) xs) = _
    rw [w_comp g f xs]
    simp only [w_pure, w_bind, w_ite]
    rfl
theorem w_fold {α δ : Type} (f : α → δ → Option δ) : ∀ (xs : List α) (d : δ), foldL (m := WM DW) (fun x d => fromO (f x d)) xs d = fromO (foldL f xs d)
  | [], d => by show (pure d : WM DW δ) = _; rw [w_pure]; rfl
  | x :: xs, d => by
    show ((fromO (f x d) : WM DW δ) >>= fun d' => foldL (fun x d => fromO (f x d)) xs d') = _
    have : (fun d' => foldL (m := WM DW) (fun x d => fromO (f x d)) xs d') = fun d' => fromO (foldL f xs d') := funext fun d' => w_fold f xs d'
    rw [this, w_bind]
    rfl
theorem Good.compS {α β : Type} {f : α → WM DW β} {Q : β → Prop} {xs : List α} (h : ∀ x ∈ xs, Good (f x) Q) : Good (compL (fun _ => PyM.fromO (some true)) f xs) (fun ys => ys.length = xs.length ∧ ∀ y ∈ ys, Q y) := Good.comp' h
/-- a test that does not hold -/
theorem Good.no {β : Type} {o : Option Bool} {x y : WM DW β} {Q : β → Prop} (h : o = some false) (h' : Good y Q) : Good (PyM.fromO o >>= fun b => if b = true then x else y) Q := Good.go h (Good.ite (fun e => by cases e) fun _ => h')
theorem o_no {β : Type} {o : Option Bool} {x y : Option β} (h : o = some false) : (o >>= fun b => if b = true then x else y) = y := by rw [h]; rfl
end TT

namespace K31
open PySem PySem.Spec PyProof.Rows L2 TT
open TT.PyM (fromO)
def topS (i : Nat) : Stmt := PySem.Challenge.pw_tidestold_k31_whole_ripples.main.body.getD i (.Pass ⟨0, 0, 0, 0⟩)
abbrev N0 : List Str := ["now", "ago", "edge", "k"]
abbrev p0 : List Str := ["now", "ago"]
theorem sc0 : FnScope N0 p0 (defScope (topS 1)) := ⟨rfl, rfl, rfl, by decide +kernel, rfl, by decide +kernel, by decide +kernel⟩
abbrev N1 : List Str := ["one", "other", "a", "b"]
abbrev p1 : List Str := ["one", "other"]
theorem sc1 : FnScope N1 p1 (defScope (topS 5)) := ⟨rfl, rfl, rfl, by decide +kernel, rfl, by decide +kernel, by decide +kernel⟩
abbrev N2 : List Str := ["now", "ago", "squares", "sides", "k", "a", "b"]
abbrev p2 : List Str := ["now", "ago"]
theorem sc2 : FnScope N2 p2 (defScope (topS 6)) := ⟨rfl, rfl, rfl, by decide +kernel, rfl, by decide +kernel, by decide +kernel⟩
abbrev N3 : List Str := ["long", "place", "k"]
abbrev p3 : List Str := ["long", "place"]
theorem sc3 : FnScope N3 p3 (defScope (topS 7)) := ⟨rfl, rfl, rfl, by decide +kernel, rfl, by decide +kernel, by decide +kernel⟩
abbrev N4 : List Str := ["row"]
abbrev p4 : List Str := ["row"]
theorem sc4 : FnScope N4 p4 (defScope (topS 10)) := ⟨rfl, rfl, rfl, by decide +kernel, rfl, by decide +kernel, by decide +kernel⟩
abbrev N5 : List Str := ["script", "many", "draws", "mixed", "k", "cell", "rest", "turn"]
abbrev p5 : List Str := ["script", "many"]
theorem sc5 : FnScope N5 p5 (defScope (topS 12)) := ⟨rfl, rfl, rfl, by decide +kernel, rfl, by decide +kernel, by decide +kernel⟩
abbrev N6 : List Str := ["w", "many"]
abbrev p6 : List Str := ["w", "many"]
theorem sc6 : FnScope N6 p6 (defScope (topS 13)) := ⟨rfl, rfl, rfl, by decide +kernel, rfl, by decide +kernel, by decide +kernel⟩
abbrev N7 : List Str := ["now", "ago", "found", "k", "near", "n"]
abbrev p7 : List Str := ["now", "ago"]
theorem sc7 : FnScope N7 p7 (defScope (topS 14)) := ⟨rfl, rfl, rfl, by decide +kernel, rfl, by decide +kernel, by decide +kernel⟩
abbrev N8 : List Str := ["now", "later"]
abbrev p8 : List Str := ["now", "later"]
theorem sc8 : FnScope N8 p8 (defScope (topS 2)) := ⟨rfl, rfl, rfl, by decide +kernel, rfl, by decide +kernel, by decide +kernel⟩
abbrev N9 : List Str := ["now", "ago", "hours", "found", "_"]
abbrev p9 : List Str := ["now", "ago", "hours"]
theorem sc9 : FnScope N9 p9 (defScope (topS 3)) := ⟨rfl, rfl, rfl, by decide +kernel, rfl, by decide +kernel, by decide +kernel⟩
abbrev N10 : List Str := ["now", "ago", "first", "hours"]
abbrev p10 : List Str := ["now", "ago"]
theorem sc10 : FnScope N10 p10 (defScope (topS 4)) := ⟨rfl, rfl, rfl, by decide +kernel, rfl, by decide +kernel, by decide +kernel⟩
abbrev N11 : List Str := ["now", "ago", "hours", "found", "hour"]
abbrev p11 : List Str := ["now", "ago", "hours"]
theorem sc11 : FnScope N11 p11 (defScope (topS 15)) := ⟨rfl, rfl, rfl, by decide +kernel, rfl, by decide +kernel, by decide +kernel⟩
abbrev N12 : List Str := ["now", "ago", "place", "hours", "row"]
abbrev p12 : List Str := ["now", "ago", "place", "hours"]
theorem sc12 : FnScope N12 p12 (defScope (topS 8)) := ⟨rfl, rfl, rfl, by decide +kernel, rfl, by decide +kernel, by decide +kernel⟩
abbrev N13 : List Str := ["long", "place", "goal", "now", "ago", "told", "able", "hour"]
abbrev p13 : List Str := ["long", "place", "goal"]
theorem sc13 : FnScope N13 p13 (defScope (topS 9)) := ⟨rfl, rfl, rfl, by decide +kernel, rfl, by decide +kernel, by decide +kernel⟩
abbrev N14 : List Str := ["script", "w", "turn", "long", "now", "ago", "rows", "hours", "again", "whole", "sides", "due", "place", "goal", "other", "first", "both", "drop", "told", "wet", "n", "k", "row", "a", "b"]
abbrev p14 : List Str := ["script"]
theorem sc14 : FnScope N14 p14 (defScope (topS 16)) := ⟨rfl, rfl, rfl, by decide +kernel, rfl, by decide +kernel, by decide +kernel⟩
structure Tp (K : PySem.W.Frag) (mg : Str → Option Value) where
  f0 : Addr
  d0 : FuncData
  F0 : Fun K "next_row" "next_row" (topS 1) f0 d0
  g0 : mg "next_row" = some (.ref f0)
  b0 : Binds K d0 p0 []
  f1 : Addr
  d1 : FuncData
  F1 : Fun K "added_rows" "added_rows" (topS 5) f1 d1
  g1 : mg "added_rows" = some (.ref f1)
  b1 : Binds K d1 p1 []
  f2 : Addr
  d2 : FuncData
  F2 : Fun K "energy" "energy" (topS 6) f2 d2
  g2 : mg "energy" = some (.ref f2)
  b2 : Binds K d2 p2 []
  f3 : Addr
  d3 : FuncData
  F3 : Fun K "dropped_in" "dropped_in" (topS 7) f3 d3
  g3 : mg "dropped_in" = some (.ref f3)
  b3 : Binds K d3 p3 []
  f4 : Addr
  d4 : FuncData
  F4 : Fun K "turned_row" "turned_row" (topS 10) f4 d4
  g4 : mg "turned_row" = some (.ref f4)
  b4 : Binds K d4 p4 []
  f5 : Addr
  d5 : FuncData
  F5 : Fun K "_law_draws" "_law_draws" (topS 12) f5 d5
  g5 : mg "_law_draws" = some (.ref f5)
  b5 : Binds K d5 p5 []
  f6 : Addr
  d6 : FuncData
  F6 : Fun K "_law_next" "_law_next" (topS 13) f6 d6
  g6 : mg "_law_next" = some (.ref f6)
  b6 : Binds K d6 p6 []
  f7 : Addr
  d7 : FuncData
  F7 : Fun K "_law_next_row" "_law_next_row" (topS 14) f7 d7
  g7 : mg "_law_next_row" = some (.ref f7)
  b7 : Binds K d7 p7 []
  f8 : Addr
  d8 : FuncData
  F8 : Fun K "gone_back" "gone_back" (topS 2) f8 d8
  g8 : mg "gone_back" = some (.ref f8)
  b8 : Binds K d8 p8 []
  f9 : Addr
  d9 : FuncData
  F9 : Fun K "rippled" "rippled" (topS 3) f9 d9
  g9 : mg "rippled" = some (.ref f9)
  b9 : Binds K d9 p9 []
  f10 : Addr
  d10 : FuncData
  F10 : Fun K "round_hours" "round_hours" (topS 4) f10 d10
  g10 : mg "round_hours" = some (.ref f10)
  b10 : Binds K d10 p10 []
  f11 : Addr
  d11 : FuncData
  F11 : Fun K "_law_rows" "_law_rows" (topS 15) f11 d11
  g11 : mg "_law_rows" = some (.ref f11)
  b11 : Binds K d11 p11 []
  f12 : Addr
  d12 : FuncData
  F12 : Fun K "seen_at" "seen_at" (topS 8) f12 d12
  g12 : mg "seen_at" = some (.ref f12)
  b12 : Binds K d12 p12 []
  f13 : Addr
  d13 : FuncData
  F13 : Fun K "first_wet" "first_wet" (topS 9) f13 d13
  g13 : mg "first_wet" = some (.ref f13)
  b13 : Binds K d13 p13 []
  f14 : Addr
  d14 : FuncData
  F14 : Fun K "law" "law" (topS 16) f14 d14
  g14 : mg "law" = some (.ref f14)
  b14 : Binds K d14 p14 []
  z_abs : mg "abs" = none
  z_int : mg "int" = none
  z_len : mg "len" = none
  z_range : mg "range" = none
  z_sum : mg "sum" = none
  z_tuple : mg "tuple" = none
  z_zip : mg "zip" = none
/-! ### the mirror -/
noncomputable def m_next_row (now_ : (List Int)) (ago_ : (List Int)) : Option (List Int) :=
  (fromO (catG [(0 : Int)] now_) >>= fun v1 => fromO (catG v1 [(0 : Int)])) >>= fun edge_ =>
  (fromO (rangeG 0 (now_.length : Int)) >>= fun v3 => compL (fun k_ => pure true) (fun k_ => (fromO (L2.atI edge_ k_) >>= fun v4 => fromO (L2.atI edge_ (k_ + (2 : Int))) >>= fun v5 => fromO (L2.atI ago_ k_) >>= fun v6 => pure ((v4 + v5) - v6))) v3)
noncomputable def m_added_rows (one_ : (List Int)) (other_ : (List Int)) : Option (List Int) :=
  (compL (fun p_ => pure true) (fun p_ => (pure (p_.1 + p_.2))) (List.zip one_ other_))
noncomputable def m_energy (now_ : (List Int)) (ago_ : (List Int)) : Option Int :=
  (compL (fun a_ => pure true) (fun a_ => (fromO (mulG a_ a_))) now_ >>= fun v2 => compL (fun b_ => pure true) (fun b_ => (fromO (mulG b_ b_))) ago_ >>= fun v4 => pure ((List.sum v2) + (List.sum v4))) >>= fun squares_ =>
  (fromO (rangeG 0 ((now_.length : Int) - (1 : Int))) >>= fun v5 => compL (fun k_ => pure true) (fun k_ => (fromO (L2.atI now_ k_) >>= fun v6 => fromO (L2.atI ago_ (k_ + (1 : Int))) >>= fun v7 => fromO (mulG v6 v7) >>= fun v8 => fromO (L2.atI now_ (k_ + (1 : Int))) >>= fun v9 => fromO (L2.atI ago_ k_) >>= fun v10 => fromO (mulG v9 v10) >>= fun v11 => pure (v8 + v11))) v5 >>= fun v12 => pure (List.sum v12)) >>= fun sides_ =>
  (pure (squares_ - sides_))
noncomputable def m_dropped_in (long_ : Int) (place_ : Int) : Option ((List Int) × (List Int)) :=
  (fromO (rangeG 0 long_) >>= fun v1 => compL (fun k_ => pure true) (fun k_ => (pure (intB (decide (k_ = place_))))) v1 >>= fun v2 => fromO (repT [(0 : Int)] long_) >>= fun v3 => pure (v2, v3))
noncomputable def m_turned_row (row_ : (List Int)) : Option (List Int) :=
  (pure (List.reverse row_))
noncomputable def m__law_draws (script_ : List Int) (many_ : Int) : Option (List Int) :=
  (pure []) >>= fun draws_ =>
  (pure (7 : Int)) >>= fun mixed_ =>
  (fromO (rangeG 0 (script_.length : Int))) >>= fun xs => foldL (fun k_ d_ => (fromO (L2.atI script_ k_) >>= fun v2 => pure (absI v2)) >>= fun cell_ =>
  (fromO (mulG d_.1 (48271 : Int)) >>= fun v3 => fromO (modG cell_ (1000003 : Int)) >>= fun v4 => fromO (modG ((v3 + v4) + k_) (65537 : Int))) >>= fun mixed_2 =>
  (pure (0 : Int)) >>= fun rest_ =>
  (fromO (powG (10 : Int) (18 : Int)) >>= fun v6 => pure (decide (v6 ≤ cell_))) >>= fun t => (if t = true then ((pure cell_) >>= fun rest_2 =>
  pure (rest_2, d_.2)) else ((fromO (modG cell_ (997 : Int))) >>= fun a => fromO (appG d_.2 a) >>= fun draws_2 =>
  (fromO (mulG mixed_2 (69621 : Int)) >>= fun v8 => fromO (modG (v8 + (5 : Int)) (65521 : Int)) >>= fun v9 => fromO (modG v9 (997 : Int))) >>= fun a => fromO (appG draws_2 a) >>= fun draws_3 =>
  pure (rest_, draws_3))) >>= fun d_3 =>
  (fromO (rangeG 0 (60 : Int))) >>= fun xs => foldL (fun turn_ d_4 => (pure (decide ((0 : Int) < d_4.2))) >>= fun t => (if t = true then ((fromO (modG d_4.2 (997 : Int))) >>= fun a => fromO (appG d_4.1 a) >>= fun draws_4 =>
  (fromO (divG d_4.2 (997 : Int))) >>= fun rest_3 =>
  pure (draws_4, rest_3)) else (pure (d_4.1, d_4.2))) >>= fun d_6 =>
  pure (d_6.1, d_6.2)) xs (d_3.2, d_3.1) >>= fun d_5 =>
  pure (mixed_2, d_5.1)) xs (mixed_, draws_) >>= fun d_2 =>
  (fromO (rangeG 0 many_)) >>= fun xs => foldL (fun k_2 d_7 => (fromO (mulG d_7.1 (16807 : Int)) >>= fun v15 => fromO (modG ((v15 + k_2) + (1 : Int)) (65537 : Int))) >>= fun mixed_3 =>
  (fromO (modG mixed_3 (997 : Int))) >>= fun a => fromO (appG d_7.2 a) >>= fun draws_5 =>
  pure (mixed_3, draws_5)) xs (d_2.1, d_2.2) >>= fun d_8 =>
  (pure (cutA d_8.2 none (some many_)))
noncomputable def m__law_next (many_ : Int) : WM DW Int :=
  incAt >>= fun _ =>
  (rdAt >>= fun v1 => rdDraws >>= fun v2 => pure (decide ((v2.length : Int) < v1))) >>= fun b => if b = true then ((pure (0 : Int))) else
  (rdDraws >>= fun v3 => rdAt >>= fun v4 => fromO (L2.atI v3 (v4 - (1 : Int))) >>= fun v5 => fromO (modG v5 many_))
noncomputable def m__law_next_row (now_ : (List Int)) (ago_ : (List Int)) : Option (List Int) :=
  (pure []) >>= fun found_ =>
  (fromO (rangeG 0 (now_.length : Int))) >>= fun xs => foldL (fun k_ d_ => (compL (fun n_ => (pure ((decide ((0 : Int) ≤ n_)) && (decide (n_ < (now_.length : Int)))))) (fun n_ => (fromO (L2.atI now_ n_))) [(k_ - (1 : Int)), (k_ + (1 : Int))]) >>= fun near_ =>
  (fromO (L2.atI ago_ k_) >>= fun v3 => pure ((List.sum near_) - v3)) >>= fun a => fromO (appG d_ a) >>= fun found_2 =>
  pure found_2) xs found_ >>= fun d_2 =>
  (pure d_2)
noncomputable def m_gone_back (now_ : (List Int)) (later_ : (List Int)) : Option (List Int) :=
  (fromO (m_next_row now_ later_))
noncomputable def m_rippled (now_ : (List Int)) (ago_ : (List Int)) (hours_ : Int) : Option (List (List Int)) :=
  (pure [now_]) >>= fun found_ =>
  (fromO (rangeG 0 hours_)) >>= fun xs => foldL (fun __ d_ => (fromO (m_next_row d_.1 d_.2.1) >>= fun v2 => pure (v2, d_.1)) >>= fun p_ =>
  (pure p_.1) >>= fun a => fromO (appG d_.2.2 a) >>= fun found_2 =>
  pure (p_.1, p_.2, found_2)) xs (now_, ago_, found_) >>= fun d_2 =>
  (pure d_2.2.2)
noncomputable def m_round_hours (now_ : (List Int)) (ago_ : (List Int)) : Option Int :=
  (pure ((now_, ago_), (0 : Int))) >>= fun p_ =>
  whileM (fun d_ => (pure ((decide (d_.2.2 = (0 : Int))) || (!decide ((d_.1, d_.2.1) = p_.1))))) (fun d_ => (fromO (m_next_row d_.1 d_.2.1) >>= fun v1 => pure (v1, d_.1, (d_.2.2 + (1 : Int)))) >>= fun p_2 =>
  pure (p_2.1, p_2.2.1, p_2.2.2)) (now_, ago_, p_.2) >>= fun d_2 =>
  (pure d_2.2.2)
noncomputable def m__law_rows (now_ : (List Int)) (ago_ : (List Int)) (hours_ : Int) : Option (List (List Int)) :=
  (pure [ago_, now_]) >>= fun found_ =>
  (fromO (rangeG 0 hours_)) >>= fun xs => foldL (fun hour_ d_ => (fromO (L2.atI d_ (-(1 : Int))) >>= fun v3 => fromO (L2.atI d_ (-(2 : Int))) >>= fun v4 => fromO (m__law_next_row v3 v4)) >>= fun a => fromO (appG d_ a) >>= fun found_2 =>
  pure found_2) xs found_ >>= fun d_2 =>
  (pure d_2)
noncomputable def m_seen_at (now_ : (List Int)) (ago_ : (List Int)) (place_ : Int) (hours_ : Int) : Option (List Int) :=
  (fromO (m_rippled now_ ago_ hours_) >>= fun v1 => compL (fun row_ => pure true) (fun row_ => (fromO (L2.atI row_ place_))) v1)
noncomputable def m_first_wet (long_ : Int) (place_ : Int) (goal_ : Int) : Option (Option Int) :=
  (fromO (m_dropped_in long_ place_)) >>= fun p_ =>
  (fromO (mulG (4 : Int) long_) >>= fun v3 => fromO (m_seen_at p_.1 p_.2 goal_ v3)) >>= fun told_ =>
  (fromO (rangeG 0 (told_.length : Int)) >>= fun v4 => compL (fun hour_ => (fromO (L2.atI told_ hour_) >>= fun v5 => pure (!decide (v5 = (0 : Int))))) (fun hour_ => (pure hour_)) v4) >>= fun able_ =>
  ((if (!decide (able_ = [])) = true then (fromO (L2.atI able_ (0 : Int)) >>= fun v6 => pure (some v6)) else (pure none)))
noncomputable def m_lawb (script_ : List Int) : WM DW Bool :=
  (fromO (rangeG 0 (6 : Int))) >>= fun xs => loopL (fun turn_ d_ => (m__law_next (5 : Int) >>= fun v2 => pure ((2 : Int) + v2)) >>= fun long_ =>
  (fromO (rangeG 0 long_) >>= fun v3 => compL (fun k_ => pure true) (fun k_ => (m__law_next (7 : Int) >>= fun v4 => pure (v4 - (3 : Int)))) v3 >>= fun v5 => fromO (rangeG 0 long_) >>= fun v6 => compL (fun k_2 => pure true) (fun k_2 => (m__law_next (7 : Int) >>= fun v7 => pure (v7 - (3 : Int)))) v6 >>= fun v8 => pure (v5, v8)) >>= fun p_ =>
  (fromO (m__law_rows p_.1 p_.2 (40 : Int)) >>= fun v9 => m__law_next (9 : Int) >>= fun v10 => pure (v9, v10)) >>= fun p_2 =>
  (fromO (m_next_row p_.1 p_.2) >>= fun v11 => fromO (L2.atI p_2.1 (2 : Int)) >>= fun v12 => (if (!decide (v11 = v12)) = true then pure true else (fromO (m_rippled p_.1 p_.2 p_2.2) >>= fun v13 => (if (!decide (v13 = (cutA p_2.1 (some (1 : Int)) (some (p_2.2 + (2 : Int)))))) = true then pure true else (fromO (L2.atI p_2.1 (2 : Int)) >>= fun v15 => fromO (m_gone_back p_.1 v15) >>= fun v14 => pure (!decide (v14 = p_.2))))))) >>= fun b => if b = true then ((pure false) >>= fun r => pure (.rt r)) else
  (fromO (mulG (2 : Int) long_) >>= fun v18 => fromO (rangeG (1 : Int) (v18 + (3 : Int))) >>= fun v19 => compL (fun n_ => (fromO (L2.atI p_2.1 n_) >>= fun v20 => (if (decide (v20 = p_.2)) = true then (fromO (L2.atI p_2.1 (n_ + (1 : Int))) >>= fun v21 => pure (decide (v21 = p_.1))) else pure false))) (fun n_ => (pure n_)) v19) >>= fun again_ =>
  ((if (decide (again_ = [])) = true then pure true else (fromO (m_round_hours p_.1 p_.2) >>= fun v23 => fromO (L2.atI again_ (0 : Int)) >>= fun v24 => pure (!decide (v23 = v24))))) >>= fun b => if b = true then ((pure false) >>= fun r => pure (.rt r)) else
  (fromO (m_energy p_.1 p_.2)) >>= fun whole_ =>
  (fromO (rangeG 0 long_) >>= fun v27 => compL (fun k_3 => pure true) (fun k_3 => ((if (decide ((0 : Int) < k_3)) = true then (fromO (L2.atI p_.2 (k_3 - (1 : Int)))) else (pure (0 : Int))) >>= fun v29 => (if (decide ((k_3 + (1 : Int)) < long_)) = true then (fromO (L2.atI p_.2 (k_3 + (1 : Int)))) else (pure (0 : Int))) >>= fun v31 => pure (v29 + v31))) v27) >>= fun sides_ =>
  (compL (fun a_ => pure true) (fun a_ => (fromO (mulG a_ a_))) p_.1 >>= fun v34 => compL (fun b_ => pure true) (fun b_ => (fromO (mulG b_ b_))) p_.2 >>= fun v36 => fromO (rangeG 0 long_) >>= fun v37 => compL (fun k_4 => pure true) (fun k_4 => (fromO (L2.atI p_.1 k_4) >>= fun v38 => fromO (L2.atI sides_ k_4) >>= fun v39 => fromO (mulG v38 v39))) v37 >>= fun v41 => pure (((List.sum v34) + (List.sum v36)) - (List.sum v41))) >>= fun due_ =>
  ((if (!decide (whole_ = due_)) = true then pure true else (fromO (rangeG (1 : Int) (30 : Int)) >>= fun v42 => compL (fun k_5 => (fromO (L2.atI p_2.1 (k_5 + (1 : Int))) >>= fun v44 => fromO (L2.atI p_2.1 k_5) >>= fun v45 => fromO (m_energy v44 v45) >>= fun v43 => pure (!decide (v43 = whole_)))) (fun k_5 => (pure k_5)) v42 >>= fun v46 => pure (!decide (v46 = []))))) >>= fun b => if b = true then ((pure false) >>= fun r => pure (.rt r)) else
  (m__law_next long_ >>= fun v48 => m__law_next long_ >>= fun v49 => pure (v48, v49)) >>= fun p_3 =>
  (fromO (m_seen_at p_.1 p_.2 p_3.1 p_2.2) >>= fun v50 => compL (fun row_ => pure true) (fun row_ => (fromO (L2.atI row_ p_3.1))) (cutA p_2.1 (some (1 : Int)) (some (p_2.2 + (2 : Int)))) >>= fun v52 => pure (!decide (v50 = v52))) >>= fun b => if b = true then ((pure false) >>= fun r => pure (.rt r)) else
  (fromO (rangeG 0 long_) >>= fun v53 => compL (fun k_6 => pure true) (fun k_6 => (m__law_next (5 : Int) >>= fun v54 => pure (v54 - (2 : Int)))) v53 >>= fun v55 => fromO (rangeG 0 long_) >>= fun v56 => compL (fun k_7 => pure true) (fun k_7 => (m__law_next (5 : Int) >>= fun v57 => pure (v57 - (2 : Int)))) v56 >>= fun v58 => pure (v55, v58)) >>= fun p_4 =>
  (fromO (m_added_rows p_.1 p_4.1)) >>= fun both_ =>
  (fromO (rangeG 0 long_) >>= fun v60 => compL (fun k_8 => pure true) (fun k_8 => (fromO (L2.atI p_.1 k_8) >>= fun v61 => fromO (L2.atI p_4.1 k_8) >>= fun v62 => pure (v61 + v62))) v60 >>= fun v63 => pure (!decide (both_ = v63))) >>= fun b => if b = true then ((pure false) >>= fun r => pure (.rt r)) else
  (fromO (m_added_rows p_.2 p_4.2) >>= fun v65 => fromO (m_next_row both_ v65) >>= fun v64 => fromO (m_next_row p_.1 p_.2) >>= fun v67 => fromO (m_next_row p_4.1 p_4.2) >>= fun v68 => fromO (m_added_rows v67 v68) >>= fun v66 => pure (!decide (v64 = v66))) >>= fun b => if b = true then ((pure false) >>= fun r => pure (.rt r)) else
  (fromO (rangeG 0 long_) >>= fun v69 => compL (fun k_9 => pure true) (fun k_9 => (pure (if (decide (k_9 = p_3.1)) = true then (1 : Int) else (0 : Int)))) v69) >>= fun drop_ =>
  (fromO (m_dropped_in long_ p_3.1) >>= fun v71 => fromO (repT [(0 : Int)] long_) >>= fun v72 => pure (!decide (v71 = (drop_, v72)))) >>= fun b => if b = true then ((pure false) >>= fun r => pure (.rt r)) else
  (fromO (repT [(0 : Int)] long_) >>= fun v74 => fromO (mulG (4 : Int) long_) >>= fun v75 => fromO (m__law_rows drop_ v74 v75) >>= fun v73 => pure (cutA v73 (some (1 : Int)) none)) >>= fun told_ =>
  (fromO (rangeG 0 (told_.length : Int)) >>= fun v76 => compL (fun k_10 => (fromO (L2.atI told_ k_10) >>= fun v77 => fromO (L2.atI v77 p_3.2) >>= fun v78 => pure (!decide (v78 = (0 : Int))))) (fun k_10 => (pure k_10)) v76) >>= fun wet_ =>
  (fromO (m_first_wet long_ p_3.1 p_3.2) >>= fun v79 => (if (!decide (wet_ = [])) = true then (fromO (L2.atI wet_ (0 : Int)) >>= fun v80 => pure (some v80)) else (pure none)) >>= fun v81 => (if (!decide (v79 = v81)) = true then pure true else (fromO (m_turned_row p_.1) >>= fun v82 => pure (!decide (v82 = (List.reverse p_.1)))))) >>= fun b => if b = true then ((pure false) >>= fun r => pure (.rt r)) else
  (fromO (m_turned_row p_.1) >>= fun v85 => fromO (m_turned_row p_.2) >>= fun v86 => fromO (m_next_row v85 v86) >>= fun v84 => fromO (L2.atI p_2.1 (2 : Int)) >>= fun v87 => pure (!decide (v84 = (List.reverse v87)))) >>= fun b => if b = true then ((pure false) >>= fun r => pure (.rt r)) else
  pure (.nx ())) xs () >>= thenF fun d_2 =>
  (pure true)
noncomputable def m_law (script_ : List Int) : Option Bool := m__law_draws script_ 300 >>= fun ds => ((m_lawb script_).run (ds, 0)).map (·.1)
/-! ### the walk -/
section
variable {P : Program} {w : World} {K : PySem.W.Frag} {mg : Str → Option Value} {base : Heap}
theorem bd_next_row (T : Tp K mg) (cdv : Value) (A : Around) (outer : List Env) (s : Shared) (H : Hp) (E : XK) (hr : Room 0 (A.deeper (envOfC "next_row" (defScope (topS 1)) s.heap.objs.size T.f0 cdv))) (now_ : (List Int)) (ago_ : (List Int)) : SF (cx0 P w K mg base N0 "next_row" (topS 1) T.f0 cdv A outer s H E) (m := Option) wd0 W0 H [some (.frz ((eTup eInt) now_)), some (.frz ((eTup eInt) ago_)), none, none] (defBody (topS 1)) (eTup eInt) (m_next_row now_ ago_) :=
  have nd := sc0.nd
  (SL.atR (R' := [some (.frz ((eTup eInt) now_)), some (.frz ((eTup eInt) ago_)), none, none]) (SL.asc (sl_set (i := 2) (ea := (eTup eInt)) nd rfl (.inr rfl) (ltR 4 rfl rfl) (SX.eq (se_catT (SX.b (se_catT (SX.b (se_tupH (ea := eInt) (f := (fun g => [g])) (sa_one (ea := eInt) se_int) (fun _ => rfl) (fun _ => Nat.le_of_ble_eq_true rfl))) (SX.b (se_var (ea := (eTup eInt)) (d := now_) (i := 0) rfl (.inl rfl) rfl rfl rfl)))) (SX.b (se_tupH (ea := eInt) (f := (fun g => [g])) (sa_one (ea := eInt) se_int) (fun _ => rfl) (fun _ => Nat.le_of_ble_eq_true rfl)))) (by first | rfl | (simp only [pure_bind, bind_assoc, bind_pure, tt_if, bif_and, bif_or]; done) | (simp only [pure_bind, bind_assoc, bind_pure, tt_if, bif_and, bif_or]; rfl))) (fun edge_ => (SL.atR (R' := [some (.frz ((eTup eInt) now_)), some (.frz ((eTup eInt) ago_)), some (.frz ((eTup eInt) edge_)), none]) (sf_ret (SX.eq (se_tupleL (ea := eInt) rfl T.z_tuple (SX.ob (so_comp (eb := eInt) (own := [("k", 3)]) (g := (gName 3)) (is := [3]) (dts := (fun a => [eInt a])) (mt := fun k_ => pure true) (me := fun k_ => (fromO (L2.atI edge_ k_) >>= fun v4 => fromO (L2.atI edge_ (k_ + (2 : Int))) >>= fun v5 => fromO (L2.atI ago_ k_) >>= fun v6 => pure ((v4 + v5) - v6))) rfl nd (si_range1 rfl T.z_range (SX.b (se_lenT (ea := eInt) rfl T.z_len (SX.b (se_var (ea := (eTup eInt)) (d := now_) (i := 0) rfl (.inl rfl) rfl rfl rfl))))) (blkOk_by rfl) (fun _ _ _ _ _ => (pg_name (i := 3) nd rfl (.inl rfl))) g_name (by decide) (ltAll 4 rfl rfl) (fun k_ _ _ _ _ _ => sf_nil) (fun k_ _ _ _ _ _ => (SX.eq (se_sub (SX.b (se_add (SX.b (se_ixT (ea := eInt) (SX.b (se_var (ea := (eTup eInt)) (d := edge_) (i := 2) rfl (.inr (.inl rfl)) rfl rfl rfl)) (SX.b (se_var (ea := eInt) (d := k_) (i := 3) rfl (.inl rfl) rfl rfl rfl)) (fun _ _ => rfl))) (SX.b (se_ixT (ea := eInt) (SX.b (se_var (ea := (eTup eInt)) (d := edge_) (i := 2) rfl (.inr (.inl rfl)) rfl rfl rfl)) (SX.b (se_add (SX.b (se_var (ea := eInt) (d := k_) (i := 3) rfl (.inl rfl) rfl rfl rfl)) (SX.b se_int))) (fun _ _ => rfl))))) (SX.b (se_ixT (ea := eInt) (SX.b (se_var (ea := (eTup eInt)) (d := ago_) (i := 1) rfl (.inr (.inl rfl)) rfl rfl rfl)) (SX.b (se_var (ea := eInt) (d := k_) (i := 3) rfl (.inl rfl) rfl rfl rfl)) (fun _ _ => rfl)))) (by first | rfl | (simp only [pure_bind, bind_assoc, bind_pure, tt_if, bif_and, bif_or]; done) | (simp only [pure_bind, bind_assoc, bind_pure, tt_if, bif_and, bif_or]; rfl))))))) (by first | rfl | (simp only [pure_bind, bind_assoc, bind_pure, tt_if, bif_and, bif_or]; done) | (simp only [pure_bind, bind_assoc, bind_pure, tt_if, bif_and, bif_or]; rfl)))) rfl)) rfl (.inl rfl))) rfl)
theorem ok_next_row (T : Tp K mg) : FnOk P w K mg base CX0 1 T.f0 T.d0 p0 (spP K w (fun g : (List Int) × (List Int) => [(eTup eInt) g.1, (eTup eInt) g.2]) (eTup eInt) (fun g => m_next_row g.1 g.2)) :=
  fn_pure T.F0 sc0 (fun _ => rfl) (by decide) fun cdv A outer s H E hr g => bd_next_row T cdv A outer s H E hr g.1 g.2
theorem bd_added_rows (T : Tp K mg) (cdv : Value) (A : Around) (outer : List Env) (s : Shared) (H : Hp) (E : XK) (hr : Room 0 (A.deeper (envOfC "added_rows" (defScope (topS 5)) s.heap.objs.size T.f1 cdv))) (one_ : (List Int)) (other_ : (List Int)) : SF (cx0 P w K mg base N1 "added_rows" (topS 5) T.f1 cdv A outer s H E) (m := Option) wd0 W0 H [some (.frz ((eTup eInt) one_)), some (.frz ((eTup eInt) other_)), none, none] (defBody (topS 5)) (eTup eInt) (m_added_rows one_ other_) :=
  have nd := sc1.nd
  (SL.atR (R' := [some (.frz ((eTup eInt) one_)), some (.frz ((eTup eInt) other_)), none, none]) (sf_ret (SX.eq (se_tupleL (ea := eInt) rfl T.z_tuple (SX.ob (so_comp (eb := eInt) (own := [("a", 2), ("b", 3)]) (g := (gTup _ 2 (gNames [2, 3]))) (is := [2, 3]) (dts := (fun a : (Int × Int) => [eInt a.1, eInt a.2])) (mt := fun p_ => pure true) (me := fun p_ => (pure (p_.1 + p_.2))) rfl nd (si_zipT (ea := eInt) (eb := eInt) rfl T.z_zip (se_var (ea := (eTup eInt)) (d := one_) (i := 0) rfl (.inl rfl) rfl rfl rfl) (se_var (ea := (eTup eInt)) (d := other_) (i := 1) rfl (.inl rfl) rfl rfl rfl) (fun h => h.firms)) (blkOk_by rfl) (fun _ _ _ _ _ => (pg_tup rfl (pgs_cons (pg_name (i := 2) nd rfl (.inl rfl)) (pgs_cons (pg_name (i := 3) nd rfl (.inl rfl)) pgs_nil)))) (g_tup (is := [2, 3]) (dts := (fun a : (Int × Int) => [eInt a.1, eInt a.2])) (fun _ => rfl) (fun _ => rfl)) (by decide) (ltAll 4 rfl rfl) (fun p_ _ _ _ _ _ => sf_nil) (fun p_ _ _ _ _ _ => (SX.eq (se_add (SX.b (se_var (ea := eInt) (d := p_.1) (i := 2) rfl (.inl rfl) rfl rfl rfl)) (SX.b (se_var (ea := eInt) (d := p_.2) (i := 3) rfl (.inl rfl) rfl rfl rfl))) (by first | rfl | (simp only [pure_bind, bind_assoc, bind_pure, tt_if, bif_and, bif_or]; done) | (simp only [pure_bind, bind_assoc, bind_pure, tt_if, bif_and, bif_or]; rfl))))))) (by first | rfl | (simp only [pure_bind, bind_assoc, bind_pure, tt_if, bif_and, bif_or]; done) | (simp only [pure_bind, bind_assoc, bind_pure, tt_if, bif_and, bif_or]; rfl)))) rfl)
theorem ok_added_rows (T : Tp K mg) : FnOk P w K mg base CX0 1 T.f1 T.d1 p1 (spP K w (fun g : (List Int) × (List Int) => [(eTup eInt) g.1, (eTup eInt) g.2]) (eTup eInt) (fun g => m_added_rows g.1 g.2)) :=
  fn_pure T.F1 sc1 (fun _ => rfl) (by decide) fun cdv A outer s H E hr g => bd_added_rows T cdv A outer s H E hr g.1 g.2
theorem bd_energy (T : Tp K mg) (cdv : Value) (A : Around) (outer : List Env) (s : Shared) (H : Hp) (E : XK) (hr : Room 0 (A.deeper (envOfC "energy" (defScope (topS 6)) s.heap.objs.size T.f2 cdv))) (now_ : (List Int)) (ago_ : (List Int)) : SF (cx0 P w K mg base N2 "energy" (topS 6) T.f2 cdv A outer s H E) (m := Option) wd0 W0 H [some (.frz ((eTup eInt) now_)), some (.frz ((eTup eInt) ago_)), none, none, none, none, none] (defBody (topS 6)) eInt (m_energy now_ ago_) :=
  have nd := sc2.nd
  (SL.atR (R' := [some (.frz ((eTup eInt) now_)), some (.frz ((eTup eInt) ago_)), none, none, none, none, none]) (SL.asc (sl_set (i := 2) (ea := eInt) nd rfl (.inl rfl) (ltR 7 rfl rfl) (SX.eq (se_add (SX.b (se_sumL rfl rfl T.z_sum (SX.ob (so_comp (eb := eInt) (own := [("a", 5)]) (g := (gName 5)) (is := [5]) (dts := (fun a => [eInt a])) (mt := fun a_ => pure true) (me := fun a_ => (fromO (mulG a_ a_))) rfl nd (si_tup (ea := eInt) (SX.b (se_var (ea := (eTup eInt)) (d := now_) (i := 0) rfl (.inr (.inl rfl)) rfl rfl rfl)) (fun h => h.firms)) (blkOk_by rfl) (fun _ _ _ _ _ => (pg_name (i := 5) nd rfl (.inl rfl))) g_name (by decide) (ltAll 7 rfl rfl) (fun a_ _ _ _ _ _ => sf_nil) (fun a_ _ _ _ _ _ => (SX.eq (se_mul (SX.b (se_var (ea := eInt) (d := a_) (i := 5) rfl (.inl rfl) rfl rfl rfl)) (SX.b (se_var (ea := eInt) (d := a_) (i := 5) rfl (.inl rfl) rfl rfl rfl))) (by first | rfl | (simp only [pure_bind, bind_assoc, bind_pure, tt_if, bif_and, bif_or]; done) | (simp only [pure_bind, bind_assoc, bind_pure, tt_if, bif_and, bif_or]; rfl)))))))) (SX.b (se_sumL rfl rfl T.z_sum (SX.ob (so_comp (eb := eInt) (own := [("b", 6)]) (g := (gName 6)) (is := [6]) (dts := (fun a => [eInt a])) (mt := fun b_ => pure true) (me := fun b_ => (fromO (mulG b_ b_))) rfl nd (si_tup (ea := eInt) (SX.b (se_var (ea := (eTup eInt)) (d := ago_) (i := 1) rfl (.inr (.inl rfl)) rfl rfl rfl)) (fun h => h.firms)) (blkOk_by rfl) (fun _ _ _ _ _ => (pg_name (i := 6) nd rfl (.inl rfl))) g_name (by decide) (ltAll 7 rfl rfl) (fun b_ _ _ _ _ _ => sf_nil) (fun b_ _ _ _ _ _ => (SX.eq (se_mul (SX.b (se_var (ea := eInt) (d := b_) (i := 6) rfl (.inl rfl) rfl rfl rfl)) (SX.b (se_var (ea := eInt) (d := b_) (i := 6) rfl (.inl rfl) rfl rfl rfl))) (by first | rfl | (simp only [pure_bind, bind_assoc, bind_pure, tt_if, bif_and, bif_or]; done) | (simp only [pure_bind, bind_assoc, bind_pure, tt_if, bif_and, bif_or]; rfl))))))))) (by first | rfl | (simp only [pure_bind, bind_assoc, bind_pure, tt_if, bif_and, bif_or]; done) | (simp only [pure_bind, bind_assoc, bind_pure, tt_if, bif_and, bif_or]; rfl))) (fun squares_ => (SL.atR (R' := [some (.frz ((eTup eInt) now_)), some (.frz ((eTup eInt) ago_)), some (.frz (eInt squares_)), none, none, none, none]) (SL.asc (sl_set (i := 3) (ea := eInt) nd rfl (.inl rfl) (ltR 7 rfl rfl) (SX.eq (se_sumL rfl rfl T.z_sum (SX.ob (so_comp (eb := eInt) (own := [("k", 4)]) (g := (gName 4)) (is := [4]) (dts := (fun a => [eInt a])) (mt := fun k_ => pure true) (me := fun k_ => (fromO (L2.atI now_ k_) >>= fun v6 => fromO (L2.atI ago_ (k_ + (1 : Int))) >>= fun v7 => fromO (mulG v6 v7) >>= fun v8 => fromO (L2.atI now_ (k_ + (1 : Int))) >>= fun v9 => fromO (L2.atI ago_ k_) >>= fun v10 => fromO (mulG v9 v10) >>= fun v11 => pure (v8 + v11))) rfl nd (si_range1 rfl T.z_range (SX.b (se_sub (SX.b (se_lenT (ea := eInt) rfl T.z_len (SX.b (se_var (ea := (eTup eInt)) (d := now_) (i := 0) rfl (.inr (.inl rfl)) rfl rfl rfl)))) (SX.b se_int)))) (blkOk_by rfl) (fun _ _ _ _ _ => (pg_name (i := 4) nd rfl (.inl rfl))) g_name (by decide) (ltAll 7 rfl rfl) (fun k_ _ _ _ _ _ => sf_nil) (fun k_ _ _ _ _ _ => (SX.eq (se_add (SX.b (se_mul (SX.b (se_ixT (ea := eInt) (SX.b (se_var (ea := (eTup eInt)) (d := now_) (i := 0) rfl (.inr (.inl rfl)) rfl rfl rfl)) (SX.b (se_var (ea := eInt) (d := k_) (i := 4) rfl (.inl rfl) rfl rfl rfl)) (fun _ _ => rfl))) (SX.b (se_ixT (ea := eInt) (SX.b (se_var (ea := (eTup eInt)) (d := ago_) (i := 1) rfl (.inr (.inl rfl)) rfl rfl rfl)) (SX.b (se_add (SX.b (se_var (ea := eInt) (d := k_) (i := 4) rfl (.inl rfl) rfl rfl rfl)) (SX.b se_int))) (fun _ _ => rfl))))) (SX.b (se_mul (SX.b (se_ixT (ea := eInt) (SX.b (se_var (ea := (eTup eInt)) (d := now_) (i := 0) rfl (.inr (.inl rfl)) rfl rfl rfl)) (SX.b (se_add (SX.b (se_var (ea := eInt) (d := k_) (i := 4) rfl (.inl rfl) rfl rfl rfl)) (SX.b se_int))) (fun _ _ => rfl))) (SX.b (se_ixT (ea := eInt) (SX.b (se_var (ea := (eTup eInt)) (d := ago_) (i := 1) rfl (.inr (.inl rfl)) rfl rfl rfl)) (SX.b (se_var (ea := eInt) (d := k_) (i := 4) rfl (.inl rfl) rfl rfl rfl)) (fun _ _ => rfl)))))) (by first | rfl | (simp only [pure_bind, bind_assoc, bind_pure, tt_if, bif_and, bif_or]; done) | (simp only [pure_bind, bind_assoc, bind_pure, tt_if, bif_and, bif_or]; rfl))))))) (by first | rfl | (simp only [pure_bind, bind_assoc, bind_pure, tt_if, bif_and, bif_or]; done) | (simp only [pure_bind, bind_assoc, bind_pure, tt_if, bif_and, bif_or]; rfl))) (fun sides_ => (SL.atR (R' := [some (.frz ((eTup eInt) now_)), some (.frz ((eTup eInt) ago_)), some (.frz (eInt squares_)), some (.frz (eInt sides_)), none, none, none]) (sf_ret (SX.eq (se_sub (SX.b (se_var (ea := eInt) (d := squares_) (i := 2) rfl (.inl rfl) rfl rfl rfl)) (SX.b (se_var (ea := eInt) (d := sides_) (i := 3) rfl (.inl rfl) rfl rfl rfl))) (by first | rfl | (simp only [pure_bind, bind_assoc, bind_pure, tt_if, bif_and, bif_or]; done) | (simp only [pure_bind, bind_assoc, bind_pure, tt_if, bif_and, bif_or]; rfl)))) rfl)) rfl (.inr rfl))) rfl)) rfl (.inr rfl))) rfl)
theorem ok_energy (T : Tp K mg) : FnOk P w K mg base CX0 1 T.f2 T.d2 p2 (spP K w (fun g : (List Int) × (List Int) => [(eTup eInt) g.1, (eTup eInt) g.2]) eInt (fun g => m_energy g.1 g.2)) :=
  fn_pure T.F2 sc2 (fun _ => rfl) (by decide) fun cdv A outer s H E hr g => bd_energy T cdv A outer s H E hr g.1 g.2
theorem bd_dropped_in (T : Tp K mg) (cdv : Value) (A : Around) (outer : List Env) (s : Shared) (H : Hp) (E : XK) (hr : Room 0 (A.deeper (envOfC "dropped_in" (defScope (topS 7)) s.heap.objs.size T.f3 cdv))) (long_ : Int) (place_ : Int) : SF (cx0 P w K mg base N3 "dropped_in" (topS 7) T.f3 cdv A outer s H E) (m := Option) wd0 W0 H [some (.frz (eInt long_)), some (.frz (eInt place_)), none] (defBody (topS 7)) (eT2 (eTup eInt) (eTup eInt)) (m_dropped_in long_ place_) :=
  have nd := sc3.nd
  (SL.atR (R' := [some (.frz (eInt long_)), some (.frz (eInt place_)), none]) (sf_ret (SX.eq (se_tup (et := (eT2 (eTup eInt) (eTup eInt))) (sa_cons (ea := (eTup eInt)) (eg := fun g : (List Int) => [(eTup eInt) g]) (se_tupleL (ea := eInt) rfl T.z_tuple (SX.ob (so_comp (eb := eInt) (own := [("k", 2)]) (g := (gName 2)) (is := [2]) (dts := (fun a => [eInt a])) (mt := fun k_ => pure true) (me := fun k_ => (pure (intB (decide (k_ = place_))))) rfl nd (si_range1 rfl T.z_range (SX.b (se_var (ea := eInt) (d := long_) (i := 0) rfl (.inl rfl) rfl rfl rfl))) (blkOk_by rfl) (fun _ _ _ _ _ => (pg_name (i := 2) nd rfl (.inl rfl))) g_name (by decide) (ltAll 3 rfl rfl) (fun k_ _ _ _ _ _ => sf_nil) (fun k_ _ _ _ _ _ => (SX.eq (se_intI rfl T.z_int (SX.b (SC.e (sc_eqT eq_int (by decide) hr.units (SX.b (se_var (ea := eInt) (d := k_) (i := 2) rfl (.inl rfl) rfl rfl rfl)) (SX.b (se_var (ea := eInt) (d := place_) (i := 1) rfl (.inr (.inl rfl)) rfl rfl rfl))) rfl))) (by first | rfl | (simp only [pure_bind, bind_assoc, bind_pure, tt_if, bif_and, bif_or]; done) | (simp only [pure_bind, bind_assoc, bind_pure, tt_if, bif_and, bif_or]; rfl))))))) (sa_one (ea := (eTup eInt)) (se_repT (SX.b (se_tupH (ea := eInt) (f := (fun g => [g])) (sa_one (ea := eInt) se_int) (fun _ => rfl) (fun _ => Nat.le_of_ble_eq_true rfl))) (SX.b (se_var (ea := eInt) (d := long_) (i := 0) rfl (.inl rfl) rfl rfl rfl))))) (fun _ => rfl) (fun _ => Nat.le_of_ble_eq_true rfl)) (by first | rfl | (simp only [pure_bind, bind_assoc, bind_pure, tt_if, bif_and, bif_or]; done) | (simp only [pure_bind, bind_assoc, bind_pure, tt_if, bif_and, bif_or]; rfl)))) rfl)
theorem ok_dropped_in (T : Tp K mg) : FnOk P w K mg base CX0 1 T.f3 T.d3 p3 (spP K w (fun g : Int × Int => [eInt g.1, eInt g.2]) (eT2 (eTup eInt) (eTup eInt)) (fun g => m_dropped_in g.1 g.2)) :=
  fn_pure T.F3 sc3 (fun _ => rfl) (by decide) fun cdv A outer s H E hr g => bd_dropped_in T cdv A outer s H E hr g.1 g.2
theorem bd_turned_row (T : Tp K mg) (cdv : Value) (A : Around) (outer : List Env) (s : Shared) (H : Hp) (E : XK) (hr : Room 0 (A.deeper (envOfC "turned_row" (defScope (topS 10)) s.heap.objs.size T.f4 cdv))) (row_ : (List Int)) : SF (cx0 P w K mg base N4 "turned_row" (topS 10) T.f4 cdv A outer s H E) (m := Option) wd0 W0 H [some (.frz ((eTup eInt) row_))] (defBody (topS 10)) (eTup eInt) (m_turned_row row_) :=
  have nd := sc4.nd
  (SL.atR (R' := [some (.frz ((eTup eInt) row_))]) (sf_ret (SX.eq (se_revT (SX.b (se_var (ea := (eTup eInt)) (d := row_) (i := 0) rfl (.inl rfl) rfl rfl rfl))) (by first | rfl | (simp only [pure_bind, bind_assoc, bind_pure, tt_if, bif_and, bif_or]; done) | (simp only [pure_bind, bind_assoc, bind_pure, tt_if, bif_and, bif_or]; rfl)))) rfl)
theorem ok_turned_row (T : Tp K mg) : FnOk P w K mg base CX0 1 T.f4 T.d4 p4 (spP K w (fun g : (List Int) => [(eTup eInt) g]) (eTup eInt) (fun g => m_turned_row g)) :=
  fn_pure T.F4 sc4 (fun _ => rfl) (by decide) fun cdv A outer s H E hr g => bd_turned_row T cdv A outer s H E hr g
theorem bd__law_draws (T : Tp K mg) (cdv : Value) (A : Around) (outer : List Env) (s : Shared) (H : Hp) (E : XK) (hr : Room 0 (A.deeper (envOfC "_law_draws" (defScope (topS 12)) s.heap.objs.size T.f5 cdv))) (script_ : List Int) (many_ : Int) : SF (cx0 P w K mg base N5 "_law_draws" (topS 12) T.f5 cdv A outer s H E) (m := Option) wd0 W0 H [some (.scr script_), some (.frz (eInt many_)), none, none, none, none, none, none] (defBody (topS 12)) (eLst eInt) (m__law_draws script_ many_) :=
  have nd := sc5.nd
  (SL.atR (R' := [some (.scr script_), some (.frz (eInt many_)), none, none, none, none, none, none]) (SL.asc (sl_setO (i := 2) (ea := eInt) nd rfl (.inl rfl) (ltR 8 rfl rfl) (so_nil (ea := eInt)) (fun draws_ => (SL.atR (R' := [some (.scr script_), some (.frz (eInt many_)), some (.own (List.map eInt draws_)), none, none, none, none, none]) (SL.asc (sl_set (i := 3) (ea := eInt) nd rfl (.inl rfl) (ltR 8 rfl rfl) se_int (fun mixed_ => (SL.atR (R' := [some (.scr script_), some (.frz (eInt many_)), some (.own (List.map eInt draws_)), some (.frz (eInt mixed_)), none, none, none, none]) (SL.asc2 (sl_forP (Rl := fun d : Int × (List Int) => [some (.scr script_), some (.frz (eInt many_)), some (.own (List.map eInt d.2)), some (.frz (eInt d.1)), none, none, none, none]) (d0 := (mixed_, draws_)) (g := (gName 4)) (is := [4]) (dts := (fun a => [eInt a])) PassesOwn.never rfl (SI.eq (si_range1 rfl T.z_range (SX.b (se_lenScr (i := 0) rfl T.z_len rfl (.inl rfl) rfl rfl rfl rfl))) (by first | rfl | (simp only [pure_bind, bind_assoc, bind_pure, tt_if, bif_and, bif_or]; done) | (simp only [pure_bind, bind_assoc, bind_pure, tt_if, bif_and, bif_or]; rfl))) (pg_name (i := 4) nd rfl (.inl rfl)) g_name (subC (subC (subC (subC (subN (subN (subN (subN subE)))))))) (fun _ => ltAll 8 rfl rfl) (fun k_ d_ => (SL.atR (R' := [some (.scr script_), some (.frz (eInt many_)), some (.own (List.map eInt d_.2)), some (.frz (eInt d_.1)), some (.frz (eInt k_)), none, none, none]) (SL.asc (sl_set (i := 5) (ea := eInt) nd rfl (.inl rfl) (ltR 8 rfl rfl) (SX.eq (se_absI rfl T.z_abs (SX.b (se_int1 rfl T.z_int (SX.b (se_ixScr (i := 0) rfl (.inl rfl) rfl rfl rfl (SX.b (se_var (ea := eInt) (d := k_) (i := 4) rfl (.inl rfl) rfl rfl rfl)) (fun _ _ => rfl)))))) (by first | rfl | (simp only [pure_bind, bind_assoc, bind_pure, tt_if, bif_and, bif_or]; done) | (simp only [pure_bind, bind_assoc, bind_pure, tt_if, bif_and, bif_or]; rfl))) (fun cell_ => (SL.atR (R' := [some (.scr script_), some (.frz (eInt many_)), some (.own (List.map eInt d_.2)), some (.frz (eInt d_.1)), some (.frz (eInt k_)), some (.frz (eInt cell_)), none, none]) (SL.asc (sl_set (i := 3) (ea := eInt) nd rfl (.inl rfl) (ltR 8 rfl rfl) (SX.eq (se_mod (SX.b (se_int1 rfl T.z_int (SX.b (se_add (SX.b (se_add (SX.b (se_mul (SX.b (se_var (ea := eInt) (d := d_.1) (i := 3) rfl (.inl rfl) rfl rfl rfl)) (SX.b se_int))) (SX.b (se_mod (SX.b (se_var (ea := eInt) (d := cell_) (i := 5) rfl (.inl rfl) rfl rfl rfl)) (SX.b se_int))))) (SX.b (se_var (ea := eInt) (d := k_) (i := 4) rfl (.inl rfl) rfl rfl rfl)))))) (SX.b se_int)) (by first | rfl | (simp only [pure_bind, bind_assoc, bind_pure, tt_if, bif_and, bif_or]; done) | (simp only [pure_bind, bind_assoc, bind_pure, tt_if, bif_and, bif_or]; rfl))) (fun mixed_2 => (SL.atR (R' := [some (.scr script_), some (.frz (eInt many_)), some (.own (List.map eInt d_.2)), some (.frz (eInt mixed_2)), some (.frz (eInt k_)), some (.frz (eInt cell_)), none, none]) (SL.asc (sl_set (i := 6) (ea := eInt) nd rfl (.inl rfl) (ltR 8 rfl rfl) se_int (fun rest_ => (SL.atR (R' := [some (.scr script_), some (.frz (eInt many_)), some (.own (List.map eInt d_.2)), some (.frz (eInt mixed_2)), some (.frz (eInt k_)), some (.frz (eInt cell_)), some (.frz (eInt rest_)), none]) (SL.asc2 (sl_ifP (Rn := fun d : Int × (List Int) => [some (.scr script_), some (.frz (eInt many_)), some (.own (List.map eInt d.2)), some (.frz (eInt mixed_2)), some (.frz (eInt k_)), some (.frz (eInt cell_)), some (.frz (eInt d.1)), none]) (ST.eq (SC.t (sc_ge (SX.b (se_var (ea := eInt) (d := cell_) (i := 5) rfl (.inl rfl) rfl rfl rfl)) (SX.b (se_pow (SX.b se_int) (SX.b se_int)))) rfl) (by first | rfl | (simp only [pure_bind, bind_assoc, bind_pure, tt_if, bif_and, bif_or]; done) | (simp only [pure_bind, bind_assoc, bind_pure, tt_if, bif_and, bif_or]; rfl))) (SL.atR (R' := [some (.scr script_), some (.frz (eInt many_)), some (.own (List.map eInt d_.2)), some (.frz (eInt mixed_2)), some (.frz (eInt k_)), some (.frz (eInt cell_)), some (.frz (eInt rest_)), none]) (SL.asc (sl_set (i := 6) (ea := eInt) nd rfl (.inl rfl) (ltR 8 rfl rfl) (se_var (ea := eInt) (d := cell_) (i := 5) rfl (.inl rfl) rfl rfl rfl) (fun rest_2 => (sp_nil (rest_2, d_.2) (subC (subC (subC (subC (subC (subC (subC (subN subE)))))))))) rfl (.inr rfl))) rfl) (SL.atR (R' := [some (.scr script_), some (.frz (eInt many_)), some (.own (List.map eInt d_.2)), some (.frz (eInt mixed_2)), some (.frz (eInt k_)), some (.frz (eInt cell_)), some (.frz (eInt rest_)), none]) (SL.asc2 (sl_append (i := 2) (ea := eInt) (xs := d_.2) rfl (.inl rfl) rfl rfl rfl (SX.eq (se_mod (SX.b (se_int1 rfl T.z_int (SX.b (se_var (ea := eInt) (d := cell_) (i := 5) rfl (.inl rfl) rfl rfl rfl)))) (SX.b se_int)) (by first | rfl | (simp only [pure_bind, bind_assoc, bind_pure, tt_if, bif_and, bif_or]; done) | (simp only [pure_bind, bind_assoc, bind_pure, tt_if, bif_and, bif_or]; rfl))) (fun draws_2 => (SL.atR (R' := [some (.scr script_), some (.frz (eInt many_)), some (.own (List.map eInt draws_2)), some (.frz (eInt mixed_2)), some (.frz (eInt k_)), some (.frz (eInt cell_)), some (.frz (eInt rest_)), none]) (SL.asc2 (sl_append (i := 2) (ea := eInt) (xs := draws_2) rfl (.inl rfl) rfl rfl rfl (SX.eq (se_mod (SX.b (se_mod (SX.b (se_int1 rfl T.z_int (SX.b (se_add (SX.b (se_mul (SX.b (se_var (ea := eInt) (d := mixed_2) (i := 3) rfl (.inl rfl) rfl rfl rfl)) (SX.b se_int))) (SX.b se_int))))) (SX.b se_int))) (SX.b se_int)) (by first | rfl | (simp only [pure_bind, bind_assoc, bind_pure, tt_if, bif_and, bif_or]; done) | (simp only [pure_bind, bind_assoc, bind_pure, tt_if, bif_and, bif_or]; rfl))) (fun draws_3 => (sp_nil (rest_, draws_3) (subC (subC (subC (subC (subC (subC (subC (subN subE)))))))))) rfl rfl rfl rfl rfl)) rfl)) rfl rfl rfl rfl rfl)) rfl) (fun d_3 => (SL.atR (R' := [some (.scr script_), some (.frz (eInt many_)), some (.own (List.map eInt d_3.2)), some (.frz (eInt mixed_2)), some (.frz (eInt k_)), some (.frz (eInt cell_)), some (.frz (eInt d_3.1)), none]) (SL.asc2 (sl_forP (Rl := fun d : (List Int) × Int => [some (.scr script_), some (.frz (eInt many_)), some (.own (List.map eInt d.1)), some (.frz (eInt mixed_2)), some (.frz (eInt k_)), some (.frz (eInt cell_)), some (.frz (eInt d.2)), none]) (d0 := (d_3.2, d_3.1)) (g := (gName 7)) (is := [7]) (dts := (fun a => [eInt a])) PassesOwn.never rfl (SI.eq (si_range1 rfl T.z_range (SX.b se_int)) (by first | rfl | (simp only [pure_bind, bind_assoc, bind_pure, tt_if, bif_and, bif_or]; done) | (simp only [pure_bind, bind_assoc, bind_pure, tt_if, bif_and, bif_or]; rfl))) (pg_name (i := 7) nd rfl (.inl rfl)) g_name (subC (subC (subC (subC (subC (subC (subC (subN subE)))))))) (fun _ => ltAll 8 rfl rfl) (fun turn_ d_4 => (SL.atR (R' := [some (.scr script_), some (.frz (eInt many_)), some (.own (List.map eInt d_4.1)), some (.frz (eInt mixed_2)), some (.frz (eInt k_)), some (.frz (eInt cell_)), some (.frz (eInt d_4.2)), some (.frz (eInt turn_))]) (SL.asc2 (sl_ifP (Rn := fun d : (List Int) × Int => [some (.scr script_), some (.frz (eInt many_)), some (.own (List.map eInt d.1)), some (.frz (eInt mixed_2)), some (.frz (eInt k_)), some (.frz (eInt cell_)), some (.frz (eInt d.2)), some (.frz (eInt turn_))]) (ST.eq (SC.t (sc_gt (SX.b (se_var (ea := eInt) (d := d_4.2) (i := 6) rfl (.inl rfl) rfl rfl rfl)) (SX.b se_int)) rfl) (by first | rfl | (simp only [pure_bind, bind_assoc, bind_pure, tt_if, bif_and, bif_or]; done) | (simp only [pure_bind, bind_assoc, bind_pure, tt_if, bif_and, bif_or]; rfl))) (SL.atR (R' := [some (.scr script_), some (.frz (eInt many_)), some (.own (List.map eInt d_4.1)), some (.frz (eInt mixed_2)), some (.frz (eInt k_)), some (.frz (eInt cell_)), some (.frz (eInt d_4.2)), some (.frz (eInt turn_))]) (SL.asc2 (sl_append (i := 2) (ea := eInt) (xs := d_4.1) rfl (.inl rfl) rfl rfl rfl (SX.eq (se_mod (SX.b (se_int1 rfl T.z_int (SX.b (se_var (ea := eInt) (d := d_4.2) (i := 6) rfl (.inl rfl) rfl rfl rfl)))) (SX.b se_int)) (by first | rfl | (simp only [pure_bind, bind_assoc, bind_pure, tt_if, bif_and, bif_or]; done) | (simp only [pure_bind, bind_assoc, bind_pure, tt_if, bif_and, bif_or]; rfl))) (fun draws_4 => (SL.atR (R' := [some (.scr script_), some (.frz (eInt many_)), some (.own (List.map eInt draws_4)), some (.frz (eInt mixed_2)), some (.frz (eInt k_)), some (.frz (eInt cell_)), some (.frz (eInt d_4.2)), some (.frz (eInt turn_))]) (SL.asc (sl_set (i := 6) (ea := eInt) nd rfl (.inl rfl) (ltR 8 rfl rfl) (SX.eq (se_fdiv (SX.b (se_var (ea := eInt) (d := d_4.2) (i := 6) rfl (.inl rfl) rfl rfl rfl)) (SX.b se_int)) (by first | rfl | (simp only [pure_bind, bind_assoc, bind_pure, tt_if, bif_and, bif_or]; done) | (simp only [pure_bind, bind_assoc, bind_pure, tt_if, bif_and, bif_or]; rfl))) (fun rest_3 => (sp_nil (draws_4, rest_3) (subC (subC (subC (subC (subC (subC (subC (subC subE)))))))))) rfl (.inr rfl))) rfl)) rfl rfl rfl rfl rfl)) rfl) (sp_nil (d_4.1, d_4.2) (subC (subC (subC (subC (subC (subC (subC (subC subE))))))))) (fun d_6 => (sp_nil (d_6.1, d_6.2) (subC (subC (subC (subC (subC (subC (subC (subN subE)))))))))))) rfl)) (fun d_5 => (sp_nil (mixed_2, d_5.1) (subC (subC (subC (subC (subN (subN (subN (subN subE)))))))))) (fun _ => rfl))) rfl)))) rfl)) rfl (.inr rfl))) rfl)) rfl (.inr rfl))) rfl)) rfl (.inr rfl))) rfl)) (fun d_2 => (SL.atR (R' := [some (.scr script_), some (.frz (eInt many_)), some (.own (List.map eInt d_2.2)), some (.frz (eInt d_2.1)), none, none, none, none]) (SL.asc2 (sl_forP (Rl := fun d : Int × (List Int) => [some (.scr script_), some (.frz (eInt many_)), some (.own (List.map eInt d.2)), some (.frz (eInt d.1)), none, none, none, none]) (d0 := (d_2.1, d_2.2)) (g := (gName 4)) (is := [4]) (dts := (fun a => [eInt a])) PassesOwn.never rfl (SI.eq (si_range1 rfl T.z_range (SX.b (se_var (ea := eInt) (d := many_) (i := 1) rfl (.inl rfl) rfl rfl rfl))) (by first | rfl | (simp only [pure_bind, bind_assoc, bind_pure, tt_if, bif_and, bif_or]; done) | (simp only [pure_bind, bind_assoc, bind_pure, tt_if, bif_and, bif_or]; rfl))) (pg_name (i := 4) nd rfl (.inl rfl)) g_name (subC (subC (subC (subC (subN (subN (subN (subN subE)))))))) (fun _ => ltAll 8 rfl rfl) (fun k_2 d_7 => (SL.atR (R' := [some (.scr script_), some (.frz (eInt many_)), some (.own (List.map eInt d_7.2)), some (.frz (eInt d_7.1)), some (.frz (eInt k_2)), none, none, none]) (SL.asc (sl_set (i := 3) (ea := eInt) nd rfl (.inl rfl) (ltR 8 rfl rfl) (SX.eq (se_mod (SX.b (se_int1 rfl T.z_int (SX.b (se_add (SX.b (se_add (SX.b (se_mul (SX.b (se_var (ea := eInt) (d := d_7.1) (i := 3) rfl (.inl rfl) rfl rfl rfl)) (SX.b se_int))) (SX.b (se_var (ea := eInt) (d := k_2) (i := 4) rfl (.inl rfl) rfl rfl rfl)))) (SX.b se_int))))) (SX.b se_int)) (by first | rfl | (simp only [pure_bind, bind_assoc, bind_pure, tt_if, bif_and, bif_or]; done) | (simp only [pure_bind, bind_assoc, bind_pure, tt_if, bif_and, bif_or]; rfl))) (fun mixed_3 => (SL.atR (R' := [some (.scr script_), some (.frz (eInt many_)), some (.own (List.map eInt d_7.2)), some (.frz (eInt mixed_3)), some (.frz (eInt k_2)), none, none, none]) (SL.asc2 (sl_append (i := 2) (ea := eInt) (xs := d_7.2) rfl (.inl rfl) rfl rfl rfl (SX.eq (se_mod (SX.b (se_int1 rfl T.z_int (SX.b (se_var (ea := eInt) (d := mixed_3) (i := 3) rfl (.inl rfl) rfl rfl rfl)))) (SX.b se_int)) (by first | rfl | (simp only [pure_bind, bind_assoc, bind_pure, tt_if, bif_and, bif_or]; done) | (simp only [pure_bind, bind_assoc, bind_pure, tt_if, bif_and, bif_or]; rfl))) (fun draws_5 => (sp_nil (mixed_3, draws_5) (subC (subC (subC (subC (subN (subN (subN (subN subE)))))))))) rfl rfl rfl rfl rfl)) rfl)) rfl (.inr rfl))) rfl)) (fun d_8 => (SL.atR (R' := [some (.scr script_), some (.frz (eInt many_)), some (.own (List.map eInt d_8.2)), some (.frz (eInt d_8.1)), none, none, none, none]) (sf_ret (SX.eq (SX.f (so_sliceL (sb_own (ea := eInt) (d := d_8.2) (i := 2) rfl (.inl rfl) rfl rfl rfl) sq_none (sq_some (se_var (ea := eInt) (d := many_) (i := 1) rfl (.inl rfl) rfl rfl rfl)))) (by first | rfl | (simp only [pure_bind, bind_assoc, bind_pure, tt_if, bif_and, bif_or]; done) | (simp only [pure_bind, bind_assoc, bind_pure, tt_if, bif_and, bif_or]; rfl)))) rfl)) (fun _ => rfl))) rfl)) (fun _ => rfl))) rfl)) rfl (.inr rfl))) rfl)) rfl (.inr rfl))) rfl)
theorem ok__law_draws (T : Tp K mg) : FnOk P w K mg base CX0 1 T.f5 T.d5 p5 (spScr K w (eLst eInt) m__law_draws) :=
  fn_scr T.F5 sc5 rfl (by decide) fun cdv A outer s H E hr ns n => bd__law_draws T cdv A outer s H E hr ns n
theorem bd__law_next (T : Tp K mg) (cdv : Value) (A : Around) (outer : List Env) (s : Shared) (H : Hp) (E : XK) (aw : Addr) (hr : Room 0 (A.deeper (envOfC "_law_next" (defScope (topS 13)) s.heap.objs.size T.f6 cdv))) (many_ : Int) : SF (cx0 P w K mg base N6 "_law_next" (topS 13) T.f6 cdv A outer s H E) (m := WM DW) (drawsW aw) W0 H [some (.adr aw), some (.frz (eInt many_))] (defBody (topS 13)) eInt (m__law_next many_) :=
  have nd := sc6.nd
  have huw : _ := Nat.lt_of_le_of_lt (Nat.add_le_add_left (by decide : 1 ≤ 64) _) hr.units
  (SL.atR (R' := [some (.adr aw), some (.frz (eInt many_))]) (SL.asc (sl_wInc (i := 0) huw rfl (.inl rfl) rfl rfl rfl (SL.atR (R' := [some (.adr aw), some (.frz (eInt many_))]) (sf_ifR (ST.eq (SC.t (sc_gt (SX.b (se_wAt (i := 0) huw rfl (.inl rfl) rfl rfl rfl)) (SX.b (se_lenL (ea := eInt) rfl T.z_len (SX.b (se_wDraws (i := 0) huw rfl (.inl rfl) rfl rfl rfl))))) rfl) (by first | rfl | (simp only [pure_bind, bind_assoc, bind_pure, tt_if, bif_and, bif_or]; done) | (simp only [pure_bind, bind_assoc, bind_pure, tt_if, bif_and, bif_or]; rfl))) (SL.atR (R' := [some (.adr aw), some (.frz (eInt many_))]) (sf_ret se_int) rfl) (SL.atR (R' := [some (.adr aw), some (.frz (eInt many_))]) (sf_ret (SX.eq (se_mod (SX.b (se_int1 rfl T.z_int (SX.b (se_ixL (ea := eInt) (SX.b (se_wDraws (i := 0) huw rfl (.inl rfl) rfl rfl rfl)) (SX.b (se_sub (SX.b (se_wAt (i := 0) huw rfl (.inl rfl) rfl rfl rfl)) (SX.b se_int))) (fun _ _ => rfl))))) (SX.b (se_var (ea := eInt) (d := many_) (i := 1) rfl (.inl rfl) rfl rfl rfl))) (by first | rfl | (simp only [pure_bind, bind_assoc, bind_pure, tt_if, bif_and, bif_or]; done) | (simp only [pure_bind, bind_assoc, bind_pure, tt_if, bif_and, bif_or]; rfl)))) rfl)) rfl))) rfl)
theorem ok__law_next (T : Tp K mg) : FnOk P w K mg base CX0 1 T.f6 T.d6 p6 (spW K w drawsW (fun g : Int => [eInt g]) eInt (fun g => m__law_next g)) :=
  fn_world T.F6 sc6 (fun _ => rfl) (by decide) fun cdv A outer s H E aw hr g => bd__law_next T cdv A outer s H E aw hr g
theorem bd__law_next_row (T : Tp K mg) (cdv : Value) (A : Around) (outer : List Env) (s : Shared) (H : Hp) (E : XK) (hr : Room 0 (A.deeper (envOfC "_law_next_row" (defScope (topS 14)) s.heap.objs.size T.f7 cdv))) (now_ : (List Int)) (ago_ : (List Int)) : SF (cx0 P w K mg base N7 "_law_next_row" (topS 14) T.f7 cdv A outer s H E) (m := Option) wd0 W0 H [some (.frz ((eTup eInt) now_)), some (.frz ((eTup eInt) ago_)), none, none, none, none] (defBody (topS 14)) (eTup eInt) (m__law_next_row now_ ago_) :=
  have nd := sc7.nd
  (SL.atR (R' := [some (.frz ((eTup eInt) now_)), some (.frz ((eTup eInt) ago_)), none, none, none, none]) (SL.asc (sl_setO (i := 2) (ea := eInt) nd rfl (.inl rfl) (ltR 6 rfl rfl) (so_nil (ea := eInt)) (fun found_ => (SL.atR (R' := [some (.frz ((eTup eInt) now_)), some (.frz ((eTup eInt) ago_)), some (.own (List.map eInt found_)), none, none, none]) (SL.asc2 (sl_forP (Rl := fun d : (List Int) => [some (.frz ((eTup eInt) now_)), some (.frz ((eTup eInt) ago_)), some (.own (List.map eInt d)), none, none, none]) (d0 := found_) (g := (gName 3)) (is := [3]) (dts := (fun a => [eInt a])) PassesOwn.never rfl (SI.eq (si_range1 rfl T.z_range (SX.b (se_lenT (ea := eInt) rfl T.z_len (SX.b (se_var (ea := (eTup eInt)) (d := now_) (i := 0) rfl (.inr (.inl rfl)) rfl rfl rfl))))) (by first | rfl | (simp only [pure_bind, bind_assoc, bind_pure, tt_if, bif_and, bif_or]; done) | (simp only [pure_bind, bind_assoc, bind_pure, tt_if, bif_and, bif_or]; rfl))) (pg_name (i := 3) nd rfl (.inl rfl)) g_name (subC (subC (subC (subN (subN (subN subE)))))) (fun _ => ltAll 6 rfl rfl) (fun k_ d_ => (SL.atR (R' := [some (.frz ((eTup eInt) now_)), some (.frz ((eTup eInt) ago_)), some (.own (List.map eInt d_)), some (.frz (eInt k_)), none, none]) (SL.asc (sl_setLc (eb := eInt) (i := 4) (own := [("n", 5)]) (g := (gName 5)) (is := [5]) (dts := (fun a => [eInt a])) (mt := fun n_ => (pure ((decide ((0 : Int) ≤ n_)) && (decide (n_ < (now_.length : Int)))))) (me := fun n_ => (fromO (L2.atI now_ n_))) rfl rfl (ltR 6 rfl rfl) (sw_true rfl rfl rfl rfl) rfl nd (si_tup (ea := eInt) (SX.b (se_tupH (ea := eInt) (f := (fun g => [g.1, g.2])) (sa_cons (ea := eInt) (eg := fun g : Int => [eInt g]) (se_sub (SX.b (se_var (ea := eInt) (d := k_) (i := 3) rfl (.inl rfl) rfl rfl rfl)) (SX.b se_int)) (sa_one (ea := eInt) (se_add (SX.b (se_var (ea := eInt) (d := k_) (i := 3) rfl (.inl rfl) rfl rfl rfl)) (SX.b se_int)))) (fun _ => rfl) (fun _ => Nat.le_of_ble_eq_true rfl))) (fun h => h.firms)) (blkOk_by rfl) (fun _ _ _ _ _ => (pg_name (i := 5) nd rfl (.inl rfl))) g_name (by decide) (ltAll 6 rfl rfl) (fun n_ _ _ _ _ _ => (SIf.eq (sf_one (SW.t (sw_and (SC.t (sc_le (SX.b se_int) (SX.b (se_var (ea := eInt) (d := n_) (i := 5) rfl (.inl rfl) rfl rfl rfl))) rfl) (sw_and1 (SC.t (sc_lt (SX.b (se_var (ea := eInt) (d := n_) (i := 5) rfl (.inl rfl) rfl rfl rfl)) (SX.b (se_lenT (ea := eInt) rfl T.z_len (SX.b (se_var (ea := (eTup eInt)) (d := now_) (i := 0) rfl (.inr (.inl rfl)) rfl rfl rfl))))) rfl))))) (by first | rfl | (simp only [pure_bind, bind_assoc, bind_pure, tt_if, bif_and, bif_or]; done) | (simp only [pure_bind, bind_assoc, bind_pure, tt_if, bif_and, bif_or]; rfl)))) (fun n_ _ _ _ _ _ => (SX.eq (se_ixT (ea := eInt) (SX.b (se_var (ea := (eTup eInt)) (d := now_) (i := 0) rfl (.inr (.inl rfl)) rfl rfl rfl)) (SX.b (se_var (ea := eInt) (d := n_) (i := 5) rfl (.inl rfl) rfl rfl rfl)) (fun _ _ => rfl)) (by first | rfl | (simp only [pure_bind, bind_assoc, bind_pure, tt_if, bif_and, bif_or]; done) | (simp only [pure_bind, bind_assoc, bind_pure, tt_if, bif_and, bif_or]; rfl)))) (by first | rfl | (simp only [pure_bind, bind_assoc, bind_pure, tt_if, bif_and, bif_or]; done) | (simp only [pure_bind, bind_assoc, bind_pure, tt_if, bif_and, bif_or]; rfl)) (fun near_ => (SL.lock 4 rfl (SL.atR (R' := [some (.frz ((eTup eInt) now_)), some (.frz ((eTup eInt) ago_)), some (.own (List.map eInt d_)), some (.frz (eInt k_)), some (.frz ((eLst eInt) near_)), none]) (SL.asc2 (sl_append (i := 2) (ea := eInt) (xs := d_) rfl (.inl rfl) rfl rfl rfl (SX.eq (se_sub (SX.b (se_sumL rfl rfl T.z_sum (SX.b (se_var (ea := (eLst eInt)) (d := near_) (i := 4) rfl (.inl rfl) rfl rfl rfl)))) (SX.b (se_ixT (ea := eInt) (SX.b (se_var (ea := (eTup eInt)) (d := ago_) (i := 1) rfl (.inl rfl) rfl rfl rfl)) (SX.b (se_var (ea := eInt) (d := k_) (i := 3) rfl (.inl rfl) rfl rfl rfl)) (fun _ _ => rfl)))) (by first | rfl | (simp only [pure_bind, bind_assoc, bind_pure, tt_if, bif_and, bif_or]; done) | (simp only [pure_bind, bind_assoc, bind_pure, tt_if, bif_and, bif_or]; rfl))) (fun found_2 => (sp_nil found_2 (subC (subC (subC (subN (subN (subN subE)))))))) rfl rfl rfl rfl rfl)) rfl))))) rfl)) (fun d_2 => (SL.atR (R' := [some (.frz ((eTup eInt) now_)), some (.frz ((eTup eInt) ago_)), some (.own (List.map eInt d_2)), none, none, none]) (sf_ret (SX.eq (se_tupleL (ea := eInt) rfl T.z_tuple (sb_own (ea := eInt) (d := d_2) (i := 2) rfl (.inl rfl) rfl rfl rfl)) (by first | rfl | (simp only [pure_bind, bind_assoc, bind_pure, tt_if, bif_and, bif_or]; done) | (simp only [pure_bind, bind_assoc, bind_pure, tt_if, bif_and, bif_or]; rfl)))) rfl)) (fun _ => rfl))) rfl)) rfl (.inr rfl))) rfl)
theorem ok__law_next_row (T : Tp K mg) : FnOk P w K mg base CX0 1 T.f7 T.d7 p7 (spP K w (fun g : (List Int) × (List Int) => [(eTup eInt) g.1, (eTup eInt) g.2]) (eTup eInt) (fun g => m__law_next_row g.1 g.2)) :=
  fn_pure T.F7 sc7 (fun _ => rfl) (by decide) fun cdv A outer s H E hr g => bd__law_next_row T cdv A outer s H E hr g.1 g.2
theorem bd_gone_back (T : Tp K mg) (cdv : Value) (A : Around) (outer : List Env) (s : Shared) (H : Hp) (E : XK) (hr : Room 1 (A.deeper (envOfC "gone_back" (defScope (topS 2)) s.heap.objs.size T.f8 cdv))) (now_ : (List Int)) (later_ : (List Int)) : SF (cx0 P w K mg base N8 "gone_back" (topS 2) T.f8 cdv A outer s H E) (m := Option) wd0 W0 H [some (.frz ((eTup eInt) now_)), some (.frz ((eTup eInt) later_))] (defBody (topS 2)) (eTup eInt) (m_gone_back now_ later_) :=
  have nd := sc8.nd
  (SL.atR (R' := [some (.frz ((eTup eInt) now_)), some (.frz ((eTup eInt) later_))]) (sf_ret (SX.eq (se_call (FnOk.mono (ok_next_row T) (by decide)) hr rfl T.g0 T.F0.kp T.b0 (sa_cons (ea := (eTup eInt)) (eg := fun g : (List Int) => [(eTup eInt) g]) (se_var (ea := (eTup eInt)) (d := now_) (i := 0) rfl (.inl rfl) rfl rfl rfl) (sa_one (ea := (eTup eInt)) (se_var (ea := (eTup eInt)) (d := later_) (i := 1) rfl (.inl rfl) rfl rfl rfl))) rfl rfl rfl) (by first | rfl | (simp only [pure_bind, bind_assoc, bind_pure, tt_if, bif_and, bif_or]; done) | (simp only [pure_bind, bind_assoc, bind_pure, tt_if, bif_and, bif_or]; rfl)))) rfl)
theorem ok_gone_back (T : Tp K mg) : FnOk P w K mg base CX0 2 T.f8 T.d8 p8 (spP K w (fun g : (List Int) × (List Int) => [(eTup eInt) g.1, (eTup eInt) g.2]) (eTup eInt) (fun g => m_gone_back g.1 g.2)) :=
  fn_pure T.F8 sc8 (fun _ => rfl) (by decide) fun cdv A outer s H E hr g => bd_gone_back T cdv A outer s H E hr g.1 g.2
theorem bd_rippled (T : Tp K mg) (cdv : Value) (A : Around) (outer : List Env) (s : Shared) (H : Hp) (E : XK) (hr : Room 1 (A.deeper (envOfC "rippled" (defScope (topS 3)) s.heap.objs.size T.f9 cdv))) (now_ : (List Int)) (ago_ : (List Int)) (hours_ : Int) : SF (cx0 P w K mg base N9 "rippled" (topS 3) T.f9 cdv A outer s H E) (m := Option) wd0 W0 H [some (.frz ((eTup eInt) now_)), some (.frz ((eTup eInt) ago_)), some (.frz (eInt hours_)), none, none] (defBody (topS 3)) (eTup (eTup eInt)) (m_rippled now_ ago_ hours_) :=
  have nd := sc9.nd
  (SL.atR (R' := [some (.frz ((eTup eInt) now_)), some (.frz ((eTup eInt) ago_)), some (.frz (eInt hours_)), none, none]) (SL.asc (sl_setO (i := 3) (ea := (eTup eInt)) nd rfl (.inl rfl) (ltR 5 rfl rfl) (SX.eq (so_lst (ea := (eTup eInt)) (f := (fun g => [g])) (sa_one (ea := (eTup eInt)) (se_var (ea := (eTup eInt)) (d := now_) (i := 0) rfl (.inl rfl) rfl rfl rfl)) (fun _ => rfl) (fun _ => Nat.le_of_ble_eq_true rfl)) (by first | rfl | (simp only [pure_bind, bind_assoc, bind_pure, tt_if, bif_and, bif_or]; done) | (simp only [pure_bind, bind_assoc, bind_pure, tt_if, bif_and, bif_or]; rfl))) (fun found_ => (SL.atR (R' := [some (.frz ((eTup eInt) now_)), some (.frz ((eTup eInt) ago_)), some (.frz (eInt hours_)), some (.own (List.map (eTup eInt) found_)), none]) (SL.asc2 (sl_forP (Rl := fun d : (List Int) × (List Int) × (List (List Int)) => [some (.frz ((eTup eInt) d.1)), some (.frz ((eTup eInt) d.2.1)), some (.frz (eInt hours_)), some (.own (List.map (eTup eInt) d.2.2)), none]) (d0 := (now_, ago_, found_)) (g := (gName 4)) (is := [4]) (dts := (fun a => [eInt a])) PassesOwn.never rfl (SI.eq (si_range1 rfl T.z_range (SX.b (se_var (ea := eInt) (d := hours_) (i := 2) rfl (.inl rfl) rfl rfl rfl))) (by first | rfl | (simp only [pure_bind, bind_assoc, bind_pure, tt_if, bif_and, bif_or]; done) | (simp only [pure_bind, bind_assoc, bind_pure, tt_if, bif_and, bif_or]; rfl))) (pg_name (i := 4) nd rfl (.inl rfl)) g_name (subC (subC (subC (subC (subN subE))))) (fun _ => ltAll 5 rfl rfl) (fun __ d_ => (SL.atR (R' := [some (.frz ((eTup eInt) d_.1)), some (.frz ((eTup eInt) d_.2.1)), some (.frz (eInt hours_)), some (.own (List.map (eTup eInt) d_.2.2)), some (.frz (eInt __))]) (SL.asc (sl_par2 (i := 0) (j := 1) rfl nd rfl rfl (by decide) rfl rfl (ltAll 5 rfl rfl) (SM.eq (sm_consF (se_call (FnOk.mono (ok_next_row T) (by decide)) hr rfl T.g0 T.F0.kp T.b0 (sa_cons (ea := (eTup eInt)) (eg := fun g : (List Int) => [(eTup eInt) g]) (se_var (ea := (eTup eInt)) (d := d_.1) (i := 0) rfl (.inl rfl) rfl rfl rfl) (sa_one (ea := (eTup eInt)) (se_var (ea := (eTup eInt)) (d := d_.2.1) (i := 1) rfl (.inl rfl) rfl rfl rfl))) rfl rfl rfl) (sm_oneF (se_var (ea := (eTup eInt)) (d := d_.1) (i := 0) rfl (.inl rfl) rfl rfl rfl))) (by first | rfl | (simp only [pure_bind, bind_assoc, bind_pure, tt_if, bif_and, bif_or]; done) | (simp only [pure_bind, bind_assoc, bind_pure, tt_if, bif_and, bif_or]; rfl))) (fun _ => rfl) (fun p_ => (SL.atR (R' := [some (.frz ((eTup eInt) p_.1)), some (.frz ((eTup eInt) p_.2)), some (.frz (eInt hours_)), some (.own (List.map (eTup eInt) d_.2.2)), some (.frz (eInt __))]) (SL.asc2 (sl_append (i := 3) (ea := (eTup eInt)) (xs := d_.2.2) rfl (.inl rfl) rfl rfl rfl (se_var (ea := (eTup eInt)) (d := p_.1) (i := 0) rfl (.inl rfl) rfl rfl rfl) (fun found_2 => (sp_nil (p_.1, p_.2, found_2) (subC (subC (subC (subC (subN subE))))))) rfl rfl rfl rfl rfl)) rfl)) rfl rfl)) rfl)) (fun d_2 => (SL.atR (R' := [some (.frz ((eTup eInt) d_2.1)), some (.frz ((eTup eInt) d_2.2.1)), some (.frz (eInt hours_)), some (.own (List.map (eTup eInt) d_2.2.2)), none]) (sf_ret (SX.eq (se_tupleL (ea := (eTup eInt)) rfl T.z_tuple (sb_own (ea := (eTup eInt)) (d := d_2.2.2) (i := 3) rfl (.inl rfl) rfl rfl rfl)) (by first | rfl | (simp only [pure_bind, bind_assoc, bind_pure, tt_if, bif_and, bif_or]; done) | (simp only [pure_bind, bind_assoc, bind_pure, tt_if, bif_and, bif_or]; rfl)))) rfl)) (fun _ => rfl))) rfl)) rfl (.inr rfl))) rfl)
theorem ok_rippled (T : Tp K mg) : FnOk P w K mg base CX0 2 T.f9 T.d9 p9 (spP K w (fun g : (List Int) × (List Int) × Int => [(eTup eInt) g.1, (eTup eInt) g.2.1, eInt g.2.2]) (eTup (eTup eInt)) (fun g => m_rippled g.1 g.2.1 g.2.2)) :=
  fn_pure T.F9 sc9 (fun _ => rfl) (by decide) fun cdv A outer s H E hr g => bd_rippled T cdv A outer s H E hr g.1 g.2.1 g.2.2
theorem bd_round_hours (T : Tp K mg) (cdv : Value) (A : Around) (outer : List Env) (s : Shared) (H : Hp) (E : XK) (hr : Room 1 (A.deeper (envOfC "round_hours" (defScope (topS 4)) s.heap.objs.size T.f10 cdv))) (now_ : (List Int)) (ago_ : (List Int)) : SF (cx0 P w K mg base N10 "round_hours" (topS 4) T.f10 cdv A outer s H E) (m := Option) wd0 W0 H [some (.frz ((eTup eInt) now_)), some (.frz ((eTup eInt) ago_)), none, none] (defBody (topS 4)) eInt (m_round_hours now_ ago_) :=
  have nd := sc10.nd
  (SL.atR (R' := [some (.frz ((eTup eInt) now_)), some (.frz ((eTup eInt) ago_)), none, none]) (SL.asc (sl_par2 (i := 2) (j := 3) rfl nd rfl rfl (by decide) rfl rfl (ltAll 4 rfl rfl) (SM.eq (sm_consF (se_tup (et := (eT2 (eTup eInt) (eTup eInt))) (sa_cons (ea := (eTup eInt)) (eg := fun g : (List Int) => [(eTup eInt) g]) (se_var (ea := (eTup eInt)) (d := now_) (i := 0) rfl (.inl rfl) rfl rfl rfl) (sa_one (ea := (eTup eInt)) (se_var (ea := (eTup eInt)) (d := ago_) (i := 1) rfl (.inl rfl) rfl rfl rfl))) (fun _ => rfl) (fun _ => Nat.le_of_ble_eq_true rfl)) (sm_oneF se_int)) (by first | rfl | (simp only [pure_bind, bind_assoc, bind_pure, tt_if, bif_and, bif_or]; done) | (simp only [pure_bind, bind_assoc, bind_pure, tt_if, bif_and, bif_or]; rfl))) (fun _ => rfl) (fun p_ => (SL.atR (R' := [some (.frz ((eTup eInt) now_)), some (.frz ((eTup eInt) ago_)), some (.frz ((eT2 (eTup eInt) (eTup eInt)) p_.1)), some (.frz (eInt p_.2))]) (SL.asc (sl_whP (Rl := fun d : (List Int) × (List Int) × Int => [some (.frz ((eTup eInt) d.1)), some (.frz ((eTup eInt) d.2.1)), some (.frz ((eT2 (eTup eInt) (eTup eInt)) p_.1)), some (.frz (eInt d.2.2))]) (d0 := (now_, ago_, p_.2)) PassesOwn.never (subC (subC (subC (subC subE)))) (fun d_ => (ST.eq (SW.t (sw_or (SC.t (sc_eqT eq_int (by decide) hr.units (SX.b (se_var (ea := eInt) (d := d_.2.2) (i := 3) rfl (.inl rfl) rfl rfl rfl)) (SX.b se_int)) rfl) (sw_or1 (SC.t (sc_neT (eq_t2 (eq_tup eq_int) (eq_tup eq_int)) (by decide) hr.units (SX.b (se_tup (et := (eT2 (eTup eInt) (eTup eInt))) (sa_cons (ea := (eTup eInt)) (eg := fun g : (List Int) => [(eTup eInt) g]) (se_var (ea := (eTup eInt)) (d := d_.1) (i := 0) rfl (.inl rfl) rfl rfl rfl) (sa_one (ea := (eTup eInt)) (se_var (ea := (eTup eInt)) (d := d_.2.1) (i := 1) rfl (.inl rfl) rfl rfl rfl))) (fun _ => rfl) (fun _ => Nat.le_of_ble_eq_true rfl))) (SX.b (se_var (ea := (eT2 (eTup eInt) (eTup eInt))) (d := p_.1) (i := 2) rfl (.inl rfl) rfl rfl rfl))) rfl)))) (by first | rfl | (simp only [pure_bind, bind_assoc, bind_pure, tt_if, bif_and, bif_or]; done) | (simp only [pure_bind, bind_assoc, bind_pure, tt_if, bif_and, bif_or]; rfl)))) (fun d_ => (SL.atR (R' := [some (.frz ((eTup eInt) d_.1)), some (.frz ((eTup eInt) d_.2.1)), some (.frz ((eT2 (eTup eInt) (eTup eInt)) p_.1)), some (.frz (eInt d_.2.2))]) (SL.asc (sl_par3 (i := 0) (j := 1) (l := 3) rfl nd rfl rfl rfl (by decide) (by decide) (by decide) rfl rfl rfl (ltAll 4 rfl rfl) (SM.eq (sm_consF (se_call (FnOk.mono (ok_next_row T) (by decide)) hr rfl T.g0 T.F0.kp T.b0 (sa_cons (ea := (eTup eInt)) (eg := fun g : (List Int) => [(eTup eInt) g]) (se_var (ea := (eTup eInt)) (d := d_.1) (i := 0) rfl (.inl rfl) rfl rfl rfl) (sa_one (ea := (eTup eInt)) (se_var (ea := (eTup eInt)) (d := d_.2.1) (i := 1) rfl (.inl rfl) rfl rfl rfl))) rfl rfl rfl) (sm_consF (se_var (ea := (eTup eInt)) (d := d_.1) (i := 0) rfl (.inl rfl) rfl rfl rfl) (sm_oneF (se_add (SX.b (se_var (ea := eInt) (d := d_.2.2) (i := 3) rfl (.inl rfl) rfl rfl rfl)) (SX.b se_int))))) (by first | rfl | (simp only [pure_bind, bind_assoc, bind_pure, tt_if, bif_and, bif_or]; done) | (simp only [pure_bind, bind_assoc, bind_pure, tt_if, bif_and, bif_or]; rfl))) (fun _ => rfl) (fun p_2 => (sp_nil (p_2.1, p_2.2.1, p_2.2.2) (subC (subC (subC (subC subE)))))) rfl rfl)) rfl)) (fun d_2 => (SL.atR (R' := [some (.frz ((eTup eInt) d_2.1)), some (.frz ((eTup eInt) d_2.2.1)), some (.frz ((eT2 (eTup eInt) (eTup eInt)) p_.1)), some (.frz (eInt d_2.2.2))]) (sf_ret (se_var (ea := eInt) (d := d_2.2.2) (i := 3) rfl (.inl rfl) rfl rfl rfl)) rfl)))) rfl)) rfl rfl)) rfl)
theorem ok_round_hours (T : Tp K mg) : FnOk P w K mg base CX0 2 T.f10 T.d10 p10 (spP K w (fun g : (List Int) × (List Int) => [(eTup eInt) g.1, (eTup eInt) g.2]) eInt (fun g => m_round_hours g.1 g.2)) :=
  fn_pure T.F10 sc10 (fun _ => rfl) (by decide) fun cdv A outer s H E hr g => bd_round_hours T cdv A outer s H E hr g.1 g.2
theorem bd__law_rows (T : Tp K mg) (cdv : Value) (A : Around) (outer : List Env) (s : Shared) (H : Hp) (E : XK) (hr : Room 1 (A.deeper (envOfC "_law_rows" (defScope (topS 15)) s.heap.objs.size T.f11 cdv))) (now_ : (List Int)) (ago_ : (List Int)) (hours_ : Int) : SF (cx0 P w K mg base N11 "_law_rows" (topS 15) T.f11 cdv A outer s H E) (m := Option) wd0 W0 H [some (.frz ((eTup eInt) now_)), some (.frz ((eTup eInt) ago_)), some (.frz (eInt hours_)), none, none] (defBody (topS 15)) (eLst (eTup eInt)) (m__law_rows now_ ago_ hours_) :=
  have nd := sc11.nd
  (SL.atR (R' := [some (.frz ((eTup eInt) now_)), some (.frz ((eTup eInt) ago_)), some (.frz (eInt hours_)), none, none]) (SL.asc (sl_setO (i := 3) (ea := (eTup eInt)) nd rfl (.inl rfl) (ltR 5 rfl rfl) (SX.eq (so_lst (ea := (eTup eInt)) (f := (fun g => [g.1, g.2])) (sa_cons (ea := (eTup eInt)) (eg := fun g : (List Int) => [(eTup eInt) g]) (se_var (ea := (eTup eInt)) (d := ago_) (i := 1) rfl (.inl rfl) rfl rfl rfl) (sa_one (ea := (eTup eInt)) (se_var (ea := (eTup eInt)) (d := now_) (i := 0) rfl (.inl rfl) rfl rfl rfl))) (fun _ => rfl) (fun _ => Nat.le_of_ble_eq_true rfl)) (by first | rfl | (simp only [pure_bind, bind_assoc, bind_pure, tt_if, bif_and, bif_or]; done) | (simp only [pure_bind, bind_assoc, bind_pure, tt_if, bif_and, bif_or]; rfl))) (fun found_ => (SL.atR (R' := [some (.frz ((eTup eInt) now_)), some (.frz ((eTup eInt) ago_)), some (.frz (eInt hours_)), some (.own (List.map (eTup eInt) found_)), none]) (SL.asc2 (sl_forP (Rl := fun d : (List (List Int)) => [some (.frz ((eTup eInt) now_)), some (.frz ((eTup eInt) ago_)), some (.frz (eInt hours_)), some (.own (List.map (eTup eInt) d)), none]) (d0 := found_) (g := (gName 4)) (is := [4]) (dts := (fun a => [eInt a])) PassesOwn.never rfl (SI.eq (si_range1 rfl T.z_range (SX.b (se_var (ea := eInt) (d := hours_) (i := 2) rfl (.inl rfl) rfl rfl rfl))) (by first | rfl | (simp only [pure_bind, bind_assoc, bind_pure, tt_if, bif_and, bif_or]; done) | (simp only [pure_bind, bind_assoc, bind_pure, tt_if, bif_and, bif_or]; rfl))) (pg_name (i := 4) nd rfl (.inl rfl)) g_name (subC (subC (subC (subC (subN subE))))) (fun _ => ltAll 5 rfl rfl) (fun hour_ d_ => (SL.atR (R' := [some (.frz ((eTup eInt) now_)), some (.frz ((eTup eInt) ago_)), some (.frz (eInt hours_)), some (.own (List.map (eTup eInt) d_)), some (.frz (eInt hour_))]) (SL.asc2 (sl_append (i := 3) (ea := (eTup eInt)) (xs := d_) rfl (.inl rfl) rfl rfl rfl (SX.eq (se_call (FnOk.mono (ok__law_next_row T) (by decide)) hr rfl T.g7 T.F7.kp T.b7 (sa_cons (ea := (eTup eInt)) (eg := fun g : (List Int) => [(eTup eInt) g]) (se_ixL (ea := (eTup eInt)) (sb_own (ea := (eTup eInt)) (d := d_) (i := 3) rfl (.inl rfl) rfl rfl rfl) (SX.b (se_neg (SX.b se_int))) (fun _ _ => rfl)) (sa_one (ea := (eTup eInt)) (se_ixL (ea := (eTup eInt)) (sb_own (ea := (eTup eInt)) (d := d_) (i := 3) rfl (.inl rfl) rfl rfl rfl) (SX.b (se_neg (SX.b se_int))) (fun _ _ => rfl)))) rfl rfl rfl) (by first | rfl | (simp only [pure_bind, bind_assoc, bind_pure, tt_if, bif_and, bif_or]; done) | (simp only [pure_bind, bind_assoc, bind_pure, tt_if, bif_and, bif_or]; rfl))) (fun found_2 => (sp_nil found_2 (subC (subC (subC (subC (subN subE))))))) rfl rfl rfl rfl rfl)) rfl)) (fun d_2 => (SL.lock 3 rfl (SL.atR (R' := [some (.frz ((eTup eInt) now_)), some (.frz ((eTup eInt) ago_)), some (.frz (eInt hours_)), some (.frz ((eLst (eTup eInt)) d_2)), none]) (sf_ret (se_var (ea := (eLst (eTup eInt))) (d := d_2) (i := 3) rfl (.inl rfl) rfl rfl rfl)) rfl))) (fun _ => rfl))) rfl)) rfl (.inr rfl))) rfl)
theorem ok__law_rows (T : Tp K mg) : FnOk P w K mg base CX0 2 T.f11 T.d11 p11 (spP K w (fun g : (List Int) × (List Int) × Int => [(eTup eInt) g.1, (eTup eInt) g.2.1, eInt g.2.2]) (eLst (eTup eInt)) (fun g => m__law_rows g.1 g.2.1 g.2.2)) :=
  fn_pure T.F11 sc11 (fun _ => rfl) (by decide) fun cdv A outer s H E hr g => bd__law_rows T cdv A outer s H E hr g.1 g.2.1 g.2.2
theorem bd_seen_at (T : Tp K mg) (cdv : Value) (A : Around) (outer : List Env) (s : Shared) (H : Hp) (E : XK) (hr : Room 2 (A.deeper (envOfC "seen_at" (defScope (topS 8)) s.heap.objs.size T.f12 cdv))) (now_ : (List Int)) (ago_ : (List Int)) (place_ : Int) (hours_ : Int) : SF (cx0 P w K mg base N12 "seen_at" (topS 8) T.f12 cdv A outer s H E) (m := Option) wd0 W0 H [some (.frz ((eTup eInt) now_)), some (.frz ((eTup eInt) ago_)), some (.frz (eInt place_)), some (.frz (eInt hours_)), none] (defBody (topS 8)) (eTup eInt) (m_seen_at now_ ago_ place_ hours_) :=
  have nd := sc12.nd
  (SL.atR (R' := [some (.frz ((eTup eInt) now_)), some (.frz ((eTup eInt) ago_)), some (.frz (eInt place_)), some (.frz (eInt hours_)), none]) (sf_ret (SX.eq (se_tupleL (ea := eInt) rfl T.z_tuple (SX.ob (so_comp (eb := eInt) (own := [("row", 4)]) (g := (gName 4)) (is := [4]) (dts := (fun a => [(eTup eInt) a])) (mt := fun row_ => pure true) (me := fun row_ => (fromO (L2.atI row_ place_))) rfl nd (si_tup (ea := (eTup eInt)) (SX.b (se_call (FnOk.mono (ok_rippled T) (by decide)) hr rfl T.g9 T.F9.kp T.b9 (sa_cons (ea := (eTup eInt)) (eg := fun g : (List Int) × Int => [(eTup eInt) g.1, eInt g.2]) (se_var (ea := (eTup eInt)) (d := now_) (i := 0) rfl (.inl rfl) rfl rfl rfl) (sa_cons (ea := (eTup eInt)) (eg := fun g : Int => [eInt g]) (se_var (ea := (eTup eInt)) (d := ago_) (i := 1) rfl (.inl rfl) rfl rfl rfl) (sa_one (ea := eInt) (se_var (ea := eInt) (d := hours_) (i := 3) rfl (.inl rfl) rfl rfl rfl)))) rfl rfl rfl)) (fun h => h.firms)) (blkOk_by rfl) (fun _ _ _ _ _ => (pg_name (i := 4) nd rfl (.inl rfl))) g_name (by decide) (ltAll 5 rfl rfl) (fun row_ _ _ _ _ _ => sf_nil) (fun row_ _ _ _ _ _ => (SX.eq (se_ixT (ea := eInt) (SX.b (se_var (ea := (eTup eInt)) (d := row_) (i := 4) rfl (.inl rfl) rfl rfl rfl)) (SX.b (se_var (ea := eInt) (d := place_) (i := 2) rfl (.inr (.inl rfl)) rfl rfl rfl)) (fun _ _ => rfl)) (by first | rfl | (simp only [pure_bind, bind_assoc, bind_pure, tt_if, bif_and, bif_or]; done) | (simp only [pure_bind, bind_assoc, bind_pure, tt_if, bif_and, bif_or]; rfl))))))) (by first | rfl | (simp only [pure_bind, bind_assoc, bind_pure, tt_if, bif_and, bif_or]; done) | (simp only [pure_bind, bind_assoc, bind_pure, tt_if, bif_and, bif_or]; rfl)))) rfl)
theorem ok_seen_at (T : Tp K mg) : FnOk P w K mg base CX0 3 T.f12 T.d12 p12 (spP K w (fun g : (List Int) × (List Int) × Int × Int => [(eTup eInt) g.1, (eTup eInt) g.2.1, eInt g.2.2.1, eInt g.2.2.2]) (eTup eInt) (fun g => m_seen_at g.1 g.2.1 g.2.2.1 g.2.2.2)) :=
  fn_pure T.F12 sc12 (fun _ => rfl) (by decide) fun cdv A outer s H E hr g => bd_seen_at T cdv A outer s H E hr g.1 g.2.1 g.2.2.1 g.2.2.2
theorem bd_first_wet (T : Tp K mg) (cdv : Value) (A : Around) (outer : List Env) (s : Shared) (H : Hp) (E : XK) (hr : Room 3 (A.deeper (envOfC "first_wet" (defScope (topS 9)) s.heap.objs.size T.f13 cdv))) (long_ : Int) (place_ : Int) (goal_ : Int) : SF (cx0 P w K mg base N13 "first_wet" (topS 9) T.f13 cdv A outer s H E) (m := Option) wd0 W0 H [some (.frz (eInt long_)), some (.frz (eInt place_)), some (.frz (eInt goal_)), none, none, none, none, none] (defBody (topS 9)) (eOpt eInt) (m_first_wet long_ place_ goal_) :=
  have nd := sc13.nd
  (SL.atR (R' := [some (.frz (eInt long_)), some (.frz (eInt place_)), some (.frz (eInt goal_)), none, none, none, none, none]) (SL.asc (sl_unpack (g := (gTup _ 2 (gNames [3, 4]))) (is := [3, 4]) (dts := (fun a : ((List Int) × (List Int)) => [(eTup eInt) a.1, (eTup eInt) a.2])) (pg_tup rfl (pgs_cons (pg_name (i := 3) nd rfl (.inl rfl)) (pgs_cons (pg_name (i := 4) nd rfl (.inl rfl)) pgs_nil))) (g_tup (is := [3, 4]) (dts := (fun a : ((List Int) × (List Int)) => [(eTup eInt) a.1, (eTup eInt) a.2])) (fun _ => rfl) (fun _ => rfl)) (ltAll 8 rfl rfl) (SX.eq (se_call (FnOk.mono (ok_dropped_in T) (by decide)) hr rfl T.g3 T.F3.kp T.b3 (sa_cons (ea := eInt) (eg := fun g : Int => [eInt g]) (se_var (ea := eInt) (d := long_) (i := 0) rfl (.inl rfl) rfl rfl rfl) (sa_one (ea := eInt) (se_var (ea := eInt) (d := place_) (i := 1) rfl (.inl rfl) rfl rfl rfl))) rfl rfl rfl) (by first | rfl | (simp only [pure_bind, bind_assoc, bind_pure, tt_if, bif_and, bif_or]; done) | (simp only [pure_bind, bind_assoc, bind_pure, tt_if, bif_and, bif_or]; rfl))) (fun p_ => (SL.atR (R' := [some (.frz (eInt long_)), some (.frz (eInt place_)), some (.frz (eInt goal_)), some (.frz ((eTup eInt) p_.1)), some (.frz ((eTup eInt) p_.2)), none, none, none]) (SL.asc (sl_set (i := 5) (ea := (eTup eInt)) nd rfl (.inr rfl) (ltR 8 rfl rfl) (SX.eq (se_call (FnOk.mono (ok_seen_at T) (by decide)) hr rfl T.g12 T.F12.kp T.b12 (sa_cons (ea := (eTup eInt)) (eg := fun g : (List Int) × Int × Int => [(eTup eInt) g.1, eInt g.2.1, eInt g.2.2]) (se_var (ea := (eTup eInt)) (d := p_.1) (i := 3) rfl (.inl rfl) rfl rfl rfl) (sa_cons (ea := (eTup eInt)) (eg := fun g : Int × Int => [eInt g.1, eInt g.2]) (se_var (ea := (eTup eInt)) (d := p_.2) (i := 4) rfl (.inl rfl) rfl rfl rfl) (sa_cons (ea := eInt) (eg := fun g : Int => [eInt g]) (se_var (ea := eInt) (d := goal_) (i := 2) rfl (.inl rfl) rfl rfl rfl) (sa_one (ea := eInt) (se_mul (SX.b se_int) (SX.b (se_var (ea := eInt) (d := long_) (i := 0) rfl (.inl rfl) rfl rfl rfl))))))) rfl rfl rfl) (by first | rfl | (simp only [pure_bind, bind_assoc, bind_pure, tt_if, bif_and, bif_or]; done) | (simp only [pure_bind, bind_assoc, bind_pure, tt_if, bif_and, bif_or]; rfl))) (fun told_ => (SL.atR (R' := [some (.frz (eInt long_)), some (.frz (eInt place_)), some (.frz (eInt goal_)), some (.frz ((eTup eInt) p_.1)), some (.frz ((eTup eInt) p_.2)), some (.frz ((eTup eInt) told_)), none, none]) (SL.asc (sl_setLc (eb := eInt) (i := 6) (own := [("hour", 7)]) (g := (gName 7)) (is := [7]) (dts := (fun a => [eInt a])) (mt := fun hour_ => (fromO (L2.atI told_ hour_) >>= fun v5 => pure (!decide (v5 = (0 : Int))))) (me := fun hour_ => (pure hour_)) rfl rfl (ltR 8 rfl rfl) (sw_true rfl rfl rfl rfl) rfl nd (si_range1 rfl T.z_range (SX.b (se_lenT (ea := eInt) rfl T.z_len (SX.b (se_var (ea := (eTup eInt)) (d := told_) (i := 5) rfl (.inr (.inl rfl)) rfl rfl rfl))))) (blkOk_by rfl) (fun _ _ _ _ _ => (pg_name (i := 7) nd rfl (.inl rfl))) g_name (by decide) (ltAll 8 rfl rfl) (fun hour_ _ _ _ _ _ => (SIf.eq (sf_one (SC.t (sc_neT eq_int (by decide) hr.units (SX.b (se_ixT (ea := eInt) (SX.b (se_var (ea := (eTup eInt)) (d := told_) (i := 5) rfl (.inr (.inl rfl)) rfl rfl rfl)) (SX.b (se_var (ea := eInt) (d := hour_) (i := 7) rfl (.inl rfl) rfl rfl rfl)) (fun _ _ => rfl))) (SX.b se_int)) rfl)) (by first | rfl | (simp only [pure_bind, bind_assoc, bind_pure, tt_if, bif_and, bif_or]; done) | (simp only [pure_bind, bind_assoc, bind_pure, tt_if, bif_and, bif_or]; rfl)))) (fun hour_ _ _ _ _ _ => (se_var (ea := eInt) (d := hour_) (i := 7) rfl (.inl rfl) rfl rfl rfl)) (by first | rfl | (simp only [pure_bind, bind_assoc, bind_pure, tt_if, bif_and, bif_or]; done) | (simp only [pure_bind, bind_assoc, bind_pure, tt_if, bif_and, bif_or]; rfl)) (fun able_ => (SL.lock 6 rfl (SL.atR (R' := [some (.frz (eInt long_)), some (.frz (eInt place_)), some (.frz (eInt goal_)), some (.frz ((eTup eInt) p_.1)), some (.frz ((eTup eInt) p_.2)), some (.frz ((eTup eInt) told_)), some (.frz ((eLst eInt) able_)), none]) (sf_ret (SX.eq (sx_if kF_ok (SC.t (sc_neT (eq_lst eq_int) (by decide) hr.units (SX.b (se_var (ea := (eLst eInt)) (d := able_) (i := 6) rfl (.inl rfl) rfl rfl rfl)) (SX.ob (so_nil (ea := eInt)))) rfl) (SX.map (e := eInt) (se_ixL (ea := eInt) (SX.b (se_var (ea := (eLst eInt)) (d := able_) (i := 6) rfl (.inl rfl) rfl rfl rfl)) (SX.b se_int) (fun _ _ => rfl)) kF_ok some (fun _ => rfl)) (SX.map (e := eNon) se_non kF_ok (fun _ => none) (fun _ => rfl))) (by first | rfl | (simp only [pure_bind, bind_assoc, bind_pure, tt_if, bif_and, bif_or]; done) | (simp only [pure_bind, bind_assoc, bind_pure, tt_if, bif_and, bif_or]; rfl)))) rfl))))) rfl)) rfl (.inl rfl))) rfl)) rfl rfl rfl)) rfl)
theorem ok_first_wet (T : Tp K mg) : FnOk P w K mg base CX0 4 T.f13 T.d13 p13 (spP K w (fun g : Int × Int × Int => [eInt g.1, eInt g.2.1, eInt g.2.2]) (eOpt eInt) (fun g => m_first_wet g.1 g.2.1 g.2.2)) :=
  fn_pure T.F13 sc13 (fun _ => rfl) (by decide) fun cdv A outer s H E hr g => bd_first_wet T cdv A outer s H E hr g.1 g.2.1 g.2.2
theorem bd_lawb (T : Tp K mg) (cdv : Value) (A : Around) (outer : List Env) (s : Shared) (H : Hp) (E : XK) (aw : Addr) (hr : Room 4 (A.deeper (envOfC "law" (defScope (topS 16)) s.heap.objs.size T.f14 cdv))) (script_ : List Int) : SF (cx0 P w K mg base N14 "law" (topS 16) T.f14 cdv A outer s H E) (m := WM DW) (drawsW aw) W0 H [some (.scr script_), some (.adr aw), none, none, none, none, none, none, none, none, none, none, none, none, none, none, none, none, none, none, none, none, none, none, none] ((defBody (topS 16)).drop 1) eBool (m_lawb script_) :=
  have nd := sc14.nd
  have huw : _ := Nat.lt_of_le_of_lt (Nat.add_le_add_left (by decide : 1 ≤ 64) _) hr.units
  (SL.atR (R' := [some (.scr script_), some (.adr aw), none, none, none, none, none, none, none, none, none, none, none, none, none, none, none, none, none, none, none, none, none, none, none]) (sf_forG (Rl := fun d : Unit => [some (.scr script_), some (.adr aw), none, none, none, none, none, none, none, none, none, none, none, none, none, none, none, none, none, none, none, none, none, none, none]) (d0 := ()) (g := (gName 2)) (is := [2]) (dts := (fun a => [eInt a])) PassesOwn.never rfl (SI.eq (si_range1 rfl T.z_range (SX.b se_int)) (by first | rfl | (simp only [pure_bind, bind_assoc, bind_pure, tt_if, bif_and, bif_or]; done) | (simp only [pure_bind, bind_assoc, bind_pure, tt_if, bif_and, bif_or]; rfl))) (pg_name (i := 2) nd rfl (.inl rfl)) g_name (subC (subC (subN (subN (subN (subN (subN (subN (subN (subN (subN (subN (subN (subN (subN (subN (subN (subN (subN (subN (subN (subN (subN (subN (subN subE))))))))))))))))))))))))) (fun _ => ltAll 25 rfl rfl) (fun turn_ d_ => (SL.atR (R' := [some (.scr script_), some (.adr aw), some (.frz (eInt turn_)), none, none, none, none, none, none, none, none, none, none, none, none, none, none, none, none, none, none, none, none, none, none]) (sl_set (i := 3) (ea := eInt) nd rfl (.inr rfl) (ltR 25 rfl rfl) (SX.eq (se_add (SX.b se_int) (SX.b (se_callW (i := 1) (FnOk.mono (ok__law_next T) (by decide)) hr rfl T.g6 T.F6.kp T.b6 rfl (.inr (.inl rfl)) rfl rfl rfl (sa_one (ea := eInt) se_int) rfl rfl rfl))) (by first | rfl | (simp only [pure_bind, bind_assoc, bind_pure, tt_if, bif_and, bif_or]; done) | (simp only [pure_bind, bind_assoc, bind_pure, tt_if, bif_and, bif_or]; rfl))) (fun long_ => (SL.atR (R' := [some (.scr script_), some (.adr aw), some (.frz (eInt turn_)), some (.frz (eInt long_)), none, none, none, none, none, none, none, none, none, none, none, none, none, none, none, none, none, none, none, none, none]) (sl_parN (n := 0) (is := [4, 5]) rfl (pg_tup rfl (pgs_cons (pg_name (i := 4) nd rfl (.inr rfl)) (pgs_cons (pg_name (i := 5) nd rfl (.inr rfl)) pgs_nil))) (ltAll 25 rfl rfl) (SM.eq (sm_consF (se_tupleL (ea := eInt) rfl T.z_tuple (SX.ob (so_comp (eb := eInt) (own := [("k", 21)]) (g := (gName 21)) (is := [21]) (dts := (fun a => [eInt a])) (mt := fun k_ => pure true) (me := fun k_ => (m__law_next (7 : Int) >>= fun v4 => pure (v4 - (3 : Int)))) rfl nd (si_range1 rfl T.z_range (SX.b (se_var (ea := eInt) (d := long_) (i := 3) rfl (.inr (.inl rfl)) rfl rfl rfl))) (blkOk_by rfl) (fun _ _ _ _ _ => (pg_name (i := 21) nd rfl (.inl rfl))) g_name (by decide) (ltAll 25 rfl rfl) (fun k_ _ _ _ _ _ => sf_nil) (fun k_ _ _ _ _ _ => (SX.eq (se_sub (SX.b (se_callW (i := 1) (FnOk.mono (ok__law_next T) (by decide)) hr rfl T.g6 T.F6.kp T.b6 rfl (.inr (.inl rfl)) rfl rfl rfl (sa_one (ea := eInt) se_int) rfl rfl rfl)) (SX.b se_int)) (by first | rfl | (simp only [pure_bind, bind_assoc, bind_pure, tt_if, bif_and, bif_or]; done) | (simp only [pure_bind, bind_assoc, bind_pure, tt_if, bif_and, bif_or]; rfl))))))) (sm_oneF (se_tupleL (ea := eInt) rfl T.z_tuple (SX.ob (so_comp (eb := eInt) (own := [("k", 21)]) (g := (gName 21)) (is := [21]) (dts := (fun a => [eInt a])) (mt := fun k_2 => pure true) (me := fun k_2 => (m__law_next (7 : Int) >>= fun v7 => pure (v7 - (3 : Int)))) rfl nd (si_range1 rfl T.z_range (SX.b (se_var (ea := eInt) (d := long_) (i := 3) rfl (.inr (.inl rfl)) rfl rfl rfl))) (blkOk_by rfl) (fun _ _ _ _ _ => (pg_name (i := 21) nd rfl (.inl rfl))) g_name (by decide) (ltAll 25 rfl rfl) (fun k_2 _ _ _ _ _ => sf_nil) (fun k_2 _ _ _ _ _ => (SX.eq (se_sub (SX.b (se_callW (i := 1) (FnOk.mono (ok__law_next T) (by decide)) hr rfl T.g6 T.F6.kp T.b6 rfl (.inr (.inl rfl)) rfl rfl rfl (sa_one (ea := eInt) se_int) rfl rfl rfl)) (SX.b se_int)) (by first | rfl | (simp only [pure_bind, bind_assoc, bind_pure, tt_if, bif_and, bif_or]; done) | (simp only [pure_bind, bind_assoc, bind_pure, tt_if, bif_and, bif_or]; rfl))))))))) (by first | rfl | (simp only [pure_bind, bind_assoc, bind_pure, tt_if, bif_and, bif_or]; done) | (simp only [pure_bind, bind_assoc, bind_pure, tt_if, bif_and, bif_or]; rfl))) (fun _ => rfl) (by decide) (fun p_ => (SL.atR (R' := [some (.scr script_), some (.adr aw), some (.frz (eInt turn_)), some (.frz (eInt long_)), some (.frz ((eTup eInt) p_.1)), some (.frz ((eTup eInt) p_.2)), none, none, none, none, none, none, none, none, none, none, none, none, none, none, none, none, none, none, none]) (sl_parN (n := 0) (is := [6, 7]) rfl (pg_tup rfl (pgs_cons (pg_name (i := 6) nd rfl (.inr rfl)) (pgs_cons (pg_name (i := 7) nd rfl (.inl rfl)) pgs_nil))) (ltAll 25 rfl rfl) (SM.eq (sm_consF (se_call (FnOk.mono (ok__law_rows T) (by decide)) hr rfl T.g11 T.F11.kp T.b11 (sa_cons (ea := (eTup eInt)) (eg := fun g : (List Int) × Int => [(eTup eInt) g.1, eInt g.2]) (se_var (ea := (eTup eInt)) (d := p_.1) (i := 4) rfl (.inr (.inl rfl)) rfl rfl rfl) (sa_cons (ea := (eTup eInt)) (eg := fun g : Int => [eInt g]) (se_var (ea := (eTup eInt)) (d := p_.2) (i := 5) rfl (.inr (.inl rfl)) rfl rfl rfl) (sa_one (ea := eInt) se_int))) rfl rfl rfl) (sm_oneF (se_callW (i := 1) (FnOk.mono (ok__law_next T) (by decide)) hr rfl T.g6 T.F6.kp T.b6 rfl (.inr (.inl rfl)) rfl rfl rfl (sa_one (ea := eInt) se_int) rfl rfl rfl))) (by first | rfl | (simp only [pure_bind, bind_assoc, bind_pure, tt_if, bif_and, bif_or]; done) | (simp only [pure_bind, bind_assoc, bind_pure, tt_if, bif_and, bif_or]; rfl))) (fun _ => rfl) (by decide) (fun p_2 => (SL.atR (R' := [some (.scr script_), some (.adr aw), some (.frz (eInt turn_)), some (.frz (eInt long_)), some (.frz ((eTup eInt) p_.1)), some (.frz ((eTup eInt) p_.2)), some (.frz ((eLst (eTup eInt)) p_2.1)), some (.frz (eInt p_2.2)), none, none, none, none, none, none, none, none, none, none, none, none, none, none, none, none, none]) (sl_ifR (ST.eq (SW.t (sw_or (SC.t (sc_neT (eq_tup eq_int) (by decide) hr.units (SX.b (se_call (FnOk.mono (ok_next_row T) (by decide)) hr rfl T.g0 T.F0.kp T.b0 (sa_cons (ea := (eTup eInt)) (eg := fun g : (List Int) => [(eTup eInt) g]) (se_var (ea := (eTup eInt)) (d := p_.1) (i := 4) rfl (.inr (.inl rfl)) rfl rfl rfl) (sa_one (ea := (eTup eInt)) (se_var (ea := (eTup eInt)) (d := p_.2) (i := 5) rfl (.inr (.inl rfl)) rfl rfl rfl))) rfl rfl rfl)) (SX.b (se_ixL (ea := (eTup eInt)) (SX.b (se_var (ea := (eLst (eTup eInt))) (d := p_2.1) (i := 6) rfl (.inr (.inl rfl)) rfl rfl rfl)) (SX.b se_int) (fun _ _ => rfl)))) rfl) (sw_or (SC.t (sc_neT (eq_tup (eq_tup eq_int)) (by decide) hr.units (SX.b (se_call (FnOk.mono (ok_rippled T) (by decide)) hr rfl T.g9 T.F9.kp T.b9 (sa_cons (ea := (eTup eInt)) (eg := fun g : (List Int) × Int => [(eTup eInt) g.1, eInt g.2]) (se_var (ea := (eTup eInt)) (d := p_.1) (i := 4) rfl (.inr (.inl rfl)) rfl rfl rfl) (sa_cons (ea := (eTup eInt)) (eg := fun g : Int => [eInt g]) (se_var (ea := (eTup eInt)) (d := p_.2) (i := 5) rfl (.inr (.inl rfl)) rfl rfl rfl) (sa_one (ea := eInt) (se_var (ea := eInt) (d := p_2.2) (i := 7) rfl (.inl rfl) rfl rfl rfl)))) rfl rfl rfl)) (SX.b (se_tupleL (ea := (eTup eInt)) rfl T.z_tuple (SX.ob (so_sliceL (SX.b (se_var (ea := (eLst (eTup eInt))) (d := p_2.1) (i := 6) rfl (.inr (.inl rfl)) rfl rfl rfl)) (sq_some se_int) (sq_some (se_add (SX.b (se_var (ea := eInt) (d := p_2.2) (i := 7) rfl (.inl rfl) rfl rfl rfl)) (SX.b se_int)))))))) rfl) (sw_or1 (SC.t (sc_neT (eq_tup eq_int) (by decide) hr.units (SX.b (se_call (FnOk.mono (ok_gone_back T) (by decide)) hr rfl T.g8 T.F8.kp T.b8 (sa_cons (ea := (eTup eInt)) (eg := fun g : (List Int) => [(eTup eInt) g]) (se_var (ea := (eTup eInt)) (d := p_.1) (i := 4) rfl (.inr (.inl rfl)) rfl rfl rfl) (sa_one (ea := (eTup eInt)) (se_ixL (ea := (eTup eInt)) (SX.b (se_var (ea := (eLst (eTup eInt))) (d := p_2.1) (i := 6) rfl (.inr (.inl rfl)) rfl rfl rfl)) (SX.b se_int) (fun _ _ => rfl)))) rfl rfl rfl)) (SX.b (se_var (ea := (eTup eInt)) (d := p_.2) (i := 5) rfl (.inr (.inl rfl)) rfl rfl rfl))) rfl))))) (by first | rfl | (simp only [pure_bind, bind_assoc, bind_pure, tt_if, bif_and, bif_or]; done) | (simp only [pure_bind, bind_assoc, bind_pure, tt_if, bif_and, bif_or]; rfl))) (SL.atR (R' := [some (.scr script_), some (.adr aw), some (.frz (eInt turn_)), some (.frz (eInt long_)), some (.frz ((eTup eInt) p_.1)), some (.frz ((eTup eInt) p_.2)), some (.frz ((eLst (eTup eInt)) p_2.1)), some (.frz (eInt p_2.2)), none, none, none, none, none, none, none, none, none, none, none, none, none, none, none, none, none]) (sf_ret se_bool) rfl) (SL.atR (R' := [some (.scr script_), some (.adr aw), some (.frz (eInt turn_)), some (.frz (eInt long_)), some (.frz ((eTup eInt) p_.1)), some (.frz ((eTup eInt) p_.2)), some (.frz ((eLst (eTup eInt)) p_2.1)), some (.frz (eInt p_2.2)), none, none, none, none, none, none, none, none, none, none, none, none, none, none, none, none, none]) (sl_setLc (eb := eInt) (i := 8) (own := [("n", 20)]) (g := (gName 20)) (is := [20]) (dts := (fun a => [eInt a])) (mt := fun n_ => (fromO (L2.atI p_2.1 n_) >>= fun v20 => (if (decide (v20 = p_.2)) = true then (fromO (L2.atI p_2.1 (n_ + (1 : Int))) >>= fun v21 => pure (decide (v21 = p_.1))) else pure false))) (me := fun n_ => (pure n_)) rfl rfl (ltR 25 rfl rfl) (sw_true rfl rfl rfl rfl) rfl nd (si_range2 rfl T.z_range (SX.b se_int) (SX.b (se_add (SX.b (se_mul (SX.b se_int) (SX.b (se_var (ea := eInt) (d := long_) (i := 3) rfl (.inr (.inl rfl)) rfl rfl rfl)))) (SX.b se_int)))) (blkOk_by rfl) (fun _ _ _ _ _ => (pg_name (i := 20) nd rfl (.inl rfl))) g_name (by decide) (ltAll 25 rfl rfl) (fun n_ _ _ _ _ _ => (SIf.eq (sf_one (SW.t (sw_and (SC.t (sc_eqT (eq_tup eq_int) (by decide) hr.units (SX.b (se_ixL (ea := (eTup eInt)) (SX.b (se_var (ea := (eLst (eTup eInt))) (d := p_2.1) (i := 6) rfl (.inr (.inl rfl)) rfl rfl rfl)) (SX.b (se_var (ea := eInt) (d := n_) (i := 20) rfl (.inl rfl) rfl rfl rfl)) (fun _ _ => rfl))) (SX.b (se_var (ea := (eTup eInt)) (d := p_.2) (i := 5) rfl (.inr (.inl rfl)) rfl rfl rfl))) rfl) (sw_and1 (SC.t (sc_eqT (eq_tup eq_int) (by decide) hr.units (SX.b (se_ixL (ea := (eTup eInt)) (SX.b (se_var (ea := (eLst (eTup eInt))) (d := p_2.1) (i := 6) rfl (.inr (.inl rfl)) rfl rfl rfl)) (SX.b (se_add (SX.b (se_var (ea := eInt) (d := n_) (i := 20) rfl (.inl rfl) rfl rfl rfl)) (SX.b se_int))) (fun _ _ => rfl))) (SX.b (se_var (ea := (eTup eInt)) (d := p_.1) (i := 4) rfl (.inr (.inl rfl)) rfl rfl rfl))) rfl))))) (by first | rfl | (simp only [pure_bind, bind_assoc, bind_pure, tt_if, bif_and, bif_or]; done) | (simp only [pure_bind, bind_assoc, bind_pure, tt_if, bif_and, bif_or]; rfl)))) (fun n_ _ _ _ _ _ => (se_var (ea := eInt) (d := n_) (i := 20) rfl (.inl rfl) rfl rfl rfl)) (by first | rfl | (simp only [pure_bind, bind_assoc, bind_pure, tt_if, bif_and, bif_or]; done) | (simp only [pure_bind, bind_assoc, bind_pure, tt_if, bif_and, bif_or]; rfl)) (fun again_ => (SL.lock 8 rfl (SL.atR (R' := [some (.scr script_), some (.adr aw), some (.frz (eInt turn_)), some (.frz (eInt long_)), some (.frz ((eTup eInt) p_.1)), some (.frz ((eTup eInt) p_.2)), some (.frz ((eLst (eTup eInt)) p_2.1)), some (.frz (eInt p_2.2)), some (.frz ((eLst eInt) again_)), none, none, none, none, none, none, none, none, none, none, none, none, none, none, none, none]) (sl_ifR (ST.eq (SW.t (sw_or (SC.t (sc_eqT (eq_lst eq_int) (by decide) hr.units (SX.b (se_var (ea := (eLst eInt)) (d := again_) (i := 8) rfl (.inl rfl) rfl rfl rfl)) (SX.ob (so_nil (ea := eInt)))) rfl) (sw_or1 (SC.t (sc_neT eq_int (by decide) hr.units (SX.b (se_call (FnOk.mono (ok_round_hours T) (by decide)) hr rfl T.g10 T.F10.kp T.b10 (sa_cons (ea := (eTup eInt)) (eg := fun g : (List Int) => [(eTup eInt) g]) (se_var (ea := (eTup eInt)) (d := p_.1) (i := 4) rfl (.inr (.inl rfl)) rfl rfl rfl) (sa_one (ea := (eTup eInt)) (se_var (ea := (eTup eInt)) (d := p_.2) (i := 5) rfl (.inr (.inl rfl)) rfl rfl rfl))) rfl rfl rfl)) (SX.b (se_ixL (ea := eInt) (SX.b (se_var (ea := (eLst eInt)) (d := again_) (i := 8) rfl (.inl rfl) rfl rfl rfl)) (SX.b se_int) (fun _ _ => rfl)))) rfl)))) (by first | rfl | (simp only [pure_bind, bind_assoc, bind_pure, tt_if, bif_and, bif_or]; done) | (simp only [pure_bind, bind_assoc, bind_pure, tt_if, bif_and, bif_or]; rfl))) (SL.atR (R' := [some (.scr script_), some (.adr aw), some (.frz (eInt turn_)), some (.frz (eInt long_)), some (.frz ((eTup eInt) p_.1)), some (.frz ((eTup eInt) p_.2)), some (.frz ((eLst (eTup eInt)) p_2.1)), some (.frz (eInt p_2.2)), some (.frz ((eLst eInt) again_)), none, none, none, none, none, none, none, none, none, none, none, none, none, none, none, none]) (sf_ret se_bool) rfl) (SL.atR (R' := [some (.scr script_), some (.adr aw), some (.frz (eInt turn_)), some (.frz (eInt long_)), some (.frz ((eTup eInt) p_.1)), some (.frz ((eTup eInt) p_.2)), some (.frz ((eLst (eTup eInt)) p_2.1)), some (.frz (eInt p_2.2)), some (.frz ((eLst eInt) again_)), none, none, none, none, none, none, none, none, none, none, none, none, none, none, none, none]) (sl_set (i := 9) (ea := eInt) nd rfl (.inr rfl) (ltR 25 rfl rfl) (SX.eq (se_call (FnOk.mono (ok_energy T) (by decide)) hr rfl T.g2 T.F2.kp T.b2 (sa_cons (ea := (eTup eInt)) (eg := fun g : (List Int) => [(eTup eInt) g]) (se_var (ea := (eTup eInt)) (d := p_.1) (i := 4) rfl (.inr (.inl rfl)) rfl rfl rfl) (sa_one (ea := (eTup eInt)) (se_var (ea := (eTup eInt)) (d := p_.2) (i := 5) rfl (.inr (.inl rfl)) rfl rfl rfl))) rfl rfl rfl) (by first | rfl | (simp only [pure_bind, bind_assoc, bind_pure, tt_if, bif_and, bif_or]; done) | (simp only [pure_bind, bind_assoc, bind_pure, tt_if, bif_and, bif_or]; rfl))) (fun whole_ => (SL.atR (R' := [some (.scr script_), some (.adr aw), some (.frz (eInt turn_)), some (.frz (eInt long_)), some (.frz ((eTup eInt) p_.1)), some (.frz ((eTup eInt) p_.2)), some (.frz ((eLst (eTup eInt)) p_2.1)), some (.frz (eInt p_2.2)), some (.frz ((eLst eInt) again_)), some (.frz (eInt whole_)), none, none, none, none, none, none, none, none, none, none, none, none, none, none, none]) (sl_set (i := 10) (ea := (eLst eInt)) nd rfl (.inr rfl) (ltR 25 rfl rfl) (SX.eq (SX.f (so_comp (eb := eInt) (own := [("k", 21)]) (g := (gName 21)) (is := [21]) (dts := (fun a => [eInt a])) (mt := fun k_3 => pure true) (me := fun k_3 => ((if (decide ((0 : Int) < k_3)) = true then (fromO (L2.atI p_.2 (k_3 - (1 : Int)))) else (pure (0 : Int))) >>= fun v29 => (if (decide ((k_3 + (1 : Int)) < long_)) = true then (fromO (L2.atI p_.2 (k_3 + (1 : Int)))) else (pure (0 : Int))) >>= fun v31 => pure (v29 + v31))) rfl nd (si_range1 rfl T.z_range (SX.b (se_var (ea := eInt) (d := long_) (i := 3) rfl (.inr (.inl rfl)) rfl rfl rfl))) (blkOk_by rfl) (fun _ _ _ _ _ => (pg_name (i := 21) nd rfl (.inl rfl))) g_name (by decide) (ltAll 25 rfl rfl) (fun k_3 _ _ _ _ _ => sf_nil) (fun k_3 _ _ _ _ _ => (SX.eq (se_add (SX.b (sx_if kF_ok (SC.t (sc_gt (SX.b (se_var (ea := eInt) (d := k_3) (i := 21) rfl (.inl rfl) rfl rfl rfl)) (SX.b se_int)) rfl) (se_ixT (ea := eInt) (SX.b (se_var (ea := (eTup eInt)) (d := p_.2) (i := 5) rfl (.inr (.inl rfl)) rfl rfl rfl)) (SX.b (se_sub (SX.b (se_var (ea := eInt) (d := k_3) (i := 21) rfl (.inl rfl) rfl rfl rfl)) (SX.b se_int))) (fun _ _ => rfl)) se_int)) (SX.b (sx_if kF_ok (SC.t (sc_lt (SX.b (se_add (SX.b (se_var (ea := eInt) (d := k_3) (i := 21) rfl (.inl rfl) rfl rfl rfl)) (SX.b se_int))) (SX.b (se_var (ea := eInt) (d := long_) (i := 3) rfl (.inr (.inl rfl)) rfl rfl rfl))) rfl) (se_ixT (ea := eInt) (SX.b (se_var (ea := (eTup eInt)) (d := p_.2) (i := 5) rfl (.inr (.inl rfl)) rfl rfl rfl)) (SX.b (se_add (SX.b (se_var (ea := eInt) (d := k_3) (i := 21) rfl (.inl rfl) rfl rfl rfl)) (SX.b se_int))) (fun _ _ => rfl)) se_int))) (by first | rfl | (simp only [pure_bind, bind_assoc, bind_pure, tt_if, bif_and, bif_or]; done) | (simp only [pure_bind, bind_assoc, bind_pure, tt_if, bif_and, bif_or]; rfl)))))) (by first | rfl | (simp only [pure_bind, bind_assoc, bind_pure, tt_if, bif_and, bif_or]; done) | (simp only [pure_bind, bind_assoc, bind_pure, tt_if, bif_and, bif_or]; rfl))) (fun sides_ => (SL.atR (R' := [some (.scr script_), some (.adr aw), some (.frz (eInt turn_)), some (.frz (eInt long_)), some (.frz ((eTup eInt) p_.1)), some (.frz ((eTup eInt) p_.2)), some (.frz ((eLst (eTup eInt)) p_2.1)), some (.frz (eInt p_2.2)), some (.frz ((eLst eInt) again_)), some (.frz (eInt whole_)), some (.frz ((eLst eInt) sides_)), none, none, none, none, none, none, none, none, none, none, none, none, none, none]) (sl_set (i := 11) (ea := eInt) nd rfl (.inl rfl) (ltR 25 rfl rfl) (SX.eq (se_sub (SX.b (se_add (SX.b (se_sumL rfl rfl T.z_sum (SX.ob (so_comp (eb := eInt) (own := [("a", 23)]) (g := (gName 23)) (is := [23]) (dts := (fun a => [eInt a])) (mt := fun a_ => pure true) (me := fun a_ => (fromO (mulG a_ a_))) rfl nd (si_tup (ea := eInt) (SX.b (se_var (ea := (eTup eInt)) (d := p_.1) (i := 4) rfl (.inr (.inl rfl)) rfl rfl rfl)) (fun h => h.firms)) (blkOk_by rfl) (fun _ _ _ _ _ => (pg_name (i := 23) nd rfl (.inl rfl))) g_name (by decide) (ltAll 25 rfl rfl) (fun a_ _ _ _ _ _ => sf_nil) (fun a_ _ _ _ _ _ => (SX.eq (se_mul (SX.b (se_var (ea := eInt) (d := a_) (i := 23) rfl (.inl rfl) rfl rfl rfl)) (SX.b (se_var (ea := eInt) (d := a_) (i := 23) rfl (.inl rfl) rfl rfl rfl))) (by first | rfl | (simp only [pure_bind, bind_assoc, bind_pure, tt_if, bif_and, bif_or]; done) | (simp only [pure_bind, bind_assoc, bind_pure, tt_if, bif_and, bif_or]; rfl)))))))) (SX.b (se_sumL rfl rfl T.z_sum (SX.ob (so_comp (eb := eInt) (own := [("b", 24)]) (g := (gName 24)) (is := [24]) (dts := (fun a => [eInt a])) (mt := fun b_ => pure true) (me := fun b_ => (fromO (mulG b_ b_))) rfl nd (si_tup (ea := eInt) (SX.b (se_var (ea := (eTup eInt)) (d := p_.2) (i := 5) rfl (.inr (.inl rfl)) rfl rfl rfl)) (fun h => h.firms)) (blkOk_by rfl) (fun _ _ _ _ _ => (pg_name (i := 24) nd rfl (.inl rfl))) g_name (by decide) (ltAll 25 rfl rfl) (fun b_ _ _ _ _ _ => sf_nil) (fun b_ _ _ _ _ _ => (SX.eq (se_mul (SX.b (se_var (ea := eInt) (d := b_) (i := 24) rfl (.inl rfl) rfl rfl rfl)) (SX.b (se_var (ea := eInt) (d := b_) (i := 24) rfl (.inl rfl) rfl rfl rfl))) (by first | rfl | (simp only [pure_bind, bind_assoc, bind_pure, tt_if, bif_and, bif_or]; done) | (simp only [pure_bind, bind_assoc, bind_pure, tt_if, bif_and, bif_or]; rfl)))))))))) (SX.b (se_sumL rfl rfl T.z_sum (SX.ob (so_comp (eb := eInt) (own := [("k", 21)]) (g := (gName 21)) (is := [21]) (dts := (fun a => [eInt a])) (mt := fun k_4 => pure true) (me := fun k_4 => (fromO (L2.atI p_.1 k_4) >>= fun v38 => fromO (L2.atI sides_ k_4) >>= fun v39 => fromO (mulG v38 v39))) rfl nd (si_range1 rfl T.z_range (SX.b (se_var (ea := eInt) (d := long_) (i := 3) rfl (.inr (.inl rfl)) rfl rfl rfl))) (blkOk_by rfl) (fun _ _ _ _ _ => (pg_name (i := 21) nd rfl (.inl rfl))) g_name (by decide) (ltAll 25 rfl rfl) (fun k_4 _ _ _ _ _ => sf_nil) (fun k_4 _ _ _ _ _ => (SX.eq (se_mul (SX.b (se_ixT (ea := eInt) (SX.b (se_var (ea := (eTup eInt)) (d := p_.1) (i := 4) rfl (.inr (.inl rfl)) rfl rfl rfl)) (SX.b (se_var (ea := eInt) (d := k_4) (i := 21) rfl (.inl rfl) rfl rfl rfl)) (fun _ _ => rfl))) (SX.b (se_ixL (ea := eInt) (SX.b (se_var (ea := (eLst eInt)) (d := sides_) (i := 10) rfl (.inr (.inl rfl)) rfl rfl rfl)) (SX.b (se_var (ea := eInt) (d := k_4) (i := 21) rfl (.inl rfl) rfl rfl rfl)) (fun _ _ => rfl)))) (by first | rfl | (simp only [pure_bind, bind_assoc, bind_pure, tt_if, bif_and, bif_or]; done) | (simp only [pure_bind, bind_assoc, bind_pure, tt_if, bif_and, bif_or]; rfl))))))))) (by first | rfl | (simp only [pure_bind, bind_assoc, bind_pure, tt_if, bif_and, bif_or]; done) | (simp only [pure_bind, bind_assoc, bind_pure, tt_if, bif_and, bif_or]; rfl))) (fun due_ => (SL.atR (R' := [some (.scr script_), some (.adr aw), some (.frz (eInt turn_)), some (.frz (eInt long_)), some (.frz ((eTup eInt) p_.1)), some (.frz ((eTup eInt) p_.2)), some (.frz ((eLst (eTup eInt)) p_2.1)), some (.frz (eInt p_2.2)), some (.frz ((eLst eInt) again_)), some (.frz (eInt whole_)), some (.frz ((eLst eInt) sides_)), some (.frz (eInt due_)), none, none, none, none, none, none, none, none, none, none, none, none, none]) (sl_ifR (ST.eq (SW.t (sw_or (SC.t (sc_neT eq_int (by decide) hr.units (SX.b (se_var (ea := eInt) (d := whole_) (i := 9) rfl (.inr (.inl rfl)) rfl rfl rfl)) (SX.b (se_var (ea := eInt) (d := due_) (i := 11) rfl (.inl rfl) rfl rfl rfl))) rfl) (sw_or1 (SC.t (sc_neT (eq_lst eq_int) (by decide) hr.units (SX.ob (so_comp (eb := eInt) (own := [("k", 21)]) (g := (gName 21)) (is := [21]) (dts := (fun a => [eInt a])) (mt := fun k_5 => (fromO (L2.atI p_2.1 (k_5 + (1 : Int))) >>= fun v44 => fromO (L2.atI p_2.1 k_5) >>= fun v45 => fromO (m_energy v44 v45) >>= fun v43 => pure (!decide (v43 = whole_)))) (me := fun k_5 => (pure k_5)) rfl nd (si_range2 rfl T.z_range (SX.b se_int) (SX.b se_int)) (blkOk_by rfl) (fun _ _ _ _ _ => (pg_name (i := 21) nd rfl (.inl rfl))) g_name (by decide) (ltAll 25 rfl rfl) (fun k_5 _ _ _ _ _ => (SIf.eq (sf_one (SC.t (sc_neT eq_int (by decide) hr.units (SX.b (se_call (FnOk.mono (ok_energy T) (by decide)) hr rfl T.g2 T.F2.kp T.b2 (sa_cons (ea := (eTup eInt)) (eg := fun g : (List Int) => [(eTup eInt) g]) (se_ixL (ea := (eTup eInt)) (SX.b (se_var (ea := (eLst (eTup eInt))) (d := p_2.1) (i := 6) rfl (.inr (.inl rfl)) rfl rfl rfl)) (SX.b (se_add (SX.b (se_var (ea := eInt) (d := k_5) (i := 21) rfl (.inl rfl) rfl rfl rfl)) (SX.b se_int))) (fun _ _ => rfl)) (sa_one (ea := (eTup eInt)) (se_ixL (ea := (eTup eInt)) (SX.b (se_var (ea := (eLst (eTup eInt))) (d := p_2.1) (i := 6) rfl (.inr (.inl rfl)) rfl rfl rfl)) (SX.b (se_var (ea := eInt) (d := k_5) (i := 21) rfl (.inl rfl) rfl rfl rfl)) (fun _ _ => rfl)))) rfl rfl rfl)) (SX.b (se_var (ea := eInt) (d := whole_) (i := 9) rfl (.inr (.inl rfl)) rfl rfl rfl))) rfl)) (by first | rfl | (simp only [pure_bind, bind_assoc, bind_pure, tt_if, bif_and, bif_or]; done) | (simp only [pure_bind, bind_assoc, bind_pure, tt_if, bif_and, bif_or]; rfl)))) (fun k_5 _ _ _ _ _ => (se_var (ea := eInt) (d := k_5) (i := 21) rfl (.inl rfl) rfl rfl rfl)))) (SX.ob (so_nil (ea := eInt)))) rfl)))) (by first | rfl | (simp only [pure_bind, bind_assoc, bind_pure, tt_if, bif_and, bif_or]; done) | (simp only [pure_bind, bind_assoc, bind_pure, tt_if, bif_and, bif_or]; rfl))) (SL.atR (R' := [some (.scr script_), some (.adr aw), some (.frz (eInt turn_)), some (.frz (eInt long_)), some (.frz ((eTup eInt) p_.1)), some (.frz ((eTup eInt) p_.2)), some (.frz ((eLst (eTup eInt)) p_2.1)), some (.frz (eInt p_2.2)), some (.frz ((eLst eInt) again_)), some (.frz (eInt whole_)), some (.frz ((eLst eInt) sides_)), some (.frz (eInt due_)), none, none, none, none, none, none, none, none, none, none, none, none, none]) (sf_ret se_bool) rfl) (SL.atR (R' := [some (.scr script_), some (.adr aw), some (.frz (eInt turn_)), some (.frz (eInt long_)), some (.frz ((eTup eInt) p_.1)), some (.frz ((eTup eInt) p_.2)), some (.frz ((eLst (eTup eInt)) p_2.1)), some (.frz (eInt p_2.2)), some (.frz ((eLst eInt) again_)), some (.frz (eInt whole_)), some (.frz ((eLst eInt) sides_)), some (.frz (eInt due_)), none, none, none, none, none, none, none, none, none, none, none, none, none]) (sl_parN (n := 0) (is := [12, 13]) rfl (pg_tup rfl (pgs_cons (pg_name (i := 12) nd rfl (.inr rfl)) (pgs_cons (pg_name (i := 13) nd rfl (.inr rfl)) pgs_nil))) (ltAll 25 rfl rfl) (SM.eq (sm_consF (se_callW (i := 1) (FnOk.mono (ok__law_next T) (by decide)) hr rfl T.g6 T.F6.kp T.b6 rfl (.inr (.inl rfl)) rfl rfl rfl (sa_one (ea := eInt) (se_var (ea := eInt) (d := long_) (i := 3) rfl (.inr (.inl rfl)) rfl rfl rfl)) rfl rfl rfl) (sm_oneF (se_callW (i := 1) (FnOk.mono (ok__law_next T) (by decide)) hr rfl T.g6 T.F6.kp T.b6 rfl (.inr (.inl rfl)) rfl rfl rfl (sa_one (ea := eInt) (se_var (ea := eInt) (d := long_) (i := 3) rfl (.inr (.inl rfl)) rfl rfl rfl)) rfl rfl rfl))) (by first | rfl | (simp only [pure_bind, bind_assoc, bind_pure, tt_if, bif_and, bif_or]; done) | (simp only [pure_bind, bind_assoc, bind_pure, tt_if, bif_and, bif_or]; rfl))) (fun _ => rfl) (by decide) (fun p_3 => (SL.atR (R' := [some (.scr script_), some (.adr aw), some (.frz (eInt turn_)), some (.frz (eInt long_)), some (.frz ((eTup eInt) p_.1)), some (.frz ((eTup eInt) p_.2)), some (.frz ((eLst (eTup eInt)) p_2.1)), some (.frz (eInt p_2.2)), some (.frz ((eLst eInt) again_)), some (.frz (eInt whole_)), some (.frz ((eLst eInt) sides_)), some (.frz (eInt due_)), some (.frz (eInt p_3.1)), some (.frz (eInt p_3.2)), none, none, none, none, none, none, none, none, none, none, none]) (sl_ifR (ST.eq (SC.t (sc_neT (eq_tup eq_int) (by decide) hr.units (SX.b (se_call (FnOk.mono (ok_seen_at T) (by decide)) hr rfl T.g12 T.F12.kp T.b12 (sa_cons (ea := (eTup eInt)) (eg := fun g : (List Int) × Int × Int => [(eTup eInt) g.1, eInt g.2.1, eInt g.2.2]) (se_var (ea := (eTup eInt)) (d := p_.1) (i := 4) rfl (.inr (.inl rfl)) rfl rfl rfl) (sa_cons (ea := (eTup eInt)) (eg := fun g : Int × Int => [eInt g.1, eInt g.2]) (se_var (ea := (eTup eInt)) (d := p_.2) (i := 5) rfl (.inr (.inl rfl)) rfl rfl rfl) (sa_cons (ea := eInt) (eg := fun g : Int => [eInt g]) (se_var (ea := eInt) (d := p_3.1) (i := 12) rfl (.inr (.inl rfl)) rfl rfl rfl) (sa_one (ea := eInt) (se_var (ea := eInt) (d := p_2.2) (i := 7) rfl (.inl rfl) rfl rfl rfl))))) rfl rfl rfl)) (SX.b (se_tupleL (ea := eInt) rfl T.z_tuple (SX.ob (so_comp (eb := eInt) (own := [("row", 22)]) (g := (gName 22)) (is := [22]) (dts := (fun a => [(eTup eInt) a])) (mt := fun row_ => pure true) (me := fun row_ => (fromO (L2.atI row_ p_3.1))) rfl nd (si_lst (ea := (eTup eInt)) (SX.f (so_sliceL (SX.b (se_var (ea := (eLst (eTup eInt))) (d := p_2.1) (i := 6) rfl (.inr (.inl rfl)) rfl rfl rfl)) (sq_some se_int) (sq_some (se_add (SX.b (se_var (ea := eInt) (d := p_2.2) (i := 7) rfl (.inl rfl) rfl rfl rfl)) (SX.b se_int))))) (fun h => h.firms)) (blkOk_by rfl) (fun _ _ _ _ _ => (pg_name (i := 22) nd rfl (.inl rfl))) g_name (by decide) (ltAll 25 rfl rfl) (fun row_ _ _ _ _ _ => sf_nil) (fun row_ _ _ _ _ _ => (SX.eq (se_ixT (ea := eInt) (SX.b (se_var (ea := (eTup eInt)) (d := row_) (i := 22) rfl (.inl rfl) rfl rfl rfl)) (SX.b (se_var (ea := eInt) (d := p_3.1) (i := 12) rfl (.inr (.inl rfl)) rfl rfl rfl)) (fun _ _ => rfl)) (by first | rfl | (simp only [pure_bind, bind_assoc, bind_pure, tt_if, bif_and, bif_or]; done) | (simp only [pure_bind, bind_assoc, bind_pure, tt_if, bif_and, bif_or]; rfl))))))))) rfl) (by first | rfl | (simp only [pure_bind, bind_assoc, bind_pure, tt_if, bif_and, bif_or]; done) | (simp only [pure_bind, bind_assoc, bind_pure, tt_if, bif_and, bif_or]; rfl))) (SL.atR (R' := [some (.scr script_), some (.adr aw), some (.frz (eInt turn_)), some (.frz (eInt long_)), some (.frz ((eTup eInt) p_.1)), some (.frz ((eTup eInt) p_.2)), some (.frz ((eLst (eTup eInt)) p_2.1)), some (.frz (eInt p_2.2)), some (.frz ((eLst eInt) again_)), some (.frz (eInt whole_)), some (.frz ((eLst eInt) sides_)), some (.frz (eInt due_)), some (.frz (eInt p_3.1)), some (.frz (eInt p_3.2)), none, none, none, none, none, none, none, none, none, none, none]) (sf_ret se_bool) rfl) (SL.atR (R' := [some (.scr script_), some (.adr aw), some (.frz (eInt turn_)), some (.frz (eInt long_)), some (.frz ((eTup eInt) p_.1)), some (.frz ((eTup eInt) p_.2)), some (.frz ((eLst (eTup eInt)) p_2.1)), some (.frz (eInt p_2.2)), some (.frz ((eLst eInt) again_)), some (.frz (eInt whole_)), some (.frz ((eLst eInt) sides_)), some (.frz (eInt due_)), some (.frz (eInt p_3.1)), some (.frz (eInt p_3.2)), none, none, none, none, none, none, none, none, none, none, none]) (sl_parN (n := 0) (is := [14, 15]) rfl (pg_tup rfl (pgs_cons (pg_name (i := 14) nd rfl (.inr rfl)) (pgs_cons (pg_name (i := 15) nd rfl (.inl rfl)) pgs_nil))) (ltAll 25 rfl rfl) (SM.eq (sm_consF (se_tupleL (ea := eInt) rfl T.z_tuple (SX.ob (so_comp (eb := eInt) (own := [("k", 21)]) (g := (gName 21)) (is := [21]) (dts := (fun a => [eInt a])) (mt := fun k_6 => pure true) (me := fun k_6 => (m__law_next (5 : Int) >>= fun v54 => pure (v54 - (2 : Int)))) rfl nd (si_range1 rfl T.z_range (SX.b (se_var (ea := eInt) (d := long_) (i := 3) rfl (.inr (.inl rfl)) rfl rfl rfl))) (blkOk_by rfl) (fun _ _ _ _ _ => (pg_name (i := 21) nd rfl (.inl rfl))) g_name (by decide) (ltAll 25 rfl rfl) (fun k_6 _ _ _ _ _ => sf_nil) (fun k_6 _ _ _ _ _ => (SX.eq (se_sub (SX.b (se_callW (i := 1) (FnOk.mono (ok__law_next T) (by decide)) hr rfl T.g6 T.F6.kp T.b6 rfl (.inr (.inl rfl)) rfl rfl rfl (sa_one (ea := eInt) se_int) rfl rfl rfl)) (SX.b se_int)) (by first | rfl | (simp only [pure_bind, bind_assoc, bind_pure, tt_if, bif_and, bif_or]; done) | (simp only [pure_bind, bind_assoc, bind_pure, tt_if, bif_and, bif_or]; rfl))))))) (sm_oneF (se_tupleL (ea := eInt) rfl T.z_tuple (SX.ob (so_comp (eb := eInt) (own := [("k", 21)]) (g := (gName 21)) (is := [21]) (dts := (fun a => [eInt a])) (mt := fun k_7 => pure true) (me := fun k_7 => (m__law_next (5 : Int) >>= fun v57 => pure (v57 - (2 : Int)))) rfl nd (si_range1 rfl T.z_range (SX.b (se_var (ea := eInt) (d := long_) (i := 3) rfl (.inr (.inl rfl)) rfl rfl rfl))) (blkOk_by rfl) (fun _ _ _ _ _ => (pg_name (i := 21) nd rfl (.inl rfl))) g_name (by decide) (ltAll 25 rfl rfl) (fun k_7 _ _ _ _ _ => sf_nil) (fun k_7 _ _ _ _ _ => (SX.eq (se_sub (SX.b (se_callW (i := 1) (FnOk.mono (ok__law_next T) (by decide)) hr rfl T.g6 T.F6.kp T.b6 rfl (.inr (.inl rfl)) rfl rfl rfl (sa_one (ea := eInt) se_int) rfl rfl rfl)) (SX.b se_int)) (by first | rfl | (simp only [pure_bind, bind_assoc, bind_pure, tt_if, bif_and, bif_or]; done) | (simp only [pure_bind, bind_assoc, bind_pure, tt_if, bif_and, bif_or]; rfl))))))))) (by first | rfl | (simp only [pure_bind, bind_assoc, bind_pure, tt_if, bif_and, bif_or]; done) | (simp only [pure_bind, bind_assoc, bind_pure, tt_if, bif_and, bif_or]; rfl))) (fun _ => rfl) (by decide) (fun p_4 => (SL.atR (R' := [some (.scr script_), some (.adr aw), some (.frz (eInt turn_)), some (.frz (eInt long_)), some (.frz ((eTup eInt) p_.1)), some (.frz ((eTup eInt) p_.2)), some (.frz ((eLst (eTup eInt)) p_2.1)), some (.frz (eInt p_2.2)), some (.frz ((eLst eInt) again_)), some (.frz (eInt whole_)), some (.frz ((eLst eInt) sides_)), some (.frz (eInt due_)), some (.frz (eInt p_3.1)), some (.frz (eInt p_3.2)), some (.frz ((eTup eInt) p_4.1)), some (.frz ((eTup eInt) p_4.2)), none, none, none, none, none, none, none, none, none]) (sl_set (i := 16) (ea := (eTup eInt)) nd rfl (.inl rfl) (ltR 25 rfl rfl) (SX.eq (se_call (FnOk.mono (ok_added_rows T) (by decide)) hr rfl T.g1 T.F1.kp T.b1 (sa_cons (ea := (eTup eInt)) (eg := fun g : (List Int) => [(eTup eInt) g]) (se_var (ea := (eTup eInt)) (d := p_.1) (i := 4) rfl (.inr (.inl rfl)) rfl rfl rfl) (sa_one (ea := (eTup eInt)) (se_var (ea := (eTup eInt)) (d := p_4.1) (i := 14) rfl (.inr (.inl rfl)) rfl rfl rfl))) rfl rfl rfl) (by first | rfl | (simp only [pure_bind, bind_assoc, bind_pure, tt_if, bif_and, bif_or]; done) | (simp only [pure_bind, bind_assoc, bind_pure, tt_if, bif_and, bif_or]; rfl))) (fun both_ => (SL.atR (R' := [some (.scr script_), some (.adr aw), some (.frz (eInt turn_)), some (.frz (eInt long_)), some (.frz ((eTup eInt) p_.1)), some (.frz ((eTup eInt) p_.2)), some (.frz ((eLst (eTup eInt)) p_2.1)), some (.frz (eInt p_2.2)), some (.frz ((eLst eInt) again_)), some (.frz (eInt whole_)), some (.frz ((eLst eInt) sides_)), some (.frz (eInt due_)), some (.frz (eInt p_3.1)), some (.frz (eInt p_3.2)), some (.frz ((eTup eInt) p_4.1)), some (.frz ((eTup eInt) p_4.2)), some (.frz ((eTup eInt) both_)), none, none, none, none, none, none, none, none]) (sl_ifR (ST.eq (SC.t (sc_neT (eq_tup eq_int) (by decide) hr.units (SX.b (se_var (ea := (eTup eInt)) (d := both_) (i := 16) rfl (.inl rfl) rfl rfl rfl)) (SX.b (se_tupleL (ea := eInt) rfl T.z_tuple (SX.ob (so_comp (eb := eInt) (own := [("k", 21)]) (g := (gName 21)) (is := [21]) (dts := (fun a => [eInt a])) (mt := fun k_8 => pure true) (me := fun k_8 => (fromO (L2.atI p_.1 k_8) >>= fun v61 => fromO (L2.atI p_4.1 k_8) >>= fun v62 => pure (v61 + v62))) rfl nd (si_range1 rfl T.z_range (SX.b (se_var (ea := eInt) (d := long_) (i := 3) rfl (.inr (.inl rfl)) rfl rfl rfl))) (blkOk_by rfl) (fun _ _ _ _ _ => (pg_name (i := 21) nd rfl (.inl rfl))) g_name (by decide) (ltAll 25 rfl rfl) (fun k_8 _ _ _ _ _ => sf_nil) (fun k_8 _ _ _ _ _ => (SX.eq (se_add (SX.b (se_ixT (ea := eInt) (SX.b (se_var (ea := (eTup eInt)) (d := p_.1) (i := 4) rfl (.inr (.inl rfl)) rfl rfl rfl)) (SX.b (se_var (ea := eInt) (d := k_8) (i := 21) rfl (.inl rfl) rfl rfl rfl)) (fun _ _ => rfl))) (SX.b (se_ixT (ea := eInt) (SX.b (se_var (ea := (eTup eInt)) (d := p_4.1) (i := 14) rfl (.inr (.inl rfl)) rfl rfl rfl)) (SX.b (se_var (ea := eInt) (d := k_8) (i := 21) rfl (.inl rfl) rfl rfl rfl)) (fun _ _ => rfl)))) (by first | rfl | (simp only [pure_bind, bind_assoc, bind_pure, tt_if, bif_and, bif_or]; done) | (simp only [pure_bind, bind_assoc, bind_pure, tt_if, bif_and, bif_or]; rfl))))))))) rfl) (by first | rfl | (simp only [pure_bind, bind_assoc, bind_pure, tt_if, bif_and, bif_or]; done) | (simp only [pure_bind, bind_assoc, bind_pure, tt_if, bif_and, bif_or]; rfl))) (SL.atR (R' := [some (.scr script_), some (.adr aw), some (.frz (eInt turn_)), some (.frz (eInt long_)), some (.frz ((eTup eInt) p_.1)), some (.frz ((eTup eInt) p_.2)), some (.frz ((eLst (eTup eInt)) p_2.1)), some (.frz (eInt p_2.2)), some (.frz ((eLst eInt) again_)), some (.frz (eInt whole_)), some (.frz ((eLst eInt) sides_)), some (.frz (eInt due_)), some (.frz (eInt p_3.1)), some (.frz (eInt p_3.2)), some (.frz ((eTup eInt) p_4.1)), some (.frz ((eTup eInt) p_4.2)), some (.frz ((eTup eInt) both_)), none, none, none, none, none, none, none, none]) (sf_ret se_bool) rfl) (SL.atR (R' := [some (.scr script_), some (.adr aw), some (.frz (eInt turn_)), some (.frz (eInt long_)), some (.frz ((eTup eInt) p_.1)), some (.frz ((eTup eInt) p_.2)), some (.frz ((eLst (eTup eInt)) p_2.1)), some (.frz (eInt p_2.2)), some (.frz ((eLst eInt) again_)), some (.frz (eInt whole_)), some (.frz ((eLst eInt) sides_)), some (.frz (eInt due_)), some (.frz (eInt p_3.1)), some (.frz (eInt p_3.2)), some (.frz ((eTup eInt) p_4.1)), some (.frz ((eTup eInt) p_4.2)), some (.frz ((eTup eInt) both_)), none, none, none, none, none, none, none, none]) (sl_ifR (ST.eq (SC.t (sc_neT (eq_tup eq_int) (by decide) hr.units (SX.b (se_call (FnOk.mono (ok_next_row T) (by decide)) hr rfl T.g0 T.F0.kp T.b0 (sa_cons (ea := (eTup eInt)) (eg := fun g : (List Int) => [(eTup eInt) g]) (se_var (ea := (eTup eInt)) (d := both_) (i := 16) rfl (.inl rfl) rfl rfl rfl) (sa_one (ea := (eTup eInt)) (se_call (FnOk.mono (ok_added_rows T) (by decide)) hr rfl T.g1 T.F1.kp T.b1 (sa_cons (ea := (eTup eInt)) (eg := fun g : (List Int) => [(eTup eInt) g]) (se_var (ea := (eTup eInt)) (d := p_.2) (i := 5) rfl (.inr (.inl rfl)) rfl rfl rfl) (sa_one (ea := (eTup eInt)) (se_var (ea := (eTup eInt)) (d := p_4.2) (i := 15) rfl (.inl rfl) rfl rfl rfl))) rfl rfl rfl))) rfl rfl rfl)) (SX.b (se_call (FnOk.mono (ok_added_rows T) (by decide)) hr rfl T.g1 T.F1.kp T.b1 (sa_cons (ea := (eTup eInt)) (eg := fun g : (List Int) => [(eTup eInt) g]) (se_call (FnOk.mono (ok_next_row T) (by decide)) hr rfl T.g0 T.F0.kp T.b0 (sa_cons (ea := (eTup eInt)) (eg := fun g : (List Int) => [(eTup eInt) g]) (se_var (ea := (eTup eInt)) (d := p_.1) (i := 4) rfl (.inr (.inl rfl)) rfl rfl rfl) (sa_one (ea := (eTup eInt)) (se_var (ea := (eTup eInt)) (d := p_.2) (i := 5) rfl (.inr (.inl rfl)) rfl rfl rfl))) rfl rfl rfl) (sa_one (ea := (eTup eInt)) (se_call (FnOk.mono (ok_next_row T) (by decide)) hr rfl T.g0 T.F0.kp T.b0 (sa_cons (ea := (eTup eInt)) (eg := fun g : (List Int) => [(eTup eInt) g]) (se_var (ea := (eTup eInt)) (d := p_4.1) (i := 14) rfl (.inr (.inl rfl)) rfl rfl rfl) (sa_one (ea := (eTup eInt)) (se_var (ea := (eTup eInt)) (d := p_4.2) (i := 15) rfl (.inl rfl) rfl rfl rfl))) rfl rfl rfl))) rfl rfl rfl))) rfl) (by first | rfl | (simp only [pure_bind, bind_assoc, bind_pure, tt_if, bif_and, bif_or]; done) | (simp only [pure_bind, bind_assoc, bind_pure, tt_if, bif_and, bif_or]; rfl))) (SL.atR (R' := [some (.scr script_), some (.adr aw), some (.frz (eInt turn_)), some (.frz (eInt long_)), some (.frz ((eTup eInt) p_.1)), some (.frz ((eTup eInt) p_.2)), some (.frz ((eLst (eTup eInt)) p_2.1)), some (.frz (eInt p_2.2)), some (.frz ((eLst eInt) again_)), some (.frz (eInt whole_)), some (.frz ((eLst eInt) sides_)), some (.frz (eInt due_)), some (.frz (eInt p_3.1)), some (.frz (eInt p_3.2)), some (.frz ((eTup eInt) p_4.1)), some (.frz ((eTup eInt) p_4.2)), some (.frz ((eTup eInt) both_)), none, none, none, none, none, none, none, none]) (sf_ret se_bool) rfl) (SL.atR (R' := [some (.scr script_), some (.adr aw), some (.frz (eInt turn_)), some (.frz (eInt long_)), some (.frz ((eTup eInt) p_.1)), some (.frz ((eTup eInt) p_.2)), some (.frz ((eLst (eTup eInt)) p_2.1)), some (.frz (eInt p_2.2)), some (.frz ((eLst eInt) again_)), some (.frz (eInt whole_)), some (.frz ((eLst eInt) sides_)), some (.frz (eInt due_)), some (.frz (eInt p_3.1)), some (.frz (eInt p_3.2)), some (.frz ((eTup eInt) p_4.1)), some (.frz ((eTup eInt) p_4.2)), some (.frz ((eTup eInt) both_)), none, none, none, none, none, none, none, none]) (sl_set (i := 17) (ea := (eTup eInt)) nd rfl (.inl rfl) (ltR 25 rfl rfl) (SX.eq (se_tupleL (ea := eInt) rfl T.z_tuple (SX.ob (so_comp (eb := eInt) (own := [("k", 21)]) (g := (gName 21)) (is := [21]) (dts := (fun a => [eInt a])) (mt := fun k_9 => pure true) (me := fun k_9 => (pure (if (decide (k_9 = p_3.1)) = true then (1 : Int) else (0 : Int)))) rfl nd (si_range1 rfl T.z_range (SX.b (se_var (ea := eInt) (d := long_) (i := 3) rfl (.inr (.inl rfl)) rfl rfl rfl))) (blkOk_by rfl) (fun _ _ _ _ _ => (pg_name (i := 21) nd rfl (.inl rfl))) g_name (by decide) (ltAll 25 rfl rfl) (fun k_9 _ _ _ _ _ => sf_nil) (fun k_9 _ _ _ _ _ => (SX.eq (sx_if kF_ok (SC.t (sc_eqT eq_int (by decide) hr.units (SX.b (se_var (ea := eInt) (d := k_9) (i := 21) rfl (.inl rfl) rfl rfl rfl)) (SX.b (se_var (ea := eInt) (d := p_3.1) (i := 12) rfl (.inr (.inl rfl)) rfl rfl rfl))) rfl) se_int se_int) (by first | rfl | (simp only [pure_bind, bind_assoc, bind_pure, tt_if, bif_and, bif_or]; done) | (simp only [pure_bind, bind_assoc, bind_pure, tt_if, bif_and, bif_or]; rfl))))))) (by first | rfl | (simp only [pure_bind, bind_assoc, bind_pure, tt_if, bif_and, bif_or]; done) | (simp only [pure_bind, bind_assoc, bind_pure, tt_if, bif_and, bif_or]; rfl))) (fun drop_ => (SL.atR (R' := [some (.scr script_), some (.adr aw), some (.frz (eInt turn_)), some (.frz (eInt long_)), some (.frz ((eTup eInt) p_.1)), some (.frz ((eTup eInt) p_.2)), some (.frz ((eLst (eTup eInt)) p_2.1)), some (.frz (eInt p_2.2)), some (.frz ((eLst eInt) again_)), some (.frz (eInt whole_)), some (.frz ((eLst eInt) sides_)), some (.frz (eInt due_)), some (.frz (eInt p_3.1)), some (.frz (eInt p_3.2)), some (.frz ((eTup eInt) p_4.1)), some (.frz ((eTup eInt) p_4.2)), some (.frz ((eTup eInt) both_)), some (.frz ((eTup eInt) drop_)), none, none, none, none, none, none, none]) (sl_ifR (ST.eq (SC.t (sc_neT (eq_t2 (eq_tup eq_int) (eq_tup eq_int)) (by decide) hr.units (SX.b (se_call (FnOk.mono (ok_dropped_in T) (by decide)) hr rfl T.g3 T.F3.kp T.b3 (sa_cons (ea := eInt) (eg := fun g : Int => [eInt g]) (se_var (ea := eInt) (d := long_) (i := 3) rfl (.inr (.inl rfl)) rfl rfl rfl) (sa_one (ea := eInt) (se_var (ea := eInt) (d := p_3.1) (i := 12) rfl (.inr (.inl rfl)) rfl rfl rfl))) rfl rfl rfl)) (SX.b (se_tup (et := (eT2 (eTup eInt) (eTup eInt))) (sa_cons (ea := (eTup eInt)) (eg := fun g : (List Int) => [(eTup eInt) g]) (se_var (ea := (eTup eInt)) (d := drop_) (i := 17) rfl (.inl rfl) rfl rfl rfl) (sa_one (ea := (eTup eInt)) (se_repT (SX.b (se_tupH (ea := eInt) (f := (fun g => [g])) (sa_one (ea := eInt) se_int) (fun _ => rfl) (fun _ => Nat.le_of_ble_eq_true rfl))) (SX.b (se_var (ea := eInt) (d := long_) (i := 3) rfl (.inr (.inl rfl)) rfl rfl rfl))))) (fun _ => rfl) (fun _ => Nat.le_of_ble_eq_true rfl)))) rfl) (by first | rfl | (simp only [pure_bind, bind_assoc, bind_pure, tt_if, bif_and, bif_or]; done) | (simp only [pure_bind, bind_assoc, bind_pure, tt_if, bif_and, bif_or]; rfl))) (SL.atR (R' := [some (.scr script_), some (.adr aw), some (.frz (eInt turn_)), some (.frz (eInt long_)), some (.frz ((eTup eInt) p_.1)), some (.frz ((eTup eInt) p_.2)), some (.frz ((eLst (eTup eInt)) p_2.1)), some (.frz (eInt p_2.2)), some (.frz ((eLst eInt) again_)), some (.frz (eInt whole_)), some (.frz ((eLst eInt) sides_)), some (.frz (eInt due_)), some (.frz (eInt p_3.1)), some (.frz (eInt p_3.2)), some (.frz ((eTup eInt) p_4.1)), some (.frz ((eTup eInt) p_4.2)), some (.frz ((eTup eInt) both_)), some (.frz ((eTup eInt) drop_)), none, none, none, none, none, none, none]) (sf_ret se_bool) rfl) (SL.atR (R' := [some (.scr script_), some (.adr aw), some (.frz (eInt turn_)), some (.frz (eInt long_)), some (.frz ((eTup eInt) p_.1)), some (.frz ((eTup eInt) p_.2)), some (.frz ((eLst (eTup eInt)) p_2.1)), some (.frz (eInt p_2.2)), some (.frz ((eLst eInt) again_)), some (.frz (eInt whole_)), some (.frz ((eLst eInt) sides_)), some (.frz (eInt due_)), some (.frz (eInt p_3.1)), some (.frz (eInt p_3.2)), some (.frz ((eTup eInt) p_4.1)), some (.frz ((eTup eInt) p_4.2)), some (.frz ((eTup eInt) both_)), some (.frz ((eTup eInt) drop_)), none, none, none, none, none, none, none]) (sl_set (i := 18) (ea := (eLst (eTup eInt))) nd rfl (.inr rfl) (ltR 25 rfl rfl) (SX.eq (SX.f (so_sliceL (SX.b (se_call (FnOk.mono (ok__law_rows T) (by decide)) hr rfl T.g11 T.F11.kp T.b11 (sa_cons (ea := (eTup eInt)) (eg := fun g : (List Int) × Int => [(eTup eInt) g.1, eInt g.2]) (se_var (ea := (eTup eInt)) (d := drop_) (i := 17) rfl (.inl rfl) rfl rfl rfl) (sa_cons (ea := (eTup eInt)) (eg := fun g : Int => [eInt g]) (se_repT (SX.b (se_tupH (ea := eInt) (f := (fun g => [g])) (sa_one (ea := eInt) se_int) (fun _ => rfl) (fun _ => Nat.le_of_ble_eq_true rfl))) (SX.b (se_var (ea := eInt) (d := long_) (i := 3) rfl (.inr (.inl rfl)) rfl rfl rfl))) (sa_one (ea := eInt) (se_mul (SX.b se_int) (SX.b (se_var (ea := eInt) (d := long_) (i := 3) rfl (.inr (.inl rfl)) rfl rfl rfl)))))) rfl rfl rfl)) (sq_some se_int) sq_none)) (by first | rfl | (simp only [pure_bind, bind_assoc, bind_pure, tt_if, bif_and, bif_or]; done) | (simp only [pure_bind, bind_assoc, bind_pure, tt_if, bif_and, bif_or]; rfl))) (fun told_ => (SL.atR (R' := [some (.scr script_), some (.adr aw), some (.frz (eInt turn_)), some (.frz (eInt long_)), some (.frz ((eTup eInt) p_.1)), some (.frz ((eTup eInt) p_.2)), some (.frz ((eLst (eTup eInt)) p_2.1)), some (.frz (eInt p_2.2)), some (.frz ((eLst eInt) again_)), some (.frz (eInt whole_)), some (.frz ((eLst eInt) sides_)), some (.frz (eInt due_)), some (.frz (eInt p_3.1)), some (.frz (eInt p_3.2)), some (.frz ((eTup eInt) p_4.1)), some (.frz ((eTup eInt) p_4.2)), some (.frz ((eTup eInt) both_)), some (.frz ((eTup eInt) drop_)), some (.frz ((eLst (eTup eInt)) told_)), none, none, none, none, none, none]) (sl_setLc (eb := eInt) (i := 19) (own := [("k", 21)]) (g := (gName 21)) (is := [21]) (dts := (fun a => [eInt a])) (mt := fun k_10 => (fromO (L2.atI told_ k_10) >>= fun v77 => fromO (L2.atI v77 p_3.2) >>= fun v78 => pure (!decide (v78 = (0 : Int))))) (me := fun k_10 => (pure k_10)) rfl rfl (ltR 25 rfl rfl) (sw_true rfl rfl rfl rfl) rfl nd (si_range1 rfl T.z_range (SX.b (se_lenL (ea := (eTup eInt)) rfl T.z_len (SX.b (se_var (ea := (eLst (eTup eInt))) (d := told_) (i := 18) rfl (.inr (.inl rfl)) rfl rfl rfl))))) (blkOk_by rfl) (fun _ _ _ _ _ => (pg_name (i := 21) nd rfl (.inl rfl))) g_name (by decide) (ltAll 25 rfl rfl) (fun k_10 _ _ _ _ _ => (SIf.eq (sf_one (SC.t (sc_neT eq_int (by decide) hr.units (SX.b (se_ixT (ea := eInt) (SX.b (se_ixL (ea := (eTup eInt)) (SX.b (se_var (ea := (eLst (eTup eInt))) (d := told_) (i := 18) rfl (.inr (.inl rfl)) rfl rfl rfl)) (SX.b (se_var (ea := eInt) (d := k_10) (i := 21) rfl (.inl rfl) rfl rfl rfl)) (fun _ _ => rfl))) (SX.b (se_var (ea := eInt) (d := p_3.2) (i := 13) rfl (.inr (.inl rfl)) rfl rfl rfl)) (fun _ _ => rfl))) (SX.b se_int)) rfl)) (by first | rfl | (simp only [pure_bind, bind_assoc, bind_pure, tt_if, bif_and, bif_or]; done) | (simp only [pure_bind, bind_assoc, bind_pure, tt_if, bif_and, bif_or]; rfl)))) (fun k_10 _ _ _ _ _ => (se_var (ea := eInt) (d := k_10) (i := 21) rfl (.inl rfl) rfl rfl rfl)) (by first | rfl | (simp only [pure_bind, bind_assoc, bind_pure, tt_if, bif_and, bif_or]; done) | (simp only [pure_bind, bind_assoc, bind_pure, tt_if, bif_and, bif_or]; rfl)) (fun wet_ => (SL.lock 19 rfl (SL.atR (R' := [some (.scr script_), some (.adr aw), some (.frz (eInt turn_)), some (.frz (eInt long_)), some (.frz ((eTup eInt) p_.1)), some (.frz ((eTup eInt) p_.2)), some (.frz ((eLst (eTup eInt)) p_2.1)), some (.frz (eInt p_2.2)), some (.frz ((eLst eInt) again_)), some (.frz (eInt whole_)), some (.frz ((eLst eInt) sides_)), some (.frz (eInt due_)), some (.frz (eInt p_3.1)), some (.frz (eInt p_3.2)), some (.frz ((eTup eInt) p_4.1)), some (.frz ((eTup eInt) p_4.2)), some (.frz ((eTup eInt) both_)), some (.frz ((eTup eInt) drop_)), some (.frz ((eLst (eTup eInt)) told_)), some (.frz ((eLst eInt) wet_)), none, none, none, none, none]) (sl_ifR (ST.eq (SW.t (sw_or (SC.t (sc_neT (eq_opt eq_int (fun _ => rfl)) (by decide) hr.units (SX.b (se_call (FnOk.mono (ok_first_wet T) (by decide)) hr rfl T.g13 T.F13.kp T.b13 (sa_cons (ea := eInt) (eg := fun g : Int × Int => [eInt g.1, eInt g.2]) (se_var (ea := eInt) (d := long_) (i := 3) rfl (.inr (.inl rfl)) rfl rfl rfl) (sa_cons (ea := eInt) (eg := fun g : Int => [eInt g]) (se_var (ea := eInt) (d := p_3.1) (i := 12) rfl (.inr (.inl rfl)) rfl rfl rfl) (sa_one (ea := eInt) (se_var (ea := eInt) (d := p_3.2) (i := 13) rfl (.inr (.inl rfl)) rfl rfl rfl)))) rfl rfl rfl)) (SX.b (sx_if kF_ok (SC.t (sc_neT (eq_lst eq_int) (by decide) hr.units (SX.b (se_var (ea := (eLst eInt)) (d := wet_) (i := 19) rfl (.inl rfl) rfl rfl rfl)) (SX.ob (so_nil (ea := eInt)))) rfl) (SX.map (e := eInt) (se_ixL (ea := eInt) (SX.b (se_var (ea := (eLst eInt)) (d := wet_) (i := 19) rfl (.inl rfl) rfl rfl rfl)) (SX.b se_int) (fun _ _ => rfl)) kF_ok some (fun _ => rfl)) (SX.map (e := eNon) se_non kF_ok (fun _ => none) (fun _ => rfl))))) rfl) (sw_or1 (SC.t (sc_neT (eq_tup eq_int) (by decide) hr.units (SX.b (se_call (FnOk.mono (ok_turned_row T) (by decide)) hr rfl T.g4 T.F4.kp T.b4 (sa_one (ea := (eTup eInt)) (se_var (ea := (eTup eInt)) (d := p_.1) (i := 4) rfl (.inr (.inl rfl)) rfl rfl rfl)) rfl rfl rfl)) (SX.b (se_revT (SX.b (se_var (ea := (eTup eInt)) (d := p_.1) (i := 4) rfl (.inr (.inl rfl)) rfl rfl rfl))))) rfl)))) (by first | rfl | (simp only [pure_bind, bind_assoc, bind_pure, tt_if, bif_and, bif_or]; done) | (simp only [pure_bind, bind_assoc, bind_pure, tt_if, bif_and, bif_or]; rfl))) (SL.atR (R' := [some (.scr script_), some (.adr aw), some (.frz (eInt turn_)), some (.frz (eInt long_)), some (.frz ((eTup eInt) p_.1)), some (.frz ((eTup eInt) p_.2)), some (.frz ((eLst (eTup eInt)) p_2.1)), some (.frz (eInt p_2.2)), some (.frz ((eLst eInt) again_)), some (.frz (eInt whole_)), some (.frz ((eLst eInt) sides_)), some (.frz (eInt due_)), some (.frz (eInt p_3.1)), some (.frz (eInt p_3.2)), some (.frz ((eTup eInt) p_4.1)), some (.frz ((eTup eInt) p_4.2)), some (.frz ((eTup eInt) both_)), some (.frz ((eTup eInt) drop_)), some (.frz ((eLst (eTup eInt)) told_)), some (.frz ((eLst eInt) wet_)), none, none, none, none, none]) (sf_ret se_bool) rfl) (SL.atR (R' := [some (.scr script_), some (.adr aw), some (.frz (eInt turn_)), some (.frz (eInt long_)), some (.frz ((eTup eInt) p_.1)), some (.frz ((eTup eInt) p_.2)), some (.frz ((eLst (eTup eInt)) p_2.1)), some (.frz (eInt p_2.2)), some (.frz ((eLst eInt) again_)), some (.frz (eInt whole_)), some (.frz ((eLst eInt) sides_)), some (.frz (eInt due_)), some (.frz (eInt p_3.1)), some (.frz (eInt p_3.2)), some (.frz ((eTup eInt) p_4.1)), some (.frz ((eTup eInt) p_4.2)), some (.frz ((eTup eInt) both_)), some (.frz ((eTup eInt) drop_)), some (.frz ((eLst (eTup eInt)) told_)), some (.frz ((eLst eInt) wet_)), none, none, none, none, none]) (sl_ifR (ST.eq (SC.t (sc_neT (eq_tup eq_int) (by decide) hr.units (SX.b (se_call (FnOk.mono (ok_next_row T) (by decide)) hr rfl T.g0 T.F0.kp T.b0 (sa_cons (ea := (eTup eInt)) (eg := fun g : (List Int) => [(eTup eInt) g]) (se_call (FnOk.mono (ok_turned_row T) (by decide)) hr rfl T.g4 T.F4.kp T.b4 (sa_one (ea := (eTup eInt)) (se_var (ea := (eTup eInt)) (d := p_.1) (i := 4) rfl (.inr (.inl rfl)) rfl rfl rfl)) rfl rfl rfl) (sa_one (ea := (eTup eInt)) (se_call (FnOk.mono (ok_turned_row T) (by decide)) hr rfl T.g4 T.F4.kp T.b4 (sa_one (ea := (eTup eInt)) (se_var (ea := (eTup eInt)) (d := p_.2) (i := 5) rfl (.inr (.inl rfl)) rfl rfl rfl)) rfl rfl rfl))) rfl rfl rfl)) (SX.b (se_revT (SX.b (se_ixL (ea := (eTup eInt)) (SX.b (se_var (ea := (eLst (eTup eInt))) (d := p_2.1) (i := 6) rfl (.inr (.inl rfl)) rfl rfl rfl)) (SX.b se_int) (fun _ _ => rfl)))))) rfl) (by first | rfl | (simp only [pure_bind, bind_assoc, bind_pure, tt_if, bif_and, bif_or]; done) | (simp only [pure_bind, bind_assoc, bind_pure, tt_if, bif_and, bif_or]; rfl))) (SL.atR (R' := [some (.scr script_), some (.adr aw), some (.frz (eInt turn_)), some (.frz (eInt long_)), some (.frz ((eTup eInt) p_.1)), some (.frz ((eTup eInt) p_.2)), some (.frz ((eLst (eTup eInt)) p_2.1)), some (.frz (eInt p_2.2)), some (.frz ((eLst eInt) again_)), some (.frz (eInt whole_)), some (.frz ((eLst eInt) sides_)), some (.frz (eInt due_)), some (.frz (eInt p_3.1)), some (.frz (eInt p_3.2)), some (.frz ((eTup eInt) p_4.1)), some (.frz ((eTup eInt) p_4.2)), some (.frz ((eTup eInt) both_)), some (.frz ((eTup eInt) drop_)), some (.frz ((eLst (eTup eInt)) told_)), some (.frz ((eLst eInt) wet_)), none, none, none, none, none]) (sf_ret se_bool) rfl) (sl_nil () (subC (subC (subN (subN (subN (subN (subN (subN (subN (subN (subN (subN (subN (subN (subN (subN (subN (subN (subN (subN (subN (subN (subN (subN (subN subE))))))))))))))))))))))))))) rfl)) rfl)))) rfl)) rfl (.inl rfl)) rfl)) rfl)) rfl (.inr rfl)) rfl)) rfl)) rfl)) rfl (.inr rfl)) rfl)) rfl rfl rfl) rfl)) rfl)) rfl rfl rfl) rfl)) rfl)) rfl (.inr rfl)) rfl)) rfl (.inl rfl)) rfl)) rfl (.inl rfl)) rfl)) rfl)))) rfl)) rfl)) rfl rfl rfl) rfl)) rfl rfl rfl) rfl)) rfl (.inl rfl)) rfl)) (fun d_2 => (SL.atR (R' := [some (.scr script_), some (.adr aw), none, none, none, none, none, none, none, none, none, none, none, none, none, none, none, none, none, none, none, none, none, none, none]) (sf_ret se_bool) rfl)) (fun _ => rfl)) rfl)
theorem ok_law (T : Tp K mg) : FnOk P w K mg base CX0 5 T.f14 T.d14 p14 (spLaw K w m_law) :=
  fn_law T.F14 sc14 rfl (by decide) fun cdv A outer s H E hr ns =>
    sf_world (i := 0) (iw := 1) sc14.nd (FnOk.mono (ok__law_draws T) (by decide)) hr rfl T.g5 T.F5.kp T.b5 rfl (.inl rfl) rfl rfl rfl rfl rfl rfl rfl rfl (.inr rfl) (.inl rfl) (ltR 25 rfl rfl)
      (by intro y hy z e; subst e; have : z = Slot.scr ns := by simpa [slots0] using hy
          subst this; exact fun h => h) rfl fun aw => bd_lawb T cdv A outer s H E aw hr ns
end
end K31

namespace K31
open TT PySem L2
open TT.PyM (fromO)
def edge (now : List Int) : List Int := [0] ++ now ++ [0]
def nxk (now ago : List Int) (k : Nat) : Int := ((edge now).getD k 0 + (edge now).getD (k + 2) 0) - ago.getD k 0
def nx (now ago : List Int) : List Int := (List.range now.length).map (nxk now ago)
theorem nx_len (a b : List Int) : (nx a b).length = a.length := by simp [nx]
theorem nx_get {a b : List Int} {k : Nat} (h : k < a.length) : (nx a b).getD k 0 = nxk a b k := getD_map_range _ h
theorem edge_len (a : List Int) : (edge a).length = a.length + 2 := by simp [edge]
theorem edge_at (a : List Int) (k : Nat) : (edge a).getD (k + 1) 0 = a.getD k 0 := by
  unfold edge
  rcases Nat.lt_or_ge k a.length with h | h
  · simp [List.getD, List.getElem?_append, h]
  · rcases Nat.eq_or_lt_of_le h with z | z
    · subst z; simp [List.getD]
    · simp [List.getD, List.getElem?_append, Nat.not_lt.mpr h, show ¬ (k - a.length < 1) by omega]
theorem edge_0 (a : List Int) : (edge a).getD 0 0 = 0 := by simp [edge, List.getD]
theorem next_row_eq {a b : List Int} (h : a.length = b.length) (hs : a.length ≤ 1000) : m_next_row a b = some (nx a b) := by
  unfold m_next_row
  have e1 : ((fromO (catG [(0 : Int)] a) : Option (List Int)) >>= fun v1 => fromO (catG v1 [(0 : Int)])) = some (edge a) := by
    rw [o_fromO, cat_some (by simp; omega), o_bind, o_fromO, cat_some (by simp; omega)]; rfl
  rw [o_go e1, o_fromO, range_nat (by omega), o_bind]
  refine comp_range fun k hk => ?_
  have l := edge_len a
  rw [o_fromO, at_getD (by omega), o_bind, o_fromO, at_of (k + 2) (by omega) (List.getElem?_eq_getElem (by omega)), o_bind, o_fromO, at_getD (by omega), o_bind, o_pure]
  unfold nxk
  congr 3
  simp [List.getD, show k + 2 < (edge a).length by omega]
theorem law_next_row_eq {a b : List Int} (h : a.length = b.length) (hs : a.length ≤ 1000) : m__law_next_row a b = some (nx a b) := by
  unfold m__law_next_row
  rw [o_pure, o_bind, o_fromO, range_nat (by omega), o_bind]
  refine (o_go (fold_range (s := fun j => (List.range j).map (nxk a b)) fun k hk => ?_)).trans ?_
  · have e : compL (m := Option) (fun n_ => (pure ((decide ((0 : Int) ≤ n_)) && (decide (n_ < (a.length : Int)))))) (fun n_ => (fromO (L2.atI a n_))) [((k : Int) - (1 : Int)), ((k : Int) + (1 : Int))] = some ((if 1 ≤ k then [a.getD (k - 1) 0] else []) ++ (if k + 1 < a.length then [a.getD (k + 1) 0] else [])) := by
      refine (comp_some (p := fun n => decide (0 ≤ n) && decide (n < (a.length : Int))) (q := fun n => a.getD n.toNat 0) (fun x _ => o_pure _) fun x hx hp => ?_).trans ?_
      · simp at hp
        rw [o_fromO, at_of x.toNat (by omega) (List.getElem?_eq_getElem (by omega))]
        simp [List.getD, show x.toNat < a.length by omega]
      · congr 1
        by_cases c1 : 1 ≤ k <;> by_cases c2 : k + 1 < a.length
        · have d1 : decide ((0 : Int) ≤ (k : Int) - 1) = true := by simp; omega
          have d2 : decide ((k : Int) - 1 < (a.length : Int)) = true := by simp; omega
          have d3 : decide ((0 : Int) ≤ (k : Int) + 1) = true := by simp; omega
          have d4 : decide ((k : Int) + 1 < (a.length : Int)) = true := by simp; omega
          simp only [List.filter, d1, d2, d3, d4, Bool.and_self, List.map, c1, c2, if_true]
          congr 2
          congr 1
          omega
        · have d1 : decide ((0 : Int) ≤ (k : Int) - 1) = true := by simp; omega
          have d2 : decide ((k : Int) - 1 < (a.length : Int)) = true := by simp; omega
          have d4 : decide ((k : Int) + 1 < (a.length : Int)) = false := by simp; omega
          simp only [List.filter, d1, d2, d4, Bool.and_self, Bool.and_false, List.map, c1, c2, if_true, if_false]
          congr 2
          omega
        · have d1 : decide ((0 : Int) ≤ (k : Int) - 1) = false := by simp; omega
          have d3 : decide ((0 : Int) ≤ (k : Int) + 1) = true := by simp; omega
          have d4 : decide ((k : Int) + 1 < (a.length : Int)) = true := by simp; omega
          simp only [List.filter, d1, d3, d4, Bool.and_self, Bool.false_and, List.map, c1, c2, if_true, if_false]
          congr 2
        · have d1 : decide ((0 : Int) ≤ (k : Int) - 1) = false := by simp; omega
          have d4 : decide ((k : Int) + 1 < (a.length : Int)) = false := by simp; omega
          simp only [List.filter, d1, d4, Bool.and_false, Bool.false_and, List.map, c1, c2, if_true, if_false]
          rfl
    rw [o_go e, o_fromO, at_getD (by omega), o_bind, o_pure, o_bind, o_fromO, app_some (by simp; omega), o_bind, o_pure]
    congr 1
    rw [List.range_succ, List.map_append]
    congr 1
    show [_] = [nxk a b k]
    congr 1
    unfold nxk
    congr 1
    rw [edge_at a (k + 1)]
    have f1 : (edge a).getD k 0 = if 1 ≤ k then a.getD (k - 1) 0 else 0 := by
      cases k with
      | zero => exact edge_0 a
      | succ k => rw [edge_at, if_pos (by omega)]; rfl
    have f2 : a.getD (k + 1) 0 = if k + 1 < a.length then a.getD (k + 1) 0 else 0 := by
      split
      · rfl
      · rename_i z; simp [List.getD, Nat.not_lt.mp z]
    rw [f1, f2]
    by_cases c1 : 1 ≤ k <;> by_cases c2 : k + 1 < a.length <;> simp [c1, c2]
  · rw [o_pure]; rfl
/-- hour by hour: the row ahead, then the row now, then on -/
def rw' (now ago : List Int) : Nat → List Int
  | 0 => ago
  | 1 => now
  | n + 2 => nx (rw' now ago (n + 1)) (rw' now ago n)
theorem rw_len {now ago : List Int} (h : now.length = ago.length) : ∀ n, (rw' now ago n).length = now.length
  | 0 => h.symm
  | 1 => rfl
  | n + 2 => by rw [rw', nx_len, rw_len h (n + 1)]
theorem rows_eq {a b : List Int} (h : a.length = b.length) (hs : a.length ≤ 1000) {n : Nat} (hn : n ≤ 1000) : m__law_rows a b n = some ((List.range (n + 2)).map (rw' a b)) := by
  unfold m__law_rows
  rw [o_pure, o_bind, o_fromO, range_nat (by omega), o_bind]
  refine (o_go (fold_range (s := fun j => (List.range (j + 2)).map (rw' a b)) fun k hk => ?_)).trans (o_pure _)
  have g1 : ((List.range (k + 2)).map (rw' a b))[((List.range (k + 2)).map (rw' a b)).length - 1 - 0]? = some (rw' a b (k + 1)) := by simp
  have g2 : ((List.range (k + 2)).map (rw' a b))[((List.range (k + 2)).map (rw' a b)).length - 1 - 1]? = some (rw' a b k) := by simp
  rw [o_fromO, at_neg 0 (by omega) (by simp) g1, o_bind, o_fromO, at_neg 1 (by omega) (by simp) g2, o_bind, o_fromO, law_next_row_eq (by rw [rw_len h, rw_len h]) (by rw [rw_len h]; exact hs), o_bind, o_fromO, app_some (by simp; omega), o_bind, o_pure]
  congr 1
  rw [List.range_succ (n := k + 2), List.map_append]
  rfl
theorem rippled_eq {a b : List Int} (h : a.length = b.length) (hs : a.length ≤ 1000) {n : Nat} (hn : n ≤ 1000) : m_rippled a b n = some ((List.range (n + 1)).map fun k => rw' a b (k + 1)) := by
  unfold m_rippled
  rw [o_pure, o_bind, o_fromO, range_nat (by omega), o_bind]
  refine (o_go (fold_range (s := fun j => (rw' a b (j + 1), rw' a b j, (List.range (j + 1)).map fun k => rw' a b (k + 1))) fun k hk => ?_)).trans (o_pure _)
  simp only [o_pure, o_bind, o_fromO, next_row_eq (show (rw' a b (k + 1)).length = (rw' a b k).length by rw [rw_len h, rw_len h]) (by rw [rw_len h]; exact hs)]
  rw [app_some (by simp; omega), o_bind]
  congr 3
  rw [List.range_succ (n := k + 1), List.map_append]
  rfl
theorem back_eq {a b : List Int} (h : a.length = b.length) : nx a (nx a b) = b := by
  apply ext_getD
  · rw [nx_len, h]
  · intro k hk
    rw [nx_len] at hk
    unfold nx
    rw [getD_map_range _ hk]
    unfold nxk
    rw [getD_map_range _ hk]
    omega
theorem seen_eq {a b : List Int} (h : a.length = b.length) (hs : a.length ≤ 1000) {n p : Nat} (hn : n ≤ 1000) (hp : p < a.length) : m_seen_at a b p n = some ((List.range (n + 1)).map fun k => (rw' a b (k + 1)).getD p 0) := by
  unfold m_seen_at
  rw [o_fromO, rippled_eq h hs hn, o_bind]
  refine (comp_all (q := fun r => r.getD p 0) fun r hr => ?_).trans ?_
  · obtain ⟨k, _, rfl⟩ := List.mem_map.mp hr
    rw [o_fromO, at_getD (by rw [rw_len h]; exact hp)]
  · rw [List.map_map]; rfl
/-! added rows -/
def ad (a b : List Int) : List Int := (List.range a.length).map fun k => a.getD k 0 + b.getD k 0
theorem ad_get {a b : List Int} {k : Nat} (h : k < a.length) : (ad a b).getD k 0 = a.getD k 0 + b.getD k 0 := getD_map_range (fun k => a.getD k 0 + b.getD k 0) h
theorem ad_len (a b : List Int) : (ad a b).length = a.length := by simp [ad]
theorem added_eq {a b : List Int} (h : a.length = b.length) : m_added_rows a b = some (ad a b) := by
  unfold m_added_rows
  refine (comp_all (q := fun p : Int × Int => p.1 + p.2) fun x _ => o_pure _).trans ?_
  congr 1
  apply ext_getD
  · simp [ad]; omega
  · intro k hk
    have hk' : k < a.length := by simp at hk; omega
    rw [ad_get hk']
    have e := zip_at (List.getElem?_eq_getElem hk') (List.getElem?_eq_getElem (show k < b.length by omega))
    simp [List.getD, e, hk', show k < b.length by omega]
theorem edge_ad {a b : List Int} (h : a.length = b.length) (k : Nat) : (edge (ad a b)).getD k 0 = (edge a).getD k 0 + (edge b).getD k 0 := by
  cases k with
  | zero => rw [edge_0, edge_0, edge_0]; rfl
  | succ k =>
    rw [edge_at, edge_at, edge_at]
    rcases Nat.lt_or_ge k a.length with z | z
    · rw [ad, getD_map_range _ z]
    · simp [List.getD, ad, z, h ▸ z]
theorem nx_ad {a b c d : List Int} (h : a.length = b.length) (h2 : a.length = c.length) (h3 : a.length = d.length) : nx (ad a b) (ad c d) = ad (nx a c) (nx b d) := by
  apply ext_getD
  · rw [nx_len, ad_len, ad_len, nx_len]
  · intro k hk
    rw [nx_len, ad_len] at hk
    rw [nx_get (by rw [ad_len]; exact hk), ad_get (by rw [nx_len]; exact hk), nx_get hk, nx_get (by omega)]
    unfold nxk
    rw [edge_ad h, edge_ad h, ad_get (by omega)]
    omega
/-! turned -/
theorem edge_rev {a : List Int} {k : Nat} (h : k ≤ a.length + 1) : (edge a.reverse).getD k 0 = (edge a).getD (a.length + 1 - k) 0 := by
  have e : edge a.reverse = (edge a).reverse := by simp [edge]
  have l := edge_len a
  rw [e]
  simp [List.getD, List.getElem?_reverse (show k < (edge a).length by omega), l]
theorem nx_rev {a b : List Int} (h : a.length = b.length) : nx a.reverse b.reverse = (nx a b).reverse := by
  apply ext_getD
  · simp [nx_len]
  · intro k hk
    rw [nx_len, List.length_reverse] at hk
    have e : (nx a b).reverse.getD k 0 = (nx a b).getD (a.length - 1 - k) 0 := by
      simp [List.getD, List.getElem?_reverse (show k < (nx a b).length by rw [nx_len]; exact hk), nx_len]
    rw [e, nx, getD_map_range _ (by simpa using hk), nx, getD_map_range _ (by omega)]
    unfold nxk
    rw [edge_rev (by omega), edge_rev (by omega)]
    have e2 : b.reverse.getD k 0 = b.getD (a.length - 1 - k) 0 := by
      simp [List.getD, List.getElem?_reverse (show k < b.length by omega), h]
    rw [e2, show a.length + 1 - k = a.length - 1 - k + 2 by omega, show a.length + 1 - (k + 2) = a.length - 1 - k by omega]
    omega
theorem per2 (x0 x1 y0 y1 : Int) : rw' [x0, x1] [y0, y1] 6 = [y0, y1] ∧ rw' [x0, x1] [y0, y1] 7 = [x0, x1] := by
  have h0 : rw' [x0, x1] [y0, y1] 0 = [y0, y1] := rfl
  have h1 : rw' [x0, x1] [y0, y1] 1 = [x0, x1] := rfl
  have h2 : rw' [x0, x1] [y0, y1] 2 = [x1 - y0, x0 - y1] := by
    rw [rw', h1, h0]
    refine (show nx _ _ = [(0) + (x1) - (y0), (x0) + (0) - (y1)] from rfl).trans ?_
    simp only [List.cons.injEq, and_true, true_and, eq_self] <;> omega
  have h3 : rw' [x0, x1] [y0, y1] 3 = [-y1, -y0] := by
    rw [rw', h2, h1]
    refine (show nx _ _ = [(0) + (x0 - y1) - (x0), (x1 - y0) + (0) - (x1)] from rfl).trans ?_
    simp only [List.cons.injEq, and_true, true_and, eq_self] <;> omega
  have h4 : rw' [x0, x1] [y0, y1] 4 = [-x1, -x0] := by
    rw [rw', h3, h2]
    refine (show nx _ _ = [(0) + (-y0) - (x1 - y0), (-y1) + (0) - (x0 - y1)] from rfl).trans ?_
    simp only [List.cons.injEq, and_true, true_and, eq_self] <;> omega
  have h5 : rw' [x0, x1] [y0, y1] 5 = [-x0 + y1, -x1 + y0] := by
    rw [rw', h4, h3]
    refine (show nx _ _ = [(0) + (-x0) - (-y1), (-x1) + (0) - (-y0)] from rfl).trans ?_
    simp only [List.cons.injEq, and_true, true_and, eq_self] <;> omega
  have h6 : rw' [x0, x1] [y0, y1] 6 = [y0, y1] := by
    rw [rw', h5, h4]
    refine (show nx _ _ = [(0) + (-x1 + y0) - (-x1), (-x0 + y1) + (0) - (-x0)] from rfl).trans ?_
    simp only [List.cons.injEq, and_true, true_and, eq_self] <;> omega
  have h7 : rw' [x0, x1] [y0, y1] 7 = [x0, x1] := by
    rw [rw', h6, h5]
    refine (show nx _ _ = [(0) + (y1) - (-x0 + y1), (y0) + (0) - (-x1 + y0)] from rfl).trans ?_
    simp only [List.cons.injEq, and_true, true_and, eq_self] <;> omega
  exact ⟨h6, h7⟩
theorem per3 (x0 x1 x2 y0 y1 y2 : Int) : rw' [x0, x1, x2] [y0, y1, y2] 8 = [y0, y1, y2] ∧ rw' [x0, x1, x2] [y0, y1, y2] 9 = [x0, x1, x2] := by
  have h0 : rw' [x0, x1, x2] [y0, y1, y2] 0 = [y0, y1, y2] := rfl
  have h1 : rw' [x0, x1, x2] [y0, y1, y2] 1 = [x0, x1, x2] := rfl
  have h2 : rw' [x0, x1, x2] [y0, y1, y2] 2 = [x1 - y0, x0 + x2 - y1, x1 - y2] := by
    rw [rw', h1, h0]
    refine (show nx _ _ = [(0) + (x1) - (y0), (x0) + (x2) - (y1), (x1) + (0) - (y2)] from rfl).trans ?_
    simp only [List.cons.injEq, and_true, true_and, eq_self] <;> omega
  have h3 : rw' [x0, x1, x2] [y0, y1, y2] 3 = [x2 - y1, x1 - y0 - y2, x0 - y1] := by
    rw [rw', h2, h1]
    refine (show nx _ _ = [(0) + (x0 + x2 - y1) - (x0), (x1 - y0) + (x1 - y2) - (x1), (x0 + x2 - y1) + (0) - (x2)] from rfl).trans ?_
    simp only [List.cons.injEq, and_true, true_and, eq_self] <;> omega
  have h4 : rw' [x0, x1, x2] [y0, y1, y2] 4 = [-y2, -y1, -y0] := by
    rw [rw', h3, h2]
    refine (show nx _ _ = [(0) + (x1 - y0 - y2) - (x1 - y0), (x2 - y1) + (x0 - y1) - (x0 + x2 - y1), (x1 - y0 - y2) + (0) - (x1 - y2)] from rfl).trans ?_
    simp only [List.cons.injEq, and_true, true_and, eq_self] <;> omega
  have h5 : rw' [x0, x1, x2] [y0, y1, y2] 5 = [-x2, -x1, -x0] := by
    rw [rw', h4, h3]
    refine (show nx _ _ = [(0) + (-y1) - (x2 - y1), (-y2) + (-y0) - (x1 - y0 - y2), (-y1) + (0) - (x0 - y1)] from rfl).trans ?_
    simp only [List.cons.injEq, and_true, true_and, eq_self] <;> omega
  have h6 : rw' [x0, x1, x2] [y0, y1, y2] 6 = [-x1 + y2, -x0 - x2 + y1, -x1 + y0] := by
    rw [rw', h5, h4]
    refine (show nx _ _ = [(0) + (-x1) - (-y2), (-x2) + (-x0) - (-y1), (-x1) + (0) - (-y0)] from rfl).trans ?_
    simp only [List.cons.injEq, and_true, true_and, eq_self] <;> omega
  have h7 : rw' [x0, x1, x2] [y0, y1, y2] 7 = [-x0 + y1, -x1 + y0 + y2, -x2 + y1] := by
    rw [rw', h6, h5]
    refine (show nx _ _ = [(0) + (-x0 - x2 + y1) - (-x2), (-x1 + y2) + (-x1 + y0) - (-x1), (-x0 - x2 + y1) + (0) - (-x0)] from rfl).trans ?_
    simp only [List.cons.injEq, and_true, true_and, eq_self] <;> omega
  have h8 : rw' [x0, x1, x2] [y0, y1, y2] 8 = [y0, y1, y2] := by
    rw [rw', h7, h6]
    refine (show nx _ _ = [(0) + (-x1 + y0 + y2) - (-x1 + y2), (-x0 + y1) + (-x2 + y1) - (-x0 - x2 + y1), (-x1 + y0 + y2) + (0) - (-x1 + y0)] from rfl).trans ?_
    simp only [List.cons.injEq, and_true, true_and, eq_self] <;> omega
  have h9 : rw' [x0, x1, x2] [y0, y1, y2] 9 = [x0, x1, x2] := by
    rw [rw', h8, h7]
    refine (show nx _ _ = [(0) + (y1) - (-x0 + y1), (y0) + (y2) - (-x1 + y0 + y2), (y1) + (0) - (-x2 + y1)] from rfl).trans ?_
    simp only [List.cons.injEq, and_true, true_and, eq_self] <;> omega
  exact ⟨h8, h9⟩
theorem per4 (x0 x1 x2 x3 y0 y1 y2 y3 : Int) : rw' [x0, x1, x2, x3] [y0, y1, y2, y3] 10 = [y0, y1, y2, y3] ∧ rw' [x0, x1, x2, x3] [y0, y1, y2, y3] 11 = [x0, x1, x2, x3] := by
  have h0 : rw' [x0, x1, x2, x3] [y0, y1, y2, y3] 0 = [y0, y1, y2, y3] := rfl
  have h1 : rw' [x0, x1, x2, x3] [y0, y1, y2, y3] 1 = [x0, x1, x2, x3] := rfl
  have h2 : rw' [x0, x1, x2, x3] [y0, y1, y2, y3] 2 = [x1 - y0, x0 + x2 - y1, x1 + x3 - y2, x2 - y3] := by
    rw [rw', h1, h0]
    refine (show nx _ _ = [(0) + (x1) - (y0), (x0) + (x2) - (y1), (x1) + (x3) - (y2), (x2) + (0) - (y3)] from rfl).trans ?_
    simp only [List.cons.injEq, and_true, true_and, eq_self] <;> omega
  have h3 : rw' [x0, x1, x2, x3] [y0, y1, y2, y3] 3 = [x2 - y1, x1 + x3 - y0 - y2, x0 + x2 - y1 - y3, x1 - y2] := by
    rw [rw', h2, h1]
    refine (show nx _ _ = [(0) + (x0 + x2 - y1) - (x0), (x1 - y0) + (x1 + x3 - y2) - (x1), (x0 + x2 - y1) + (x2 - y3) - (x2), (x1 + x3 - y2) + (0) - (x3)] from rfl).trans ?_
    simp only [List.cons.injEq, and_true, true_and, eq_self] <;> omega
  have h4 : rw' [x0, x1, x2, x3] [y0, y1, y2, y3] 4 = [x3 - y2, x2 - y1 - y3, x1 - y0 - y2, x0 - y1] := by
    rw [rw', h3, h2]
    refine (show nx _ _ = [(0) + (x1 + x3 - y0 - y2) - (x1 - y0), (x2 - y1) + (x0 + x2 - y1 - y3) - (x0 + x2 - y1), (x1 + x3 - y0 - y2) + (x1 - y2) - (x1 + x3 - y2), (x0 + x2 - y1 - y3) + (0) - (x2 - y3)] from rfl).trans ?_
    simp only [List.cons.injEq, and_true, true_and, eq_self] <;> omega
  have h5 : rw' [x0, x1, x2, x3] [y0, y1, y2, y3] 5 = [-y3, -y2, -y1, -y0] := by
    rw [rw', h4, h3]
    refine (show nx _ _ = [(0) + (x2 - y1 - y3) - (x2 - y1), (x3 - y2) + (x1 - y0 - y2) - (x1 + x3 - y0 - y2), (x2 - y1 - y3) + (x0 - y1) - (x0 + x2 - y1 - y3), (x1 - y0 - y2) + (0) - (x1 - y2)] from rfl).trans ?_
    simp only [List.cons.injEq, and_true, true_and, eq_self] <;> omega
  have h6 : rw' [x0, x1, x2, x3] [y0, y1, y2, y3] 6 = [-x3, -x2, -x1, -x0] := by
    rw [rw', h5, h4]
    refine (show nx _ _ = [(0) + (-y2) - (x3 - y2), (-y3) + (-y1) - (x2 - y1 - y3), (-y2) + (-y0) - (x1 - y0 - y2), (-y1) + (0) - (x0 - y1)] from rfl).trans ?_
    simp only [List.cons.injEq, and_true, true_and, eq_self] <;> omega
  have h7 : rw' [x0, x1, x2, x3] [y0, y1, y2, y3] 7 = [-x2 + y3, -x1 - x3 + y2, -x0 - x2 + y1, -x1 + y0] := by
    rw [rw', h6, h5]
    refine (show nx _ _ = [(0) + (-x2) - (-y3), (-x3) + (-x1) - (-y2), (-x2) + (-x0) - (-y1), (-x1) + (0) - (-y0)] from rfl).trans ?_
    simp only [List.cons.injEq, and_true, true_and, eq_self] <;> omega
  have h8 : rw' [x0, x1, x2, x3] [y0, y1, y2, y3] 8 = [-x1 + y2, -x0 - x2 + y1 + y3, -x1 - x3 + y0 + y2, -x2 + y1] := by
    rw [rw', h7, h6]
    refine (show nx _ _ = [(0) + (-x1 - x3 + y2) - (-x3), (-x2 + y3) + (-x0 - x2 + y1) - (-x2), (-x1 - x3 + y2) + (-x1 + y0) - (-x1), (-x0 - x2 + y1) + (0) - (-x0)] from rfl).trans ?_
    simp only [List.cons.injEq, and_true, true_and, eq_self] <;> omega
  have h9 : rw' [x0, x1, x2, x3] [y0, y1, y2, y3] 9 = [-x0 + y1, -x1 + y0 + y2, -x2 + y1 + y3, -x3 + y2] := by
    rw [rw', h8, h7]
    refine (show nx _ _ = [(0) + (-x0 - x2 + y1 + y3) - (-x2 + y3), (-x1 + y2) + (-x1 - x3 + y0 + y2) - (-x1 - x3 + y2), (-x0 - x2 + y1 + y3) + (-x2 + y1) - (-x0 - x2 + y1), (-x1 - x3 + y0 + y2) + (0) - (-x1 + y0)] from rfl).trans ?_
    simp only [List.cons.injEq, and_true, true_and, eq_self] <;> omega
  have h10 : rw' [x0, x1, x2, x3] [y0, y1, y2, y3] 10 = [y0, y1, y2, y3] := by
    rw [rw', h9, h8]
    refine (show nx _ _ = [(0) + (-x1 + y0 + y2) - (-x1 + y2), (-x0 + y1) + (-x2 + y1 + y3) - (-x0 - x2 + y1 + y3), (-x1 + y0 + y2) + (-x3 + y2) - (-x1 - x3 + y0 + y2), (-x2 + y1 + y3) + (0) - (-x2 + y1)] from rfl).trans ?_
    simp only [List.cons.injEq, and_true, true_and, eq_self] <;> omega
  have h11 : rw' [x0, x1, x2, x3] [y0, y1, y2, y3] 11 = [x0, x1, x2, x3] := by
    rw [rw', h10, h9]
    refine (show nx _ _ = [(0) + (y1) - (-x0 + y1), (y0) + (y2) - (-x1 + y0 + y2), (y1) + (y3) - (-x2 + y1 + y3), (y2) + (0) - (-x3 + y2)] from rfl).trans ?_
    simp only [List.cons.injEq, and_true, true_and, eq_self] <;> omega
  exact ⟨h10, h11⟩
theorem per5 (x0 x1 x2 x3 x4 y0 y1 y2 y3 y4 : Int) : rw' [x0, x1, x2, x3, x4] [y0, y1, y2, y3, y4] 12 = [y0, y1, y2, y3, y4] ∧ rw' [x0, x1, x2, x3, x4] [y0, y1, y2, y3, y4] 13 = [x0, x1, x2, x3, x4] := by
  have h0 : rw' [x0, x1, x2, x3, x4] [y0, y1, y2, y3, y4] 0 = [y0, y1, y2, y3, y4] := rfl
  have h1 : rw' [x0, x1, x2, x3, x4] [y0, y1, y2, y3, y4] 1 = [x0, x1, x2, x3, x4] := rfl
  have h2 : rw' [x0, x1, x2, x3, x4] [y0, y1, y2, y3, y4] 2 = [x1 - y0, x0 + x2 - y1, x1 + x3 - y2, x2 + x4 - y3, x3 - y4] := by
    rw [rw', h1, h0]
    refine (show nx _ _ = [(0) + (x1) - (y0), (x0) + (x2) - (y1), (x1) + (x3) - (y2), (x2) + (x4) - (y3), (x3) + (0) - (y4)] from rfl).trans ?_
    simp only [List.cons.injEq, and_true, true_and, eq_self] <;> omega
  have h3 : rw' [x0, x1, x2, x3, x4] [y0, y1, y2, y3, y4] 3 = [x2 - y1, x1 + x3 - y0 - y2, x0 + x2 + x4 - y1 - y3, x1 + x3 - y2 - y4, x2 - y3] := by
    rw [rw', h2, h1]
    refine (show nx _ _ = [(0) + (x0 + x2 - y1) - (x0), (x1 - y0) + (x1 + x3 - y2) - (x1), (x0 + x2 - y1) + (x2 + x4 - y3) - (x2), (x1 + x3 - y2) + (x3 - y4) - (x3), (x2 + x4 - y3) + (0) - (x4)] from rfl).trans ?_
    simp only [List.cons.injEq, and_true, true_and, eq_self] <;> omega
  have h4 : rw' [x0, x1, x2, x3, x4] [y0, y1, y2, y3, y4] 4 = [x3 - y2, x2 + x4 - y1 - y3, x1 + x3 - y0 - y2 - y4, x0 + x2 - y1 - y3, x1 - y2] := by
    rw [rw', h3, h2]
    refine (show nx _ _ = [(0) + (x1 + x3 - y0 - y2) - (x1 - y0), (x2 - y1) + (x0 + x2 + x4 - y1 - y3) - (x0 + x2 - y1), (x1 + x3 - y0 - y2) + (x1 + x3 - y2 - y4) - (x1 + x3 - y2), (x0 + x2 + x4 - y1 - y3) + (x2 - y3) - (x2 + x4 - y3), (x1 + x3 - y2 - y4) + (0) - (x3 - y4)] from rfl).trans ?_
    simp only [List.cons.injEq, and_true, true_and, eq_self] <;> omega
  have h5 : rw' [x0, x1, x2, x3, x4] [y0, y1, y2, y3, y4] 5 = [x4 - y3, x3 - y2 - y4, x2 - y1 - y3, x1 - y0 - y2, x0 - y1] := by
    rw [rw', h4, h3]
    refine (show nx _ _ = [(0) + (x2 + x4 - y1 - y3) - (x2 - y1), (x3 - y2) + (x1 + x3 - y0 - y2 - y4) - (x1 + x3 - y0 - y2), (x2 + x4 - y1 - y3) + (x0 + x2 - y1 - y3) - (x0 + x2 + x4 - y1 - y3), (x1 + x3 - y0 - y2 - y4) + (x1 - y2) - (x1 + x3 - y2 - y4), (x0 + x2 - y1 - y3) + (0) - (x2 - y3)] from rfl).trans ?_
    simp only [List.cons.injEq, and_true, true_and, eq_self] <;> omega
  have h6 : rw' [x0, x1, x2, x3, x4] [y0, y1, y2, y3, y4] 6 = [-y4, -y3, -y2, -y1, -y0] := by
    rw [rw', h5, h4]
    refine (show nx _ _ = [(0) + (x3 - y2 - y4) - (x3 - y2), (x4 - y3) + (x2 - y1 - y3) - (x2 + x4 - y1 - y3), (x3 - y2 - y4) + (x1 - y0 - y2) - (x1 + x3 - y0 - y2 - y4), (x2 - y1 - y3) + (x0 - y1) - (x0 + x2 - y1 - y3), (x1 - y0 - y2) + (0) - (x1 - y2)] from rfl).trans ?_
    simp only [List.cons.injEq, and_true, true_and, eq_self] <;> omega
  have h7 : rw' [x0, x1, x2, x3, x4] [y0, y1, y2, y3, y4] 7 = [-x4, -x3, -x2, -x1, -x0] := by
    rw [rw', h6, h5]
    refine (show nx _ _ = [(0) + (-y3) - (x4 - y3), (-y4) + (-y2) - (x3 - y2 - y4), (-y3) + (-y1) - (x2 - y1 - y3), (-y2) + (-y0) - (x1 - y0 - y2), (-y1) + (0) - (x0 - y1)] from rfl).trans ?_
    simp only [List.cons.injEq, and_true, true_and, eq_self] <;> omega
  have h8 : rw' [x0, x1, x2, x3, x4] [y0, y1, y2, y3, y4] 8 = [-x3 + y4, -x2 - x4 + y3, -x1 - x3 + y2, -x0 - x2 + y1, -x1 + y0] := by
    rw [rw', h7, h6]
    refine (show nx _ _ = [(0) + (-x3) - (-y4), (-x4) + (-x2) - (-y3), (-x3) + (-x1) - (-y2), (-x2) + (-x0) - (-y1), (-x1) + (0) - (-y0)] from rfl).trans ?_
    simp only [List.cons.injEq, and_true, true_and, eq_self] <;> omega
  have h9 : rw' [x0, x1, x2, x3, x4] [y0, y1, y2, y3, y4] 9 = [-x2 + y3, -x1 - x3 + y2 + y4, -x0 - x2 - x4 + y1 + y3, -x1 - x3 + y0 + y2, -x2 + y1] := by
    rw [rw', h8, h7]
    refine (show nx _ _ = [(0) + (-x2 - x4 + y3) - (-x4), (-x3 + y4) + (-x1 - x3 + y2) - (-x3), (-x2 - x4 + y3) + (-x0 - x2 + y1) - (-x2), (-x1 - x3 + y2) + (-x1 + y0) - (-x1), (-x0 - x2 + y1) + (0) - (-x0)] from rfl).trans ?_
    simp only [List.cons.injEq, and_true, true_and, eq_self] <;> omega
  have h10 : rw' [x0, x1, x2, x3, x4] [y0, y1, y2, y3, y4] 10 = [-x1 + y2, -x0 - x2 + y1 + y3, -x1 - x3 + y0 + y2 + y4, -x2 - x4 + y1 + y3, -x3 + y2] := by
    rw [rw', h9, h8]
    refine (show nx _ _ = [(0) + (-x1 - x3 + y2 + y4) - (-x3 + y4), (-x2 + y3) + (-x0 - x2 - x4 + y1 + y3) - (-x2 - x4 + y3), (-x1 - x3 + y2 + y4) + (-x1 - x3 + y0 + y2) - (-x1 - x3 + y2), (-x0 - x2 - x4 + y1 + y3) + (-x2 + y1) - (-x0 - x2 + y1), (-x1 - x3 + y0 + y2) + (0) - (-x1 + y0)] from rfl).trans ?_
    simp only [List.cons.injEq, and_true, true_and, eq_self] <;> omega
  have h11 : rw' [x0, x1, x2, x3, x4] [y0, y1, y2, y3, y4] 11 = [-x0 + y1, -x1 + y0 + y2, -x2 + y1 + y3, -x3 + y2 + y4, -x4 + y3] := by
    rw [rw', h10, h9]
    refine (show nx _ _ = [(0) + (-x0 - x2 + y1 + y3) - (-x2 + y3), (-x1 + y2) + (-x1 - x3 + y0 + y2 + y4) - (-x1 - x3 + y2 + y4), (-x0 - x2 + y1 + y3) + (-x2 - x4 + y1 + y3) - (-x0 - x2 - x4 + y1 + y3), (-x1 - x3 + y0 + y2 + y4) + (-x3 + y2) - (-x1 - x3 + y0 + y2), (-x2 - x4 + y1 + y3) + (0) - (-x2 + y1)] from rfl).trans ?_
    simp only [List.cons.injEq, and_true, true_and, eq_self] <;> omega
  have h12 : rw' [x0, x1, x2, x3, x4] [y0, y1, y2, y3, y4] 12 = [y0, y1, y2, y3, y4] := by
    rw [rw', h11, h10]
    refine (show nx _ _ = [(0) + (-x1 + y0 + y2) - (-x1 + y2), (-x0 + y1) + (-x2 + y1 + y3) - (-x0 - x2 + y1 + y3), (-x1 + y0 + y2) + (-x3 + y2 + y4) - (-x1 - x3 + y0 + y2 + y4), (-x2 + y1 + y3) + (-x4 + y3) - (-x2 - x4 + y1 + y3), (-x3 + y2 + y4) + (0) - (-x3 + y2)] from rfl).trans ?_
    simp only [List.cons.injEq, and_true, true_and, eq_self] <;> omega
  have h13 : rw' [x0, x1, x2, x3, x4] [y0, y1, y2, y3, y4] 13 = [x0, x1, x2, x3, x4] := by
    rw [rw', h12, h11]
    refine (show nx _ _ = [(0) + (y1) - (-x0 + y1), (y0) + (y2) - (-x1 + y0 + y2), (y1) + (y3) - (-x2 + y1 + y3), (y2) + (y4) - (-x3 + y2 + y4), (y3) + (0) - (-x4 + y3)] from rfl).trans ?_
    simp only [List.cons.injEq, and_true, true_and, eq_self] <;> omega
  exact ⟨h12, h13⟩
theorem per6 (x0 x1 x2 x3 x4 x5 y0 y1 y2 y3 y4 y5 : Int) : rw' [x0, x1, x2, x3, x4, x5] [y0, y1, y2, y3, y4, y5] 14 = [y0, y1, y2, y3, y4, y5] ∧ rw' [x0, x1, x2, x3, x4, x5] [y0, y1, y2, y3, y4, y5] 15 = [x0, x1, x2, x3, x4, x5] := by
  have h0 : rw' [x0, x1, x2, x3, x4, x5] [y0, y1, y2, y3, y4, y5] 0 = [y0, y1, y2, y3, y4, y5] := rfl
  have h1 : rw' [x0, x1, x2, x3, x4, x5] [y0, y1, y2, y3, y4, y5] 1 = [x0, x1, x2, x3, x4, x5] := rfl
  have h2 : rw' [x0, x1, x2, x3, x4, x5] [y0, y1, y2, y3, y4, y5] 2 = [x1 - y0, x0 + x2 - y1, x1 + x3 - y2, x2 + x4 - y3, x3 + x5 - y4, x4 - y5] := by
    rw [rw', h1, h0]
    refine (show nx _ _ = [(0) + (x1) - (y0), (x0) + (x2) - (y1), (x1) + (x3) - (y2), (x2) + (x4) - (y3), (x3) + (x5) - (y4), (x4) + (0) - (y5)] from rfl).trans ?_
    simp only [List.cons.injEq, and_true, true_and, eq_self] <;> omega
  have h3 : rw' [x0, x1, x2, x3, x4, x5] [y0, y1, y2, y3, y4, y5] 3 = [x2 - y1, x1 + x3 - y0 - y2, x0 + x2 + x4 - y1 - y3, x1 + x3 + x5 - y2 - y4, x2 + x4 - y3 - y5, x3 - y4] := by
    rw [rw', h2, h1]
    refine (show nx _ _ = [(0) + (x0 + x2 - y1) - (x0), (x1 - y0) + (x1 + x3 - y2) - (x1), (x0 + x2 - y1) + (x2 + x4 - y3) - (x2), (x1 + x3 - y2) + (x3 + x5 - y4) - (x3), (x2 + x4 - y3) + (x4 - y5) - (x4), (x3 + x5 - y4) + (0) - (x5)] from rfl).trans ?_
    simp only [List.cons.injEq, and_true, true_and, eq_self] <;> omega
  have h4 : rw' [x0, x1, x2, x3, x4, x5] [y0, y1, y2, y3, y4, y5] 4 = [x3 - y2, x2 + x4 - y1 - y3, x1 + x3 + x5 - y0 - y2 - y4, x0 + x2 + x4 - y1 - y3 - y5, x1 + x3 - y2 - y4, x2 - y3] := by
    rw [rw', h3, h2]
    refine (show nx _ _ = [(0) + (x1 + x3 - y0 - y2) - (x1 - y0), (x2 - y1) + (x0 + x2 + x4 - y1 - y3) - (x0 + x2 - y1), (x1 + x3 - y0 - y2) + (x1 + x3 + x5 - y2 - y4) - (x1 + x3 - y2), (x0 + x2 + x4 - y1 - y3) + (x2 + x4 - y3 - y5) - (x2 + x4 - y3), (x1 + x3 + x5 - y2 - y4) + (x3 - y4) - (x3 + x5 - y4), (x2 + x4 - y3 - y5) + (0) - (x4 - y5)] from rfl).trans ?_
    simp only [List.cons.injEq, and_true, true_and, eq_self] <;> omega
  have h5 : rw' [x0, x1, x2, x3, x4, x5] [y0, y1, y2, y3, y4, y5] 5 = [x4 - y3, x3 + x5 - y2 - y4, x2 + x4 - y1 - y3 - y5, x1 + x3 - y0 - y2 - y4, x0 + x2 - y1 - y3, x1 - y2] := by
    rw [rw', h4, h3]
    refine (show nx _ _ = [(0) + (x2 + x4 - y1 - y3) - (x2 - y1), (x3 - y2) + (x1 + x3 + x5 - y0 - y2 - y4) - (x1 + x3 - y0 - y2), (x2 + x4 - y1 - y3) + (x0 + x2 + x4 - y1 - y3 - y5) - (x0 + x2 + x4 - y1 - y3), (x1 + x3 + x5 - y0 - y2 - y4) + (x1 + x3 - y2 - y4) - (x1 + x3 + x5 - y2 - y4), (x0 + x2 + x4 - y1 - y3 - y5) + (x2 - y3) - (x2 + x4 - y3 - y5), (x1 + x3 - y2 - y4) + (0) - (x3 - y4)] from rfl).trans ?_
    simp only [List.cons.injEq, and_true, true_and, eq_self] <;> omega
  have h6 : rw' [x0, x1, x2, x3, x4, x5] [y0, y1, y2, y3, y4, y5] 6 = [x5 - y4, x4 - y3 - y5, x3 - y2 - y4, x2 - y1 - y3, x1 - y0 - y2, x0 - y1] := by
    rw [rw', h5, h4]
    refine (show nx _ _ = [(0) + (x3 + x5 - y2 - y4) - (x3 - y2), (x4 - y3) + (x2 + x4 - y1 - y3 - y5) - (x2 + x4 - y1 - y3), (x3 + x5 - y2 - y4) + (x1 + x3 - y0 - y2 - y4) - (x1 + x3 + x5 - y0 - y2 - y4), (x2 + x4 - y1 - y3 - y5) + (x0 + x2 - y1 - y3) - (x0 + x2 + x4 - y1 - y3 - y5), (x1 + x3 - y0 - y2 - y4) + (x1 - y2) - (x1 + x3 - y2 - y4), (x0 + x2 - y1 - y3) + (0) - (x2 - y3)] from rfl).trans ?_
    simp only [List.cons.injEq, and_true, true_and, eq_self] <;> omega
  have h7 : rw' [x0, x1, x2, x3, x4, x5] [y0, y1, y2, y3, y4, y5] 7 = [-y5, -y4, -y3, -y2, -y1, -y0] := by
    rw [rw', h6, h5]
    refine (show nx _ _ = [(0) + (x4 - y3 - y5) - (x4 - y3), (x5 - y4) + (x3 - y2 - y4) - (x3 + x5 - y2 - y4), (x4 - y3 - y5) + (x2 - y1 - y3) - (x2 + x4 - y1 - y3 - y5), (x3 - y2 - y4) + (x1 - y0 - y2) - (x1 + x3 - y0 - y2 - y4), (x2 - y1 - y3) + (x0 - y1) - (x0 + x2 - y1 - y3), (x1 - y0 - y2) + (0) - (x1 - y2)] from rfl).trans ?_
    simp only [List.cons.injEq, and_true, true_and, eq_self] <;> omega
  have h8 : rw' [x0, x1, x2, x3, x4, x5] [y0, y1, y2, y3, y4, y5] 8 = [-x5, -x4, -x3, -x2, -x1, -x0] := by
    rw [rw', h7, h6]
    refine (show nx _ _ = [(0) + (-y4) - (x5 - y4), (-y5) + (-y3) - (x4 - y3 - y5), (-y4) + (-y2) - (x3 - y2 - y4), (-y3) + (-y1) - (x2 - y1 - y3), (-y2) + (-y0) - (x1 - y0 - y2), (-y1) + (0) - (x0 - y1)] from rfl).trans ?_
    simp only [List.cons.injEq, and_true, true_and, eq_self] <;> omega
  have h9 : rw' [x0, x1, x2, x3, x4, x5] [y0, y1, y2, y3, y4, y5] 9 = [-x4 + y5, -x3 - x5 + y4, -x2 - x4 + y3, -x1 - x3 + y2, -x0 - x2 + y1, -x1 + y0] := by
    rw [rw', h8, h7]
    refine (show nx _ _ = [(0) + (-x4) - (-y5), (-x5) + (-x3) - (-y4), (-x4) + (-x2) - (-y3), (-x3) + (-x1) - (-y2), (-x2) + (-x0) - (-y1), (-x1) + (0) - (-y0)] from rfl).trans ?_
    simp only [List.cons.injEq, and_true, true_and, eq_self] <;> omega
  have h10 : rw' [x0, x1, x2, x3, x4, x5] [y0, y1, y2, y3, y4, y5] 10 = [-x3 + y4, -x2 - x4 + y3 + y5, -x1 - x3 - x5 + y2 + y4, -x0 - x2 - x4 + y1 + y3, -x1 - x3 + y0 + y2, -x2 + y1] := by
    rw [rw', h9, h8]
    refine (show nx _ _ = [(0) + (-x3 - x5 + y4) - (-x5), (-x4 + y5) + (-x2 - x4 + y3) - (-x4), (-x3 - x5 + y4) + (-x1 - x3 + y2) - (-x3), (-x2 - x4 + y3) + (-x0 - x2 + y1) - (-x2), (-x1 - x3 + y2) + (-x1 + y0) - (-x1), (-x0 - x2 + y1) + (0) - (-x0)] from rfl).trans ?_
    simp only [List.cons.injEq, and_true, true_and, eq_self] <;> omega
  have h11 : rw' [x0, x1, x2, x3, x4, x5] [y0, y1, y2, y3, y4, y5] 11 = [-x2 + y3, -x1 - x3 + y2 + y4, -x0 - x2 - x4 + y1 + y3 + y5, -x1 - x3 - x5 + y0 + y2 + y4, -x2 - x4 + y1 + y3, -x3 + y2] := by
    rw [rw', h10, h9]
    refine (show nx _ _ = [(0) + (-x2 - x4 + y3 + y5) - (-x4 + y5), (-x3 + y4) + (-x1 - x3 - x5 + y2 + y4) - (-x3 - x5 + y4), (-x2 - x4 + y3 + y5) + (-x0 - x2 - x4 + y1 + y3) - (-x2 - x4 + y3), (-x1 - x3 - x5 + y2 + y4) + (-x1 - x3 + y0 + y2) - (-x1 - x3 + y2), (-x0 - x2 - x4 + y1 + y3) + (-x2 + y1) - (-x0 - x2 + y1), (-x1 - x3 + y0 + y2) + (0) - (-x1 + y0)] from rfl).trans ?_
    simp only [List.cons.injEq, and_true, true_and, eq_self] <;> omega
  have h12 : rw' [x0, x1, x2, x3, x4, x5] [y0, y1, y2, y3, y4, y5] 12 = [-x1 + y2, -x0 - x2 + y1 + y3, -x1 - x3 + y0 + y2 + y4, -x2 - x4 + y1 + y3 + y5, -x3 - x5 + y2 + y4, -x4 + y3] := by
    rw [rw', h11, h10]
    refine (show nx _ _ = [(0) + (-x1 - x3 + y2 + y4) - (-x3 + y4), (-x2 + y3) + (-x0 - x2 - x4 + y1 + y3 + y5) - (-x2 - x4 + y3 + y5), (-x1 - x3 + y2 + y4) + (-x1 - x3 - x5 + y0 + y2 + y4) - (-x1 - x3 - x5 + y2 + y4), (-x0 - x2 - x4 + y1 + y3 + y5) + (-x2 - x4 + y1 + y3) - (-x0 - x2 - x4 + y1 + y3), (-x1 - x3 - x5 + y0 + y2 + y4) + (-x3 + y2) - (-x1 - x3 + y0 + y2), (-x2 - x4 + y1 + y3) + (0) - (-x2 + y1)] from rfl).trans ?_
    simp only [List.cons.injEq, and_true, true_and, eq_self] <;> omega
  have h13 : rw' [x0, x1, x2, x3, x4, x5] [y0, y1, y2, y3, y4, y5] 13 = [-x0 + y1, -x1 + y0 + y2, -x2 + y1 + y3, -x3 + y2 + y4, -x4 + y3 + y5, -x5 + y4] := by
    rw [rw', h12, h11]
    refine (show nx _ _ = [(0) + (-x0 - x2 + y1 + y3) - (-x2 + y3), (-x1 + y2) + (-x1 - x3 + y0 + y2 + y4) - (-x1 - x3 + y2 + y4), (-x0 - x2 + y1 + y3) + (-x2 - x4 + y1 + y3 + y5) - (-x0 - x2 - x4 + y1 + y3 + y5), (-x1 - x3 + y0 + y2 + y4) + (-x3 - x5 + y2 + y4) - (-x1 - x3 - x5 + y0 + y2 + y4), (-x2 - x4 + y1 + y3 + y5) + (-x4 + y3) - (-x2 - x4 + y1 + y3), (-x3 - x5 + y2 + y4) + (0) - (-x3 + y2)] from rfl).trans ?_
    simp only [List.cons.injEq, and_true, true_and, eq_self] <;> omega
  have h14 : rw' [x0, x1, x2, x3, x4, x5] [y0, y1, y2, y3, y4, y5] 14 = [y0, y1, y2, y3, y4, y5] := by
    rw [rw', h13, h12]
    refine (show nx _ _ = [(0) + (-x1 + y0 + y2) - (-x1 + y2), (-x0 + y1) + (-x2 + y1 + y3) - (-x0 - x2 + y1 + y3), (-x1 + y0 + y2) + (-x3 + y2 + y4) - (-x1 - x3 + y0 + y2 + y4), (-x2 + y1 + y3) + (-x4 + y3 + y5) - (-x2 - x4 + y1 + y3 + y5), (-x3 + y2 + y4) + (-x5 + y4) - (-x3 - x5 + y2 + y4), (-x4 + y3 + y5) + (0) - (-x4 + y3)] from rfl).trans ?_
    simp only [List.cons.injEq, and_true, true_and, eq_self] <;> omega
  have h15 : rw' [x0, x1, x2, x3, x4, x5] [y0, y1, y2, y3, y4, y5] 15 = [x0, x1, x2, x3, x4, x5] := by
    rw [rw', h14, h13]
    refine (show nx _ _ = [(0) + (y1) - (-x0 + y1), (y0) + (y2) - (-x1 + y0 + y2), (y1) + (y3) - (-x2 + y1 + y3), (y2) + (y4) - (-x3 + y2 + y4), (y3) + (y5) - (-x4 + y3 + y5), (y4) + (0) - (-x5 + y4)] from rfl).trans ?_
    simp only [List.cons.injEq, and_true, true_and, eq_self] <;> omega
  exact ⟨h14, h15⟩
theorem period {a b : List Int} {n : Nat} (ha : a.length = n) (hb : b.length = n) (h2 : 2 ≤ n) (h6 : n ≤ 6) : rw' a b (2 * n + 2) = b ∧ rw' a b (2 * n + 3) = a := by
  have d : ∀ (k : Nat) (l : List Int), l.length = k + 1 → ∃ x r, l = x :: r ∧ r.length = k := by
    intro k l h
    cases l with
    | nil => simp at h
    | cons x r => exact ⟨x, r, rfl, by simpa using h⟩
  have z : ∀ l : List Int, l.length = 0 → l = [] := fun l h => List.eq_nil_of_length_eq_zero h
  rcases (show n = 2 ∨ n = 3 ∨ n = 4 ∨ n = 5 ∨ n = 6 by omega) with e | e | e | e | e <;> subst e
  · obtain ⟨x0, a0, ea0, ha0⟩ := d 1 a ha
    obtain ⟨x1, a1, ea1, ha1⟩ := d 0 a0 ha0
    have ea := z a1 ha1
    obtain ⟨y0, b0, eb0, hb0⟩ := d 1 b hb
    obtain ⟨y1, b1, eb1, hb1⟩ := d 0 b0 hb0
    have eb := z b1 hb1
    subst ea ea1 ea0 eb eb1 eb0
    exact per2 x0 x1 y0 y1
  · obtain ⟨x0, a0, ea0, ha0⟩ := d 2 a ha
    obtain ⟨x1, a1, ea1, ha1⟩ := d 1 a0 ha0
    obtain ⟨x2, a2, ea2, ha2⟩ := d 0 a1 ha1
    have ea := z a2 ha2
    obtain ⟨y0, b0, eb0, hb0⟩ := d 2 b hb
    obtain ⟨y1, b1, eb1, hb1⟩ := d 1 b0 hb0
    obtain ⟨y2, b2, eb2, hb2⟩ := d 0 b1 hb1
    have eb := z b2 hb2
    subst ea ea2 ea1 ea0 eb eb2 eb1 eb0
    exact per3 x0 x1 x2 y0 y1 y2
  · obtain ⟨x0, a0, ea0, ha0⟩ := d 3 a ha
    obtain ⟨x1, a1, ea1, ha1⟩ := d 2 a0 ha0
    obtain ⟨x2, a2, ea2, ha2⟩ := d 1 a1 ha1
    obtain ⟨x3, a3, ea3, ha3⟩ := d 0 a2 ha2
    have ea := z a3 ha3
    obtain ⟨y0, b0, eb0, hb0⟩ := d 3 b hb
    obtain ⟨y1, b1, eb1, hb1⟩ := d 2 b0 hb0
    obtain ⟨y2, b2, eb2, hb2⟩ := d 1 b1 hb1
    obtain ⟨y3, b3, eb3, hb3⟩ := d 0 b2 hb2
    have eb := z b3 hb3
    subst ea ea3 ea2 ea1 ea0 eb eb3 eb2 eb1 eb0
    exact per4 x0 x1 x2 x3 y0 y1 y2 y3
  · obtain ⟨x0, a0, ea0, ha0⟩ := d 4 a ha
    obtain ⟨x1, a1, ea1, ha1⟩ := d 3 a0 ha0
    obtain ⟨x2, a2, ea2, ha2⟩ := d 2 a1 ha1
    obtain ⟨x3, a3, ea3, ha3⟩ := d 1 a2 ha2
    obtain ⟨x4, a4, ea4, ha4⟩ := d 0 a3 ha3
    have ea := z a4 ha4
    obtain ⟨y0, b0, eb0, hb0⟩ := d 4 b hb
    obtain ⟨y1, b1, eb1, hb1⟩ := d 3 b0 hb0
    obtain ⟨y2, b2, eb2, hb2⟩ := d 2 b1 hb1
    obtain ⟨y3, b3, eb3, hb3⟩ := d 1 b2 hb2
    obtain ⟨y4, b4, eb4, hb4⟩ := d 0 b3 hb3
    have eb := z b4 hb4
    subst ea ea4 ea3 ea2 ea1 ea0 eb eb4 eb3 eb2 eb1 eb0
    exact per5 x0 x1 x2 x3 x4 y0 y1 y2 y3 y4
  · obtain ⟨x0, a0, ea0, ha0⟩ := d 5 a ha
    obtain ⟨x1, a1, ea1, ha1⟩ := d 4 a0 ha0
    obtain ⟨x2, a2, ea2, ha2⟩ := d 3 a1 ha1
    obtain ⟨x3, a3, ea3, ha3⟩ := d 2 a2 ha2
    obtain ⟨x4, a4, ea4, ha4⟩ := d 1 a3 ha3
    obtain ⟨x5, a5, ea5, ha5⟩ := d 0 a4 ha4
    have ea := z a5 ha5
    obtain ⟨y0, b0, eb0, hb0⟩ := d 5 b hb
    obtain ⟨y1, b1, eb1, hb1⟩ := d 4 b0 hb0
    obtain ⟨y2, b2, eb2, hb2⟩ := d 3 b1 hb1
    obtain ⟨y3, b3, eb3, hb3⟩ := d 2 b2 hb2
    obtain ⟨y4, b4, eb4, hb4⟩ := d 1 b3 hb3
    obtain ⟨y5, b5, eb5, hb5⟩ := d 0 b4 hb4
    have eb := z b5 hb5
    subst ea ea5 ea4 ea3 ea2 ea1 ea0 eb eb5 eb4 eb3 eb2 eb1 eb0
    exact per6 x0 x1 x2 x3 x4 x5 y0 y1 y2 y3 y4 y5
/-! how large -/
def Bd (B : Nat) (a : List Int) : Prop := ∀ k, (a.getD k 0).natAbs ≤ B
theorem edge_bd {B : Nat} {a : List Int} (h : Bd B a) (k : Nat) : ((edge a).getD k 0).natAbs ≤ B := by
  cases k with
  | zero => rw [edge_0]; simp
  | succ k => rw [edge_at]; exact h k
theorem nx_bd {B C : Nat} {a b : List Int} (h : Bd B a) (h' : Bd C b) : Bd (2 * B + C) (nx a b) := by
  intro k
  rcases Nat.lt_or_ge k a.length with z | z
  · rw [nx_get z]
    unfold nxk
    have := edge_bd h k
    have := edge_bd h (k + 2)
    have := h' k
    omega
  · rw [show (nx a b).getD k 0 = 0 by simp [List.getD, nx, z]]
    simp
theorem rw_bd {a b : List Int} (h : Bd 3 a) (h' : Bd 3 b) : ∀ k, Bd (3 ^ (k + 1)) (rw' a b k)
  | 0 => h'
  | 1 => fun k => Nat.le_trans (h k) (by decide)
  | k + 2 => by
    have h1 := rw_bd h h' (k + 1)
    have h0 := rw_bd h h' k
    intro j
    have := nx_bd h1 h0 j
    rw [rw']
    have e1 : 3 ^ (k + 1 + 1) = 3 * 3 ^ (k + 1) := by rw [Nat.pow_succ]; omega
    have e2 : 3 ^ (k + 2 + 1) = 9 * 3 ^ (k + 1) := by rw [Nat.pow_succ, Nat.pow_succ]; omega
    omega
theorem rw_small {a b : List Int} (h : Bd 3 a) (h' : Bd 3 b) {k : Nat} (hk : k ≤ 41) (j : Nat) : ((rw' a b k).getD j 0).natAbs < 1267650600228229401496703205376 := by
  have := rw_bd h h' k j
  have e : 3 ^ (k + 1) ≤ 3 ^ 42 := Nat.pow_le_pow_right (by decide) (by omega)
  have : (3 : Nat) ^ 42 < 1267650600228229401496703205376 := by decide
  omega
/-! energy -/
def rs (n : Nat) (f : Nat → Int) : Int := ((List.range n).map f).sum
theorem sum_getD (f : Int → Int) (a : List Int) : (a.map f).sum = rs a.length fun k => f (a.getD k 0) := by
  unfold rs
  congr 1
  apply List.ext_getElem
  · simp
  · intro i h1 h2
    simp at h1
    simp [List.getD, h1]
def en (n : Nat) (a b : List Int) : Int := (rs n (fun k => a.getD k 0 * a.getD k 0) + rs n fun k => b.getD k 0 * b.getD k 0) - rs (n - 1) fun k => a.getD k 0 * b.getD (k + 1) 0 + a.getD (k + 1) 0 * b.getD k 0
theorem energy_eq {a b : List Int} {n : Nat} (ha : a.length = n) (hb : b.length = n) (h1 : 1 ≤ n) (hs : n ≤ 1000) (sa : ∀ j, (a.getD j 0).natAbs < 1267650600228229401496703205376) (sb : ∀ j, (b.getD j 0).natAbs < 1267650600228229401496703205376) : m_energy a b = some (en n a b) := by
  have sq : ∀ c : List Int, (∀ j, (c.getD j 0).natAbs < 1267650600228229401496703205376) → compL (m := Option) (fun _ => pure true) (fun x => fromO (mulG x x)) c = some (c.map fun x => x * x) := fun c sc => comp_all fun x hx => by
    obtain ⟨i, hi, rfl⟩ := List.getElem_of_mem hx
    have := sc i
    rw [show c.getD i 0 = c[i] by simp [List.getD, hi]] at this
    rw [o_fromO, mul_small this this]
  unfold m_energy
  have e1 := sq a sa
  have e2 := sq b sb
  rw [o_go e1]
  rw [o_go e2, o_pure, o_bind, o_fromO, show ((a.length : Int) - 1) = ((n - 1 : Nat) : Int) by omega, range_nat (by omega), o_bind]
  rw [o_go (comp_range (q := fun k => a.getD k 0 * b.getD (k + 1) 0 + a.getD (k + 1) 0 * b.getD k 0) fun k hk => ?_)]
  · rw [o_pure, o_bind, o_pure, sum_getD, sum_getD, ha, hb]
    rfl
  · simp only [o_fromO, o_pure, o_bind, at_getD (xs := a) (k := k) (by omega), at_getD (xs := b) (k := k) (by omega)]
    have i1 : L2.atI b ((k : Int) + 1) = some (b.getD (k + 1) 0) := by
      rw [at_of (k + 1) (by omega) (List.getElem?_eq_getElem (by omega))]
      simp [List.getD, show k + 1 < b.length by omega]
    have i2 : L2.atI a ((k : Int) + 1) = some (a.getD (k + 1) 0) := by
      rw [at_of (k + 1) (by omega) (List.getElem?_eq_getElem (by omega))]
      simp [List.getD, show k + 1 < a.length by omega]
    rw [i1, o_bind, mul_small (sa k) (sb (k + 1)), o_bind, i2, o_bind, mul_small (sa (k + 1)) (sb k), o_bind]
def du (n : Nat) (a b : List Int) : Int := (rs n (fun k => a.getD k 0 * a.getD k 0) + rs n fun k => b.getD k 0 * b.getD k 0) - rs n fun k => a.getD k 0 * ((edge b).getD k 0 + (edge b).getD (k + 2) 0)
theorem getD_out {a : List Int} {k : Nat} (h : a.length ≤ k) : a.getD k 0 = 0 := by simp [List.getD, h]
theorem rs_2 (f : Nat → Int) : rs 2 f = f 0 + (f 1 + 0) := rfl
theorem rs_1 (f : Nat → Int) : rs 1 f = f 0 + 0 := rfl
theorem rs_3 (f : Nat → Int) : rs 3 f = f 0 + (f 1 + (f 2 + 0)) := rfl
theorem rs_4 (f : Nat → Int) : rs 4 f = f 0 + (f 1 + (f 2 + (f 3 + 0))) := rfl
theorem rs_5 (f : Nat → Int) : rs 5 f = f 0 + (f 1 + (f 2 + (f 3 + (f 4 + 0)))) := rfl
theorem rs_6 (f : Nat → Int) : rs 6 f = f 0 + (f 1 + (f 2 + (f 3 + (f 4 + (f 5 + 0))))) := rfl
theorem en_du {a b : List Int} {n : Nat} (hb : b.length = n) (h2 : 2 ≤ n) (h6 : n ≤ 6) : en n a b = du n a b := by
  have o := getD_out (a := b) (k := n) (by omega)
  unfold en du
  rcases (show n = 2 ∨ n = 3 ∨ n = 4 ∨ n = 5 ∨ n = 6 by omega) with e | e | e | e | e <;> subst e <;> simp only [rs_1, rs_2, rs_3, rs_4, rs_5, rs_6, edge_0, edge_at, Nat.zero_add, Nat.reduceAdd, Nat.reduceSub, show ∀ c : List Int, (edge c).getD 1 0 = c.getD 0 0 from fun c => edge_at c 0, show ∀ c : List Int, (edge c).getD 2 0 = c.getD 1 0 from fun c => edge_at c 1, show ∀ c : List Int, (edge c).getD 3 0 = c.getD 2 0 from fun c => edge_at c 2, show ∀ c : List Int, (edge c).getD 4 0 = c.getD 3 0 from fun c => edge_at c 3, show ∀ c : List Int, (edge c).getD 5 0 = c.getD 4 0 from fun c => edge_at c 4, show ∀ c : List Int, (edge c).getD 6 0 = c.getD 5 0 from fun c => edge_at c 5, show ∀ c : List Int, (edge c).getD 7 0 = c.getD 6 0 from fun c => edge_at c 6, o] <;> grind
theorem en_step {r a : List Int} {n : Nat} (hr : r.length = n) (ha : a.length = n) (h2 : 2 ≤ n) (h6 : n ≤ 6) : en n (nx r a) r = en n r a := by
  rw [en_du hr h2 h6, en_du ha h2 h6]
  have o := getD_out (a := r) (k := n) (by omega)
  have o2 := getD_out (a := a) (k := n) (by omega)
  have g : ∀ k, k < n → (nx r a).getD k 0 = nxk r a k := fun k hk => nx_get (by omega)
  unfold du
  have e1 : ∀ c : List Int, (edge c).getD 1 0 = c.getD 0 0 := fun c => edge_at c 0
  have e2 : ∀ c : List Int, (edge c).getD 2 0 = c.getD 1 0 := fun c => edge_at c 1
  have e3 : ∀ c : List Int, (edge c).getD 3 0 = c.getD 2 0 := fun c => edge_at c 2
  have e4 : ∀ c : List Int, (edge c).getD 4 0 = c.getD 3 0 := fun c => edge_at c 3
  have e5 : ∀ c : List Int, (edge c).getD 5 0 = c.getD 4 0 := fun c => edge_at c 4
  have e6 : ∀ c : List Int, (edge c).getD 6 0 = c.getD 5 0 := fun c => edge_at c 5
  have e7 : ∀ c : List Int, (edge c).getD 7 0 = c.getD 6 0 := fun c => edge_at c 6
  rcases (show n = 2 ∨ n = 3 ∨ n = 4 ∨ n = 5 ∨ n = 6 by omega) with e | e | e | e | e
  · subst e
    simp only [rs_2, g 0 (by decide), g 1 (by decide), nxk, edge_0, e1, e2, e3, Nat.reduceAdd, o, o2]
    grind
  · subst e
    simp only [rs_3, g 0 (by decide), g 1 (by decide), g 2 (by decide), nxk, edge_0, e1, e2, e3, e4, Nat.reduceAdd, o, o2]
    grind
  · subst e
    simp only [rs_4, g 0 (by decide), g 1 (by decide), g 2 (by decide), g 3 (by decide), nxk, edge_0, e1, e2, e3, e4, e5, Nat.reduceAdd, o, o2]
    grind
  · subst e
    simp only [rs_5, g 0 (by decide), g 1 (by decide), g 2 (by decide), g 3 (by decide), g 4 (by decide), nxk, edge_0, e1, e2, e3, e4, e5, e6, Nat.reduceAdd, o, o2]
    grind
  · subst e
    simp only [rs_6, g 0 (by decide), g 1 (by decide), g 2 (by decide), g 3 (by decide), g 4 (by decide), g 5 (by decide), nxk, edge_0, e1, e2, e3, e4, e5, e6, e7, Nat.reduceAdd, o, o2]
    grind
theorem en_all {a b : List Int} {n : Nat} (ha : a.length = n) (hb : b.length = n) (h2 : 2 ≤ n) (h6 : n ≤ 6) : ∀ k, en n (rw' a b (k + 1)) (rw' a b k) = en n a b
  | 0 => rfl
  | k + 1 => by
    show en n (nx (rw' a b (k + 1)) (rw' a b k)) (rw' a b (k + 1)) = _
    rw [en_step (by rw [rw_len (ha.trans hb.symm), ha]) (by rw [rw_len (ha.trans hb.symm), ha]) h2 h6]
    exact en_all ha hb h2 h6 k
/-! when it comes again -/
theorem first_of {p : Nat → Bool} {T : Nat} (h1 : 1 ≤ T) (hT : p T = true) : ∃ q, 1 ≤ q ∧ q ≤ T ∧ p q = true ∧ ∀ j, 1 ≤ j → j < q → p j = false := by
  have : ∀ t, ∀ s, s + t = T → 1 ≤ s → (∀ j, 1 ≤ j → j < s → p j = false) → ∃ q, 1 ≤ q ∧ q ≤ T ∧ p q = true ∧ ∀ j, 1 ≤ j → j < q → p j = false := by
    intro t
    induction t with
    | zero => intro s e l h; exact ⟨s, l, by omega, by rw [show s = T by omega]; exact hT, h⟩
    | succ t ih =>
      intro s e l h
      cases z : p s with
      | true => exact ⟨s, l, by omega, z, h⟩
      | false =>
        refine ih (s + 1) (by omega) (by omega) fun j h1 h2 => ?_
        rcases Nat.lt_or_ge j s with y | y
        · exact h j h1 y
        · rw [show j = s by omega]; exact z
  exact this (T - 1) 1 (by omega) (Nat.le_refl _) fun j h1 h2 => by omega
theorem filter_first {p : Nat → Bool} {T q : Nat} (h1 : 1 ≤ q) (h2 : q ≤ T) (hq : p q = true) (hn : ∀ j, 1 ≤ j → j < q → p j = false) : ∃ r : List Int, (rangeL 1 T).filter (fun x => p x.toNat) = (q : Int) :: r := by
  have e : rangeL 1 T = rangeL 1 (q - 1) ++ rangeL (q : Int) (T - (q - 1)) := by
    apply List.ext_getElem?
    intro i
    rcases Nat.lt_or_ge i (q - 1) with z | z
    · rw [List.getElem?_append_left (by rw [rangeL_len]; exact z), rangeL_get _ _ _ (by omega), rangeL_get _ _ _ z]
    · rw [List.getElem?_append_right (by rw [rangeL_len]; exact z), rangeL_len]
      rcases Nat.lt_or_ge i T with y | y
      · rw [rangeL_get _ _ _ y, rangeL_get _ _ _ (by omega)]
        congr 1
        omega
      · rw [List.getElem?_eq_none (by rw [rangeL_len]; exact y), List.getElem?_eq_none (by rw [rangeL_len]; omega)]
  rw [e, List.filter_append]
  have z1 : (rangeL 1 (q - 1)).filter (fun x => p x.toNat) = [] := by
    rw [List.filter_eq_nil_iff]
    intro x hx
    rw [mem_rangeL] at hx
    rw [hn x.toNat (by omega) (by omega)]
    exact Bool.false_ne_true
  rw [z1, List.nil_append, show T - (q - 1) = (T - q) + 1 by omega, rangeL, List.filter_cons_of_pos (by simpa using hq)]
  exact ⟨_, rfl⟩
theorem round_eq {a b : List Int} (h : a.length = b.length) (hs : a.length ≤ 1000) {q : Nat} (h1 : 1 ≤ q) (hq : rw' a b q = b ∧ rw' a b (q + 1) = a) (hn : ∀ j, 1 ≤ j → j < q → ¬ (rw' a b j = b ∧ rw' a b (j + 1) = a)) : m_round_hours a b = some (q : Int) := by
  unfold m_round_hours
  rw [o_pure, o_bind]
  simp only [o_pure, o_bind, o_fromO]
  have key : ∀ t s, s + t = q → whileFP (m := Option) (fun d_ : List Int × List Int × Int => some ((decide (d_.2.2 = (0 : Int))) || (!decide ((d_.1, d_.2.1) = (a, b))))) (fun d_ => (m_next_row d_.1 d_.2.1 >>= fun v1 => some (v1, d_.1, (d_.2.2 + (1 : Int)))) >>= fun p_2 => some (p_2.1, p_2.2.1, p_2.2.2)) (t + 1) (rw' a b (s + 1), rw' a b s, (s : Int)) = some (a, b, (q : Int)) := by
    intro t
    induction t with
    | zero =>
      intro s e
      have e : s = q := by omega
      subst e
      show (some _ >>= fun t => if t = true then _ else _) = _
      rw [o_bind, hq.1, hq.2]
      have : (decide ((s : Int) = 0) || !decide ((a, b) = (a, b))) = false := by simp; omega
      rw [if_neg (by rw [this]; exact Bool.false_ne_true)]
      rfl
    | succ t ih =>
      intro s e
      show (some _ >>= fun t => if t = true then _ else _) = _
      rw [o_bind]
      have : (decide ((s : Int) = 0) || !decide ((rw' a b (s + 1), rw' a b s) = (a, b))) = true := by
        rcases Nat.eq_zero_or_pos s with z | z
        · simp [z]
        · have := hn s z (by omega)
          simp
          rcases Classical.em (rw' a b (s + 1) = a) with e1 | e1
          · exact .inr (.inr fun e2 => this ⟨e2, e1⟩)
          · exact .inr (.inl e1)
      rw [if_pos this]
      simp only [next_row_eq (show (rw' a b (s + 1)).length = (rw' a b s).length by rw [rw_len h, rw_len h]) (by rw [rw_len h]; exact hs), o_bind]
      exact ih (s + 1) (by omega)
  have w := whileM_of (key q 0 (by omega))
  exact o_go w
theorem rep_zero {n : Nat} (h2 : 2 ≤ n) (h6 : n ≤ 1000) : repT [(0 : Int)] (n : Int) = some (List.replicate n 0) := by
  unfold repT
  rw [if_pos ⟨by simp, by omega, by omega, by simp⟩]
  congr 1
  rw [show ((n : Int)).toNat = n by omega]
  clear h2 h6
  induction n with
  | zero => rfl
  | succ n ih => rw [List.replicate_succ, List.flatten_cons, ih]; rfl
def drp (n p : Nat) : List Int := (List.range n).map fun k => if k = p then 1 else 0
theorem dropped_eq {n p : Nat} (h2 : 2 ≤ n) (h6 : n ≤ 1000) : m_dropped_in n p = some (drp n p, List.replicate n 0) := by
  unfold m_dropped_in
  rw [o_fromO, range_nat (by omega), o_bind, o_go (comp_range (q := fun k => if k = p then 1 else 0) fun k hk => ?_), o_fromO, rep_zero h2 h6, o_bind]
  · rfl
  · rw [o_pure]
    unfold intB
    by_cases z : k = p
    · rw [if_pos (by simp [z]), if_pos z]
    · rw [if_neg (by simp; omega), if_neg z]
theorem first_eq {n p g : Nat} (h2 : 2 ≤ n) (h6 : n ≤ 6) (hg : g < n) : m_first_wet n p g = some (Option.map (fun (k : Nat) => (k : Int)) ((List.range (4 * n + 1)).filter fun k => !decide ((rw' (drp n p) (List.replicate n 0) (k + 1)).getD g 0 = 0)).head?) := by
  have l : (drp n p).length = (List.replicate n (0 : Int)).length := by simp [drp]
  have ln : (drp n p).length = n := by simp [drp]
  unfold m_first_wet
  rw [o_fromO, dropped_eq h2 (by omega), o_bind]
  have e4 : mulG 4 (n : Int) = some ((4 * n : Nat) : Int) := by rw [mul_small (by decide) (by omega)]; congr 1
  rw [o_fromO, e4]
  rw [o_go (show ((some ((4 * n : Nat) : Int) : Option Int) >>= fun v3 => fromO (m_seen_at (drp n p, List.replicate n (0 : Int)).1 (drp n p, List.replicate n (0 : Int)).2 g v3)) = _ from by rw [o_bind, o_fromO, seen_eq l (by omega) (by omega) (by omega)])]
  generalize hz : (fun k => (rw' (drp n p) (List.replicate n 0) (k + 1)).getD g 0) = f
  have hz' : ∀ k, (rw' (drp n p) (List.replicate n 0) (k + 1)).getD g 0 = f k := fun k => congrFun hz k
  rw [o_fromO, List.length_map, List.length_range, range_nat (by omega), o_bind, o_go (comp_rangeF (p := fun k => !decide (f k = 0)) (q := fun k => (k : Int)) (fun k hk => ?_) fun k hk _ => o_pure _)]
  · simp only [hz']
    generalize (List.range (4 * n + 1)).filter _ = w
    cases w with
    | nil => rfl
    | cons x w =>
      have z : L2.atI ((x : Int) :: w.map fun (k : Nat) => (k : Int)) 0 = some (x : Int) := at_of 0 rfl rfl
      rw [if_pos (by simp), o_fromO, List.map_cons, z, o_bind]; rfl
  · rw [o_fromO, at_of k rfl (by rw [List.getElem?_map, List.getElem?_range hk]; rfl), o_bind, o_pure]
theorem take_range (f : Nat → List Int) {m n : Nat} (h : n + 2 ≤ m) : cutA ((List.range m).map f) (some (1 : Int)) (some ((n : Int) + 2)) = (List.range (n + 1)).map fun k => f (k + 1) := by
  rw [show (1 : Int) = ((1 : Nat) : Int) from rfl, show (n : Int) + 2 = ((n + 2 : Nat) : Int) by omega, cut_nat]
  apply List.ext_getElem?
  intro i
  simp only [List.length_map, List.length_range, List.getElem?_take, List.getElem?_drop, List.getElem?_map]
  rcases Nat.lt_or_ge i (n + 1) with z | z
  · rw [if_pos (by omega), List.getElem?_range (by omega), List.getElem?_range z]
    simp only [Option.map_some]
    congr 2
    omega
  · rw [if_neg (by omega), List.getElem?_eq_none (by simp; omega)]
    rfl
theorem lists_of {n : Int} {xs : List Int} {v : Int → Prop} (h : xs.length = (rangeL 0 n.toNat).length ∧ ∀ y ∈ xs, v y) : xs.length = n.toNat ∧ ∀ y ∈ xs, v y := ⟨by rw [h.1, rangeL_len], h.2⟩
theorem bd_of {xs : List Int} {B : Nat} (h : ∀ y ∈ xs, y.natAbs ≤ B) : Bd B xs := fun k => by
  rcases Nat.lt_or_ge k xs.length with z | z
  · have := h xs[k] (List.getElem_mem z)
    simpa [List.getD, z] using this
  · rw [getD_out z]; simp
theorem law_true (ns : List Int) (h : ns.length ≤ 63) : m_law ns = some true := by
  refine law_of (n := 300) rfl h (by decide) ?_
  unfold m_lawb
  simp only [w_pure, w_bind, w_ite, w_comp]
  have hn : m__law_next = nextM := rfl
  rw [hn]
  refine Good.go (range_some (by decide)) ?_
  refine Good.bind (P := fun r => ∃ d, r = .inl d) ((Good.loop (fun _ => True) trivial fun turn _ d _ => ?_).imp fun r ⟨d, e, _⟩ => ⟨d, e⟩) fun r ⟨d, e⟩ => ?_
  · -- long
    refine Good.bind (P := fun (l : Int) => ∃ n : Nat, l = (n : Int) ∧ 2 ≤ n ∧ n ≤ 6) (Good.bind (Good.nextM (by decide)) fun v hv => Good.fromO rfl ⟨(2 + v).toNat, by omega, by omega, by omega⟩) fun l ⟨n, e, h2, h6⟩ => ?_
    subst e
    have hr : rangeG 0 (n : Int) = some (rangeL 0 n) := range_nat (by omega)
    have draw : ∀ (m c : Int), 0 < m → Good (compL (fun _ => fromO (some true)) (fun _ => nextM m >>= fun v => fromO (some (v - c))) (rangeL 0 n)) (fun ys => ys.length = n ∧ ∀ y ∈ ys, -c ≤ y ∧ y < m - c) := fun m c hm =>
      (Good.compS fun x _ => Good.bind (Good.nextM hm) fun v hv => Good.fromO rfl (show -c ≤ v - c ∧ v - c < m - c by omega)).imp fun ys hy => ⟨by rw [hy.1, rangeL_len], hy.2⟩
    refine Good.bind (P := fun p : List Int × List Int => p.1.length = n ∧ p.2.length = n ∧ Bd 3 p.1 ∧ Bd 3 p.2) (Good.go hr (Good.bind (draw 7 3 (by decide)) fun a ha => Good.go hr (Good.bind (draw 7 3 (by decide)) fun b hb => Good.fromO rfl ⟨ha.1, hb.1, bd_of fun y hy => by have := ha.2 y hy; omega, bd_of fun y hy => by have := hb.2 y hy; omega⟩))) fun p hp => ?_
    obtain ⟨a, b⟩ := p
    obtain ⟨ha, hb, sa, sb⟩ := hp
    simp only at ha hb sa sb
    have hab : a.length = b.length := ha.trans hb.symm
    have hl : ∀ k, (rw' a b k).length = n := fun k => by rw [rw_len hab, ha]
    have rows := rows_eq hab (by omega) (n := 40) (by decide)
    have at_rows : ∀ (i : Int) (k : Nat), i = (k : Int) → k < 42 → L2.atI ((List.range 42).map (rw' a b)) i = some (rw' a b k) := fun i k e hk => at_of k e (by rw [List.getElem?_map, List.getElem?_range hk]; rfl)
    -- rows, hours
    refine Good.bind (P := fun p : List (List Int) × Int => p.1 = (List.range 42).map (rw' a b) ∧ ∃ k : Nat, p.2 = (k : Int) ∧ k ≤ 8) (Good.go rows (Good.bind (Good.nextM (by decide)) fun v hv => Good.fromO rfl ⟨rfl, v.toNat, by show v = _; omega, by omega⟩)) fun p hp => ?_
    obtain ⟨rs, hours⟩ := p
    obtain ⟨e1, k, e2, hk⟩ := hp
    simp only at e1 e2
    subst e1 e2
    have nx1 : m_next_row a b = some (rw' a b 2) := next_row_eq hab (by omega)
    have rip := rippled_eq hab (by omega) (n := k) (by omega)
    have back : m_gone_back a (rw' a b 2) = some b := by
      unfold m_gone_back
      rw [o_fromO, next_row_eq (by rw [hl, ha]) (by omega)]
      exact congrArg some (back_eq hab)
    refine Good.no ?_ ?_
    · simp only [nx1, o_bind, at_rows 2 2 rfl (by decide), decide_true, Bool.not_true, Bool.false_eq_true, if_false, rip, take_range _ (show k + 2 ≤ 42 by omega), back]
    -- again
    obtain ⟨per1, per2⟩ := period ha hb h2 h6
    obtain ⟨q, q1, q2, q3, q4⟩ := first_of (p := fun j => decide (rw' a b j = b ∧ rw' a b (j + 1) = a)) (T := 2 * n + 2) (by omega) (by simp [per1, per2])
    have q3 : rw' a b q = b ∧ rw' a b (q + 1) = a := of_decide_eq_true q3
    have q4 : ∀ j, 1 ≤ j → j < q → ¬ (rw' a b j = b ∧ rw' a b (j + 1) = a) := fun j h1 h2 => of_decide_eq_false (q4 j h1 h2)
    obtain ⟨rest, hrest⟩ := filter_first (p := fun j => decide (rw' a b j = b ∧ rw' a b (j + 1) = a)) q1 q2 (decide_eq_true q3) fun j h1 h2 => decide_eq_false (q4 j h1 h2)
    refine Good.go (a := (q : Int) :: rest) ?_ ?_
    · rw [mul_small (by decide) (by omega), o_bind, range_some (by omega), o_bind]
      refine (comp_some (p := fun x => decide (rw' a b x.toNat = b ∧ rw' a b (x.toNat + 1) = a)) (q := id) (fun x hx => ?_) fun x _ _ => rfl).trans ?_
      · rw [mem_rangeL] at hx
        rw [at_rows x x.toNat (by omega) (by omega), o_bind, at_rows (x + 1) (x.toNat + 1) (by omega) (by omega), o_bind]
        by_cases z : rw' a b x.toNat = b <;> simp [z]
      · rw [List.map_id, show (2 * (n : Int) + 3 - 1).toNat = 2 * n + 2 by omega, hrest]
    refine Good.no ?_ ?_
    · rw [decide_eq_false (by simp), if_neg Bool.false_ne_true, round_eq hab (by omega) q1 q3 q4, o_bind, at_head, o_bind]
      simp
    -- energy
    have sm : ∀ k, k ≤ 41 → ∀ j, ((rw' a b k).getD j 0).natAbs < 1267650600228229401496703205376 := fun k hk j => rw_small sa sb hk j
    have en1 : m_energy a b = some (en n a b) := energy_eq ha hb (by omega) (by omega) (sm 1 (by decide)) (sm 0 (by decide))
    refine Good.go en1 ?_
    refine Good.go (a := (List.range n).map fun k => (edge b).getD k 0 + (edge b).getD (k + 2) 0) ?_ ?_
    · rw [hr, o_bind]
      refine comp_range fun k hk => ?_
      have f1 : (if decide ((0 : Int) < (k : Int)) = true then L2.atI b ((k : Int) - 1) else some 0) = some ((edge b).getD k 0) := by
        cases k with
        | zero => rw [if_neg (by simp), edge_0]
        | succ k => rw [if_pos (by simp <;> omega), at_of k (by omega) (List.getElem?_eq_getElem (by omega)), edge_at]; simp [List.getD, show k < b.length by omega]
      have f2 : (if decide ((k : Int) + 1 < (n : Int)) = true then L2.atI b ((k : Int) + 1) else some 0) = some ((edge b).getD (k + 2) 0) := by
        rw [edge_at b (k + 1)]
        by_cases z : k + 1 < n
        · rw [if_pos (by simp; omega), at_of (k + 1) (by omega) (List.getElem?_eq_getElem (by omega))]; simp [List.getD, show k + 1 < b.length by omega]
        · rw [if_neg (by simp; omega), getD_out (by omega)]
      rw [f1, o_bind, f2, o_bind]
    have sq : ∀ c : List Int, Bd 3 c → compL (fun _ => some true) (fun x => mulG x x) c = some (c.map fun x => x * x) := fun c sc => comp_some (p := fun _ => true) (q := fun x => x * x) (fun _ _ => rfl) (fun x hx _ => by
      obtain ⟨i, hi, rfl⟩ := List.getElem_of_mem hx
      have := sc i
      rw [show c.getD i 0 = c[i] by simp [List.getD, hi]] at this
      rw [mul_small (by omega) (by omega)]) |>.trans (by rw [filter_yes])
    refine Good.go (a := du n a b) ?_ ?_
    · rw [sq a sa, o_bind, sq b sb, o_bind, hr, o_bind, o_go (comp_rangeS (q := fun k => a.getD k 0 * ((edge b).getD k 0 + (edge b).getD (k + 2) 0)) fun k hk => ?_)]
      · rw [sum_getD, sum_getD, ha, hb]; rfl
      · have := sa k
        have := edge_bd sb k
        have := edge_bd sb (k + 2)
        simp only []
        rw [at_getD (by omega), o_bind, at_of k rfl (by rw [List.getElem?_map, List.getElem?_range hk]; rfl), o_bind]
        simp only []
        rw [mul_small (by omega) (by omega)]
    refine Good.no ?_ ?_
    · rw [en_du hb h2 h6, decide_eq_true rfl, Bool.not_true, if_neg Bool.false_ne_true, range_some (by decide), o_bind]
      rw [o_go (comp_some (p := fun _ => false) (q := id) (fun x hx => ?_) fun x _ z => by cases z)]
      · rw [show (rangeL 1 (30 - 1 : Int).toNat).filter (fun _ => false) = [] from List.filter_eq_nil_iff.mpr (by simp)]
        rfl
      · rw [mem_rangeL] at hx
        have en2 : m_energy (rw' a b (x.toNat + 1)) (rw' a b x.toNat) = some (en n a b) := by
          rw [energy_eq (hl _) (hl _) (by omega) (by omega) (sm _ (by omega)) (sm _ (by omega)), en_all ha hb h2 h6]
        rw [at_rows (x + 1) (x.toNat + 1) (by omega) (by omega), o_bind, at_rows x x.toNat (by omega) (by omega), o_bind, en2, o_bind, en_du hb h2 h6]
        simp
    -- place, goal
    refine Good.bind (P := fun p : Int × Int => ∃ u v : Nat, p = ((u : Int), (v : Int)) ∧ u < n ∧ v < n) (Good.bind (Good.nextM (by omega)) fun v hv => Good.bind (Good.nextM (by omega)) fun u hu => Good.fromO rfl ⟨v.toNat, u.toNat, by rw [show ((v.toNat : Nat) : Int) = v by omega, show ((u.toNat : Nat) : Int) = u by omega], by omega, by omega⟩) fun p ⟨u, v, e, hu, hv⟩ => ?_
    subst e
    refine Good.no ?_ ?_
    · rw [seen_eq hab (by omega) (by omega) (by omega), o_bind, take_range _ (show k + 2 ≤ 42 by omega)]
      rw [o_go (comp_some (p := fun _ => true) (q := fun r => List.getD r u 0) (fun _ _ => rfl) fun r hr _ => ?_)]
      · rw [filter_yes, List.map_map]
        simp [Function.comp_def]
      · obtain ⟨j, _, rfl⟩ := List.mem_map.mp hr
        rw [at_getD (by rw [hl]; exact hu)]
    -- other rows
    refine Good.bind (P := fun p : List Int × List Int => p.1.length = n ∧ p.2.length = n) (Good.go hr (Good.bind (draw 5 2 (by decide)) fun a ha => Good.go hr (Good.bind (draw 5 2 (by decide)) fun b hb => Good.fromO rfl ⟨ha.1, hb.1⟩))) fun p hp => ?_
    obtain ⟨c, d⟩ := p
    obtain ⟨hc, hd⟩ := hp
    simp only at hc hd
    refine Good.fromO (a := .nx ()) ?_ ⟨(), rfl, trivial⟩
    simp only []
    rw [added_eq (ha.trans hc.symm), o_bind, hr, o_bind]
    rw [o_no ?x1]
    case x1 =>
      rw [o_go (comp_rangeS (q := fun k => a.getD k 0 + c.getD k 0) fun k hk => by rw [at_getD (by omega), o_bind, at_getD (by omega), o_bind])]
      simp [ad, ha]
    rw [o_no ?x2]
    case x2 =>
      rw [added_eq (hb.trans hd.symm), o_bind, next_row_eq (by rw [ad_len, ad_len, hab]) (by rw [ad_len]; omega), o_bind, nx1, o_bind, next_row_eq (hc.trans hd.symm) (by omega), o_bind, added_eq (by rw [hl, nx_len, hc]), o_bind]
      rw [nx_ad (ha.trans hc.symm) hab (ha.trans hd.symm)]
      simp [rw']
    rw [o_go (show (some (rangeL 0 n) >>= _) = some (drp n u) from (o_bind _ _).trans (comp_rangeS fun k hk => ?x3))]
    case x3 =>
      by_cases z : k = u
      · simp [z]
      · simp [z]; omega
    have hrep := rep_zero (n := n) h2 (by omega)
    rw [o_no ?x4]
    case x4 =>
      rw [dropped_eq h2 (by omega), o_bind, hrep, o_bind]
      simp
    have ld : (drp n u).length = (List.replicate n (0 : Int)).length := by simp [drp]
    have ld2 : (drp n u).length = n := by simp [drp]
    rw [o_go (show _ = some ((List.range (4 * n + 1)).map fun j => rw' (drp n u) (List.replicate n 0) (j + 1)) from ?x5)]
    case x5 =>
      rw [hrep, o_bind, mul_small (by decide) (by omega), o_bind, show (4 : Int) * (n : Int) = ((4 * n : Nat) : Int) by omega, rows_eq ld (by omega) (by omega), o_bind, show (1 : Int) = ((1 : Nat) : Int) from rfl, cut_from]
      congr 1
      apply List.ext_getElem?
      intro i
      rw [List.getElem?_drop, List.getElem?_map, List.getElem?_map]
      rcases Nat.lt_or_ge i (4 * n + 1) with z | z
      · rw [List.getElem?_range (by omega), List.getElem?_range z, Option.map_some, Option.map_some, Nat.add_comm 1 i]
      · rw [List.getElem?_eq_none (by simp; omega), List.getElem?_eq_none (by simp; omega)]
        rfl
    rw [List.length_map, List.length_range, range_nat (by omega), o_bind]
    rw [o_go (comp_rangeF (p := fun j => !decide ((rw' (drp n u) (List.replicate n 0) (j + 1)).getD v 0 = 0)) (q := fun j => (j : Int)) (fun j hj => by
      rw [at_of j rfl (by rw [List.getElem?_map, List.getElem?_range hj]; rfl), o_bind, at_getD (by rw [rw_len ld]; omega), o_bind]) fun j hj _ => rfl)]
    have trn : ∀ c : List Int, m_turned_row c = some c.reverse := fun c => rfl
    rw [o_no ?x6]
    case x6 =>
      rw [first_eq h2 h6 hv, o_bind]
      generalize (List.range (4 * n + 1)).filter _ = w
      cases w with
      | nil => simp [trn]
      | cons x w =>
        have z : L2.atI ((x : Int) :: w.map fun (k : Nat) => (k : Int)) 0 = some (x : Int) := at_of 0 rfl rfl
        simp [trn, z]
    rw [o_no ?x7]
    case x7 =>
      rw [trn, o_bind, trn, o_bind, next_row_eq (by rw [List.length_reverse, List.length_reverse, hab]) (by rw [List.length_reverse]; omega), o_bind, at_rows 2 2 rfl (by decide), o_bind, nx_rev hab]
      simp [rw']
  · subst e
    exact Good.fromO rfl rfl
end K31

/-! ### what the top has written; the law's own head -/
namespace K31
open PySem PySem.Spec PyProof.Rows L2 TT
open TT.PyM (fromO)
theorem all_mk {l : PySem.W.OpenLaw} {w : World} {K : PySem.W.Frag} {h : Heap} {mg : Str → Option Value} {fa : Addr} (X : K.In h) (G : h.Ns mainGlobals mg) (hfa : mg "law" = some (.ref fa))
    {x0 : Addr} {od0 an0 : Option Addr} {sl0 : Array (Option Value)} {oc0 kV0 dc0 pm0 cd0 ct0 : Value}
    (a0 : PySem.W.nsIn K mainGlobals "next_row" = some (some (.ref x0))) (l0 : K.lookup x0 = some ⟨oc0, od0, .func (PySem.W.fnOf "next_row" "next_row" (defArgs (topS 1)) (defBody (topS 1)) (defScope (topS 1)) .none kV0 dc0 pm0 an0 cd0 ct0), sl0⟩) (c0 : PySem.W.codeIn K cd0 "next_row" = true) (k0 : PySem.W.keepIn K (.ref x0) = true)
    {x1 : Addr} {od1 an1 : Option Addr} {sl1 : Array (Option Value)} {oc1 kV1 dc1 pm1 cd1 ct1 : Value}
    (a1 : PySem.W.nsIn K mainGlobals "added_rows" = some (some (.ref x1))) (l1 : K.lookup x1 = some ⟨oc1, od1, .func (PySem.W.fnOf "added_rows" "added_rows" (defArgs (topS 5)) (defBody (topS 5)) (defScope (topS 5)) .none kV1 dc1 pm1 an1 cd1 ct1), sl1⟩) (c1 : PySem.W.codeIn K cd1 "added_rows" = true) (k1 : PySem.W.keepIn K (.ref x1) = true)
    {x2 : Addr} {od2 an2 : Option Addr} {sl2 : Array (Option Value)} {oc2 kV2 dc2 pm2 cd2 ct2 : Value}
    (a2 : PySem.W.nsIn K mainGlobals "energy" = some (some (.ref x2))) (l2 : K.lookup x2 = some ⟨oc2, od2, .func (PySem.W.fnOf "energy" "energy" (defArgs (topS 6)) (defBody (topS 6)) (defScope (topS 6)) .none kV2 dc2 pm2 an2 cd2 ct2), sl2⟩) (c2 : PySem.W.codeIn K cd2 "energy" = true) (k2 : PySem.W.keepIn K (.ref x2) = true)
    {x3 : Addr} {od3 an3 : Option Addr} {sl3 : Array (Option Value)} {oc3 kV3 dc3 pm3 cd3 ct3 : Value}
    (a3 : PySem.W.nsIn K mainGlobals "dropped_in" = some (some (.ref x3))) (l3 : K.lookup x3 = some ⟨oc3, od3, .func (PySem.W.fnOf "dropped_in" "dropped_in" (defArgs (topS 7)) (defBody (topS 7)) (defScope (topS 7)) .none kV3 dc3 pm3 an3 cd3 ct3), sl3⟩) (c3 : PySem.W.codeIn K cd3 "dropped_in" = true) (k3 : PySem.W.keepIn K (.ref x3) = true)
    {x4 : Addr} {od4 an4 : Option Addr} {sl4 : Array (Option Value)} {oc4 kV4 dc4 pm4 cd4 ct4 : Value}
    (a4 : PySem.W.nsIn K mainGlobals "turned_row" = some (some (.ref x4))) (l4 : K.lookup x4 = some ⟨oc4, od4, .func (PySem.W.fnOf "turned_row" "turned_row" (defArgs (topS 10)) (defBody (topS 10)) (defScope (topS 10)) .none kV4 dc4 pm4 an4 cd4 ct4), sl4⟩) (c4 : PySem.W.codeIn K cd4 "turned_row" = true) (k4 : PySem.W.keepIn K (.ref x4) = true)
    {x5 : Addr} {od5 an5 : Option Addr} {sl5 : Array (Option Value)} {oc5 kV5 dc5 pm5 cd5 ct5 : Value}
    (a5 : PySem.W.nsIn K mainGlobals "_law_draws" = some (some (.ref x5))) (l5 : K.lookup x5 = some ⟨oc5, od5, .func (PySem.W.fnOf "_law_draws" "_law_draws" (defArgs (topS 12)) (defBody (topS 12)) (defScope (topS 12)) .none kV5 dc5 pm5 an5 cd5 ct5), sl5⟩) (c5 : PySem.W.codeIn K cd5 "_law_draws" = true) (k5 : PySem.W.keepIn K (.ref x5) = true)
    {x6 : Addr} {od6 an6 : Option Addr} {sl6 : Array (Option Value)} {oc6 kV6 dc6 pm6 cd6 ct6 : Value}
    (a6 : PySem.W.nsIn K mainGlobals "_law_next" = some (some (.ref x6))) (l6 : K.lookup x6 = some ⟨oc6, od6, .func (PySem.W.fnOf "_law_next" "_law_next" (defArgs (topS 13)) (defBody (topS 13)) (defScope (topS 13)) .none kV6 dc6 pm6 an6 cd6 ct6), sl6⟩) (c6 : PySem.W.codeIn K cd6 "_law_next" = true) (k6 : PySem.W.keepIn K (.ref x6) = true)
    {x7 : Addr} {od7 an7 : Option Addr} {sl7 : Array (Option Value)} {oc7 kV7 dc7 pm7 cd7 ct7 : Value}
    (a7 : PySem.W.nsIn K mainGlobals "_law_next_row" = some (some (.ref x7))) (l7 : K.lookup x7 = some ⟨oc7, od7, .func (PySem.W.fnOf "_law_next_row" "_law_next_row" (defArgs (topS 14)) (defBody (topS 14)) (defScope (topS 14)) .none kV7 dc7 pm7 an7 cd7 ct7), sl7⟩) (c7 : PySem.W.codeIn K cd7 "_law_next_row" = true) (k7 : PySem.W.keepIn K (.ref x7) = true)
    {x8 : Addr} {od8 an8 : Option Addr} {sl8 : Array (Option Value)} {oc8 kV8 dc8 pm8 cd8 ct8 : Value}
    (a8 : PySem.W.nsIn K mainGlobals "gone_back" = some (some (.ref x8))) (l8 : K.lookup x8 = some ⟨oc8, od8, .func (PySem.W.fnOf "gone_back" "gone_back" (defArgs (topS 2)) (defBody (topS 2)) (defScope (topS 2)) .none kV8 dc8 pm8 an8 cd8 ct8), sl8⟩) (c8 : PySem.W.codeIn K cd8 "gone_back" = true) (k8 : PySem.W.keepIn K (.ref x8) = true)
    {x9 : Addr} {od9 an9 : Option Addr} {sl9 : Array (Option Value)} {oc9 kV9 dc9 pm9 cd9 ct9 : Value}
    (a9 : PySem.W.nsIn K mainGlobals "rippled" = some (some (.ref x9))) (l9 : K.lookup x9 = some ⟨oc9, od9, .func (PySem.W.fnOf "rippled" "rippled" (defArgs (topS 3)) (defBody (topS 3)) (defScope (topS 3)) .none kV9 dc9 pm9 an9 cd9 ct9), sl9⟩) (c9 : PySem.W.codeIn K cd9 "rippled" = true) (k9 : PySem.W.keepIn K (.ref x9) = true)
    {x10 : Addr} {od10 an10 : Option Addr} {sl10 : Array (Option Value)} {oc10 kV10 dc10 pm10 cd10 ct10 : Value}
    (a10 : PySem.W.nsIn K mainGlobals "round_hours" = some (some (.ref x10))) (l10 : K.lookup x10 = some ⟨oc10, od10, .func (PySem.W.fnOf "round_hours" "round_hours" (defArgs (topS 4)) (defBody (topS 4)) (defScope (topS 4)) .none kV10 dc10 pm10 an10 cd10 ct10), sl10⟩) (c10 : PySem.W.codeIn K cd10 "round_hours" = true) (k10 : PySem.W.keepIn K (.ref x10) = true)
    {x11 : Addr} {od11 an11 : Option Addr} {sl11 : Array (Option Value)} {oc11 kV11 dc11 pm11 cd11 ct11 : Value}
    (a11 : PySem.W.nsIn K mainGlobals "_law_rows" = some (some (.ref x11))) (l11 : K.lookup x11 = some ⟨oc11, od11, .func (PySem.W.fnOf "_law_rows" "_law_rows" (defArgs (topS 15)) (defBody (topS 15)) (defScope (topS 15)) .none kV11 dc11 pm11 an11 cd11 ct11), sl11⟩) (c11 : PySem.W.codeIn K cd11 "_law_rows" = true) (k11 : PySem.W.keepIn K (.ref x11) = true)
    {x12 : Addr} {od12 an12 : Option Addr} {sl12 : Array (Option Value)} {oc12 kV12 dc12 pm12 cd12 ct12 : Value}
    (a12 : PySem.W.nsIn K mainGlobals "seen_at" = some (some (.ref x12))) (l12 : K.lookup x12 = some ⟨oc12, od12, .func (PySem.W.fnOf "seen_at" "seen_at" (defArgs (topS 8)) (defBody (topS 8)) (defScope (topS 8)) .none kV12 dc12 pm12 an12 cd12 ct12), sl12⟩) (c12 : PySem.W.codeIn K cd12 "seen_at" = true) (k12 : PySem.W.keepIn K (.ref x12) = true)
    {x13 : Addr} {od13 an13 : Option Addr} {sl13 : Array (Option Value)} {oc13 kV13 dc13 pm13 cd13 ct13 : Value}
    (a13 : PySem.W.nsIn K mainGlobals "first_wet" = some (some (.ref x13))) (l13 : K.lookup x13 = some ⟨oc13, od13, .func (PySem.W.fnOf "first_wet" "first_wet" (defArgs (topS 9)) (defBody (topS 9)) (defScope (topS 9)) .none kV13 dc13 pm13 an13 cd13 ct13), sl13⟩) (c13 : PySem.W.codeIn K cd13 "first_wet" = true) (k13 : PySem.W.keepIn K (.ref x13) = true)
    {x14 : Addr} {od14 an14 : Option Addr} {sl14 : Array (Option Value)} {oc14 kV14 dc14 pm14 cd14 ct14 : Value}
    (a14 : PySem.W.nsIn K mainGlobals "law" = some (some (.ref x14))) (l14 : K.lookup x14 = some ⟨oc14, od14, .func (PySem.W.fnOf "law" "law" (defArgs (topS 16)) (defBody (topS 16)) (defScope (topS 16)) .none kV14 dc14 pm14 an14 cd14 ct14), sl14⟩) (c14 : PySem.W.codeIn K cd14 "law" = true) (k14 : PySem.W.keepIn K (.ref x14) = true)
    (z_abs : PySem.W.nsIn K mainGlobals "abs" = some none)
    (z_int : PySem.W.nsIn K mainGlobals "int" = some none)
    (z_len : PySem.W.nsIn K mainGlobals "len" = some none)
    (z_range : PySem.W.nsIn K mainGlobals "range" = some none)
    (z_sum : PySem.W.nsIn K mainGlobals "sum" = some none)
    (z_tuple : PySem.W.nsIn K mainGlobals "tuple" = some none)
    (z_zip : PySem.W.nsIn K mainGlobals "zip" = some none)
    : ∃ fd : FuncData, (∀ (s : Shared) (v : Value), BindsTo s fd ⟨[v], []⟩ [("script", v)]) ∧ ∀ base : Heap, K.In base → base.Ns mainGlobals mg → FnOk l.prog w K mg base CX0 5 fa fd p14 (spLaw K w m_law) := by
  have e := hfa.symm.trans (PySem.W.mg_of X G a14)
  cases e
  have F0 := fun_mk (st := topS 1) l0 c0 k0
  have b0 := F0.binds (ps := p0) fun _ _ _ _ _ _ us hl => match us, hl with | [_, _], _ => rfl
  have F1 := fun_mk (st := topS 5) l1 c1 k1
  have b1 := F1.binds (ps := p1) fun _ _ _ _ _ _ us hl => match us, hl with | [_, _], _ => rfl
  have F2 := fun_mk (st := topS 6) l2 c2 k2
  have b2 := F2.binds (ps := p2) fun _ _ _ _ _ _ us hl => match us, hl with | [_, _], _ => rfl
  have F3 := fun_mk (st := topS 7) l3 c3 k3
  have b3 := F3.binds (ps := p3) fun _ _ _ _ _ _ us hl => match us, hl with | [_, _], _ => rfl
  have F4 := fun_mk (st := topS 10) l4 c4 k4
  have b4 := F4.binds (ps := p4) fun _ _ _ _ _ _ us hl => match us, hl with | [_], _ => rfl
  have F5 := fun_mk (st := topS 12) l5 c5 k5
  have b5 := F5.binds (ps := p5) fun _ _ _ _ _ _ us hl => match us, hl with | [_, _], _ => rfl
  have F6 := fun_mk (st := topS 13) l6 c6 k6
  have b6 := F6.binds (ps := p6) fun _ _ _ _ _ _ us hl => match us, hl with | [_, _], _ => rfl
  have F7 := fun_mk (st := topS 14) l7 c7 k7
  have b7 := F7.binds (ps := p7) fun _ _ _ _ _ _ us hl => match us, hl with | [_, _], _ => rfl
  have F8 := fun_mk (st := topS 2) l8 c8 k8
  have b8 := F8.binds (ps := p8) fun _ _ _ _ _ _ us hl => match us, hl with | [_, _], _ => rfl
  have F9 := fun_mk (st := topS 3) l9 c9 k9
  have b9 := F9.binds (ps := p9) fun _ _ _ _ _ _ us hl => match us, hl with | [_, _, _], _ => rfl
  have F10 := fun_mk (st := topS 4) l10 c10 k10
  have b10 := F10.binds (ps := p10) fun _ _ _ _ _ _ us hl => match us, hl with | [_, _], _ => rfl
  have F11 := fun_mk (st := topS 15) l11 c11 k11
  have b11 := F11.binds (ps := p11) fun _ _ _ _ _ _ us hl => match us, hl with | [_, _, _], _ => rfl
  have F12 := fun_mk (st := topS 8) l12 c12 k12
  have b12 := F12.binds (ps := p12) fun _ _ _ _ _ _ us hl => match us, hl with | [_, _, _, _], _ => rfl
  have F13 := fun_mk (st := topS 9) l13 c13 k13
  have b13 := F13.binds (ps := p13) fun _ _ _ _ _ _ us hl => match us, hl with | [_, _, _], _ => rfl
  have F14 := fun_mk (st := topS 16) l14 c14 k14
  have b14 := F14.binds (ps := p14) fun _ _ _ _ _ _ us hl => match us, hl with | [_], _ => rfl
  exact ⟨PySem.W.fnOf "law" "law" (defArgs (topS 16)) (defBody (topS 16)) (defScope (topS 16)) .none kV14 dc14 pm14 an14 cd14 ct14, fun s v => .of_eq rfl, fun base _ _ => ok_law ⟨x0, _, F0, (PySem.W.mg_of X G a0), b0, x1, _, F1, (PySem.W.mg_of X G a1), b1, x2, _, F2, (PySem.W.mg_of X G a2), b2, x3, _, F3, (PySem.W.mg_of X G a3), b3, x4, _, F4, (PySem.W.mg_of X G a4), b4, x5, _, F5, (PySem.W.mg_of X G a5), b5, x6, _, F6, (PySem.W.mg_of X G a6), b6, x7, _, F7, (PySem.W.mg_of X G a7), b7, x8, _, F8, (PySem.W.mg_of X G a8), b8, x9, _, F9, (PySem.W.mg_of X G a9), b9, x10, _, F10, (PySem.W.mg_of X G a10), b10, x11, _, F11, (PySem.W.mg_of X G a11), b11, x12, _, F12, (PySem.W.mg_of X G a12), b12, x13, _, F13, (PySem.W.mg_of X G a13), b13, fa, _, F14, (PySem.W.mg_of X G a14), b14, (PySem.W.mg_none_of X G z_abs), (PySem.W.mg_none_of X G z_int), (PySem.W.mg_none_of X G z_len), (PySem.W.mg_none_of X G z_range), (PySem.W.mg_none_of X G z_sum), (PySem.W.mg_none_of X G z_tuple), (PySem.W.mg_none_of X G z_zip)⟩⟩
end K31
open PySem PySem.W PyProof.Rows
set_option maxHeartbeats 0 in
theorem PySem.Challenge.cw_tidestold_k31_whole_ripples_holds : PySem.Challenge.rw_tidestold_k31_whole_ripples.Holds := by
  w_on; o_law; k_head; (case hw => w_witness2)
  k_fill
  refine L2.walk_of (l := PySem.Challenge.rw_tidestold_k31_whole_ripples) (n := 63) (k := 5) (x := "script") (CX := fun _ => L2.CX0) (sp := fun w => TT.spLaw _ w K31.m_law) rfl (by decide) rfl ⟨rfl, by decide, by decide⟩ (fun w h Y => PySem.W.kIn_of Y) ?F (fun _ _ a ns hl o hS => TT.spLaw_true o hS (K31.law_true ns hl)) (fun _ _ _ _ _ h => h)
  case F =>
    intro w mg fa h KX G hmg
    refine' K31.all_mk KX G hmg ?a0 ?l0 ?c0 ?k0 ?a1 ?l1 ?c1 ?k1 ?a2 ?l2 ?c2 ?k2 ?a3 ?l3 ?c3 ?k3 ?a4 ?l4 ?c4 ?k4 ?a5 ?l5 ?c5 ?k5 ?a6 ?l6 ?c6 ?k6 ?a7 ?l7 ?c7 ?k7 ?a8 ?l8 ?c8 ?k8 ?a9 ?l9 ?c9 ?k9 ?a10 ?l10 ?c10 ?k10 ?a11 ?l11 ?c11 ?k11 ?a12 ?l12 ?c12 ?k12 ?a13 ?l13 ?c13 ?k13 ?a14 ?l14 ?c14 ?k14 ?z_abs ?z_int ?z_len ?z_range ?z_sum ?z_tuple ?z_zip
    (case a0 => k_is)
    (case l0 => k_is)
    (case c0 => k_is)
    (case k0 => k_is)
    (case a1 => k_is)
    (case l1 => k_is)
    (case c1 => k_is)
    (case k1 => k_is)
    (case a2 => k_is)
    (case l2 => k_is)
    (case c2 => k_is)
    (case k2 => k_is)
    (case a3 => k_is)
    (case l3 => k_is)
    (case c3 => k_is)
    (case k3 => k_is)
    (case a4 => k_is)
    (case l4 => k_is)
    (case c4 => k_is)
    (case k4 => k_is)
    (case a5 => k_is)
    (case l5 => k_is)
    (case c5 => k_is)
    (case k5 => k_is)
    (case a6 => k_is)
    (case l6 => k_is)
    (case c6 => k_is)
    (case k6 => k_is)
    (case a7 => k_is)
    (case l7 => k_is)
    (case c7 => k_is)
    (case k7 => k_is)
    (case a8 => k_is)
    (case l8 => k_is)
    (case c8 => k_is)
    (case k8 => k_is)
    (case a9 => k_is)
    (case l9 => k_is)
    (case c9 => k_is)
    (case k9 => k_is)
    (case a10 => k_is)
    (case l10 => k_is)
    (case c10 => k_is)
    (case k10 => k_is)
    (case a11 => k_is)
    (case l11 => k_is)
    (case c11 => k_is)
    (case k11 => k_is)
    (case a12 => k_is)
    (case l12 => k_is)
    (case c12 => k_is)
    (case k12 => k_is)
    (case a13 => k_is)
    (case l13 => k_is)
    (case c13 => k_is)
    (case k13 => k_is)
    (case a14 => k_is)
    (case l14 => k_is)
    (case c14 => k_is)
    (case k14 => k_is)
    (case z_abs => k_is)
    (case z_int => k_is)
    (case z_len => k_is)
    (case z_range => k_is)
    (case z_sum => k_is)
    (case z_tuple => k_is)
    (case z_zip => k_is)

