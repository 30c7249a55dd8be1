import PyProof.Rows.All
import Wide.All
import OpenK.AllK
import Wide.FinOn
import HandS.ForMost
import HandS.HeadHook1
import HandS.Exc
import HandS.ExcOwn
import HandS.WordsExc
import HandS.CallSlots
import HandS.IsInst
import HandS.Walk
import HandS.TupAny
import HandS.Deep
import HandS.Style
import HandS.Defaults
import HandS.HeadEnd
import KE.GoesEnum
import HandS.ListEq
import HandS.DictEq
import HandS.DictComp
import HandS.Conv
import HandS.SortInts
import HandS.Strs
import HandS.More
import HandS.SortKw
import HandS.Iter
import HandS.OwnEq
import HandS.HeadHook2
import HandS.RaiseMore
import HandS.Zip
import PyProof.ReprRoads
import HandS.Set
import HandS.SetFor
import PySem.Challenge.RW_levelkin_k19_whole_free_names_and_depths
import HandS.Base
import HandS.Head0
import HandS.Head1
import HandS.Head2
import KE.KStateDown
import Lean
set_option Elab.async false
set_option linter.all false
set_option maxRecDepth 100000
set_option autoImplicit false
/-! The data layer: immutable things are plain data D, what changes stands in a store; a def is a function of data. -/
namespace L3
open PySem PySem.Spec L2
open PyProof.Rows hiding St

inductive D where
  | non | bl (b : Bool) | int (i : Int) | str (x : Str)
  | tup (xs : List D) | lst (xs : List D)
  /-- a list that is only read: the script, a list of the module -/
  | ro (xs : List D)
  /-- a dict with keys that are ints or texts -/
  | dk (kvs : List (Key × D))
  /-- a dict with keys that are tuples of such -/
  | dkt (kvs : List (List Key × D))
  | ins (C : Str) (fs : List (Str × D))
  | loc (n : Nat)
  | ref (a : Addr)
  | ty (n : String)

/-- a thing that changes -/
inductive MO where
  | lst (xs : List D)
  | dk (kvs : List (Key × D))
  /-- a dict with keys that are tuples of such -/
  | dkt (kvs : List (List Key × D))
  | ins (C : Str) (fs : List (Str × D))
abbrev Store := List (Option MO)
structure Exn where
  cls : D
  fs : List (Str × D)
inductive Out (α : Type) where
  | ok (a : α) (M : Store)
  | exc (e : Exn) (M : Store)
  | bad
def Py (α : Type) := Store → Out α
namespace Py
variable {α β : Type}
def ret (a : α) : Py α := fun M => .ok a M
def bnd (m : Py α) (k : α → Py β) : Py β := fun M => match m M with
  | .ok a M' => k a M'
  | .exc e M' => .exc e M'
  | .bad => .bad
def bad : Py α := fun _ => .bad
def raise (e : Exn) : Py α := fun M => .exc e M
/-- a guard -/
@[irreducible] def chk (p : Prop) [Decidable p] (k : Py α) : Py α := fun M => if p then k M else .bad
end Py
def Post {α : Type} (o : Out α) (Q : α → Store → Prop) (E : Exn → Store → Prop) : Prop := match o with
  | .ok a M => Q a M
  | .exc e M => E e M
  | .bad => False
section
variable {α β : Type} {Q : α → Store → Prop} {R : β → Store → Prop} {E : Exn → Store → Prop} {M : Store}
theorem post_ret {a : α} : Post (Py.ret a M) Q E ↔ Q a M := Iff.rfl
theorem post_bnd {m : Py α} {k : α → Py β} : Post (Py.bnd m k M) R E ↔ Post (m M) (fun a M' => Post (k a M') R E) E := by
  unfold Py.bnd
  cases m M <;> exact Iff.rfl
theorem post_bad : Post (Py.bad M : Out α) Q E ↔ False := Iff.rfl
theorem post_raise {e : Exn} : Post (Py.raise e M : Out α) Q E ↔ E e M := Iff.rfl
theorem post_chk {p : Prop} [Decidable p] {k : Py α} : Post (Py.chk p k M) Q E ↔ p ∧ Post (k M) Q E := by
  unfold Py.chk
  by_cases h : p
  · rw [if_pos h]; exact ⟨fun q => ⟨h, q⟩, fun q => q.2⟩
  · rw [if_neg h]; exact ⟨fun q => q.elim, fun q => absurd q.1 h⟩
theorem Post.mono {o : Out α} {Q' : α → Store → Prop} {E' : Exn → Store → Prop} (h : Post o Q E) (hq : ∀ a M, Q a M → Q' a M) (he : ∀ e M, E e M → E' e M) : Post o Q' E' := by
  cases o with
  | ok a M => exact hq _ _ h
  | exc e M => exact he _ _ h
  | bad => exact h
theorem Post.imp {o : Out α} {Q' : α → Store → Prop} (h : Post o Q E) (hq : ∀ a M, Q a M → Q' a M) : Post o Q' E := h.mono hq fun _ _ z => z
end

/-! ### what stands for what -/
/-- the ground: where the locations lie; what is never changed any more -/
structure G where
  io : List Addr
  F : Hp
  /-- what a rule builds meanwhile -/
  P : Hp
structure G.le (g g' : G) : Prop where
  io : ∃ r, g'.io = g.io ++ r
  F : ∀ a o, g.F a = some o → g'.F a = some o
  P : g'.P = g.P
theorem G.le.refl (g : G) : g.le g := ⟨⟨[], by simp⟩, fun _ _ h => h, rfl⟩
theorem G.le.trans {a b c : G} (h : a.le b) (k : b.le c) : a.le c := by
  obtain ⟨⟨r, e⟩, f, p⟩ := h
  obtain ⟨⟨r', e'⟩, f', p'⟩ := k
  exact ⟨⟨r ++ r', by rw [e', e, List.append_assoc]⟩, fun a o q => f' _ _ (f _ _ q), p'.trans p⟩
/-- what Rep leans on -/
structure G.sub (g g' : G) : Prop where
  io : ∃ r, g'.io = g.io ++ r
  F : ∀ a o, g.F a = some o → g'.F a = some o
theorem G.le.sub {g g' : G} (h : g.le g') : g.sub g' := ⟨h.io, h.F⟩
theorem G.sub.refl (g : G) : g.sub g := ⟨⟨[], by simp⟩, fun _ _ h => h⟩
theorem G.sub.trans {a b c : G} (h : a.sub b) (k : b.sub c) : a.sub c := by
  obtain ⟨⟨r, e⟩, f⟩ := h
  obtain ⟨⟨r', e'⟩, f'⟩ := k
  exact ⟨⟨r ++ r', by rw [e', e, List.append_assoc]⟩, fun a o q => f' _ _ (f _ _ q)⟩

mutual
inductive Rep (K : PySem.W.Frag) (g : G) : V → D → Prop
  | non : Rep K g .non .non
  | bl (b : Bool) : Rep K g (.bl b) (.bl b)
  | int (i : Int) : Rep K g (.int i) (.int i)
  | str (x : Str) : Rep K g (.str x) (.str x)
  | tup {a : Addr} {vs : List V} {ds : List D} : g.F a = some (.tup vs) → Reps K g vs ds → Rep K g (.ref a) (.tup ds)
  | lst {a : Addr} {vs : List V} {ds : List D} : g.F a = some (.lst vs) → Reps K g vs ds → Rep K g (.ref a) (.lst ds)
  | ro {a : Addr} {vs : List V} {ds : List D} : SqL K g.F a vs → Reps K g vs ds → Rep K g (.ref a) (.ro ds)
  | dk {a : Addr} {vs : List (Key × V)} {fs : List (Key × D)} : g.F a = some (.dK vs) → Reps K g (vs.map (·.2)) (fs.map (·.2)) → vs.map (·.1) = fs.map (·.1) → Rep K g (.ref a) (.dk fs)
  | dkt {a : Addr} {vs : List (List Key × V)} {fs : List (List Key × D)} : g.F a = some (.dT vs) → Reps K g (vs.map (·.2)) (fs.map (·.2)) → vs.map (·.1) = fs.map (·.1) → Rep K g (.ref a) (.dkt fs)
  | ins {a dx : Addr} {C : Str} {vs : List (Str × V)} {fs : List (Str × D)} : g.F a = some (.ins (He.ga K C) dx vs) → Reps K g (vs.map (·.2)) (fs.map (·.2)) → vs.map (·.1) = fs.map (·.1) → Rep K g (.ref a) (.ins C fs)
  | loc {n : Nat} {a : Addr} : g.io[n]? = some a → Rep K g (.ref a) (.loc n)
  | ref (a : Addr) : Rep K g (.ref a) (.ref a)
  | ty (n : String) : Rep K g (.ty n) (.ty n)
inductive Reps (K : PySem.W.Frag) (g : G) : List V → List D → Prop
  | nil : Reps K g [] []
  | cons {v : V} {vs : List V} {d : D} {ds : List D} : Rep K g v d → Reps K g vs ds → Reps K g (v :: vs) (d :: ds)
end
section
variable {K : PySem.W.Frag} {g g' : G}
theorem Rd.mono {F F' : Hp} {a : Addr} {u : HO} (h : ∀ a o, F a = some o → F' a = some o) (r : Rd F a u) : Rd F' a u := by
  rcases r with r | ⟨o, r⟩
  · exact .inl (h _ _ r)
  · exact .inr ⟨o, h _ _ r⟩
theorem sqT_mono {F F' : Hp} {a : Addr} {xs : List V} (h : ∀ a o, F a = some o → F' a = some o) (r : SqT K F a xs) : SqT K F' a xs := by
  rcases r with r | r
  · exact .inl (Rd.mono h r)
  · exact .inr r
theorem sqL_mono {F F' : Hp} {a : Addr} {xs : List V} (h : ∀ a o, F a = some o → F' a = some o) (r : SqL K F a xs) : SqL K F' a xs := by
  rcases r with r | r
  · exact .inl (Rd.mono h r)
  · exact .inr r
mutual
theorem Rep.gro (h : g.sub g') : ∀ {v : V} {d : D}, Rep K g v d → Rep K g' v d
  | _, _, .non => .non
  | _, _, .bl b => .bl b
  | _, _, .int i => .int i
  | _, _, .str x => .str x
  | _, _, .tup s r => .tup (h.F _ _ s) (Reps.gro h r)
  | _, _, .lst s r => .lst (h.F _ _ s) (Reps.gro h r)
  | _, _, .ro s r => .ro (sqL_mono h.F s) (Reps.gro h r)
  | _, _, .dk s r e => .dk (h.F _ _ s) (Reps.gro h r) e
  | _, _, .dkt s r e => .dkt (h.F _ _ s) (Reps.gro h r) e
  | _, _, .ins s r e => .ins (h.F _ _ s) (Reps.gro h r) e
  | _, _, .loc e => .loc (by
      obtain ⟨r, q⟩ := h.io
      rw [q, List.getElem?_append_left (List.getElem?_eq_some_iff.mp e).1]
      exact e)
  | _, _, .ref a => .ref a
  | _, _, .ty n => .ty n
theorem Reps.gro (h : g.sub g') : ∀ {vs : List V} {ds : List D}, Reps K g vs ds → Reps K g' vs ds
  | _, _, .nil => .nil
  | _, _, .cons r t => .cons (Rep.gro h r) (Reps.gro h t)
end
theorem Rep.mono (h : g.le g') {v : V} {d : D} (r : Rep K g v d) : Rep K g' v d := r.gro h.sub
theorem Reps.mono (h : g.le g') {vs : List V} {ds : List D} (r : Reps K g vs ds) : Reps K g' vs ds := r.gro h.sub
theorem Reps.length : ∀ {vs : List V} {ds : List D}, Reps K g vs ds → vs.length = ds.length
  | _, _, .nil => rfl
  | _, _, .cons _ t => congrArg (· + 1) (Reps.length t)
theorem Reps.get : ∀ {vs : List V} {ds : List D} {i : Nat} {d : D}, Reps K g vs ds → ds[i]? = some d → ∃ v, vs[i]? = some v ∧ Rep K g v d
  | _, _, _, _, .nil, e => by simp at e
  | _, _, 0, _, .cons r _, e => by simp at e; subst e; exact ⟨_, rfl, r⟩
  | _, _, i + 1, _, .cons _ t, e => by
    obtain ⟨v, h1, h2⟩ := Reps.get t (by simpa using e)
    exact ⟨v, by simpa using h1, h2⟩
theorem Reps.getV : ∀ {vs : List V} {ds : List D} {i : Nat} {v : V}, Reps K g vs ds → vs[i]? = some v → ∃ d, ds[i]? = some d ∧ Rep K g v d
  | _, _, _, _, .nil, e => by simp at e
  | _, _, 0, _, .cons r _, e => by simp at e; subst e; exact ⟨_, rfl, r⟩
  | _, _, i + 1, _, .cons _ t, e => by
    obtain ⟨v, h1, h2⟩ := Reps.getV t (by simpa using e)
    exact ⟨v, by simpa using h1, h2⟩
theorem Reps.append : ∀ {vs ws : List V} {ds es : List D}, Reps K g vs ds → Reps K g ws es → Reps K g (vs ++ ws) (ds ++ es)
  | _, _, _, _, .nil, s => s
  | _, _, _, _, .cons r t, s => .cons r (Reps.append t s)
theorem Reps.set {v : V} {d : D} (r : Rep K g v d) : ∀ {vs : List V} {ds : List D} (i : Nat), Reps K g vs ds → Reps K g (vs.set i v) (ds.set i d)
  | _, _, _, .nil => .nil
  | _, _, 0, .cons _ t => .cons r t
  | _, _, i + 1, .cons q t => .cons q (Reps.set r i t)
theorem Reps.take : ∀ {vs : List V} {ds : List D} (n : Nat), Reps K g vs ds → Reps K g (vs.take n) (ds.take n)
  | _, _, 0, _ => .nil
  | _, _, _ + 1, .nil => .nil
  | _, _, n + 1, .cons r t => .cons r (Reps.take n t)
theorem Reps.drop : ∀ {vs : List V} {ds : List D} (n : Nat), Reps K g vs ds → Reps K g (vs.drop n) (ds.drop n)
  | _, _, 0, r => r
  | _, _, _ + 1, .nil => .nil
  | _, _, n + 1, .cons _ t => Reps.drop n t
theorem Reps.dropLast : ∀ {vs : List V} {ds : List D}, Reps K g vs ds → Reps K g vs.dropLast ds.dropLast
  | _, _, .nil => .nil
  | _, _, .cons _ .nil => .nil
  | _, _, .cons r (.cons q t) => .cons r (Reps.dropLast (.cons q t))
theorem Reps.reverse {vs : List V} {ds : List D} (h : Reps K g vs ds) : Reps K g vs.reverse ds.reverse := by
  induction vs generalizing ds with
  | nil => cases h; exact .nil
  | cons v vs ih =>
    cases h with
    | cons r t =>
      rw [List.reverse_cons, List.reverse_cons]
      exact Reps.append (ih t) (.cons r .nil)
theorem Reps.one {vs : List V} {d : D} (h : Reps K g vs [d]) : ∃ v, vs = [v] ∧ Rep K g v d := by
  cases h with
  | cons r t => cases t; exact ⟨_, rfl, r⟩
theorem Reps.two {vs : List V} {d e : D} (h : Reps K g vs [d, e]) : ∃ v w, vs = [v, w] ∧ Rep K g v d ∧ Rep K g w e := by
  cases h with
  | cons r t =>
    obtain ⟨w, rfl, q⟩ := Reps.one t
    exact ⟨_, w, rfl, r, q⟩
end

def ObjRep (K : PySem.W.Frag) (g : G) (H : Hp) (a : Addr) : MO → Prop
  | .lst ds => ∃ vs, H a = some (.lst vs) ∧ Reps K g vs ds
  | .dk fs => ∃ vs, H a = some (.dK vs) ∧ Reps K g (vs.map (·.2)) (fs.map (·.2)) ∧ vs.map (·.1) = fs.map (·.1)
  | .dkt fs => ∃ vs, H a = some (.dT vs) ∧ Reps K g (vs.map (·.2)) (fs.map (·.2)) ∧ vs.map (·.1) = fs.map (·.1)
  | .ins C fs => ∃ dx vs, H a = some (.ins (He.ga K C) dx vs) ∧ Reps K g (vs.map (·.2)) (fs.map (·.2)) ∧ vs.map (·.1) = fs.map (·.1)
/-- the heap bears the store -/
structure RelH (K : PySem.W.Frag) (g : G) (M : Store) (H : Hp) : Prop where
  frz : ∀ a o, g.F a = some o → H a = some o
  prt : ∀ a o, g.P a = some o → H a = some o ∧ g.F a = none
  len : g.io.length = M.length
  liv : ∀ (n : Nat) (o : MO), M[n]? = some (some o) → ∃ a, g.io[n]? = some a ∧ (g.F a = none ∧ g.P a = none) ∧ ObjRep K g H a o
  inj : ∀ (n m : Nat) (a : Addr) (o o' : MO), M[n]? = some (some o) → M[m]? = some (some o') → g.io[n]? = some a → g.io[m]? = some a → n = m
theorem ObjRep.mono {K : PySem.W.Frag} {g g' : G} {H H' : Hp} {a : Addr} {o : MO} (x : ObjRep K g H a o) (h : g.sub g') (e : H' a = H a) : ObjRep K g' H' a o := by
  cases o with
  | lst ds => obtain ⟨vs, q, r⟩ := x; exact ⟨vs, by rw [e]; exact q, r.gro h⟩
  | dk fs => obtain ⟨vs, q, r, z⟩ := x; exact ⟨vs, by rw [e]; exact q, r.gro h, z⟩
  | dkt fs => obtain ⟨vs, q, r, z⟩ := x; exact ⟨vs, by rw [e]; exact q, r.gro h, z⟩
  | ins C fs => obtain ⟨dx, vs, q, r, z⟩ := x; exact ⟨dx, vs, by rw [e]; exact q, r.gro h, z⟩
theorem ObjRep.there {K : PySem.W.Frag} {g : G} {H : Hp} {a : Addr} {o : MO} (x : ObjRep K g H a o) : ∃ u, H a = some u := by
  cases o with
  | lst ds => obtain ⟨vs, q, _⟩ := x; exact ⟨_, q⟩
  | dk fs => obtain ⟨vs, q, _⟩ := x; exact ⟨_, q⟩
  | dkt fs => obtain ⟨vs, q, _⟩ := x; exact ⟨_, q⟩
  | ins C fs => obtain ⟨dx, vs, q, _⟩ := x; exact ⟨_, q⟩
section
variable {K : PySem.W.Frag} {g : G} {M : Store} {H : Hp}
theorem RelH.fnone (R : RelH K g M H) {p : Addr} (h : H p = none) : g.F p = none := by
  cases q : g.F p with
  | none => rfl
  | some o => rw [R.frz _ _ q] at h; cases h
theorem RelH.pnone (R : RelH K g M H) {p : Addr} (h : H p = none) : g.P p = none := by
  cases q : g.P p with
  | none => rfl
  | some o => rw [(R.prt _ _ q).1] at h; cases h
/-- the new ground: one more thing that never changes -/
def G.add (g : G) (p : Addr) (o : HO) : G := { g with F := upd g.F p o }
theorem G.le_add {p : Addr} {o : HO} (h : g.F p = none) : g.le (g.add p o) := ⟨⟨[], by simp [G.add]⟩, fun a u q => by
  show upd g.F p o a = some u
  rw [upd_ne (ne_of_none q h)]
  exact q, rfl⟩
/-- a new object is laid that never changes -/
theorem RelH.laid (R : RelH K g M H) {p : Addr} {o : HO} (h : H p = none) : RelH K (g.add p o) M (upd H p o) := by
  have L : g.le (g.add p o) := G.le_add (R.fnone h)
  refine ⟨fun a u q => ?_, fun a u q => ?_, R.len, fun n x e => ?_, R.inj⟩
  · have q' : upd g.F p o a = some u := q
    by_cases e : a = p
    · subst e
      rw [upd_same] at q' ⊢
      exact q'
    · rw [upd_ne e] at q' ⊢
      exact R.frz _ _ q'
  · obtain ⟨q1, q2⟩ := R.prt a u q
    have ne : a ≠ p := ne_of_none q1 h
    refine ⟨by rw [upd_ne ne]; exact q1, ?_⟩
    show upd g.F p o a = none
    rw [upd_ne ne]
    exact q2
  · obtain ⟨a, e1, ⟨e2, e4⟩, e3⟩ := R.liv n x e
    obtain ⟨u, eu⟩ := e3.there
    have ne : a ≠ p := ne_of_none eu h
    refine ⟨a, e1, ⟨?_, e4⟩, e3.mono L.sub (upd_ne ne)⟩
    show upd g.F p o a = none
    rw [upd_ne ne]
    exact e2
/-- a new object that changes -/
def G.more (g : G) (p : Addr) : G := { g with io := g.io ++ [p] }
theorem G.le_more {p : Addr} : g.le (g.more p) := ⟨⟨[p], rfl⟩, fun _ _ q => q, rfl⟩
theorem getElem?_snoc {α : Type} (l : List α) (a : α) (n : Nat) (b : α) (h : (l ++ [a])[n]? = some b) : (l[n]? = some b) ∨ (n = l.length ∧ b = a) := by
  by_cases e : n < l.length
  · rw [List.getElem?_append_left e] at h
    exact .inl h
  · have e2 : n = l.length := by
      have h2 := (List.getElem?_eq_some_iff.mp h).1
      rw [List.length_append, List.length_singleton] at h2
      omega
    subst e2
    rw [List.getElem?_concat_length] at h
    exact .inr ⟨rfl, (Option.some.inj h).symm⟩
theorem RelH.made (R : RelH K g M H) {p : Addr} {u : HO} {o : MO} (h : H p = none) (x : ObjRep K (g.more p) (upd H p u) p o) : RelH K (g.more p) (M ++ [some o]) (upd H p u) := by
  have L : g.le (g.more p) := G.le_more
  refine ⟨fun a u q => ?_, fun a u q => ?_, ?_, fun n y e => ?_, fun n m a y y' e e' i i' => ?_⟩
  · rw [upd_ne (ne_of_none (R.frz _ _ q) h)]
    exact R.frz _ _ q
  · obtain ⟨q1, q2⟩ := R.prt a u q
    exact ⟨by rw [upd_ne (ne_of_none q1 h)]; exact q1, q2⟩
  · show (g.io ++ [p]).length = _
    rw [List.length_append, List.length_append, R.len]
    rfl
  · rcases getElem?_snoc _ _ _ _ e with e | ⟨rfl, e8⟩
    · obtain ⟨a, e1, e2, e3⟩ := R.liv n y e
      obtain ⟨z, ez⟩ := e3.there
      refine ⟨a, ?_, e2, e3.mono L.sub (upd_ne (ne_of_none ez h))⟩
      show (g.io ++ [p])[n]? = some a
      rw [List.getElem?_append_left (List.getElem?_eq_some_iff.mp e1).1]
      exact e1
    · have e9 : y = o := Option.some.inj e8
      subst e9
      refine ⟨p, ?_, ⟨R.fnone h, R.pnone h⟩, x⟩
      show (g.io ++ [p])[M.length]? = some p
      rw [← R.len, List.getElem?_concat_length]
  · have key : ∀ (n : Nat) (y : MO), (M ++ [some o])[n]? = some (some y) → (g.io ++ [p])[n]? = some a → (M[n]? = some (some y) ∧ g.io[n]? = some a ∧ a ≠ p) ∨ (n = M.length ∧ a = p) := by
      intro n y e i
      rcases getElem?_snoc _ _ _ _ e with e | ⟨rfl, e⟩
      · have hn : n < g.io.length := by rw [R.len]; exact (List.getElem?_eq_some_iff.mp e).1
        rw [List.getElem?_append_left hn] at i
        obtain ⟨b, e1, e2, e3⟩ := R.liv n y e
        rw [i] at e1
        cases e1
        obtain ⟨z, ez⟩ := e3.there
        exact .inl ⟨e, i, ne_of_none ez h⟩
      · rw [← R.len, List.getElem?_concat_length] at i
        exact .inr ⟨rfl, (Option.some.inj i).symm⟩
    rcases key n y e i with ⟨a1, a2, a3⟩ | ⟨a1, a2⟩
    · rcases key m y' e' i' with ⟨b1, b2, b3⟩ | ⟨b1, b2⟩
      · exact R.inj n m a y y' a1 b1 a2 b2
      · exact absurd b2 a3
    · rcases key m y' e' i' with ⟨b1, b2, b3⟩ | ⟨b1, b2⟩
      · exact absurd a2 b3
      · rw [a1, b1]
/-- what changes is changed -/
theorem RelH.put (R : RelH K g M H) {n : Nat} {p : Addr} {o o' : MO} {u : HO} (e : M[n]? = some (some o)) (ep : g.io[n]? = some p) (x : ObjRep K g (upd H p u) p o') : RelH K g (M.set n (some o')) (upd H p u) := by
  obtain ⟨p', ep', ⟨fp, pp⟩, x0⟩ := R.liv n o e
  rw [ep] at ep'
  cases ep'
  have hn : n < M.length := (List.getElem?_eq_some_iff.mp e).1
  refine ⟨fun a v q => ?_, fun a v q => ?_, by rw [List.length_set]; exact R.len, fun m y q => ?_, fun m k a y y' q q' i i' => ?_⟩
  · rw [upd_ne (ne_of_none q fp)]
    exact R.frz _ _ q
  · obtain ⟨q1, q2⟩ := R.prt a v q
    exact ⟨by rw [upd_ne (ne_of_none q pp)]; exact q1, q2⟩
  · by_cases hm : m = n
    · subst hm
      rw [List.getElem?_set_self hn] at q
      cases q
      exact ⟨p, ep, ⟨fp, pp⟩, x⟩
    · rw [List.getElem?_set_ne (Ne.symm hm)] at q
      obtain ⟨a, e1, e2, e3⟩ := R.liv m y q
      refine ⟨a, e1, e2, e3.mono (G.sub.refl g) (upd_ne fun z => ?_)⟩
      subst z
      exact hm (R.inj m n a y o q e e1 ep)
  · have key : ∀ (m : Nat) (y : MO), (M.set n (some o'))[m]? = some (some y) → ∃ z, M[m]? = some (some z) := by
      intro m y q
      by_cases hm : m = n
      · subst hm; exact ⟨o, e⟩
      · rw [List.getElem?_set_ne (Ne.symm hm)] at q
        exact ⟨y, q⟩
    obtain ⟨z, hz⟩ := key m y q
    obtain ⟨z', hz'⟩ := key k y' q'
    exact R.inj m k a z z' hz hz' i i'
/-- what changed is changed no more -/
theorem RelH.freeze (R : RelH K g M H) {n : Nat} {p : Addr} {o : MO} {u : HO} (e : M[n]? = some (some o)) (ep : g.io[n]? = some p) (hu : H p = some u) :
    g.le (g.add p u) ∧ RelH K (g.add p u) (M.set n none) H := by
  obtain ⟨p', ep', ⟨fp, pp⟩, x0⟩ := R.liv n o e
  rw [ep] at ep'
  cases ep'
  have L : g.le (g.add p u) := G.le_add fp
  have key : ∀ (m : Nat) (y : MO), (M.set n none)[m]? = some (some y) → m ≠ n ∧ M[m]? = some (some y) := by
    intro m y q
    by_cases hm : m = n
    · subst hm
      rw [List.getElem?_set_self (List.getElem?_eq_some_iff.mp e).1] at q
      cases q
    · rw [List.getElem?_set_ne (Ne.symm hm)] at q
      exact ⟨hm, q⟩
  refine ⟨L, fun a v q => ?_, fun a v q => ?_, by rw [List.length_set]; exact R.len, fun m y q => ?_, fun m k a y y' q q' i i' => R.inj m k a y y' (key m y q).2 (key k y' q').2 i i'⟩
  · have q' : upd g.F p u a = some v := q
    by_cases z : a = p
    · subst z
      rw [upd_same] at q'
      cases q'
      exact hu
    · rw [upd_ne z] at q'
      exact R.frz _ _ q'
  · obtain ⟨q1, q2⟩ := R.prt a v q
    refine ⟨q1, ?_⟩
    show upd g.F p u a = none
    rw [upd_ne (ne_of_none q pp)]
    exact q2
  · obtain ⟨hm, q⟩ := key m y q
    obtain ⟨a, e1, ⟨e2, e4⟩, e3⟩ := R.liv m y q
    refine ⟨a, e1, ⟨?_, e4⟩, e3.mono L.sub rfl⟩
    show upd g.F p u a = none
    rw [upd_ne fun z => ?_]
    · exact e2
    · subst z
      exact hm (R.inj m n a y o q e e1 ep)
/-- something is built at p -/
def G.bld (g : G) (p : Addr) (o : HO) : G := { g with P := upd g.P p o }
/-- .. is built no more -/
def G.unb (g : G) (P0 : Hp) (p : Addr) (o : HO) : G := { io := g.io, F := upd g.F p o, P := P0 }
theorem RelH.build (R : RelH K g M H) {p : Addr} {o : HO} (h : H p = none) : RelH K (g.bld p o) M (upd H p o) := by
  refine ⟨fun a u q => ?_, fun a u q => ?_, R.len, fun n x e => ?_, R.inj⟩
  · rw [upd_ne (ne_of_none (R.frz _ _ q) h)]
    exact R.frz _ _ q
  · have q' : upd g.P p o a = some u := q
    by_cases e : a = p
    · subst e
      rw [upd_same] at q' ⊢
      exact ⟨q', R.fnone h⟩
    · rw [upd_ne e] at q' ⊢
      exact R.prt _ _ q'
  · obtain ⟨a, e1, ⟨e2, e4⟩, e3⟩ := R.liv n x e
    obtain ⟨u, eu⟩ := e3.there
    have ne : a ≠ p := ne_of_none eu h
    refine ⟨a, e1, ⟨e2, ?_⟩, e3.mono ⟨⟨[], by simp [G.bld]⟩, fun _ _ q => q⟩ (upd_ne ne)⟩
    show upd g.P p o a = none
    rw [upd_ne ne]
    exact e4
/-- one step more is built -/
theorem RelH.rebuild (R : RelH K g M H) {p : Addr} {o u : HO} (hp : g.P p = some u) : RelH K (g.bld p o) M (upd H p o) := by
  have fp := (R.prt _ _ hp).2
  refine ⟨fun a u q => ?_, fun a u q => ?_, R.len, fun n x e => ?_, R.inj⟩
  · rw [upd_ne (ne_of_none q fp)]
    exact R.frz _ _ q
  · have q' : upd g.P p o a = some u := q
    by_cases e : a = p
    · subst e
      rw [upd_same] at q' ⊢
      exact ⟨q', fp⟩
    · rw [upd_ne e] at q' ⊢
      exact R.prt _ _ q'
  · obtain ⟨a, e1, ⟨e2, e4⟩, e3⟩ := R.liv n x e
    have ne : a ≠ p := (ne_of_none hp e4).symm
    refine ⟨a, e1, ⟨e2, ?_⟩, e3.mono ⟨⟨[], by simp [G.bld]⟩, fun _ _ q => q⟩ (upd_ne ne)⟩
    show upd g.P p o a = none
    rw [upd_ne ne]
    exact e4
/-- it is whole: it never changes any more -/
theorem RelH.built (R : RelH K g M H) {p : Addr} {o : HO} {P0 : Hp} (hp : g.P p = some o) (h0 : P0 p = none) (he : ∀ a, a ≠ p → P0 a = g.P a) : RelH K (g.unb P0 p o) M H := by
  obtain ⟨hH, fp⟩ := R.prt _ _ hp
  refine ⟨fun a u q => ?_, fun a u q => ?_, R.len, fun n x e => ?_, R.inj⟩
  · have q' : upd g.F p o a = some u := q
    by_cases e : a = p
    · subst e
      rw [upd_same] at q'
      cases q'
      exact hH
    · rw [upd_ne e] at q'
      exact R.frz _ _ q'
  · have q' : P0 a = some u := q
    have ne : a ≠ p := ne_of_none q' h0
    rw [he a ne] at q'
    obtain ⟨q1, q2⟩ := R.prt a u q'
    refine ⟨q1, ?_⟩
    show upd g.F p o a = none
    rw [upd_ne ne]
    exact q2
  · obtain ⟨a, e1, ⟨e2, e4⟩, e3⟩ := R.liv n x e
    have ne : a ≠ p := (ne_of_none hp e4).symm
    refine ⟨a, e1, ⟨?_, ?_⟩, e3.mono ⟨⟨[], by simp [G.unb]⟩, fun b v q => ?_⟩ rfl⟩
    · show upd g.F p o a = none
      rw [upd_ne ne]
      exact e2
    · show P0 a = none
      rw [he a ne]
      exact e4
    · show upd g.F p o b = some v
      rw [upd_ne (ne_of_none q fp)]
      exact q
/-- it is whole: it changes from now on by its location -/
def G.unbL (g : G) (P0 : Hp) (p : Addr) : G := { io := g.io ++ [p], F := g.F, P := P0 }
theorem RelH.builtL (R : RelH K g M H) {p : Addr} {u : HO} {o : MO} {P0 : Hp} (hp : g.P p = some u) (h0 : P0 p = none) (he : ∀ a, a ≠ p → P0 a = g.P a) (x : ObjRep K g H p o) : RelH K (g.unbL P0 p) (M ++ [some o]) H := by
  obtain ⟨hH, fp⟩ := R.prt _ _ hp
  have S : g.sub (g.unbL P0 p) := ⟨⟨[p], rfl⟩, fun _ _ q => q⟩
  refine ⟨R.frz, fun a u q => ?_, ?_, fun n y e => ?_, fun n m a y y' e e' i i' => ?_⟩
  · have q' : P0 a = some u := q
    have ne : a ≠ p := ne_of_none q' h0
    rw [he a ne] at q'
    exact R.prt a u q'
  · show (g.io ++ [p]).length = _
    rw [List.length_append, List.length_append, R.len]
    rfl
  · rcases getElem?_snoc _ _ _ _ e with e | ⟨rfl, e8⟩
    · obtain ⟨a, e1, ⟨e2, e4⟩, e3⟩ := R.liv n y e
      have ne : a ≠ p := (ne_of_none hp e4).symm
      refine ⟨a, ?_, ⟨e2, ?_⟩, e3.mono S rfl⟩
      · show (g.io ++ [p])[n]? = some a
        rw [List.getElem?_append_left (List.getElem?_eq_some_iff.mp e1).1]
        exact e1
      · show P0 a = none
        rw [he a ne]
        exact e4
    · have e9 : y = o := Option.some.inj e8
      subst e9
      refine ⟨p, ?_, ⟨fp, h0⟩, x.mono S rfl⟩
      show (g.io ++ [p])[M.length]? = some p
      rw [← R.len, List.getElem?_concat_length]
  · have key : ∀ (n : Nat) (y : MO), (M ++ [some o])[n]? = some (some y) → (g.io ++ [p])[n]? = some a → (M[n]? = some (some y) ∧ g.io[n]? = some a ∧ a ≠ p) ∨ (n = M.length ∧ a = p) := by
      intro n y e i
      rcases getElem?_snoc _ _ _ _ e with e | ⟨rfl, e⟩
      · have hn : n < g.io.length := by rw [R.len]; exact (List.getElem?_eq_some_iff.mp e).1
        rw [List.getElem?_append_left hn] at i
        obtain ⟨b, e1, ⟨e2, e4⟩, e3⟩ := R.liv n y e
        rw [i] at e1
        cases e1
        exact .inl ⟨e, i, (ne_of_none hp e4).symm⟩
      · rw [← R.len, List.getElem?_concat_length] at i
        exact .inr ⟨rfl, (Option.some.inj i).symm⟩
    rcases key n y e i with ⟨a1, a2, a3⟩ | ⟨a1, a2⟩
    · rcases key m y' e' i' with ⟨b1, b2, b3⟩ | ⟨b1, b2⟩
      · exact R.inj n m a y y' a1 b1 a2 b2
      · exact absurd b2 a3
    · rcases key m y' e' i' with ⟨b1, b2, b3⟩ | ⟨b1, b2⟩
      · exact absurd a2 b3
      · rw [a1, b1]
end

/-! ### names -/
abbrev DEnv := List (Option D)
structure RelE (K : PySem.W.Frag) (g : G) (σ : St) (ρ : DEnv) : Prop where
  len : σ.length = ρ.length
  at_ : ∀ (i : Nat) (d : D), ρ[i]? = some (some d) → ∃ v, σ[i]? = some (some v) ∧ Rep K g v d
theorem RelE.gro {K : PySem.W.Frag} {g g' : G} {σ : St} {ρ : DEnv} (x : RelE K g σ ρ) (h : g.sub g') : RelE K g' σ ρ :=
  ⟨x.len, fun i d e => let ⟨v, q, r⟩ := x.at_ i d e; ⟨v, q, r.gro h⟩⟩
theorem RelE.mono {K : PySem.W.Frag} {g g' : G} {σ : St} {ρ : DEnv} (x : RelE K g σ ρ) (h : g.le g') : RelE K g' σ ρ := x.gro h.sub
theorem RelE.set {K : PySem.W.Frag} {g : G} {σ : St} {ρ : DEnv} (x : RelE K g σ ρ) (i : Nat) {v : V} {d : D} (r : Rep K g v d) : RelE K g (σ.set i (some v)) (ρ.set i (some d)) := by
  refine ⟨by rw [List.length_set, List.length_set]; exact x.len, fun j e q => ?_⟩
  by_cases h : j = i
  · subst h
    have hl : j < ρ.length := by
      have := (List.getElem?_eq_some_iff.mp q).1
      rwa [List.length_set] at this
    rw [List.getElem?_set_self hl] at q
    cases q
    exact ⟨v, List.getElem?_set_self (by rw [x.len]; exact hl), r⟩
  · rw [List.getElem?_set_ne (Ne.symm h)] at q ⊢
    exact x.at_ j e q
def wipeD (ρ : DEnv) : List Nat → DEnv
  | [] => ρ
  | i :: r => (wipeD ρ r).set i none
theorem RelE.wipe {K : PySem.W.Frag} {g : G} {σ : St} {ρ : DEnv} (x : RelE K g σ ρ) : ∀ l : List Nat, RelE K g (L2.wipe σ l) (wipeD ρ l)
  | [] => x
  | n :: l => by
    have y := RelE.wipe x l
    show RelE K g ((L2.wipe σ l).set n none) ((wipeD ρ l).set n none)
    refine ⟨by rw [List.length_set, List.length_set]; exact y.len, fun j e q => ?_⟩
    by_cases h : j = n
    · subst h
      have hl : j < (wipeD ρ l).length := by
        have := (List.getElem?_eq_some_iff.mp q).1
        rwa [List.length_set] at this
      rw [List.getElem?_set_self hl] at q
      cases q
    · rw [List.getElem?_set_ne (Ne.symm h)] at q ⊢
      exact y.at_ j e q
theorem wipe_getD (ρ : DEnv) : ∀ l : List Nat, (wipeD ρ l).length = ρ.length
  | [] => rfl
  | n :: l => by
    show ((wipeD ρ l).set n none).length = _
    rw [List.length_set]
    exact wipe_getD ρ l
theorem wipe_at (σ : St) (j : Nat) : ∀ l : List Nat, (L2.wipe σ l)[j]? = if j ∈ l then (σ[j]?).map (fun _ => none) else σ[j]?
  | [] => by simp [L2.wipe]
  | n :: l => by
    have ih := wipe_at σ j l
    show ((L2.wipe σ l).set n none)[j]? = _
    by_cases h : n = j
    · subst h
      rw [if_pos (List.mem_cons_self ..)]
      by_cases hl : n < σ.length
      · rw [List.getElem?_set_self (by rw [wipe_length]; exact hl), List.getElem?_eq_getElem hl]
        rfl
      · rw [List.getElem?_eq_none (by rw [List.length_set, wipe_length]; omega), List.getElem?_eq_none (by omega)]
        rfl
    · rw [List.getElem?_set_ne h, ih]
      by_cases hm : j ∈ l
      · rw [if_pos hm, if_pos (List.mem_cons_of_mem _ hm)]
      · rw [if_neg hm, if_neg (fun z => (List.mem_cons.mp z).elim (fun e => h e.symm) hm)]
theorem wipe_set {σ : St} {i : Nat} {x : Option V} {l : List Nat} (h : i ∈ l) : L2.wipe (σ.set i x) l = L2.wipe σ l := by
  refine List.ext_getElem? fun j => ?_
  rw [wipe_at, wipe_at]
  by_cases hj : j ∈ l
  · rw [if_pos hj, if_pos hj]
    by_cases e : i = j
    · subst e
      by_cases hl : i < σ.length
      · rw [List.getElem?_set_self hl, List.getElem?_eq_getElem hl]; rfl
      · rw [List.getElem?_eq_none (by rw [List.length_set]; omega), List.getElem?_eq_none (by omega)]
    · rw [List.getElem?_set_ne e]
  · rw [if_neg hj, if_neg hj, List.getElem?_set_ne (fun e : i = j => hj (e ▸ h))]
theorem RelE.start {K : PySem.W.Frag} {g : G} {N : List Str} {vs : List V} {ds : List D} (r : Reps K g vs ds) : RelE K g (start N vs) (ds.map some ++ List.replicate (N.length - ds.length) none) := by
  have hl := r.length
  refine ⟨by unfold L2.start; simp [hl], fun i d e => ?_⟩
  have hi : i < ds.length := by
    by_cases hi : i < ds.length
    · exact hi
    · rw [List.getElem?_append_right (by simpa using hi), List.getElem?_replicate] at e
      split at e <;> cases e
  rw [List.getElem?_append_left (by simpa using hi), List.getElem?_map] at e
  cases q : ds[i]? with
  | none => rw [q] at e; cases e
  | some d' =>
    rw [q] at e
    cases e
    obtain ⟨v, h1, h2⟩ := r.get q
    refine ⟨v, ?_, h2⟩
    unfold L2.start
    rw [List.getElem?_append_left (by rw [List.length_map, hl]; exact hi), List.getElem?_map, h1]
    rfl
end L3
set_option Elab.async false
set_option linter.all false
set_option maxRecDepth 100000
set_option autoImplicit false
namespace L3
open PySem PySem.Spec L2
open PyProof.Rows hiding St

/-- where one stands: the context of the layer below, the ground at the entry, what is wanted of an exception -/
structure DX where
  X : Cx
  B : G
  W : Exn → DEnv → Store → Prop
abbrev DX.K (C : DX) : PySem.W.Frag := C.X.K

structure Rl (C : DX) (g : G) (ρ : DEnv) (M : Store) (σ : St) (H : Hp) : Prop where
  b : C.B.le g
  h : RelH C.X.K g M H
  e : RelE C.X.K g σ ρ
theorem Rl.next {C : DX} {g g' : G} {ρ : DEnv} {M M' : Store} {σ : St} {H H' : Hp} (R : Rl C g ρ M σ H) (l : g.le g') (h : RelH C.X.K g' M' H') : Rl C g' ρ M' σ H' := ⟨R.b.trans l, h, R.e.mono l⟩

/-- what is wanted of values -/
def QV (C : DX) (g : G) (ρ : DEnv) (σ : St) (Q : VK) : D → Store → Prop := fun d M' => ∀ v H' g', g.le g' → Rl C g' ρ M' σ H' → Rep C.X.K g' v d → Q v H'
def QT (C : DX) (g : G) (ρ : DEnv) (σ : St) (Q : Bool → Hp → Prop) : Bool → Store → Prop := fun d M' => ∀ H' g', g.le g' → Rl C g' ρ M' σ H' → Q d H'
def QA (C : DX) (g : G) (ρ : DEnv) (σ : St) (Q : List V → Hp → Prop) : List D → Store → Prop := fun ds M' => ∀ vs H' g', g.le g' → Rl C g' ρ M' σ H' → Reps C.X.K g' vs ds → Q vs H'
abbrev DX.We (C : DX) (ρ : DEnv) : Exn → Store → Prop := fun e M => C.W e ρ M

def WPE (X : Cx) (e : Expr) (σ : St) (H : Hp) (Q : VK) : Prop := ∀ (pins : List (Addr × Obj)) (s : Shared), Inv X pins σ H s → wpAny (model X.prog X.w) X.A (eval e X.env) (EP X pins σ Q) X.xe s
def WPT (X : Cx) (e : Expr) (σ : St) (H : Hp) (Q : Bool → Hp → Prop) : Prop := ∀ (pins : List (Addr × Obj)) (s : Shared), Inv X pins σ H s → wpAny (model X.prog X.w) X.A (isTrue e X.env (eval e X.env)) (TP X pins σ Q) X.xe s
def WPW (X : Cx) (e : Expr) (σ : St) (H : Hp) (Q : Bool → Hp → Prop) : Prop := ∀ (whole : Sem Value) (pins : List (Addr × Obj)) (s : Shared), Inv X pins σ H s → wpAny (model X.prog X.w) X.A (isTrue e X.env whole) (TP X pins σ Q) X.xe s
def WPA (X : Cx) (es : List Expr) (σ : St) (H : Hp) (Q : List V → Hp → Prop) : Prop := ∀ (pos : Pos) (pins : List (Addr × Obj)) (s : Shared), Inv X pins σ H s → wpAny (model X.prog X.w) X.A (spliced (backTo pos (starEach es X.env))) (AP X pins σ Q) X.xe s
def WPS (X : Cx) (st : Stmt) (D : Ends) (σ : St) (H : Hp) : Prop := ∀ (pins : List (Addr × Obj)) (s : Shared), Inv X pins σ H s → wpAny (model X.prog X.w) X.A (exec st X.env) (SP X pins D) X.xe s
def WPSs (X : Cx) (st : List Stmt) (D : Ends) (σ : St) (H : Hp) : Prop := ∀ (pins : List (Addr × Obj)) (s : Shared), Inv X pins σ H s → wpAny (model X.prog X.w) X.A (execs st X.env) (SP X pins D) X.xe s
section
variable {X : Cx} {e : Expr} {es : List Expr} {st : Stmt} {sts : List Stmt} {σ : St} {H : Hp}
theorem self_e : PE X e (WPE X e) := ⟨fun pins s _ _ _ I h => h pins s I⟩
theorem self_t : PT X e (WPT X e) := ⟨fun pins s _ _ _ I h => h pins s I⟩
theorem self_w : PW X e (WPW X e) := ⟨fun wh pins s _ _ _ I h => h wh pins s I⟩
theorem self_a : PA X es (WPA X es) := ⟨fun pos pins s _ _ _ I h => h pos pins s I⟩
theorem self_s : PS X st (fun D σ H => WPS X st D σ H) := ⟨fun pins s _ _ _ I h => h pins s I⟩
theorem self_ss : PSs X sts (fun D σ H => WPSs X sts D σ H) := ⟨fun pins s _ _ _ I h => h pins s I⟩
theorem wpe {t : TE} (p : PE X e t) {Q : VK} (h : t σ H Q) : WPE X e σ H Q := fun pins s I => p.run pins s σ H Q I h
theorem wpt {t : TT} (p : PT X e t) {Q : Bool → Hp → Prop} (h : t σ H Q) : WPT X e σ H Q := fun pins s I => p.run pins s σ H Q I h
theorem wpw {t : TT} (p : PW X e t) {Q : Bool → Hp → Prop} (h : t σ H Q) : WPW X e σ H Q := fun wh pins s I => p.run wh pins s σ H Q I h
theorem wpa {t : TA} (p : PA X es t) {Q : List V → Hp → Prop} (h : t σ H Q) : WPA X es σ H Q := fun pos pins s I => p.run pos pins s σ H Q I h
theorem wps {t : TS} (p : PS X st t) {D : Ends} (h : t D σ H) : WPS X st D σ H := fun pins s I => p.run pins s σ H D I h
theorem wpss {t : TS} (p : PSs X sts t) {D : Ends} (h : t D σ H) : WPSs X sts D σ H := fun pins s I => p.run pins s σ H D I h
end

/-- an expression's meaning; a test's; an argument list's -/
structure DE (C : DX) (e : Expr) (f : DEnv → Py D) : Prop where
  run : ∀ {g : G} {ρ : DEnv} {M : Store} {σ : St} {H : Hp} (Q : VK), Rl C g ρ M σ H → Post (f ρ M) (QV C g ρ σ Q) (C.We ρ) → WPE C.X e σ H Q
structure DT (C : DX) (e : Expr) (f : DEnv → Py Bool) : Prop where
  run : ∀ {g : G} {ρ : DEnv} {M : Store} {σ : St} {H : Hp} (Q : Bool → Hp → Prop), Rl C g ρ M σ H → Post (f ρ M) (QT C g ρ σ Q) (C.We ρ) → WPT C.X e σ H Q
structure DW (C : DX) (e : Expr) (f : DEnv → Py Bool) : Prop where
  run : ∀ {g : G} {ρ : DEnv} {M : Store} {σ : St} {H : Hp} (Q : Bool → Hp → Prop), Rl C g ρ M σ H → Post (f ρ M) (QT C g ρ σ Q) (C.We ρ) → WPW C.X e σ H Q
structure DA (C : DX) (es : List Expr) (f : DEnv → Py (List D)) : Prop where
  run : ∀ {g : G} {ρ : DEnv} {M : Store} {σ : St} {H : Hp} (Q : List V → Hp → Prop), Rl C g ρ M σ H → Post (f ρ M) (QA C g ρ σ Q) (C.We ρ) → WPA C.X es σ H Q
/-- how a statement ends -/
inductive Fl where
  | nx (ρ : DEnv) | bk (ρ : DEnv) | ct (ρ : DEnv) | rt (d : D)
def QS (C : DX) (g : G) (E : Ends) : Fl → Store → Prop
  | .nx ρ', M' => ∀ σ' H' g', g.le g' → Rl C g' ρ' M' σ' H' → E.nx σ' H'
  | .bk ρ', M' => ∀ σ' H' g', g.le g' → Rl C g' ρ' M' σ' H' → E.bk σ' H'
  | .ct ρ', M' => ∀ σ' H' g', g.le g' → Rl C g' ρ' M' σ' H' → E.ct σ' H'
  | .rt d, M' => ∀ v H' g', g.le g' → C.B.le g' → RelH C.X.K g' M' H' → Rep C.X.K g' v d → E.rt v H'
/-- a wish about exceptions that does not lean on the names -/
def DX.Even (C : DX) : Prop := ∀ e ρ ρ' M, C.W e ρ M → C.W e ρ' M
structure DS (C : DX) (st : Stmt) (f : DEnv → Py Fl) : Prop where
  run : ∀ {g : G} {ρ : DEnv} {M : Store} {σ : St} {H : Hp} (E : Ends), Rl C g ρ M σ H → Post (f ρ M) (QS C g E) (C.We ρ) → WPS C.X st E σ H
structure DSs (C : DX) (st : List Stmt) (f : DEnv → Py Fl) : Prop where
  run : ∀ {g : G} {ρ : DEnv} {M : Store} {σ : St} {H : Hp} (E : Ends), Rl C g ρ M σ H → Post (f ρ M) (QS C g E) (C.We ρ) → WPSs C.X st E σ H
/-- a binary operation, by values -/
def DOp (C : DX) (f : Value → Value → Sem Value) (op : D → D → Py D) : Prop :=
  ∀ {g : G} {ρ : DEnv} {M : Store} {σ : St} {H : Hp} {x y : V} {dx dy : D} {v u : Value} {pins : List (Addr × Obj)} {s : Shared} (Q : VK), Rl C g ρ M σ H → Inv C.X pins σ H s → RelV x v → RelV y u → Rep C.X.K g x dx → Rep C.X.K g y dy →
    Post (op dx dy M) (QV C g ρ σ Q) (C.We ρ) → wpAny (model C.X.prog C.X.w) C.X.A (f v u) (EP C.X pins σ Q) C.X.xe s
def DUn (C : DX) (f : Value → Sem Value) (op : D → Py D) : Prop :=
  ∀ {g : G} {ρ : DEnv} {M : Store} {σ : St} {H : Hp} {x : V} {dx : D} {v : Value} {pins : List (Addr × Obj)} {s : Shared} (Q : VK), Rl C g ρ M σ H → Inv C.X pins σ H s → RelV x v → Rep C.X.K g x dx →
    Post (op dx M) (QV C g ρ σ Q) (C.We ρ) → wpAny (model C.X.prog C.X.w) C.X.A (f v) (EP C.X pins σ Q) C.X.xe s
/-- a call of the value f, by values -/
def DCall (C : DX) (f : Value) (op : List D → Py D) : Prop :=
  ∀ {g : G} {ρ : DEnv} {M : Store} {σ : St} {H : Hp} {xs : List V} {ds : List D} {us : List Value} {pins : List (Addr × Obj)} {s : Shared} (Q : VK), Rl C g ρ M σ H → Inv C.X pins σ H s → Vals xs us → Reps C.X.K g xs ds →
    Post (op ds M) (QV C g ρ σ Q) (C.We ρ) → wpAny (model C.X.prog C.X.w) C.X.A (call f us) (EP C.X pins σ Q) C.X.xe s
/-- such an operation, by what the layer below asks -/
theorem DOp.of {C : DX} {f : Value → Value → Sem Value} {r : R2} {op : D → D → Py D} (ho : OpR C.X f r)
    (h : ∀ {g : G} {ρ : DEnv} {M : Store} {σ : St} {H : Hp} {x y : V} {dx dy : D} (Q : VK), Rl C g ρ M σ H → Rep C.X.K g x dx → Rep C.X.K g y dy → Post (op dx dy M) (QV C g ρ σ Q) (C.We ρ) → r x y H Q) : DOp C f op := by
  intro g ρ M σ H x y dx dy v u pins s Q R I rx ry dx' dy' p
  exact ho pins s σ H x y v u Q I rx ry (h Q R dx' dy' p)
theorem DUn.of {C : DX} {f : Value → Sem Value} {r : V → Hp → VK → Prop} {op : D → Py D} (ho : UnR C.X f r)
    (h : ∀ {g : G} {ρ : DEnv} {M : Store} {σ : St} {H : Hp} {x : V} {dx : D} (Q : VK), Rl C g ρ M σ H → Rep C.X.K g x dx → Post (op dx M) (QV C g ρ σ Q) (C.We ρ) → r x H Q) : DUn C f op := by
  intro g ρ M σ H x dx v pins s Q R I rx dx' p
  exact ho pins s σ H x v Q I rx (h Q R dx' p)
theorem DCall.of {C : DX} {f : Value} {r : List V → Hp → VK → Prop} {op : List D → Py D} (ho : CallR C.X f r)
    (h : ∀ {g : G} {ρ : DEnv} {M : Store} {σ : St} {H : Hp} {xs : List V} {ds : List D} (Q : VK), Rl C g ρ M σ H → Reps C.X.K g xs ds → Post (op ds M) (QV C g ρ σ Q) (C.We ρ) → r xs H Q) : DCall C f op := by
  intro g ρ M σ H xs ds us pins s Q R I rx dx' p
  exact ho pins s σ H xs us Q I rx (h Q R dx' p)

theorem QV.here {C : DX} {g : G} {ρ : DEnv} {σ : St} {Q : VK} {d : D} {M : Store} {H : Hp} {v : V} (h : QV C g ρ σ Q d M) (R : Rl C g ρ M σ H) (r : Rep C.X.K g v d) : Q v H := h v H g (G.le.refl g) R r
/-- a later ground -/
theorem QV.later {C : DX} {g g' : G} {ρ : DEnv} {σ : St} {Q : VK} {d : D} {M : Store} (h : QV C g ρ σ Q d M) (l : g.le g') : QV C g' ρ σ Q d M := fun v H' g'' l' => h v H' g'' (l.trans l')
theorem QT.later {C : DX} {g g' : G} {ρ : DEnv} {σ : St} {Q : Bool → Hp → Prop} {d : Bool} {M : Store} (h : QT C g ρ σ Q d M) (l : g.le g') : QT C g' ρ σ Q d M := fun H' g'' l' => h H' g'' (l.trans l')
theorem QA.later {C : DX} {g g' : G} {ρ : DEnv} {σ : St} {Q : List V → Hp → Prop} {d : List D} {M : Store} (h : QA C g ρ σ Q d M) (l : g.le g') : QA C g' ρ σ Q d M := fun v H' g'' l' => h v H' g'' (l.trans l')
theorem QS.later {C : DX} {g g' : G} {E : Ends} {d : Fl} {M : Store} (h : QS C g E d M) (l : g.le g') : QS C g' E d M := by
  cases d with
  | nx ρ => exact fun σ' H' g'' l' => h σ' H' g'' (l.trans l')
  | bk ρ => exact fun σ' H' g'' l' => h σ' H' g'' (l.trans l')
  | ct ρ => exact fun σ' H' g'' l' => h σ' H' g'' (l.trans l')
  | rt d => exact fun σ' H' g'' l' => h σ' H' g'' (l.trans l')

section
variable {C : DX} {e a b : Expr} {es rest : List Expr} {f fa fb : DEnv → Py D} {ff : DEnv → Py (List D)} {pos : Pos}
/-- run a part, then go on from what it gives -/
theorem DE.then_ (h : DE C e f) {g : G} {ρ : DEnv} {M : Store} {σ : St} {H : Hp} {α : Type} {k : D → Py α} {q : α → Store → Prop} {Q : VK} (R : Rl C g ρ M σ H) (p : Post (Py.bnd (f ρ) k M) q (C.We ρ))
    (go : ∀ (v : V) (d : D) (M' : Store) (H' : Hp) (g' : G), g.le g' → Rl C g' ρ M' σ H' → Rep C.X.K g' v d → Post (k d M') q (C.We ρ) → Q v H') : WPE C.X e σ H Q :=
  h.run Q R ((post_bnd.mp p).imp fun d M' p' v H' g' l R' r => go v d M' H' g' l R' r p')
theorem DT.then_ {f : DEnv → Py Bool} (h : DT C e f) {g : G} {ρ : DEnv} {M : Store} {σ : St} {H : Hp} {α : Type} {k : Bool → Py α} {q : α → Store → Prop} {Q : Bool → Hp → Prop} (R : Rl C g ρ M σ H) (p : Post (Py.bnd (f ρ) k M) q (C.We ρ))
    (go : ∀ (c : Bool) (M' : Store) (H' : Hp) (g' : G), g.le g' → Rl C g' ρ M' σ H' → Post (k c M') q (C.We ρ) → Q c H') : WPT C.X e σ H Q :=
  h.run Q R ((post_bnd.mp p).imp fun d M' p' H' g' l R' => go d M' H' g' l R' p')
theorem DA.then_ (h : DA C es ff) {g : G} {ρ : DEnv} {M : Store} {σ : St} {H : Hp} {α : Type} {k : List D → Py α} {q : α → Store → Prop} {Q : List V → Hp → Prop} (R : Rl C g ρ M σ H) (p : Post (Py.bnd (ff ρ) k M) q (C.We ρ))
    (go : ∀ (vs : List V) (ds : List D) (M' : Store) (H' : Hp) (g' : G), g.le g' → Rl C g' ρ M' σ H' → Reps C.X.K g' vs ds → Post (k ds M') q (C.We ρ) → Q vs H') : WPA C.X es σ H Q :=
  h.run Q R ((post_bnd.mp p).imp fun d M' p' v H' g' l R' r => go v d M' H' g' l R' r p')

/-! ### names, constants -/
def getV (o : Option (Option D)) : Py D := match o with
  | some (some d) => Py.ret d
  | _ => Py.bad
def eVar (i : Nat) : DEnv → Py D := fun ρ => getV ρ[i]?
def eC (d : D) : DEnv → Py D := fun _ => Py.ret d
theorem de_var {i : Nat} {x : Str} (hN : C.X.N[i]? = some x := by rfl) (hv : Vis C.X.env.scope x := by first | exact Or.inl rfl | exact Or.inr (Or.inl rfl) | exact Or.inr (Or.inr rfl)) (hd : (x == ("__debug__" : Str)) = false := by decide)
    (hcd : (x == ("__classdict__" : Str)) = false := by decide) : DE C (.Name x pos) (eVar i) := ⟨fun {g ρ M σ H} Q R p => by
  refine wpe (pe_var hN hv hd hcd) ?_
  have p' : Post (getV ρ[i]? M) (QV C g ρ σ Q) (C.We ρ) := p
  cases e : ρ[i]? with
  | none => rw [e] at p'; exact p'.elim
  | some o =>
    cases o with
    | none => rw [e] at p'; exact p'.elim
    | some d =>
      rw [e] at p'
      obtain ⟨v, q, r⟩ := R.e.at_ i d e
      exact ⟨v, q, QV.here p' R r⟩⟩
theorem de_pe {d : D} {v : V} (h : PE C.X e (tC v)) (r : ∀ g, Rep C.X.K g v d) : DE C e (eC d) := ⟨fun {g ρ M σ H} Q R p => wpe h (show Q v H from QV.here p R (r g))⟩
theorem de_int {i : Int} {j : Nat} : DE C (.Constant (.int i) j pos) (eC (.int i)) := de_pe pe_int fun _ => .int i
theorem de_bl {i : Bool} {j : Nat} : DE C (.Constant (.bool i) j pos) (eC (.bl i)) := de_pe pe_bl fun _ => .bl i
theorem de_non {j : Nat} : DE C (.Constant .none j pos) (eC .non) := de_pe pe_non fun _ => .non
theorem de_str {i : Str} {j : Nat} : DE C (.Constant (.str i) j pos) (eC (.str i)) := de_pe pe_str fun _ => .str i
/-- a module's constant -/
theorem de_gint {x : Str} {i : Int} {t : Tok} (hm : C.X.mg x = some (.int i t)) (hg : Gl C.X x := by rfl) (hd : (x == ("__debug__" : Str)) = false := by decide) : DE C (.Name x pos) (eC (.int i)) :=
  de_pe (pe_glob hg hm (show RelV (.int i) _ from ⟨t, rfl⟩) hd) fun _ => .int i
theorem de_gstr {x : Str} {i : Str} {t : Tok} (hm : C.X.mg x = some (.str i t)) (hg : Gl C.X x := by rfl) (hd : (x == ("__debug__" : Str)) = false := by decide) : DE C (.Name x pos) (eC (.str i)) :=
  de_pe (pe_glob hg hm (show RelV (.str i) _ from ⟨t, rfl⟩) hd) fun _ => .str i
theorem de_gref {x : Str} {i : Addr} (hm : C.X.mg x = some (.ref i)) (hg : Gl C.X x := by rfl) (hd : (x == ("__debug__" : Str)) = false := by decide) : DE C (.Name x pos) (eC (.ref i)) :=
  de_pe (pe_glob hg hm (show RelV (.ref i) _ from rfl) hd) fun _ => .ref i
/-- a built-in type -/
theorem de_ty {x : Str} {T : String} (hm : C.X.mg x = none) (hv : bootBuiltins x = some (.type T)) (hg : Gl C.X x := by rfl) (hn : x ≠ "__name__" := by decide) (hd : (x == ("__debug__" : Str)) = false := by decide) : DE C (.Name x pos) (eC (.ty T)) :=
  de_pe (pe_bltn hg hm hv (show RelV (.ty T) _ from rfl) hn hd) fun _ => .ty T

/-! ### operators -/
def eOp (op : D → D → Py D) (fa fb : DEnv → Py D) : DEnv → Py D := fun ρ => Py.bnd (fa ρ) fun x => Py.bnd (fb ρ) fun y => op x y
def eUn (op : D → Py D) (fa : DEnv → Py D) : DEnv → Py D := fun ρ => Py.bnd (fa ρ) fun x => op x
/-- two expressions in a row -/
theorem two {op : D → D → Py D} {fv : Value → Value → Sem Value} (ho : DOp C fv op) (ha : DE C a fa) (hb : DE C b fb) {g : G} {ρ : DEnv} {M : Store} {σ : St} {H : Hp} {Q : VK} (R : Rl C g ρ M σ H) (p : Post (eOp op fa fb ρ M) (QV C g ρ σ Q) (C.We ρ))
    {pins : List (Addr × Obj)} {s : Shared} (I : Inv C.X pins σ H s) :
    wpAny (model C.X.prog C.X.w) C.X.A (eval a C.X.env) (fun v s₁ => wpAny (model C.X.prog C.X.w) C.X.A (eval b C.X.env) (fun u s₂ => wpAny (model C.X.prog C.X.w) C.X.A (fv v u) (EP C.X pins σ Q) C.X.xe s₂) C.X.xe s₁) C.X.xe s := by
  refine bin (R := fun x y H2 => ∀ v u pins s, Inv C.X pins σ H2 s → RelV x v → RelV y u → wpAny (model C.X.prog C.X.w) C.X.A (fv v u) (EP C.X pins σ Q) C.X.xe s) self_e self_e I ?_ fun v u s2 x y H2 I2 rx ry h => h v u pins s2 I2 rx ry
  refine ha.then_ R p fun v d M1 H1 g1 l1 R1 r1 p1 => ?_
  refine hb.then_ R1 p1 fun u d2 M2 H2 g2 l2 R2 r2 p2 => ?_
  intro vv uu pins s I2 rx ry
  exact ho Q R2 I2 rx ry (r1.mono l2) r2 (p2.imp fun _ _ z => z.later (l1.trans l2))
theorem de_op {o : Operator} {op : D → D → Py D} (ho : DOp C (binaryOp o) op) (ha : DE C a fa) (hb : DE C b fb) : DE C (.BinOp a o b pos) (eOp op fa fb) :=
  ⟨fun Q R p pins s I => wpAny_BinOp (two ho ha hb R p I)⟩
theorem de_un {o : UnaryOp} {op : D → Py D} (ho : DUn C (unaryOp o) op) (ha : DE C a fa) : DE C (.UnaryOp o a pos) (eUn op fa) := ⟨fun {g ρ M σ H} Q R p pins s I => by
  refine UnaryOp_ (thn ((ha.then_ (Q := fun v H1 => ∃ d M1 g1, g.le g1 ∧ Rl C g1 ρ M1 σ H1 ∧ Rep C.X.K g1 v d ∧ Post (op d M1) (QV C g ρ σ Q) (C.We ρ)) R p fun v d M1 H1 g1 l1 R1 r1 p1 => ⟨d, M1, g1, l1, R1, r1, p1⟩) pins s I) fun v s1 ⟨x, H1, I1, rx, d, M1, g1, l1, R1, r1, p1⟩ => ?_)
  exact ho Q R1 I1 rx r1 (p1.imp fun _ _ z => z.later l1)⟩
theorem de_cmp {o : CmpOp} {op : D → D → Py D} (ho : DOp C (compareOp o) op) (ha : DE C a fa) (hb : DE C b fb) (hm : behindInMarks o b = false := by first | exact nobehind _ (by decide) (by decide) | rfl) : DE C (.Compare a [o] [b] pos) (eOp op fa fb) :=
  ⟨fun Q R p pins s I => wpAny_Compare1 (two ho ha hb R p I) hm⟩
/-- the truth of a bool -/
def truB : D → Py Bool
  | .bl b => Py.ret b
  | _ => Py.bad
def eTest (f : DEnv → Py D) : DEnv → Py Bool := fun ρ => Py.bnd (f ρ) truB
theorem truB_post {C : DX} {d : D} {M : Store} {q : Bool → Store → Prop} {E : Exn → Store → Prop} (h : Post (truB d M) q E) : ∃ b, d = .bl b ∧ q b M := by
  cases d with
  | bl b => exact ⟨b, rfl, h⟩
  | _ => exact h.elim
theorem rep_bl {K : PySem.W.Frag} {g : G} {v : V} {b : Bool} (r : Rep K g v (.bl b)) : v = .bl b := by cases r; rfl
theorem rep_int {K : PySem.W.Frag} {g : G} {v : V} {b : Int} (r : Rep K g v (.int b)) : v = .int b := by cases r; rfl
theorem rep_str {K : PySem.W.Frag} {g : G} {v : V} {b : Str} (r : Rep K g v (.str b)) : v = .str b := by cases r; rfl
theorem rep_non {K : PySem.W.Frag} {g : G} {v : V} (r : Rep K g v .non) : v = .non := by cases r; rfl
theorem post_test {f : DEnv → Py D} {g : G} {ρ : DEnv} {M : Store} {σ : St} {Q : Bool → Hp → Prop} (p : Post (eTest f ρ M) (QT C g ρ σ Q) (C.We ρ)) : Post (f ρ M) (QV C g ρ σ fun x H1 => ∃ c, x = .bl c ∧ Q c H1) (C.We ρ) := by
  refine (post_bnd.mp p).imp fun d M' p' => ?_
  obtain ⟨b, rfl, q⟩ := truB_post (C := C) p'
  intro v H' g' l R' r
  exact ⟨b, rep_bl r, q H' g' l R'⟩
/-- an expression whose value is a bool, as a test -/
theorem dt_val (h : DE C e f) (he : ∀ whole, isTrue e C.X.env whole = (do let v ← whole; standAt e.pos; holding [v] (truthy v)) := by intro _; rfl) : DT C e (eTest f) := ⟨fun {g ρ M σ H} Q R p =>
  wpt (pt_val self_e he) (h.run _ R (post_test p))⟩
theorem dt_cmp {o : CmpOp} {op : D → D → Py D} (ho : DOp C (compareOp o) op) (ha : DE C a fa) (hb : DE C b fb) (hm : behindInMarks o b = false := by first | exact nobehind _ (by decide) (by decide) | rfl) : DT C (.Compare a [o] [b] pos) (eTest (eOp op fa fb)) := ⟨fun {g ρ M σ H} Q R p pins s I => by
  refine wpAny_isTrue_Compare1 (thn (two ho ha hb R (post_test p) I) fun v s1 h1 => thn h1 fun u s2 h2 => thn h2 fun c s3 ⟨z, H3, I3, r3, k, e, q3⟩ => ?_) hm
  subst e
  cases r3
  exact wpAny_truthy_bool ⟨H3, I3, q3⟩⟩

/-! ### chains -/
def eChain (op op' : D → D → Py D) (fa fb fc : DEnv → Py D) : DEnv → Py D := fun ρ => Py.bnd (fa ρ) fun x => Py.bnd (fb ρ) fun y => Py.bnd (op x y) fun z => Py.bnd (truB z) fun k => if k then Py.bnd (fc ρ) fun w' => op' y w' else Py.ret (.bl false)
theorem de_chain {c : Expr} {fc : DEnv → Py D} {o o' : CmpOp} {op op' : D → D → Py D} (ho : DOp C (compareOp o) op) (ho' : DOp C (compareOp o') op') (ha : DE C a fa) (hb : DE C b fb) (hc : DE C c fc)
    (hm : lastMarks [o, o'] [b, c] = false := by with_unfolding_all rfl) : DE C (.Compare a [o, o'] [b, c] pos) (eChain op op' fa fb fc) := ⟨fun {g ρ M σ H} Q R p pins s I => by
  refine Compare_chain (thn ((ha.then_ (Q := fun v H1 => ∃ d M1 g1, g.le g1 ∧ Rl C g1 ρ M1 σ H1 ∧ Rep C.X.K g1 v d ∧ Post (Py.bnd (fb ρ) (fun y => Py.bnd (op d y) fun z => Py.bnd (truB z) fun k => if k then Py.bnd (fc ρ) fun w' => op' y w' else Py.ret (.bl false)) M1) (QV C g ρ σ Q) (C.We ρ)) R p
    fun v d M1 H1 g1 l1 R1 r1 p1 => ⟨d, M1, g1, l1, R1, r1, p1⟩) pins s I) fun v s1 ⟨x, H1, I1, rx, d, M1, g1, l1, R1, r1, p1⟩ => chain_link ?_) hm
  refine thn ((hb.then_ (Q := fun v H2 => ∃ y M2 g2, g1.le g2 ∧ Rl C g2 ρ M2 σ H2 ∧ Rep C.X.K g2 v y ∧ Post (Py.bnd (op d y) (fun z => Py.bnd (truB z) fun k => if k then Py.bnd (fc ρ) fun w' => op' y w' else Py.ret (.bl false)) M2) (QV C g ρ σ Q) (C.We ρ)) R1 p1
    fun v d M1 H1 g1 l1 R1 r1 p1 => ⟨d, M1, g1, l1, R1, r1, p1⟩) pins s1 I1) fun u s2 ⟨x2, H2, I2, rx2, y, M2, g2, l2, R2, r2, p2⟩ => ?_
  have p3 := post_bnd.mp p2
  refine thn (ho (fun z H3 => ∃ k M3 g3, z = .bl k ∧ g2.le g3 ∧ Rl C g3 ρ M3 σ H3 ∧ Post ((if k then Py.bnd (fc ρ) fun w' => op' y w' else Py.ret (.bl false) : Py D) M3) (QV C g ρ σ Q) (C.We ρ)) R2 I2 rx rx2 (r1.mono l2) r2 (p3.imp fun z M3 q z' H3 g3 l3 R3 r3 => ?_)) fun d' s3 ⟨z, H3, I3, r3, k, M3, g3, e, l3, R3, p4⟩ => ?_
  · obtain ⟨k, rfl, q'⟩ := truB_post (C := C) (post_bnd.mp q)
    exact ⟨k, M3, g3, rep_bl r3, l3, R3, q'⟩
  · subst e
    cases r3
    refine wpAny_truthy_bool ?_
    cases k with
    | false => exact ite_ff ⟨.bl false, H3, I3, rfl, QV.here (QV.later (g' := g3) p4 ((l1.trans l2).trans l3)) R3 (.bl false)⟩
    | true =>
      refine ite_tt (chain_last (thn ((hc.then_ (Q := fun v H4 => ∃ w' M4 g4, g3.le g4 ∧ Rl C g4 ρ M4 σ H4 ∧ Rep C.X.K g4 v w' ∧ Post (op' y w' M4) (QV C g ρ σ Q) (C.We ρ)) R3 p4 fun v d M1 H1 g1 l1 R1 r1 p1 => ⟨d, M1, g1, l1, R1, r1, p1⟩) pins s3 I3)
        fun w' s4 ⟨z', H4, I4, r4, d4, M4, g4, l4, R4, r5, p5⟩ => ho' Q R4 I4 rx2 r4 (r2.mono (l3.trans l4)) r5 (p5.imp fun _ _ q => q.later (((l1.trans l2).trans l3).trans l4))))⟩
theorem isTrue_chain_val (ops : List CmpOp) (rest : List Expr) : True := trivial

/-! ### and, or, not, if -/
def tAndD (fa fb : DEnv → Py Bool) : DEnv → Py Bool := fun ρ => Py.bnd (fa ρ) fun c => if c then fb ρ else Py.ret false
def tOrD (fa fb : DEnv → Py Bool) : DEnv → Py Bool := fun ρ => Py.bnd (fa ρ) fun c => if c then Py.ret true else fb ρ
def tNotD (fa : DEnv → Py Bool) : DEnv → Py Bool := fun ρ => Py.bnd (fa ρ) fun c => Py.ret (!c)
variable {ta tb : DEnv → Py Bool}
theorem dw_pt (h : DW C e ta) : DT C e ta := ⟨fun Q R p pins s I => h.run Q R p _ pins s I⟩
theorem dw_and1 (ha : DT C a ta) : DW C (.BoolOp .And [a] pos) ta := ⟨fun Q R p => wpw (pw_and1 self_t) (ha.run Q R p)⟩
theorem dw_or1 (ha : DT C a ta) : DW C (.BoolOp .Or [a] pos) ta := ⟨fun Q R p => wpw (pw_or1 self_t) (ha.run Q R p)⟩
theorem dw_and (ha : DT C a ta) (hb : DW C (.BoolOp .And (b :: rest) pos) tb) : DW C (.BoolOp .And (a :: b :: rest) pos) (tAndD ta tb) := ⟨fun {g ρ M σ H} Q R p => by
  refine wpw (pw_and self_t self_w) (ha.then_ R p fun c M1 H1 g1 l1 R1 p1 => ?_)
  cases c with
  | true => exact hb.run Q R1 (p1.imp fun _ _ q => q.later l1)
  | false => exact p1 H1 g1 l1 R1⟩
theorem dw_or (ha : DT C a ta) (hb : DW C (.BoolOp .Or (b :: rest) pos) tb) : DW C (.BoolOp .Or (a :: b :: rest) pos) (tOrD ta tb) := ⟨fun {g ρ M σ H} Q R p => by
  refine wpw (pw_or self_t self_w) (ha.then_ R p fun c M1 H1 g1 l1 R1 p1 => ?_)
  cases c with
  | false => exact hb.run Q R1 (p1.imp fun _ _ q => q.later l1)
  | true => exact p1 H1 g1 l1 R1⟩
theorem dt_not (ha : DT C a ta) : DT C (.UnaryOp .Not a pos) (tNotD ta) := ⟨fun {g ρ M σ H} Q R p => wpt (pt_not self_t) (ha.then_ R p fun c M1 H1 g1 l1 R1 p1 => p1 H1 g1 l1 R1)⟩
/-- as values -/
def eAnd (fa fb : DEnv → Py D) : DEnv → Py D := fun ρ => Py.bnd (fa ρ) fun d => Py.bnd (truB d) fun c => if c then fb ρ else Py.ret (.bl false)
def eOr (fa fb : DEnv → Py D) : DEnv → Py D := fun ρ => Py.bnd (fa ρ) fun d => Py.bnd (truB d) fun c => if c then Py.ret (.bl true) else fb ρ
def eNot (fa : DEnv → Py D) : DEnv → Py D := fun ρ => Py.bnd (fa ρ) fun d => Py.bnd (truB d) fun c => Py.ret (.bl (!c))
theorem de_one {o : BoolOp} (h : DE C a fa) : DE C (.BoolOp o [a] pos) fa := ⟨fun Q R p => wpe (pe_one self_e) (h.run Q R p)⟩
theorem de_and (ha : DE C a fa) (hb : DE C (.BoolOp .And (b :: rest) pos) fb) : DE C (.BoolOp .And (a :: b :: rest) pos) (eAnd fa fb) := ⟨fun {g ρ M σ H} Q R p => by
  refine wpe (pe_and self_e self_e) (ha.then_ R p fun v d M1 H1 g1 l1 R1 r1 p1 => ?_)
  obtain ⟨c, rfl, p2⟩ := truB_post (C := C) (post_bnd.mp p1)
  refine ⟨c, rep_bl r1, ?_⟩
  cases c with
  | true => rw [if_pos rfl]; exact hb.run Q R1 (Post.imp (show Post (fb ρ M1) _ _ from p2) fun _ _ q => q.later l1)
  | false => rw [if_neg Bool.false_ne_true]; exact QV.here (QV.later (g' := g1) p2 l1) R1 (.bl false)⟩
theorem de_or (ha : DE C a fa) (hb : DE C (.BoolOp .Or (b :: rest) pos) fb) : DE C (.BoolOp .Or (a :: b :: rest) pos) (eOr fa fb) := ⟨fun {g ρ M σ H} Q R p => by
  refine wpe (pe_or self_e self_e) (ha.then_ R p fun v d M1 H1 g1 l1 R1 r1 p1 => ?_)
  obtain ⟨c, rfl, p2⟩ := truB_post (C := C) (post_bnd.mp p1)
  refine ⟨c, rep_bl r1, ?_⟩
  cases c with
  | false => rw [if_neg Bool.false_ne_true]; exact hb.run Q R1 (Post.imp (show Post (fb ρ M1) _ _ from p2) fun _ _ q => q.later l1)
  | true => rw [if_pos rfl]; exact QV.here (QV.later (g' := g1) p2 l1) R1 (.bl true)⟩
theorem de_not (ha : DE C a fa) : DE C (.UnaryOp .Not a pos) (eNot fa) := ⟨fun {g ρ M σ H} Q R p => by
  refine wpe (pe_not self_e) (ha.then_ R p fun v d M1 H1 g1 l1 R1 r1 p1 => ?_)
  obtain ⟨c, rfl, p2⟩ := truB_post (C := C) (post_bnd.mp p1)
  exact ⟨c, rep_bl r1, QV.here (QV.later (g' := g1) p2 l1) R1 (.bl _)⟩⟩
def eIf (t : DEnv → Py Bool) (fa fb : DEnv → Py D) : DEnv → Py D := fun ρ => Py.bnd (t ρ) fun c => if c then fa ρ else fb ρ
theorem de_if {c : Expr} (hc : DT C c ta) (ha : DE C a fa) (hb : DE C b fb) : DE C (.IfExp c a b pos) (eIf ta fa fb) := ⟨fun {g ρ M σ H} Q R p => by
  refine wpe (pe_ifExp self_t self_e self_e) (hc.then_ R p fun c M1 H1 g1 l1 R1 p1 => ?_)
  cases c with
  | true => rw [if_pos rfl]; exact ha.run Q R1 (Post.imp (show Post (fa ρ M1) _ _ from p1) fun _ _ q => q.later l1)
  | false => rw [if_neg Bool.false_ne_true]; exact hb.run Q R1 (Post.imp (show Post (fb ρ M1) _ _ from p1) fun _ _ q => q.later l1)⟩

/-! ### lists of expressions, displays -/
def aNil : DEnv → Py (List D) := fun _ => Py.ret []
def aCons (f : DEnv → Py D) (r : DEnv → Py (List D)) : DEnv → Py (List D) := fun ρ => Py.bnd (f ρ) fun x => Py.bnd (r ρ) fun xs => Py.ret (x :: xs)
theorem da_nil : DA C [] aNil := ⟨fun {g ρ M σ H} Q R p => wpa pa_nil (show Q [] H from p [] H g (G.le.refl g) R .nil)⟩
theorem da_cons (ha : DE C e f) (hr : DA C es ff) (hs : starEach (e :: es) C.X.env = (false, eval e C.X.env) :: starEach es C.X.env := by rfl) : DA C (e :: es) (aCons f ff) := ⟨fun {g ρ M σ H} Q R p => by
  refine wpa (pa_cons self_e self_a hs) (ha.then_ R p fun v d M1 H1 g1 l1 R1 r1 p1 => ?_)
  refine hr.then_ R1 p1 fun vs ds M2 H2 g2 l2 R2 r2 p2 => ?_
  exact p2 _ H2 g2 (l1.trans l2) R2 (.cons (r1.mono l2) r2)⟩
/-- a new thing that never changes -/
theorem QV.lay {g : G} {ρ : DEnv} {M : Store} {σ : St} {H : Hp} {Q : VK} {d : D} (q : QV C g ρ σ Q d M) (R : Rl C g ρ M σ H) {p : Addr} {o : HO} (h : H p = none) (r : Rep C.X.K (g.add p o) (.ref p) d) : Q (.ref p) (upd H p o) :=
  q (.ref p) _ (g.add p o) (G.le_add (R.h.fnone h)) (R.next (G.le_add (R.h.fnone h)) (R.h.laid h)) r
theorem rep_tup_new {K : PySem.W.Frag} {g : G} {p : Addr} {vs : List V} {ds : List D} (r : Reps K g vs ds) (h : g.F p = none) : Rep K (g.add p (.tup vs)) (.ref p) (.tup ds) := .tup upd_same (r.mono (G.le_add h))
theorem rep_lst_new {K : PySem.W.Frag} {g : G} {p : Addr} {vs : List V} {ds : List D} (r : Reps K g vs ds) (h : g.F p = none) : Rep K (g.add p (.lst vs)) (.ref p) (.lst ds) := .lst upd_same (r.mono (G.le_add h))
def eTup (ff : DEnv → Py (List D)) : DEnv → Py D := fun ρ => Py.bnd (ff ρ) fun ds => Py.chk (ds.length ≤ sizeLine) (Py.ret (.tup ds))
/-- a list that is never changed -/
def eLst (ff : DEnv → Py (List D)) : DEnv → Py D := fun ρ => Py.bnd (ff ρ) fun ds => Py.chk (ds.length ≤ sizeLine) (Py.ret (.lst ds))
theorem de_tup {x1 : Nat} (h : DA C es ff) : DE C (.Tuple es x1 pos) (eTup ff) := ⟨fun {g ρ M σ H} Q R p => by
  refine wpe (pe_tup self_a) (h.then_ R p fun vs ds M1 H1 g1 l1 R1 r1 p1 => ?_)
  obtain ⟨hz, q⟩ := post_chk.mp p1
  exact ⟨by rw [r1.length]; exact hz, fun p hp => QV.lay (QV.later (g' := g1) q l1) R1 hp (rep_tup_new r1 (R1.h.fnone hp))⟩⟩
theorem de_lst (h : DA C es ff) : DE C (.List es pos) (eLst ff) := ⟨fun {g ρ M σ H} Q R p => by
  refine wpe (pe_lst self_a) (h.then_ R p fun vs ds M1 H1 g1 l1 R1 r1 p1 => ?_)
  obtain ⟨hz, q⟩ := post_chk.mp p1
  exact ⟨by rw [r1.length]; exact hz, fun p hp => QV.lay (QV.later (g' := g1) q l1) R1 hp (rep_lst_new r1 (R1.h.fnone hp))⟩⟩
/-- a list that will change -/
def alloc (o : MO) : Py D := fun M => .ok (.loc M.length) (M ++ [some o])
def eNew (ff : DEnv → Py (List D)) : DEnv → Py D := fun ρ => Py.bnd (ff ρ) fun ds => Py.chk (ds.length ≤ sizeLine) (alloc (.lst ds))
theorem QV.make {g : G} {ρ : DEnv} {M : Store} {σ : St} {H : Hp} {Q : VK} {mo : MO} {E : Exn → Store → Prop} (q : Post (alloc mo M) (QV C g ρ σ Q) E) (R : Rl C g ρ M σ H) {p : Addr} {o : HO} (h : H p = none) (r : ObjRep C.X.K (g.more p) (upd H p o) p mo) : Q (.ref p) (upd H p o) := by
  refine q (.ref p) _ (g.more p) G.le_more (R.next G.le_more (R.h.made h r)) (.loc ?_)
  show (g.io ++ [p])[M.length]? = some p
  rw [← R.h.len, List.getElem?_concat_length]
theorem de_new (h : DA C es ff) : DE C (.List es pos) (eNew ff) := ⟨fun {g ρ M σ H} Q R p => by
  refine wpe (pe_lst self_a) (h.then_ R p fun vs ds M1 H1 g1 l1 R1 r1 p1 => ?_)
  obtain ⟨hz, q⟩ := post_chk.mp p1
  exact ⟨by rw [r1.length]; exact hz, fun p hp => QV.make (q.imp fun _ _ z => QV.later (g' := g1) z l1) R1 hp ⟨vs, upd_same, r1.mono G.le_more⟩⟩⟩
end
end L3
set_option Elab.async false
set_option linter.all false
set_option maxRecDepth 100000
set_option autoImplicit false
namespace L3
open PySem PySem.Spec L2
open PyProof.Rows hiding St

/-! ### sequences -/
/-- the items of a tuple or a list -/
def items (d : D) : Py (List D) := match d with
  | .tup xs => Py.ret xs
  | .lst xs => Py.ret xs
  | .ro xs => Py.ret xs
  | .loc n => fun M => match M[n]? with
    | some (some (.lst xs)) => .ok xs M
    | _ => .bad
  | _ => Py.bad
/-- of a list -/
def litems (d : D) : Py (List D) := match d with
  | .tup _ => Py.bad
  | d => items d
/-- of a list that is no script -/
def xitems (d : D) : Py (List D) := match d with
  | .ro _ => Py.bad
  | d => litems d
section
variable {K : PySem.W.Frag} {g : G} {M : Store} {H : Hp} {v : V} {d : D} {q : List D → Store → Prop} {E : Exn → Store → Prop}
theorem loc_lst {n : Nat} {xs : List D} (R : RelH K g M H) (r : Rep K g v (.loc n)) (e : M[n]? = some (some (.lst xs))) : ∃ a vs, v = .ref a ∧ g.io[n]? = some a ∧ H a = some (.lst vs) ∧ Reps K g vs xs := by
  cases r with
  | loc e1 =>
    obtain ⟨a, e2, e3, vs, e4, e5⟩ := R.liv n _ e
    rw [e1] at e2
    cases e2
    exact ⟨_, vs, rfl, e1, e4, e5⟩
theorem items_post (R : RelH K g M H) (r : Rep K g v d) (p : Post (items d M) q E) : ∃ a vs ds, v = .ref a ∧ (SqL K H a vs ∨ SqT K H a vs) ∧ Reps K g vs ds ∧ q ds M := by
  cases r with
  | tup s t => exact ⟨_, _, _, rfl, .inr (.of (R.frz _ _ s)), t, p⟩
  | lst s t => exact ⟨_, _, _, rfl, .inl (.of (R.frz _ _ s)), t, p⟩
  | ro s t => exact ⟨_, _, _, rfl, .inl (sqL_mono R.frz s), t, p⟩
  | @loc n a e1 =>
    have p' : Post ((match M[n]? with | some (some (.lst xs)) => .ok xs M | _ => .bad) : Out (List D)) q E := p
    split at p'
    · rename_i xs e
      obtain ⟨a', vs, ea, e2, e4, e5⟩ := loc_lst R (.loc e1) e
      exact ⟨a', vs, xs, ea, .inl (.of e4), e5, p'⟩
    · exact p'.elim
  | _ => exact p.elim
theorem litems_post (R : RelH K g M H) (r : Rep K g v d) (p : Post (litems d M) q E) : ∃ a vs ds, v = .ref a ∧ SqL K H a vs ∧ Reps K g vs ds ∧ q ds M := by
  cases r with
  | tup s t => exact p.elim
  | lst s t => exact ⟨_, _, _, rfl, .of (R.frz _ _ s), t, p⟩
  | ro s t => exact ⟨_, _, _, rfl, sqL_mono R.frz s, t, p⟩
  | @loc n a e1 =>
    have p' : Post ((match M[n]? with | some (some (.lst xs)) => .ok xs M | _ => .bad) : Out (List D)) q E := p
    split at p'
    · rename_i xs e
      obtain ⟨a', vs, ea, e2, e4, e5⟩ := loc_lst R (.loc e1) e
      exact ⟨a', vs, xs, ea, .of e4, e5, p'⟩
    · exact p'.elim
  | _ => exact p.elim
theorem xitems_post (R : RelH K g M H) (r : Rep K g v d) (p : Post (xitems d M) q E) : ∃ a vs ds, v = .ref a ∧ H a = some (.lst vs) ∧ Reps K g vs ds ∧ q ds M := by
  cases r with
  | lst s t => exact ⟨_, _, _, rfl, R.frz _ _ s, t, p⟩
  | @loc n a e1 =>
    have p' : Post ((match M[n]? with | some (some (.lst xs)) => .ok xs M | _ => .bad) : Out (List D)) q E := p
    split at p'
    · rename_i xs e
      obtain ⟨a', vs, ea, e2, e4, e5⟩ := loc_lst R (.loc e1) e
      exact ⟨a', vs, xs, ea, e4, e5, p'⟩
    · exact p'.elim
  | _ => exact p.elim
end

/-! ### arithmetic -/
def intOp (f : Int → Int → Py D) : D → D → Py D
  | .int i, .int j => f i j
  | _, _ => Py.bad
theorem intOp_post {f : Int → Int → Py D} {dx dy : D} {M : Store} {q : D → Store → Prop} {E : Exn → Store → Prop} (p : Post (intOp f dx dy M) q E) : ∃ i j, dx = .int i ∧ dy = .int j ∧ Post (f i j M) q E := by
  cases dx with
  | int i =>
    cases dy with
    | int j => exact ⟨i, j, rfl, rfl, p⟩
    | _ => exact p.elim
  | _ => exact p.elim
section
variable {C : DX}
theorem dop_int {fv : Value → Value → Sem Value} {c : Int → Int → Prop} {w : Int → Int → V} {f : Int → Int → Py D} (ho : OpR C.X fv (rI c w))
    (h : ∀ {g : G} {ρ : DEnv} {M : Store} {σ : St} {H : Hp} {i j : Int} (Q : VK), Rl C g ρ M σ H → Post (f i j M) (QV C g ρ σ Q) (C.We ρ) → c i j ∧ Q (w i j) H) : DOp C fv (intOp f) := DOp.of ho fun Q R rx ry p => by
  obtain ⟨i, j, rfl, rfl, q⟩ := intOp_post p
  exact ⟨i, j, rep_int rx, rep_int ry, h Q R q⟩
theorem dop_int0 {fv : Value → Value → Sem Value} {w : Int → Int → V} {f : Int → Int → Py D} (ho : OpR C.X fv (rI0 w))
    (h : ∀ {g : G} {ρ : DEnv} {M : Store} {σ : St} {H : Hp} {i j : Int} (Q : VK), Rl C g ρ M σ H → Post (f i j M) (QV C g ρ σ Q) (C.We ρ) → Q (w i j) H) : DOp C fv (intOp f) := DOp.of ho fun Q R rx ry p => by
  obtain ⟨i, j, rfl, rfl, q⟩ := intOp_post p
  exact ⟨i, j, rep_int rx, rep_int ry, h Q R q⟩
def addI := intOp fun i j => Py.ret (.int (i + j))
def subI := intOp fun i j => Py.ret (.int (i - j))
def mulI := intOp fun i j => Py.chk ((-(2 ^ 64) < i ∧ i < 2 ^ 64) ∨ (-(2 ^ 64) < j ∧ j < 2 ^ 64)) (Py.ret (.int (i * j)))
def fdivI := intOp fun i j => Py.chk (0 < j ∧ j < 1073741824) (Py.ret (.int (i / j)))
def modI := intOp fun i j => Py.chk (0 < j) (Py.ret (.int (i % j)))
def powI := intOp fun i j => Py.chk (0 ≤ j ∧ j ≤ 1000000 ∧ i.natAbs < 2 ^ 64) (Py.ret (.int (i ^ j.toNat)))
def ltI := intOp fun i j => Py.ret (.bl (decide (i < j)))
def leI := intOp fun i j => Py.ret (.bl (decide (i ≤ j)))
def gtI := intOp fun i j => Py.ret (.bl (decide (j < i)))
def geI := intOp fun i j => Py.ret (.bl (decide (j ≤ i)))
theorem do_addI : DOp C (binaryOp .Add) addI := by
  refine dop_int0 op_add fun Q R p => ?_
  exact QV.here p R (.int _)
theorem do_subI : DOp C (binaryOp .Sub) subI := by
  refine dop_int0 op_sub fun Q R p => ?_
  exact QV.here p R (.int _)
theorem do_mulI : DOp C (binaryOp .Mult) mulI := by
  refine dop_int op_mul fun Q R p => ?_
  exact ⟨(post_chk.mp p).1, QV.here (post_chk.mp p).2 R (.int _)⟩
theorem do_fdivI : DOp C (binaryOp .FloorDiv) fdivI := by
  refine dop_int op_fdiv fun Q R p => ?_
  exact ⟨(post_chk.mp p).1, QV.here (post_chk.mp p).2 R (.int _)⟩
theorem do_modI : DOp C (binaryOp .Mod) modI := by
  refine dop_int op_mod fun Q R p => ?_
  exact ⟨(post_chk.mp p).1, QV.here (post_chk.mp p).2 R (.int _)⟩
theorem do_powI : DOp C (binaryOp .Pow) powI := by
  refine dop_int op_pow fun Q R p => ?_
  exact ⟨(post_chk.mp p).1, QV.here (post_chk.mp p).2 R (.int _)⟩
theorem do_ltI : DOp C (compareOp .Lt) ltI := by
  refine dop_int0 op_lt fun Q R p => ?_
  exact QV.here p R (.bl _)
theorem do_leI : DOp C (compareOp .LtE) leI := by
  refine dop_int0 op_le fun Q R p => ?_
  exact QV.here p R (.bl _)
theorem do_gtI : DOp C (compareOp .Gt) gtI := by
  refine dop_int0 op_gt fun Q R p => ?_
  exact QV.here p R (.bl _)
theorem do_geI : DOp C (compareOp .GtE) geI := by
  refine dop_int0 op_ge fun Q R p => ?_
  exact QV.here p R (.bl _)
def negI : D → Py D
  | .int i => Py.ret (.int (-i))
  | _ => Py.bad
theorem do_negI : DUn C (unaryOp .USub) negI := DUn.of un_neg fun {g ρ M σ H x dx} Q R rx p => by
  cases dx with
  | int i => exact ⟨i, rep_int rx, QV.here p R (.int _)⟩
  | _ => exact p.elim

/-! ### + of texts, tuples, lists -/
def addS : D → D → Py D
  | .str a, .str b => Py.chk (a.length + b.length ≤ sizeLine) (Py.ret (.str (a ++ b)))
  | _, _ => Py.bad
theorem do_addS : DOp C (binaryOp .Add) addS := DOp.of op_add_str fun {g ρ M σ H x y dx dy} Q R rx ry p => by
  cases dx with
  | str a =>
    cases dy with
    | str b => exact ⟨a, b, rep_str rx, rep_str ry, (post_chk.mp p).1, QV.here (post_chk.mp p).2 R (.str _)⟩
    | _ => exact p.elim
  | _ => exact p.elim
def addT : D → D → Py D
  | .tup xs, .tup ys => Py.chk (xs.length + ys.length ≤ sizeLine) (Py.ret (.tup (xs ++ ys)))
  | _, _ => Py.bad
theorem do_addT : DOp C (binaryOp .Add) addT := DOp.of op_catA fun {g ρ M σ H x y dx dy} Q R rx ry p => by
  cases rx with
  | tup s1 t1 =>
    cases ry with
    | tup s2 t2 =>
      obtain ⟨hz, q⟩ := post_chk.mp p
      refine ⟨_, _, _, _, rfl, rfl, .of (R.h.frz _ _ s1), .of (R.h.frz _ _ s2), by rw [t1.length, t2.length]; exact hz, fun e => ?_, fun e e2 => ?_, fun e e2 p hp => ?_⟩
      · subst e
        cases t1
        exact QV.here q R (.tup s2 t2)
      · subst e2
        cases t2
        rw [List.append_nil] at q
        exact QV.here q R (.tup s1 t1)
      · exact QV.lay q R hp (rep_tup_new (t1.append t2) (R.h.fnone hp))
    | _ => exact p.elim
  | _ => exact p.elim
/-- a new list that is never changed -/
def addL (x y : D) : Py D := Py.bnd (xitems x) fun xs => Py.bnd (xitems y) fun ys => Py.chk (xs.length + ys.length ≤ sizeLine) (Py.ret (.lst (xs ++ ys)))
theorem do_addL : DOp C (binaryOp .Add) addL := DOp.of op_cat fun {g ρ M σ H x y dx dy} Q R rx ry p => by
  obtain ⟨a, vs, xs, rfl, h1, t1, p1⟩ := xitems_post R.h rx (post_bnd.mp p)
  obtain ⟨b, ws, ys, rfl, h2, t2, p2⟩ := xitems_post R.h ry (post_bnd.mp p1)
  obtain ⟨hz, q⟩ := post_chk.mp p2
  exact ⟨a, b, vs, ws, rfl, rfl, h1, h2, by rw [t1.length, t2.length]; exact hz, fun p hp => QV.lay q R hp (rep_lst_new (t1.append t2) (R.h.fnone hp))⟩
/-- a new list that changes -/
def addLn (x y : D) : Py D := Py.bnd (xitems x) fun xs => Py.bnd (xitems y) fun ys => Py.chk (xs.length + ys.length ≤ sizeLine) (alloc (.lst (xs ++ ys)))
theorem do_addLn : DOp C (binaryOp .Add) addLn := DOp.of op_cat fun {g ρ M σ H x y dx dy} Q R rx ry p => by
  obtain ⟨a, vs, xs, rfl, h1, t1, p1⟩ := xitems_post R.h rx (post_bnd.mp p)
  obtain ⟨b, ws, ys, rfl, h2, t2, p2⟩ := xitems_post R.h ry (post_bnd.mp p1)
  obtain ⟨hz, q⟩ := post_chk.mp p2
  exact ⟨a, b, vs, ws, rfl, rfl, h1, h2, by rw [t1.length, t2.length]; exact hz, fun p hp => QV.make q R hp ⟨_, upd_same, (t1.append t2).mono G.le_more⟩⟩
def mulL : D → D → Py D := fun x y => Py.bnd (xitems x) fun xs => match y with
  | .int k => Py.chk (-(2 ^ 63) ≤ k ∧ k < 2 ^ 63 ∧ xs.length * k.toNat ≤ sizeLine) (Py.ret (.lst (List.replicate k.toNat xs).flatten))
  | _ => Py.bad
theorem Reps.rep {K : PySem.W.Frag} {g : G} {vs : List V} {ds : List D} (h : Reps K g vs ds) : ∀ k : Nat, Reps K g (List.replicate k vs).flatten (List.replicate k ds).flatten
  | 0 => .nil
  | k + 1 => by
    rw [List.replicate_succ, List.replicate_succ, List.flatten_cons, List.flatten_cons]
    exact h.append (Reps.rep h k)
theorem do_mulL : DOp C (binaryOp .Mult) mulL := DOp.of op_rep fun {g ρ M σ H x y dx dy} Q R rx ry p => by
  obtain ⟨a, vs, xs, rfl, h1, t1, p1⟩ := xitems_post R.h rx (post_bnd.mp p)
  cases dy with
  | int k =>
    obtain ⟨⟨b1, b2, hz⟩, q⟩ := post_chk.mp p1
    exact ⟨a, k, vs, rfl, rep_int ry, h1, b1, b2, by rw [t1.length]; exact hz, fun p hp => QV.lay q R hp (rep_lst_new (t1.rep _) (R.h.fnone hp))⟩
  | _ => exact p1.elim
def mulLn : D → D → Py D := fun x y => Py.bnd (xitems x) fun xs => match y with
  | .int k => Py.chk (-(2 ^ 63) ≤ k ∧ k < 2 ^ 63 ∧ xs.length * k.toNat ≤ sizeLine) (alloc (.lst (List.replicate k.toNat xs).flatten))
  | _ => Py.bad
theorem do_mulLn : DOp C (binaryOp .Mult) mulLn := DOp.of op_rep fun {g ρ M σ H x y dx dy} Q R rx ry p => by
  obtain ⟨a, vs, xs, rfl, h1, t1, p1⟩ := xitems_post R.h rx (post_bnd.mp p)
  cases dy with
  | int k =>
    obtain ⟨⟨b1, b2, hz⟩, q⟩ := post_chk.mp p1
    exact ⟨a, k, vs, rfl, rep_int ry, h1, b1, b2, by rw [t1.length]; exact hz, fun p hp => QV.make q R hp ⟨_, upd_same, (t1.rep _).mono G.le_more⟩⟩
  | _ => exact p1.elim

/-! ### == and != of data -/
mutual
def pyD : D → Option PyData
  | .non => some .none
  | .bl b => some (.bool b)
  | .int i => some (.int i)
  | .str x => some (.str x)
  | .tup xs => (pyL xs).map PyData.tuple
  | .lst xs => (pyL xs).map PyData.list
  | .ro xs => (pyL xs).map PyData.list
  | .dk _ => none
  | .dkt _ => none
  | .ins _ _ => none
  | .loc _ => none
  | .ref _ => none
  | .ty _ => none
def pyL : List D → Option (List PyData)
  | [] => some []
  | x :: xs => (pyD x).bind fun p => (pyL xs).map fun ps => p :: ps
end
def pyM (M : Store) : D → Option PyData
  | .loc n => match M[n]? with
    | some (some (.lst xs)) => (pyL xs).map PyData.list
    | _ => none
  | d => pyD d
mutual
theorem dp_of {K : PySem.W.Frag} {g : G} {H : Hp} (hf : ∀ a o, g.F a = some o → H a = some o) : ∀ {v : V} {d : D} {p : PyData}, Rep K g v d → pyD d = some p → Dp K H v p
  | _, _, _, .non, e => by cases e; exact .non
  | _, _, _, .bl b, e => by cases e; exact .bl b
  | _, _, _, .int b, e => by cases e; exact .int b
  | _, _, _, .str b, e => by cases e; exact .str b
  | _, _, _, .tup s r, e => by
    obtain ⟨ps, e1, e2⟩ := Option.map_eq_some_iff.mp (show (pyL _).map PyData.tuple = some _ from e)
    subst e2
    exact .tup (.of (hf _ _ s)) (dps_of hf r e1)
  | _, _, _, .lst s r, e => by
    obtain ⟨ps, e1, e2⟩ := Option.map_eq_some_iff.mp (show (pyL _).map PyData.list = some _ from e)
    subst e2
    exact .lst (.of (hf _ _ s)) (dps_of hf r e1)
  | _, _, _, .ro s r, e => by
    obtain ⟨ps, e1, e2⟩ := Option.map_eq_some_iff.mp (show (pyL _).map PyData.list = some _ from e)
    subst e2
    exact .lst (sqL_mono hf s) (dps_of hf r e1)
  | _, _, _, .dk _ _ _, e => by cases e
  | _, _, _, .dkt _ _ _, e => by cases e
  | _, _, _, .ins _ _ _, e => by cases e
  | _, _, _, .loc _, e => by cases e
  | _, _, _, .ref _, e => by cases e
  | _, _, _, .ty _, e => by cases e
theorem dps_of {K : PySem.W.Frag} {g : G} {H : Hp} (hf : ∀ a o, g.F a = some o → H a = some o) : ∀ {vs : List V} {ds : List D} {ps : List PyData}, Reps K g vs ds → pyL ds = some ps → DpAll K H vs ps
  | _, _, _, .nil, e => by cases e; exact .nil
  | _, _, _, .cons r t, e => by
    obtain ⟨p, e1, e2⟩ := Option.bind_eq_some_iff.mp (show (pyD _).bind _ = some _ from e)
    obtain ⟨qs, e3, e4⟩ := Option.map_eq_some_iff.mp e2
    subst e4
    exact .cons (dp_of hf r e1) (dps_of hf t e3)
end
theorem dpm_of {K : PySem.W.Frag} {g : G} {M : Store} {H : Hp} (R : RelH K g M H) {v : V} {d : D} {p : PyData} (r : Rep K g v d) (e : pyM M d = some p) : Dp K H v p := by
  cases r with
  | @loc n a e1 =>
    have e' : (match M[n]? with | some (some (.lst xs)) => (pyL xs).map PyData.list | _ => none) = some p := e
    split at e'
    · rename_i xs h
      obtain ⟨a', vs, ea, e2, e4, e5⟩ := loc_lst R (.loc e1) h
      obtain ⟨ps, e6, e7⟩ := Option.map_eq_some_iff.mp e'
      subst e7
      rw [ea]
      exact .lst (.of e4) (dps_of R.frz e5 e6)
    · cases e'
  | non => exact dp_of R.frz .non e
  | bl b => exact dp_of R.frz (.bl b) e
  | int b => exact dp_of R.frz (.int b) e
  | str b => exact dp_of R.frz (.str b) e
  | tup s t => exact dp_of R.frz (.tup s t) e
  | lst s t => exact dp_of R.frz (.lst s t) e
  | ro s t => exact dp_of R.frz (.ro s t) e
  | dk s t z => cases e
  | dkt s t z => cases e
  | ins s t z => cases e
  | ref a => cases e
  | ty a => cases e
def eqP (neg : Bool) (x y : D) : Py D := fun M => match pyM M x, pyM M y with
  | some p, some q => if SeqAt.shaped p && SeqAt.shaped q then .ok (.bl (if neg then !PyData.eqv p q else PyData.eqv p q)) M else .bad
  | _, _ => .bad
def eqS (neg : Bool) (x y : D) : Py D := match x, y with
  | .str a, .str b => Py.ret (.bl (if neg then !decide (a = b) else decide (a = b)))
  | x, y => eqP neg x y
theorem eqP_post {neg : Bool} {x y : D} {M : Store} {q : D → Store → Prop} {E : Exn → Store → Prop} (p : Post (eqP neg x y M) q E) :
    ∃ a b, pyM M x = some a ∧ pyM M y = some b ∧ SeqAt.shaped a = true ∧ SeqAt.shaped b = true ∧ q (.bl (if neg then !PyData.eqv a b else PyData.eqv a b)) M := by
  unfold eqP at p
  split at p
  · rename_i a b h1 h2
    split at p
    · rename_i h
      rw [Bool.and_eq_true] at h
      exact ⟨a, b, h1, h2, h.1, h.2, p⟩
    · exact p.elim
  · exact p.elim
theorem eqS_cases {neg : Bool} {x y : D} {M : Store} {q : D → Store → Prop} {E : Exn → Store → Prop} (p : Post (eqS neg x y M) q E) :
    (∃ a b, x = .str a ∧ y = .str b ∧ q (.bl (if neg then !decide (a = b) else decide (a = b))) M) ∨ Post (eqP neg x y M) q E := by
  cases x with
  | str a =>
    cases y with
    | str b => exact .inl ⟨a, b, rfl, rfl, p⟩
    | _ => exact .inr p
  | _ => exact .inr p
theorem scal_str {a b : Str} : scal (.str a) (.str b) = true := rfl
theorem dec_strV {a b : Str} : decide (V.str a = V.str b) = decide (a = b) := by
  by_cases h : a = b
  · subst h; rw [decide_eq_true rfl, decide_eq_true rfl]
  · rw [decide_eq_false h, decide_eq_false fun e => h (V.str.inj e)]
theorem do_eq (hu : C.X.A.units + 64 < cLine) : DOp C (compareOp .Eq) (eqS false) := DOp.of (op_eq.or (op_eqD hu)) fun {g ρ M σ H x y dx dy} Q R rx ry p => by
  rcases eqS_cases p with ⟨a, b, rfl, rfl, q⟩ | p
  · left
    rw [rep_str rx, rep_str ry]
    exact ⟨scal_str, by rw [dec_strV]; exact QV.here q R (.bl _)⟩
  · right
    obtain ⟨a, b, e1, e2, s1, s2, q⟩ := eqP_post p
    exact ⟨a, b, dpm_of R.h rx e1, dpm_of R.h ry e2, s1, s2, QV.here q R (.bl _)⟩
theorem do_ne (hu : C.X.A.units + 64 < cLine) : DOp C (compareOp .NotEq) (eqS true) := DOp.of (op_ne.or (op_neD hu)) fun {g ρ M σ H x y dx dy} Q R rx ry p => by
  rcases eqS_cases p with ⟨a, b, rfl, rfl, q⟩ | p
  · left
    rw [rep_str rx, rep_str ry]
    exact ⟨scal_str, by rw [dec_strV]; exact QV.here q R (.bl _)⟩
  · right
    obtain ⟨a, b, e1, e2, s1, s2, q⟩ := eqP_post p
    exact ⟨a, b, dpm_of R.h rx e1, dpm_of R.h ry e2, s1, s2, QV.here q R (.bl _)⟩

/-! ### is None -/
def isNon : D → Bool
  | .non => true
  | _ => false
def isN (neg : Bool) : D → D → Py D := fun x y => match y with
  | .non => Py.ret (.bl (if neg then !isNon x else isNon x))
  | _ => Py.bad
theorem dec_non {K : PySem.W.Frag} {g : G} {v : V} {d : D} (r : Rep K g v d) : decide (v = V.non) = isNon d := by cases r <;> rfl
theorem do_isN : DOp C (compareOp .Is) (isN false) := DOp.of op_isN fun {g ρ M σ H x y dx dy} Q R rx ry p => by
  cases dy with
  | non =>
    refine ⟨rep_non ry, ?_⟩
    rw [dec_non rx]
    exact QV.here p R (.bl _)
  | _ => exact p.elim
theorem do_notN : DOp C (compareOp .IsNot) (isN true) := DOp.of op_notN fun {g ρ M σ H x y dx dy} Q R rx ry p => by
  cases dy with
  | non =>
    refine ⟨rep_non ry, ?_⟩
    rw [dec_non rx]
    exact QV.here p R (.bl _)
  | _ => exact p.elim

/-! ### in -/
def flatD : D → Bool
  | .non => true
  | .bl _ => true
  | .int _ => true
  | .str _ => true
  | _ => false
def eqF : D → D → Bool
  | .non, .non => true
  | .bl a, .bl b => a == b
  | .bl a, .int b => (if a then 1 else 0) == b
  | .int a, .bl b => a == (if b then 1 else 0)
  | .int a, .int b => a == b
  | .str a, .str b => a == b
  | _, _ => false
theorem flat_rep {K : PySem.W.Frag} {g : G} {v : V} {d : D} (r : Rep K g v d) (f : flatD d = true) : flatV v = true := by cases r <;> first | rfl | exact f
theorem eqF_rep {K : PySem.W.Frag} {g : G} {v w : V} {d e : D} (r : Rep K g v d) (q : Rep K g w e) (f : flatD d = true) (h : flatD e = true) : eqV v w = eqF d e := by
  cases r <;> first | exact absurd f Bool.false_ne_true | skip
  all_goals (cases q <;> first | exact absurd h Bool.false_ne_true | rfl)
theorem flat_reps {K : PySem.W.Frag} {g : G} : ∀ {vs : List V} {ds : List D}, Reps K g vs ds → ds.all flatD = true → vs.all flatV = true
  | _, _, .nil, _ => rfl
  | _, _, .cons r t, f => by
    rw [List.all_cons, Bool.and_eq_true] at f ⊢
    exact ⟨flat_rep r f.1, flat_reps t f.2⟩
theorem inV_reps {K : PySem.W.Frag} {g : G} {x : V} {d : D} (r : Rep K g x d) (f : flatD d = true) : ∀ {vs : List V} {ds : List D}, Reps K g vs ds → ds.all flatD = true → inV x vs = ds.any fun e => eqF e d
  | _, _, .nil, _ => rfl
  | _, _, .cons q t, h => by
    rw [List.all_cons, Bool.and_eq_true] at h
    have ih := inV_reps r f t h.2
    unfold inV at ih ⊢
    rw [List.any_cons, List.any_cons, ih, eqF_rep q r h.1 f]
def inF (neg : Bool) (x y : D) : Py D := Py.bnd (items y) fun ds => Py.chk (flatD x = true ∧ ds.all flatD = true) (Py.ret (.bl (if neg then !(ds.any fun e => eqF e x) else ds.any fun e => eqF e x)))
theorem do_inF : DOp C (compareOp .In) (inF false) := DOp.of op_in_seq fun {g ρ M σ H x y dx dy} Q R rx ry p => by
  obtain ⟨a, vs, ds, rfl, hs, t, p1⟩ := items_post R.h ry (post_bnd.mp p)
  obtain ⟨⟨f1, f2⟩, q⟩ := post_chk.mp p1
  refine ⟨a, vs, rfl, hs, flat_rep rx f1, flat_reps t f2, ?_⟩
  rw [inV_reps rx f1 t f2]
  exact QV.here q R (.bl _)
theorem do_notInF : DOp C (compareOp .NotIn) (inF true) := DOp.of op_notIn_seq fun {g ρ M σ H x y dx dy} Q R rx ry p => by
  obtain ⟨a, vs, ds, rfl, hs, t, p1⟩ := items_post R.h ry (post_bnd.mp p)
  obtain ⟨⟨f1, f2⟩, q⟩ := post_chk.mp p1
  refine ⟨a, vs, rfl, hs, flat_rep rx f1, flat_reps t f2, ?_⟩
  rw [inV_reps rx f1 t f2]
  exact QV.here q R (.bl _)

/-! ### items, slices -/
def ixD (x y : D) : Py D := match x, y with
  | .str z, .int i => Py.chk (z.length ≤ sizeLine) (match atI z.cps.toList i with | some c => Py.ret (.str ⟨#[c]⟩) | none => Py.bad)
  | x, .int i => Py.bnd (items x) fun ds => match atI ds i with | some d => Py.ret d | none => Py.bad
  | _, _ => Py.bad
theorem atI_reps {K : PySem.W.Frag} {g : G} {vs : List V} {ds : List D} {i : Int} {d : D} (t : Reps K g vs ds) (e : atI ds i = some d) : ∃ v, atI vs i = some v ∧ Rep K g v d := by
  unfold atI at e ⊢
  rw [t.length]
  obtain ⟨j, h1, h2⟩ := Option.bind_eq_some_iff.mp e
  obtain ⟨v, h3, h4⟩ := t.get h2
  exact ⟨v, by rw [h1]; exact h3, h4⟩
theorem ixD_cases {x y : D} {M : Store} {q : D → Store → Prop} {E : Exn → Store → Prop} (p : Post (ixD x y M) q E) :
    (∃ z i c, x = .str z ∧ y = .int i ∧ z.length ≤ sizeLine ∧ atI z.cps.toList i = some c ∧ q (.str ⟨#[c]⟩) M) ∨ ∃ i, y = .int i ∧ Post (items x M) (fun ds M' => ∃ d, atI ds i = some d ∧ q d M') E := by
  have gen : ∀ {x : D} {i : Int}, Post (Py.bnd (items x) (fun ds => match atI ds i with | some d => Py.ret d | none => Py.bad) M) q E → Post (items x M) (fun ds M' => ∃ d, atI ds i = some d ∧ q d M') E := by
    intro x i p
    refine (post_bnd.mp p).imp fun ds M' p' => ?_
    cases e : atI ds i with
    | none => rw [e] at p'; exact p'.elim
    | some d => rw [e] at p'; exact ⟨d, rfl, p'⟩
  cases y with
  | int i =>
    cases x with
    | str z =>
      obtain ⟨h1, p1⟩ := post_chk.mp p
      left
      cases e : atI z.cps.toList i with
      | none => rw [e] at p1; exact p1.elim
      | some c => rw [e] at p1; exact ⟨z, i, c, rfl, rfl, h1, e, p1⟩
    | _ => exact .inr ⟨i, rfl, gen p⟩
  | _ => cases x <;> exact p.elim
variable {a b : Expr} {fa fb : DEnv → Py D} {pos : Pos}
theorem de_ix (ha : DE C a fa) (hb : DE C b fb) (hs : PlainIx b := by exact fun _ _ => rfl) : DE C (.Subscript a b pos) (eOp ixD fa fb) := ⟨fun {g ρ M σ H} Q R p => by
  refine wpe (pe_ix ix_seq self_e self_e hs) (ha.then_ R p fun v d M1 H1 g1 l1 R1 r1 p1 => hb.then_ R1 p1 fun u e M2 H2 g2 l2 R2 r2 p2 => ?_)
  rcases ixD_cases p2 with ⟨z, i, c, rfl, rfl, hz, e, q⟩ | ⟨i, rfl, p3⟩
  · exact .inr (.inr ⟨z, i, c, rep_str (r1.mono l2), rep_int r2, hz, e, QV.here (QV.later (g' := g2) q (l1.trans l2)) R2 (.str _)⟩)
  · obtain ⟨a', vs, ds, ea, hs, t, d', e, q⟩ := items_post R2.h (r1.mono l2) p3
    obtain ⟨w', e1, e2⟩ := atI_reps t e
    rcases hs with hs | hs
    · exact .inl ⟨a', vs, i, w', ea, rep_int r2, hs, e1, QV.here (QV.later (g' := g2) q (l1.trans l2)) R2 e2⟩
    · exact .inr (.inl ⟨a', vs, i, w', ea, rep_int r2, hs, e1, QV.here (QV.later (g' := g2) q (l1.trans l2)) R2 e2⟩)⟩

/-- a part of a slice -/
structure DO (C : DX) (e : Option Expr) (f : DEnv → Py (Option Int)) : Prop where
  run : ∀ {g : G} {ρ : DEnv} {M : Store} {σ : St} {H : Hp}, Rl C g ρ M σ H → ∀ (q : Option Int → Store → Prop), Post (f ρ M) q (C.We ρ) → ∃ t : TO, PO C.X e t ∧ ∀ Q : Option Int → Hp → Prop, (∀ o M' H' g', g.le g' → Rl C g' ρ M' σ H' → q o M' → Q o H') → t σ H Q
def oNone : DEnv → Py (Option Int) := fun _ => Py.ret none
def toI : D → Py (Option Int)
  | .int i => Py.ret (some i)
  | _ => Py.bad
def oSome (f : DEnv → Py D) : DEnv → Py (Option Int) := fun ρ => Py.bnd (f ρ) toI
/-- by the reading -/
structure DOp2 (C : DX) (e : Option Expr) (f : DEnv → Py (Option Int)) (t : TO) : Prop where
  po : PO C.X e t
  run : ∀ {g : G} {ρ : DEnv} {M : Store} {σ : St} {H : Hp} {α : Type} {k : Option Int → Py α} {q : α → Store → Prop} {Q : Option Int → Hp → Prop}, Rl C g ρ M σ H → Post (Py.bnd (f ρ) k M) q (C.We ρ) →
    (∀ (o : Option Int) (M' : Store) (H' : Hp) (g' : G), g.le g' → Rl C g' ρ M' σ H' → Post (k o M') q (C.We ρ) → Q o H') → t σ H Q
theorem do_none : DOp2 C none oNone tNoPart := ⟨po_none, fun {g ρ M σ H α k q Q} R p go => go none M H g (G.le.refl g) R p⟩
theorem do_some {e : Expr} {f : DEnv → Py D} (h : DE C e f) : DOp2 C (some e) (oSome f) (tPart (WPE C.X e)) := ⟨po_some self_e, fun {g ρ M σ H α k q Q} R p go => by
  refine h.run _ R (Post.imp (post_bnd.mp (post_bnd.mp p)) fun d M' p' => ?_)
  intro v H' g' l R' r
  cases d with
  | int i => exact ⟨i, rep_int r, go (some i) M' H' g' l R' p'⟩
  | _ => exact p'.elim⟩
def cutD (xs : List D) (lo hi : Option Int) : List D := (xs.drop (HT.sIx xs.length 0 lo)).take (HT.sIx xs.length xs.length hi - HT.sIx xs.length 0 lo)
theorem Reps.cut {K : PySem.W.Frag} {g : G} {vs : List V} {ds : List D} (h : Reps K g vs ds) (lo hi : Option Int) : Reps K g (cutV vs lo hi) (cutD ds lo hi) := by
  unfold cutV cutD
  rw [h.length]
  exact (h.drop _).take _
def cutS' (z : Str) (lo hi : Option Int) : Str := cutS z lo hi
def slD (x : D) (lo hi : Option Int) : Py D := match x with
  | .tup xs => Py.ret (.tup (cutD xs lo hi))
  | .str z => Py.chk (z.length ≤ sizeLine) (Py.ret (.str (cutS z lo hi)))
  | x => Py.bnd (litems x) fun xs => Py.ret (.lst (cutD xs lo hi))
def eSl (fa : DEnv → Py D) (fl fh : DEnv → Py (Option Int)) : DEnv → Py D := fun ρ => Py.bnd (fa ρ) fun x => Py.bnd (fl ρ) fun lo => Py.bnd (fh ρ) fun hi => slD x lo hi
theorem cutV_whole {vs : List V} {lo hi : Option Int} (h : HT.sIx vs.length 0 lo = 0 ∧ HT.sIx vs.length vs.length hi = vs.length) : cutV vs lo hi = vs := by
  unfold cutV
  rw [h.1, h.2, List.drop_zero, Nat.sub_zero, List.take_length]
theorem cutD_whole {vs : List D} {lo hi : Option Int} (h : HT.sIx vs.length 0 lo = 0 ∧ HT.sIx vs.length vs.length hi = vs.length) : cutD vs lo hi = vs := by
  unfold cutD
  rw [h.1, h.2, List.drop_zero, Nat.sub_zero, List.take_length]
theorem de_sl {e : Expr} {f : DEnv → Py D} {lo hi : Option Expr} {fl fh : DEnv → Py (Option Int)} {tl th : TO} {p2 : Pos} (he : DE C e f) (hl : DOp2 C lo fl tl) (hh : DOp2 C hi fh th) : DE C (.Subscript e (.Slice lo hi none p2) pos) (eSl f fl fh) := ⟨fun {g ρ M σ H} Q R p => by
  refine wpe (pe_slice (sl_list.or (sl_tupA.or sl_str)) self_e hl.po hh.po) (he.then_ R p fun v d M1 H1 g1 l1 R1 r1 p1 => hl.run R1 p1 fun o M2 H2 g2 l2 R2 p2 => hh.run R2 p2 fun u M3 H3 g3 l3 R3 p3 => ?_)
  have r3 := r1.mono (l2.trans l3)
  have L := (l1.trans l2).trans l3
  have lst : ∀ {d : D}, Rep C.X.K g3 v d → Post (Py.bnd (litems d) (fun xs => Py.ret (.lst (cutD xs o u))) M3) (QV C g ρ σ Q) (C.We ρ) → rSlL C.X.K v o u H3 Q := by
    intro d r3 p3
    obtain ⟨a', vs, ds, ea, hs, t, q⟩ := litems_post R3.h r3 (post_bnd.mp p3)
    exact ⟨a', vs, ea, hs, fun p hp => QV.lay (QV.later (g' := g3) q L) R3 hp (rep_lst_new (t.cut o u) (R3.h.fnone hp))⟩
  cases d with
  | tup xs =>
    right; left
    cases r3 with
    | tup s t =>
      refine ⟨_, _, rfl, .of (R3.h.frz _ _ s), fun w' => ?_, fun w' p hp => ?_⟩
      · refine QV.here (QV.later (g' := g3) p3 L) R3 ?_
        rw [t.length] at w'
        rw [cutD_whole w']
        exact .tup s t
      · exact QV.lay (QV.later (g' := g3) p3 L) R3 hp (rep_tup_new (t.cut o u) (R3.h.fnone hp))
  | str z =>
    right; right
    obtain ⟨hz, q⟩ := post_chk.mp p3
    exact ⟨z, rep_str r3, hz, QV.here (QV.later (g' := g3) q L) R3 (.str _)⟩
  | lst xs => exact .inl (lst r3 p3)
  | ro xs => exact .inl (lst r3 p3)
  | loc n => exact .inl (lst r3 p3)
  | _ => exact p3.elim⟩
end
end L3
set_option Elab.async false
set_option linter.all false
set_option maxRecDepth 100000
set_option autoImplicit false
namespace L3
open PySem PySem.Spec L2
open PyProof.Rows hiding St

/-- what may not raise -/
def noX {α : Type} (m : Py α) : Py α := fun M => match m M with
  | .exc _ _ => .bad
  | o => o
theorem noX_post {α : Type} {m : Py α} {M : Store} {q : α → Store → Prop} {E : Exn → Store → Prop} (p : Post (noX m M) q E) : Post (m M) q fun _ _ => False := by
  unfold noX at p
  cases h : m M with
  | ok a M' => rw [h] at p; exact p
  | exc e M' => rw [h] at p; exact p.elim
  | bad => rw [h] at p; exact p.elim
/-! ### targets -/
/-- t: what the layer below asks; vs: the places that it writes -/
structure DG (C : DX) (vs : List Nat) (tg : Expr) (f : D → DEnv → Py DEnv) (t : TG) : Prop where
  pg : PG C.X tg t
  run : ∀ {g : G} {ρ : DEnv} {M : Store} {σ : St} {H : Hp} {v : V} {d : D} (Q : St → Hp → Prop), Rl C g ρ M σ H → Rep C.X.K g v d →
    Post (f d ρ M) (fun ρ' M' => ∀ σ' H' g', g.le g' → Rl C g' ρ' M' σ' H' → L2.wipe σ' vs = L2.wipe σ vs → Q σ' H') (C.We ρ) → t v σ H Q
structure DGs (C : DX) (vs : List Nat) (tgs : List Expr) (f : List D → DEnv → Py DEnv) (t : TGs) : Prop where
  pg : PGs C.X tgs t
  run : ∀ {g : G} {ρ : DEnv} {M : Store} {σ : St} {H : Hp} {xs : List V} {ds : List D} (Q : St → Hp → Prop), Rl C g ρ M σ H → Reps C.X.K g xs ds →
    Post (f ds ρ M) (fun ρ' M' => ∀ σ' H' g', g.le g' → Rl C g' ρ' M' σ' H' → L2.wipe σ' vs = L2.wipe σ vs → Q σ' H') (fun _ _ => False) → t xs σ H Q
def gSet (i : Nat) : D → DEnv → Py DEnv := fun d ρ => Py.ret (ρ.set i (some d))
def gsNil : List D → DEnv → Py DEnv := fun ds ρ => match ds with
  | [] => Py.ret ρ
  | _ => Py.bad
def gsCons (f : D → DEnv → Py DEnv) (r : List D → DEnv → Py DEnv) : List D → DEnv → Py DEnv := fun ds ρ => match ds with
  | [] => Py.bad
  | d :: ds => Py.bnd (f d ρ) fun ρ' => r ds ρ'
def gUnp (n : Nat) (f : List D → DEnv → Py DEnv) : D → DEnv → Py DEnv := fun d ρ => match d with
  | .tup xs => Py.chk (xs.length = n) (noX (f xs ρ))
  | _ => Py.bad
section
variable {C : DX} {pos : Pos}
theorem Rl.set {g : G} {ρ : DEnv} {M : Store} {σ : St} {H : Hp} (R : Rl C g ρ M σ H) (i : Nat) {v : V} {d : D} (r : Rep C.X.K g v d) : Rl C g (ρ.set i (some d)) M (σ.set i (some v)) H := ⟨R.b, R.h, R.e.set i r⟩
variable {vs : List Nat}
theorem dg_name {i : Nat} {x : Str} (hN : C.X.N.Nodup) (hi : C.X.N[i]? = some x := by rfl) (hx : Loc C.X.env.scope x := by first | exact Or.inl rfl | exact Or.inr rfl) (hf : C.X.fn x = true ∨ C.X.env.scope.names.lookup x = some .local := by first | exact .inl rfl | exact .inr rfl) (hv : i ∈ vs := by decide) : DG C vs (.Name x pos) (gSet i) (gName i) :=
  ⟨pg_name hN hi hx hf, fun {g ρ M σ H v d} Q R r p => p _ _ g (G.le.refl g) (R.set i r) (wipe_set hv)⟩
theorem dgs_nil : DGs C vs [] gsNil gNil := ⟨pgs_nil, fun {g ρ M σ H xs ds} Q R r p => by
  cases r with
  | nil => exact ⟨rfl, p _ _ g (G.le.refl g) R rfl⟩
  | cons a b => exact p.elim⟩
theorem dgs_cons {e : Expr} {es : List Expr} {f : D → DEnv → Py DEnv} {r : List D → DEnv → Py DEnv} {t : TG} {u : TGs} (h1 : DG C vs e f t) (h2 : DGs C vs es r u)
    (hs : (assignEach (e :: es) C.X.env).map (·.2) = assign e C.X.env :: (assignEach es C.X.env).map (·.2) := by rfl) : DGs C vs (e :: es) (gsCons f r) (gCons t u) :=
  ⟨pgs_cons h1.pg h2.pg hs, fun {g ρ M σ H xs ds} Q R rr p => by
    cases rr with
    | nil => exact p.elim
    | cons a b =>
      refine ⟨_, _, rfl, h1.run _ R a ((post_bnd.mp p).mono (fun ρ' M' p' σ' H' g' l R' w => h2.run _ R' (b.mono l) (p'.imp fun ρ'' M'' q σ'' H'' g'' l' R'' w' => q σ'' H'' g'' (l.trans l') R'' (w'.trans w))) fun _ _ z => z.elim)⟩⟩
theorem dg_tup {es : List Expr} {K : PySem.W.Frag} {k n : Nat} {f : List D → DEnv → Py DEnv} {t : TGs} (hc : C.X.calm = true) (h : DGs C vs es f t) (hn : (assignEach es C.X.env).length = n := by rfl) (hst : (assignEach es C.X.env).findIdx? (·.1) = none := by rfl) (hK : C.X.K = K := by rfl) : DG C vs (.Tuple es k pos) (gUnp n f) (gTup K n t) := hK ▸
  ⟨pg_tup hc h.pg hn hst, fun {g ρ M σ H v d} Q R r p => by
    cases r with
    | @tup a xs ds s q =>
      obtain ⟨hl, p'⟩ := post_chk.mp p
      exact ⟨a, xs, rfl, .of (R.h.frz _ _ s), by rw [q.length]; exact hl, h.run Q R q (noX_post p')⟩
    | _ => exact p.elim⟩
end

/-! ### what is walked -/
structure Wk where
  ds : List D
  /-- what must stand while it is walked -/
  ok : Store → Prop
structure WalkD (K : PySem.W.Frag) (g : G) (w : Wk) (J : It) (Gd : Hp → Prop) (Y : Nat → Hp → V → Hp → Prop) : Prop where
  wk : Walk J w.ds.length Gd Y
  ok : ∀ {g' : G} {M : Store} {H : Hp}, g.sub g' → RelH K g' M H → w.ok M → Gd H
  it : ∀ {g' : G} {M : Store} {H H' : Hp} {i : Nat} {x : V}, g.sub g' → RelH K g' M H → w.ok M → Y i H x H' → ∃ d g'', w.ds[i]? = some d ∧ g'.le g'' ∧ RelH K g'' M H' ∧ Rep K g'' x d
structure DI (C : DX) (tg iter : Expr) (f : DEnv → Py Wk) : Prop where
  run : ∃ wi : TI, PI C.X tg iter wi ∧ ∀ {g : G} {ρ : DEnv} {M : Store} {σ : St} {H : Hp} (R : It → Hp → Prop), Rl C g ρ M σ H →
    Post (f ρ M) (fun w M' => ∀ J H' g' Gd Y, g.le g' → Rl C g' ρ M' σ H' → WalkD C.X.K g' w J Gd Y → R J H') (C.We ρ) → wi σ H R
/-- the items of a list or a tuple; a list that changes must stand as it is -/
def wkOf (d : D) : Py Wk := match d with
  | .loc n => fun M => match M[n]? with
    | some (some (.lst xs)) => .ok ⟨xs, fun M' => M'[n]? = some (some (.lst xs))⟩ M
    | _ => .bad
  | d => Py.bnd (items d) fun xs => Py.ret ⟨xs, fun _ => True⟩
def wkL (d : D) : Py Wk := match d with
  | .tup _ => Py.bad
  | d => wkOf d
def wkT (d : D) : Py Wk := match d with
  | .tup xs => Py.ret ⟨xs, fun _ => True⟩
  | _ => Py.bad
def iSeq (wk : D → Py Wk) (f : DEnv → Py D) : DEnv → Py Wk := fun ρ => Py.bnd (f ρ) wk
theorem wkL_post {K : PySem.W.Frag} {g : G} {M : Store} {H : Hp} {v : V} {d : D} {q : Wk → Store → Prop} {E : Exn → Store → Prop} (R : RelH K g M H) (r : Rep K g v d) (p : Post (wkL d M) q E) :
    ∃ a vs w, v = .ref a ∧ SqL K H a vs ∧ Reps K g vs w.ds ∧ q w M ∧ ∀ {g' : G} {M' : Store} {H' : Hp}, g.sub g' → RelH K g' M' H' → w.ok M' → ∃ vs', SqL K H' a vs' ∧ Reps K g' vs' w.ds := by
  cases r with
  | tup s t => exact p.elim
  | lst s t => exact ⟨_, _, _, rfl, .of (R.frz _ _ s), t, p, fun l R' _ => ⟨_, .of (R'.frz _ _ (l.F _ _ s)), t.gro l⟩⟩
  | ro s t => exact ⟨_, _, _, rfl, sqL_mono R.frz s, t, p, fun l R' _ => ⟨_, sqL_mono R'.frz (sqL_mono l.F s), t.gro l⟩⟩
  | @loc n a e1 =>
    have p' : Post ((match M[n]? with | some (some (.lst xs)) => .ok ⟨xs, fun M' => M'[n]? = some (some (.lst xs))⟩ M | _ => .bad) : Out Wk) q E := p
    split at p'
    · rename_i xs e
      obtain ⟨a', vs, ea, e2, e4, e5⟩ := loc_lst R (.loc e1) e
      refine ⟨a', vs, _, ea, .of e4, e5, p', fun {g' M' H'} l R' ok => ?_⟩
      obtain ⟨r, hr⟩ := l.io
      have e6 : g'.io[n]? = some a' := by
        rw [hr, List.getElem?_append_left (List.getElem?_eq_some_iff.mp e2).1]
        exact e2
      have ok' : M'[n]? = some (some (.lst xs)) := ok
      obtain ⟨a2, vs2, ea2, e7, e8, e9⟩ := loc_lst R' (.loc e6) ok'
      cases ea2
      exact ⟨vs2, .of e8, e9⟩
    · exact p'.elim
  | _ => exact p.elim
/-- over a list, as it stands at each turn -/
theorem walkD_list {K : PySem.W.Frag} {g : G} {w : Wk} {a : Addr} (h : ∀ {g' : G} {M' : Store} {H' : Hp}, g.sub g' → RelH K g' M' H' → w.ok M' → ∃ vs', SqL K H' a vs' ∧ Reps K g' vs' w.ds) :
    WalkD K g w (Itl K a) (fun H => ∃ vs, SqL K H a vs ∧ vs.length = w.ds.length) (fun i H x H' => H' = H ∧ ∀ vs, SqL K H a vs → vs[i]? = some x) where
  wk := ⟨fun i H hi ⟨vs, q, e⟩ => ⟨vs, vs[i]'(by omega), q, by simp⟩, fun H ⟨vs, q, e⟩ => ⟨vs, q, by omega⟩, fun i H x H' hi _ y => y⟩
  ok := fun l R o => let ⟨vs, q, r⟩ := h l R o; ⟨vs, q, r.length⟩
  it := fun {g' M H H' i x} l R o y => by
    obtain ⟨vs, q, r⟩ := h l R o
    obtain ⟨rfl, y⟩ := y
    obtain ⟨d, e1, e2⟩ := r.getV (y vs q)
    exact ⟨d, g', e1, G.le.refl g', R, e2⟩
theorem walkD_tup {K : PySem.W.Frag} {g : G} {a : Addr} {vs : List V} {ds : List D} {ok : Store → Prop} (s : g.F a = some (.tup vs)) (t : Reps K g vs ds) :
    WalkD K g ⟨ds, ok⟩ (Itt K a) (fun H => SqT K H a vs) (YAt vs) where
  wk := by
    show Walk _ ds.length _ _
    rw [← t.length]
    exact walk_tup
  ok := fun l R _ => .of (R.frz _ _ (l.F _ _ s))
  it := fun {g' M H H' i x} l R o y => by
    obtain ⟨rfl, y⟩ := y
    obtain ⟨d, e1, e2⟩ := (t.gro l).getV y
    exact ⟨d, g', e1, G.le.refl g', R, e2⟩
section
variable {C : DX} {pos : Pos} {tg e : Expr} {f : DEnv → Py D}
theorem di_list (h : DE C e f) : DI C tg e (iSeq wkL f) := ⟨_, pi_list self_e, fun {g ρ M σ H} R Rr p => by
  refine h.then_ Rr p fun v d M1 H1 g1 l1 R1 r1 p1 => ?_
  obtain ⟨a, vs, w, rfl, q1, q2, q3, q4⟩ := wkL_post R1.h r1 p1
  exact ⟨a, rfl, ⟨vs, q1⟩, q3 _ H1 g1 _ _ l1 R1 (walkD_list q4)⟩⟩
theorem di_tup (h : DE C e f) : DI C tg e (iSeq wkT f) := ⟨_, pi_tup self_e, fun {g ρ M σ H} R Rr p => by
  refine h.then_ Rr p fun v d M1 H1 g1 l1 R1 r1 p1 => ?_
  cases r1 with
  | @tup a vs ds s t => exact ⟨a, rfl, ⟨vs, .of (R1.h.frz _ _ s)⟩, Post.imp (Q := _) (E := C.We ρ) (o := Out.ok (⟨ds, fun _ => True⟩ : Wk) M1) p1 (fun _ _ z => z) _ H1 g1 _ _ l1 R1 (walkD_tup s t)⟩
  | _ => exact p1.elim⟩
def rngD (lo hi : Int) : List D := (List.range (hi - lo).toNat).map fun i => .int (lo + (i : Nat))
theorem rngD_get {lo hi : Int} {i : Nat} (h : i < (hi - lo).toNat) : (rngD lo hi)[i]? = some (.int (lo + (i : Nat))) := by
  unfold rngD
  rw [List.getElem?_map, List.getElem?_range h]
  rfl
theorem rngD_length {lo hi : Int} : (rngD lo hi).length = (hi - lo).toNat := by
  unfold rngD
  rw [List.length_map, List.length_range]
theorem walkD_range {K : PySem.W.Frag} {g : G} {lo hi : Int} {ok : Store → Prop} : WalkD K g ⟨rngD lo hi, ok⟩ (Itr lo (hi - lo).toNat) (fun _ => True) (fun i H x H' => i < (hi - lo).toNat ∧ H' = H ∧ x = .int (lo + i)) where
  wk := by
    show Walk _ (rngD lo hi).length _ _
    rw [rngD_length]
    exact ⟨fun _ _ hi _ => hi, fun _ _ => Nat.le_refl _, fun _ _ _ _ hi _ y => ⟨hi, y⟩⟩
  ok := fun _ _ _ => trivial
  it := fun {g' M H H' i x} l R o y => by
    obtain ⟨hi, rfl, rfl⟩ := y
    exact ⟨_, g', rngD_get hi, G.le.refl g', R, .int _⟩
def rngW1 : List D → Py Wk
  | [.int j] => Py.chk (-(2 ^ 62) ≤ j ∧ j < 2 ^ 62) (Py.ret ⟨rngD 0 j, fun _ => True⟩)
  | _ => Py.bad
def rngW2 : List D → Py Wk
  | [.int i, .int j] => Py.chk (-(2 ^ 62) ≤ i ∧ i < 2 ^ 62 ∧ -(2 ^ 62) ≤ j ∧ j < 2 ^ 62) (Py.ret ⟨rngD i j, fun _ => True⟩)
  | _ => Py.bad
theorem rngW1_post {ds : List D} {M : Store} {q : Wk → Store → Prop} {E : Exn → Store → Prop} (p : Post (rngW1 ds M) q E) : ∃ j, ds = [.int j] ∧ (-(2 ^ 62) ≤ j ∧ j < 2 ^ 62) ∧ q ⟨rngD 0 j, fun _ => True⟩ M := by
  unfold rngW1 at p
  split at p
  · obtain ⟨h, q⟩ := post_chk.mp p
    exact ⟨_, rfl, h, q⟩
  · exact p.elim
theorem rngW2_post {ds : List D} {M : Store} {q : Wk → Store → Prop} {E : Exn → Store → Prop} (p : Post (rngW2 ds M) q E) : ∃ i j, ds = [.int i, .int j] ∧ (-(2 ^ 62) ≤ i ∧ i < 2 ^ 62 ∧ -(2 ^ 62) ≤ j ∧ j < 2 ^ 62) ∧ q ⟨rngD i j, fun _ => True⟩ M := by
  unfold rngW2 at p
  split at p
  · obtain ⟨h, q⟩ := post_chk.mp p
    exact ⟨_, _, rfl, h, q⟩
  · exact p.elim
def iRng1D (ff : DEnv → Py (List D)) : DEnv → Py Wk := fun ρ => Py.bnd (ff ρ) rngW1
def iRng2D (ff : DEnv → Py (List D)) : DEnv → Py Wk := fun ρ => Py.bnd (ff ρ) rngW2
variable {a b : Expr} {ff : DEnv → Py (List D)} {p : Pos}
theorem di_rng1 (hm : C.X.mg "range" = none) (ha : DA C [a] ff) (hg : Gl C.X "range" := by rfl) (hs : starEach [a] C.X.env = [(false, eval a C.X.env)] := by rfl) : DI C tg (.Call (.Name "range" p) [a] [] pos) (iRng1D ff) :=
  ⟨_, pi_range1 hg hm self_a hs, fun {g ρ M σ H} R Rr p => by
    refine ha.then_ Rr p fun vs ds M1 H1 g1 l1 R1 r1 p1 => ?_
    obtain ⟨j, rfl, ⟨b1, b2⟩, q⟩ := rngW1_post p1
    obtain ⟨v, rfl, r⟩ := r1.one
    have W := walkD_range (K := C.X.K) (g := g1) (lo := 0) (hi := j) (ok := fun _ => True)
    rw [Int.sub_zero] at W
    exact ⟨j, by rw [rep_int r], b1, b2, q _ H1 g1 _ _ l1 R1 W⟩⟩
theorem di_rng2 (hm : C.X.mg "range" = none) (ha : DA C [a, b] ff) (hg : Gl C.X "range" := by rfl) (hs : starEach [a, b] C.X.env = [(false, eval a C.X.env), (false, eval b C.X.env)] := by rfl) (hs2 : starEach [b] C.X.env = [(false, eval b C.X.env)] := by rfl) : DI C tg (.Call (.Name "range" p) [a, b] [] pos) (iRng2D ff) :=
  ⟨_, pi_range2 hg hm self_a hs hs2, fun {g ρ M σ H} R Rr p => by
    refine ha.then_ Rr p fun vs ds M1 H1 g1 l1 R1 r1 p1 => ?_
    obtain ⟨i, j, rfl, ⟨b1, b2, b3, b4⟩, q⟩ := rngW2_post p1
    obtain ⟨v, w', rfl, r, r'⟩ := r1.two
    exact ⟨i, j, by rw [rep_int r, rep_int r'], ⟨b1, b2, b3, b4⟩, q _ H1 g1 _ _ l1 R1 walkD_range⟩⟩
/-- pairs: enumerate, zip -/
theorem walkD_pairs {K : PySem.W.Frag} {g : G} {w : Wk} {J : It} {Gd : Hp → Prop} {Y : Nat → Hp → V → Hp → Prop} (wk : Walk J w.ds.length Gd Y) (ok : ∀ {g' : G} {M : Store} {H : Hp}, g.sub g' → RelH K g' M H → w.ok M → Gd H)
    (it : ∀ {g' : G} {M : Store} {H H' : Hp} {i : Nat} {x : V}, g.sub g' → RelH K g' M H → w.ok M → Y i H x H' → ∃ T v u a b, x = .ref T ∧ H T = none ∧ H' = upd H T (.tup [v, u]) ∧ w.ds[i]? = some (.tup [a, b]) ∧ Rep K g' v a ∧ Rep K g' u b) : WalkD K g w J Gd Y where
  wk := wk
  ok := ok
  it := fun {g' M H H' i x} l R o y => by
    obtain ⟨T, v, u, a, b, rfl, hT, rfl, e, r1, r2⟩ := it l R o y
    exact ⟨_, g'.add T (.tup [v, u]), e, G.le_add (R.fnone hT), R.laid hT, rep_tup_new (.cons r1 (.cons r2 .nil)) (R.fnone hT)⟩
def enumD (n : Nat) : List D → List D
  | [] => []
  | d :: ds => .tup [.int n, d] :: enumD (n + 1) ds
theorem enumD_length : ∀ (ds : List D) (n : Nat), (enumD n ds).length = ds.length
  | [], _ => rfl
  | _ :: ds, n => congrArg (· + 1) (enumD_length ds (n + 1))
theorem enumD_get : ∀ (ds : List D) (n i : Nat) (d : D), ds[i]? = some d → (enumD n ds)[i]? = some (.tup [.int ((n + i : Nat) : Int), d])
  | [], _, _, _, h => by simp at h
  | e :: ds, n, 0, d, h => by
    have h' : some e = some d := by simpa using h
    cases h'
    rfl
  | e :: ds, n, i + 1, d, h => by
    have h' : ds[i]? = some d := by simpa using h
    have := enumD_get ds (n + 1) i d h'
    show (enumD (n + 1) ds)[i]? = _
    rw [this]
    congr 3
    have : n + 1 + i = n + (i + 1) := by omega
    rw [this]
def wkEnum (wk : D → Py Wk) : List D → Py Wk
  | [d] => Py.bnd (wk d) fun w => Py.ret ⟨enumD 0 w.ds, w.ok⟩
  | _ => Py.bad
theorem wkEnum_post {wk : D → Py Wk} {ds : List D} {M : Store} {q : Wk → Store → Prop} {E : Exn → Store → Prop} (p : Post (wkEnum wk ds M) q E) : ∃ d, ds = [d] ∧ Post (wk d M) (fun w M' => q ⟨enumD 0 w.ds, w.ok⟩ M') E := by
  unfold wkEnum at p
  split at p
  · exact ⟨_, rfl, post_bnd.mp p⟩
  · exact p.elim
def iEnumD (wk : D → Py Wk) (ff : DEnv → Py (List D)) : DEnv → Py Wk := fun ρ => Py.bnd (ff ρ) (wkEnum wk)
theorem di_enum {tpos : Pos} {elts : List Expr} {kk : Nat} (hm : C.X.mg "enumerate" = none) (ha : DA C [a] ff) (hg : Gl C.X "enumerate" := by rfl) (hs : starEach [a] C.X.env = [(false, eval a C.X.env)] := by rfl) : DI C (.Tuple elts kk tpos) (.Call (.Name "enumerate" p) [a] [] pos) (iEnumD wkL ff) :=
  ⟨_, pi_enum hg hm self_a hs, fun {g ρ M σ H} R Rr p => by
    refine ha.then_ Rr p fun vs ds M1 H1 g1 l1 R1 r1 p1 => ?_
    obtain ⟨d, rfl, p2⟩ := wkEnum_post p1
    obtain ⟨v, rfl, r⟩ := r1.one
    obtain ⟨a', us, w, rfl, q1, q2, q3, q4⟩ := wkL_post R1.h r p2
    refine ⟨a', us, rfl, q1, q3 _ H1 g1 (fun H => ∃ vs, SqL C.X.K H a' vs ∧ vs.length = w.ds.length) (fun i H v H' => ∃ T x, v = .ref T ∧ H T = none ∧ H' = upd H T (.tup [.int (i : Nat), x]) ∧ ∀ xs, SqL C.X.K H a' xs → xs[i]? = some x) l1 R1 (walkD_pairs ?_ ?_ ?_)⟩
    · show Walk _ (enumD 0 w.ds).length _ _
      rw [enumD_length]
      exact ⟨fun i H hi ⟨vs, q, e⟩ => ⟨vs, vs[i]'(by omega), q, by simp⟩, fun H ⟨vs, q, e⟩ => ⟨vs, q, by omega⟩, fun i H x H' hi _ y => y⟩
    · intro g' M H l R o
      obtain ⟨vs, q, r⟩ := q4 l R o
      exact ⟨vs, q, r.length⟩
    · intro g' M H H' i x l R o y
      obtain ⟨T, x', rfl, hT, rfl, h⟩ := y
      obtain ⟨vs, q, r⟩ := q4 l R o
      obtain ⟨d', e1, e2⟩ := r.getV (h vs q)
      have e3 := enumD_get w.ds 0 i d' e1
      rw [Nat.zero_add] at e3
      exact ⟨T, _, x', .int (i : Nat), d', rfl, hT, rfl, e3, .int _, e2⟩⟩
end

/-! ### for -/
open Classical in
noncomputable def okM {α : Type} (ok : Store → Prop) (k : Py α) : Py α := fun M => if ok M then k M else .bad
theorem okM_post {α : Type} {ok : Store → Prop} {k : Py α} {M : Store} {q : α → Store → Prop} {E : Exn → Store → Prop} (p : Post (okM ok k M) q E) : ok M ∧ Post (k M) q E := by
  unfold okM at p
  split at p
  · rename_i h; exact ⟨h, p⟩
  · exact p.elim
/-- a loop's turns -/
noncomputable def forD (ok : Store → Prop) (tg : D → DEnv → Py DEnv) (body : DEnv → Py Fl) : List D → DEnv → Py Fl
  | [], ρ => okM ok (Py.ret (.nx ρ))
  | d :: ds, ρ => okM ok (Py.bnd (tg d ρ) fun ρ1 => Py.bnd (body ρ1) fun r => match r with
    | .nx ρ' => forD ok tg body ds ρ'
    | .ct ρ' => forD ok tg body ds ρ'
    | .bk ρ' => Py.ret (.nx ρ')
    | .rt v => Py.ret (.rt v))
noncomputable def sFor (it : DEnv → Py Wk) (tg : D → DEnv → Py DEnv) (body : DEnv → Py Fl) : DEnv → Py Fl := fun ρ => Py.bnd (it ρ) fun w => forD w.ok tg body w.ds ρ
section
variable {C : DX} {pos : Pos} {tg iter : Expr} {body : List Stmt} {it : DEnv → Py Wk} {ft : D → DEnv → Py DEnv} {fb : DEnv → Py Fl}
theorem ds_for (hp : PassesOwn (model C.X.prog C.X.w) C.X.A C.X.env C.X.xe) (hc : C.X.calm = true) (ev : C.Even) {vs : List Nat} {t : TG} (hi : DI C tg iter it) (hg : DG C vs tg ft t) (hb : DSs C body fb)
    (hs : ∀ x, foldedSetIterable iter C.X.env x = pure x := by intro _; rfl) : DS C (.For tg iter body [] pos) (sFor it ft fb) := by
  obtain ⟨wi, pi, hwi⟩ := hi.run
  refine ⟨fun {g ρ M σ H} E R p => wps (ps_for hp hc pi hg.pg self_ss hs) ?_⟩
  refine hwi _ R ((post_bnd.mp p).imp fun w M1 p1 J H1 g1 Gd Y l1 R1 WD => ?_)
  refine for_it WD.wk (fun i σ' H' => ∃ g' ρ' M', g1.le g' ∧ Rl C g' ρ' M' σ' H' ∧ Post (forD w.ok ft fb (w.ds.drop i) ρ' M') (QS C g E) (C.We ρ)) ⟨g1, ρ, M1, G.le.refl g1, R1, by rw [List.drop_zero]; exact p1⟩ ?_ ?_ ?_
  · rintro i σ' H' hi ⟨g', ρ', M', l', R', p'⟩
    have : w.ok M' := by
      cases e : w.ds.drop i with
      | nil => rw [e] at p'; exact (okM_post p').1
      | cons d ds => rw [e] at p'; exact (okM_post p').1
    exact WD.ok l'.sub R'.h this
  · rintro i x σ' H' H2 hi ⟨g', ρ', M', l', R', p'⟩ y
    have e : w.ds.drop i = w.ds[i] :: w.ds.drop (i + 1) := List.drop_eq_getElem_cons hi
    rw [e] at p'
    obtain ⟨ok, p2⟩ := okM_post p'
    obtain ⟨d, g2, e1, l2, R2, r⟩ := WD.it l'.sub R'.h ok y
    rw [List.getElem?_eq_getElem hi] at e1
    cases e1
    have Rl2 : Rl C g2 ρ' M' σ' H2 := R'.next l2 R2
    have L2 : g.le g2 := (l1.trans l').trans l2
    refine hg.run _ Rl2 r (((post_bnd.mp p2).mono (fun ρ3 M3 p3 σ3 H3 g3 l3 R3 _ => ?_) fun e' M'' z => ev _ _ _ _ z))
    refine hb.run _ R3 ((post_bnd.mp p3).mono (fun r M4 p4 => ?_) fun e' M'' z => ev _ _ _ _ z)
    cases r with
    | nx ρ4 => exact fun σ4 H4 g4 l4 R4 => ⟨g4, ρ4, M4, ((l'.trans l2).trans l3).trans l4, R4, p4⟩
    | ct ρ4 => exact fun σ4 H4 g4 l4 R4 => ⟨g4, ρ4, M4, ((l'.trans l2).trans l3).trans l4, R4, p4⟩
    | bk ρ4 => exact fun σ4 H4 g4 l4 R4 => p4 σ4 H4 g4 ((L2.trans l3).trans l4) R4
    | rt v => exact fun v4 H4 g4 l4 b4 R4 r4 => p4 v4 H4 g4 ((L2.trans l3).trans l4) b4 R4 r4
  · rintro σ' H' ⟨g', ρ', M', l', R', p'⟩
    rw [List.drop_length] at p'
    obtain ⟨_, p2⟩ := okM_post p'
    exact p2 σ' H' g' (l1.trans l') R'
end
end L3
set_option Elab.async false
set_option linter.all false
set_option maxRecDepth 100000
set_option autoImplicit false
namespace L3
open PySem PySem.Spec L2
open PyProof.Rows hiding St

/-! ### comprehensions -/
noncomputable def lcD (ok : Store → Prop) (tg : D → DEnv → Py DEnv) (tt : DEnv → Py Bool) (fe : DEnv → Py D) (ρ : DEnv) : List D → List D → Py (List D)
  | [], acc => okM ok (Py.ret acc)
  | d :: ds, acc => okM ok (Py.bnd (tg d ρ) fun ρ1 => Py.bnd (tt ρ1) fun b => if b then Py.bnd (fe ρ1) fun y => Py.chk (acc.length < sizeLine) (lcD ok tg tt fe ρ ds (acc ++ [y])) else lcD ok tg tt fe ρ ds acc)
noncomputable def lcAll (vs : List Nat) (it : DEnv → Py Wk) (tg : D → DEnv → Py DEnv) (tt : DEnv → Py Bool) (fe : DEnv → Py D) : DEnv → Py (List D) := fun ρ => Py.bnd (it ρ) fun w => noX (lcD w.ok tg tt fe (wipeD ρ vs) w.ds [])
/-- a new list that is never changed -/
noncomputable def eLc (vs : List Nat) (it : DEnv → Py Wk) (tg : D → DEnv → Py DEnv) (tt : DEnv → Py Bool) (fe : DEnv → Py D) : DEnv → Py D := fun ρ => Py.bnd (lcAll vs it tg tt fe ρ) fun ds => Py.ret (.lst ds)
/-- one that changes -/
noncomputable def eLcN (vs : List Nat) (it : DEnv → Py Wk) (tg : D → DEnv → Py DEnv) (tt : DEnv → Py Bool) (fe : DEnv → Py D) : DEnv → Py D := fun ρ => Py.bnd (lcAll vs it tg tt fe ρ) fun ds => alloc (.lst ds)
def tYesD : DEnv → Py Bool := fun _ => Py.ret true
theorem wipe_wipe {σ : St} {l : List Nat} : L2.wipe (L2.wipe σ l) l = L2.wipe σ l := by
  refine List.ext_getElem? fun j => ?_
  rw [wipe_at, wipe_at]
  by_cases hj : j ∈ l
  · rw [if_pos hj, if_pos hj]
    cases σ[j]? <;> rfl
  · rw [if_neg hj, if_neg hj]
/-- the block's context -/
abbrev DX.blk (C : DX) (scope : Scope) (B : G) (s : Shared) (H : Hp) (c : Addr) (cl : List (Str × Addr)) (fp : List Addr) : DX := ⟨C.X.blk s H scope (compEnvC scope cl c C.X.env) fp, B, fun _ _ _ => False⟩
theorem blk_even {C : DX} {scope : Scope} {B : G} {s : Shared} {H : Hp} {c : Addr} {cl : List (Str × Addr)} {fp : List Addr} : (C.blk scope B s H c cl fp).Even := fun _ _ _ _ z => z
/-- the tests of a block -/
structure DTU (C : DX) (scope : Scope) (ifs : List Expr) (tt : DEnv → Py Bool) (u : TT) : Prop where
  pt : ∀ s H c cl fp, PTs (C.X.blk s H scope (compEnvC scope cl c C.X.env) fp) ifs u
  run : ∀ {g : G} {ρ : DEnv} {M : Store} {σ : St} {H : Hp} (Q : Bool → Hp → Prop), (∀ s H0 c cl fp, Rl (C.blk scope g s H0 c cl fp) g ρ M σ H) → Post (tt ρ M) (fun d M' => ∀ H' g', g.le g' → RelH C.X.K g' M' H' → Q d H') (fun _ _ => False) → u σ H Q
section
variable {C : DX} {pos : Pos} {elt tg iter : Expr} {ifs : List Expr} {scope : Scope} {own : List (Str × Nat)} {it : DEnv → Py Wk} {ft : D → DEnv → Py DEnv} {tt : DEnv → Py Bool} {fe : DEnv → Py D} {t : TG} {u : TT}
theorem dtu_nil : DTU C scope [] tYesD tYes := ⟨fun _ _ _ _ _ => pts_nil, fun {g ρ M σ H} Q R p => p H g (G.le.refl g) (R C.X.s_0 H 0 [] []).h⟩
/-- what the elements ask, in every block -/
def eltT (X : Cx) (scope : Scope) (elt : Expr) : TE := fun σ H Q => ∀ s H0 c cl fp, WPE (X.blk s H0 scope (compEnvC scope cl c X.env) fp) elt σ H Q
def ifT (X : Cx) (scope : Scope) (c : Expr) : TT := fun σ H Q => ∀ s H0 c' cl fp, WPT (X.blk s H0 scope (compEnvC scope cl c' X.env) fp) c σ H Q
theorem dtu_one {c : Expr} {tc : DEnv → Py Bool} (h : ∀ B s H c' cl fp, DT (C.blk scope B s H c' cl fp) c tc) : DTU C scope [c] tc (ifT C.X scope c) :=
  ⟨fun s H c' cl fp => pts_one ⟨fun pins s' σ' H' Q' I h => h s H c' cl fp pins s' I⟩, fun {g ρ M σ H} Q R p s H0 c' cl fp => (h g s H0 c' cl fp).run Q (R s H0 c' cl fp) (p.mono (fun d M' q H' g' l R' => q H' g' l R'.h) fun _ _ z => z)⟩
/-- the core: what tLc asks -/
theorem lc_run (hi : DI C tg iter it) (hg : ∀ B s H c cl fp, DG (C.blk scope B s H c cl fp) (own.map (·.2)) tg ft t)
    (ht : DTU C scope ifs tt u) (he : ∀ B s H c cl fp, DE (C.blk scope B s H c cl fp) elt fe) {wi : TI}
    (hwi : ∀ {g : G} {ρ : DEnv} {M : Store} {σ : St} {H : Hp} (R : It → Hp → Prop), Rl C g ρ M σ H → Post (it ρ M) (fun w M' => ∀ J H' g' Gd Y, g.le g' → Rl C g' ρ M' σ H' → WalkD C.X.K g' w J Gd Y → R J H') (C.We ρ) → wi σ H R)
    {g : G} {ρ : DEnv} {M : Store} {σ : St} {H : Hp} {Q : VK} (R : Rl C g ρ M σ H)
    (p : Post (lcAll (own.map (·.2)) it ft tt fe ρ M) (fun ds M' => ∀ D H' g1 g' vs, g.le g1 → RelE C.X.K g1 σ ρ → C.B.le g1 → g1.sub g' → g'.P D = some (.lst vs) → g1.P D = none → (g1.F D = none) → (∀ a, a ≠ D → g1.P a = g'.P a) → RelH C.X.K g' M' H' → Reps C.X.K g' vs ds → Q (.ref D) H') (C.We ρ)) :
    tLc wi t u (eltT C.X scope elt) (own.map (·.2)) σ H Q := by
  refine hwi _ R ((post_bnd.mp p).imp fun w M1 p1 J H1 g1 Gd Y l1 R1 WD => ?_)
  intro D hD
  have gP : g1.P D = none := R1.h.pnone hD
  have gF : g1.F D = none := R1.h.fnone hD
  have eW : RelE C.X.K g1 (L2.wipe σ (own.map (·.2))) (wipeD ρ (own.map (·.2))) := R1.e.wipe _
  refine lc_it WD.wk (fun i H' => ∃ g' M' acc vs, g1.sub g' ∧ g'.P D = some (.lst vs) ∧ (∀ a, a ≠ D → g1.P a = g'.P a) ∧ RelH C.X.K g' M' H' ∧ Reps C.X.K g' vs acc ∧
    Post (lcD w.ok ft tt fe (wipeD ρ (own.map (·.2))) (w.ds.drop i) acc M') (fun ds M' => ∀ D H' g1 g' vs, g.le g1 → RelE C.X.K g1 σ ρ → C.B.le g1 → g1.sub g' → g'.P D = some (.lst vs) → g1.P D = none → (g1.F D = none) → (∀ a, a ≠ D → g1.P a = g'.P a) → RelH C.X.K g' M' H' → Reps C.X.K g' vs ds → Q (.ref D) H') (fun _ _ => False)) ?_ ?_ ?_ ?_
  · refine ⟨g1.bld D (.lst []), M1, [], [], ⟨⟨[], by simp [G.bld]⟩, fun _ _ q => q⟩, upd_same, fun a ha => ?_, R1.h.build hD, .nil, ?_⟩
    · show g1.P a = upd g1.P D _ a
      rw [upd_ne ha]
    · rw [List.drop_zero]
      exact noX_post p1
  · rintro i H' hi ⟨g', M', acc, vs, S, hP, hPn, Rh, rp, p'⟩
    have : w.ok M' := by
      cases e : w.ds.drop i with
      | nil => rw [e] at p'; exact (okM_post p').1
      | cons d ds => rw [e] at p'; exact (okM_post p').1
    exact WD.ok S Rh this
  · rintro i x H' H2 hi ⟨g', M', acc, vs, S, hP, hPn, Rh, rp, p'⟩ y
    have e : w.ds.drop i = w.ds[i] :: w.ds.drop (i + 1) := List.drop_eq_getElem_cons hi
    rw [e] at p'
    obtain ⟨ok, p2⟩ := okM_post p'
    obtain ⟨d, g2, e1, l2, R2, r⟩ := WD.it S Rh ok y
    rw [List.getElem?_eq_getElem hi] at e1
    cases e1
    have L12 : g1.sub g2 := S.trans l2.sub
    have Rb : ∀ s H0 c cl fp, Rl (C.blk scope g2 s H0 c cl fp) g2 (wipeD ρ (own.map (·.2))) M' (L2.wipe σ (own.map (·.2))) H2 := fun _ _ _ _ _ => ⟨G.le.refl g2, R2, eW.gro L12⟩
    refine (hg g2 C.X.s_0 H 0 [] []).run _ (Rb _ _ _ _ _) r ((post_bnd.mp p2).imp fun ρ1 M3 p3 σ3 H3 g3 l3 R3 hw => ⟨hw.trans wipe_wipe, ?_⟩)
    refine ht.run _ (fun _ _ _ _ _ => ⟨G.le.refl g3, R3.h, R3.e⟩) ((post_bnd.mp p3).imp fun b M4 p4 H4 g4 l4 R4 => ?_)
    have P4 : g4.P D = some (.lst vs) := by rw [l4.P, l3.P, l2.P]; exact hP
    have P4n : ∀ a, a ≠ D → g1.P a = g4.P a := fun a ha => by rw [l4.P, l3.P, l2.P]; exact hPn a ha
    have S4 : g'.le g4 := (l2.trans l3).trans l4
    cases b with
    | false =>
      rw [if_neg Bool.false_ne_true] at p4 ⊢
      exact ⟨g4, M4, acc, vs, S.trans S4.sub, P4, P4n, R4, rp.mono S4, p4⟩
    | true =>
      rw [if_pos rfl] at p4 ⊢
      intro s H0 c cl fp
      refine (he g4 s H0 c cl fp).run _ ⟨G.le.refl g4, R4, R3.e.mono l4⟩ ((post_bnd.mp p4).imp fun y M5 p5 v H5 g5 l5 R5 r5 => ?_)
      have P5 : g5.P D = some (.lst vs) := by rw [l5.P]; exact P4
      have r6 := rp.mono (S4.trans l5)
      obtain ⟨hz, p6⟩ := post_chk.mp p5
      have B5 : g5.sub (g5.bld D (.lst (vs ++ [v]))) := ⟨⟨[], by simp [G.bld]⟩, fun _ _ q => q⟩
      refine ⟨vs, (R5.h.prt _ _ P5).1, by rw [rp.length]; exact hz, g5.bld D (.lst (vs ++ [v])), M5, acc ++ [y], vs ++ [v], (S.trans (S4.trans l5).sub).trans B5, upd_same, fun a ha => ?_, R5.h.rebuild P5, (r6.append (.cons r5 .nil)).gro B5, p6⟩
      show g1.P a = upd g5.P D _ a
      rw [upd_ne ha, l5.P]
      exact P4n a ha
  · rintro H' ⟨g', M', acc, vs, S, hP, hPn, Rh, rp, p'⟩
    rw [List.drop_length] at p'
    obtain ⟨_, p2⟩ := okM_post p'
    exact p2 D H' g1 g' vs l1 R1.e R1.b S hP gP gF hPn Rh rp
theorem end_frz {g g1 g' : G} {ρ : DEnv} {M' : Store} {σ : St} {H' : Hp} {vs : List V} {ds : List D} {D : Addr} (l1 : g.le g1) (e1 : RelE C.X.K g1 σ ρ) (b1 : C.B.le g1) (S : g1.sub g') (hP : g'.P D = some (.lst vs)) (gP : g1.P D = none) (gF : g1.F D = none) (hPn : ∀ a, a ≠ D → g1.P a = g'.P a)
    (Rh : RelH C.X.K g' M' H') (rp : Reps C.X.K g' vs ds) : ∃ g2, g.le g2 ∧ Rl C g2 ρ M' σ H' ∧ Rep C.X.K g2 (.ref D) (.lst ds) := by
  have fD : g'.F D = none := (Rh.prt _ _ hP).2
  have S2 : g'.sub (g'.unb g1.P D (.lst vs)) := ⟨⟨[], by simp [G.unb]⟩, fun a o q => by
    show upd g'.F D _ a = some o
    rw [upd_ne (ne_of_none q fD)]
    exact q⟩
  have L : g1.le (g'.unb g1.P D (.lst vs)) := ⟨S.io, fun a o q => S2.F _ _ (S.F _ _ q), rfl⟩
  exact ⟨_, l1.trans L, ⟨b1.trans L, Rh.built hP gP hPn, e1.mono L⟩, .lst upd_same (rp.gro S2)⟩
theorem end_new {g g1 g' : G} {ρ : DEnv} {M' : Store} {σ : St} {H' : Hp} {vs : List V} {ds : List D} {D : Addr} (l1 : g.le g1) (e1 : RelE C.X.K g1 σ ρ) (b1 : C.B.le g1) (S : g1.sub g') (hP : g'.P D = some (.lst vs)) (gP : g1.P D = none) (gF : g1.F D = none) (hPn : ∀ a, a ≠ D → g1.P a = g'.P a)
    (Rh : RelH C.X.K g' M' H') (rp : Reps C.X.K g' vs ds) : ∃ g2, g.le g2 ∧ Rl C g2 ρ (M' ++ [some (.lst ds)]) σ H' ∧ Rep C.X.K g2 (.ref D) (.loc M'.length) := by
  have S2 : g'.sub (g'.unbL g1.P D) := ⟨⟨[D], rfl⟩, fun a o q => q⟩
  have L : g1.le (g'.unbL g1.P D) := ⟨(S.trans S2).io, fun a o q => S.F _ _ q, rfl⟩
  refine ⟨_, l1.trans L, ⟨b1.trans L, Rh.builtL hP gP hPn ⟨vs, (Rh.prt _ _ hP).1, rp⟩, e1.mono L⟩, .loc ?_⟩
  show (g'.io ++ [D])[M'.length]? = some D
  rw [← Rh.len, List.getElem?_concat_length]
structure FrOk (C : DX) (fr : List D → Py D) : Prop where
  run : ∀ {g g1 g' : G} {ρ : DEnv} {M' : Store} {σ : St} {H' : Hp} {vs : List V} {ds : List D} {D : Addr} {Q : VK} (l1 : g.le g1) (e1 : RelE C.X.K g1 σ ρ) (b1 : C.B.le g1) (S : g1.sub g') (hP : g'.P D = some (.lst vs)) (gP : g1.P D = none) (gF : g1.F D = none) (hPn : ∀ a, a ≠ D → g1.P a = g'.P a)
    (Rh : RelH C.X.K g' M' H') (rp : Reps C.X.K g' vs ds), Post (fr ds M') (QV C g ρ σ Q) (C.We ρ) → Q (.ref D) H'
theorem lc_any {fr : List D → Py D} (hfr : FrOk C fr) (hi : DI C tg iter it) (hg : ∀ B s H c cl fp, DG (C.blk scope B s H c cl fp) (own.map (·.2)) tg ft t) (ht : DTU C scope ifs tt u) (he : ∀ B s H c cl fp, DE (C.blk scope B s H c cl fp) elt fe) :
    ∃ (wi : TI) (te : TE), PI C.X tg iter wi ∧ (∀ s H c cl fp, PE (C.X.blk s H scope (compEnvC scope cl c C.X.env) fp) elt te) ∧ ∀ {Q : VK} {g : G} {ρ : DEnv} {M : Store} {σ : St} {H : Hp}, Rl C g ρ M σ H → Post (Py.bnd (lcAll (own.map (·.2)) it ft tt fe ρ) fr M) (QV C g ρ σ Q) (C.We ρ) → tLc wi t u te (own.map (·.2)) σ H Q := by
  obtain ⟨wi, pi, hwi⟩ := hi.run
  refine ⟨wi, eltT C.X scope elt, pi, fun s H c cl fp => ⟨fun pins s' σ' H' Q' I h => h s H c cl fp pins s' I⟩, fun {Q g ρ M σ H} R p => ?_⟩
  exact lc_run hi hg ht he hwi R ((post_bnd.mp p).imp fun ds M' q D H' g1 g' vs l1 e1 b1 S hP gP gF hPn Rh rp => hfr.run l1 e1 b1 S hP gP gF hPn Rh rp q)
def frF : List D → Py D := fun ds => Py.ret (.lst ds)
def frN : List D → Py D := fun ds => alloc (.lst ds)
theorem fr_f : FrOk C frF := by
  constructor
  intro g g1 g' ρ M' σ H' vs ds D Q l1 e1 b1 S hP gP gF hPn Rh rp p
  obtain ⟨g2, l2, R2, r2⟩ := end_frz l1 e1 b1 S hP gP gF hPn Rh rp
  exact p _ H' g2 l2 R2 r2
theorem fr_n : FrOk C frN := by
  constructor
  intro g g1 g' ρ M' σ H' vs ds D Q l1 e1 b1 S hP gP gF hPn Rh rp p
  obtain ⟨g2, l2, R2, r2⟩ := end_new l1 e1 b1 S hP gP gF hPn Rh rp
  exact p _ H' g2 l2 R2 r2
def sLc (i : Nat) (fr : List D → Py D) (lc : DEnv → Py (List D)) : DEnv → Py Fl := fun ρ => Py.bnd (Py.bnd (lc ρ) fr) fun d => Py.ret (.nx (ρ.set i (some d)))
def eLcA (fr : List D → Py D) (lc : DEnv → Py (List D)) : DEnv → Py D := fun ρ => Py.bnd (lc ρ) fr
theorem de_lcA {fr : List D → Py D} {vs : List Nat} (hfr : FrOk C fr) (hc : C.X.calm = true) (hN : C.X.N.Nodup) (hi : DI C tg iter it) (ok : BlkOk C.X.N C.X.env.scope scope own) (hg : ∀ B s H c cl fp, DG (C.blk scope B s H c cl fp) vs tg ft t)
    (ht : DTU C scope ifs tt u) (he : ∀ B s H c cl fp, DE (C.blk scope B s H c cl fp) elt fe) (hvs : own.map (·.2) = vs := by rfl) (hs : ∀ x, foldedSetIterable iter C.X.env x = pure x := by intro _; rfl) :
    DE C (.ListComp elt [⟨tg, iter, ifs, 0⟩] scope pos) (eLcA fr (lcAll vs it ft tt fe)) := by
  subst hvs
  obtain ⟨wi, te, pi, pe, q⟩ := lc_any hfr hi hg ht he
  exact ⟨fun {g ρ M σ H} Q R p => wpe (pe_lc hc hN pi ok (fun s H c cl fp => (hg g s H c cl fp).pg) ht.pt pe hs) (q R p)⟩
/-- y = [..] -/
theorem ds_setLcA {fr : List D → Py D} {vs : List Nat} (hfr : FrOk C fr) {i : Nat} {y : Str} {py spos : Pos} (hc : C.X.calm = true) (hN : C.X.N.Nodup) (hy : C.X.N[i]? = some y) (hyl : C.X.env.scope.names.lookup y = some .local)
    (hsw : swapsWith (.ListComp elt [⟨tg, iter, ifs, 0⟩] scope pos) (some (.Name y py)) spos.line C.X.env = pure true) (hi : DI C tg iter it) (ok : BlkOk C.X.N C.X.env.scope scope own) (hg : ∀ B s H c cl fp, DG (C.blk scope B s H c cl fp) vs tg ft t)
    (ht : DTU C scope ifs tt u) (he : ∀ B s H c cl fp, DE (C.blk scope B s H c cl fp) elt fe) (hvs : own.map (·.2) = vs := by rfl) (hs : ∀ x, foldedSetIterable iter C.X.env x = pure x := by intro _; rfl) :
    DS C (.Assign [.Name y py] (.ListComp elt [⟨tg, iter, ifs, 0⟩] scope pos) spos) (sLc i fr (lcAll vs it ft tt fe)) := by
  subst hvs
  obtain ⟨wi, te, pi, pe, q⟩ := lc_any hfr hi hg ht he
  refine ⟨fun {g ρ M σ H} E R p => wps (ps_setLc hc hN hy hyl hsw pi ok (fun s H c cl fp => (hg g s H c cl fp).pg) ht.pt pe hs) ?_⟩
  exact q R ((post_bnd.mp p).imp fun d M' p' v H' g' l R' r => p' _ H' g' l (R'.set i r))
end
end L3
set_option Elab.async false
set_option linter.all false
set_option maxRecDepth 100000
set_option autoImplicit false
namespace L3
open PySem PySem.Spec L2
open PyProof.Rows hiding St

/-! ### built-in functions -/
def DCl (C : DX) (f : Value) (op : List D → Py D) : Prop := ∃ r, CallR C.X f r ∧
  ∀ {g : G} {ρ : DEnv} {M : Store} {σ : St} {H : Hp} {xs : List V} {ds : List D} (Q : VK), Rl C g ρ M σ H → Reps C.X.K g xs ds → Post (op ds M) (QV C g ρ σ Q) (C.We ρ) → r xs H Q
def eCall (op : List D → Py D) (ff : DEnv → Py (List D)) : DEnv → Py D := fun ρ => Py.bnd (ff ρ) op
section
variable {C : DX} {x : Str} {p pos : Pos} {e : Expr} {es : List Expr} {ff : DEnv → Py (List D)} {op : List D → Py D} {id T : String}
theorem de_callB (hc : DCl C (.builtin id) op) (hm : C.X.mg x = none) (ha : DA C (e :: es) ff) (hv : bootBuiltins x = some (.builtin id) := by decide +kernel) (hg : Gl C.X x := by rfl) (hn : x ≠ "__name__" := by decide) (hdb : (x == ("__debug__" : Str)) = false := by decide)
    (he : starEach (e :: es) C.X.env = (false, eval e C.X.env) :: starEach es C.X.env := by rfl) (hpl : (backTo pos (starEach es C.X.env)).any (·.1) = false := by rfl) : DE C (.Call (.Name x p) (e :: es) [] pos) (eCall op ff) := by
  obtain ⟨r, hr, h⟩ := hc
  exact ⟨fun {g ρ M σ H} Q R p => wpe (pe_callB hr hg hm hv self_a hn hdb he hpl) (ha.then_ R p fun vs ds M1 H1 g1 l1 R1 r1 p1 => h Q R1 r1 (p1.imp fun _ _ q => q.later l1))⟩
theorem de_callTy (hc : DCl C (.type T) op) (hm : C.X.mg x = none) (ha : DA C (e :: es) ff) (hv : bootBuiltins x = some (.type T) := by decide +kernel) (hg : Gl C.X x := by rfl) (hn : x ≠ "__name__" := by decide) (hdb : (x == ("__debug__" : Str)) = false := by decide)
    (he : starEach (e :: es) C.X.env = (false, eval e C.X.env) :: starEach es C.X.env := by rfl) (hpl : (backTo pos (starEach es C.X.env)).any (·.1) = false := by rfl) : DE C (.Call (.Name x p) (e :: es) [] pos) (eCall op ff) := by
  obtain ⟨r, hr, h⟩ := hc
  exact ⟨fun {g ρ M σ H} Q R p => wpe (pe_callTy hr hg hm hv self_a hn hdb he hpl) (ha.then_ R p fun vs ds M1 H1 g1 l1 R1 r1 p1 => h Q R1 r1 (p1.imp fun _ _ q => q.later l1))⟩
def one (f : D → Py D) : List D → Py D
  | [d] => f d
  | _ => Py.bad
def twoD (f : D → D → Py D) : List D → Py D
  | [d, e] => f d e
  | _ => Py.bad
theorem one_post {f : D → Py D} {ds : List D} {M : Store} {q : D → Store → Prop} {E : Exn → Store → Prop} (p : Post (one f ds M) q E) : ∃ d, ds = [d] ∧ Post (f d M) q E := by
  unfold one at p
  split at p
  · exact ⟨_, rfl, p⟩
  · exact p.elim
theorem twoD_post {f : D → D → Py D} {ds : List D} {M : Store} {q : D → Store → Prop} {E : Exn → Store → Prop} (p : Post (twoD f ds M) q E) : ∃ d e, ds = [d, e] ∧ Post (f d e M) q E := by
  unfold twoD at p
  split at p
  · exact ⟨_, _, rfl, p⟩
  · exact p.elim
theorem dcl_one {f : Value} {g1 : D → Py D} {r : List V → Hp → VK → Prop} (hr : CallR C.X f r)
    (h : ∀ {g : G} {ρ : DEnv} {M : Store} {σ : St} {H : Hp} {v : V} {d : D} (Q : VK), Rl C g ρ M σ H → Rep C.X.K g v d → Post (g1 d M) (QV C g ρ σ Q) (C.We ρ) → r [v] H Q) : DCl C f (one g1) :=
  ⟨r, hr, fun {g ρ M σ H xs ds} Q R rr p => by
    obtain ⟨d, rfl, q⟩ := one_post p
    obtain ⟨v, rfl, r1⟩ := rr.one
    exact h Q R r1 q⟩
theorem dcl_two {f : Value} {g1 : D → D → Py D} {r : List V → Hp → VK → Prop} (hr : CallR C.X f r)
    (h : ∀ {g : G} {ρ : DEnv} {M : Store} {σ : St} {H : Hp} {v u : V} {d e : D} (Q : VK), Rl C g ρ M σ H → Rep C.X.K g v d → Rep C.X.K g u e → Post (g1 d e M) (QV C g ρ σ Q) (C.We ρ) → r [v, u] H Q) : DCl C f (twoD g1) :=
  ⟨r, hr, fun {g ρ M σ H xs ds} Q R rr p => by
    obtain ⟨d, e, rfl, q⟩ := twoD_post p
    obtain ⟨v, u, rfl, r1, r2⟩ := rr.two
    exact h Q R r1 r2 q⟩
/-- len -/
def lenD : D → Py D
  | .str z => Py.chk (z.length ≤ sizeLine) (Py.ret (.int z.length))
  | d => Py.bnd (items d) fun ds => Py.ret (.int ds.length)
theorem dc_len : DCl C (.builtin "len") (one lenD) := dcl_one (call_len_seq.or call_len_str) fun {g ρ M σ H v d} Q R r p => by
  have seq : Post (Py.bnd (items d) (fun ds => Py.ret (.int ds.length)) M) (QV C g ρ σ Q) (C.We ρ) → ∃ p ys, [v] = [.ref p] ∧ (SqL C.X.K H p ys ∨ SqT C.X.K H p ys) ∧ Q (.int ys.length) H := fun p => by
    obtain ⟨a, vs, ds, rfl, hs, t, q⟩ := items_post R.h r (post_bnd.mp p)
    refine ⟨a, vs, rfl, hs, ?_⟩
    rw [t.length]
    exact QV.here q R (.int _)
  cases d with
  | str z =>
    obtain ⟨hz, q⟩ := post_chk.mp p
    exact .inr ⟨z, by rw [rep_str r], hz, QV.here q R (.int _)⟩
  | _ => exact .inl (seq p)
def absD : D → Py D
  | .int i => Py.ret (.int (if i < 0 then -i else i))
  | _ => Py.bad
theorem dc_abs : DCl C (.builtin "abs") (one absD) := dcl_one call_abs fun {g ρ M σ H v d} Q R r p => by
  cases d with
  | int i => exact ⟨i, by rw [rep_int r], QV.here p R (.int _)⟩
  | _ => exact p.elim
def intD : D → Py D
  | .int i => Py.ret (.int i)
  | .bl k => Py.ret (.int (if k then 1 else 0))
  | _ => Py.bad
theorem dc_int : DCl C (.type "int") (one intD) := dcl_one call_int1 fun {g ρ M σ H v d} Q R r p => by
  cases d with
  | int i => exact .inl ⟨i, by rw [rep_int r], QV.here p R (.int _)⟩
  | bl i => exact .inr ⟨i, by rw [rep_bl r], QV.here p R (.int _)⟩
  | _ => exact p.elim
def strD : D → Py D
  | .int i => Py.chk (i.natAbs.log2 < 1920) (Py.ret (.str (toString i)))
  | _ => Py.bad
theorem dc_strI : DCl C (.type "str") (one strD) := dcl_one call_str_int fun {g ρ M σ H v d} Q R r p => by
  cases d with
  | int i => exact ⟨i, by rw [rep_int r], (post_chk.mp p).1, QV.here (post_chk.mp p).2 R (.str _)⟩
  | _ => exact p.elim
def maxI : D → D → Py D := intOp fun i j => Py.ret (.int (if j > i then j else i))
def minI : D → D → Py D := intOp fun i j => Py.ret (.int (if j < i then j else i))
theorem dc_max2 (hc : C.X.calm = true) : DCl C (.builtin "max") (twoD maxI) := dcl_two (call_max2 hc) fun {g ρ M σ H v u d e} Q R r r' p => by
  obtain ⟨i, j, rfl, rfl, q⟩ := intOp_post p
  exact ⟨i, j, by rw [rep_int r, rep_int r'], QV.here q R (.int _)⟩
theorem dc_min2 (hc : C.X.calm = true) : DCl C (.builtin "min") (twoD minI) := dcl_two (call_min2 hc) fun {g ρ M σ H v u d e} Q R r r' p => by
  obtain ⟨i, j, rfl, rfl, q⟩ := intOp_post p
  exact ⟨i, j, by rw [rep_int r, rep_int r'], QV.here q R (.int _)⟩
/-- tuple(x), list(x) -/
def tupD : D → Py D
  | .tup xs => Py.ret (.tup xs)
  | d => Py.bnd (litems d) fun ds => Py.ret (.tup ds)
theorem dc_tup : DCl C (.type "tuple") (one tupD) := dcl_one call_tuple_of fun {g ρ M σ H v d} Q R r p => by
  have lst : ∀ {d : D}, Rep C.X.K g v d → Post (Py.bnd (litems d) (fun ds => Py.ret (.tup ds)) M) (QV C g ρ σ Q) (C.We ρ) → ∃ p ys, [v] = [.ref p] ∧ ((SqL C.X.K H p ys ∧ ∀ l, H l = none → Q (.ref l) (upd H l (.tup ys))) ∨ (SqT C.X.K H p ys ∧ Q (.ref p) H)) := fun r p => by
    obtain ⟨a, vs, ds, rfl, hs, t, q⟩ := litems_post R.h r (post_bnd.mp p)
    exact ⟨a, vs, rfl, .inl ⟨hs, fun l hl => QV.lay q R hl (rep_tup_new t (R.h.fnone hl))⟩⟩
  cases d with
  | tup xs =>
    cases r with
    | tup s t => exact ⟨_, _, rfl, .inr ⟨.of (R.h.frz _ _ s), QV.here p R (.tup s t)⟩⟩
  | _ => exact lst r p
def lstD (d : D) : Py D := Py.bnd (items d) fun ds => Py.ret (.lst ds)
def lstN (d : D) : Py D := Py.bnd (items d) fun ds => alloc (.lst ds)
theorem dc_lst : DCl C (.type "list") (one lstD) := dcl_one call_list_of fun {g ρ M σ H v d} Q R r p => by
  obtain ⟨a, vs, ds, rfl, hs, t, q⟩ := items_post R.h r (post_bnd.mp p)
  exact ⟨a, vs, rfl, hs, fun l hl => QV.lay q R hl (rep_lst_new t (R.h.fnone hl))⟩
theorem dc_lstN : DCl C (.type "list") (one lstN) := dcl_one call_list_of fun {g ρ M σ H v d} Q R r p => by
  obtain ⟨a, vs, ds, rfl, hs, t, q⟩ := items_post R.h r (post_bnd.mp p)
  exact ⟨a, vs, rfl, hs, fun l hl => QV.make q R hl ⟨vs, upd_same, t.mono G.le_more⟩⟩
/-- all, any -/
def blsOf : List D → Option (List Bool)
  | [] => some []
  | .bl b :: r => (blsOf r).map fun bs => b :: bs
  | _ :: _ => none
theorem bls_rep {K : PySem.W.Frag} {g : G} : ∀ {vs : List V} {ds : List D} {bs : List Bool}, Reps K g vs ds → blsOf ds = some bs → vs = bs.map V.bl
  | _, _, _, .nil, e => by cases e; rfl
  | _, _, _, .cons (d := .bl b) r t, e => by
    obtain ⟨cs, e1, e2⟩ := Option.map_eq_some_iff.mp (show (blsOf _).map _ = some _ from e)
    subst e2
    rw [rep_bl r, bls_rep t e1]
    rfl
  | _, _, _, .cons (d := .non) r t, e => by cases e
  | _, _, _, .cons (d := .int _) r t, e => by cases e
  | _, _, _, .cons (d := .str _) r t, e => by cases e
  | _, _, _, .cons (d := .tup _) r t, e => by cases e
  | _, _, _, .cons (d := .lst _) r t, e => by cases e
  | _, _, _, .cons (d := .ro _) r t, e => by cases e
  | _, _, _, .cons (d := .dk _) r t, e => by cases e
  | _, _, _, .cons (d := .dkt _) r t, e => by cases e
  | _, _, _, .cons (d := .ins _ _) r t, e => by cases e
  | _, _, _, .cons (d := .loc _) r t, e => by cases e
  | _, _, _, .cons (d := .ref _) r t, e => by cases e
  | _, _, _, .cons (d := .ty _) r t, e => by cases e
def blsD (f : List Bool → Bool) (d : D) : Py D := Py.bnd (litems d) fun ds => match blsOf ds with
  | some bs => Py.ret (.bl (f bs))
  | none => Py.bad
theorem blsD_post {K : PySem.W.Frag} {g : G} {M : Store} {H : Hp} {f : List Bool → Bool} {v : V} {d : D} {q : D → Store → Prop} {E : Exn → Store → Prop} (R : RelH K g M H) (r : Rep K g v d) (p : Post (blsD f d M) q E) : ∃ a bs, v = .ref a ∧ SqL K H a (bs.map V.bl) ∧ q (.bl (f bs)) M := by
  obtain ⟨a, vs, ds, rfl, hs, t, q⟩ := litems_post R r (post_bnd.mp p)
  cases e : blsOf ds with
  | none => rw [e] at q; exact q.elim
  | some bs =>
    rw [e] at q
    have := bls_rep t e
    subst this
    exact ⟨a, bs, rfl, hs, q⟩
theorem dc_all (hc : C.X.calm = true) : DCl C (.builtin "all") (one (blsD fun bs => bs.all _root_.id)) := dcl_one (cr_all hc) fun {g ρ M σ H v d} Q R r p => by
  obtain ⟨a, bs, rfl, hs, q⟩ := blsD_post R.h r p
  exact ⟨a, bs, rfl, hs, QV.here q R (.bl _)⟩
theorem dc_any (hc : C.X.calm = true) : DCl C (.builtin "any") (one (blsD fun bs => bs.any _root_.id)) := dcl_one (cr_any hc) fun {g ρ M σ H v d} Q R r p => by
  obtain ⟨a, bs, rfl, hs, q⟩ := blsD_post R.h r p
  exact ⟨a, bs, rfl, hs, QV.here q R (.bl _)⟩
/-- isinstance with built-in types -/
def tyN (M : Store) : D → Option String
  | .non => some "NoneType"
  | .bl _ => some "bool"
  | .int _ => some "int"
  | .str _ => some "str"
  | .tup _ => some "tuple"
  | .lst _ => some "list"
  | .ro _ => some "list"
  | .dk _ => some "dict"
  | .loc n => match M[n]? with
    | some (some (.lst _)) => some "list"
    | some (some (.dk _)) => some "dict"
    | _ => none
  | _ => none
def tyNames : List String := ["NoneType", "bool", "int", "str", "tuple", "list", "dict"]
def isT (T t : String) : Bool := t == T || (T == "int" && t == "bool")
theorem tyN_ok {K : PySem.W.Frag} {g : G} {M : Store} {H : Hp} {v : V} {d : D} {t : String} (R : RelH K g M H) (r : Rep K g v d) (e : tyN M d = some t) : TyX K H v (.type t) ∧ t ∈ tyNames := by
  cases r with
  | non => cases e; exact ⟨.base .non, by decide⟩
  | bl b => cases e; exact ⟨.base (.bl b), by decide⟩
  | int b => cases e; exact ⟨.base (.int b), by decide⟩
  | str b => cases e; exact ⟨.base (.str b), by decide⟩
  | tup s t => cases e; exact ⟨.base (.tup (R.frz _ _ s)), by decide⟩
  | lst s t => cases e; exact ⟨.base (.lst (R.frz _ _ s)), by decide⟩
  | ro s t =>
    cases e
    rcases sqL_mono R.frz s with (h | ⟨o, h⟩) | ⟨o, its, n, h1, h2, _⟩
    · exact ⟨.base (.lst h), by decide⟩
    · exact ⟨.base (.frz h), by decide⟩
    · exact ⟨.kList h1 h2, by decide⟩
  | dk s t z => cases e; exact ⟨.base (.dK (R.frz _ _ s)), by decide⟩
  | @loc n a e1 =>
    have e' : (match M[n]? with | some (some (.lst _)) => some "list" | some (some (.dk _)) => some "dict" | _ => none) = some t := e
    split at e'
    · rename_i xs h
      cases e'
      obtain ⟨a', vs, ea, e2, e4, e5⟩ := loc_lst R (.loc e1) h
      rw [ea]
      exact ⟨.base (.lst e4), by decide⟩
    · rename_i xs h
      cases e'
      obtain ⟨a', e2, _, vs, e4, _⟩ := R.liv n _ h
      rw [e1] at e2
      cases e2
      exact ⟨.base (.dK e4), by decide⟩
    · cases e'
  | _ => cases e
def isiD (x y : D) : Py D := fun M => match tyN M x, y with
  | some t, .ty T => .ok (.bl (isT T t)) M
  | _, _ => .bad
theorem isiD_post {x y : D} {M : Store} {q : D → Store → Prop} {E : Exn → Store → Prop} (p : Post (isiD x y M) q E) : ∃ t T, tyN M x = some t ∧ y = .ty T ∧ q (.bl (isT T t)) M := by
  unfold isiD at p
  split at p
  · rename_i t T h1
    exact ⟨t, T, h1, rfl, p⟩
  · exact p.elim
/-- the types that may be asked for -/
def kitOk (T : String) : Bool := tyNames.all fun t => kitB t T == some (isT T t)
def isiT (Ts : List String) (x y : D) : Py D := match y with
  | .ty T => if Ts.contains T then isiD x y else Py.bad
  | _ => Py.bad
theorem rep_ty {K : PySem.W.Frag} {g : G} {v : V} {n : String} (r : Rep K g v (.ty n)) : v = .ty n := by cases r; rfl
theorem dc_isi {Ts : List String} (hT : Ts.all kitOk = true := by decide +kernel) : DCl C (.builtin "isinstance") (twoD (isiT Ts)) := dcl_two call_isi fun {g ρ M σ H v u d e} Q R r r' p => by
  cases e with
  | ty T =>
    have p' : Post ((if Ts.contains T then isiD d (.ty T) else Py.bad : Py D) M) (QV C g ρ σ Q) (C.We ρ) := p
    by_cases hc : Ts.contains T = true
    · rw [if_pos hc] at p'
      obtain ⟨t, T', h1, h2, q⟩ := isiD_post p'
      cases h2
      obtain ⟨ty, hm⟩ := tyN_ok R.h r h1
      have hk : kitB t T = some (isT T t) := by
        have h3 := List.all_eq_true.mp hT T (by simpa using hc)
        exact beq_iff_eq.mp (List.all_eq_true.mp h3 t hm)
      exact ⟨v, .ty T, .type t, .type T, _, by rw [rep_ty r'], .ty T, ty, kit_ty hk, QV.here q R (.bl _)⟩
    · rw [if_neg hc] at p'; exact p'.elim
  | _ => exact p.elim

/-! ### methods of built-in types -/
/-- the value is of that type -/
def tyChk (T : String) (d : D) : Py Unit := match d with
  | .str _ => Py.chk (T = "str") (Py.ret ())
  | .dk _ => Py.chk (T = "dict") (Py.ret ())
  | .loc n => fun M => match M[n]? with
    | some (some (.lst _)) => if T = "list" then .ok () M else .bad
    | some (some (.dk _)) => if T = "dict" then .ok () M else .bad
    | _ => .bad
  | .lst _ => Py.chk (T = "list") (Py.ret ())
  | .ro _ => Py.chk (T = "list") (Py.ret ())
  | _ => Py.bad
theorem tyChk_post {K : PySem.W.Frag} {g : G} {M : Store} {H : Hp} {v : V} {d : D} {T : String} {q : Unit → Store → Prop} {E : Exn → Store → Prop} (R : RelH K g M H) (r : Rep K g v d) (p : Post (tyChk T d M) q E) : tyV K T v H ∧ q () M := by
  cases r with
  | str z => obtain ⟨h, q⟩ := post_chk.mp p; exact ⟨h, q⟩
  | dk s t z => obtain ⟨h, q⟩ := post_chk.mp p; exact ⟨.inr (.inr (.inl ⟨h, .inl ⟨_, R.frz _ _ s⟩⟩)), q⟩
  | lst s t => obtain ⟨h, q⟩ := post_chk.mp p; exact ⟨.inl ⟨h, _, .of (R.frz _ _ s)⟩, q⟩
  | ro s t => obtain ⟨h, q⟩ := post_chk.mp p; exact ⟨.inl ⟨h, _, sqL_mono R.frz s⟩, q⟩
  | @loc n a e1 =>
    have p' : Post ((match M[n]? with | some (some (.lst _)) => if T = "list" then .ok () M else .bad | some (some (.dk _)) => if T = "dict" then .ok () M else .bad | _ => .bad) : Out Unit) q E := p
    split at p'
    · rename_i xs h
      obtain ⟨a', vs, ea, e2, e4, e5⟩ := loc_lst R (.loc e1) h
      by_cases hT : T = "list"
      · rw [if_pos hT] at p'
        rw [ea]
        exact ⟨.inl ⟨hT, _, .of e4⟩, p'⟩
      · rw [if_neg hT] at p'; exact p'.elim
    · rename_i xs h
      obtain ⟨a', e2, _, vs, e4, _⟩ := R.liv n _ h
      rw [e1] at e2
      cases e2
      by_cases hT : T = "dict"
      · rw [if_pos hT] at p'
        exact ⟨.inr (.inr (.inl ⟨hT, .inl ⟨_, e4⟩⟩)), p'⟩
      · rw [if_neg hT] at p'; exact p'.elim
    · exact p'.elim
  | _ => exact p.elim
def DMt (C : DX) (id : String) (op : D → List D → Py D) : Prop := ∃ r, MtR C.X id r ∧
  ∀ {g : G} {ρ : DEnv} {M : Store} {σ : St} {H : Hp} {x : V} {dx : D} {xs : List V} {ds : List D} (Q : VK), Rl C g ρ M σ H → Rep C.X.K g x dx → Reps C.X.K g xs ds → Post (op dx ds M) (QV C g ρ σ Q) (C.We ρ) → r x xs H Q
def eMt (T : String) (op : D → List D → Py D) (fo : DEnv → Py D) (ff : DEnv → Py (List D)) : DEnv → Py D := fun ρ => Py.bnd (fo ρ) fun o => Py.bnd (tyChk T o) fun _ => Py.bnd (ff ρ) fun ds => op o ds
def eMt0 (T : String) (op : D → List D → Py D) (fo : DEnv → Py D) : DEnv → Py D := fun ρ => Py.bnd (fo ρ) fun o => Py.bnd (tyChk T o) fun _ => op o []
variable {o : Expr} {fo : DEnv → Py D} {name : Str} {apos cpos : Pos} {mop : D → List D → Py D}
theorem de_bm (pa : PlainAttrs T) (slot : Slot T name id) (hty : typeOf (.builtin id) = pure (.type "method_descriptor")) (hm : DMt C id mop) (ho : DE C o fo) (ha : DA C (e :: es) ff)
    (hbase : attributeBase o name C.X.env (eval o C.X.env) = eval o C.X.env := by rfl)
    (hfew : ((backTo cpos (starEach (e :: es) C.X.env)).all (fun x => !x.1) && (backToKw cpos (keywordEach [] C.X.env)).all (fun x => x.1.isSome)
      && decide ((e :: es).length + ([] : List Keyword).length + (if ([] : List Keyword).isEmpty then 0 else 1) < 30)) = true := by rfl)
    (hline : (apos.endLine == cpos.line) = true := by rfl) (hs : starEach (e :: es) C.X.env = (false, eval e C.X.env) :: starEach es C.X.env := by rfl) (hplain : (backTo cpos (starEach es C.X.env)).any (·.1) = false := by rfl) :
    DE C (.Call (.Attribute o name apos) (e :: es) [] cpos) (eMt T mop fo ff) := by
  obtain ⟨r, hr, h⟩ := hm
  refine ⟨fun {g ρ M σ H} Q R p => wpe (pe_bm pa slot hty hr self_e self_a hbase hfew hline hs hplain) (ho.then_ R p fun v d M1 H1 g1 l1 R1 r1 p1 => ?_)⟩
  obtain ⟨ty, p2⟩ := tyChk_post R1.h r1 (post_bnd.mp p1)
  exact ⟨ty, ha.then_ R1 p2 fun vs ds M2 H2 g2 l2 R2 r2 p3 => h Q R2 (r1.mono l2) r2 (p3.imp fun _ _ q => q.later (l1.trans l2))⟩
theorem de_bm0 (pa : PlainAttrs T) (slot : Slot T name id) (hty : typeOf (.builtin id) = pure (.type "method_descriptor")) (hm : DMt C id mop) (ho : DE C o fo)
    (hbase : attributeBase o name C.X.env (eval o C.X.env) = eval o C.X.env := by rfl) (hline : (apos.endLine == cpos.line) = true := by rfl) : DE C (.Call (.Attribute o name apos) [] [] cpos) (eMt0 T mop fo) := by
  obtain ⟨r, hr, h⟩ := hm
  refine ⟨fun {g ρ M σ H} Q R p => wpe (pe_bm0 pa slot hty hr self_e hbase hline) (ho.then_ R p fun v d M1 H1 g1 l1 R1 r1 p1 => ?_)⟩
  obtain ⟨ty, p2⟩ := tyChk_post R1.h r1 (post_bnd.mp p1)
  exact ⟨ty, h Q R1 r1 .nil (p2.imp fun _ _ q => q.later l1)⟩
/-- what a list at a location becomes -/
def putL (n : Nat) (xs : List D) (d : D) : Py D := fun M => .ok d (M.set n (some (.lst xs)))
/-- the list at a location -/
def locL {α : Type} (d : D) (k : Nat → List D → Py α) : Py α := match d with
  | .loc n => fun M => match M[n]? with
    | some (some (.lst xs)) => k n xs M
    | _ => .bad
  | _ => Py.bad
theorem locL_post {α : Type} {K : PySem.W.Frag} {g : G} {M : Store} {H : Hp} {v : V} {d : D} {k : Nat → List D → Py α} {q : α → Store → Prop} {E : Exn → Store → Prop} (R : RelH K g M H) (r : Rep K g v d) (p : Post (locL d k M) q E) :
    ∃ n xs a vs, d = .loc n ∧ v = .ref a ∧ M[n]? = some (some (.lst xs)) ∧ g.io[n]? = some a ∧ H a = some (.lst vs) ∧ Reps K g vs xs ∧ Post (k n xs M) q E := by
  cases r with
  | @loc n a e1 =>
    have p' : Post ((match M[n]? with | some (some (.lst xs)) => k n xs M | _ => .bad) : Out α) q E := p
    split at p'
    · rename_i xs e
      obtain ⟨a', vs, ea, e2, e4, e5⟩ := loc_lst R (.loc e1) e
      cases ea
      exact ⟨n, xs, _, vs, rfl, rfl, e, e2, e4, e5, p'⟩
    · exact p'.elim
  | _ => exact p.elim
theorem QV.put {g : G} {ρ : DEnv} {M : Store} {σ : St} {H : Hp} {Q : VK} {n : Nat} {xs ys : List D} {a : Addr} {ws : List V} {d : D} {v : V} {E : Exn → Store → Prop} (R : Rl C g ρ M σ H) (e : M[n]? = some (some (.lst xs))) (ei : g.io[n]? = some a) (t : Reps C.X.K g ws ys) (r : Rep C.X.K g v d)
    (p : Post (putL n ys d M) (QV C g ρ σ Q) E) : Q v (upd H a (.lst ws)) := p v _ g (G.le.refl g) (R.next (G.le.refl g) (R.h.put e ei ⟨ws, upd_same, t⟩)) r
def appendD (o : D) (ds : List D) : Py D := match ds with
  | [y] => locL o fun n xs => Py.chk (xs.length < sizeLine) (putL n (xs ++ [y]) .non)
  | _ => Py.bad
theorem dm_append : DMt C "list.append" appendD := ⟨_, mt_append, fun {g ρ M σ H x dx xs ds} Q R r rr p => by
  unfold appendD at p
  split at p
  · rename_i y
    obtain ⟨v, rfl, r1⟩ := rr.one
    obtain ⟨n, xs, a, vs, rfl, rfl, e, ei, hH, t, p1⟩ := locL_post R.h r p
    obtain ⟨hz, p2⟩ := post_chk.mp p1
    exact ⟨a, vs, v, rfl, rfl, hH, by rw [t.length]; exact hz, QV.put R e ei (t.append (.cons r1 .nil)) .non p2⟩
  · exact p.elim⟩
theorem extend_list_tup {prog : Program} {w : World} {A : Around} {E : Value → Shared → Prop} {s : Shared} {l b : Addr} {items items2 : Array Value} {n : Nat} {Q : Value → Shared → Prop} (hl : s.heap.get? l = some { cls := .type "list", dict := none, data := .seq items n, slots := #[] }) (hb : IsTup s.heap b items2)
    (hs0 : ¬(!items.isEmpty && Builtin.List.listTooLong (items.size + items2.size)) = true) (hs1 : items.size ≤ sizeLine) (hs2 : items.size + items2.size ≤ sizeLine + 1)
    (q : Q .none { s with heap := s.heap.update l (Obj.mapSeq fun x => x ++ items2), toks := s.toks }) : wpAny (model prog w) A (call (.builtin "list.extend") [.ref l, .ref b]) Q E s := by
  obtain ⟨⟨c, dct, dat, sl⟩, hb1, hb2, n2, hb3⟩ := hb
  dsimp only at hb2 hb3
  subst hb2 hb3
  have rule : Meets (Builtin.«list.extend» ⟨[.ref l, .ref b], []⟩) (fun _ R s => s.heap.get? l = some { cls := .type "list", dict := none, data := .seq items n, slots := #[] } ∧ s.heap.get? b = some { cls := .type "tuple", dict := dct, data := .seq items2 n2, slots := sl } ∧ R (.ok (.ret Value.none)) { s with heap := s.heap.update l (Obj.mapSeq fun x => x ++ items2), toks := s.toks }) :=
    .of_wp fun prog w A R s h => by
      obtain ⟨hp, g, d, tk, os⟩ := s; obtain ⟨hl, hb, h⟩ := h; have f1 := AutoSeq1.idx_int; have f2 := AutoSeq1.sub_tuple_tuple; have f3 := AutoSeq1.sub_list_list; have f4 := AutoSeq1.sub_tuple_list; have f5 := AutoSeq1.sub_list_tuple
      have hz' : (items ++ items2).size ≤ sizeLine + 1 := by rw [Array.size_append]; exact hs2
      wp_walk using (wpAny_updateSeq hl rfl (hz := hs1) (_hz' := hz')), wpAny_loadPart' hl, wpAny_loadPart' hb; exact ⟨_, rfl, h⟩
  exact call_meets F.slot_list_extend ⟨_, hl, rfl⟩ F.entry_list_extend (F.args_list_extend_2 _ _) rule ⟨hl, hb1, q⟩
def rExtendT (K : PySem.W.Frag) : V → List V → Hp → VK → Prop := fun x vs H Q => ∃ l b xs zs, x = .ref l ∧ vs = [.ref b] ∧ H l = some (.lst xs) ∧ SqT K H b zs ∧ xs.length + zs.length ≤ sizeLine ∧ Q .non (upd H l (.lst (xs ++ zs)))
theorem mt_extendT {X : Cx} : MtR X "list.extend" (rExtendT X.K) := by
  intro pins s σ H x vs v us Q I rx rv h
  obtain ⟨l, b, xs, zs, rfl, rfl, hH, hB, hz, q⟩ := h
  cases rx
  obtain ⟨u, rfl, ru⟩ := rv.one
  cases ru
  obtain ⟨z, its, n, r, hl, e⟩ := I.lstM hH
  obtain ⟨its2, r2, p2, hl2⟩ := I.tuple hB
  have len2 : zs.length = its2.length := r2.length
  have hsz : its.toArray.size + its2.toArray.size ≤ sizeLine := by rw [List.size_toArray, List.size_toArray]; omega
  have hlong : ¬ (!its.toArray.isEmpty && Builtin.List.listTooLong (its.toArray.size + its2.toArray.size)) = true := by
    rw [notLongL hsz, Bool.and_false]
    exact Bool.false_ne_true
  refine extend_list_tup e p2 hlong (by rw [List.size_toArray]; omega) (by omega) ?_
  refine ⟨.non, _, I.lset (its' := its ++ its2) hH e (by simp) (r.append r2) ?_, rfl, q⟩
  rw [List.length_append]
  omega
/-- the items that a list is made longer by -/
def exItems (y : D) : Py (List D) := match y with
  | .tup xs => Py.ret xs
  | y => xitems y
theorem exItems_post {K : PySem.W.Frag} {g : G} {M : Store} {H : Hp} {v : V} {d : D} {q : List D → Store → Prop} {E : Exn → Store → Prop} (R : RelH K g M H) (r : Rep K g v d) (p : Post (exItems d M) q E) :
    ∃ a vs ds, v = .ref a ∧ (H a = some (.lst vs) ∨ SqT K H a vs) ∧ Reps K g vs ds ∧ q ds M := by
  cases r with
  | tup s t => exact ⟨_, _, _, rfl, .inr (.of (R.frz _ _ s)), t, p⟩
  | lst s t => obtain ⟨a, vs, ds, e, h, t, q⟩ := xitems_post R (.lst s t) p; exact ⟨a, vs, ds, e, .inl h, t, q⟩
  | loc e1 => obtain ⟨a, vs, ds, e, h, t, q⟩ := xitems_post R (.loc e1) p; exact ⟨a, vs, ds, e, .inl h, t, q⟩
  | _ => exact p.elim
def extendD (o : D) (ds : List D) : Py D := match ds with
  | [y] => locL o fun n xs => Py.bnd (exItems y) fun ys => Py.chk (xs.length + ys.length ≤ sizeLine) (putL n (xs ++ ys) .non)
  | _ => Py.bad
theorem dm_extend : DMt C "list.extend" extendD := ⟨_, MtR.or mt_extend mt_extendT, fun {g ρ M σ H x dx xs ds} Q R r rr p => by
  unfold extendD at p
  split at p
  · rename_i y
    obtain ⟨v, rfl, r1⟩ := rr.one
    obtain ⟨n, xs, a, vs, rfl, rfl, e, ei, hH, t, p1⟩ := locL_post R.h r p
    obtain ⟨b, ws, ys, rfl, h2, t2, p2⟩ := exItems_post R.h r1 (post_bnd.mp p1)
    obtain ⟨hz, p3⟩ := post_chk.mp p2
    rcases h2 with h2 | h2
    · exact .inl ⟨a, b, vs, ws, rfl, rfl, hH, h2, by rw [t.length, t2.length]; exact hz, QV.put R e ei (t.append t2) .non p3⟩
    · exact .inr ⟨a, b, vs, ws, rfl, rfl, hH, h2, by rw [t.length, t2.length]; exact hz, QV.put R e ei (t.append t2) .non p3⟩
  · exact p.elim⟩
def popD (o : D) (ds : List D) : Py D := match ds with
  | [] => locL o fun n xs => match xs[xs.length - 1]? with
    | some y => putL n xs.dropLast y
    | none => Py.bad
  | _ => Py.bad
theorem dm_pop : DMt C "list.pop" popD := ⟨_, mt_pop, fun {g ρ M σ H x dx xs ds} Q R r rr p => by
  unfold popD at p
  split at p
  · cases rr
    obtain ⟨n, xs, a, vs, rfl, rfl, e, ei, hH, t, p1⟩ := locL_post R.h r p
    cases h : xs[xs.length - 1]? with
    | none => rw [h] at p1; exact p1.elim
    | some y =>
      rw [h] at p1
      obtain ⟨v, h1, r1⟩ := t.get h
      exact ⟨a, vs, v, rfl, rfl, hH, by rw [t.length]; exact h1, QV.put R e ei t.dropLast r1 p1⟩
  · exact p.elim⟩
theorem Reps.eraseIdx {K : PySem.W.Frag} {g : G} : ∀ {vs : List V} {ds : List D} (i : Nat), Reps K g vs ds → Reps K g (vs.eraseIdx i) (ds.eraseIdx i)
  | _, _, _, .nil => .nil
  | _, _, 0, .cons _ t => t
  | _, _, i + 1, .cons r t => .cons r (Reps.eraseIdx i t)
def popAtD (o : D) (ds : List D) : Py D := match ds with
  | [.int i] => locL o fun n xs => match seqIndex? i xs.length with
    | some k => match xs[k]? with
      | some y => Py.chk (-(2 ^ 63) ≤ i ∧ i < 2 ^ 63) (putL n (xs.eraseIdx k) y)
      | none => Py.bad
    | none => Py.bad
  | _ => Py.bad
theorem dm_popAt : DMt C "list.pop" popAtD := ⟨_, mt_popAt, fun {g ρ M σ H x dx xs ds} Q R r rr p => by
  unfold popAtD at p
  split at p
  · rename_i i
    obtain ⟨v, rfl, r1⟩ := rr.one
    obtain ⟨n, xs, a, vs, rfl, rfl, e, ei, hH, t, p1⟩ := locL_post R.h r p
    cases hk : seqIndex? i xs.length with
    | none => rw [hk] at p1; exact p1.elim
    | some k =>
      rw [hk] at p1
      cases h : xs[k]? with
      | none =>
        have p2 : Post ((match xs[k]? with | some y => Py.chk (-(2 ^ 63) ≤ i ∧ i < 2 ^ 63) (putL n (xs.eraseIdx k) y) | none => Py.bad : Py D) M) (QV C g ρ σ Q) (C.We ρ) := p1
        rw [h] at p2; exact p2.elim
      | some y =>
        have p2 : Post ((match xs[k]? with | some y => Py.chk (-(2 ^ 63) ≤ i ∧ i < 2 ^ 63) (putL n (xs.eraseIdx k) y) | none => Py.bad : Py D) M) (QV C g ρ σ Q) (C.We ρ) := p1
        rw [h] at p2
        obtain ⟨⟨b1, b2⟩, p3⟩ := post_chk.mp p2
        obtain ⟨w', h1, r2⟩ := t.get h
        exact ⟨a, vs, i, k, w', rfl, by rw [rep_int r1], hH, b1, b2, by rw [t.length]; exact hk, h1, QV.put R e ei (t.eraseIdx k) r2 p3⟩
  · exact p.elim⟩
end
end L3
set_option Elab.async false
set_option linter.all false
set_option maxRecDepth 100000
set_option maxHeartbeats 4000000
set_option autoImplicit false
/-! defs that run where no guard stands (for repr of data within data) -/
namespace L3
open PySem PySem.Spec L2
open PyProof.Rows hiding St
/-- room, and no guard -/
structure RoomG (k : Nat) (A : Around) : Prop where
  room : Room k A
  gd : A.guards = some []
theorem RoomG.mono {j k : Nat} {A : Around} (r : RoomG k A) (h : j ≤ k) : RoomG j A := ⟨r.room.mono h, r.gd⟩
theorem RoomG.deeper {k : Nat} {A : Around} (r : RoomG (k + 1) A) (env : PySem.Env) : RoomG k (A.deeper env) := ⟨r.room.deeper env, r.gd⟩
theorem RoomG.in1 {k : Nat} {A : Around} (r : RoomG (k + 1) A) : RoomG k A.in1 := ⟨r.room.in1, r.gd⟩
theorem RoomG.make {k : Nat} {A : Around} (r : RoomG (k + 1) A) (C : Addr) (us : List Value) (kw : List (Str × Value)) : RoomG k (A.under (.builtin "type.__call__" ⟨.ref C :: us, kw⟩)) :=
  ⟨r.room.make C us kw, by
    have gd := r.gd
    simp [Around.under, Code.guards, Code.isGuard, guardIds, pushGuards, gd]⟩
theorem RoomG.units {k : Nat} {A : Around} (r : RoomG k A) : A.units + 64 < cLine := r.room.units
theorem RoomG.caller {k : Nat} (r : Room k callerA) : RoomG k callerA := ⟨r, rfl⟩
/-- a def's promise where no guard stands -/
structure FnG (P : Program) (w : World) (K : PySem.W.Frag) (mg : Str → Option Value) (base : Heap) (CX : CXT) (k : Nat) (f : Addr) (fd : FuncData) (ps : List Str) (sp : Sp) : Prop where
  many : ∀ xs H Q E, sp xs H Q E → xs.length = ps.length
  go : ∀ (A : Around) (out : List PySem.Env) (s : Shared) (H : Hp) (args : Args) (us : List Value) (xs : List V) (Q : VK) (E : XK), RoomG k A → Env0 P w K mg base A out s H → BindsTo s fd args (ps.zip us) → Vals xs us → sp xs H Q E → codeAny (model P w) A (.call (.ref f) args) (CR CX out P w H s Q E) s
section
variable {P : Program} {w : World} {K : PySem.W.Frag} {mg : Str → Option Value} {base : Heap} {CX : CXT} {k : Nat} {f : Addr} {fd : FuncData} {ps : List Str} {sp : Sp}
theorem FnG.of (F : FnOk P w K mg base CX k f fd ps sp) : FnG P w K mg base CX k f fd ps sp := ⟨F.len, fun A out s H args us xs Q E r => F.run A out s H args us xs Q E r.room⟩
theorem FnG.mono {j : Nat} (F : FnG P w K mg base CX j f fd ps sp) (h : j ≤ k) : FnG P w K mg base CX k f fd ps sp := ⟨F.many, fun A out s H args us xs Q E r => F.go A out s H args us xs Q E (r.mono h)⟩
/-- from a body -/
theorem fnG_of {name qual : Str} {params : Arguments} {body : List Stmt} {scope : Scope} {dV kV doc pm cdv ct oc : Value} {an od : Option Addr} {osl : Array (Option Value)} {N : List Str}
    (known : K.lookup f = some ⟨oc, od, .func (PySem.W.fnOf name qual params body scope dV kV doc pm an cdv ct), osl⟩) (code : PySem.W.codeIn K cdv qual = true) (S : FnScope N ps scope) (many : ∀ xs H Q E, sp xs H Q E → xs.length = ps.length)
    (reads : ∀ (A : Around) (out : List PySem.Env) (s : Shared) (H : Hp) (xs : List V) (Q : VK) (E : XK), RoomG k (A.deeper (envOfC qual scope s.heap.objs.size f cdv)) → sp xs H Q E →
      ∃ t, PSs (cxOf CX P w K mg base N qual scope f cdv A out s H E) body t ∧ t { nx := fun _ H' => Q .non H', rt := Q } (start N xs) H) : FnG P w K mg base CX (k + 1) f (PySem.W.fnOf name qual params body scope dV kV doc pm an cdv ct) ps sp := by
  refine ⟨many, fun A out s H args us xs Q E room env bound vals says => ?_⟩
  have inK : K.In s.heap := env.mod.kin.keeps fun b o z => (env.bs b o z).1
  have free : s.heap.NoLimit := env.mod.nolimit.keeps fun b o z => (env.bs b o z).1
  have kinds : ∀ y ∈ ps.zip us, scope.names.lookup y.1 = some .local ∨ (scope.names.lookup y.1 = some .cell ∧ ((cellsFrom (s.heap.objs.size + 1) scope.names []).lookup y.1).isSome = true) := by
    rintro ⟨n, v⟩ mem
    exact (S.par n (List.of_mem_zip mem).1).imp id fun q => ⟨q, PySem.W.cellsFrom_some _ _ _ (.inl q)⟩
  refine codeAny_call_function room.room.depth (inK _ _ known) rfl S.co S.gen rfl (PySem.W.codeRec_of inK code) (bound _ _ _ _ ?_)
  refine wpAny_newFunctionEnv_cells S.kind kinds fun e he s1 call => ?_
  subst he
  refine ⟨free.keeps call.toInCall.keep, codeAny_func ?_⟩
  obtain ⟨t, ht, q⟩ := reads A out s H xs Q E (room.deeper _) says
  have J := inv_start (CX := CX) (E := E) S room.room.hd env (many _ _ _ _ says) vals call
  refine wpAny_mono (ht.run [] s1 (start N xs) H _ J q) (fun fl s2 hs => ?_) fun _ _ z => z
  cases fl with
  | ret u => obtain ⟨v, σ2, H2, I, rv, q2⟩ := hs; exact ⟨v, H2, I.os, I.bare, I.base, I.hok, rv, q2⟩
  | next => obtain ⟨σ2, H2, I, q2⟩ := hs; exact ⟨V.non, H2, I.os, I.bare, I.base, I.hok, rfl, q2⟩
  | brk => exact hs.elim fun _ z => z.elim fun _ z => z.2.elim
  | cont => exact hs.elim fun _ z => z.elim fun _ z => z.2.elim
theorem okG {x qual : Str} {params : Arguments} {body : List Stmt} {scope : Scope} {dvs : List V} {kws : List (Str × V)} {N : List Str} (F : FunD K x qual params body scope dvs kws f fd) (S : FnScope N ps scope) (many : ∀ xs H Q E, sp xs H Q E → xs.length = ps.length)
    (reads : ∀ (cdv : Value) (A : Around) (out : List PySem.Env) (s : Shared) (H : Hp) (xs : List V) (Q : VK) (E : XK), RoomG k (A.deeper (envOfC qual scope s.heap.objs.size f cdv)) → sp xs H Q E →
      ∃ t, PSs (cxOf CX P w K mg base N qual scope f cdv A out s H E) body t ∧ t { nx := fun _ H' => Q .non H', rt := Q } (start N xs) H) : FnG P w K mg base CX (k + 1) f fd ps sp := by
  obtain ⟨_, _, _, _, _, _, _, cdv, _, _, rfl, a, b, _, _⟩ := F.ex
  exact fnG_of a b S many (reads cdv)
end
section
variable {X : Cx} {CX : CXT} {k : Nat} {f : Addr} {fd : FuncData} {ps : List Str} {sp : Sp} {E : St → XK} {x : Str} {p pos : Pos} {e : Expr} {es : List Expr} {t : TA}
theorem runG {pins : List (Addr × Obj)} {σ : St} {H : Hp} {s : Shared} {Q : VK} {us : List Value} {xs : List V} (F : FnG X.prog X.w X.K X.mg X.base CX k f fd ps sp) (room : RoomG k X.A) (bind_ : Binds X.K fd ps []) (pass : PassesAt CX X σ (E σ)) (J : Inv X pins σ H s) (r : Vals xs us) (says : sp xs H Q (E σ)) : wpAny (model X.prog X.w) X.A (call (.ref f) us) (EP X pins σ Q) X.xe s := by
  have many : us.length = ps.length := r.length.symm.trans (F.many _ _ _ _ says)
  have bound := bind_ s us J.kIn (by simpa using many)
  rw [List.append_nil] at bound
  refine wpAny_call (codeAny_mono (F.go X.A X.stack s H ⟨us, []⟩ us xs Q (E σ) room J.env0 bound r says) fun r2 s2 z => ?_)
  match r2, z with
  | .error e, z => exact pass pins H s e s2 J z
  | .ok (.ret u), z => exact J.after z
theorem pe_callG (F : FnG X.prog X.w X.K X.mg X.base CX k f fd ps sp) (room : RoomG k X.A) (hg : Gl X x) (hm : X.mg x = some (.ref f)) (kept : PySem.W.keepIn X.K (.ref f) = true) (bind_ : Binds X.K fd ps []) (pass : ∀ σ, PassesAt CX X σ (E σ)) (ha : PA X (e :: es) t) (nd : (x == ("__debug__" : Str)) = false := by decide)
    (st : starEach (e :: es) X.env = (false, eval e X.env) :: starEach es X.env := by rfl) (pl : (backTo pos (starEach es X.env)).any (·.1) = false := by rfl) : PE X (.Call (.Name x p) (e :: es) [] pos) (tCallS sp E t) :=
  ⟨fun pins s σ H Q I z => wpAny_Call_Name_kw (ld_glob I hg hm (PySem.W.callWith_K (h₀ := X.base) I.ok.mod.kin kept (thn (ha.run pos pins s σ H _ I z) fun us s1 ⟨xs, H1, J, r, q⟩ => ⟨J.kIn, runG F room bind_ (pass σ) J r q⟩) st pl) nd)⟩
theorem pe_callG0 (F : FnG X.prog X.w X.K X.mg X.base CX k f fd ps sp) (room : RoomG k X.A) (hg : Gl X x) (hm : X.mg x = some (.ref f)) (kept : PySem.W.keepIn X.K (.ref f) = true) (bind_ : Binds X.K fd ps []) (pass : ∀ σ, PassesAt CX X σ (E σ)) (nd : (x == ("__debug__" : Str)) = false := by decide) : PE X (.Call (.Name x p) [] [] pos) (tCallS sp E tNil) :=
  ⟨fun pins s σ H Q I z => wpAny_Call_Name_kw (ld_glob I hg hm (PySem.W.callWith_K0 I.kIn kept (runG (us := []) F room bind_ (pass σ) I .nil z)) nd)⟩
end
end L3
set_option Elab.async false
set_option linter.all false
set_option maxRecDepth 100000
set_option maxHeartbeats 4000000
set_option autoImplicit false
/-! the law's call where no guard stands -/
namespace L3
open PySem PySem.Spec L2
open PyProof.Rows hiding St
/-- what the law's call answers -/
abbrev Yes (s₁ : Shared) : Result → Shared → Prop := fun r s' => r = .ok (.ret (.bool true)) ∧ OldK s₁.heap s'.heap ∧ s'.os = s₁.os ∧ AllBare s'.gens
section
variable {P : Program} {w : World} {K : PySem.W.Frag} {mg mb : Str → Option Value} {CX : CXT} {k : Nat} {fa a : Addr} {fd : FuncData} {x : Str} {sp : Sp} {s₁ : Shared} {vs : List Value} {ns : List Int}
/-- from an abstract heap that holds at most the script -/
theorem lawG_core (KX : K.In s₁.heap) (hg0 : s₁.heap.Ns mainGlobals mg) (hb0 : s₁.heap.Ns builtinsNs mb) (names : ∀ x : Str, x ≠ "__name__" → mb x = bootBuiltins x) (free : s₁.heap.NoLimit) (still : s₁.gens = #[])
    (script : s₁.heap.get? a = some { cls := .type "list", data := .seq vs.toArray }) (room : Room k callerA)
    (F : ∀ base : Heap, K.In base → base.Ns mainGlobals mg → FnG P w K mg base CX k fa fd [x] sp) (bound : ∀ (s : Shared) (u : Value), BindsTo s fd ⟨[u], []⟩ [(x, u)])
    (says : ∀ H : Hp, Only H → SqL K H a (ns.map V.int) → sp [.ref a] H (fun v _ => v = .bl true) fun _ _ _ => False) (none_ : ∀ H e s', CX [] H s₁ (fun _ _ _ => False) e s' → False)
    (H : Hp) (only : Only H) (seq : SqL K H a (ns.map V.int)) (ok : HOk P w H s₁.heap) (alone : ∀ b u, H b = some u → b = a) (own : ∀ u, H a = some u → K.lookup a = none) : codeAny (model P w) callerA (.call (.ref fa) ⟨[.ref a], []⟩) (Yes s₁) s₁ := by
  have plain : ∀ {b : Addr} {m : Str → Option Value}, s₁.heap.Ns b m → (hidT s₁.heap H).Ns b m := by
    rintro b m ⟨o, es, ep, e, d, r⟩
    refine ⟨o, es, ep, hidT_get e ?_, d, r⟩
    cases q : H b with
    | none => rfl
    | some u =>
      cases alone b u q
      rw [script] at e
      cases e
      cases (show Data.seq vs.toArray _ = Data.dict es ep from d)
  have KB : K.In (hidT s₁.heap H) := fun b o e => by
    refine hidT_get (KX b o e) ?_
    cases q : H b with
    | none => rfl
    | some u =>
      cases alone b u q
      cases (own u q).symm.trans e
  obtain ⟨mc, l1, l2⟩ := free
  have env : Env0 P w K mg (hidT s₁.heap H) callerA [] s₁ H := ⟨rfl, ⟨KB, plain hg0, ⟨mb, plain hb0, names⟩, ⟨mc, plain l1, l2⟩⟩, fun b o e => of_hidT e, Nat.le_of_eq (hidT_size s₁.heap H), trivial, fun b z => (List.not_mem_nil z).elim, ok, .of_eq still⟩
  refine codeAny_mono ((F _ KB (plain hg0)).go callerA [] s₁ H _ [.ref a] [.ref a] _ _ (.caller room) env (bound s₁ _) (.cons rfl .nil) (says H only seq)) fun r s2 z => ?_
  match r, z with
  | .error e, z => exact (none_ H e s2 z).elim
  | .ok (.ret u), ⟨v, H2, os, bare, un, ok2, rv, q⟩ =>
    cases (show v = V.bl true from q)
    cases (show u = Value.bool true from rv)
    refine ⟨rfl, OldK.of_keep fun b o e => ?_, os, bare⟩
    rcases only b with n | ⟨ob, xs, n⟩
    · exact un.keep b o e n (fun z => (List.not_mem_nil z).elim) List.not_mem_nil
    · have e1 := (ok b _ n).1
      have same : o = ob := Option.some.inj (e.symm.trans e1)
      rw [same]
      exact (ok2 b _ (un.frzs b ob _ n)).1
theorem lawG (KX : K.In s₁.heap) (hg0 : s₁.heap.Ns mainGlobals mg) (hb0 : s₁.heap.Ns builtinsNs mb) (names : ∀ x : Str, x ≠ "__name__" → mb x = bootBuiltins x) (free : s₁.heap.NoLimit) (still : s₁.gens = #[])
    (script : s₁.heap.get? a = some { cls := .type "list", data := .seq vs.toArray }) (hi : IntsAre vs ns) (fits : ns.length ≤ sizeLine) (room : Room k callerA)
    (F : ∀ base : Heap, K.In base → base.Ns mainGlobals mg → FnG P w K mg base CX k fa fd [x] sp) (bound : ∀ (s : Shared) (u : Value), BindsTo s fd ⟨[u], []⟩ [(x, u)])
    (says : ∀ H : Hp, Only H → SqL K H a (ns.map V.int) → sp [.ref a] H (fun v _ => v = .bl true) fun _ _ _ => False) (none_ : ∀ H e s', CX [] H s₁ (fun _ _ _ => False) e s' → False) : codeAny (model P w) callerA (.call (.ref fa) ⟨[.ref a], []⟩) (Yes s₁) s₁ := by
  have rv := vals_ints hi
  have core := lawG_core KX hg0 hb0 names free still script room F bound says none_
  by_cases hk : K.lookup a = none
  · refine core (fun b => if b = a then some (.frz { cls := .type "list", data := .seq vs.toArray } (.lst (ns.map V.int))) else none) (fun b => ?_) (.inl (.inr ⟨_, if_pos rfl⟩)) (fun b u z => ?_) (fun b u z => ?_) fun _ _ => hk
    · by_cases e : b = a
      · exact .inr ⟨_, _, if_pos e⟩
      · exact .inl (if_neg e)
    · by_cases e : b = a
      · subst e
        cases (if_pos rfl).symm.trans z
        exact ⟨script, by rw [List.length_map]; exact fits, vs, _, rv, script⟩
      · cases (if_neg e).symm.trans z
    · by_cases e : b = a
      · exact e
      · cases (if_neg e).symm.trans z
  · obtain ⟨o, hk⟩ := Option.ne_none_iff_exists'.mp hk
    have e := KX a o hk
    rw [script] at e
    cases e
    refine core (fun _ => none) (fun _ => .inl rfl) (.inr ⟨_, vs.toArray, _, hk, rfl, rfl, rfl, by rw [List.size_toArray, hi.length]; exact fits, by simpa using rv⟩) (fun _ _ z => nomatch z) (fun _ _ z => nomatch z) fun _ z => nomatch z
end
theorem walkG {l : PySem.W.OpenLaw} {n k : Nat} {q : Program} {loose : List Str} {XP : (Str → Option Value) → Heap → Prop} {YP : World → Heap → Prop} {d : DefRec} {CX : CXT} {x : Str} (most : l.most = some n) (small : n ≤ sizeLine) (nodef : d.params.defaults = []) (room : Room k callerA)
    (F : ∀ (w : World) (mg : Str → Option Value) (fa : Addr) (h : Heap), YP w h → h.Ns mainGlobals mg → mg d.name = some (.ref fa) → ∃ (K : PySem.W.Frag) (fd : FuncData) (sp : Sp), K.In h ∧ (∀ (s : Shared) (u : Value), BindsTo s fd ⟨[u], []⟩ [(x, u)]) ∧
      (∀ (H : Hp) (a : Addr) (ns : List Int), ns.length ≤ n → Only H → SqL K H a (ns.map V.int) → sp [.ref a] H (fun v _ => v = .bl true) fun _ _ _ => False) ∧ ∀ base : Heap, K.In base → base.Ns mainGlobals mg → FnG l.prog w K mg base CX k fa fd [x] sp)
    (none_ : ∀ (H : Hp) (s : Shared) (e : Value) (s' : Shared), CX [] H s (fun _ _ _ => False) e s' → False) : PySem.W.WalkO q loose XP YP l.row.toRowW d [] (fun f vs => PySem.call f vs) := by
  refine Att.attach_call most nodef fun w s₀ s₁ mg mb fa o pm cd doc a vs ns G Y ho hd hcd named script are many still => ?_
  obtain ⟨K, fd, sp, KX, bound, says, go⟩ := F w mg fa _ Y G.T.g named
  exact lawG KX G.T.g G.T.b G.T.builtins G.T.nolimit still script are (Nat.le_trans many small) room go bound (fun H only seq => says H a ns many only seq) fun H e => none_ H s₁ e
end L3
set_option Elab.async false
set_option linter.all false
set_option maxRecDepth 100000
set_option autoImplicit false
namespace L3
open PySem PySem.Spec L2
open PyProof.Rows hiding St

/-! ### statements -/
def sSet (i : Nat) (f : DEnv → Py D) : DEnv → Py Fl := fun ρ => Py.bnd (f ρ) fun d => Py.ret (.nx (ρ.set i (some d)))
def sAsg (f : DEnv → Py D) (ft : D → DEnv → Py DEnv) : DEnv → Py Fl := fun ρ => Py.bnd (f ρ) fun d => Py.bnd (ft d ρ) fun ρ' => Py.ret (.nx ρ')
def sRet (f : DEnv → Py D) : DEnv → Py Fl := fun ρ => Py.bnd (f ρ) fun d => Py.ret (.rt d)
def sRetN : DEnv → Py Fl := fun _ => Py.ret (.rt .non)
def sDrop (f : DEnv → Py D) : DEnv → Py Fl := fun ρ => Py.bnd (f ρ) fun _ => Py.ret (.nx ρ)
def sIf (t : DEnv → Py Bool) (a b : DEnv → Py Fl) : DEnv → Py Fl := fun ρ => Py.bnd (t ρ) fun c => if c then a ρ else b ρ
def sNext : DEnv → Py Fl := fun ρ => Py.ret (.nx ρ)
def sSeq (a b : DEnv → Py Fl) : DEnv → Py Fl := fun ρ => Py.bnd (a ρ) fun r => match r with
  | .nx ρ' => b ρ'
  | r => Py.ret r
def sBad : DEnv → Py Fl := fun _ => Py.bad
def sBk : DEnv → Py Fl := fun ρ => Py.ret (.bk ρ)
def sCt : DEnv → Py Fl := fun ρ => Py.ret (.ct ρ)
section
variable {C : DX} {pos : Pos} {e : Expr} {st : Stmt} {sts rest : List Stmt} {f : DEnv → Py D} {a b : DEnv → Py Fl} {t : DEnv → Py Bool}
theorem ds_set {i : Nat} {x : Str} {pos' : Pos} (hN : C.X.N.Nodup) (he : DE C e f) (hi : C.X.N[i]? = some x := by rfl) (hx : Loc C.X.env.scope x := by first | exact Or.inl rfl | exact Or.inr rfl) (hs : swapsWith e (some (.Name x pos')) pos.line C.X.env = pure false := by rfl)
    (hf : C.X.fn x = true ∨ C.X.env.scope.names.lookup x = some .local := by first | exact .inl rfl | exact .inr rfl) : DS C (.Assign [.Name x pos'] e pos) (sSet i f) := ⟨fun {g ρ M σ H} E R p =>
  wps (ps_set hN hi hx self_e hs hf) (he.then_ R p fun v d M1 H1 g1 l1 R1 r1 p1 => p1 _ _ g1 l1 (R1.set i r1))⟩
theorem ds_asg {tg : Expr} {ft : D → DEnv → Py DEnv} {vs : List Nat} {tt : TG} (he : DE C e f) (hg : DG C vs tg ft tt) (hs : swapsWithSole [tg] e pos.line C.X.env = pure false := by rfl) (hw : swappedStores [tg] e C.X.env = pure none := by rfl)
    (h1 : (assignEach [tg] C.X.env).map (·.2) = [assign tg C.X.env] := by rfl) : DS C (.Assign [tg] e pos) (sAsg f ft) := ⟨fun {g ρ M σ H} E R p =>
  wps (ps_asg self_e hg.pg hs hw h1) (he.then_ R p fun v d M1 H1 g1 l1 R1 r1 p1 => hg.run _ R1 r1 ((post_bnd.mp p1).imp fun ρ' M2 p2 σ' H' g' l' R' _ => p2 σ' H' g' (l1.trans l') R'))⟩
/-- a, b = x, y -/
def parK (i j : Nat) (ρ : DEnv) : List D → Py Fl
  | [d, e] => Py.ret (.nx ((ρ.set i (some d)).set j (some e)))
  | _ => Py.bad
def sPar (i j : Nat) (ff : DEnv → Py (List D)) : DEnv → Py Fl := fun ρ => Py.bnd (ff ρ) (parK i j ρ)
theorem parK_post {i j : Nat} {ρ : DEnv} {ds : List D} {M : Store} {q : Fl → Store → Prop} {E : Exn → Store → Prop} (p : Post (parK i j ρ ds M) q E) : ∃ d e, ds = [d, e] ∧ q (.nx ((ρ.set i (some d)).set j (some e))) M := by
  unfold parK at p
  split at p
  · exact ⟨_, _, rfl, p⟩
  · exact p.elim
theorem ds_par {i j : Nat} {x y : Str} {a b : Expr} {ff : DEnv → Py (List D)} {px py pt : Pos} {kt k2 : Nat} {pt2 : Pos} (hc : C.X.calm = true) (hN : C.X.N.Nodup) (ha : DA C [a, b] ff) (hi : C.X.N[i]? = some x := by rfl) (hj : C.X.N[j]? = some y := by rfl) (hij : i ≠ j := by decide)
    (hx : C.X.env.scope.names.lookup x = some .local := by rfl) (hy : C.X.env.scope.names.lookup y = some .local := by rfl)
    (hw : swappedStores [.Tuple [.Name x px, .Name y py] kt pt] (.Tuple [a, b] k2 pt2) C.X.env = pure (some [x, y]) := by rfl)
    (hs : swapsWithSole [.Tuple [.Name x px, .Name y py] kt pt] (.Tuple [a, b] k2 pt2) pos.line C.X.env = pure false := by rfl) :
    DS C (.Assign [.Tuple [.Name x px, .Name y py] kt pt] (.Tuple [a, b] k2 pt2) pos) (sPar i j ff) := ⟨fun {g ρ M σ H} E R p =>
  wps (ps_par hc hN hi hj hij hx hy self_a hw hs) (ha.then_ R p fun vs ds M1 H1 g1 l1 R1 r1 p1 => by
    obtain ⟨d, e, rfl, p2⟩ := parK_post p1
    obtain ⟨v, w', rfl, ra, rb⟩ := r1.two
    exact ⟨v, w', rfl, p2 _ _ g1 l1 ((R1.set i ra).set j rb)⟩)⟩
theorem ds_ret (he : DE C e f) : DS C (.Return (some e) pos) (sRet f) := ⟨fun {g ρ M σ H} E R p =>
  wps (ps_ret self_e) (he.then_ R p fun v d M1 H1 g1 l1 R1 r1 p1 => p1 v H1 g1 l1 R1.b R1.h r1)⟩
theorem ds_retN : DS C (.Return none pos) sRetN := ⟨fun {g ρ M σ H} E R p => wps ps_retN (show E.rt .non H from p .non H g (G.le.refl g) R.b R.h .non)⟩
theorem ds_expr (he : DE C e f) (hs : swapsWith e none pos.line C.X.env = pure false := by rfl) : DS C (.Expr e pos) (sDrop f) := ⟨fun {g ρ M σ H} E R p =>
  wps (ps_expr self_e hs) (he.then_ R p fun v d M1 H1 g1 l1 R1 r1 p1 => p1 _ _ g1 l1 R1)⟩
theorem ds_if {c : Expr} {xs ys : List Stmt} (hc : DT C c t) (ha : DSs C xs a) (hb : DSs C ys b) : DS C (.If c xs ys pos) (sIf t a b) := ⟨fun {g ρ M σ H} E R p =>
  wps (ps_if self_t self_ss self_ss) (hc.then_ R p fun c M1 H1 g1 l1 R1 p1 => by
    cases c with
    | true => rw [if_pos rfl]; exact ha.run E R1 (Post.imp (show Post (a ρ M1) _ _ from p1) fun _ _ q => q.later l1)
    | false => rw [if_neg Bool.false_ne_true]; exact hb.run E R1 (Post.imp (show Post (b ρ M1) _ _ from p1) fun _ _ q => q.later l1))⟩
theorem ds_pass : DS C (.Pass pos) sNext := ⟨fun {g ρ M σ H} E R p => wps ps_pass (show E.nx σ H from p σ H g (G.le.refl g) R)⟩
theorem ds_doc {x : Str} {j : Nat} {pos' : Pos} : DS C (.Expr (.Constant (.str x) j pos) pos') sNext := ⟨fun {g ρ M σ H} E R p => wps ps_doc (show E.nx σ H from p σ H g (G.le.refl g) R)⟩
theorem ds_break : DS C (.Break pos) sBk := ⟨fun {g ρ M σ H} E R p => wps ps_break (show E.bk σ H from p σ H g (G.le.refl g) R)⟩
theorem ds_continue : DS C (.Continue pos) sCt := ⟨fun {g ρ M σ H} E R p => wps ps_continue (show E.ct σ H from p σ H g (G.le.refl g) R)⟩
/-- what is never reached -/
theorem ds_never : DS C st sBad := ⟨fun {g ρ M σ H} E R p => False.elim p⟩
theorem dss_never : DSs C sts sBad := ⟨fun {g ρ M σ H} E R p => False.elim p⟩
theorem dss_nil : DSs C [] sNext := ⟨fun {g ρ M σ H} E R p => wpss pss_nil (show E.nx σ H from p σ H g (G.le.refl g) R)⟩
theorem dss_one (h : DS C st a) : DSs C [st] a := ⟨fun {g ρ M σ H} E R p => wpss (pss_one self_s) (h.run E R p)⟩
theorem dss_cons (ev : C.Even) (h : DS C st a) (hr : DSs C rest b) : DSs C (st :: rest) (sSeq a b) := ⟨fun {g ρ M σ H} E R p => by
  refine wpss (pss_cons self_s self_ss) (h.run _ R ((post_bnd.mp p).imp fun r M1 p1 => ?_))
  cases r with
  | nx ρ' => exact fun σ' H' g' l' R' => hr.run E R' (p1.mono (fun _ _ q => q.later l') fun _ _ z => ev _ _ _ _ z)
  | bk ρ' => exact p1
  | ct ρ' => exact p1
  | rt d => exact p1⟩
/-- a list at the location in slot i is changed no more: it is data from here on -/
def fzL (i : Nat) (b : DEnv → Py Fl) : DEnv → Py Fl := fun ρ => Py.bnd (getV ρ[i]?) fun d => locL d fun n xs => fun M => b (ρ.set i (some (.lst xs))) (M.set n none)
theorem getV_post {o : Option (Option D)} {M : Store} {q : D → Store → Prop} {E : Exn → Store → Prop} (p : Post (getV o M) q E) : ∃ d, o = some (some d) ∧ q d M := by
  cases o with
  | none => exact p.elim
  | some o =>
    cases o with
    | none => exact p.elim
    | some d => exact ⟨d, rfl, p⟩
theorem dss_fz (i : Nat) (ev : C.Even) (h : DSs C sts b) : DSs C sts (fzL i b) := ⟨fun {g ρ M σ H} E R p => by
  obtain ⟨d, e, p1⟩ := getV_post (post_bnd.mp p)
  obtain ⟨v, e1, r⟩ := R.e.at_ i _ e
  obtain ⟨n, xs, a, vs, rfl, rfl, em, e2, e3, t, p2⟩ := locL_post R.h r p1
  obtain ⟨L, R2⟩ := R.h.freeze em e2 e3
  have r2 : Rep C.X.K (g.add a (.lst vs)) (.ref a) (.lst xs) := .lst upd_same (t.mono L)
  have hs : σ.set i (some (.ref a)) = σ := by
    refine List.ext_getElem? fun j => ?_
    by_cases hj : i = j
    · subst hj
      rw [List.getElem?_set_self (List.getElem?_eq_some_iff.mp e1).1]
      exact e1.symm
    · rw [List.getElem?_set_ne hj]
  have R3 : RelE C.X.K (g.add a (.lst vs)) σ (ρ.set i (some (.lst xs))) := by
    have := (R.e.mono L).set i r2
    rw [hs] at this
    exact this
  exact h.run E ⟨R.b.trans L, R2, R3⟩ (Post.mono (show Post (b _ _) _ _ from p2) (fun _ _ q => q.later L) fun _ _ z => ev _ _ _ _ z)⟩
/-- o[i] = e -/
def setK (n : Nat) (xs : List D) (v : D) : D → Py Unit
  | .int k => match ixN xs.length k with
    | some j => fun M => .ok () (M.set n (some (.lst (xs.set j v))))
    | none => Py.bad
  | _ => Py.bad
def setD (o i v : D) : Py Unit := locL o fun n xs => setK n xs v i
theorem setK_post {n : Nat} {xs : List D} {v i : D} {M : Store} {q : Unit → Store → Prop} {E : Exn → Store → Prop} (p : Post (setK n xs v i M) q E) : ∃ k j, i = .int k ∧ ixN xs.length k = some j ∧ q () (M.set n (some (.lst (xs.set j v)))) := by
  cases i with
  | int k =>
    have p' : Post ((match ixN xs.length k with | some j => fun M => .ok () (M.set n (some (.lst (xs.set j v)))) | none => Py.bad : Py Unit) M) q E := p
    cases h : ixN xs.length k with
    | none => rw [h] at p'; exact p'.elim
    | some j => rw [h] at p'; exact ⟨k, j, rfl, h, p'⟩
  | _ => exact p.elim
def sSub (fo fi fv : DEnv → Py D) : DEnv → Py Fl := fun ρ => Py.bnd (fv ρ) fun v => Py.bnd (fo ρ) fun o => Py.bnd (fi ρ) fun i => Py.bnd (setD o i v) fun _ => Py.ret (.nx ρ)
theorem setD_post {K : PySem.W.Frag} {g : G} {M : Store} {H : Hp} {o i v : D} {x y z : V} {q : Unit → Store → Prop} {E : Exn → Store → Prop} (R : RelH K g M H) (rx : Rep K g x o) (ry : Rep K g y i) (rz : Rep K g z v) (p : Post (setD o i v M) q E) :
    ∃ a vs k j M', x = .ref a ∧ y = .int k ∧ H a = some (.lst vs) ∧ ixN vs.length k = some j ∧ q () M' ∧ RelH K g M' (upd H a (.lst (vs.set j z))) := by
  obtain ⟨n, xs, a, vs, rfl, rfl, e, e1, e2, t, p1⟩ := locL_post R rx p
  obtain ⟨k, j, rfl, ej, q⟩ := setK_post p1
  exact ⟨a, vs, k, j, _, rfl, rep_int ry, e2, by rw [t.length]; exact ej, q, R.put e e1 ⟨_, upd_same, t.set rz j⟩⟩
theorem ds_sub {o i : Expr} {fo fi : DEnv → Py D} {tpos : Pos} (ho : DE C o fo) (hi : DE C i fi) (hv : DE C e f)
    (ha : ∀ v, assign (.Subscript o i tpos) C.X.env v = (do
      let ov ← holding [v] (eval o C.X.env)
      let iv ← holding [v, ov] (eval i C.X.env)
      standAt tpos
      holding [v, ov, iv] (setItem ov iv v)
      release [v, ov, iv] []) := by intro _; rfl)
    (hs : swapsWithSole [.Subscript o i tpos] e pos.line C.X.env = pure false := by rfl) (hw : swappedStores [.Subscript o i tpos] e C.X.env = pure none := by rfl)
    (h1 : (assignEach [.Subscript o i tpos] C.X.env).map (·.2) = [assign (.Subscript o i tpos) C.X.env] := by rfl) : DS C (.Assign [.Subscript o i tpos] e pos) (sSub fo fi f) := ⟨fun {g ρ M σ H} E R p =>
  wps (ps_asg self_e (pg_sub self_e self_e set_list ha) hs hw h1) (hv.then_ R p fun v d M1 H1 g1 l1 R1 r1 p1 => ho.then_ R1 p1 fun x o' M2 H2 g2 l2 R2 r2 p2 => hi.then_ R2 p2 fun y i' M3 H3 g3 l3 R3 r3 p3 => by
    obtain ⟨a, vs, k, j, M', rfl, rfl, e1, e2, q, R'⟩ := setD_post R3.h (r2.mono l3) r3 (r1.mono (l2.trans l3)) (post_bnd.mp p3)
    exact ⟨a, vs, k, j, rfl, rfl, e1, e2, q _ _ g3 ((l1.trans l2).trans l3) (R3.next (G.le.refl g3) R')⟩)⟩
/-- name op= e -/
def sAug (i : Nat) (op : D → D → Py D) (f : DEnv → Py D) : DEnv → Py Fl := fun ρ => Py.bnd (getV ρ[i]?) fun x => Py.bnd (f ρ) fun y => Py.bnd (op x y) fun z => Py.ret (.nx (ρ.set i (some z)))
theorem ds_aug {i : Nat} {x : Str} {pos' : Pos} {o : Operator} {op : D → D → Py D} {r : R2} (hN : C.X.N.Nodup) (he : DE C e f) (ho : OpR C.X (inplaceOp o) r)
    (hop : ∀ {g : G} {ρ : DEnv} {M : Store} {σ : St} {H : Hp} {x y : V} {dx dy : D} (Q : VK), Rl C g ρ M σ H → Rep C.X.K g x dx → Rep C.X.K g y dy → Post (op dx dy M) (QV C g ρ σ Q) (C.We ρ) → r x y H Q) (hi : C.X.N[i]? = some x := by rfl) (hx : Loc C.X.env.scope x := by first | exact Or.inl rfl | exact Or.inr rfl)
    (hf : C.X.fn x = true ∨ C.X.env.scope.names.lookup x = some .local := by first | exact .inl rfl | exact .inr rfl) : DS C (.AugAssign (.Name x pos') o e pos) (sAug i op f) := ⟨fun {g ρ M σ H} E R p => by
  obtain ⟨d, e1, p1⟩ := getV_post (post_bnd.mp p)
  obtain ⟨v, e2, r2⟩ := R.e.at_ i d e1
  refine wps (ps_aug hN hi hx self_e (show PIp C.X o r from ho) hf) ⟨v, e2, he.then_ R p1 fun u y M1 H1 g1 l1 R1 r1 p2 => ?_⟩
  exact hop _ R1 (r2.mono l1) r1 ((post_bnd.mp p2).imp fun z M2 q w' H' g' l' R' r' => q _ _ g' (l1.trans l') (R'.set i r'))⟩
/-- while -/
def whD (t : DEnv → Py Bool) (body : DEnv → Py Fl) : Nat → DEnv → Py Fl
  | 0, _ => Py.bad
  | n + 1, ρ => Py.bnd (t ρ) fun c => if c then Py.bnd (body ρ) fun r => match r with
      | .nx ρ' => whD t body n ρ'
      | .ct ρ' => whD t body n ρ'
      | .bk ρ' => Py.ret (.nx ρ')
      | .rt v => Py.ret (.rt v)
    else Py.ret (.nx ρ)
theorem ds_while (n : Nat) {c : Expr} {body : List Stmt} (hp : PassesOwn (model C.X.prog C.X.w) C.X.A C.X.env C.X.xe) (ev : C.Even) (hc : DT C c t) (hb : DSs C body b) : DS C (.While c body [] pos) (whD t b n) := ⟨fun {g ρ M σ H} E R p => by
  refine wps (ps_while hp self_t self_ss) ⟨fun m σ' H' => ∃ g' ρ' M', g.le g' ∧ Rl C g' ρ' M' σ' H' ∧ Post (whD t b m ρ' M') (QS C g E) (C.We ρ), ⟨n, g, ρ, M, G.le.refl g, R, p⟩, ?_⟩
  rintro m σ' H' ⟨g', ρ', M', l', R', p'⟩
  cases m with
  | zero => exact p'.elim
  | succ m =>
    have p2 : Post (Py.bnd (t ρ') (fun c => if c then Py.bnd (b ρ') fun r => match r with
      | .nx ρ' => whD t b m ρ'
      | .ct ρ' => whD t b m ρ'
      | .bk ρ' => Py.ret (.nx ρ')
      | .rt v => Py.ret (.rt v)
    else Py.ret (.nx ρ')) M') (QS C g E) (C.We ρ') := p'.mono (fun _ _ z => z) fun _ _ z => ev _ _ _ _ z
    refine hc.then_ R' p2 fun c M1 H1 g1 l1 R1 p3 => ?_
    cases c with
    | false =>
      rw [if_neg Bool.false_ne_true]
      exact p3 σ' H1 g1 (l'.trans l1) R1
    | true =>
      rw [if_pos rfl]
      refine ⟨fun σ2 H2 => ∃ g2 ρ2 M2, g.le g2 ∧ Rl C g2 ρ2 M2 σ2 H2 ∧ Post (whD t b m ρ2 M2) (QS C g E) (C.We ρ), fun σ2 H2 h => ⟨m, Nat.lt_succ_self m, h⟩, ?_⟩
      refine hb.run _ R1 ((post_bnd.mp p3).imp fun r M4 p4 => ?_)
      have L := l'.trans l1
      cases r with
      | nx ρ4 => exact fun σ4 H4 g4 l4 R4 => ⟨g4, ρ4, M4, L.trans l4, R4, p4.mono (fun _ _ z => z) fun _ _ z => ev _ _ _ _ z⟩
      | ct ρ4 => exact fun σ4 H4 g4 l4 R4 => ⟨g4, ρ4, M4, L.trans l4, R4, p4.mono (fun _ _ z => z) fun _ _ z => ev _ _ _ _ z⟩
      | bk ρ4 => exact fun σ4 H4 g4 l4 R4 => p4 σ4 H4 g4 (L.trans l4) R4
      | rt v => exact fun v4 H4 g4 l4 b4 R4 r4 => p4 v4 H4 g4 (L.trans l4) b4 R4 r4⟩
end

/-! ### defs -/
/-- how an exception stands for one of data -/
def ExnRep (K : PySem.W.Frag) (g : G) (c : Value) (d : Option Addr) (e : Exn) : Prop :=
  (∃ v, RelV v c ∧ Rep K g v e.cls) ∧ match d with
    | none => e.fs = []
    | some a => ∃ vs, g.F a = some (.xd vs) ∧ Reps K g (vs.map (·.2)) (e.fs.map (·.2)) ∧ vs.map (·.1) = e.fs.map (·.1)
/-- a def's promise: it gives what m gives -/
def spD (K : PySem.W.Frag) (n : Nat) (m : List D → Py D) : Sp := fun vs H Q E => vs.length = n ∧ ∃ g M ds, RelH K g M H ∧ Reps K g vs ds ∧
  Post (m ds M) (fun d M' => ∀ v H' g', g.le g' → RelH K g' M' H' → Rep K g' v d → Q v H') (fun e M' => ∀ c dx H' g', g.le g' → RelH K g' M' H' → ExnRep K g' c dx e → E c dx H')
/-- what a body gives -/
@[irreducible] def runD (n : Nat) (body : DEnv → Py Fl) : List D → Py D := fun ds => Py.bnd (body (ds.map some ++ List.replicate (n - ds.length) none)) fun r => match r with
  | .nx _ => Py.ret .non
  | .rt d => Py.ret d
  | _ => Py.bad
/-- the def named x keeps to m -/
structure Dfn (P : Program) (w : World) (K : PySem.W.Frag) (mg : Str → Option Value) (base : Heap) (CX : CXT) (k : Nat) (x : Str) (n : Nat) (m : List D → Py D) : Prop where
  ex : ∃ f fd ps, FnG P w K mg base CX k f fd ps (spD K n m) ∧ mg x = some (.ref f) ∧ PySem.W.keepIn K (.ref f) = true ∧ Binds K fd ps []
/-- exceptions of a callee are taken here -/
def TkD (C : DX) (CX : CXT) : Prop := ∀ σ, PassesAt CX C.X σ (fun c dx H' => ∃ e ρ M' g', C.B.le g' ∧ RelH C.X.K g' M' H' ∧ RelE C.X.K g' σ ρ ∧ ExnRep C.X.K g' c dx e ∧ C.W e ρ M')
section
variable {C : DX} {CX : CXT} {k n : Nat} {x : Str} {p pos : Pos} {e : Expr} {es : List Expr} {ff : DEnv → Py (List D)} {m : List D → Py D}
theorem sp_run {g : G} {ρ : DEnv} {M : Store} {σ : St} {H : Hp} {vs : List V} {ds : List D} {Q : VK} {q : D → Store → Prop} (R : Rl C g ρ M σ H) (r : Reps C.X.K g vs ds) (hl : vs.length = n) (p : Post (m ds M) q (C.We ρ)) (h : ∀ d M', q d M' → QV C g ρ σ Q d M') :
    spD C.X.K n m vs H Q (fun c dx H' => ∃ e ρ M' g', C.B.le g' ∧ RelH C.X.K g' M' H' ∧ RelE C.X.K g' σ ρ ∧ ExnRep C.X.K g' c dx e ∧ C.W e ρ M') :=
  ⟨hl, g, M, ds, R.h, r, p.mono (fun d M' z v H' g' l R' r' => h d M' z v H' g' l (R.next l R') r') fun e M' z c dx H' g' l R' x => ⟨e, ρ, M', g', R.b.trans l, R', R.e.mono l, x, z⟩⟩
/-- the number of the arguments -/
def nargs (n : Nat) (m : List D → Py D) : List D → Py D := fun ds => Py.chk (ds.length = n) (m ds)
theorem de_call (D' : Dfn C.X.prog C.X.w C.X.K C.X.mg C.X.base CX k x n m) (hr : RoomG k C.X.A) (tk : TkD C CX) (ha : DA C (e :: es) ff) (hg : Gl C.X x := by rfl) (hdb : (x == ("__debug__" : Str)) = false := by decide)
    (he : starEach (e :: es) C.X.env = (false, eval e C.X.env) :: starEach es C.X.env := by rfl) (hpl : (backTo pos (starEach es C.X.env)).any (·.1) = false := by rfl) : DE C (.Call (.Name x p) (e :: es) [] pos) (eCall (nargs n m) ff) := by
  obtain ⟨f, fd, ps, F, hm, hk, hb⟩ := D'.ex
  refine ⟨fun {g ρ M σ H} Q R p => wpe (pe_callG F hr hg hm hk hb tk self_a hdb he hpl) (ha.then_ R p fun vs ds M1 H1 g1 l1 R1 r1 p1 => ?_)⟩
  obtain ⟨hl, p2⟩ := post_chk.mp p1
  exact sp_run R1 r1 (by rw [r1.length]; exact hl) p2 fun _ _ q => q.later l1
theorem de_call0 (D' : Dfn C.X.prog C.X.w C.X.K C.X.mg C.X.base L2.CX0 k x 0 m) (hr : RoomG k C.X.A) (hg : Gl C.X x := by rfl) (hdb : (x == ("__debug__" : Str)) = false := by decide) : DE C (.Call (.Name x p) [] [] pos) (eCall (nargs 0 m) aNil) := by
  obtain ⟨f, fd, ps, F, hm, hk, hb⟩ := D'.ex
  refine ⟨fun {g ρ M σ H} Q R p => wpe (pe_callG0 (E := fun _ _ _ _ => True) F hr hg hm hk hb (fun _ _ _ _ _ _ _ h => h.elim) hdb) ?_⟩
  have p1 := (post_bnd.mp p : Post (Py.chk (([] : List D).length = 0) (m []) M) (QV C g ρ σ Q) (C.We ρ))
  obtain ⟨hl, p2⟩ := post_chk.mp p1
  exact ⟨rfl, g, M, [], R.h, .nil, p2.mono (fun d M' z v H' g' l R' r' => z v H' g' l (R.next l R') r') fun _ _ _ _ _ _ _ _ _ _ => trivial⟩
end
/-- no exception leaves -/
theorem tk0 {C : DX} : TkD C L2.CX0 := fun _ _ _ _ _ _ _ h => h.elim
/-- the context of a body -/
abbrev bodyC (CX : CXT) (P : Program) (w : World) (K : PySem.W.Frag) (mg : Str → Option Value) (base : Heap) (N : List Str) (qual : Str) (scope : Scope) (f : Addr) (cd : Value) (A : Around) (outer : List PySem.Env) (s : Shared) (H : Hp) (E : XK) (g : G) : DX :=
  ⟨cxOf CX P w K mg base N qual scope f cd A outer s H E, g, fun e _ M' => ∀ c dx H' g', g.le g' → RelH K g' M' H' → ExnRep K g' c dx e → E c dx H'⟩
theorem body_even {CX : CXT} {P : Program} {w : World} {K : PySem.W.Frag} {mg : Str → Option Value} {base : Heap} {N : List Str} {qual : Str} {scope : Scope} {f : Addr} {cd : Value} {A : Around} {outer : List PySem.Env} {s : Shared} {H : Hp} {E : XK} {g : G} :
    (bodyC CX P w K mg base N qual scope f cd A outer s H E g).Even := fun _ _ _ _ z => z
section
variable {P : Program} {w : World} {K : PySem.W.Frag} {mg : Str → Option Value} {base : Heap} {CX : CXT} {x qual : Str} {params : Arguments} {body : List Stmt} {scope : Scope} {f : Addr} {fd : FuncData} {N ps : List Str} {k n : Nat} {b : DEnv → Py Fl}
/-- THE RULE for a def -/
theorem fn_d (F : FunD K x qual params body scope [] [] f fd) (S : FnScope N ps scope) (hn : ps.length = n)
    (hb : ∀ (cdv : Value) (A : Around) (outer : List PySem.Env) (s : Shared) (H : Hp) (E : XK) (g : G), RoomG k (A.deeper (envOfC qual scope s.heap.objs.size f cdv)) → DSs (bodyC CX P w K mg base N qual scope f cdv A outer s H E g) body b) :
    FnG P w K mg base CX (k + 1) f fd ps (spD K n (runD N.length b)) := by
  refine okG F S (fun vs H Q E h => by rw [h.1, hn]) (fun cdv A outer s H vs Q E hr h => ?_)
  obtain ⟨hl, g, M, ds, R, r, p⟩ := h
  unfold runD at p
  refine ⟨_, self_ss, (hb cdv A outer s H E g hr).run _ ⟨G.le.refl g, R, RelE.start r⟩ ((post_bnd.mp p).imp fun fl M' q => ?_)⟩
  cases fl with
  | nx ρ => exact fun σ' H' g' l' R' => q .non H' g' l' R'.h .non
  | rt d => exact fun v H' g' l' _ R' r' => q v H' g' l' R' r'
  | bk ρ => exact q.elim
  | ct ρ => exact q.elim
end
end L3
set_option Elab.async false
set_option linter.all false
set_option maxRecDepth 100000
set_option autoImplicit false

namespace PySem
/-! ### enumerate over a tuple -/
set_option maxHeartbeats 1000000 in
theorem meets_enumerate_newB1 {v : Value} {o : Obj} {H : Heap → Prop} (B : Begins v o H) :
    Meets (Builtin.«enumerate.__new__» ⟨[.type "enumerate", v], []⟩) (fun _ R s => H s.heap ∧
      R (.ok (.ret (.ref (s.heap.push o).objs.size))) { s with heap := (s.heap.push o).push { cls := .type "enumerate", data := .fields #[.none, .bool false, .ref s.heap.objs.size, rawInt 0, .none, .none] } }) :=
  .of_wp fun prog w A R s h => by
    obtain ⟨hp, g, d, tk, os⟩ := s; obtain ⟨h1, h⟩ := h
    have hsub := sub_enumerate
    have q1 : ∀ {A' : Around} {E : Value → Shared → Prop} {Q : Value → Shared → Prop}, Q (.ref hp.objs.size) ⟨hp.push o, g, d, tk, os⟩ → wpAny (model prog w) A' (pyIter v) Q E ⟨hp, g, d, tk, os⟩ :=
      fun q => B.iter prog w _ _ ⟨hp, g, d, tk, os⟩ _ h1 q
    wp_walk using q1
    refine wpAny_stack_any fun st => wpAny_pure ?_
    split
    · rename_i c _ _ _ _ _
      cases (c == Value.type "enumerate")
      · wp_walk using q1
        exact ⟨_, rfl, h⟩
      · wp_walk using q1
        exact ⟨_, rfl, h⟩
    · wp_walk using q1
      exact ⟨_, rfl, h⟩
section
variable {prog : Program} {w : World} {A : Around} {E : Value → Shared → Prop} {s : Shared}
theorem call_enumerate_B1 {v : Value} {o : Obj} {H : Heap → Prop} {Q : Value → Shared → Prop} (B : Begins v o H) (h1 : H s.heap)
    (h : ∀ h', IsEnum h' (s.heap.objs.size + 1) s.heap.objs.size 0 .none → h'.get? s.heap.objs.size = some o → h'.objs.size = s.heap.objs.size + 2 →
      (∀ b o, s.heap.get? b = some o → h'.get? b = some o) → Q (.ref (s.heap.objs.size + 1)) { s with heap := h' }) :
    wpAny (model prog w) A (call (.type "enumerate") [v]) Q E s := by
  refine callType_new F.called_enumerate (by decide) (F.typeCall_enumerate_1 _) (F.newCall_enumerate_1 _) (fun obj => F.args_object_init_2 obj _) F.entry_enumerate_new
    (meets_enumerate_newB1 B) ⟨h1, ?_⟩
  have hz : (s.heap.push o).objs.size = s.heap.objs.size + 1 := Heap.size_push ..
  show _ ∧ _
  rw [hz]
  have he : IsEnum ((s.heap.push o).push
      { cls := .type "enumerate", data := .fields #[.none, .bool false, .ref s.heap.objs.size, rawInt 0, .none, .none] }) (s.heap.objs.size + 1) s.heap.objs.size 0 .none := by
    have := Heap.get?_push_size (s.heap.push o)
      (o := { cls := .type "enumerate", data := .fields #[.none, .bool false, .ref s.heap.objs.size, rawInt 0, .none, .none] }) rfl
    rw [hz] at this; exact this
  exact ⟨⟨_, he, rfl⟩, h _ he (Heap.get?_push_of_some _ (Heap.get?_push_size _ B.free)) (by rw [Heap.size_push, hz]) fun b o x => Heap.get?_push_of_some _ (Heap.get?_push_of_some _ x)⟩
theorem pyNext_enumT_end {e it l : Addr} {i : Nat} {items : Array Value} {old : Value} {Q : Option Value → Shared → Prop} (hh : A.handled = none)
    (he : IsEnum s.heap e it i old) (hit : s.heap.IsTupleIter it l i) (hl : s.heap.IsTuple l items) (hx : items[i]? = none)
    (hQ : ∀ h', Heap.ExtBut it s.heap h' → Q none { s with heap := h' }) : wpAny (model prog w) A (pyNext (.ref e)) Q E s := by
  have hT : s.TypeIs (.ref e) "enumerate" := ⟨_, he, rfl⟩
  unfold pyNext
  refine wpAny_bind (wpAny_attempt (wpAny_callSpecial?_slot (name := Str.ofString "__next__") hT F.slot_enumerate_next
    (wpAny_call_entry F.slot_enumerate_next hT F.entry_enumerate_next ?_ (F.args_enumerate_next_1 _))))
  show wpAny _ _ (field (.ref e) 2 >>= _) _ _ _
  refine wpAny_bind (wpAny_field he rfl (x := .ref it) rfl ?_)
  refine wpAny_bind (wpAny_nextOf_tuple_end hh hit hl hx fun h' x he' hx' => ?_)
  obtain ⟨o, ho, hc⟩ := hx'
  refine wpAny_bind (wpAny_isInstance (T := "StopIteration") (b := true) ⟨o, ho, hc⟩ isSubtype_stop ?_)
  exact wpAny_pure (hQ _ he')
end
end PySem
namespace L2
open PySem PySem.Spec PyProof.Rows
/-- the tuple at a, each item in a new pair -/
def IteT (K : PySem.W.Frag) (a : Addr) : It :=
  ⟨fun i H => ∃ (xs : List V) (x : V), SqT K H a xs ∧ xs[i]? = some x, fun i H v H' => ∃ T x, v = .ref T ∧ H T = none ∧ H' = upd H T (.tup [.int (i : Nat), x]) ∧ ∀ xs, SqT K H a xs → xs[i]? = some x, fun i H => ∃ xs : List V, SqT K H a xs ∧ xs.length ≤ i⟩
theorem tupIter_ne {h : Heap} {it a : Addr} {i : Nat} {its : Array Value} (x : h.IsTupleIter it a i) (t : IsTup h a its) : a ≠ it := by
  intro z
  subst z
  obtain ⟨o, h1, h2, _⟩ := x
  obtain ⟨o', h1', h2', _⟩ := t
  rw [h1] at h1'
  cases h1'
  rw [h2] at h2'
  exact absurd h2' (by decide)
theorem enum_ne {h : Heap} {e it a : Addr} {i : Int} {old : Value} {its : Array Value} (x : IsEnum h e it i old) (t : IsTup h a its) : a ≠ e := by
  intro z
  subst z
  obtain ⟨o', h1', h2', _⟩ := t
  have x' : h.get? a = some _ := x
  rw [x'] at h1'
  cases h1'
  have h3 : Value.type "enumerate" = Value.type "tuple" := h2'
  exact absurd h3 (by decide)
theorem turn_enumT {P : Program} {w : World} {K : PySem.W.Frag} {elts : List Expr} {kk : Nat} {tpos : Pos} (a e it : Addr) :
    Turn P w K (.Tuple elts kk tpos) (IteT K a) [e, it] e (fun i h => (∃ old, IsEnum h e it ((i : Nat) : Int) old) ∧ h.IsTupleIter it a i ∧ e ≠ it) where
  mem := by simp
  obj := fun i h st b hb => by
    obtain ⟨⟨old, he⟩, ⟨o, ho, hc, hd⟩, _⟩ := st
    have e' : b = e ∨ b = it := by simpa using hb
    rcases e' with z | z
    · rw [z]; exact ⟨_, he, fun v q => nomatch q⟩
    · rw [z]; exact ⟨o, ho, fun v q => by rw [hd] at q; cases q⟩
  keep := fun i h h' st k => let ⟨⟨old, he⟩, hi, hne⟩ := st; ⟨⟨old, k e (by simp) _ he⟩, hi.at fun o q => k it (by simp) o q, hne⟩
  item := by
    intro X hP hw hK hc i pins s σ H E I hf st hg
    subst hP hw hK
    obtain ⟨⟨old, he⟩, hit, hne⟩ := st
    obtain ⟨xs, x, hq, hx⟩ := hg
    obtain ⟨its, rv, p, hz⟩ := I.tuple hq
    obtain ⟨u, hu, ru⟩ := rv.get hx
    have hel : e < s.heap.objs.size := Heap.lt_size he
    have hil : it < s.heap.objs.size := by obtain ⟨_, q, _⟩ := hit; exact Heap.lt_size q
    have ha1 : a ≠ it := tupIter_ne hit p
    have ha2 : a ≠ e := enum_ne he p
    have hlt : i < its.toArray.size := by
      have := (List.getElem?_eq_some_iff.mp hu).1
      simpa using this
    refine wpAny_pyNext_enum_itemD (Draws.tuple (prog := X.prog) (w := X.w) (A := X.A.in1) (show X.A.in1.handled = none from I.ok.hd hc) it a ha1 its.toArray) he ⟨hit, p⟩ hlt hne (by simp; exact ⟨hne, Ne.symm ha2⟩) fun x' h' tk hPx ho hst' hT hsz hk => ?_
    have ex : x' = u := by
      have h1 : its.toArray[i]? = some x' := hPx
      have h2 : its.toArray[i]? = some u := by simpa using hu
      exact Option.some.inj (h1.symm.trans h2)
    subst ex
    obtain ⟨hit', _⟩ := hst'
    refine ⟨_, rfl, wpAny_letOwnedTupleGo_enum (s := { s with heap := h', toks := tk + 1 }) ho fun h'' he' sb => ?_⟩
    have hT2 : h''.get? s.heap.objs.size = some { cls := .type "tuple", data := .seq #[.int i tk, x'] } := (sb.2 _ (Nat.ne_of_gt hel)).trans hT
    have new : ObjOk X.prog X.w (upd H s.heap.objs.size (.tup [.int (i : Nat), x])) h'' s.heap.objs.size (.tup [.int (i : Nat), x]) :=
      ⟨by show 2 ≤ sizeLine; decide, [.int i tk, x'], .cons ⟨_, rfl⟩ (.cons ru .nil), ⟨_, hT2, rfl, _, rfl⟩⟩
    have I1 : Inv X pins σ (upd H s.heap.objs.size (.tup [.int (i : Nat), x])) { s with heap := h'', toks := tk + 1 } :=
      I.turnedNew (ch := [e, it]) (fun b ob hb q => (sb.2 b (fun z => hb (by simp [z]))).trans (hk b ob (fun z => hb (by simp [z])) (fun z => hb (by simp [z])) q)) hf (Nat.le_refl _) new
    refine ⟨.ref s.heap.objs.size, _, I1, rfl, ⟨_, x, rfl, I.hok.fresh (Nat.le_refl _), rfl, fun ys hy => by rw [I.tuple_inj hy hq]; exact hx⟩, ⟨⟨x', ?_⟩, hit'.at fun o q => (sb.2 it (Ne.symm hne)).trans q, hne⟩, fun b hb => ?_⟩
    · have e1 : ((i + 1 : Nat) : Int) = (i : Int) + 1 := by omega
      rw [e1]; exact he'
    · have hb' : b < s.heap.objs.size := by
        have e' : b = e ∨ b = it := by simpa using hb
        rcases e' with z | z
        · rw [z]; exact hel
        · rw [z]; exact hil
      rw [upd_ne (Nat.ne_of_lt hb')]
      exact (hf b hb).1
  done := by
    intro X hP hw hK hc i pins s σ H E I hf st hg
    subst hP hw hK
    obtain ⟨⟨old, he⟩, hit, hne⟩ := st
    obtain ⟨xs, hq, hx⟩ := hg
    obtain ⟨its, rv, p, hz⟩ := I.tuple hq
    obtain ⟨f0, f1, f2, f3, f4, f5⟩ := hf it (by simp)
    have hl := rv.length
    have ha1 : a ≠ it := tupIter_ne hit p
    exact pyNext_enumT_end (I.ok.hd hc) he hit p (by simp; omega) fun h' eb => ⟨rfl, I.turned (t' := s.toks) (fun b o hb q => eb b o hb q) f0 f1 f3 f4 f5⟩
  self := fun A i s Q E st h => let ⟨⟨_, he⟩, _⟩ := st; wpAny_pyIter_enum he h
def iEnumT (K : PySem.W.Frag) (ta : TA) : TI := fun σ H R => ta σ H fun vs H1 => ∃ a xs, vs = [.ref a] ∧ SqT K H1 a xs ∧ R (IteT K a) H1
theorem pi_enumT {X : Cx} {e : Expr} {ta : TA} {p pos tpos : Pos} {elts : List Expr} {kk : Nat} (hg : Gl X "enumerate") (hm : X.mg "enumerate" = none) (ha : PA X [e] ta) (hs : starEach [e] X.env = [(false, eval e X.env)] := by rfl) :
    PI X (.Tuple elts kk tpos) (.Call (.Name "enumerate" p) [e] [] pos) (iEnumT X.K ta) := by
  refine ⟨fun pins s σ H R I h => ?_⟩
  refine Call_ (ld_blt I hg hm boot_enumerate (PyProof.Rows.callWith_type1 (thn (ha.run pos pins s σ H _ I h) fun us s1 ⟨vs, H1, I1, r1, q1⟩ => ?_) hs rfl))
  obtain ⟨a, xs, ex, hq, q⟩ := q1
  subst ex
  cases r1 with
  | cons r rr =>
    cases rr
    cases r
    obtain ⟨its, rv, p', hz⟩ := I1.tuple hq
    refine call_enumerate_B1 (begins_tuple a its.toArray) p' fun h' he hit hsz hk => wpAny_pyIter_enum he ?_
    have I2 : Inv X pins σ H1 { s1 with heap := h' } := I1.kept (t' := s1.toks) hk
    refine ⟨s1.heap.objs.size + 1, [s1.heap.objs.size + 1, s1.heap.objs.size], _, _, H1, rfl, I2, turn_enumT a (s1.heap.objs.size + 1) s1.heap.objs.size, ⟨⟨.none, he⟩, ⟨_, hit, rfl, rfl⟩, Nat.succ_ne_self _⟩, fun b hb => ?_, q⟩
    have e' : b = s1.heap.objs.size + 1 ∨ b = s1.heap.objs.size := by simpa using hb
    have hle : s1.heap.objs.size ≤ b := by
      rcases e' with z | z
      · rw [z]; exact Nat.le_add_right _ _
      · rw [z]; exact Nat.le_refl _
    exact I1.fpOk hle (I1.hok.fresh hle)
end L2
set_option Elab.async false
set_option linter.all false
set_option maxRecDepth 100000
set_option autoImplicit false
namespace L3
open PySem PySem.Spec L2
open PyProof.Rows hiding St

theorem pi_or {X : Cx} {tg e : Expr} {w1 w2 : TI} (h1 : PI X tg e w1) (h2 : PI X tg e w2) : PI X tg e (fun σ H R => w1 σ H R ∨ w2 σ H R) :=
  ⟨fun pins s σ H R I h => h.elim (h1.run pins s σ H R I) (h2.run pins s σ H R I)⟩
section
variable {C : DX} {pos : Pos} {tg e : Expr} {f : DEnv → Py D}
/-- what it gives is known -/
theorem DE.det (h : DE C e f) {g : G} {ρ : DEnv} {M M1 : Store} {σ : St} {H : Hp} {d : D} {Q : VK} (R : Rl C g ρ M σ H) (hf : f ρ M = .ok d M1) (go : ∀ (v : V) (H' : Hp) (g' : G), g.le g' → Rl C g' ρ M1 σ H' → Rep C.X.K g' v d → Q v H') : WPE C.X e σ H Q :=
  h.run Q R (by rw [hf]; exact go)
theorem DE.exc (h : DE C e f) {g : G} {ρ : DEnv} {M M1 : Store} {σ : St} {H : Hp} {x : Exn} {Q : VK} (R : Rl C g ρ M σ H) (hf : f ρ M = .exc x M1) (hw : C.W x ρ M1) : WPE C.X e σ H Q :=
  h.run Q R (by rw [hf]; exact hw)
/-- a text's signs -/
def chars (z : Str) : List D := z.cps.toList.map fun c => .str ⟨#[c]⟩
theorem walkD_str {K : PySem.W.Frag} {g : G} {z : Str} {ok : Store → Prop} : WalkD K g ⟨chars z, ok⟩ (Its z) (fun _ => True) (fun i H v H' => H' = H ∧ ∃ c, z.cps[i]? = some c ∧ v = .str ⟨#[c]⟩) where
  wk := by
    show Walk _ (chars z).length _ _
    have : (chars z).length = z.cps.size := by unfold chars; rw [List.length_map, Array.length_toList]
    rw [this]
    exact walk_str
  ok := fun _ _ _ => trivial
  it := fun {g' M H H' i x} l R o y => by
    obtain ⟨rfl, c, e, rfl⟩ := y
    refine ⟨.str ⟨#[c]⟩, g', ?_, G.le.refl g', R, .str _⟩
    show (chars z)[i]? = _
    unfold chars
    rw [List.getElem?_map, Array.getElem?_toList, e]
    rfl
/-- a tuple, a list, a text -/
def wkA (d : D) : Py Wk := match d with
  | .tup xs => Py.ret ⟨xs, fun _ => True⟩
  | .str z => Py.ret ⟨chars z, fun _ => True⟩
  | d => wkL d
theorem di_seq (h : DE C e f) : DI C tg e (iSeq wkA f) := ⟨_, pi_or (pi_tup self_e) (pi_or (pi_list self_e) (pi_str self_e)), fun {g ρ M σ H} R Rr p => by
  have p' := (post_bnd.mp p : Post (f ρ M) _ _)
  cases hf : f ρ M with
  | bad => rw [hf] at p'; exact p'.elim
  | exc x M1 =>
    rw [hf] at p'
    exact .inl (h.exc Rr hf p')
  | ok d M1 =>
    rw [hf] at p'
    have p2 : Post (wkA d M1) (fun w M' => ∀ J H' g' Gd Y, g.le g' → Rl C g' ρ M' σ H' → WalkD C.X.K g' w J Gd Y → R J H') (C.We ρ) := p'
    cases d with
    | tup xs =>
      refine .inl (h.det Rr hf fun v H1 g1 l1 R1 r1 => ?_)
      cases r1 with
      | @tup a vs ds s t => exact ⟨a, rfl, ⟨vs, .of (R1.h.frz _ _ s)⟩, p2 _ H1 g1 _ _ l1 R1 (walkD_tup s t)⟩
    | str z =>
      refine .inr (.inr (h.det Rr hf fun v H1 g1 l1 R1 r1 => ?_))
      exact ⟨z, rep_str r1, p2 _ H1 g1 _ _ l1 R1 walkD_str⟩
    | _ =>
      refine .inr (.inl (h.det Rr hf fun v H1 g1 l1 R1 r1 => ?_))
      obtain ⟨a, vs, w, rfl, q1, q2, q3, q4⟩ := wkL_post R1.h r1 p2
      exact ⟨a, rfl, ⟨vs, q1⟩, q3 _ H1 g1 _ _ l1 R1 (walkD_list q4)⟩⟩
/-! enumerate -/
variable {a : Expr} {ff : DEnv → Py (List D)} {p : Pos}
theorem DA.det (h : DA C [a] ff) {g : G} {ρ : DEnv} {M M1 : Store} {σ : St} {H : Hp} {d : List D} {Q : List V → Hp → Prop} (R : Rl C g ρ M σ H) (hf : ff ρ M = .ok d M1) (go : ∀ (v : List V) (H' : Hp) (g' : G), g.le g' → Rl C g' ρ M1 σ H' → Reps C.X.K g' v d → Q v H') : WPA C.X [a] σ H Q :=
  h.run Q R (by rw [hf]; exact go)
def wkLT (d : D) : Py Wk := match d with
  | .tup xs => Py.ret ⟨xs, fun _ => True⟩
  | d => wkL d
theorem di_enumA {tpos : Pos} {elts : List Expr} {kk : Nat} (hm : C.X.mg "enumerate" = none) (ha : DA C [a] ff) (hg : Gl C.X "enumerate" := by rfl) (hs : starEach [a] C.X.env = [(false, eval a C.X.env)] := by rfl) : DI C (.Tuple elts kk tpos) (.Call (.Name "enumerate" p) [a] [] pos) (iEnumD wkLT ff) :=
  ⟨_, pi_or (pi_enum hg hm self_a hs) (pi_enumT hg hm self_a hs), fun {g ρ M σ H} R Rr p => by
    have p' := (post_bnd.mp p : Post (ff ρ M) _ _)
    cases hf : ff ρ M with
    | bad => rw [hf] at p'; exact p'.elim
    | exc x M1 =>
      rw [hf] at p'
      exact .inl (ha.run _ Rr (by rw [hf]; exact p'))
    | ok ds M1 =>
      rw [hf] at p'
      obtain ⟨d, rfl, p2⟩ := wkEnum_post (show Post (wkEnum wkLT ds M1) _ _ from p')
      by_cases hd : ∃ xs, d = .tup xs
      · obtain ⟨xs, rfl⟩ := hd
        refine .inr (ha.det Rr hf fun v H1 g1 l1 R1 r1 => ?_)
        obtain ⟨v, rfl, r⟩ := r1.one
        cases r with
        | @tup a' us ds s t =>
          refine ⟨a', us, rfl, .of (R1.h.frz _ _ s), p2 _ H1 g1 (fun H => SqT C.X.K H a' us) (fun i H v H' => ∃ T x, v = .ref T ∧ H T = none ∧ H' = upd H T (.tup [.int (i : Nat), x]) ∧ ∀ xs, SqT C.X.K H a' xs → xs[i]? = some x) l1 R1 (walkD_pairs ?_ ?_ ?_)⟩
          · show Walk _ (enumD 0 xs).length _ _
            rw [enumD_length, ← t.length]
            exact ⟨fun i H hi q => ⟨us, us[i], q, by simp⟩, fun H q => ⟨us, q, Nat.le_refl _⟩, fun i H x H' hi _ y => y⟩
          · intro g' M H l R o
            exact .of (R.frz _ _ (l.F _ _ s))
          · intro g' M H H' i x l R o y
            obtain ⟨T, x', rfl, hT, rfl, h⟩ := y
            obtain ⟨d', e1, e2⟩ := (t.gro l).getV (h us (.of (R.frz _ _ (l.F _ _ s))))
            have e3 := enumD_get xs 0 i d' e1
            rw [Nat.zero_add] at e3
            exact ⟨T, _, x', .int (i : Nat), d', rfl, hT, rfl, e3, .int _, e2⟩
      · have p3 : Post (wkL d M1) (fun w M' => ∀ J H' g' Gd Y, g.le g' → Rl C g' ρ M' σ H' → WalkD C.X.K g' ⟨enumD 0 w.ds, w.ok⟩ J Gd Y → R J H') (C.We ρ) := by
          cases d with
          | tup xs => exact absurd ⟨xs, rfl⟩ hd
          | _ => exact p2
        refine .inl (ha.det Rr hf fun v H1 g1 l1 R1 r1 => ?_)
        obtain ⟨v, rfl, r⟩ := r1.one
        obtain ⟨a', us, w, rfl, q1, q2, q3, q4⟩ := wkL_post R1.h r p3
        refine ⟨a', us, rfl, q1, q3 _ H1 g1 (fun H => ∃ vs, SqL C.X.K H a' vs ∧ vs.length = w.ds.length) (fun i H v H' => ∃ T x, v = .ref T ∧ H T = none ∧ H' = upd H T (.tup [.int (i : Nat), x]) ∧ ∀ xs, SqL C.X.K H a' xs → xs[i]? = some x) l1 R1 (walkD_pairs ?_ ?_ ?_)⟩
        · show Walk _ (enumD 0 w.ds).length _ _
          rw [enumD_length]
          exact ⟨fun i H hi ⟨vs, q, e⟩ => ⟨vs, vs[i]'(by omega), q, by simp⟩, fun H ⟨vs, q, e⟩ => ⟨vs, q, by omega⟩, fun i H x H' hi _ y => y⟩
        · intro g' M H l R o
          obtain ⟨vs, q, r⟩ := q4 l R o
          exact ⟨vs, q, r.length⟩
        · intro g' M H H' i x l R o y
          obtain ⟨T, x', rfl, hT, rfl, h⟩ := y
          obtain ⟨vs, q, r⟩ := q4 l R o
          obtain ⟨d', e1, e2⟩ := r.getV (h vs q)
          have e3 := enumD_get w.ds 0 i d' e1
          rw [Nat.zero_add] at e3
          exact ⟨T, _, x', .int (i : Nat), d', rfl, hT, rfl, e3, .int _, e2⟩⟩

/-! ### + of anything -/
def addA (x y : D) : Py D := match x with
  | .int _ => addI x y
  | .str _ => addS x y
  | .tup _ => addT x y
  | _ => addL x y
theorem do_addA : DOp C (binaryOp .Add) addA := by
  intro g ρ M σ H x y dx dy v u pins s Q R I rx ry r1 r2 p
  cases dx with
  | int i => exact do_addI Q R I rx ry r1 r2 p
  | str i => exact do_addS Q R I rx ry r1 r2 p
  | tup i => exact do_addT Q R I rx ry r1 r2 p
  | _ => exact do_addL Q R I rx ry r1 r2 p
/-- * of an int or a list -/
def mulA (x y : D) : Py D := match x with
  | .int _ => mulI x y
  | _ => mulL x y
theorem do_mulA : DOp C (binaryOp .Mult) mulA := by
  intro g ρ M σ H x y dx dy v u pins s Q R I rx ry r1 r2 p
  cases dx with
  | int i => exact do_mulI Q R I rx ry r1 r2 p
  | _ => exact do_mulL Q R I rx ry r1 r2 p

/-! ### isinstance with a tuple of types -/
def tysOf : List D → Option (List String)
  | [] => some []
  | .ty T :: r => (tysOf r).map fun ts => T :: ts
  | _ :: _ => none
theorem tys_rep {K : PySem.W.Frag} {g : G} : ∀ {vs : List V} {ds : List D} {ts : List String}, Reps K g vs ds → tysOf ds = some ts → vs = ts.map V.ty
  | _, _, _, .nil, e => by cases e; rfl
  | _, _, _, .cons (d := .ty b) r t, e => by
    obtain ⟨cs, e1, e2⟩ := Option.map_eq_some_iff.mp (show (tysOf _).map _ = some _ from e)
    subst e2
    rw [rep_ty r, tys_rep t e1]
    rfl
  | _, _, _, .cons (d := .non) r t, e => by cases e
  | _, _, _, .cons (d := .int _) r t, e => by cases e
  | _, _, _, .cons (d := .str _) r t, e => by cases e
  | _, _, _, .cons (d := .tup _) r t, e => by cases e
  | _, _, _, .cons (d := .lst _) r t, e => by cases e
  | _, _, _, .cons (d := .ro _) r t, e => by cases e
  | _, _, _, .cons (d := .dk _) r t, e => by cases e
  | _, _, _, .cons (d := .dkt _) r t, e => by cases e
  | _, _, _, .cons (d := .ins _ _) r t, e => by cases e
  | _, _, _, .cons (d := .loc _) r t, e => by cases e
  | _, _, _, .cons (d := .ref _) r t, e => by cases e
  | _, _, _, .cons (d := .bl _) r t, e => by cases e
theorem cls_all : ∀ ts : List String, Paired ClsV (ts.map V.ty) (ts.map Value.type)
  | [] => .nil
  | t :: ts => .cons (.ty t) (cls_all ts)
theorem kit_any {K : PySem.W.Frag} {t : String} (ht : t ∈ tyNames) : ∀ {ts : List String}, ts.all kitOk = true → PySem.W.kitAny K (.type t) (ts.map Value.type) = some (ts.any fun T => isT T t)
  | [], _ => rfl
  | T :: ts, h => by
    rw [List.all_cons, Bool.and_eq_true] at h
    have hk : kitB t T = some (isT T t) := beq_iff_eq.mp (List.all_eq_true.mp h.1 t ht)
    have ih := kit_any (K := K) ht h.2
    rw [List.map_cons, List.any_cons]
    cases e : isT T t with
    | true =>
      rw [e] at hk
      exact kitAny_cons (kit_ty hk) (fun z => nomatch z) fun _ => rfl
    | false =>
      rw [e] at hk
      rw [Bool.false_or]
      exact kitAny_cons (kit_ty hk) (fun _ => ih) fun z => nomatch z
def tyAny (ts : List String) (x : D) : Py D := fun M => match tyN M x with
  | some t => .ok (.bl (ts.any fun T => isT T t)) M
  | none => .bad
theorem tyAny_post {ts : List String} {x : D} {M : Store} {q : D → Store → Prop} {E : Exn → Store → Prop} (p : Post (tyAny ts x M) q E) : ∃ t, tyN M x = some t ∧ q (.bl (ts.any fun T => isT T t)) M := by
  unfold tyAny at p
  split at p
  · rename_i t h
    exact ⟨t, h, p⟩
  · exact p.elim
def isiTsK (Ts : List String) (x : D) : Option (List String) → Py D
  | some ts => Py.chk (ts.all Ts.contains = true) (tyAny ts x)
  | none => Py.bad
def isiTs (Ts : List String) (x y : D) : Py D := match y with
  | .tup ds => isiTsK Ts x (tysOf ds)
  | y => isiT Ts x y
theorem dc_isiA {Ts : List String} (hT : Ts.all kitOk = true := by decide +kernel) : DCl C (.builtin "isinstance") (twoD (isiTs Ts)) := by
  obtain ⟨r1, h1, k1⟩ := dc_isi (C := C) hT
  refine dcl_two (h1.or call_isiT) fun {g ρ M σ H v u d e} Q R r r' p => ?_
  have other : Post (isiT Ts d e M) (QV C g ρ σ Q) (C.We ρ) → r1 [v, u] H Q := fun p => k1 Q R (.cons r (.cons r' .nil)) p
  cases e with
  | tup ds =>
    right
    cases r' with
    | @tup tp vs ds s t =>
      have p' : Post (isiTsK Ts d (tysOf ds) M) (QV C g ρ σ Q) (C.We ρ) := p
      cases e1 : tysOf ds with
      | none => rw [e1] at p'; exact p'.elim
      | some ts =>
        rw [e1] at p'
        obtain ⟨hc, p2⟩ := post_chk.mp p'
        obtain ⟨t', e2, p3⟩ := tyAny_post p2
        obtain ⟨ty, hm⟩ := tyN_ok R.h r e2
        have hk : ts.all kitOk = true := List.all_eq_true.mpr fun T hT' => List.all_eq_true.mp hT T (by
          have := List.all_eq_true.mp hc T hT'
          simpa using this)
        have ev := tys_rep t e1
        subst ev
        exact ⟨v, tp, _, _, _, _, rfl, R.h.frz _ _ s, cls_all ts, ty, kit_any hm hk, QV.here p3 R (.bl _)⟩
  | _ => exact .inl (other p)
end
end L3
set_option Elab.async false
set_option linter.all false
set_option maxRecDepth 100000
set_option autoImplicit false
namespace L2
open PySem PySem.Spec PyProof.Rows HT
theorem rev_adjust (n : Nat) : Builtin.Slice.sliceAdjust none none (-1) (n : Int) = ((n : Int) - 1, -1) := by
  unfold Builtin.Slice.sliceAdjust
  simp
theorem rev_places (n : Nat) : Builtin.Slice.slicePlaces ((n : Int) - 1) (-1) (-1) = n := by
  unfold Builtin.Slice.slicePlaces
  simp
  omega
theorem fmap_some {α β : Type} {f : α → Option β} {g : α → β} : ∀ l : List α, (∀ m ∈ l, f m = some (g m)) → l.filterMap f = l.map g
  | [], _ => rfl
  | a :: l, h => by
    rw [List.filterMap_cons, h a (List.mem_cons_self ..), List.map_cons, fmap_some l fun m hm => h m (List.mem_cons_of_mem _ hm)]
theorem rev_pick (xs : Array Value) : ((List.range xs.size).filterMap fun (m : Nat) => xs[(((xs.size : Int) - 1) + (m : Int) * (-1)).toNat]?).toArray = xs.toList.reverse.toArray := by
  have h : ∀ m ∈ List.range xs.size, xs[(((xs.size : Int) - 1) + (m : Int) * (-1)).toNat]? = some ((xs.toList.reverse[m]?).getD .none) := fun m hm => by
    have hm' : m < xs.size := List.mem_range.mp hm
    have e1 : (((xs.size : Int) - 1) + (m : Int) * (-1)).toNat = xs.size - 1 - m := by omega
    rw [e1, List.getElem?_reverse (by simpa using hm'), Array.length_toList, Array.getElem?_toList]
    have : xs.size - 1 - m < xs.size := by omega
    rw [Array.getElem?_eq_getElem this]
    rfl
  rw [fmap_some _ h]
  congr 1
  refine List.ext_getElem? fun i => ?_
  rw [List.getElem?_map]
  by_cases hi : i < xs.size
  · rw [List.getElem?_range hi]
    have : i < xs.toList.reverse.length := by simpa using hi
    rw [List.getElem?_eq_getElem this]
    show some ((xs.toList.reverse[i]?).getD Value.none) = _
    rw [List.getElem?_eq_getElem this]
    rfl
  · rw [List.getElem?_eq_none (by simpa using hi), List.getElem?_eq_none (by simpa using hi)]
    rfl
section
variable {prog : Program} {w : World} {A : Around} {E : Value → Shared → Prop} {s : Shared}
theorem getItem_tuple_rev {t sl : Addr} {items : Array Value} {u : Tok} {Q : Value → Shared → Prop} (ht : IsTup s.heap t items) (hs : s.heap.IsSliceOf sl .none .none (.int (-1) u))
    (h : Q (.ref s.heap.objs.size) { s with heap := s.heap.push { cls := .type "tuple", data := .seq items.toList.reverse.toArray } }) (hsz : items.size ≤ sizeLine) : wpAny (model prog w) A (getItem (.ref t) (.ref sl)) Q E s := by
  obtain ⟨os, hos, hcs, hds⟩ := id hs
  have hTs : s.TypeIs (.ref sl) "slice" := ⟨os, hos, hcs⟩
  have htake : sizeOk (.seq items.toList.reverse.toArray) := by
    show items.toList.reverse.toArray.size ≤ sizeLine
    rw [List.size_toArray, List.length_reverse, Array.length_toList]
    exact hsz
  unfold getItem
  try with_reducible refine wpAny_holding ?_
  first | refine wpAny_bind (wpAny_pure ?_) | skip
  refine wpAny_bind (wpAny_sequenceKey ht.typeIs (by decide) ?_)
  refine wpAny_bind (wpAny_callSpecial?_slot (name := Str.ofString "__getitem__") ht.typeIs PyProof.Rows.slot_tuple_getitem
    (wpAny_call_entry PyProof.Rows.slot_tuple_getitem ht.typeIs entry_tuple_getitem ?_ (args_tuple_getitem _ _)))
  show wpAny _ _ (Builtin.Tuple.tupleItemsOf (.ref t) >>= _) _ _ s
  refine wpAny_bind (tupleItemsOf_ ht ?_)
  refine wpAny_bind (wpAny_typeOf hTs ?_)
  rw [if_pos (by decide)]
  have app : ∀ {Q : Int × Int × Nat → Shared → Prop}, Q ((items.size : Int) - 1, -1, items.size) s → wpAny (model prog w) A.in1 (Builtin.Slice.sliceApplied (.ref sl) (pure (items.size : Int))) Q E s := by
    intro Q q
    unfold Builtin.Slice.sliceApplied Builtin.Slice.sliceFields
    refine wpAny_bind (wpAny_bind (wpAny_field hos hds (x := .none) rfl (wpAny_bind (wpAny_field hos hds (x := .none) rfl (wpAny_bind (wpAny_field hos hds (x := .int (-1) u) rfl (wpAny_pure ?_)))))))
    refine wpAny_bind (slicePart_ (.int (-1) u) ?_)
    show wpAny _ _ (if ((-1 : Int) == 0) = true then _ else _) _ _ s
    rw [if_neg (by decide)]
    refine wpAny_bind (slicePart_ .none (wpAny_bind (slicePart_ .none (wpAny_bind (wpAny_pure ?_)))))
    show wpAny _ _ (match Builtin.Slice.sliceAdjust none none (-1) (items.size : Int) with | (lo, hi) => pure (lo, (-1 : Int), Builtin.Slice.slicePlaces lo hi (-1))) _ _ s
    rw [rev_adjust]
    show wpAny _ _ (pure ((items.size : Int) - 1, (-1 : Int), Builtin.Slice.slicePlaces ((items.size : Int) - 1) (-1) (-1))) _ _ s
    rw [rev_places]
    exact wpAny_pure q
  refine wpAny_bind (app ?_)
  have hno : ¬ ((((items.size : Int) - 1) == 0 && (-1 : Int) == 1 && items.size == items.size) = true) := by
    rw [show ((-1 : Int) == 1) = false from rfl, Bool.and_false, Bool.false_and]
    exact Bool.false_ne_true
  show wpAny _ _ (if (((items.size : Int) - 1) == 0 && (-1 : Int) == 1 && items.size == items.size) = true then _ else _) _ _ s
  rw [if_neg hno, rev_pick]
  first
    | exact wpAny_bind (m := Builtin.Tuple.tupleExact _) (wpAny_newObj_type (wpAny_pure ⟨_, rfl, wpAny_pure h⟩) htake)
    | exact wpAny_bind (m := Builtin.Tuple.tupleExact _) (wpAny_newObj_type (wpAny_bind (wpAny_pure (wpAny_pure ⟨_, rfl, wpAny_pure h⟩))) htake)
    | exact wpAny_bind (wpAny_bind (m := Builtin.Tuple.tupleExact _) (wpAny_newObj_type (wpAny_pure (wpAny_pure ⟨_, rfl, wpAny_pure h⟩)) htake))
    | exact wpAny_bind (wpAny_bind (m := Builtin.Tuple.tupleExact _) (wpAny_newObj_type (wpAny_pure ⟨_, rfl, wpAny_pure h⟩) htake))
end
end L2

namespace L2
open PySem PySem.Spec PyProof.Rows HT
def tRevT (K : PySem.W.Frag) (te : TE) : TE := fun σ H Q => te σ H fun x H1 => ∃ a xs, x = .ref a ∧ SqT K H1 a xs ∧ ∀ p, H1 p = none → Q (.ref p) (upd H1 p (.tup xs.reverse))
theorem pe_revT {X : Cx} {e : Expr} {te : TE} {k : Nat} {p1 p2 p3 pos : Pos} (he : PE X e te) : PE X (.Subscript e (.Slice none none (some (.UnaryOp .USub (.Constant (.int 1) k p1) p2)) p3) pos) (tRevT X.K te) := by
  refine ⟨fun pins s σ H Q I h => ?_⟩
  refine Subscript_ (thn (he.run pins s σ H _ I h) fun v s1 ⟨x, H1, I1, r1, q1⟩ => ?_)
  obtain ⟨a, xs, ex, hx, q⟩ := q1
  subst ex
  cases r1
  have hst : PO X (some (.UnaryOp .USub (.Constant (.int 1) k p1) p2)) (tPart (tUn (rU fun i => .int (-i)) (tC (.int 1)))) := po_some (pe_un un_neg pe_int)
  refine wpAny_Slice (thn (po_none.run pins s1 σ H1 (fun o H2 => o = none ∧ H2 = H1) I1 ⟨rfl, rfl⟩) fun vl s2 ⟨l, H2, I2, pl, el, e2⟩ => ?_)
  subst el e2
  refine thn (po_none.run pins s2 σ H2 (fun o H3 => o = none ∧ H3 = H2) I2 ⟨rfl, rfl⟩) fun vu s3 ⟨u, H3, I3, pu, eu, e3⟩ => ?_
  subst eu e3
  refine thn (hst.run pins s3 σ H3 (fun o H4 => o = some (-1) ∧ H4 = H3) I3 ⟨1, rfl, -1, rfl, rfl, rfl⟩) fun vs s4 ⟨o, H4, I4, ps, eo, e4⟩ => ?_
  subst eo e4
  have I5 : Inv X pins σ H4 { s4 with heap := s4.heap.push { cls := .type "slice", data := .fields #[vl, vu, vs] } } := I4.kept (t' := s4.toks) fun b ob q => Heap.get?_push_of_some _ q
  obtain ⟨its, r, ht, hz⟩ := I5.tuple hx
  have hlen := r.length
  cases pl
  cases pu
  cases ps with
  | int i t' =>
    show wpAny (model X.prog X.w) X.A (subscriptTail e (.Slice none none (some (.UnaryOp .USub (.Constant (.int 1) k p1) p2)) p3) (.ref a) (.ref s4.heap.objs.size)) (EP X pins σ Q) X.xe { s4 with heap := s4.heap.push { cls := .type "slice", data := .fields #[.none, .none, .int (-1) t'] } }
    refine tail_any (ops := [.ref a, .ref s4.heap.objs.size]) ht.typeIs (PyProof.Rows.slot_tuple_getitem.lookup) ?_ (by with_unfolding_all rfl)
    refine getItem_tuple_rev ht (Heap.IsSliceOf.new _ .none .none (.int (-1) t')) ?_ (by rw [List.size_toArray]; omega)
    refine ⟨.ref _, _, I5.laid (t' := s4.toks) (o := .tup xs.reverse) (fun b ob q => Heap.get?_push_of_some _ q) (Nat.le_refl _) ?_, rfl, q _ (I5.hok.fresh (Nat.le_refl _))⟩
    exact ⟨by rw [List.length_reverse]; exact hz, _, r.reverse, IsTup.new _ _⟩
end L2
namespace L3
open PySem PySem.Spec L2
open PyProof.Rows hiding St
theorem pe_orE {X : Cx} {e : Expr} {t u : TE} (h1 : PE X e t) (h2 : PE X e u) : PE X e (fun σ H Q => t σ H Q ∨ u σ H Q) := ⟨fun pins s σ H Q I h => h.elim (h1.run pins s σ H Q I) (h2.run pins s σ H Q I)⟩
section
variable {C : DX} {pos : Pos} {e : Expr} {f : DEnv → Py D}
/-- x[::-1] of a tuple or a list -/
def revD (d : D) : Py D := match d with
  | .tup xs => Py.ret (.tup xs.reverse)
  | d => Py.bnd (litems d) fun ds => Py.ret (.lst ds.reverse)
def eRev (f : DEnv → Py D) : DEnv → Py D := fun ρ => Py.bnd (f ρ) revD
theorem de_rev {k : Nat} {p1 p2 p3 : Pos} (h : DE C e f) : DE C (.Subscript e (.Slice none none (some (.UnaryOp .USub (.Constant (.int 1) k p1) p2)) p3) pos) (eRev f) := ⟨fun {g ρ M σ H} Q R p => by
  refine wpe (pe_orE (pe_revT self_e) (pe_revL self_e)) ?_
  have p' := (post_bnd.mp p : Post (f ρ M) _ _)
  cases hf : f ρ M with
  | bad => rw [hf] at p'; exact p'.elim
  | exc x M1 => rw [hf] at p'; exact .inl (h.exc R hf p')
  | ok d M1 =>
    rw [hf] at p'
    have p2 : Post (revD d M1) (QV C g ρ σ Q) (C.We ρ) := p'
    have lst : ∀ {d : D}, f ρ M = .ok d M1 → Post (Py.bnd (litems d) (fun ds => Py.ret (.lst ds.reverse)) M1) (QV C g ρ σ Q) (C.We ρ) → tRevL C.X.K (WPE C.X e) σ H Q := fun {d} hf p2 => h.det R hf fun v H1 g1 l1 R1 r1 => by
      obtain ⟨a, vs, ds, rfl, hs, t, q⟩ := litems_post R1.h r1 (post_bnd.mp p2)
      exact ⟨a, vs, rfl, hs, fun p hp => QV.lay (QV.later (g' := g1) q l1) R1 hp (rep_lst_new t.reverse (R1.h.fnone hp))⟩
    cases d with
    | tup xs =>
      refine .inl (h.det R hf fun v H1 g1 l1 R1 r1 => ?_)
      cases r1 with
      | @tup a vs ds s t => exact ⟨a, vs, rfl, .of (R1.h.frz _ _ s), fun p hp => QV.lay (QV.later (g' := g1) p2 l1) R1 hp (rep_tup_new t.reverse (R1.h.fnone hp))⟩
    | _ => exact .inr (lst hf p2)⟩
end

/-! ### dicts with keys that are ints or texts -/
def keyD : D → Option Key
  | .int i => some (.inl i)
  | .str x => some (.inr x)
  | _ => none
theorem key_rep {K : PySem.W.Frag} {g : G} {v : V} {d : D} {k : Key} (r : Rep K g v d) (e : keyD d = some k) : v = kV k := by
  cases r with
  | int i => cases e; rfl
  | str i => cases e; rfl
  | _ => cases e
inductive KR (K : PySem.W.Frag) (g : G) : List (Key × V) → List (Key × D) → Prop
  | nil : KR K g [] []
  | cons {k : Key} {v : V} {d : D} {vs : List (Key × V)} {fs : List (Key × D)} : Rep K g v d → KR K g vs fs → KR K g ((k, v) :: vs) ((k, d) :: fs)
theorem KR.of {K : PySem.W.Frag} {g : G} : ∀ {vs : List (Key × V)} {fs : List (Key × D)}, Reps K g (vs.map (·.2)) (fs.map (·.2)) → vs.map (·.1) = fs.map (·.1) → KR K g vs fs
  | [], [], _, _ => .nil
  | [], _ :: _, _, e => nomatch e
  | _ :: _, [], _, e => nomatch e
  | (k, v) :: vs, (k', d) :: fs, r, e => by
    injection e with e1 e2
    have e1' : k = k' := e1
    subst e1'
    cases r with
    | cons a b => exact .cons a (KR.of b e2)
theorem KR.reps {K : PySem.W.Frag} {g : G} : ∀ {vs : List (Key × V)} {fs : List (Key × D)}, KR K g vs fs → Reps K g (vs.map (·.2)) (fs.map (·.2)) ∧ vs.map (·.1) = fs.map (·.1)
  | _, _, .nil => ⟨.nil, rfl⟩
  | _, _, .cons r t => let ⟨a, b⟩ := t.reps; ⟨.cons r a, by rw [List.map_cons, List.map_cons, b]⟩
def valD (fs : List (Key × D)) (k : Key) : Option D := (fs.find? fun kv => decide (kv.1 = k)).map (·.2)
def putD (fs : List (Key × D)) (k : Key) (v : D) : List (Key × D) :=
  if (fs.any fun kv => decide (kv.1 = k)) = true then fs.map (fun kv => if kv.1 = k then (kv.1, v) else kv) else fs ++ [(k, v)]
def mergeD (fs more : List (Key × D)) : List (Key × D) := more.foldl (fun acc kv => putD acc kv.1 kv.2) fs
section
variable {K : PySem.W.Frag} {g g' : G}
theorem KR.any {k : Key} : ∀ {vs : List (Key × V)} {fs : List (Key × D)}, KR K g vs fs → (vs.any fun kv => decide (kv.1 = k)) = fs.any fun kv => decide (kv.1 = k)
  | _, _, .nil => rfl
  | _, _, .cons r t => by rw [List.any_cons, List.any_cons, KR.any t]
theorem KR.append {vs : List (Key × V)} {fs : List (Key × D)} {ws : List (Key × V)} {gs : List (Key × D)} (h : KR K g vs fs) (q : KR K g ws gs) : KR K g (vs ++ ws) (fs ++ gs) := by
  induction h with
  | nil => exact q
  | cons r t ih => exact .cons r ih
theorem KR.map {k : Key} {v : V} {d : D} (r : Rep K g v d) : ∀ {vs : List (Key × V)} {fs : List (Key × D)}, KR K g vs fs → KR K g (vs.map fun kv => if kv.1 = k then (kv.1, v) else kv) (fs.map fun kv => if kv.1 = k then (kv.1, d) else kv)
  | _, _, .nil => .nil
  | _, _, .cons (k := j) (v := x) (d := y) q t => by
    rw [List.map_cons, List.map_cons]
    by_cases h : j = k
    · rw [if_pos h, if_pos h]
      exact .cons r (KR.map r t)
    · rw [if_neg h, if_neg h]
      exact .cons q (KR.map r t)
theorem KR.put {k : Key} {v : V} {d : D} {vs : List (Key × V)} {fs : List (Key × D)} (h : KR K g vs fs) (r : Rep K g v d) : KR K g (putK vs k v) (putD fs k d) := by
  unfold putK putD
  rw [h.any]
  by_cases c : (fs.any fun kv => decide (kv.1 = k)) = true
  · rw [if_pos c, if_pos c]
    exact h.map r
  · rw [if_neg c, if_neg c]
    exact h.append (.cons r .nil)
theorem KR.merge {ws : List (Key × V)} {gs : List (Key × D)} {vs : List (Key × V)} {fs : List (Key × D)} (q : KR K g ws gs) (h : KR K g vs fs) : KR K g (mergeK vs ws) (mergeD fs gs) := by
  induction q generalizing vs fs with
  | nil => exact h
  | cons r t ih => exact ih (h.put r)
theorem KR.val {k : Key} : ∀ {vs : List (Key × V)} {fs : List (Key × D)}, KR K g vs fs → (valD fs k = none ∧ valV vs k = none) ∨ ∃ v d, valD fs k = some d ∧ valV vs k = some v ∧ Rep K g v d
  | _, _, .nil => .inl ⟨rfl, rfl⟩
  | _, _, .cons (k := j) (v := x) (d := y) q t => by
    by_cases h : j = k
    · exact .inr ⟨x, y, by simp [valD, List.find?_cons, h], by simp [valV, List.find?_cons, h], q⟩
    · rcases KR.val (k := k) t with ⟨a, b⟩ | ⟨v, d, a, b, c⟩
      · exact .inl ⟨by simp [valD, List.find?_cons, h] at a ⊢; exact a, by simp [valV, List.find?_cons, h] at b ⊢; exact b⟩
      · exact .inr ⟨v, d, by simp [valD, List.find?_cons, h] at a ⊢; exact a, by simp [valV, List.find?_cons, h] at b ⊢; exact b, c⟩
theorem KR.gro (S : g.sub g') : ∀ {vs : List (Key × V)} {fs : List (Key × D)}, KR K g vs fs → KR K g' vs fs
  | _, _, .nil => .nil
  | _, _, .cons r t => .cons (r.gro S) (KR.gro S t)
end
end L3
set_option Elab.async false
set_option linter.all false
set_option maxRecDepth 100000
set_option autoImplicit false
namespace L3
open PySem PySem.Spec L2
open PyProof.Rows hiding St
/-- the pairs of a display -/
structure DP (C : DX) (keys : List (Option Expr)) (values : List Expr) (trs : Cx → List (TE × TE)) (f : DEnv → Py (List (D × D))) : Prop where
  pp : ∀ pos, PPs C.X pos keys values (trs C.X)
  run : ∀ {g : G} {ρ : DEnv} {M : Store} {σ : St} {H : Hp} {α : Type} {k : List (D × D) → Py α} {q : α → Store → Prop} {Q : List (V × V) → Hp → Prop}, Rl C g ρ M σ H → Post (Py.bnd (f ρ) k M) q (C.We ρ) →
    (∀ (ps : List (V × V)) (ds : List (D × D)) (M' : Store) (H' : Hp) (g' : G), g.le g' → Rl C g' ρ M' σ H' → Reps C.X.K g' (ps.map (·.1)) (ds.map (·.1)) → Reps C.X.K g' (ps.map (·.2)) (ds.map (·.2)) → Post (k ds M') q (C.We ρ) → Q ps H') → tPairs (trs C.X) σ H Q
def pNil : DEnv → Py (List (D × D)) := fun _ => Py.ret []
def pCons (fk fv : DEnv → Py D) (r : DEnv → Py (List (D × D))) : DEnv → Py (List (D × D)) := fun ρ => Py.bnd (fk ρ) fun k => Py.bnd (fv ρ) fun v => Py.bnd (r ρ) fun ps => Py.ret ((k, v) :: ps)
section
variable {C : DX} {pos : Pos} {e a b : Expr} {f fa fb : DEnv → Py D}
theorem dp_nil : DP C [] [] (fun _ => []) pNil := ⟨fun _ => pps_nil, fun {g ρ M σ H α k q Q} R p go => go [] [] M H g (G.le.refl g) R .nil .nil p⟩
theorem dp_cons {k v : Expr} {ks : List (Option Expr)} {vs : List Expr} {trs : Cx → List (TE × TE)} {fk fv : DEnv → Py D} {r : DEnv → Py (List (D × D))} (hk : DE C k fk) (hv : DE C v fv) (hr : DP C ks vs trs r) :
    DP C (some k :: ks) (v :: vs) (fun X => (WPE X k, WPE X v) :: trs X) (pCons fk fv r) := ⟨fun pos => pps_cons self_e self_e (hr.pp pos), fun {g ρ M σ H α kk q Q} R p go => by
  have p0 : Post (Py.bnd (fk ρ) (fun k => Py.bnd (fv ρ) fun v => Py.bnd (r ρ) fun ps => kk ((k, v) :: ps)) M) q (C.We ρ) := by
    refine post_bnd.mpr ((post_bnd.mp (post_bnd.mp p)).imp fun x M1 p1 => ?_)
    refine post_bnd.mpr ((post_bnd.mp p1).imp fun y M2 p2 => ?_)
    exact post_bnd.mpr ((post_bnd.mp p2).imp fun ps M3 p3 => p3)
  refine hk.then_ R p0 fun x dx M1 H1 g1 l1 R1 r1 p1 => hv.then_ R1 p1 fun y dy M2 H2 g2 l2 R2 r2 p2 => ?_
  exact hr.run R2 p2 fun ps ds M3 H3 g3 l3 R3 ra rb p3 => go ((x, y) :: ps) ((dx, dy) :: ds) M3 H3 g3 ((l1.trans l2).trans l3) R3 (.cons (r1.mono (l2.trans l3)) ra) (.cons (r2.mono l3) rb) p3⟩
def keysD : List (D × D) → Option (List (Key × D))
  | [] => some []
  | (k, v) :: r => (keyD k).bind fun k' => (keysD r).map fun r' => (k', v) :: r'
theorem keys_rep {K : PySem.W.Frag} {g : G} : ∀ {ps : List (V × V)} {ds : List (D × D)} {fs : List (Key × D)}, Reps K g (ps.map (·.1)) (ds.map (·.1)) → Reps K g (ps.map (·.2)) (ds.map (·.2)) → keysD ds = some fs →
    ∃ kvs : List (Key × V), ps = kvs.map (fun kv => (kV kv.1, kv.2)) ∧ KR K g kvs fs ∧ kvs.length = ds.length
  | [], [], _, _, _, e => by cases e; exact ⟨[], rfl, .nil, rfl⟩
  | [], _ :: _, _, h, _, _ => nomatch h
  | _ :: _, [], _, h, _, _ => nomatch h
  | (x, y) :: ps, (k, v) :: ds, fs, h1, h2, e => by
    obtain ⟨k', e1, e2⟩ := Option.bind_eq_some_iff.mp (show (keyD k).bind _ = some _ from e)
    obtain ⟨fs', e3, e4⟩ := Option.map_eq_some_iff.mp e2
    subst e4
    cases h1 with
    | cons r1 t1 =>
      cases h2 with
      | cons r2 t2 =>
        obtain ⟨kvs, q1, q2, q3⟩ := keys_rep t1 t2 e3
        refine ⟨(k', y) :: kvs, ?_, .cons r2 q2, by rw [List.length_cons, List.length_cons, q3]⟩
        have : x = kV k' := key_rep r1 e1
        rw [List.map_cons, this, q1]
/-- {k: v, ..}: a dict that is never changed -/
def dkOf (ds : List (D × D)) : Option (List (Key × D)) → Py D
  | some fs => Py.chk (ds.length ≤ 15) (Py.ret (.dk (mergeD [] fs)))
  | none => Py.bad
def eDisp (fp : DEnv → Py (List (D × D))) : DEnv → Py D := fun ρ => Py.bnd (noX (fp ρ)) fun ds => dkOf ds (keysD ds)
abbrev DX.at_ (C : DX) (B : G) : DX := ⟨C.X, B, fun _ _ _ => False⟩
theorem dkOf_post {ds : List (D × D)} {o : Option (List (Key × D))} {M : Store} {q : D → Store → Prop} {E : Exn → Store → Prop} (p : Post (dkOf ds o M) q E) : ∃ fs, o = some fs ∧ ds.length ≤ 15 ∧ q (.dk (mergeD [] fs)) M := by
  cases o with
  | none => exact p.elim
  | some fs =>
    obtain ⟨h, q⟩ := post_chk.mp p
    exact ⟨fs, rfl, h, q⟩
theorem de_disp {keys : List (Option Expr)} {values : List Expr} {trs : Cx → List (TE × TE)} {fp : DEnv → Py (List (D × D))} (h : ∀ B, DP (C.at_ B) keys values trs fp) (hall : keys.all (·.isSome) = true := by rfl) (hl : keys.length = values.length := by rfl) (h0 : keys ≠ [] := by exact fun z => by cases z) (h15 : keys.length ≤ 15 := by decide) :
    DE C (.Dict keys values pos) (eDisp fp) := ⟨fun {g ρ M σ H} Q R p => by
  refine wpe (pe_disp ((h g).pp pos) hall hl h0 h15) fun D' hD => ?_
  -- the dict stands empty while its pairs are made
  have gP : g.P D' = none := R.h.pnone hD
  have gF : g.F D' = none := R.h.fnone hD
  have S0 : g.sub (g.bld D' (.dK [])) := ⟨⟨[], by simp [G.bld]⟩, fun _ _ q => q⟩
  have R0 : Rl (C.at_ (g.bld D' (.dK []))) (g.bld D' (.dK [])) ρ M σ (upd H D' (.dK [])) := ⟨G.le.refl _, R.h.build hD, R.e.gro S0⟩
  have p1 : Post (Py.bnd (fp ρ) Py.ret M) (fun ds M1 => Post (dkOf ds (keysD ds) M1) (QV C g ρ σ Q) (C.We ρ)) (fun _ _ => False) := by
    have p0 : Post (Py.bnd (noX (fp ρ)) (fun ds => dkOf ds (keysD ds)) M) (QV C g ρ σ Q) (C.We ρ) := p
    exact post_bnd.mpr ((noX_post (post_bnd.mp p0)).imp fun ds M1 z => z)
  refine (h (g.bld D' (.dK []))).run R0 p1 fun ps ds M1 H1 g1 l1 R1 ra rb p2 => ?_
  obtain ⟨fs, e1, hz, q⟩ := dkOf_post (show Post (dkOf ds (keysD ds) M1) _ _ from p2)
  obtain ⟨kvs, e2, kr, hk⟩ := keys_rep ra rb e1
  have hP : g1.P D' = some (.dK []) := by rw [l1.P]; exact upd_same
  have hPn : ∀ a, a ≠ D' → g.P a = g1.P a := fun a ha => by
    rw [l1.P]
    show g.P a = upd g.P D' _ a
    rw [upd_ne ha]
  refine ⟨(R1.h.prt _ _ hP).1, kvs, e2, by rw [hk]; exact hz, ?_⟩
  -- it is filled
  have R2 := R1.h.rebuild (o := .dK (mergeK [] kvs)) hP
  have fD : g1.F D' = none := (R1.h.prt _ _ hP).2
  have R3 := R2.built (p := D') (o := .dK (mergeK [] kvs)) (P0 := g.P) upd_same gP (fun a ha => by
    show g.P a = upd g1.P D' _ a
    rw [upd_ne ha]
    exact hPn a ha)
  have S1 : g.sub g1 := S0.trans l1.sub
  have S2 : g1.sub ((g1.bld D' (.dK (mergeK [] kvs))).unb g.P D' (.dK (mergeK [] kvs))) := ⟨⟨[], by simp [G.unb, G.bld]⟩, fun a o z => by
    show upd g1.F D' _ a = some o
    rw [upd_ne (ne_of_none z fD)]
    exact z⟩
  have L : g.le ((g1.bld D' (.dK (mergeK [] kvs))).unb g.P D' (.dK (mergeK [] kvs))) := ⟨(S1.trans S2).io, (S1.trans S2).F, rfl⟩
  have kr2 := (kr.merge (vs := []) (fs := []) .nil).gro S2
  exact q (.ref D') _ _ L (R.next L R3) (.dk upd_same kr2.reps.1 kr2.reps.2)⟩
/-- {} -/
theorem de_dict0 : DE C (.Dict [] [] pos) (eC (.dk [])) := ⟨fun {g ρ M σ H} Q R p =>
  wpe pe_dnewK fun D' hD => QV.lay (d := .dk []) p R hD (.dk upd_same .nil rfl)⟩
/-- {} that will change -/
theorem de_dict0N : DE C (.Dict [] [] pos) (fun _ => alloc (.dk [])) := ⟨fun {g ρ M σ H} Q R p =>
  wpe pe_dnewK fun D' hD => QV.make p R hD ⟨[], upd_same, .nil, rfl⟩⟩
/-- d[k] of such a dict, or an item of a sequence -/
def dkIx (fs : List (Key × D)) : Option Key → Py D
  | some k => match valD fs k with
    | some d => Py.ret d
    | none => Py.bad
  | none => Py.bad
theorem dkIx_post {fs : List (Key × D)} {o : Option Key} {M : Store} {q : D → Store → Prop} {E : Exn → Store → Prop} (p : Post (dkIx fs o M) q E) : ∃ k d, o = some k ∧ valD fs k = some d ∧ q d M := by
  cases o with
  | none => exact p.elim
  | some k =>
    have p' : Post ((match valD fs k with | some d => Py.ret d | none => Py.bad : Py D) M) q E := p
    cases h : valD fs k with
    | none => rw [h] at p'; exact p'.elim
    | some d => rw [h] at p'; exact ⟨k, d, rfl, h, p'⟩
def dixD (x y : D) : Py D := match x with
  | .dk fs => dkIx fs (keyD y)
  | _ => Py.bad
theorem de_dix (hu : C.X.A.units + 1 < cLine) (ha : DE C a fa) (hb : DE C b fb) (hs : NoSl b := by exact fun _ _ => rfl) : DE C (.Subscript a b pos) (eOp dixD fa fb) := ⟨fun {g ρ M σ H} Q R p => by
  refine wpe (pe_dget hu self_e self_e hs) (ha.then_ R p fun v d M1 H1 g1 l1 R1 r1 p1 => hb.then_ R1 p1 fun u e M2 H2 g2 l2 R2 r2 p2 => ?_)
  cases d with
  | dk fs =>
    have r3 := r1.mono l2
    cases r3 with
    | @dk a' vs fs s t z =>
      obtain ⟨k, d, e1, e2, q⟩ := dkIx_post p2
      have kr := KR.of t z
      rcases kr.val (k := k) with ⟨c1, c2⟩ | ⟨v', d', c1, c2, c3⟩
      · rw [e2] at c1; cases c1
      · rw [e2] at c1; cases c1
        refine ⟨a', v', rfl, ?_, QV.here (QV.later (g' := g2) q (l1.trans l2)) R2 c3⟩
        rw [key_rep r2 e1, ← c2]
        exact DGet.k (R2.h.frz _ _ s)
  | _ => exact p2.elim⟩
end
end L3
set_option Elab.async false
set_option linter.all false
set_option maxRecDepth 100000
set_option autoImplicit false
namespace L3
open PySem PySem.Spec L2
open PyProof.Rows hiding St
def allTs : List String := ["int", "bool", "str", "tuple", "list", "dict"]
theorem allTs_ok : allTs.all kitOk = true := by decide +kernel
def augAdd := addI
def augSub := subI
def augMul := mulI
section
variable {C : DX} {pos : Pos} {e : Expr} {f : DEnv → Py D}
theorem ds_augAdd {i : Nat} {x : Str} {pos' : Pos} (hN : C.X.N.Nodup) (he : DE C e f) (hi : C.X.N[i]? = some x := by rfl) (hx : Loc C.X.env.scope x := by first | exact Or.inl rfl | exact Or.inr rfl)
    (hf : C.X.fn x = true ∨ C.X.env.scope.names.lookup x = some .local := by first | exact .inl rfl | exact .inr rfl) : DS C (.AugAssign (.Name x pos') .Add e pos) (sAug i augAdd f) :=
  ds_aug hN he iop_add (fun {g ρ M σ H x y dx dy} Q R rx ry p => by
    obtain ⟨i, j, rfl, rfl, q⟩ := intOp_post p
    exact ⟨i, j, rep_int rx, rep_int ry, QV.here q R (.int _)⟩) hi hx hf
theorem ds_augSub {i : Nat} {x : Str} {pos' : Pos} (hN : C.X.N.Nodup) (he : DE C e f) (hi : C.X.N[i]? = some x := by rfl) (hx : Loc C.X.env.scope x := by first | exact Or.inl rfl | exact Or.inr rfl)
    (hf : C.X.fn x = true ∨ C.X.env.scope.names.lookup x = some .local := by first | exact .inl rfl | exact .inr rfl) : DS C (.AugAssign (.Name x pos') .Sub e pos) (sAug i augSub f) :=
  ds_aug hN he iop_sub (fun {g ρ M σ H x y dx dy} Q R rx ry p => by
    obtain ⟨i, j, rfl, rfl, q⟩ := intOp_post p
    exact ⟨i, j, rep_int rx, rep_int ry, QV.here q R (.int _)⟩) hi hx hf
theorem ds_augMul {i : Nat} {x : Str} {pos' : Pos} (hN : C.X.N.Nodup) (he : DE C e f) (hi : C.X.N[i]? = some x := by rfl) (hx : Loc C.X.env.scope x := by first | exact Or.inl rfl | exact Or.inr rfl)
    (hf : C.X.fn x = true ∨ C.X.env.scope.names.lookup x = some .local := by first | exact .inl rfl | exact .inr rfl) : DS C (.AugAssign (.Name x pos') .Mult e pos) (sAug i augMul f) :=
  ds_aug hN he iop_mul (fun {g ρ M σ H x y dx dy} Q R rx ry p => by
    obtain ⟨i, j, rfl, rfl, q⟩ := intOp_post p
    exact ⟨i, j, rep_int rx, rep_int ry, (post_chk.mp q).1, QV.here (post_chk.mp q).2 R (.int _)⟩) hi hx hf
/-- a, b, c = x, y, z -/
def parK3 (i j l : Nat) (ρ : DEnv) : List D → Py Fl
  | [d, e, h] => Py.ret (.nx (((ρ.set i (some d)).set j (some e)).set l (some h)))
  | _ => Py.bad
def sPar3 (i j l : Nat) (ff : DEnv → Py (List D)) : DEnv → Py Fl := fun ρ => Py.bnd (ff ρ) (parK3 i j l ρ)
theorem parK3_post {i j l : Nat} {ρ : DEnv} {ds : List D} {M : Store} {q : Fl → Store → Prop} {E : Exn → Store → Prop} (p : Post (parK3 i j l ρ ds M) q E) : ∃ d e h, ds = [d, e, h] ∧ q (.nx (((ρ.set i (some d)).set j (some e)).set l (some h))) M := by
  unfold parK3 at p
  split at p
  · exact ⟨_, _, _, rfl, p⟩
  · exact p.elim
theorem ds_par3 {i j l : Nat} {x y z : Str} {a b c : Expr} {ff : DEnv → Py (List D)} {px py pz pt : Pos} {kt k2 : Nat} {pt2 : Pos} (hc : C.X.calm = true) (hN : C.X.N.Nodup) (ha : DA C [a, b, c] ff) (hi : C.X.N[i]? = some x := by rfl) (hj : C.X.N[j]? = some y := by rfl) (hl : C.X.N[l]? = some z := by rfl) (hij : i ≠ j := by decide) (hil : i ≠ l := by decide) (hjl : j ≠ l := by decide)
    (hx : C.X.env.scope.names.lookup x = some .local := by rfl) (hy : C.X.env.scope.names.lookup y = some .local := by rfl) (hz : C.X.env.scope.names.lookup z = some .local := by rfl)
    (hw : swappedStores [.Tuple [.Name x px, .Name y py, .Name z pz] kt pt] (.Tuple [a, b, c] k2 pt2) C.X.env = pure (some [x, y, z]) := by rfl)
    (hs : swapsWithSole [.Tuple [.Name x px, .Name y py, .Name z pz] kt pt] (.Tuple [a, b, c] k2 pt2) pos.line C.X.env = pure false := by rfl) :
    DS C (.Assign [.Tuple [.Name x px, .Name y py, .Name z pz] kt pt] (.Tuple [a, b, c] k2 pt2) pos) (sPar3 i j l ff) := ⟨fun {g ρ M σ H} E R p =>
  wps (ps_par3 hc hN hi hj hl hij hil hjl hx hy hz self_a hw hs) (ha.then_ R p fun vs ds M1 H1 g1 l1 R1 r1 p1 => by
    obtain ⟨d, e, h, rfl, p2⟩ := parK3_post p1
    cases r1 with
    | cons ra t =>
      obtain ⟨v2, v3, rfl, rb, rc⟩ := t.two
      exact ⟨_, v2, v3, rfl, p2 _ _ g1 l1 (((R1.set i ra).set j rb).set l rc)⟩)⟩
/-- a chain as a test -/
theorem dt_chain {a b c : Expr} {fa fb fc : DEnv → Py D} {o o' : CmpOp} {op op' : D → D → Py D} (ho : DOp C (compareOp o) op) (ho' : DOp C (compareOp o') op') (ha : DE C a fa) (hb : DE C b fb) (hc : DE C c fc)
    (hm : lastMarks [o, o'] [b, c] = false := by with_unfolding_all rfl) : DT C (.Compare a [o, o'] [b, c] pos) (eTest (eChain op op' fa fb fc)) := ⟨fun {g ρ M σ H} Q R p0 pins s I => by
  have p := post_test p0
  refine isTrue_chain (thn ((ha.then_ (Q := fun v H1 => ∃ d M1 g1, g.le g1 ∧ Rl C g1 ρ M1 σ H1 ∧ Rep C.X.K g1 v d ∧ Post (Py.bnd (fb ρ) (fun y => Py.bnd (op d y) fun z => Py.bnd (truB z) fun k => if k then Py.bnd (fc ρ) fun w' => op' y w' else Py.ret (.bl false)) M1) (QV C g ρ σ fun x H1 => ∃ c, x = .bl c ∧ Q c H1) (C.We ρ)) R p
    fun v d M1 H1 g1 l1 R1 r1 p1 => ⟨d, M1, g1, l1, R1, r1, p1⟩) pins s I) fun v s1 ⟨x, H1, I1, rx, d, M1, g1, l1, R1, r1, p1⟩ => test_link ?_) hm
  refine thn ((hb.then_ (Q := fun v H2 => ∃ y M2 g2, g1.le g2 ∧ Rl C g2 ρ M2 σ H2 ∧ Rep C.X.K g2 v y ∧ Post (Py.bnd (op d y) (fun z => Py.bnd (truB z) fun k => if k then Py.bnd (fc ρ) fun w' => op' y w' else Py.ret (.bl false)) M2) (QV C g ρ σ fun x H1 => ∃ c, x = .bl c ∧ Q c H1) (C.We ρ)) R1 p1
    fun v d M1 H1 g1 l1 R1 r1 p1 => ⟨d, M1, g1, l1, R1, r1, p1⟩) pins s1 I1) fun u s2 ⟨x2, H2, I2, rx2, y, M2, g2, l2, R2, r2, p2⟩ => ?_
  have p3 := post_bnd.mp p2
  refine thn (ho (fun z H3 => ∃ k M3 g3, z = .bl k ∧ g2.le g3 ∧ Rl C g3 ρ M3 σ H3 ∧ Post ((if k then Py.bnd (fc ρ) fun w' => op' y w' else Py.ret (.bl false) : Py D) M3) (QV C g ρ σ fun x H1 => ∃ c, x = .bl c ∧ Q c H1) (C.We ρ)) R2 I2 rx rx2 (r1.mono l2) r2 (p3.imp fun z M3 q z' H3 g3 l3 R3 r3 => ?_)) fun d' s3 ⟨z, H3, I3, r3, k, M3, g3, e, l3, R3, p4⟩ => ?_
  · obtain ⟨k, rfl, q'⟩ := truB_post (C := C) (post_bnd.mp q)
    exact ⟨k, M3, g3, rep_bl r3, l3, R3, q'⟩
  · subst e
    cases r3
    refine wpAny_truthy_bool ?_
    cases k with
    | false =>
      obtain ⟨k', e', q'⟩ := QV.here (QV.later (g' := g3) p4 ((l1.trans l2).trans l3)) R3 (.bl false)
      cases e'
      exact ite_ff ⟨H3, I3, q'⟩
    | true =>
      refine ite_tt (test_last (thn ((hc.then_ (Q := fun v H4 => ∃ w' M4 g4, g3.le g4 ∧ Rl C g4 ρ M4 σ H4 ∧ Rep C.X.K g4 v w' ∧ Post (op' y w' M4) (QV C g ρ σ fun x H1 => ∃ c, x = .bl c ∧ Q c H1) (C.We ρ)) R3 p4 fun v d M1 H1 g1 l1 R1 r1 p1 => ⟨d, M1, g1, l1, R1, r1, p1⟩) pins s3 I3)
        fun w' s4 ⟨z', H4, I4, r4, d4, M4, g4, l4, R4, r5, p5⟩ => thn (ho' _ R4 I4 rx2 r4 (r2.mono (l3.trans l4)) r5 (p5.imp fun _ _ q => q.later (((l1.trans l2).trans l3).trans l4))) fun d' s5 ⟨z2, H5, I5, r5, k2, e2, q5⟩ => ?_))
      subst e2
      cases r5
      exact wpAny_truthy_bool ⟨H5, I5, q5⟩⟩
end
end L3
set_option Elab.async false
set_option linter.all false
set_option maxRecDepth 100000
set_option maxHeartbeats 4000000
set_option autoImplicit false
namespace L3
open PySem PySem.Spec L2
open PyProof.Rows hiding St
theorem reps_ints {K : PySem.W.Frag} {g : G} : ∀ ns : List Int, Reps K g (ns.map V.int) (ns.map D.int)
  | [] => .nil
  | n :: r => .cons (.int n) (reps_ints r)
theorem sp_start {K : PySem.W.Frag} {m : List D → Py D} {H : Hp} {a : Addr} {ns : List Int} (hS : SqL K H a (ns.map V.int)) (p : Post (m [.ro (ns.map D.int)] []) (fun d _ => d = .bl true) (fun _ _ => False)) :
    spD K 1 m [.ref a] H (fun v _ => v = .bl true) (fun _ _ _ => False) := by
  refine ⟨rfl, ⟨[], H, fun _ => none⟩, [], [.ro (ns.map D.int)], ⟨fun _ _ h => h, fun _ _ h => (nomatch (show (none : Option HO) = some _ from h)), rfl, fun n o e => by simp at e, fun n m a y y' e => by simp at e⟩, .cons (.ro hS (reps_ints ns)) .nil, p.mono (fun d M' e v H' g' _ _ r => ?_) fun _ _ z => z.elim⟩
  subst e
  cases r
  rfl
end L3
set_option Elab.async false
set_option linter.all false
set_option maxRecDepth 100000
set_option maxHeartbeats 4000000
set_option autoImplicit false
namespace L3
open PySem PySem.Spec L2
open PyProof.Rows hiding St
open PySem.SeqAt PySem.MeetsSeq
open AutoSeq1 (wpAny_loadPart')
theorem str_eq_declines_dict (b : Str) (u : Tok) (l : Addr) (c : Value) (es : Array DictEntry) (ep : Nat) (dd : Option Addr) (sl : Array (Option Value)) :
    Meets (Builtin.«str.__eq__» ⟨[.str b u, .ref l], []⟩) (fun _ R s => s.heap.get? l = some { cls := c, dict := dd, data := .dict es ep, slots := sl } ∧ R (.ok (.ret .notImplemented)) s) :=
  .of_wp fun prog w A R s h => by obtain ⟨hp, g, d, tk, os⟩ := s; obtain ⟨hl, h⟩ := h; wp_walk using wpAny_loadPart' hl, wpAny_load hl; exact ⟨_, rfl, h⟩
section
variable {A : Around} {s : Shared} {P : Program} {w : World}
theorem eqAt_str_dict {l : Addr} {cls : Value} {es : Array DictEntry} {ep : Nat} {dd : Option Addr} {sl : Array (Option Value)} (b : Str) (u : Tok) (ho : s.heap.get? l = some { cls := cls, dict := dd, data := .dict es ep, slots := sl }) (hT : s.TypeIs (.ref l) "dict") (hu : A.units < cLine) : EqAt A s (.str b u) (.ref l) false := fun prog w E Q h => by
  unfold eqBool
  refine wpAny_holding ?_
  refine wpAny_ite_split (fun hab => absurd (eq_of_beq hab) nofun) (fun _ => ?_)
  refine wpAny_bind ?_
  refine rc_eq_decline_or (k := false) (typeIs_str s b u) hT (by decide) F.sub_dict_str F.slot_str_eq F.slot_dict_eq_refl
    (fun _ hq => call_meets F.slot_str_eq (typeIs_str s b u) F.entry_str_eq (F.args_str_eq_2 _ _) (str_eq_declines_dict b u l cls es ep dd sl) ⟨ho, hq⟩)
    (fun _ hq => wpAny_call_entry F.slot_dict_eq_refl hT F.entry_dict_eq ?_ (F.args_dict_eq_2 _ _))
    (fun _ hq => wpAny_of_eq (rfl : isSame (.str b u) (.ref l) = pure false) hq) (.inr hu) (wpAny_truthy_bool h)
  show wpAny _ _ (Builtin.Dict.dictSlotArgs "__eq__" ⟨[.ref l, .str b u], []⟩ >>= _) _ _ s
  refine wpAny_bind ?_
  unfold Builtin.Dict.dictSlotArgs
  refine wpAny_bind (wpAny_notOrdered_dict hT ?_)
  show wpAny _ _ (pure (Value.ref l, Value.str b u)) _ _ s
  refine wpAny_pure ?_
  refine wpAny_bind (wpAny_isInstance (T := "str") (typeIs_str s b u) PySem.F.sub_str_dict ?_)
  simp only [Bool.not_false, if_true]
  refine wpAny_bind (wpAny_rule ?_)
  exact wpAny_pure ⟨_, rfl, hq⟩
/-- a text beside any datum -/
def strAt (x : V) (u : Value) : Bool := match x, u with
  | .str a, .str b _ => b == a
  | _, _ => false
/-- what may be held against texts -/
def PlainX (K : PySem.W.Frag) (H : Hp) (x : V) : Prop := flatV x = true ∨ ∃ a, x = .ref a ∧ ((∃ vs, SqL K H a vs) ∨ (∃ vs, SqT K H a vs) ∨ ∃ kvs, H a = some (.dK kvs))
theorem strAt_eq {X : Cx} {pins : List (Addr × Obj)} {σ : St} {H : Hp} {x : V} {v : Value} {b : Str} {t : Tok} {A : Around} (I : Inv X pins σ H s) (rx : RelV x v) (hx : PlainX X.K H x) (hu : A.units < cLine) : EqAt A s (.str b t) v (strAt x (.str b t)) := by
  rcases hx with fx | ⟨a, rfl, h⟩
  · cases x with
    | non => cases rx; exact EqAt.str_none b t
    | bl k => cases rx; exact EqAt.str_bool b t k
    | int k => obtain ⟨u, rfl⟩ := rx; exact EqAt.str_int b t k u
    | str k => obtain ⟨u, rfl⟩ := rx; exact EqAt.str_str b t k u
    | _ => exact absurd (show false = true from fx) Bool.false_ne_true
  · cases rx
    rcases h with ⟨vs, h⟩ | ⟨vs, h⟩ | ⟨kvs, h⟩
    · obtain ⟨its, r, pl, hz⟩ := I.list h
      exact EqAt.str_list b t pl.isList hu
    · obtain ⟨its, r, pl, hz⟩ := I.tuple h
      exact EqAt.str_tuple b t pl hu
    · obtain ⟨z, y, vs, r, hd⟩ := I.hok a _ h
      have hT := hd.typeIs (s := s)
      obtain ⟨⟨cls, dd, data, sl⟩, es, ep, ho, hc, hq, _⟩ := id hd
      simp only at hq
      subst hq
      exact eqAt_str_dict b t ho hT hu
end
def strIn (x : V) (zs : List Str) : Bool := zs.any fun z => strAt x (.str z default)
theorem any_strAt {x : V} : ∀ {zs : List Str} {us : List Value}, Vals (zs.map V.str) us → us.any (strAt x) = strIn x zs
  | [], _, .nil => rfl
  | z :: zs, u :: us, .cons r t => by
    obtain ⟨tk, rfl⟩ := r
    unfold strIn
    rw [List.any_cons, List.any_cons, any_strAt t]
    cases x <;> rfl
theorem mem_strAt {X : Cx} {pins : List (Addr × Obj)} {σ : St} {H : Hp} {s : Shared} {x : V} {v : Value} {A : Around} (I : Inv X pins σ H s) (rx : RelV x v) (hx : PlainX X.K H x) (hu : A.units < cLine) : ∀ {zs : List Str} {us : List Value}, Vals (zs.map V.str) us → ∀ u ∈ us, EqAt A s u v (strAt x u)
  | [], _, .nil => fun u hu => by cases hu
  | z :: zs, u :: us, .cons r t => fun u' hu' => by
    rcases List.mem_cons.mp hu' with rfl | hu'
    · obtain ⟨tk, rfl⟩ := r
      exact strAt_eq I rx hx hu
    · exact mem_strAt I rx hx hu t u' hu'
/-- x in texts -/
def rInT (K : PySem.W.Frag) (neg : Bool) : R2 := fun x y H Q => ∃ p zs, y = .ref p ∧ (SqL K H p (zs.map V.str) ∨ SqT K H p (zs.map V.str)) ∧ PlainX K H x ∧ Q (.bl (if neg then !strIn x zs else strIn x zs)) H
section
variable {X : Cx}
theorem op_inT (hu : X.A.units + 1 < cLine) : OpR X (compareOp .In) (rInT X.K false) := by
  intro pins s σ H x y v u Q I rx ry h
  obtain ⟨p, zs, rfl, hq, fx, q⟩ := h
  cases ry
  have hu1 : X.A.in1.units < cLine := hu
  rcases hq with hq | hq
  · obtain ⟨its, r, pl, hz⟩ := I.list hq
    refine SeqAt.in_listAt (strAt x) pl.isList (fun w hw => mem_strAt I rx fx hu1 r w (by simpa using hw)) ⟨.bl _, H, I, rfl, ?_⟩
    rw [show its.toArray.any (strAt x) = its.any (strAt x) by simp, any_strAt r]
    exact q
  · obtain ⟨its, r, pl, hz⟩ := I.tuple hq
    refine SeqAt.in_tupleAt (strAt x) pl (fun w hw => mem_strAt I rx fx hu1 r w (by simpa using hw)) ⟨.bl _, H, I, rfl, ?_⟩
    rw [show its.toArray.any (strAt x) = its.any (strAt x) by simp, any_strAt r]
    exact q
theorem op_notInT (hu : X.A.units + 1 < cLine) : OpR X (compareOp .NotIn) (rInT X.K true) := by
  intro pins s σ H x y v u Q I rx ry h
  obtain ⟨p, zs, rfl, hq, fx, q⟩ := h
  cases ry
  have hu1 : X.A.in1.units < cLine := hu
  rcases hq with hq | hq
  · obtain ⟨its, r, pl, hz⟩ := I.list hq
    refine SeqAt.notIn_listAt (strAt x) pl.isList (fun w hw => mem_strAt I rx fx hu1 r w (by simpa using hw)) ⟨.bl _, H, I, rfl, ?_⟩
    rw [show its.toArray.any (strAt x) = its.any (strAt x) by simp, any_strAt r]
    exact q
  · obtain ⟨its, r, pl, hz⟩ := I.tuple hq
    refine SeqAt.notIn_tupleAt (strAt x) pl (fun w hw => mem_strAt I rx fx hu1 r w (by simpa using hw)) ⟨.bl _, H, I, rfl, ?_⟩
    rw [show its.toArray.any (strAt x) = its.any (strAt x) by simp, any_strAt r]
    exact q
end
/-! ### on data -/
def plnD (M : Store) : D → Bool
  | .non => true
  | .bl _ => true
  | .int _ => true
  | .str _ => true
  | .tup _ => true
  | .lst _ => true
  | .ro _ => true
  | .dk _ => true
  | .loc n => match M[n]? with
    | some (some (.lst _)) => true
    | some (some (.dk _)) => true
    | _ => false
  | _ => false
def isS (x : D) (z : Str) : Bool := match x with
  | .str a => z == a
  | _ => false
def strsOf : List D → Option (List Str)
  | [] => some []
  | .str z :: r => (strsOf r).map fun zs => z :: zs
  | _ :: _ => none
theorem strsOf_rep {K : PySem.W.Frag} {g : G} : ∀ {vs : List V} {ds : List D} {zs : List Str}, Reps K g vs ds → strsOf ds = some zs → vs = zs.map V.str
  | _, _, _, .nil, e => by cases e; rfl
  | _, _, zs, .cons (d := d) (ds := r) h t, e => by
    cases d with
    | str z =>
      obtain ⟨zs', e2, e3⟩ := Option.map_eq_some_iff.mp (show (strsOf r).map _ = some zs from e)
      subst e3
      rw [List.map_cons, ← strsOf_rep t e2, rep_str h]
    | _ => cases e
theorem plain_rep {K : PySem.W.Frag} {g : G} {M : Store} {H : Hp} {v : V} {d : D} (R : RelH K g M H) (r : Rep K g v d) (h : plnD M d = true) : PlainX K H v := by
  cases r with
  | non => exact .inl rfl
  | bl b => exact .inl rfl
  | int b => exact .inl rfl
  | str b => exact .inl rfl
  | tup s t => exact .inr ⟨_, rfl, .inr (.inl ⟨_, .inl (.of (R.frz _ _ s))⟩)⟩
  | lst s t => exact .inr ⟨_, rfl, .inl ⟨_, .inl (.of (R.frz _ _ s))⟩⟩
  | ro s t => exact .inr ⟨_, rfl, .inl ⟨_, sqL_mono (R.frz) s⟩⟩
  | dk s t z => exact .inr ⟨_, rfl, .inr (.inr ⟨_, R.frz _ _ s⟩)⟩
  | @loc n a e =>
    have h' : (match M[n]? with | some (some (.lst _)) => true | some (some (.dk _)) => true | _ => false) = true := h
    split at h'
    · rename_i xs e2
      obtain ⟨b, e3, _, vs, e4, _⟩ := R.liv n _ e2
      rw [e] at e3; cases e3
      exact .inr ⟨_, rfl, .inl ⟨vs, .inl (.of e4)⟩⟩
    · rename_i xs e2
      obtain ⟨b, e3, _, vs, e4, _⟩ := R.liv n _ e2
      rw [e] at e3; cases e3
      exact .inr ⟨_, rfl, .inr (.inr ⟨vs, e4⟩)⟩
    · cases h'
  | _ => cases h
theorem strIn_rep {K : PySem.W.Frag} {g : G} {v : V} {d : D} (r : Rep K g v d) (zs : List Str) : strIn v zs = zs.any (isS d) := by
  unfold strIn
  congr 1
  funext z
  cases r <;> rfl
/-- x in (texts) -/
def inTD (neg : Bool) (x y : D) : Py D := Py.bnd (items y) fun ds => fun M => match strsOf ds with
  | some zs => if plnD M x = true then .ok (.bl (if neg then !zs.any (isS x) else zs.any (isS x))) M else .bad
  | none => .bad
theorem inTD_post {neg : Bool} {x : D} {ds : List D} {M : Store} {q : D → Store → Prop} {E : Exn → Store → Prop} (p : Post ((match strsOf ds with
  | some zs => if plnD M x = true then .ok (.bl (if neg then !zs.any (isS x) else zs.any (isS x))) M else .bad
  | none => .bad : Out D)) q E) : ∃ zs, strsOf ds = some zs ∧ plnD M x = true ∧ q (.bl (if neg then !zs.any (isS x) else zs.any (isS x))) M := by
  cases h : strsOf ds with
  | none => rw [h] at p; exact p.elim
  | some zs =>
    rw [h] at p
    dsimp only at p
    by_cases h2 : plnD M x = true
    · rw [if_pos h2] at p; exact ⟨zs, rfl, h2, p⟩
    · rw [if_neg h2] at p; exact p.elim
section
variable {C : DX}
theorem do_inT (hu : C.X.A.units + 1 < cLine) : DOp C (compareOp .In) (inTD false) := DOp.of (op_inT hu) fun {g ρ M σ H x y dx dy} Q R rx ry p => by
  obtain ⟨a, vs, ds, rfl, hs, t, p1⟩ := items_post R.h ry (post_bnd.mp p)
  obtain ⟨zs, e, hp, q⟩ := inTD_post p1
  have ez := strsOf_rep t e
  subst ez
  refine ⟨a, zs, rfl, hs, plain_rep R.h rx hp, ?_⟩
  rw [strIn_rep rx]
  exact QV.here q R (.bl _)
theorem do_notInT (hu : C.X.A.units + 1 < cLine) : DOp C (compareOp .NotIn) (inTD true) := DOp.of (op_notInT hu) fun {g ρ M σ H x y dx dy} Q R rx ry p => by
  obtain ⟨a, vs, ds, rfl, hs, t, p1⟩ := items_post R.h ry (post_bnd.mp p)
  obtain ⟨zs, e, hp, q⟩ := inTD_post p1
  have ez := strsOf_rep t e
  subst ez
  refine ⟨a, zs, rfl, hs, plain_rep R.h rx hp, ?_⟩
  rw [strIn_rep rx]
  exact QV.here q R (.bl _)
end
end L3
set_option Elab.async false
set_option linter.all false
set_option maxRecDepth 100000
set_option maxHeartbeats 4000000
set_option autoImplicit false
/-! the plain law's own tools: what a reading asks, step by step -/
namespace L3
open PySem PySem.Spec L2
open PyProof.Rows hiding St
theorem Post.use {α : Type} {o : Out α} {Q' Q : α → Store → Prop} {E : Exn → Store → Prop} (h : Post o Q' (fun _ _ => False)) (k : ∀ a M, Q' a M → Q a M) : Post o Q E := h.mono k fun _ _ z => z.elim
theorem post_congr {α : Type} {o : Out α} {Q Q' : α → Store → Prop} {E : Exn → Store → Prop} (h : ∀ a M, Q a M ↔ Q' a M) : Post o Q E ↔ Post o Q' E := by
  cases o with
  | ok a M => exact h a M
  | exc e M => exact Iff.rfl
  | bad => exact Iff.rfl
section
variable {Q : D → Store → Prop} {QB : Bool → Store → Prop} {QL : List D → Store → Prop} {QF : Fl → Store → Prop} {QR : DEnv → Store → Prop} {QW : Wk → Store → Prop} {QO : Option Int → Store → Prop} {E : Exn → Store → Prop} {M : Store} {ρ : DEnv}
variable {fa fb fc : DEnv → Py D} {ta tb : DEnv → Py Bool} {ff : DEnv → Py (List D)} {sa sb : DEnv → Py Fl} {d e : D} {i j : Int} {xs ys : List D}
theorem post_if {α : Type} {c : Prop} [Decidable c] {a b : Py α} {R : α → Store → Prop} : Post ((if c then a else b) M) R E ↔ if c then Post (a M) R E else Post (b M) R E := by split <;> exact Iff.rfl
@[simp] theorem p_eC : Post (eC d ρ M) Q E ↔ Q d M := Iff.rfl
@[simp] theorem p_eVar {n : Nat} : Post (eVar n ρ M) Q E ↔ Post (getV ρ[n]? M) Q E := Iff.rfl
@[simp] theorem p_getV : Post (getV (some (some d)) M) Q E ↔ Q d M := Iff.rfl
@[simp] theorem p_eOp {op : D → D → Py D} : Post (eOp op fa fb ρ M) Q E ↔ Post (fa ρ M) (fun x M1 => Post (fb ρ M1) (fun y M2 => Post (op x y M2) Q E) E) E := by
  unfold eOp; rw [post_bnd]; simp only [post_bnd]
@[simp] theorem p_eUn {op : D → Py D} : Post (eUn op fa ρ M) Q E ↔ Post (fa ρ M) (fun x M1 => Post (op x M1) Q E) E := by
  unfold eUn; rw [post_bnd]
@[simp] theorem p_truB {b : Bool} : Post (truB (.bl b) M) QB E ↔ QB b M := Iff.rfl
@[simp] theorem p_eTest : Post (eTest fa ρ M) QB E ↔ Post (fa ρ M) (fun x M1 => Post (truB x M1) QB E) E := by
  unfold eTest; rw [post_bnd]
@[simp] theorem p_tAnd : Post (tAndD ta tb ρ M) QB E ↔ Post (ta ρ M) (fun c M1 => if c = true then Post (tb ρ M1) QB E else QB false M1) E := by
  unfold tAndD; rw [post_bnd]; simp only [post_if]; exact Iff.rfl
@[simp] theorem p_tOr : Post (tOrD ta tb ρ M) QB E ↔ Post (ta ρ M) (fun c M1 => if c = true then QB true M1 else Post (tb ρ M1) QB E) E := by
  unfold tOrD; rw [post_bnd]; simp only [post_if]; exact Iff.rfl
@[simp] theorem p_tNot : Post (tNotD ta ρ M) QB E ↔ Post (ta ρ M) (fun c M1 => QB (!c) M1) E := by
  unfold tNotD; rw [post_bnd]; exact Iff.rfl
@[simp] theorem p_tYes : Post (tYesD ρ M) QB E ↔ QB true M := Iff.rfl
@[simp] theorem p_eAnd : Post (eAnd fa fb ρ M) Q E ↔ Post (fa ρ M) (fun x M1 => Post (truB x M1) (fun c M2 => if c = true then Post (fb ρ M2) Q E else Q (.bl false) M2) E) E := by
  unfold eAnd; rw [post_bnd]; simp only [post_bnd, post_if]; exact Iff.rfl
@[simp] theorem p_eOr : Post (eOr fa fb ρ M) Q E ↔ Post (fa ρ M) (fun x M1 => Post (truB x M1) (fun c M2 => if c = true then Q (.bl true) M2 else Post (fb ρ M2) Q E) E) E := by
  unfold eOr; rw [post_bnd]; simp only [post_bnd, post_if]; exact Iff.rfl
@[simp] theorem p_eNot : Post (eNot fa ρ M) Q E ↔ Post (fa ρ M) (fun x M1 => Post (truB x M1) (fun c M2 => Q (.bl (!c)) M2) E) E := by
  unfold eNot; rw [post_bnd]; simp only [post_bnd]; exact Iff.rfl
@[simp] theorem p_eIf : Post (eIf ta fa fb ρ M) Q E ↔ Post (ta ρ M) (fun c M1 => if c = true then Post (fa ρ M1) Q E else Post (fb ρ M1) Q E) E := by
  unfold eIf; rw [post_bnd]; simp only [post_if]
@[simp] theorem p_eChain {op op' : D → D → Py D} : Post (eChain op op' fa fb fc ρ M) Q E ↔ Post (fa ρ M) (fun x M1 => Post (fb ρ M1) (fun y M2 => Post (op x y M2) (fun z M3 => Post (truB z M3) (fun k M4 => if k = true then Post (fc ρ M4) (fun w M5 => Post (op' y w M5) Q E) E else Q (.bl false) M4) E) E) E) E := by
  unfold eChain; rw [post_bnd]; simp only [post_bnd, post_if]; exact Iff.rfl
@[simp] theorem p_aNil : Post (aNil ρ M) QL E ↔ QL [] M := Iff.rfl
@[simp] theorem p_aCons : Post (aCons fa ff ρ M) QL E ↔ Post (fa ρ M) (fun x M1 => Post (ff ρ M1) (fun xs M2 => QL (x :: xs) M2) E) E := by
  unfold aCons; rw [post_bnd]; simp only [post_bnd]; exact Iff.rfl
@[simp] theorem p_eTup : Post (eTup ff ρ M) Q E ↔ Post (ff ρ M) (fun ds M1 => ds.length ≤ sizeLine ∧ Q (.tup ds) M1) E := by
  unfold eTup; rw [post_bnd]; simp only [post_chk]; exact Iff.rfl
@[simp] theorem p_eLst : Post (eLst ff ρ M) Q E ↔ Post (ff ρ M) (fun ds M1 => ds.length ≤ sizeLine ∧ Q (.lst ds) M1) E := by
  unfold eLst; rw [post_bnd]; simp only [post_chk]; exact Iff.rfl
theorem p_alloc {o : MO} : Post (alloc o M) Q E ↔ Q (.loc M.length) (M ++ [some o]) := Iff.rfl
@[simp] theorem p_eNew : Post (eNew ff ρ M) Q E ↔ Post (ff ρ M) (fun ds M1 => ds.length ≤ sizeLine ∧ Q (.loc M1.length) (M1 ++ [some (.lst ds)])) E := by
  unfold eNew; rw [post_bnd]; simp only [post_chk, p_alloc]
@[simp] theorem p_eCall {op : List D → Py D} : Post (eCall op ff ρ M) Q E ↔ Post (ff ρ M) (fun ds M1 => Post (op ds M1) Q E) E := by
  unfold eCall; rw [post_bnd]
@[simp] theorem p_nargs {n : Nat} {m : List D → Py D} : Post (nargs n m xs M) Q E ↔ xs.length = n ∧ Post (m xs M) Q E := post_chk
@[simp] theorem p_one {f : D → Py D} : Post (one f [d] M) Q E ↔ Post (f d M) Q E := Iff.rfl
@[simp] theorem p_two {f : D → D → Py D} : Post (twoD f [d, e] M) Q E ↔ Post (f d e M) Q E := Iff.rfl
/-! statements -/
@[simp] theorem p_sSet {n : Nat} : Post (sSet n fa ρ M) QF E ↔ Post (fa ρ M) (fun d M1 => QF (.nx (ρ.set n (some d))) M1) E := by
  unfold sSet; rw [post_bnd]; exact Iff.rfl
@[simp] theorem p_sAsg {ft : D → DEnv → Py DEnv} : Post (sAsg fa ft ρ M) QF E ↔ Post (fa ρ M) (fun d M1 => Post (ft d ρ M1) (fun ρ' M2 => QF (.nx ρ') M2) E) E := by
  unfold sAsg; rw [post_bnd]; simp only [post_bnd]; exact Iff.rfl
@[simp] theorem p_sRet : Post (sRet fa ρ M) QF E ↔ Post (fa ρ M) (fun d M1 => QF (.rt d) M1) E := by
  unfold sRet; rw [post_bnd]; exact Iff.rfl
@[simp] theorem p_sRetN : Post (sRetN ρ M) QF E ↔ QF (.rt .non) M := Iff.rfl
@[simp] theorem p_sDrop : Post (sDrop fa ρ M) QF E ↔ Post (fa ρ M) (fun _ M1 => QF (.nx ρ) M1) E := by
  unfold sDrop; rw [post_bnd]; exact Iff.rfl
@[simp] theorem p_sIf : Post (sIf ta sa sb ρ M) QF E ↔ Post (ta ρ M) (fun c M1 => if c = true then Post (sa ρ M1) QF E else Post (sb ρ M1) QF E) E := by
  unfold sIf; rw [post_bnd]; simp only [post_if]
@[simp] theorem p_sNext : Post (sNext ρ M) QF E ↔ QF (.nx ρ) M := Iff.rfl
/-- what follows -/
def thenF (sb : DEnv → Py Fl) (QF : Fl → Store → Prop) (E : Exn → Store → Prop) : Fl → Store → Prop
  | .nx ρ, M => Post (sb ρ M) QF E
  | r, M => QF r M
@[simp] theorem thenF_nx : thenF sb QF E (.nx ρ) M ↔ Post (sb ρ M) QF E := Iff.rfl
@[simp] theorem thenF_rt : thenF sb QF E (.rt d) M ↔ QF (.rt d) M := Iff.rfl
@[simp] theorem thenF_bk : thenF sb QF E (.bk ρ) M ↔ QF (.bk ρ) M := Iff.rfl
@[simp] theorem thenF_ct : thenF sb QF E (.ct ρ) M ↔ QF (.ct ρ) M := Iff.rfl
@[simp] theorem p_sSeq : Post (sSeq sa sb ρ M) QF E ↔ Post (sa ρ M) (thenF sb QF E) E := by
  exact post_bnd.trans (post_congr fun a M' => by cases a <;> exact Iff.rfl)
@[simp] theorem p_sBk : Post (sBk ρ M) QF E ↔ QF (.bk ρ) M := Iff.rfl
@[simp] theorem p_sCt : Post (sCt ρ M) QF E ↔ QF (.ct ρ) M := Iff.rfl
@[simp] theorem p_parK {a b : Nat} : Post (parK a b ρ [d, e] M) QF E ↔ QF (.nx ((ρ.set a (some d)).set b (some e))) M := Iff.rfl
@[simp] theorem p_sPar {a b : Nat} : Post (sPar a b ff ρ M) QF E ↔ Post (ff ρ M) (fun ds M1 => Post (parK a b ρ ds M1) QF E) E := by
  unfold sPar; rw [post_bnd]
@[simp] theorem p_parK3 {a b c : Nat} {f : D} : Post (parK3 a b c ρ [d, e, f] M) QF E ↔ QF (.nx (((ρ.set a (some d)).set b (some e)).set c (some f))) M := Iff.rfl
@[simp] theorem p_sPar3 {a b c : Nat} : Post (sPar3 a b c ff ρ M) QF E ↔ Post (ff ρ M) (fun ds M1 => Post (parK3 a b c ρ ds M1) QF E) E := by
  unfold sPar3; rw [post_bnd]
@[simp] theorem p_sAug {n : Nat} {op : D → D → Py D} : Post (sAug n op fa ρ M) QF E ↔ Post (getV ρ[n]? M) (fun x M1 => Post (fa ρ M1) (fun y M2 => Post (op x y M2) (fun z M3 => QF (.nx (ρ.set n (some z))) M3) E) E) E := by
  unfold sAug; simp only [post_bnd]; exact Iff.rfl
@[simp] theorem p_sSub : Post (sSub fa fb fc ρ M) QF E ↔ Post (fc ρ M) (fun v M1 => Post (fa ρ M1) (fun o M2 => Post (fb ρ M2) (fun k M3 => Post (setD o k v M3) (fun _ M4 => QF (.nx ρ) M4) E) E) E) E := by
  unfold sSub; simp only [post_bnd]; exact Iff.rfl
/-- the end of a def -/
def endF (Q : D → Store → Prop) : Fl → Store → Prop
  | .nx _, M => Q .non M
  | .rt d, M => Q d M
  | _, _ => False
@[simp] theorem endF_nx : endF Q (.nx ρ) M ↔ Q .non M := Iff.rfl
@[simp] theorem endF_rt : endF Q (.rt d) M ↔ Q d M := Iff.rfl
@[simp] theorem endF_bk : endF Q (.bk ρ) M ↔ False := Iff.rfl
@[simp] theorem endF_ct : endF Q (.ct ρ) M ↔ False := Iff.rfl
theorem p_runD {n : Nat} : Post (runD n sa xs M) Q E ↔ Post (sa (xs.map some ++ List.replicate (n - xs.length) none) M) (endF Q) E := by
  unfold runD
  exact post_bnd.trans (post_congr fun a M' => by cases a <;> exact Iff.rfl)
/-! whole numbers -/
@[simp] theorem p_addI : Post (addI (.int i) (.int j) M) Q E ↔ Q (.int (i + j)) M := Iff.rfl
@[simp] theorem p_subI : Post (subI (.int i) (.int j) M) Q E ↔ Q (.int (i - j)) M := Iff.rfl
@[simp] theorem p_mulI : Post (mulI (.int i) (.int j) M) Q E ↔ ((-(2 ^ 64) < i ∧ i < 2 ^ 64) ∨ (-(2 ^ 64) < j ∧ j < 2 ^ 64)) ∧ Q (.int (i * j)) M := post_chk
@[simp] theorem p_fdivI : Post (fdivI (.int i) (.int j) M) Q E ↔ (0 < j ∧ j < 1073741824) ∧ Q (.int (i / j)) M := post_chk
@[simp] theorem p_modI : Post (modI (.int i) (.int j) M) Q E ↔ 0 < j ∧ Q (.int (i % j)) M := post_chk
@[simp] theorem p_powI : Post (powI (.int i) (.int j) M) Q E ↔ (0 ≤ j ∧ j ≤ 1000000 ∧ i.natAbs < 2 ^ 64) ∧ Q (.int (i ^ j.toNat)) M := post_chk
@[simp] theorem p_ltI : Post (ltI (.int i) (.int j) M) Q E ↔ Q (.bl (decide (i < j))) M := Iff.rfl
@[simp] theorem p_leI : Post (leI (.int i) (.int j) M) Q E ↔ Q (.bl (decide (i ≤ j))) M := Iff.rfl
@[simp] theorem p_gtI : Post (gtI (.int i) (.int j) M) Q E ↔ Q (.bl (decide (j < i))) M := Iff.rfl
@[simp] theorem p_geI : Post (geI (.int i) (.int j) M) Q E ↔ Q (.bl (decide (j ≤ i))) M := Iff.rfl
@[simp] theorem p_negI : Post (negI (.int i) M) Q E ↔ Q (.int (-i)) M := Iff.rfl
@[simp] theorem p_maxI : Post (maxI (.int i) (.int j) M) Q E ↔ Q (.int (if j > i then j else i)) M := Iff.rfl
@[simp] theorem p_minI : Post (minI (.int i) (.int j) M) Q E ↔ Q (.int (if j < i then j else i)) M := Iff.rfl
@[simp] theorem p_absD : Post (absD (.int i) M) Q E ↔ Q (.int (if i < 0 then -i else i)) M := Iff.rfl
@[simp] theorem p_intD : Post (intD (.int i) M) Q E ↔ Q (.int i) M := Iff.rfl
@[simp] theorem p_addA_int : Post (addA (.int i) (.int j) M) Q E ↔ Q (.int (i + j)) M := Iff.rfl
@[simp] theorem p_mulA_int : Post (mulA (.int i) (.int j) M) Q E ↔ ((-(2 ^ 64) < i ∧ i < 2 ^ 64) ∨ (-(2 ^ 64) < j ∧ j < 2 ^ 64)) ∧ Q (.int (i * j)) M := post_chk
@[simp] theorem p_addA_tup : Post (addA (.tup xs) (.tup ys) M) Q E ↔ xs.length + ys.length ≤ sizeLine ∧ Q (.tup (xs ++ ys)) M := post_chk
@[simp] theorem p_addA_lst : Post (addA (.lst xs) (.lst ys) M) Q E ↔ xs.length + ys.length ≤ sizeLine ∧ Q (.lst (xs ++ ys)) M := post_chk
/-! items -/
@[simp] theorem p_items_tup : Post (items (.tup xs) M) QL E ↔ QL xs M := Iff.rfl
@[simp] theorem p_items_lst : Post (items (.lst xs) M) QL E ↔ QL xs M := Iff.rfl
@[simp] theorem p_items_ro : Post (items (.ro xs) M) QL E ↔ QL xs M := Iff.rfl
theorem p_items_loc {n : Nat} (h : M[n]? = some (some (.lst xs))) : Post (items (.loc n) M) QL E ↔ QL xs M := by
  unfold items
  simp only [h]
  exact Iff.rfl
@[simp] theorem p_len_tup : Post (lenD (.tup xs) M) Q E ↔ Q (.int xs.length) M := Iff.rfl
@[simp] theorem p_len_lst : Post (lenD (.lst xs) M) Q E ↔ Q (.int xs.length) M := Iff.rfl
@[simp] theorem p_len_ro : Post (lenD (.ro xs) M) Q E ↔ Q (.int xs.length) M := Iff.rfl
@[simp] theorem p_len_str {z : Str} : Post (lenD (.str z) M) Q E ↔ z.length ≤ sizeLine ∧ Q (.int z.length) M := post_chk
theorem p_len_loc {n : Nat} (h : M[n]? = some (some (.lst xs))) : Post (lenD (.loc n) M) Q E ↔ Q (.int xs.length) M := by
  unfold lenD
  simp only [post_bnd, p_items_loc h]
  exact Iff.rfl
/-- what stands at a place -/
def AtP (xs : List D) (i : Int) (P : D → Prop) : Prop := match atI xs i with
  | some d => P d
  | none => False
theorem atP_iff {P : D → Prop} : AtP xs i P ↔ ∃ d, atI xs i = some d ∧ P d := by
  unfold AtP
  cases atI xs i <;> simp
@[simp] theorem p_ix_tup : Post (ixD (.tup xs) (.int i) M) Q E ↔ AtP xs i fun d => Q d M := by
  unfold ixD AtP
  rw [post_bnd]
  simp only [p_items_tup]
  cases atI xs i <;> exact Iff.rfl
@[simp] theorem p_ix_lst : Post (ixD (.lst xs) (.int i) M) Q E ↔ AtP xs i fun d => Q d M := by
  unfold ixD AtP
  rw [post_bnd]
  simp only [p_items_lst]
  cases atI xs i <;> exact Iff.rfl
@[simp] theorem p_ix_ro : Post (ixD (.ro xs) (.int i) M) Q E ↔ AtP xs i fun d => Q d M := by
  unfold ixD AtP
  rw [post_bnd]
  simp only [p_items_ro]
  cases atI xs i <;> exact Iff.rfl
theorem p_ix_loc {n : Nat} (h : M[n]? = some (some (.lst xs))) : Post (ixD (.loc n) (.int i) M) Q E ↔ AtP xs i fun d => Q d M := by
  unfold ixD AtP
  rw [post_bnd]
  simp only [p_items_loc h]
  cases atI xs i <;> exact Iff.rfl
theorem ixN_nat {n k : Nat} (h : k < n) : ixN n (k : Int) = some k := by
  unfold ixN
  simp [h]
theorem atI_nat {k : Nat} (h : k < xs.length) : atI xs (k : Int) = xs[k]? := by
  unfold atI
  rw [ixN_nat h]
  rfl
theorem atP_nat {P : D → Prop} {k : Nat} (h : k < xs.length) : AtP xs (k : Int) P ↔ P xs[k] := by
  unfold AtP
  rw [atI_nat h, List.getElem?_eq_getElem h]
theorem atP_int {P : D → Prop} (h0 : 0 ≤ i) (h1 : i < xs.length) : AtP xs i P ↔ ∃ h : i.toNat < xs.length, P xs[i.toNat] := by
  obtain ⟨k, rfl⟩ := Int.eq_ofNat_of_zero_le h0
  have hk : k < xs.length := by omega
  rw [show ((k : Nat) : Int) = (k : Int) from rfl, atP_nat hk]
  simp [hk]
theorem atP_all {P : D → Prop} (h0 : 0 ≤ i) (h1 : i < xs.length) (h : ∀ d ∈ xs, P d) : AtP xs i P := by
  rw [atP_int h0 h1]
  have hk : i.toNat < xs.length := by omega
  exact ⟨hk, h _ (List.getElem_mem hk)⟩
end
end L3
set_option Elab.async false
set_option linter.all false
set_option maxRecDepth 100000
set_option maxHeartbeats 4000000
set_option autoImplicit false
/-! the plain law's own tools: things that change, walks, comprehensions -/
namespace L3
open PySem PySem.Spec L2
open PyProof.Rows hiding St
/-- the list at n -/
def LocL (M : Store) (n : Nat) (P : List D → Prop) : Prop := match M[n]? with
  | some (some (.lst xs)) => P xs
  | _ => False
section
variable {M : Store} {n m : Nat} {xs ys : List D} {P : List D → Prop}
theorem locL_of (h : M[n]? = some (some (.lst xs))) : LocL M n P ↔ P xs := by
  unfold LocL; rw [h]
@[simp] theorem locL_set : LocL (M.set n (some (.lst xs))) n P ↔ n < M.length ∧ P xs := by
  unfold LocL
  by_cases h : n < M.length
  · rw [List.getElem?_set_self h]; exact ⟨fun z => ⟨h, z⟩, fun z => z.2⟩
  · rw [List.getElem?_eq_none (by rw [List.length_set]; omega)]; exact ⟨fun z => z.elim, fun z => (h z.1).elim⟩
theorem locL_congr {P' : List D → Prop} (h : ∀ xs, P xs ↔ P' xs) : LocL M n P ↔ LocL M n P' := by
  unfold LocL; split
  · exact h _
  · exact Iff.rfl
theorem locL_set_ne {o : Option MO} (h : m ≠ n) : LocL (M.set m o) n P ↔ LocL M n P := by
  unfold LocL
  rw [List.getElem?_set_ne h]
theorem locL_iff : LocL M n P ↔ ∃ xs, M[n]? = some (some (.lst xs)) ∧ P xs := by
  unfold LocL
  split
  · rename_i xs h; exact ⟨fun z => ⟨xs, h, z⟩, fun ⟨ys, e, z⟩ => by rw [h] at e; cases e; exact z⟩
  · rename_i h
    constructor
    · intro z; exact z.elim
    · rintro ⟨xs, e, _⟩; exact absurd e (h xs)
end
section
variable {Q : D → Store → Prop} {QB : Bool → Store → Prop} {QL : List D → Store → Prop} {QF : Fl → Store → Prop} {QR : DEnv → Store → Prop} {QW : Wk → Store → Prop} {QO : Option Int → Store → Prop} {QU : Unit → Store → Prop} {E : Exn → Store → Prop} {M : Store} {ρ : DEnv}
variable {fa fb fc : DEnv → Py D} {ta tb : DEnv → Py Bool} {ff : DEnv → Py (List D)} {sa sb : DEnv → Py Fl} {d e v : D} {i j : Int} {xs ys : List D} {n : Nat}
theorem post_locM {α : Type} {R : α → Store → Prop} {f : List D → Out α} : Post (match M[n]? with | some (some (.lst xs)) => f xs | _ => Out.bad) R E ↔ LocL M n fun xs => Post (f xs) R E := by
  unfold LocL
  rcases M[n]? with _ | _ | (_ | _ | _) <;> exact Iff.rfl
@[simp] theorem p_items_l : Post (items (.loc n) M) QL E ↔ LocL M n fun xs => QL xs M := post_locM (f := fun xs => .ok xs M)
@[simp] theorem p_len_l : Post (lenD (.loc n) M) Q E ↔ LocL M n fun xs => Q (.int xs.length) M := by
  unfold lenD; simp only [post_bnd, p_items_l]; exact Iff.rfl
@[simp] theorem p_ix_l : Post (ixD (.loc n) (.int i) M) Q E ↔ LocL M n fun xs => AtP xs i fun d => Q d M := by
  exact post_bnd.trans (p_items_l.trans (locL_congr fun xs => p_ix_lst))
theorem p_locL {α : Type} {k : Nat → List D → Py α} {R : α → Store → Prop} : Post (locL (.loc n) k M) R E ↔ LocL M n fun xs => Post (k n xs M) R E := by
  exact post_locM (f := fun xs => k n xs M)
@[simp] theorem p_setD_l : Post (setD (.loc n) (.int i) v M) QU E ↔ LocL M n fun xs => ∃ k, ixN xs.length i = some k ∧ QU () (M.set n (some (.lst (xs.set k v)))) := by
  unfold setD
  rw [p_locL]
  have e : ∀ xs : List D, Post (setK n xs v (.int i) M) QU E ↔ ∃ k, ixN xs.length i = some k ∧ QU () (M.set n (some (.lst (xs.set k v)))) := fun xs => by
    cases h : ixN xs.length i with
    | none =>
      have e : setK n xs v (.int i) = Py.bad := by unfold setK; dsimp only; rw [h]
      rw [e]
      exact ⟨fun z => z.elim, fun ⟨k, e, _⟩ => nomatch e⟩
    | some k =>
      have e : setK n xs v (.int i) = fun M => .ok () (M.set n (some (.lst (xs.set k v)))) := by unfold setK; dsimp only; rw [h]
      rw [e]
      exact ⟨fun z => ⟨k, rfl, z⟩, fun ⟨k', e, z⟩ => by cases e; exact z⟩
  simp only [e]
@[simp] theorem p_append_l : Post (appendD (.loc n) [v] M) Q E ↔ LocL M n fun xs => xs.length < sizeLine ∧ Q .non (M.set n (some (.lst (xs ++ [v])))) := by
  unfold appendD
  rw [p_locL]
  have e : ∀ xs : List D, Post (Py.chk (xs.length < sizeLine) (putL n (xs ++ [v]) .non) M) Q E ↔ xs.length < sizeLine ∧ Q .non (M.set n (some (.lst (xs ++ [v])))) := fun xs => post_chk
  simp only [e]
@[simp] theorem p_tyChk_l : Post (tyChk "list" (.loc n) M) QU E ↔ LocL M n fun _ => QU () M := by
  unfold tyChk LocL
  dsimp only
  rcases M[n]? with _ | _ | (_ | _ | _) <;> first | exact Iff.rfl | (rw [if_pos rfl]; exact Iff.rfl) | (rw [if_neg (by decide)]; exact Iff.rfl)
@[simp] theorem p_eMt {T : String} {op : D → List D → Py D} : Post (eMt T op fa ff ρ M) Q E ↔ Post (fa ρ M) (fun o M1 => Post (tyChk T o M1) (fun _ M2 => Post (ff ρ M2) (fun ds M3 => Post (op o ds M3) Q E) E) E) E := by
  unfold eMt; simp only [post_bnd]
@[simp] theorem p_eMt0 {T : String} {op : D → List D → Py D} : Post (eMt0 T op fa ρ M) Q E ↔ Post (fa ρ M) (fun o M1 => Post (tyChk T o M1) (fun _ M2 => Post (op o [] M2) Q E) E) E := by
  unfold eMt0; simp only [post_bnd]
/-! same -/
@[simp] theorem p_eq_str {neg : Bool} {a b : Str} : Post (eqS neg (.str a) (.str b) M) Q E ↔ Q (.bl (if neg then !decide (a = b) else decide (a = b))) M := Iff.rfl
theorem p_eqP {neg : Bool} {x y : D} {p q : PyData} (hx : pyM M x = some p) (hy : pyM M y = some q) (sp : SeqAt.shaped p = true) (sq : SeqAt.shaped q = true) : Post (eqP neg x y M) Q E ↔ Q (.bl (if neg then !PyData.eqv p q else PyData.eqv p q)) M := by
  unfold eqP; rw [hx, hy]; dsimp only; rw [sp, sq]; exact Iff.rfl
@[simp] theorem p_eq_int {neg : Bool} : Post (eqS neg (.int i) (.int j) M) Q E ↔ Q (.bl (if neg then !decide (i = j) else decide (i = j))) M := by
  have e : PyData.eqv (.int i) (.int j) = decide (i = j) := by
    simp only [PyData.eqv]; rfl
  rw [← e]
  exact p_eqP (x := .int i) (y := .int j) rfl rfl rfl rfl
@[simp] theorem p_eq_bl {neg a b : Bool} : Post (eqS neg (.bl a) (.bl b) M) Q E ↔ Q (.bl (if neg then !decide (a = b) else decide (a = b))) M := by
  have e : PyData.eqv (.bool a) (.bool b) = decide (a = b) := by
    simp only [PyData.eqv]; cases a <;> cases b <;> rfl
  rw [← e]
  exact p_eqP (x := .bl a) (y := .bl b) rfl rfl rfl rfl
/-! kinds -/
def tyD : D → Option String
  | .non => some "NoneType"
  | .bl _ => some "bool"
  | .int _ => some "int"
  | .str _ => some "str"
  | .tup _ => some "tuple"
  | .lst _ => some "list"
  | .ro _ => some "list"
  | .dk _ => some "dict"
  | _ => none
theorem tyN_of {t : String} (h : tyD d = some t) : tyN M d = some t := by cases d <;> first | exact h | cases h
theorem p_isi {T t : String} (hT : allTs.contains T = true) (h : tyD d = some t) : Post (isiTs allTs d (.ty T) M) Q E ↔ Q (.bl (isT T t)) M := by
  have e : isiTs allTs d (.ty T) = isiD d (.ty T) := by
    show (if allTs.contains T = true then isiD d (.ty T) else Py.bad) = _
    rw [if_pos hT]
  have e2 : isiD d (.ty T) M = .ok (.bl (isT T t)) M := by
    unfold isiD
    rw [tyN_of h]
  rw [e, e2]
  exact Iff.rfl
theorem p_isiL {T : String} (hT : allTs.contains T = true) (h : M[n]? = some (some (.lst xs))) : Post (isiTs allTs (.loc n) (.ty T) M) Q E ↔ Q (.bl (isT T "list")) M := by
  have e : isiTs allTs (.loc n) (.ty T) = isiD (.loc n) (.ty T) := by
    show (if allTs.contains T = true then isiD (.loc n) (.ty T) else Py.bad) = _
    rw [if_pos hT]
  have e1 : tyN M (.loc n) = some "list" := by unfold tyN; simp only [h]
  have e2 : isiD (.loc n) (.ty T) M = .ok (.bl (isT T "list")) M := by
    unfold isiD
    rw [e1]
  rw [e, e2]
  exact Iff.rfl
/-! slices -/
@[simp] theorem p_oNone : Post (oNone ρ M) QO E ↔ QO none M := Iff.rfl
@[simp] theorem p_toI : Post (toI (.int i) M) QO E ↔ QO (some i) M := Iff.rfl
@[simp] theorem p_oSome : Post (oSome fa ρ M) QO E ↔ Post (fa ρ M) (fun d M1 => Post (toI d M1) QO E) E := by
  unfold oSome; rw [post_bnd]
@[simp] theorem p_eSl {fl fh : DEnv → Py (Option Int)} : Post (eSl fa fl fh ρ M) Q E ↔ Post (fa ρ M) (fun x M1 => Post (fl ρ M1) (fun lo M2 => Post (fh ρ M2) (fun hi M3 => Post (slD x lo hi M3) Q E) E) E) E := by
  unfold eSl; simp only [post_bnd]
@[simp] theorem p_sl_tup {lo hi : Option Int} : Post (slD (.tup xs) lo hi M) Q E ↔ Q (.tup (cutD xs lo hi)) M := Iff.rfl
@[simp] theorem p_sl_lst {lo hi : Option Int} : Post (slD (.lst xs) lo hi M) Q E ↔ Q (.lst (cutD xs lo hi)) M := Iff.rfl
@[simp] theorem p_sl_ro {lo hi : Option Int} : Post (slD (.ro xs) lo hi M) Q E ↔ Q (.lst (cutD xs lo hi)) M := Iff.rfl
@[simp] theorem p_tup_tup : Post (tupD (.tup xs) M) Q E ↔ Q (.tup xs) M := Iff.rfl
@[simp] theorem p_tup_lst : Post (tupD (.lst xs) M) Q E ↔ Q (.tup xs) M := Iff.rfl
@[simp] theorem p_tup_l : Post (tupD (.loc n) M) Q E ↔ LocL M n fun xs => Q (.tup xs) M := by
  unfold tupD litems; simp only [post_bnd, p_items_l]; exact Iff.rfl
@[simp] theorem p_lst_tup : Post (lstD (.tup xs) M) Q E ↔ Q (.lst xs) M := Iff.rfl
@[simp] theorem p_lst_lst : Post (lstD (.lst xs) M) Q E ↔ Q (.lst xs) M := Iff.rfl
@[simp] theorem p_eRev : Post (eRev fa ρ M) Q E ↔ Post (fa ρ M) (fun d M1 => Post (revD d M1) Q E) E := by
  unfold eRev; rw [post_bnd]
@[simp] theorem p_rev_tup : Post (revD (.tup xs) M) Q E ↔ Q (.tup xs.reverse) M := Iff.rfl
/-! flags of lists -/
theorem blsOf_map {α : Type} (f : α → D) (p : α → Bool) : ∀ l : List α, (∀ x ∈ l, f x = .bl (p x)) → blsOf (l.map f) = some (l.map p)
  | [], _ => rfl
  | x :: l, h => by
    rw [List.map_cons, h x (List.mem_cons_self ..)]
    show (blsOf (l.map f)).map _ = _
    rw [blsOf_map f p l fun y hy => h y (List.mem_cons_of_mem _ hy)]
    rfl
theorem p_bls {α : Type} {g : List Bool → Bool} {p : α → Bool} {l : List α} : Post (blsD g (.lst (l.map fun x => D.bl (p x))) M) Q E ↔ Q (.bl (g (l.map p))) M := by
  unfold blsD litems items
  dsimp only
  rw [post_bnd]
  show Post ((match blsOf (l.map fun x => D.bl (p x)) with | some bs => Py.ret (.bl (g bs)) | none => Py.bad : Py D) M) Q E ↔ _
  rw [blsOf_map (fun x => D.bl (p x)) p l fun _ _ => rfl]
  exact Iff.rfl
/-! targets -/
@[simp] theorem p_noX {α : Type} {m : Py α} {R : α → Store → Prop} : Post (noX m M) R E ↔ Post (m M) R (fun _ _ => False) := by
  unfold noX
  cases m M <;> exact Iff.rfl
@[simp] theorem p_gSet : Post (gSet n d ρ M) QR E ↔ QR (ρ.set n (some d)) M := Iff.rfl
@[simp] theorem p_gsNil : Post (gsNil [] ρ M) QR E ↔ QR ρ M := Iff.rfl
@[simp] theorem p_gsCons {f : D → DEnv → Py DEnv} {r : List D → DEnv → Py DEnv} : Post (gsCons f r (d :: xs) ρ M) QR E ↔ Post (f d ρ M) (fun ρ' M' => Post (r xs ρ' M') QR E) E := by
  unfold gsCons; dsimp only; rw [post_bnd]
@[simp] theorem p_gUnp {k : Nat} {f : List D → DEnv → Py DEnv} : Post (gUnp k f (.tup xs) ρ M) QR E ↔ xs.length = k ∧ Post (f xs ρ M) QR (fun _ _ => False) := by
  unfold gUnp; dsimp only; rw [post_chk, p_noX]
/-! what is walked -/
@[simp] theorem p_iSeq {wk : D → Py Wk} : Post (iSeq wk fa ρ M) QW E ↔ Post (fa ρ M) (fun d M1 => Post (wk d M1) QW E) E := by
  unfold iSeq; rw [post_bnd]
@[simp] theorem p_wkA_tup : Post (wkA (.tup xs) M) QW E ↔ QW ⟨xs, fun _ => True⟩ M := Iff.rfl
@[simp] theorem p_wkA_lst : Post (wkA (.lst xs) M) QW E ↔ QW ⟨xs, fun _ => True⟩ M := Iff.rfl
@[simp] theorem p_wkA_ro : Post (wkA (.ro xs) M) QW E ↔ QW ⟨xs, fun _ => True⟩ M := Iff.rfl
@[simp] theorem p_wkLT_tup : Post (wkLT (.tup xs) M) QW E ↔ QW ⟨xs, fun _ => True⟩ M := Iff.rfl
@[simp] theorem p_wkLT_lst : Post (wkLT (.lst xs) M) QW E ↔ QW ⟨xs, fun _ => True⟩ M := Iff.rfl
@[simp] theorem p_rng1 : Post (iRng1D ff ρ M) QW E ↔ Post (ff ρ M) (fun ds M1 => Post (rngW1 ds M1) QW E) E := by
  unfold iRng1D; rw [post_bnd]
@[simp] theorem p_rngW1 : Post (rngW1 [.int j] M) QW E ↔ (-(2 ^ 62) ≤ j ∧ j < 2 ^ 62) ∧ QW ⟨rngD 0 j, fun _ => True⟩ M := post_chk
@[simp] theorem p_rng2 : Post (iRng2D ff ρ M) QW E ↔ Post (ff ρ M) (fun ds M1 => Post (rngW2 ds M1) QW E) E := by
  unfold iRng2D; rw [post_bnd]
@[simp] theorem p_rngW2 : Post (rngW2 [.int i, .int j] M) QW E ↔ (-(2 ^ 62) ≤ i ∧ i < 2 ^ 62 ∧ -(2 ^ 62) ≤ j ∧ j < 2 ^ 62) ∧ QW ⟨rngD i j, fun _ => True⟩ M := post_chk
@[simp] theorem p_enum {wk : D → Py Wk} : Post (iEnumD wk ff ρ M) QW E ↔ Post (ff ρ M) (fun ds M1 => Post (wkEnum wk ds M1) QW E) E := by
  unfold iEnumD; rw [post_bnd]
@[simp] theorem p_wkEnum {wk : D → Py Wk} : Post (wkEnum wk [d] M) QW E ↔ Post (wk d M) (fun w M1 => QW ⟨enumD 0 w.ds, w.ok⟩ M1) E := by
  unfold wkEnum; dsimp only; rw [post_bnd]; exact Iff.rfl
theorem rngD_len : (rngD i j).length = (j - i).toNat := by unfold rngD; simp
theorem enumD_len : ∀ (k : Nat) (l : List D), (enumD k l).length = l.length
  | _, [] => rfl
  | k, d :: l => by show (enumD (k + 1) l).length + 1 = _; rw [enumD_len]; rfl
/-- a loop -/
@[simp] theorem p_sFor {it : DEnv → Py Wk} {tg : D → DEnv → Py DEnv} {body : DEnv → Py Fl} : Post (sFor it tg body ρ M) QF E ↔ Post (it ρ M) (fun w M1 => Post (forD w.ok tg body w.ds ρ M1) QF E) E := by
  unfold sFor; rw [post_bnd]
/-- one turn -/
def turnF (I : DEnv → Store → Prop) (QF : Fl → Store → Prop) : Fl → Store → Prop
  | .nx ρ, M => I ρ M
  | .ct ρ, M => I ρ M
  | .bk ρ, M => QF (.nx ρ) M
  | .rt v, M => QF (.rt v) M
@[simp] theorem turnF_nx {I : DEnv → Store → Prop} : turnF I QF (.nx ρ) M ↔ I ρ M := Iff.rfl
@[simp] theorem turnF_ct {I : DEnv → Store → Prop} : turnF I QF (.ct ρ) M ↔ I ρ M := Iff.rfl
@[simp] theorem turnF_bk {I : DEnv → Store → Prop} : turnF I QF (.bk ρ) M ↔ QF (.nx ρ) M := Iff.rfl
@[simp] theorem turnF_rt {I : DEnv → Store → Prop} : turnF I QF (.rt d) M ↔ QF (.rt d) M := Iff.rfl
theorem okM_true {α : Type} {ok : Store → Prop} {k : Py α} (h : ok M) : okM ok k M = k M := by unfold okM; rw [if_pos h]
theorem forD_from {ok : Store → Prop} {tg : D → DEnv → Py DEnv} {body : DEnv → Py Fl} {all : List D} (I : Nat → DEnv → Store → Prop) (hok : ∀ k ρ M, I k ρ M → ok M)
    (step : ∀ (k : Nat) (d : D) ρ M, all[k]? = some d → I k ρ M → Post (tg d ρ M) (fun ρ1 M1 => Post (body ρ1 M1) (turnF (I (k + 1)) QF) E) E)
    (done : ∀ ρ M, I all.length ρ M → QF (.nx ρ) M) : ∀ (l : List D) (k : Nat) (ρ : DEnv) (M : Store), k + l.length = all.length → all.drop k = l → I k ρ M → Post (forD ok tg body l ρ M) QF E
  | [], k, ρ, M, ek, e, h => by
    unfold forD
    rw [okM_true (hok _ _ _ h)]
    have hk : k = all.length := by simpa using ek
    subst hk
    exact done ρ M h
  | d :: l, k, ρ, M, ek, e, h => by
    unfold forD
    rw [okM_true (hok _ _ _ h)]
    have hd : all[k]? = some d := by
      have h0 : (all.drop k)[0]? = some d := by rw [e]; rfl
      rwa [List.getElem?_drop, Nat.add_zero] at h0
    have el : all.drop (k + 1) = l := by
      rw [← List.drop_drop, e]; rfl
    refine post_bnd.mpr ((step k d ρ M hd h).imp fun ρ1 M1 h1 => post_bnd.mpr (h1.imp fun r M2 h2 => ?_))
    have ek2 : k + 1 + l.length = all.length := by rw [← ek, List.length_cons]; omega
    cases r with
    | nx ρ' => exact forD_from I hok step done l (k + 1) ρ' M2 ek2 el h2
    | ct ρ' => exact forD_from I hok step done l (k + 1) ρ' M2 ek2 el h2
    | bk ρ' => exact h2
    | rt v => exact h2
/-- a loop by what stands ahead of each turn -/
theorem for_rule {ok : Store → Prop} {tg : D → DEnv → Py DEnv} {body : DEnv → Py Fl} {all : List D} (I : Nat → DEnv → Store → Prop) (hok : ∀ k ρ M, I k ρ M → ok M)
    (h : I 0 ρ M)
    (step : ∀ (k : Nat) (d : D) ρ M, all[k]? = some d → I k ρ M → Post (tg d ρ M) (fun ρ1 M1 => Post (body ρ1 M1) (turnF (I (k + 1)) QF) E) E)
    (done : ∀ ρ M, I all.length ρ M → QF (.nx ρ) M) : Post (forD ok tg body all ρ M) QF E := forD_from I hok step done all 0 ρ M (by omega) rfl h
/-- a comprehension by what stands ahead of each turn -/
theorem lc_from {ok : Store → Prop} {tg : D → DEnv → Py DEnv} {tt : DEnv → Py Bool} {fe : DEnv → Py D} {all : List D} (I : Nat → List D → Store → Prop) (hok : ∀ k acc M, I k acc M → ok M)
    (step : ∀ (k : Nat) (d : D) acc M, all[k]? = some d → I k acc M → Post (tg d ρ M) (fun ρ1 M1 => Post (tt ρ1 M1) (fun b M2 => if b = true then Post (fe ρ1 M2) (fun y M3 => acc.length < sizeLine ∧ I (k + 1) (acc ++ [y]) M3) E else I (k + 1) acc M2) E) E)
    (done : ∀ acc M, I all.length acc M → QL acc M) : ∀ (l : List D) (k : Nat) (acc : List D) (M : Store), k + l.length = all.length → all.drop k = l → I k acc M → Post (lcD ok tg tt fe ρ l acc M) QL E
  | [], k, acc, M, ek, e, h => by
    unfold lcD
    rw [okM_true (hok _ _ _ h)]
    have hk : k = all.length := by simpa using ek
    subst hk
    exact done acc M h
  | d :: l, k, acc, M, ek, e, h => by
    unfold lcD
    rw [okM_true (hok _ _ _ h)]
    have hd : all[k]? = some d := by
      have h0 : (all.drop k)[0]? = some d := by rw [e]; rfl
      rwa [List.getElem?_drop, Nat.add_zero] at h0
    have el : all.drop (k + 1) = l := by
      rw [← List.drop_drop, e]; rfl
    have ek2 : k + 1 + l.length = all.length := by rw [← ek, List.length_cons]; omega
    refine post_bnd.mpr ((step k d acc M hd h).imp fun ρ1 M1 h1 => post_bnd.mpr (h1.imp fun b M2 h2 => ?_))
    cases b with
    | false => exact lc_from I hok step done l (k + 1) acc M2 ek2 el h2
    | true => exact post_bnd.mpr (Post.imp h2 fun y M3 h3 => post_chk.mpr ⟨h3.1, lc_from I hok step done l (k + 1) (acc ++ [y]) M3 ek2 el h3.2⟩)
@[simp] theorem p_eLcA {fr : List D → Py D} {lc : DEnv → Py (List D)} : Post (eLcA fr lc ρ M) Q E ↔ Post (lc ρ M) (fun ds M1 => Post (fr ds M1) Q E) E := by
  unfold eLcA; rw [post_bnd]
@[simp] theorem p_frF : Post (frF xs M) Q E ↔ Q (.lst xs) M := Iff.rfl
@[simp] theorem p_frN : Post (frN xs M) Q E ↔ Q (.loc M.length) (M ++ [some (.lst xs)]) := Iff.rfl
@[simp] theorem p_sLc {fr : List D → Py D} {lc : DEnv → Py (List D)} : Post (sLc n fr lc ρ M) QF E ↔ Post (lc ρ M) (fun ds M1 => Post (fr ds M1) (fun d M2 => QF (.nx (ρ.set n (some d))) M2) E) E := by
  unfold sLc; simp only [post_bnd]; exact Iff.rfl
@[simp] theorem p_lcAll {vs : List Nat} {it : DEnv → Py Wk} {tg : D → DEnv → Py DEnv} {tt : DEnv → Py Bool} {fe : DEnv → Py D} : Post (lcAll vs it tg tt fe ρ M) QL E ↔ Post (it ρ M) (fun w M1 => Post (lcD w.ok tg tt fe (wipeD ρ vs) w.ds [] M1) QL (fun _ _ => False)) E := by
  unfold lcAll; rw [post_bnd]; simp only [p_noX]
/-- one that changes nothing -/
theorem lc_pure {ok : Store → Prop} {tg : D → DEnv → Py DEnv} {tt : DEnv → Py Bool} {fe : DEnv → Py D} {l : List D} (p : D → Bool) (f : D → D) (hok : ok M) (hz : l.length ≤ sizeLine)
    (h : ∀ d ∈ l, Post (tg d ρ M) (fun ρ1 M1 => Post (tt ρ1 M1) (fun b M2 => b = p d ∧ if p d = true then Post (fe ρ1 M2) (fun y M3 => M3 = M ∧ y = f d) E else M2 = M) E) E)
    (q : QL ((l.filter p).map f) M) : Post (lcD ok tg tt fe ρ l [] M) QL E := by
  refine lc_from (all := l) (fun k acc M' => M' = M ∧ acc = ((l.take k).filter p).map f) (fun k acc M' z => z.1 ▸ hok) (fun k d acc M' hd z => ?_) (fun acc M' z => ?_) l 0 [] M (by omega) rfl ⟨rfl, rfl⟩
  · obtain ⟨rfl, rfl⟩ := z
    have hk : k < l.length := (List.getElem?_eq_some_iff.mp hd).1
    have et : l.take (k + 1) = l.take k ++ [d] := by rw [List.take_succ, hd]; rfl
    refine (h d (List.mem_of_getElem? hd)).imp fun ρ1 M1 h1 => h1.imp fun b M2 h2 => ?_
    obtain ⟨rfl, h3⟩ := h2
    by_cases hp : p d = true
    · rw [if_pos hp] at h3 ⊢
      refine Post.imp h3 fun y M3 h4 => ?_
      obtain ⟨rfl, rfl⟩ := h4
      refine ⟨?_, rfl, ?_⟩
      · have h5 : (((l.take k).filter p).map f).length ≤ k := by
          rw [List.length_map]
          exact Nat.le_trans (List.length_filter_le ..) (by rw [List.length_take]; omega)
        omega
      · rw [et, List.filter_append, List.map_append, List.filter_cons_of_pos hp]; rfl
    · rw [if_neg hp] at h3 ⊢
      subst h3
      refine ⟨rfl, ?_⟩
      rw [et, List.filter_append, List.filter_cons_of_neg hp, List.filter_nil, List.append_nil]
  · obtain ⟨rfl, rfl⟩ := z
    rw [List.take_length]
    exact q
/-- .. without a test -/
theorem lc_map {ok : Store → Prop} {tg : D → DEnv → Py DEnv} {fe : DEnv → Py D} {l : List D} (f : D → D) (hok : ok M) (hz : l.length ≤ sizeLine)
    (h : ∀ d ∈ l, Post (tg d ρ M) (fun ρ1 M1 => Post (fe ρ1 M1) (fun y M3 => M3 = M ∧ y = f d) E) E)
    (q : QL (l.map f) M) : Post (lcD ok tg tYesD fe ρ l [] M) QL E := by
  refine lc_pure (fun _ => true) f hok hz (fun d hd => (h d hd).imp fun ρ1 M1 h1 => ?_) ?_
  · show Post (tYesD ρ1 M1) _ _
    rw [p_tYes]
    exact ⟨rfl, h1⟩
  · rw [List.filter_eq_self.mpr fun _ _ => rfl]
    exact q
/-- one that draws: each item by its place -/
theorem lc_draw {ok : Store → Prop} {tg : D → DEnv → Py DEnv} {fe : DEnv → Py D} {l : List D} (J : Store → Prop) (P : Nat → D → Prop) (hok : ∀ M, J M → ok M) (hz : l.length ≤ sizeLine) (hJ : J M)
    (h : ∀ (k : Nat) (d : D) M, l[k]? = some d → J M → Post (tg d ρ M) (fun ρ1 M1 => Post (fe ρ1 M1) (fun y M3 => J M3 ∧ P k y) E) E)
    (q : ∀ zs M', J M' → zs.length = l.length → (∀ (k : Nat) (y : D), zs[k]? = some y → P k y) → QL zs M') : Post (lcD ok tg tYesD fe ρ l [] M) QL E := by
  refine lc_from (all := l) (fun k acc M' => J M' ∧ acc.length = k ∧ ∀ (m : Nat) (y : D), acc[m]? = some y → P m y) (fun k acc M' z => hok _ z.1) (fun k d acc M' hd z => ?_) (fun acc M' z => q acc M' z.1 z.2.1 z.2.2) l 0 [] M (by omega) rfl ⟨hJ, rfl, fun m y e => by simp at e⟩
  obtain ⟨zJ, zl, zP⟩ := z
  have hk : k < l.length := (List.getElem?_eq_some_iff.mp hd).1
  refine (h k d M' hd zJ).imp fun ρ1 M1 h1 => ?_
  show Post (tYesD ρ1 M1) _ _
  rw [p_tYes, if_pos rfl]
  refine Post.imp h1 fun y M3 h4 => ⟨by omega, h4.1, by rw [List.length_append, zl]; rfl, fun m y' e => ?_⟩
  rcases getElem?_snoc acc y m y' e with e | ⟨e1, e2⟩
  · exact zP m y' e
  · subst e2; rw [e1, zl]; exact h4.2
end
end L3
set_option Elab.async false
set_option linter.all false
set_option maxRecDepth 100000
set_option maxHeartbeats 4000000
set_option autoImplicit false
namespace L3
open PySem PySem.Spec L2
open PyProof.Rows hiding St
@[simp] theorem atP_0 {a0 : D} {xs : List D} {P : D → Prop} : AtP (a0 :: xs) 0 P ↔ P a0 := by
  rw [show ((0 : Int)) = ((0 : Nat) : Int) from rfl, atP_nat (by simp only [List.length_cons]; omega)]
  exact Iff.rfl
@[simp] theorem ixN_0 {n : Nat} : ixN (n + 1) 0 = some 0 := by
  rw [show ((0 : Int)) = ((0 : Nat) : Int) from rfl, ixN_nat (by omega)]
@[simp] theorem atP_1 {a0 a1 : D} {xs : List D} {P : D → Prop} : AtP (a0 :: a1 :: xs) 1 P ↔ P a1 := by
  rw [show ((1 : Int)) = ((1 : Nat) : Int) from rfl, atP_nat (by simp only [List.length_cons]; omega)]
  exact Iff.rfl
@[simp] theorem ixN_1 {n : Nat} : ixN (n + 2) 1 = some 1 := by
  rw [show ((1 : Int)) = ((1 : Nat) : Int) from rfl, ixN_nat (by omega)]
@[simp] theorem atP_2 {a0 a1 a2 : D} {xs : List D} {P : D → Prop} : AtP (a0 :: a1 :: a2 :: xs) 2 P ↔ P a2 := by
  rw [show ((2 : Int)) = ((2 : Nat) : Int) from rfl, atP_nat (by simp only [List.length_cons]; omega)]
  exact Iff.rfl
@[simp] theorem ixN_2 {n : Nat} : ixN (n + 3) 2 = some 2 := by
  rw [show ((2 : Int)) = ((2 : Nat) : Int) from rfl, ixN_nat (by omega)]
@[simp] theorem atP_3 {a0 a1 a2 a3 : D} {xs : List D} {P : D → Prop} : AtP (a0 :: a1 :: a2 :: a3 :: xs) 3 P ↔ P a3 := by
  rw [show ((3 : Int)) = ((3 : Nat) : Int) from rfl, atP_nat (by simp only [List.length_cons]; omega)]
  exact Iff.rfl
@[simp] theorem ixN_3 {n : Nat} : ixN (n + 4) 3 = some 3 := by
  rw [show ((3 : Int)) = ((3 : Nat) : Int) from rfl, ixN_nat (by omega)]
@[simp] theorem atP_4 {a0 a1 a2 a3 a4 : D} {xs : List D} {P : D → Prop} : AtP (a0 :: a1 :: a2 :: a3 :: a4 :: xs) 4 P ↔ P a4 := by
  rw [show ((4 : Int)) = ((4 : Nat) : Int) from rfl, atP_nat (by simp only [List.length_cons]; omega)]
  exact Iff.rfl
@[simp] theorem ixN_4 {n : Nat} : ixN (n + 5) 4 = some 4 := by
  rw [show ((4 : Int)) = ((4 : Nat) : Int) from rfl, ixN_nat (by omega)]
@[simp] theorem atP_5 {a0 a1 a2 a3 a4 a5 : D} {xs : List D} {P : D → Prop} : AtP (a0 :: a1 :: a2 :: a3 :: a4 :: a5 :: xs) 5 P ↔ P a5 := by
  rw [show ((5 : Int)) = ((5 : Nat) : Int) from rfl, atP_nat (by simp only [List.length_cons]; omega)]
  exact Iff.rfl
@[simp] theorem ixN_5 {n : Nat} : ixN (n + 6) 5 = some 5 := by
  rw [show ((5 : Int)) = ((5 : Nat) : Int) from rfl, ixN_nat (by omega)]

@[simp] theorem sizeLine_eq : sizeLine = 16777216 := rfl
/-- what a draw leaves -/
def Pot (n : Nat) (M : Store) : Prop := ∃ (cs : List Int) (a b c d : Int), M[n]? = some (some (.lst [.lst (cs.map .int), .int a, .int b, .int c, .int d])) ∧ 0 ≤ a
theorem pot_set {n : Nat} {M : Store} {cs : List Int} {a b c d : Int} (hn : n < M.length) : Pot n (M.set n (some (.lst [.lst (cs.map .int), .int a, .int b, .int c, .int d]))) ↔ 0 ≤ a := by
  constructor
  · rintro ⟨cs', a', b', c', d', e, h⟩
    rw [List.getElem?_set_self hn] at e
    injection e with e; injection e with e; injection e with e
    simp at e
    obtain ⟨_, rfl, _⟩ := e
    exact h
  · intro h
    exact ⟨cs, a, b, c, d, by rw [List.getElem?_set_self hn], h⟩
theorem atP_ints {cs : List Int} {a : Int} (h0 : 0 ≤ a) (h1 : a < cs.length) : ∃ x : Int, ∀ P : D → Prop, AtP (cs.map D.int) a P ↔ P (.int x) := by
  have hk : a.toNat < cs.length := by omega
  refine ⟨cs[a.toNat], fun P => ?_⟩
  rw [atP_int h0 (by rw [List.length_map]; exact h1)]
  simp [hk]

section
variable {Q : D → Store → Prop} {E : Exn → Store → Prop} {M : Store} {T : String}
@[simp] theorem post_ok {α : Type} {a : α} {R : α → Store → Prop} : Post (.ok a M) R E ↔ R a M := Iff.rfl
theorem ok_of {α : Type} {o : Out α} {a : α} (h : Post o (fun r M' => r = a ∧ M' = M) fun _ _ => False) : o = .ok a M := by
  cases o with
  | ok b M' => obtain ⟨rfl, rfl⟩ := h; rfl
  | exc e M' => exact h.elim
  | bad => exact h.elim
/-- a type that is told -/
def isIn (T : String) : Prop := allTs.contains T = true
@[simp] theorem isIn_int : isIn "int" := (by decide : allTs.contains _ = true)
@[simp] theorem isIn_bool : isIn "bool" := (by decide : allTs.contains _ = true)
@[simp] theorem isIn_str : isIn "str" := (by decide : allTs.contains _ = true)
@[simp] theorem isIn_tuple : isIn "tuple" := (by decide : allTs.contains _ = true)
@[simp] theorem isIn_list : isIn "list" := (by decide : allTs.contains _ = true)
@[simp] theorem isIn_dict : isIn "dict" := (by decide : allTs.contains _ = true)
theorem isi_no {d : D} (h : ¬ allTs.contains T = true) : Post (isiTs allTs d (.ty T) M) Q E ↔ False := by
  have e : isiTs allTs d (.ty T) = Py.bad := by
    show (if allTs.contains T = true then isiD d (.ty T) else Py.bad) = _
    rw [if_neg h]
  rw [e]; exact Iff.rfl
theorem isi_iff {d : D} {t : String} (h : tyD d = some t) : Post (isiTs allTs d (.ty T) M) Q E ↔ isIn T ∧ Q (.bl (isT T t)) M := by
  by_cases hT : allTs.contains T = true
  · rw [p_isi hT h]; exact ⟨fun z => ⟨hT, z⟩, fun z => z.2⟩
  · rw [isi_no hT]; exact ⟨fun z => z.elim, fun z => hT z.1⟩
@[simp] theorem isi_non : Post (isiTs allTs .non (.ty T) M) Q E ↔ isIn T ∧ Q (.bl (isT T "NoneType")) M := isi_iff rfl
@[simp] theorem isi_bl {b : Bool} : Post (isiTs allTs (.bl b) (.ty T) M) Q E ↔ isIn T ∧ Q (.bl (isT T "bool")) M := isi_iff rfl
@[simp] theorem isi_int {i : Int} : Post (isiTs allTs (.int i) (.ty T) M) Q E ↔ isIn T ∧ Q (.bl (isT T "int")) M := isi_iff rfl
@[simp] theorem isi_str {z : Str} : Post (isiTs allTs (.str z) (.ty T) M) Q E ↔ isIn T ∧ Q (.bl (isT T "str")) M := isi_iff rfl
@[simp] theorem isi_tup {xs : List D} : Post (isiTs allTs (.tup xs) (.ty T) M) Q E ↔ isIn T ∧ Q (.bl (isT T "tuple")) M := isi_iff rfl
@[simp] theorem isi_lst {xs : List D} : Post (isiTs allTs (.lst xs) (.ty T) M) Q E ↔ isIn T ∧ Q (.bl (isT T "list")) M := isi_iff rfl
@[simp] theorem isi_dk {xs : List (Key × D)} : Post (isiTs allTs (.dk xs) (.ty T) M) Q E ↔ isIn T ∧ Q (.bl (isT T "dict")) M := isi_iff rfl
end
theorem ofString_inj {a b : String} : Str.ofString a = Str.ofString b ↔ a = b := by
  constructor
  · intro h
    rw [Str.ofString_eq_toList, Str.ofString_eq_toList] at h
    have h2 : (a.toList.map Char.toNat).toArray = (b.toList.map Char.toNat).toArray := congrArg Str.cps h
    have h3 : a.toList.map Char.toNat = b.toList.map Char.toNat := by simpa using congrArg Array.toList h2
    have h4 : a.toList = b.toList := List.map_inj_right (fun x y e => Char.toNat_inj.mp e) |>.mp h3
    exact String.toList_inj.mp h4
  · rintro rfl; rfl
theorem cutD_map {α : Type} {f : α → D} {ns : List α} {lo hi : Option Int} : cutD (ns.map f) lo hi = ((ns.drop (HT.sIx ns.length 0 lo)).take (HT.sIx ns.length ns.length hi - HT.sIx ns.length 0 lo)).map f := by
  unfold cutD
  rw [List.length_map, List.map_take, List.map_drop]
theorem cutD_mem {xs : List D} {lo hi : Option Int} {d : D} (h : d ∈ cutD xs lo hi) : d ∈ xs := List.mem_of_mem_drop (List.mem_of_mem_take h)
theorem cutD_len {xs : List D} {lo hi : Option Int} : (cutD xs lo hi).length ≤ xs.length := by
  unfold cutD
  rw [List.length_take, List.length_drop]
  omega
@[simp] theorem wipeD_nil {ρ : DEnv} : wipeD ρ [] = ρ := rfl
@[simp] theorem wipeD_cons {ρ : DEnv} {i : Nat} {r : List Nat} : wipeD ρ (i :: r) = (wipeD ρ r).set i none := rfl
def SomeP {α : Type} (o : Option α) (P : α → Prop) : Prop := match o with
  | some a => P a
  | none => False
@[simp] theorem someP_some {α : Type} {a : α} {P : α → Prop} : SomeP (some a) P ↔ P a := Iff.rfl
@[simp] theorem someP_none {α : Type} {P : α → Prop} : SomeP none P ↔ False := Iff.rfl
@[simp] theorem strsOf_nil : strsOf [] = some [] := rfl
@[simp] theorem strsOf_cons {z : Str} {r : List D} : strsOf (.str z :: r) = (strsOf r).map fun zs => z :: zs := rfl
section
variable {Q : D → Store → Prop} {E : Exn → Store → Prop} {M : Store} {x : D} {ys : List D} {neg : Bool}
theorem p_inT {M : Store} : Post ((match strsOf ys with
  | some zs => if plnD M x = true then .ok (.bl (if neg then !zs.any (isS x) else zs.any (isS x))) M else .bad
  | none => .bad : Out D)) Q E ↔ SomeP (strsOf ys) fun zs => plnD M x = true ∧ Q (.bl (if neg then !zs.any (isS x) else zs.any (isS x))) M := by
  cases strsOf ys with
  | none => exact Iff.rfl
  | some zs =>
    dsimp only
    by_cases h2 : plnD M x = true
    · rw [if_pos h2]; exact ⟨fun z => ⟨h2, z⟩, fun z => z.2⟩
    · rw [if_neg h2]; exact ⟨fun z => z.elim, fun z => h2 z.1⟩
@[simp] theorem p_inT_tup : Post (inTD neg x (.tup ys) M) Q E ↔ SomeP (strsOf ys) fun zs => plnD M x = true ∧ Q (.bl (if neg then !zs.any (isS x) else zs.any (isS x))) M := post_bnd.trans p_inT
@[simp] theorem p_inT_lst : Post (inTD neg x (.lst ys) M) Q E ↔ SomeP (strsOf ys) fun zs => plnD M x = true ∧ Q (.bl (if neg then !zs.any (isS x) else zs.any (isS x))) M := post_bnd.trans p_inT
@[simp] theorem pln_non : plnD M .non = true := rfl
@[simp] theorem pln_bl {b : Bool} : plnD M (.bl b) = true := rfl
@[simp] theorem pln_int {b : Int} : plnD M (.int b) = true := rfl
@[simp] theorem pln_str {b : Str} : plnD M (.str b) = true := rfl
@[simp] theorem pln_tup {b : List D} : plnD M (.tup b) = true := rfl
@[simp] theorem pln_lst {b : List D} : plnD M (.lst b) = true := rfl
@[simp] theorem pln_dk {b : List (Key × D)} : plnD M (.dk b) = true := rfl
@[simp] theorem isS_str {a z : Str} : isS (.str a) z = (z == a) := rfl
end
@[simp] theorem blsOf_nil : blsOf [] = some [] := rfl
@[simp] theorem blsOf_cons {b : Bool} {r : List D} : blsOf (.bl b :: r) = (blsOf r).map fun bs => b :: bs := rfl
@[simp] theorem blsOf_mapB {α : Type} {p : α → Bool} {l : List α} : blsOf (l.map fun x => D.bl (p x)) = some (l.map p) := blsOf_map _ p l fun _ _ => rfl
theorem p_blsK {g : List Bool → Bool} {Q : D → Store → Prop} {E : Exn → Store → Prop} {M : Store} {ds : List D} : Post ((match blsOf ds with | some bs => Py.ret (.bl (g bs)) | none => Py.bad : Py D) M) Q E ↔ SomeP (blsOf ds) fun bs => Q (.bl (g bs)) M := by
  cases blsOf ds <;> exact Iff.rfl
@[simp] theorem p_blsL {g : List Bool → Bool} {Q : D → Store → Prop} {E : Exn → Store → Prop} {M : Store} {ds : List D} : Post (blsD g (.lst ds) M) Q E ↔ SomeP (blsOf ds) fun bs => Q (.bl (g bs)) M := post_bnd.trans p_blsK
/-- the magnitude of a number -/
def absI : D → D
  | .int i => .int (if i < 0 then -i else i)
  | d => d
/-- data without things that change -/
inductive Dat (n : Nat) : D → Prop
  | non : Dat n .non
  | bl (b : Bool) : Dat n (.bl b)
  | int (i : Int) : Dat n (.int i)
  | str (z : Str) : Dat n (.str z)
  | tup {xs : List D} : xs.length ≤ n → (∀ d ∈ xs, Dat n d) → Dat n (.tup xs)
  | lst {xs : List D} : xs.length ≤ n → (∀ d ∈ xs, Dat n d) → Dat n (.lst xs)
  | dk : Dat n (.dk [])
theorem Dat.mono {n m : Nat} (h : n ≤ m) {d : D} (x : Dat n d) : Dat m d := by
  induction x with
  | non => exact .non
  | bl b => exact .bl b
  | int i => exact .int i
  | str z => exact .str z
  | tup l _ ih => exact .tup (Nat.le_trans l h) ih
  | lst l _ ih => exact .lst (Nat.le_trans l h) ih
  | dk => exact .dk
theorem Dat.pln {n : Nat} {d : D} {M : Store} (x : Dat n d) : plnD M d = true := by cases x <;> rfl
end L3
set_option Elab.async false
set_option linter.all false
set_option maxRecDepth 100000
set_option maxHeartbeats 4000000
set_option autoImplicit false
/-! dicts: keys that are ints, texts, or tuples of such; the ones that change -/
namespace L3
open PySem PySem.Spec L2
open PyProof.Rows hiding St
section
variable {X : Cx}
def rIxK : R2 := fun x y H Q => ∃ a v, x = .ref a ∧ DGet H a y (some v) ∧ Q v H
theorem ix_dict (hu : X.A.units + 1 < cLine) : IxR X rIxK := by
  intro value slice pins s σ H x y v u Q I rx ry h hs
  obtain ⟨a, w, ex, g, q⟩ := h
  subst ex
  obtain rfl : v = Value.ref a := rx
  exact tail_any (ops := [.ref a, u]) (dict_typeIs I g) (PySem.F.slot_dict_getitem.lookup) (d_getItem hu I g ry fun w' s3 I3 rw' => ⟨w, H, I3, rw', q⟩) hs
theorem ix_or {r r' : R2} (h : IxR X r) (h' : IxR X r') : IxR X (fun x y H Q => r x y H Q ∨ r' x y H Q) := by
  intro value slice pins s σ H x y v u Q I rx ry q hs
  rcases q with q | q
  · exact h value slice pins s σ H x y v u Q I rx ry q hs
  · exact h' value slice pins s σ H x y v u Q I rx ry q hs
def rInK (neg : Bool) : R2 := fun x y H Q => ∃ a o, y = .ref a ∧ DGet H a x o ∧ Q (.bl (if neg then !o.isSome else o.isSome)) H
theorem op_inK (hu : X.A.units + 1 < cLine) : OpR X (compareOp .In) (rInK false) := by
  intro pins s σ H x y v u Q I rx ry h
  obtain ⟨a, o, ex, g, q⟩ := h
  subst ex
  obtain rfl : u = Value.ref a := ry
  exact d_in hu I g rx fun s3 I3 => ⟨.bl o.isSome, H, I3, rfl, q⟩
theorem op_notInK (hu : X.A.units + 1 < cLine) : OpR X (compareOp .NotIn) (rInK true) := by
  intro pins s σ H x y v u Q I rx ry h
  obtain ⟨a, o, ex, g, q⟩ := h
  subst ex
  obtain rfl : u = Value.ref a := ry
  exact d_notIn hu I g rx fun s3 I3 => ⟨.bl (!o.isSome), H, I3, rfl, q⟩
def rSetK : TSet := fun o i v H R => ∃ a H', o = .ref a ∧ DPut H a i v H' ∧ R H'
theorem set_dict (hu : X.A.units + 1 < cLine) : PSet X rSetK := by
  intro pins s σ H o i v ov iv u Q I ro ri rv h
  obtain ⟨a, H', ex, g, q⟩ := h
  subst ex
  obtain rfl : ov = Value.ref a := ro
  exact d_setItem hu I g ri rv fun s4 I4 => ⟨H', I4, q⟩
theorem set_or {t t' : TSet} (h : PSet X t) (h' : PSet X t') : PSet X (fun o i v H R => t o i v H R ∨ t' o i v H R) := by
  intro pins s σ H o i v ov iv u Q I ro ri rv q
  rcases q with q | q
  · exact h pins s σ H o i v ov iv u Q I ro ri rv q
  · exact h' pins s σ H o i v ov iv u Q I ro ri rv q
end
/-! ### pairs of any keys -/
section
variable {κ : Type}
inductive KQ (K : PySem.W.Frag) (g : G) : List (κ × V) → List (κ × D) → Prop
  | nil : KQ K g [] []
  | cons {k : κ} {v : V} {d : D} {vs : List (κ × V)} {fs : List (κ × D)} : Rep K g v d → KQ K g vs fs → KQ K g ((k, v) :: vs) ((k, d) :: fs)
variable {K : PySem.W.Frag} {g g' : G}
theorem KQ.of : ∀ {vs : List (κ × V)} {fs : List (κ × D)}, Reps K g (vs.map (·.2)) (fs.map (·.2)) → vs.map (·.1) = fs.map (·.1) → KQ K g vs fs
  | [], [], _, _ => .nil
  | [], _ :: _, _, e => nomatch e
  | _ :: _, [], _, e => nomatch e
  | (k, v) :: vs, (k', d) :: fs, r, e => by
    injection e with e1 e2
    have e1' : k = k' := e1
    subst e1'
    cases r with
    | cons a b => exact .cons a (KQ.of b e2)
theorem KQ.reps : ∀ {vs : List (κ × V)} {fs : List (κ × D)}, KQ K g vs fs → Reps K g (vs.map (·.2)) (fs.map (·.2)) ∧ vs.map (·.1) = fs.map (·.1)
  | _, _, .nil => ⟨.nil, rfl⟩
  | _, _, .cons r t => let ⟨a, b⟩ := t.reps; ⟨.cons r a, by rw [List.map_cons, List.map_cons, b]⟩
theorem KQ.length {vs : List (κ × V)} {fs : List (κ × D)} (h : KQ K g vs fs) : vs.length = fs.length := by
  induction h with
  | nil => rfl
  | cons r t ih => rw [List.length_cons, List.length_cons, ih]
theorem KQ.gro (h : g.sub g') {vs : List (κ × V)} {fs : List (κ × D)} (q : KQ K g vs fs) : KQ K g' vs fs := by
  induction q with
  | nil => exact .nil
  | cons r t ih => exact .cons (r.gro h) ih
theorem KQ.append {vs ws : List (κ × V)} {fs gs : List (κ × D)} (h : KQ K g vs fs) (q : KQ K g ws gs) : KQ K g (vs ++ ws) (fs ++ gs) := by
  induction h with
  | nil => exact q
  | cons r t ih => exact .cons r ih
/-- what stands, or nothing -/
def RO (K : PySem.W.Frag) (g : G) : Option V → Option D → Prop
  | some v, some d => Rep K g v d
  | none, none => True
  | _, _ => False
variable [DecidableEq κ]
def valG (fs : List (κ × D)) (k : κ) : Option D := (fs.find? fun kv => decide (kv.1 = k)).map (·.2)
def putG (fs : List (κ × D)) (k : κ) (v : D) : List (κ × D) :=
  if (fs.any fun kv => decide (kv.1 = k)) = true then fs.map (fun kv => if kv.1 = k then (kv.1, v) else kv) else fs ++ [(k, v)]
def dropG (fs : List (κ × D)) (k : κ) : List (κ × D) := fs.filter fun kv => decide (kv.1 ≠ k)
theorem KQ.val (k : κ) : ∀ {vs : List (κ × V)} {fs : List (κ × D)}, KQ K g vs fs → RO K g (valV vs k) (valG fs k)
  | _, _, .nil => True.intro
  | _, _, .cons (k := k') r t => by
    unfold valV valG
    by_cases e : k' = k
    · simp [e]; exact r
    · simp [e]
      exact KQ.val k t
theorem KQ.any (k : κ) {vs : List (κ × V)} {fs : List (κ × D)} (h : KQ K g vs fs) : (vs.any fun kv => decide (kv.1 = k)) = fs.any fun kv => decide (kv.1 = k) := by
  induction h with
  | nil => rfl
  | cons r t ih => rw [List.any_cons, List.any_cons, ih]
theorem KQ.repl (k : κ) {v : V} {d : D} (x : Rep K g v d) {vs : List (κ × V)} {fs : List (κ × D)} (h : KQ K g vs fs) : KQ K g (vs.map fun kv => if kv.1 = k then (kv.1, v) else kv) (fs.map fun kv => if kv.1 = k then (kv.1, d) else kv) := by
  induction h with
  | nil => exact .nil
  | @cons k' v' d' vs fs r t ih =>
    rw [List.map_cons, List.map_cons]
    by_cases e : k' = k
    · subst e; simp; exact .cons x ih
    · simp [e]; exact .cons r ih
theorem KQ.put (k : κ) {v : V} {d : D} (x : Rep K g v d) {vs : List (κ × V)} {fs : List (κ × D)} (h : KQ K g vs fs) : KQ K g (putK vs k v) (putG fs k d) := by
  unfold putK putG
  rw [h.any k]
  split
  · exact h.repl k x
  · exact h.append (.cons x .nil)
theorem KQ.drop (k : κ) {vs : List (κ × V)} {fs : List (κ × D)} (h : KQ K g vs fs) : KQ K g (dropK vs k) (dropG fs k) := by
  induction h with
  | nil => exact .nil
  | @cons k' v' d' vs fs r t ih =>
    unfold dropK dropG
    by_cases e : k' = k
    · simp [e]
      simpa [dropK, dropG] using ih
    · simp [e]
      exact .cons r (by simpa [dropK, dropG] using ih)
end
/-! ### keys -/
def keysOf : List D → Option (List Key)
  | [] => some []
  | x :: xs => (keyD x).bind fun k => (keysOf xs).map fun ks => k :: ks
def keyT : D → Option (List Key)
  | .tup xs => keysOf xs
  | _ => none
section
variable {K : PySem.W.Frag} {g : G}
theorem keysOf_rep : ∀ {vs : List V} {xs : List D} {ks : List Key}, Reps K g vs xs → keysOf xs = some ks → vs = ks.map kV
  | _, _, _, .nil, e => by cases e; rfl
  | _, _, ks, .cons (d := d) (ds := xs) r t, e => by
    obtain ⟨k, e1, e2⟩ := Option.bind_eq_some_iff.mp (show (keyD d).bind _ = some ks from e)
    obtain ⟨ks', e3, e4⟩ := Option.map_eq_some_iff.mp e2
    subst e4
    rw [List.map_cons, ← keysOf_rep t e3, key_rep r e1]
theorem keyT_rep {v : V} {x : D} {k : List Key} (r : Rep K g v x) (e : keyT x = some k) : ∃ b, v = .ref b ∧ g.F b = some (.tup (k.map kV)) := by
  cases r with
  | tup s t => exact ⟨_, rfl, by rw [s, keysOf_rep t e]⟩
  | _ => cases e
/-- what x holds at y; none: x is no such dict -/
def dgetM (M : Store) (x y : D) : Option (Option D) := match x with
  | .dk fs => (keyD y).map (valG fs)
  | .dkt fs => (keyT y).map (valG fs)
  | .loc n => match M[n]? with
    | some (some (.dk fs)) => (keyD y).map (valG fs)
    | some (some (.dkt fs)) => (keyT y).map (valG fs)
    | _ => none
  | _ => none
theorem dget_rep {M : Store} {H : Hp} {v u : V} {x y : D} {o : Option D} (R : RelH K g M H) (rx : Rep K g v x) (ry : Rep K g u y) (e : dgetM M x y = some o) : ∃ a o', v = .ref a ∧ DGet H a u o' ∧ RO K g o' o := by
  cases rx with
  | dk s t z =>
    obtain ⟨k, e1, e2⟩ := Option.map_eq_some_iff.mp (show (keyD y).map _ = some o from e)
    subst e2
    rw [key_rep ry e1]
    exact ⟨_, _, rfl, DGet.k (R.frz _ _ s), (KQ.of t z).val k⟩
  | dkt s t z =>
    obtain ⟨k, e1, e2⟩ := Option.map_eq_some_iff.mp (show (keyT y).map _ = some o from e)
    subst e2
    obtain ⟨b, rfl, eb⟩ := keyT_rep ry e1
    exact ⟨_, _, rfl, DGet.t (R.frz _ _ s) (R.frz _ _ eb), (KQ.of t z).val k⟩
  | @loc n a e1 =>
    have e' : (match M[n]? with | some (some (.dk fs)) => (keyD y).map (valG fs) | some (some (.dkt fs)) => (keyT y).map (valG fs) | _ => none) = some o := e
    split at e'
    · rename_i fs h
      obtain ⟨a', e2, _, vs, e4, t, z⟩ := R.liv n _ h
      rw [e1] at e2; cases e2
      obtain ⟨k, e3, e5⟩ := Option.map_eq_some_iff.mp e'
      subst e5
      rw [key_rep ry e3]
      exact ⟨_, _, rfl, DGet.k e4, (KQ.of t z).val k⟩
    · rename_i fs h
      obtain ⟨a', e2, _, vs, e4, t, z⟩ := R.liv n _ h
      rw [e1] at e2; cases e2
      obtain ⟨k, e3, e5⟩ := Option.map_eq_some_iff.mp e'
      subst e5
      obtain ⟨b, rfl, eb⟩ := keyT_rep ry e3
      exact ⟨_, _, rfl, DGet.t e4 (R.frz _ _ eb), (KQ.of t z).val k⟩
    · cases e'
  | _ => cases e
end
/-- x[y] of a dict or a sequence -/
def ixU (x y : D) : Py D := fun M => match dgetM M x y with
  | some (some d) => .ok d M
  | some none => .bad
  | none => ixD x y M
/-- x in y, y a dict -/
def inK (neg : Bool) (x y : D) : Py D := fun M => match dgetM M y x with
  | some o => .ok (.bl (if neg then !o.isSome else o.isSome)) M
  | none => .bad
theorem inK_post {neg : Bool} {x y : D} {M : Store} {q : D → Store → Prop} {E : Exn → Store → Prop} (p : Post (inK neg x y M) q E) : ∃ o, dgetM M y x = some o ∧ q (.bl (if neg then !o.isSome else o.isSome)) M := by
  unfold inK at p
  cases h : dgetM M y x with
  | none => rw [h] at p; exact p.elim
  | some o => rw [h] at p; exact ⟨o, rfl, p⟩
section
variable {C : DX}
theorem RO.isSome {K : PySem.W.Frag} {g : G} {o : Option V} {d : Option D} (h : RO K g o d) : o.isSome = d.isSome := by
  cases o <;> cases d <;> first | rfl | exact h.elim
theorem do_inK (hu : C.X.A.units + 1 < cLine) : DOp C (compareOp .In) (inK false) := DOp.of (op_inK hu) fun {g ρ M σ H x y dx dy} Q R rx ry p => by
  obtain ⟨o, e, q⟩ := inK_post p
  obtain ⟨a, o', ea, hg, ro⟩ := dget_rep R.h ry rx e
  refine ⟨a, o', ea, hg, ?_⟩
  rw [ro.isSome]
  exact QV.here q R (.bl _)
theorem do_notInK (hu : C.X.A.units + 1 < cLine) : DOp C (compareOp .NotIn) (inK true) := DOp.of (op_notInK hu) fun {g ρ M σ H x y dx dy} Q R rx ry p => by
  obtain ⟨o, e, q⟩ := inK_post p
  obtain ⟨a, o', ea, hg, ro⟩ := dget_rep R.h ry rx e
  refine ⟨a, o', ea, hg, ?_⟩
  rw [ro.isSome]
  exact QV.here q R (.bl _)
variable {a b : Expr} {fa fb : DEnv → Py D} {pos : Pos}
theorem de_ixU (hu : C.X.A.units + 1 < cLine) (ha : DE C a fa) (hb : DE C b fb) (hs : PlainIx b := by exact fun _ _ => rfl) : DE C (.Subscript a b pos) (eOp ixU fa fb) := ⟨fun {g ρ M σ H} Q R p => by
  refine wpe (pe_ix (ix_or (ix_dict hu) ix_seq) self_e self_e hs) (ha.then_ R p fun v d M1 H1 g1 l1 R1 r1 p1 => hb.then_ R1 p1 fun u e M2 H2 g2 l2 R2 r2 p2 => ?_)
  have p3 : Post (ixU d e M2) _ _ := p2
  unfold ixU at p3
  cases h : dgetM M2 d e with
  | some o =>
    rw [h] at p3
    cases o with
    | none => exact p3.elim
    | some dd =>
      obtain ⟨a', o', ea, hg, ro⟩ := dget_rep R2.h (r1.mono l2) r2 h
      cases o' with
      | none => exact ro.elim
      | some w => exact .inl ⟨a', w, ea, hg, QV.here (QV.later (g' := g2) p3 (l1.trans l2)) R2 ro⟩
  | none =>
    rw [h] at p3
    rcases ixD_cases p3 with ⟨z, i, c, rfl, rfl, hz, e, q⟩ | ⟨i, rfl, p4⟩
    · exact .inr (.inr (.inr ⟨z, i, c, rep_str (r1.mono l2), rep_int r2, hz, e, QV.here (QV.later (g' := g2) q (l1.trans l2)) R2 (.str _)⟩))
    · obtain ⟨a', vs, ds, ea, hs, t, d', e, q⟩ := items_post R2.h (r1.mono l2) p4
      obtain ⟨w', e1, e2⟩ := atI_reps t e
      rcases hs with hs | hs
      · exact .inr (.inl ⟨a', vs, i, w', ea, rep_int r2, hs, e1, QV.here (QV.later (g' := g2) q (l1.trans l2)) R2 e2⟩)
      · exact .inr (.inr (.inl ⟨a', vs, i, w', ea, rep_int r2, hs, e1, QV.here (QV.later (g' := g2) q (l1.trans l2)) R2 e2⟩))⟩
end
end L3
set_option Elab.async false
set_option linter.all false
set_option maxRecDepth 100000
set_option maxHeartbeats 4000000
set_option autoImplicit false
/-! dicts that change: stores, update, get, pop, displays, comprehensions -/
namespace L3
open PySem PySem.Spec L2
open PyProof.Rows hiding St
def mergeG {κ : Type} [DecidableEq κ] (fs more : List (κ × D)) : List (κ × D) := more.foldl (fun acc kv => putG acc kv.1 kv.2) fs
theorem KQ.merge {K : PySem.W.Frag} {g : G} : ∀ {ws : List (Key × V)} {gs : List (Key × D)} {vs : List (Key × V)} {fs : List (Key × D)}, KQ K g ws gs → KQ K g vs fs → KQ K g (mergeK vs ws) (mergeG fs gs)
  | _, _, _, _, .nil, h => h
  | _, _, _, _, .cons (k := k) r t, h => by
    have q := KQ.merge t (h.put k r)
    exact q
section
variable {X : Cx}
/-- d.update(e): dicts of ints or texts, unlike ones -/
def rUpdK : V → List V → Hp → VK → Prop := fun x xs H Q => ∃ a b ks ls, x = V.ref a ∧ xs = [V.ref b] ∧ a ≠ b ∧ H a = some (.dK ks) ∧ Rd H b (.dK ls) ∧ ks.length + ls.length ≤ sizeLine ∧ Q .non (upd H a (.dK (mergeK ks ls)))
theorem mt_updK : MtR X "dict.update" rUpdK := by
  intro pins s σ H x xs v us Q I rx rxs h
  obtain ⟨a, b, ks, ls, ex, exs, ne, ha, hb, hz, q⟩ := h
  subst ex exs
  obtain rfl : v = Value.ref a := rx
  obtain ⟨u, eu, ru⟩ := vals1 rxs
  subst eu
  obtain rfl : u = Value.ref b := ru
  obtain ⟨z1, d1, vs, rel1, dd1⟩ := dk_of I.hok ha
  obtain ⟨z2, d2, ws, rel2, dd2⟩ := dk_rd I.hok hb
  refine call_meetsIn PySem.F.slot_dict_update dd1.typeIs PySem.F.entry_dict_update (PySem.F.args_dict_update_2 _ _) (meets_dict_update (mixKind X.prog X.w) a b ne d2)
    ⟨vs, ws, dd1, dd2, by rw [← rel1.length, ← rel2.length]; exact hz, fun h' dd' _ hs => ?_⟩
  have he : ∃ w, h'.get? a = some w := let ⟨w, _, _, hw, _⟩ := dd'; ⟨w, hw⟩
  exact ⟨.non, _, d_write (t' := s.toks) I (by rw [ha]; exact True.intro) hs he (dk_new (Nat.le_trans (length_mergeK ls ks) hz) d1 (rel2.merge rel1) dd'), rfl, q⟩
end
/-! ### stores -/
/-- o[i] = v -/
def setU (o i v : D) : Py Unit := fun M => match o with
  | .loc n => match M[n]? with
    | some (some (.dk fs)) => match keyD i with
      | some k => if fs.length < sizeLine then .ok () (M.set n (some (.dk (putG fs k v)))) else .bad
      | none => .bad
    | some (some (.dkt fs)) => match keyT i with
      | some k => if fs.length < sizeLine then .ok () (M.set n (some (.dkt (putG fs k v)))) else .bad
      | none => .bad
    | _ => setD o i v M
  | _ => .bad
section
variable {K : PySem.W.Frag} {g : G} {M : Store} {H : Hp}
theorem setU_post {o i v : D} {x y z : V} {q : Unit → Store → Prop} {E : Exn → Store → Prop} (R : RelH K g M H) (rx : Rep K g x o) (ry : Rep K g y i) (rz : Rep K g z v) (p : Post (setU o i v M) q E) :
    (∃ a H' M', x = .ref a ∧ DPut H a y z H' ∧ q () M' ∧ RelH K g M' H') ∨ ∃ a vs k j M', x = .ref a ∧ y = .int k ∧ H a = some (.lst vs) ∧ ixN vs.length k = some j ∧ q () M' ∧ RelH K g M' (upd H a (.lst (vs.set j z))) := by
  cases o with
  | loc n =>
    cases rx with
    | @loc n a e1 =>
      unfold setU at p
      dsimp only at p
      split at p
      · rename_i fs h
        obtain ⟨a', e2, _, vs, e4, t, zz⟩ := R.liv n _ h
        rw [e1] at e2; cases e2
        cases hk : keyD i with
        | none => rw [hk] at p; exact p.elim
        | some k =>
          rw [hk] at p
          dsimp only at p
          by_cases hl : fs.length < sizeLine
          · rw [if_pos hl] at p
            have kq := KQ.of t zz
            refine .inl ⟨a, _, _, rfl, by rw [key_rep ry hk]; exact DPut.k e4 (by rw [kq.length]; exact hl), p, R.put h e1 ⟨_, upd_same, (kq.put k rz).reps⟩⟩
          · rw [if_neg hl] at p; exact p.elim
      · rename_i fs h
        obtain ⟨a', e2, _, vs, e4, t, zz⟩ := R.liv n _ h
        rw [e1] at e2; cases e2
        cases hk : keyT i with
        | none => rw [hk] at p; exact p.elim
        | some k =>
          rw [hk] at p
          dsimp only at p
          by_cases hl : fs.length < sizeLine
          · rw [if_pos hl] at p
            have kq := KQ.of t zz
            obtain ⟨b, eb, fb⟩ := keyT_rep ry hk
            refine .inl ⟨a, _, _, rfl, by rw [eb]; exact DPut.t e4 (R.frz _ _ fb) (by rw [kq.length]; exact hl), p, R.put h e1 ⟨_, upd_same, (kq.put k rz).reps⟩⟩
          · rw [if_neg hl] at p; exact p.elim
      · obtain ⟨a', vs, k, j, M', e2, e3, e4, e5, q', R'⟩ := setD_post R (.loc e1) ry rz p
        cases e2
        exact .inr ⟨_, vs, k, j, M', rfl, e3, e4, e5, q', R'⟩
  | _ => exact p.elim
end
def sSubU (fo fi fv : DEnv → Py D) : DEnv → Py Fl := fun ρ => Py.bnd (fv ρ) fun v => Py.bnd (fo ρ) fun o => Py.bnd (fi ρ) fun i => Py.bnd (setU o i v) fun _ => Py.ret (.nx ρ)
section
variable {C : DX} {e : Expr} {f : DEnv → Py D} {pos : Pos}
theorem ds_subU (hu : C.X.A.units + 1 < cLine) {o i : Expr} {fo fi : DEnv → Py D} {tpos : Pos} (ho : DE C o fo) (hi : DE C i fi) (hv : DE C e f)
    (ha : ∀ v, assign (.Subscript o i tpos) C.X.env v = (do
      let ov ← holding [v] (eval o C.X.env)
      let iv ← holding [v, ov] (eval i C.X.env)
      standAt tpos
      holding [v, ov, iv] (setItem ov iv v)
      release [v, ov, iv] []) := by intro _; rfl)
    (hs : swapsWithSole [.Subscript o i tpos] e pos.line C.X.env = pure false := by rfl) (hw : swappedStores [.Subscript o i tpos] e C.X.env = pure none := by rfl)
    (h1 : (assignEach [.Subscript o i tpos] C.X.env).map (·.2) = [assign (.Subscript o i tpos) C.X.env] := by rfl) : DS C (.Assign [.Subscript o i tpos] e pos) (sSubU fo fi f) := ⟨fun {g ρ M σ H} E R p =>
  wps (ps_asg self_e (pg_sub self_e self_e (set_or (set_dict hu) set_list) ha) hs hw h1) (hv.then_ R p fun v d M1 H1 g1 l1 R1 r1 p1 => ho.then_ R1 p1 fun x o' M2 H2 g2 l2 R2 r2 p2 => hi.then_ R2 p2 fun y i' M3 H3 g3 l3 R3 r3 p3 => by
    rcases setU_post R3.h (r2.mono l3) r3 (r1.mono (l2.trans l3)) (post_bnd.mp p3) with ⟨a, H', M', ea, dp, q, R'⟩ | ⟨a, vs, k, j, M', ea, ek, e1, e2, q, R'⟩
    · exact .inl ⟨a, H', ea, dp, q _ _ g3 ((l1.trans l2).trans l3) (R3.next (G.le.refl g3) R')⟩
    · exact .inr ⟨a, vs, k, j, ea, ek, e1, e2, q _ _ g3 ((l1.trans l2).trans l3) (R3.next (G.le.refl g3) R')⟩)⟩
end
/-! ### get, pop, update -/
/-- it is a dict -/
def isDk (M : Store) (d : D) : Bool := match d with
  | .dk _ => true
  | .dkt _ => true
  | .loc n => match M[n]? with
    | some (some (.dk _)) => true
    | some (some (.dkt _)) => true
    | _ => false
  | _ => false
theorem isDk_rep {K : PySem.W.Frag} {g : G} {M : Store} {H : Hp} {v : V} {d : D} (R : RelH K g M H) (r : Rep K g v d) (h : isDk M d = true) : ∃ a, v = .ref a ∧ IsD H a := by
  cases r with
  | dk s t z => exact ⟨_, rfl, .inl ⟨_, .of (R.frz _ _ s)⟩⟩
  | dkt s t z => exact ⟨_, rfl, .inr ⟨_, .of (R.frz _ _ s)⟩⟩
  | @loc n a e1 =>
    have h' : (match M[n]? with | some (some (.dk _)) => true | some (some (.dkt _)) => true | _ => false) = true := h
    split at h'
    · rename_i fs e
      obtain ⟨a', e2, _, vs, e4, t, z⟩ := R.liv n _ e
      rw [e1] at e2; cases e2
      exact ⟨_, rfl, .inl ⟨_, .of e4⟩⟩
    · rename_i fs e
      obtain ⟨a', e2, _, vs, e4, t, z⟩ := R.liv n _ e
      rw [e1] at e2; cases e2
      exact ⟨_, rfl, .inr ⟨_, .of e4⟩⟩
    · cases h'
  | _ => cases h
def chkDk (d : D) : Py Unit := fun M => if isDk M d = true then .ok () M else .bad
theorem chkDk_post {d : D} {M : Store} {q : Unit → Store → Prop} {E : Exn → Store → Prop} (p : Post (chkDk d M) q E) : isDk M d = true ∧ q () M := by
  unfold chkDk at p
  by_cases h : isDk M d = true
  · rw [if_pos h] at p; exact ⟨h, p⟩
  · rw [if_neg h] at p; exact p.elim
def getDk (d y z : D) : Py D := fun M => match dgetM M d y with
  | some o => .ok (o.getD z) M
  | none => .bad
theorem getDk_post {d y z : D} {M : Store} {q : D → Store → Prop} {E : Exn → Store → Prop} (p : Post (getDk d y z M) q E) : ∃ o, dgetM M d y = some o ∧ q (o.getD z) M := by
  unfold getDk at p
  cases h : dgetM M d y with
  | none => rw [h] at p; exact p.elim
  | some o => rw [h] at p; exact ⟨o, rfl, p⟩
def eGet2 (fo fk fz : DEnv → Py D) : DEnv → Py D := fun ρ => Py.bnd (fo ρ) fun d => Py.bnd (chkDk d) fun _ => Py.bnd (fk ρ) fun y => Py.bnd (fz ρ) fun z => getDk d y z
def eGet1 (fo fk : DEnv → Py D) : DEnv → Py D := fun ρ => Py.bnd (fo ρ) fun d => Py.bnd (chkDk d) fun _ => Py.bnd (fk ρ) fun y => getDk d y .non
theorem RO.getD {K : PySem.W.Frag} {g : G} {o : Option V} {d : Option D} {v : V} {z : D} (h : RO K g o d) (r : Rep K g v z) : Rep K g (o.getD v) (d.getD z) := by
  cases o <;> cases d <;> first | exact r | exact h | exact h.elim
/-- d.pop(k, z) of a dict that changes -/
def popDk (d y z : D) : Py D := match d with
  | .loc n => fun M => match M[n]? with
    | some (some (.dk fs)) => match keyD y with
      | some k => match valG fs k with
        | some x => .ok x (M.set n (some (.dk (dropG fs k))))
        | none => .ok z M
      | none => .bad
    | _ => .bad
  | _ => Py.bad
def ePop2 (fo fk fz : DEnv → Py D) : DEnv → Py D := fun ρ => Py.bnd (fo ρ) fun d => Py.bnd (chkDk d) fun _ => Py.bnd (fk ρ) fun y => Py.bnd (fz ρ) fun z => popDk d y z
section
variable {C : DX} {o e f : Expr} {fo fk fz : DEnv → Py D} {apos cpos : Pos}
theorem de_get2 (hu : C.X.A.units + 1 < cLine) (ho : DE C o fo) (he : DE C e fk) (hf : DE C f fz) (m : M2 C.X o "get" apos e f cpos := by exact ⟨rfl, rfl, rfl, rfl⟩) : DE C (.Call (.Attribute o "get" apos) [e, f] [] cpos) (eGet2 fo fk fz) := ⟨fun {g ρ M σ H} Q R p => by
  refine wpe (pe_dget2 hu self_e self_e self_e m) (ho.then_ R p fun v d M1 H1 g1 l1 R1 r1 p1 => ?_)
  obtain ⟨hd, p2⟩ := chkDk_post (post_bnd.mp p1)
  obtain ⟨a, rfl, ia⟩ := isDk_rep R1.h r1 hd
  refine ⟨a, rfl, ia, he.then_ R1 p2 fun y dy M2 H2 g2 l2 R2 r2 p3 => hf.then_ R2 p3 fun z dz M3 H3 g3 l3 R3 r3 p4 => ?_⟩
  obtain ⟨oo, e1, q⟩ := getDk_post p4
  obtain ⟨a', o', ea, hg, ro⟩ := dget_rep R3.h (r1.mono (l2.trans l3)) (r2.mono l3) e1
  cases ea
  exact ⟨o', hg, QV.here (QV.later (g' := g3) q ((l1.trans l2).trans l3)) R3 (ro.getD r3)⟩⟩
theorem de_get1 (hu : C.X.A.units + 1 < cLine) (ho : DE C o fo) (he : DE C e fk) (m : M1 C.X o "get" apos e cpos := by exact ⟨rfl, rfl, rfl, rfl⟩) : DE C (.Call (.Attribute o "get" apos) [e] [] cpos) (eGet1 fo fk) := ⟨fun {g ρ M σ H} Q R p => by
  refine wpe (pe_dget1 hu self_e self_e m) (ho.then_ R p fun v d M1 H1 g1 l1 R1 r1 p1 => ?_)
  obtain ⟨hd, p2⟩ := chkDk_post (post_bnd.mp p1)
  obtain ⟨a, rfl, ia⟩ := isDk_rep R1.h r1 hd
  refine ⟨a, rfl, ia, he.then_ R1 p2 fun y dy M2 H2 g2 l2 R2 r2 p3 => ?_⟩
  obtain ⟨oo, e1, q⟩ := getDk_post p3
  obtain ⟨a', o', ea, hg, ro⟩ := dget_rep R2.h (r1.mono l2) r2 e1
  cases ea
  exact ⟨o', hg, QV.here (QV.later (g' := g2) q (l1.trans l2)) R2 (ro.getD .non)⟩⟩
theorem de_pop2 (ho : DE C o fo) (he : DE C e fk) (hf : DE C f fz) (m : M2 C.X o "pop" apos e f cpos := by exact ⟨rfl, rfl, rfl, rfl⟩) : DE C (.Call (.Attribute o "pop" apos) [e, f] [] cpos) (ePop2 fo fk fz) := ⟨fun {g ρ M σ H} Q R p => by
  refine wpe (pe_dpop2 self_e self_e self_e m) (ho.then_ R p fun v d M1 H1 g1 l1 R1 r1 p1 => ?_)
  obtain ⟨hd, p2⟩ := chkDk_post (post_bnd.mp p1)
  obtain ⟨a, rfl, ia⟩ := isDk_rep R1.h r1 hd
  refine ⟨a, rfl, ia, he.then_ R1 p2 fun y dy M2 H2 g2 l2 R2 r2 p3 => hf.then_ R2 p3 fun z dz M3 H3 g3 l3 R3 r3 p4 => ?_⟩
  have L := (l1.trans l2).trans l3
  cases d with
  | loc n =>
    cases r1.mono (l2.trans l3) with
    | loc e1 =>
      have p5 : Post ((match M3[n]? with | some (some (.dk fs)) => (match keyD dy with | some k => (match valG fs k with | some x => .ok x (M3.set n (some (.dk (dropG fs k)))) | none => .ok dz M3) | none => .bad) | _ => .bad : Out D)) (QV C g ρ σ Q) (C.We ρ) := p4
      split at p5
      · rename_i fs h
        obtain ⟨a', e2, _, vs, e4, t, zz⟩ := R3.h.liv n _ h
        rw [e1] at e2; cases e2
        cases hk : keyD dy with
        | none => rw [hk] at p5; exact p5.elim
        | some k =>
          rw [hk] at p5
          dsimp only at p5
          have kq := KQ.of t zz
          refine ⟨vs, k, e4, key_rep (r2.mono l3) hk, fun w hw => ?_, fun hw => ?_⟩
          · have ro := kq.val k
            rw [hw] at ro
            cases hv : valG fs k with
            | none => rw [hv] at ro; exact ro.elim
            | some x =>
              rw [hv] at ro p5
              exact QV.later (g' := g3) p5 L _ _ g3 (G.le.refl g3) (R3.next (G.le.refl g3) (R3.h.put h e1 ⟨_, upd_same, (kq.drop k).reps⟩)) ro
          · have ro := kq.val k
            rw [hw] at ro
            cases hv : valG fs k with
            | some x => rw [hv] at ro; exact ro.elim
            | none =>
              rw [hv] at p5
              exact QV.here (QV.later (g' := g3) p5 L) R3 r3
      · exact p5.elim
  | _ => exact p4.elim⟩
end
/-- d.update(e), e a dict that stays -/
def updL (gs : List (Key × D)) : D → Py D
  | .loc n => fun M => match M[n]? with
    | some (some (.dk fs)) => if fs.length + gs.length ≤ sizeLine then .ok .non (M.set n (some (.dk (mergeG fs gs)))) else .bad
    | _ => .bad
  | _ => Py.bad
def updY (o : D) : D → Py D
  | .dk gs => updL gs o
  | _ => Py.bad
def updDk (o : D) : List D → Py D
  | [y] => updY o y
  | _ => Py.bad
theorem dm_upd {C : DX} : DMt C "dict.update" updDk := by
  refine ⟨_, mt_updK, fun {g ρ M σ H x dx xs ds} Q R rx rxs p => ?_⟩
  cases rxs with
  | nil => exact p.elim
  | cons r t =>
    cases t with
    | cons r2 t2 => exact p.elim
    | nil =>
      have p1 : Post (updY dx _ M) (QV C g ρ σ Q) (C.We ρ) := p
      cases r with
      | @dk b ws gs s t z =>
        have p2 : Post (updL gs dx M) (QV C g ρ σ Q) (C.We ρ) := p1
        cases rx with
        | @loc n a e1 =>
          have p5 : Post ((match M[n]? with | some (some (.dk fs)) => if fs.length + gs.length ≤ sizeLine then .ok .non (M.set n (some (.dk (mergeG fs gs)))) else .bad | _ => .bad : Out D)) (QV C g ρ σ Q) (C.We ρ) := p2
          split at p5
          · rename_i fs h
            obtain ⟨a', e2, ⟨ff, _⟩, vs, e4, t2, zz⟩ := R.h.liv n _ h
            rw [e1] at e2; cases e2
            have kq := KQ.of t2 zz
            have kq2 := KQ.of t z
            by_cases hl : fs.length + gs.length ≤ sizeLine
            · rw [if_pos hl] at p5
              refine ⟨_, b, vs, ws, rfl, rfl, fun e => ?_, e4, .of (R.h.frz _ _ s), by rw [kq.length, kq2.length]; exact hl, p5 _ _ g (G.le.refl g) (R.next (G.le.refl g) (R.h.put h e1 ⟨_, upd_same, (kq2.merge kq).reps⟩)) .non⟩
              rw [e, s] at ff
              cases ff
            · rw [if_neg hl] at p5; exact p5.elim
          · exact p5.elim
        | _ => exact p2.elim
      | _ => exact p1.elim
end L3
set_option Elab.async false
set_option linter.all false
set_option maxRecDepth 100000
set_option maxHeartbeats 4000000
set_option autoImplicit false
/-! dict displays that change, dict comprehensions -/
namespace L3
open PySem PySem.Spec L2
open PyProof.Rows hiding St
/-- the ground where what was built lives on -/
theorem le_live {g1 g' : G} {D : Addr} (S : g1.sub g') : g1.le (g'.unbL g1.P D) ∧ g'.sub (g'.unbL g1.P D) := by
  have S2 : g'.sub (g'.unbL g1.P D) := ⟨⟨[D], rfl⟩, fun a o q => q⟩
  exact ⟨⟨(S.trans S2).io, fun a o q => S.F _ _ q, rfl⟩, S2⟩
theorem loc_live {K : PySem.W.Frag} {g' : G} {P0 : Hp} {M : Store} {H : Hp} {D : Addr} (R : RelH K g' M H) : Rep K (g'.unbL P0 D) (.ref D) (.loc M.length) := by
  refine .loc ?_
  show (g'.io ++ [D])[M.length]? = some D
  rw [← R.len, List.getElem?_concat_length]
/-- the ground where what was built stays as it is -/
theorem le_stay {g1 g' : G} {D : Addr} {o : HO} (S : g1.sub g') (fD : g'.F D = none) : g1.le (g'.unb g1.P D o) ∧ g'.sub (g'.unb g1.P D o) := by
  have S2 : g'.sub (g'.unb g1.P D o) := ⟨⟨[], by simp [G.unb]⟩, fun a u q => by
    show upd g'.F D _ a = some u
    rw [upd_ne (ne_of_none q fD)]
    exact q⟩
  exact ⟨⟨(S.trans S2).io, fun a u q => S2.F _ _ (S.F _ _ q), rfl⟩, S2⟩
/-- {k: v, ..} that will change -/
def dkOfN (ds : List (D × D)) : Option (List (Key × D)) → Py D
  | some fs => Py.chk (ds.length ≤ 15) (alloc (.dk (mergeG [] fs)))
  | none => Py.bad
theorem dkOfN_post {ds : List (D × D)} {o : Option (List (Key × D))} {M : Store} {q : D → Store → Prop} {E : Exn → Store → Prop} (p : Post (dkOfN ds o M) q E) : ∃ fs, o = some fs ∧ ds.length ≤ 15 ∧ q (.loc M.length) (M ++ [some (.dk (mergeG [] fs))]) := by
  cases o with
  | none => exact p.elim
  | some fs =>
    obtain ⟨h, q⟩ := post_chk.mp p
    exact ⟨fs, rfl, h, q⟩
def eDispN (fp : DEnv → Py (List (D × D))) : DEnv → Py D := fun ρ => Py.bnd (noX (fp ρ)) fun ds => dkOfN ds (keysD ds)
section
variable {C : DX} {pos : Pos}
theorem KR.kq {K : PySem.W.Frag} {g : G} {vs : List (Key × V)} {fs : List (Key × D)} (h : KR K g vs fs) : KQ K g vs fs := KQ.of h.reps.1 h.reps.2
theorem de_dispN {keys : List (Option Expr)} {values : List Expr} {trs : Cx → List (TE × TE)} {fp : DEnv → Py (List (D × D))} (h : ∀ B, DP (C.at_ B) keys values trs fp) (hall : keys.all (·.isSome) = true := by rfl) (hl : keys.length = values.length := by rfl) (h0 : keys ≠ [] := by exact fun z => by cases z) (h15 : keys.length ≤ 15 := by decide) :
    DE C (.Dict keys values pos) (eDispN fp) := ⟨fun {g ρ M σ H} Q R p => by
  refine wpe (pe_disp ((h g).pp pos) hall hl h0 h15) fun D' hD => ?_
  have gP : g.P D' = none := R.h.pnone hD
  have gF : g.F D' = none := R.h.fnone hD
  have S0 : g.sub (g.bld D' (.dK [])) := ⟨⟨[], by simp [G.bld]⟩, fun _ _ q => q⟩
  have R0 : Rl (C.at_ (g.bld D' (.dK []))) (g.bld D' (.dK [])) ρ M σ (upd H D' (.dK [])) := ⟨G.le.refl _, R.h.build hD, R.e.gro S0⟩
  have p1 : Post (Py.bnd (fp ρ) Py.ret M) (fun ds M1 => Post (dkOfN ds (keysD ds) M1) (QV C g ρ σ Q) (C.We ρ)) (fun _ _ => False) := by
    have p0 : Post (Py.bnd (noX (fp ρ)) (fun ds => dkOfN ds (keysD ds)) M) (QV C g ρ σ Q) (C.We ρ) := p
    exact post_bnd.mpr ((noX_post (post_bnd.mp p0)).imp fun ds M1 z => z)
  refine (h (g.bld D' (.dK []))).run R0 p1 fun ps ds M1 H1 g1 l1 R1 ra rb p2 => ?_
  obtain ⟨fs, e1, hz, q⟩ := dkOfN_post (show Post (dkOfN ds (keysD ds) M1) _ _ from p2)
  obtain ⟨kvs, e2, kr, hk⟩ := keys_rep ra rb e1
  have hP : g1.P D' = some (.dK []) := by rw [l1.P]; exact upd_same
  have hPn : ∀ a, a ≠ D' → g.P a = (g1.bld D' (.dK (mergeK [] kvs))).P a := fun a ha => by
    show g.P a = upd g1.P D' _ a
    rw [upd_ne ha, l1.P]
    show g.P a = upd g.P D' _ a
    rw [upd_ne ha]
  refine ⟨(R1.h.prt _ _ hP).1, kvs, e2, by rw [hk]; exact hz, ?_⟩
  have B1 : g1.sub (g1.bld D' (.dK (mergeK [] kvs))) := ⟨⟨[], by simp [G.bld]⟩, fun _ _ q => q⟩
  have R2 := R1.h.rebuild (o := .dK (mergeK [] kvs)) hP
  have S1 : g.sub (g1.bld D' (.dK (mergeK [] kvs))) := (S0.trans l1.sub).trans B1
  obtain ⟨L, S2⟩ := le_live (D := D') S1
  have kq := (KQ.merge kr.kq .nil).gro B1
  exact q (.ref D') _ _ L (R.next L (R2.builtL upd_same gP hPn ⟨_, (R2.prt _ _ upd_same).1, kq.reps⟩)) (loc_live R2)⟩
end
/-! ### comprehensions -/
/-- a key -/
def keyK {α : Type} (d : D) (k : Key → Py α) : Py α := match keyD d with
  | some x => k x
  | none => Py.bad
theorem keyK_post {α : Type} {d : D} {k : Key → Py α} {M : Store} {q : α → Store → Prop} {E : Exn → Store → Prop} (p : Post (keyK d k M) q E) : ∃ x, keyD d = some x ∧ Post (k x M) q E := by
  unfold keyK at p
  cases h : keyD d with
  | none => rw [h] at p; exact p.elim
  | some x => rw [h] at p; exact ⟨x, rfl, p⟩
noncomputable def dcD (ok : Store → Prop) (tg : D → DEnv → Py DEnv) (tt : DEnv → Py Bool) (fk fv : DEnv → Py D) (ρ : DEnv) : List D → List (Key × D) → Py (List (Key × D))
  | [], acc => okM ok (Py.ret acc)
  | d :: ds, acc => okM ok (Py.bnd (tg d ρ) fun ρ1 => Py.bnd (tt ρ1) fun b => if b then Py.bnd (fk ρ1) fun y => Py.bnd (fv ρ1) fun z => keyK y fun k => Py.chk (acc.length < sizeLine) (dcD ok tg tt fk fv ρ ds (putG acc k z)) else dcD ok tg tt fk fv ρ ds acc)
noncomputable def dcAll (vs : List Nat) (it : DEnv → Py Wk) (tg : D → DEnv → Py DEnv) (tt : DEnv → Py Bool) (fk fv : DEnv → Py D) : DEnv → Py (List (Key × D)) := fun ρ => Py.bnd (it ρ) fun w => noX (dcD w.ok tg tt fk fv (wipeD ρ vs) w.ds [])
section
variable {J : It} {n : Nat} {Gd : Hp → Prop} {Y : Nat → Hp → V → Hp → Prop}
/-- a walk gives what the rule of a dict comprehension asks -/
theorem dc_walk (w : Walk J n Gd Y) {t : TG} {u : TT} {tk tv : TE} {vs : List Nat} {σ : St} {H1 : Hp} {A : Addr} {fin : Hp → Prop} (at_ : Nat → Hp → Prop) (begin_ : at_ 0 (upd H1 A (.dK []))) (stands : ∀ i H, i ≤ n → at_ i H → Gd H)
    (turn : ∀ i x H H', i < n → at_ i H → Y i H x H' → t x (L2.wipe σ vs) H' fun σ2 H2 => L2.wipe σ2 vs = L2.wipe σ vs ∧ u σ2 H2 fun b H3 =>
      if b = true then tk σ2 H3 fun y H4 => tv σ2 H4 fun z H5 => ∃ kvs k, y = kV k ∧ H5 A = some (.dK kvs) ∧ kvs.length < sizeLine ∧ at_ (i + 1) (upd H5 A (.dK (putK kvs k z))) else at_ (i + 1) H3) (last : ∀ H, at_ n H → fin H) :
    ∃ Wt : Nat → Nat → Hp → Prop, (∃ m, Wt 0 m (upd H1 A (.dK []))) ∧ ∀ i m H, Wt i m H →
      (J.stop i H ∧ fin H) ∨ (J.go i H ∧ ∃ nxt : Hp → Prop, (∀ H', nxt H' → ∃ m', m' < m ∧ Wt (i + 1) m' H') ∧ ∀ x H', J.yld i H x H' → t x (L2.wipe σ vs) H' fun σ2 H2 => L2.wipe σ2 vs = L2.wipe σ vs ∧ u σ2 H2 fun b H3 =>
        if b = true then tk σ2 H3 fun y H4 => tv σ2 H4 fun z H5 => ∃ kvs k, y = kV k ∧ H5 A = some (.dK kvs) ∧ kvs.length < sizeLine ∧ nxt (upd H5 A (.dK (putK kvs k z))) else nxt H3) := by
  refine ⟨fun i m H => i + m = n ∧ at_ i H, ⟨n, by omega, begin_⟩, fun i m H hw => ?_⟩
  obtain ⟨e, a⟩ := hw
  have s := stands i H (by omega) a
  cases m with
  | zero =>
    have e' : i = n := by omega
    subst e'
    exact .inl ⟨w.stops H s, last H a⟩
  | succ m =>
    have hlt : i < n := by omega
    exact .inr ⟨w.goes i H hlt s, at_ (i + 1), fun H' a' => ⟨m, Nat.lt_succ_self m, by omega, a'⟩, fun x H' y => turn i x H H' hlt a (w.yields i H x H' hlt s y)⟩
end
section
variable {C : DX} {pos : Pos} {ke ve tg iter : Expr} {ifs : List Expr} {scope : Scope} {own : List (Str × Nat)} {it : DEnv → Py Wk} {ft : D → DEnv → Py DEnv} {tt : DEnv → Py Bool} {fk fv : DEnv → Py D} {t : TG} {u : TT}
/-- the dict that is made, at its end -/
def EndDc (C : DX) (ρ : DEnv) (g : G) (σ : St) (Q : VK) : List (Key × D) → Store → Prop := fun fs M' => ∀ A H' g1 g' vs, g.le g1 → RelE C.X.K g1 σ ρ → C.B.le g1 → g1.sub g' → g'.P A = some (.dK vs) → g1.P A = none → g1.F A = none → (∀ a, a ≠ A → g1.P a = g'.P a) → RelH C.X.K g' M' H' → KQ C.X.K g' vs fs → Q (.ref A) H'
theorem dc_run (hi : DI C tg iter it) (hg : ∀ B s H c cl fp, DG (C.blk scope B s H c cl fp) (own.map (·.2)) tg ft t)
    (ht : DTU C scope ifs tt u) (hk : ∀ B s H c cl fp, DE (C.blk scope B s H c cl fp) ke fk) (hv : ∀ B s H c cl fp, DE (C.blk scope B s H c cl fp) ve fv) {wi : TI}
    (hwi : ∀ {g : G} {ρ : DEnv} {M : Store} {σ : St} {H : Hp} (R : It → Hp → Prop), Rl C g ρ M σ H → Post (it ρ M) (fun w M' => ∀ J H' g' Gd Y, g.le g' → Rl C g' ρ M' σ H' → WalkD C.X.K g' w J Gd Y → R J H') (C.We ρ) → wi σ H R)
    {g : G} {ρ : DEnv} {M : Store} {σ : St} {H : Hp} {Q : VK} (R : Rl C g ρ M σ H) (p : Post (dcAll (own.map (·.2)) it ft tt fk fv ρ M) (EndDc C ρ g σ Q) (C.We ρ)) :
    tDc wi t u (eltT C.X scope ke) (eltT C.X scope ve) (own.map (·.2)) σ H Q := by
  refine hwi _ R ((post_bnd.mp p).imp fun w M1 p1 J H1 g1 Gd Y l1 R1 WD => ?_)
  intro A hA
  have gP : g1.P A = none := R1.h.pnone hA
  have gF : g1.F A = none := R1.h.fnone hA
  have eW : RelE C.X.K g1 (L2.wipe σ (own.map (·.2))) (wipeD ρ (own.map (·.2))) := R1.e.wipe _
  refine dc_walk WD.wk (fun i H' => ∃ g' M' acc vs, g1.sub g' ∧ g'.P A = some (.dK vs) ∧ (∀ a, a ≠ A → g1.P a = g'.P a) ∧ RelH C.X.K g' M' H' ∧ KQ C.X.K g' vs acc ∧
    Post (dcD w.ok ft tt fk fv (wipeD ρ (own.map (·.2))) (w.ds.drop i) acc M') (EndDc C ρ g σ Q) (fun _ _ => False)) ?_ ?_ ?_ ?_
  · refine ⟨g1.bld A (.dK []), M1, [], [], ⟨⟨[], by simp [G.bld]⟩, fun _ _ q => q⟩, upd_same, fun a ha => ?_, R1.h.build hA, .nil, ?_⟩
    · show g1.P a = upd g1.P A _ a
      rw [upd_ne ha]
    · rw [List.drop_zero]
      exact noX_post p1
  · rintro i H' hi ⟨g', M', acc, vs, S, hP, hPn, Rh, rp, p'⟩
    have : w.ok M' := by
      cases e : w.ds.drop i with
      | nil => rw [e] at p'; exact (okM_post p').1
      | cons d ds => rw [e] at p'; exact (okM_post p').1
    exact WD.ok S Rh this
  · rintro i x H' H2 hi ⟨g', M', acc, vs, S, hP, hPn, Rh, rp, p'⟩ y
    have e : w.ds.drop i = w.ds[i] :: w.ds.drop (i + 1) := List.drop_eq_getElem_cons hi
    rw [e] at p'
    obtain ⟨ok, p2⟩ := okM_post p'
    obtain ⟨d, g2, e1, l2, R2, r⟩ := WD.it S Rh ok y
    rw [List.getElem?_eq_getElem hi] at e1
    cases e1
    have L12 : g1.sub g2 := S.trans l2.sub
    have Rb : ∀ s H0 c cl fp, Rl (C.blk scope g2 s H0 c cl fp) g2 (wipeD ρ (own.map (·.2))) M' (L2.wipe σ (own.map (·.2))) H2 := fun _ _ _ _ _ => ⟨G.le.refl g2, R2, eW.gro L12⟩
    refine (hg g2 C.X.s_0 H 0 [] []).run _ (Rb _ _ _ _ _) r ((post_bnd.mp p2).imp fun ρ1 M3 p3 σ3 H3 g3 l3 R3 hw => ⟨hw.trans wipe_wipe, ?_⟩)
    refine ht.run _ (fun _ _ _ _ _ => ⟨G.le.refl g3, R3.h, R3.e⟩) ((post_bnd.mp p3).imp fun b M4 p4 H4 g4 l4 R4 => ?_)
    have P4 : g4.P A = some (.dK vs) := by rw [l4.P, l3.P, l2.P]; exact hP
    have P4n : ∀ a, a ≠ A → g1.P a = g4.P a := fun a ha => by rw [l4.P, l3.P, l2.P]; exact hPn a ha
    have S4 : g'.le g4 := (l2.trans l3).trans l4
    cases b with
    | false =>
      rw [if_neg Bool.false_ne_true] at p4 ⊢
      exact ⟨g4, M4, acc, vs, S.trans S4.sub, P4, P4n, R4, rp.gro S4.sub, p4⟩
    | true =>
      rw [if_pos rfl] at p4 ⊢
      intro s H0 c cl fp
      refine (hk g4 s H0 c cl fp).run _ ⟨G.le.refl g4, R4, R3.e.mono l4⟩ ((post_bnd.mp p4).imp fun y M5 p5 v H5 g5 l5 R5 r5 => ?_)
      intro s' H0' c' cl' fp'
      refine (hv g5 s' H0' c' cl' fp').run _ ⟨G.le.refl g5, R5.h, R5.e⟩ ((post_bnd.mp p5).imp fun z M6 p6 v2 H6 g6 l6 R6 r6 => ?_)
      obtain ⟨k, ek, p7⟩ := keyK_post p6
      have P6 : g6.P A = some (.dK vs) := by rw [l6.P, l5.P]; exact P4
      have S6 := S4.trans (l5.trans l6)
      have rp6 := rp.gro S6.sub
      obtain ⟨hz, p8⟩ := post_chk.mp p7
      have B6 : g6.sub (g6.bld A (.dK (putK vs k v2))) := ⟨⟨[], by simp [G.bld]⟩, fun _ _ q => q⟩
      refine ⟨vs, k, key_rep r5 ek, (R6.h.prt _ _ P6).1, by rw [rp.length]; exact hz, g6.bld A (.dK (putK vs k v2)), M6, putG acc k z, putK vs k v2, (S.trans S6.sub).trans B6, upd_same, fun a ha => ?_, R6.h.rebuild P6, (rp6.put k r6).gro B6, p8⟩
      show g1.P a = upd g6.P A _ a
      rw [upd_ne ha, l6.P, l5.P]
      exact P4n a ha
  · rintro H' ⟨g', M', acc, vs, S, hP, hPn, Rh, rp, p'⟩
    rw [List.drop_length] at p'
    obtain ⟨_, p2⟩ := okM_post p'
    exact p2 A H' g1 g' vs l1 R1.e R1.b S hP gP gF hPn Rh rp
/-- what becomes of the dict: it stays, or it will change -/
structure FdOk (C : DX) (fr : List (Key × D) → Py D) : Prop where
  run : ∀ {g : G} {ρ : DEnv} {σ : St} {Q : VK} {fs : List (Key × D)} {M' : Store}, Post (fr fs M') (QV C g ρ σ Q) (C.We ρ) → EndDc C ρ g σ Q fs M'
def fdF : List (Key × D) → Py D := fun fs => Py.ret (.dk fs)
def fdN : List (Key × D) → Py D := fun fs => alloc (.dk fs)
theorem fd_f : FdOk C fdF := by
  constructor
  intro g ρ σ Q fs M' p A H' g1 g' vs l1 e1 b1 S hP gP gF hPn Rh rp
  obtain ⟨L, S2⟩ := le_stay (o := .dK vs) S (Rh.prt _ _ hP).2
  have kq := rp.gro S2
  exact p _ H' _ (l1.trans L) ⟨b1.trans L, Rh.built hP gP hPn, e1.mono L⟩ (.dk upd_same kq.reps.1 kq.reps.2)
theorem fd_n : FdOk C fdN := by
  constructor
  intro g ρ σ Q fs M' p A H' g1 g' vs l1 e1 b1 S hP gP gF hPn Rh rp
  obtain ⟨L, S2⟩ := le_live (D := A) S
  exact p _ H' _ (l1.trans L) ⟨b1.trans L, Rh.builtL hP gP hPn ⟨vs, (Rh.prt _ _ hP).1, rp.reps⟩, e1.mono L⟩ (loc_live Rh)
def eDc (fr : List (Key × D) → Py D) (dc : DEnv → Py (List (Key × D))) : DEnv → Py D := fun ρ => Py.bnd (dc ρ) fr
theorem de_dc {fr : List (Key × D) → Py D} {vs : List Nat} (hfr : FdOk C fr) (hc : C.X.calm = true) (hN : C.X.N.Nodup) (hi : DI C tg iter it) (ok : BlkOk C.X.N C.X.env.scope scope own) (hg : ∀ B s H c cl fp, DG (C.blk scope B s H c cl fp) vs tg ft t)
    (ht : DTU C scope ifs tt u) (hk : ∀ B s H c cl fp, DE (C.blk scope B s H c cl fp) ke fk) (hv : ∀ B s H c cl fp, DE (C.blk scope B s H c cl fp) ve fv) (hvs : own.map (·.2) = vs := by rfl) (hs : ∀ x, foldedSetIterable iter C.X.env x = pure x := by intro _; rfl) :
    DE C (.DictComp ke ve [⟨tg, iter, ifs, 0⟩] scope pos) (eDc fr (dcAll vs it ft tt fk fv)) := by
  subst hvs
  obtain ⟨wi, pi, hwi⟩ := hi.run
  refine ⟨fun {g ρ M σ H} Q R p => ?_⟩
  refine wpe (pe_dc hc hN pi ok (fun s H c cl fp => (hg g s H c cl fp).pg) ht.pt (fun s H c cl fp => ⟨fun pins s' σ' H' Q' I h => h s H c cl fp pins s' I⟩) (fun s H c cl fp => ⟨fun pins s' σ' H' Q' I h => h s H c cl fp pins s' I⟩) hs)
    (dc_run hi hg ht hk hv hwi R ((post_bnd.mp p).imp fun fs M' q => hfr.run q))
end
end L3
set_option Elab.async false
set_option linter.all false
set_option maxRecDepth 100000
set_option maxHeartbeats 4000000
set_option autoImplicit false
/-! sorted of ints, of a dict's keys, at any length; max, min of a list; range by steps -/
namespace L3
open PySem PySem.Spec L2
open PyProof.Rows hiding St
section
variable {X : Cx}
def rSortDI : List V → Hp → VK → Prop := fun xs H Q => ∃ (a : Addr) (kvs : List (Key × V)) (ks : List Int), xs = [V.ref a] ∧ Rd H a (.dK kvs) ∧ kvs.map (·.1) = ks.map Sum.inl ∧
  ∀ (ys : List Int) (p : Addr), ys.Perm ks → ys.Pairwise (· ≤ ·) → H p = none → Q (.ref p) (upd H p (.lst (ys.map V.int)))
theorem cr_sortDI (calm : X.calm = true) : CallR X (.builtin "sorted") rSortDI := by
  intro pins s σ H args us Q I rargs ⟨a, kvs, ks, eargs, hd, hks, q⟩
  subst eargs
  obtain ⟨u, eu, ru⟩ := vals1 rargs
  subst eu
  obtain rfl : u = Value.ref a := ru
  obtain ⟨zk, notMods, ws, rel, dd⟩ := dk_rd I.hok hd
  obtain ⟨epoch, hat⟩ := dd.dictAt
  have keysW : ws.map (·.1) = ks.map Sum.inl := rel.keys.symm.trans hks
  have lenW : ws.length = ks.length := by simpa using congrArg List.length keysW
  have fitW : ws.length ≤ sizeLine := by rw [← rel.length]; exact zk
  refine Calls.call_function_entry PyProof.Rows.kind_sorted PyProof.Rows.plain_sorted PyProof.Rows.entry_sorted (PyProof.Rows.args_sorted1 _) ?_
  unfold Builtin.«sorted»
  refine wpAny_bind (m := checkCount "sorted" 1 1 _) (wpAny_pure ?_)
  refine wpAny_bind (PySem.W.kdu_collect (A := X.A.in1) (PySem.W.kdl_dict (knd := mixKind X.prog X.w) (kvs := ws) (ep := epoch) notMods) (I.ok.hd calm) hat fitW fun hp tk got keep hgot => ?_)
  have lenG : got.toList.length = ks.length := by rw [Array.length_toList, hgot.1, lenW]
  have allI : IntsAre got.toList ks := ints_each lenG fun j v ev => by
    obtain ⟨k, x, ex, kx⟩ := hgot.2 j v (by rw [← Array.getElem?_toList]; exact ev)
    have at_ : (ws.map (·.1))[j]? = some k := by rw [List.getElem?_map, ex]; rfl
    rw [keysW, List.getElem?_map] at at_
    obtain ⟨y, ey, eyk⟩ := Option.map_eq_some_iff.mp at_
    subst eyk
    rcases keyIs_shape (show keyIs (Sum.inl y) v = true from kx) with ⟨i, t, ek, ev⟩ | ⟨z, t, ek, ev⟩
    · cases ek; exact ⟨y, t, ey, ev⟩
    · cases ek
  have fitG : got.toList.length ≤ sizeLine := by rw [lenG, ← lenW]; exact fitW
  have I1 : Inv X pins σ H { s with heap := hp, toks := tk } := I.kept keep
  refine wpAny_bind (wpAny_newList ?_ fitG)
  have laid : (hp.push (seqObj "list" got.toList.toArray 0)).get? hp.objs.size = some (seqObj "list" got.toList.toArray 0) := Heap.get?_push_size _ rfl
  show wpAny _ _ _ _ _ { s with heap := hp.push (seqObj "list" got.toList.toArray 0), toks := tk }
  refine wpAny_bind (wpAny_holding (wpAny_call_entry PyProof.Rows.slot_list_sort ⟨_, laid, rfl⟩ PyProof.Rows.entry_list_sort
    (SrtO.list_sort_ord (s := { s with heap := hp.push (seqObj "list" got.toList.toArray 0), toks := tk }) SrtO.swo_int laid fitG (fun two => SrtO.ints_sortable allI two) fun out up st => ⟨Value.none, rfl, ?_⟩) (PyProof.Rows.args_list_sort _)))
  obtain ⟨isI, perm, asc⟩ := SrtO.ints_out allI up st
  obtain ⟨e2, he2⟩ := PyProof.Rows.sortedHeap_at (vs := got.toList) (out := out.toArray) laid
  have fitO : ((out.map SrtO.iv).map V.int).length ≤ sizeLine := by
    rw [List.length_map, perm.length_eq, ← lenW]
    exact fitW
  refine wpAny_pure ⟨_, rfl, .ref hp.objs.size, upd H hp.objs.size (.lst ((out.map SrtO.iv).map V.int)), I1.laid (t' := tk) (fun b w ew => ?_) (Nat.le_refl _)
    (show ObjOk X.prog X.w _ _ _ (.lst ((out.map SrtO.iv).map V.int)) from ⟨fitO, out, e2, vals_of_ints isI, he2⟩), rfl, q _ _ perm asc (I1.hok.fresh (Nat.le_refl _))⟩
  have lt : b < hp.objs.size := Heap.lt_size ew
  rw [PyProof.Rows.sortedHeap_old (Nat.ne_of_lt lt) (by rw [Heap.size_push]; exact Nat.lt_succ_of_lt lt)]
  exact Heap.get?_push_of_some _ ew
end
/-! ### on data -/
/-- in order -/
def sortL (ns : List Int) : List Int := ns.mergeSort fun a b => decide (a ≤ b)
theorem sortL_perm (ns : List Int) : (sortL ns).Perm ns := List.mergeSort_perm ns _
theorem sortL_asc (ns : List Int) : (sortL ns).Pairwise (· ≤ ·) := by
  have h := List.pairwise_mergeSort (le := fun a b : Int => decide (a ≤ b)) (fun a b c h1 h2 => by simp at h1 h2 ⊢; omega) (fun a b => by simp; omega) ns
  exact h.imp fun {a b} h => by simpa using h
theorem sortL_eq {ns ys : List Int} (p : ys.Perm ns) (a : ys.Pairwise (· ≤ ·)) : ys = sortL ns :=
  List.Perm.eq_of_pairwise (le := (· ≤ ·)) (fun x y _ _ h1 h2 => Int.le_antisymm h1 h2) a (sortL_asc ns) (p.trans (sortL_perm ns).symm)
def intsOf : List D → Option (List Int)
  | [] => some []
  | .int i :: r => (intsOf r).map fun ns => i :: ns
  | _ :: _ => none
theorem intsOf_eq : ∀ {ds : List D} {ns : List Int}, intsOf ds = some ns → ds = ns.map D.int
  | [], _, e => by cases e; rfl
  | d :: r, ns, e => by
    cases d with
    | int i =>
      obtain ⟨ms, e2, e3⟩ := Option.map_eq_some_iff.mp (show (intsOf r).map _ = some ns from e)
      subst e3
      rw [List.map_cons, ← intsOf_eq e2]
    | _ => cases e
theorem intsOf_map : ∀ ns : List Int, intsOf (ns.map D.int) = some ns
  | [] => rfl
  | n :: r => by
    show (intsOf (r.map D.int)).map _ = _
    rw [intsOf_map r]; rfl
theorem reps_ofInts {K : PySem.W.Frag} {g : G} : ∀ {vs : List V} {ns : List Int}, Reps K g vs (ns.map D.int) → vs = ns.map V.int
  | _, [], .nil => rfl
  | _, n :: r, .cons a b => by rw [List.map_cons, ← reps_ofInts b, rep_int a]
theorem reps_mkInts {K : PySem.W.Frag} {g : G} : ∀ ns : List Int, Reps K g (ns.map V.int) (ns.map D.int)
  | [] => .nil
  | n :: r => .cons (.int n) (reps_mkInts r)
def keyInts : List Key → Option (List Int)
  | [] => some []
  | .inl i :: r => (keyInts r).map fun ns => i :: ns
  | _ :: _ => none
theorem keyInts_eq : ∀ {ks : List Key} {ns : List Int}, keyInts ks = some ns → ks = ns.map Sum.inl
  | [], _, e => by cases e; rfl
  | k :: r, ns, e => by
    cases k with
    | inl i =>
      obtain ⟨ms, e2, e3⟩ := Option.map_eq_some_iff.mp (show (keyInts r).map _ = some ns from e)
      subst e3
      rw [List.map_cons, ← keyInts_eq e2]
    | inr i => cases e
def dkeysM (M : Store) (d : D) : Option (List Key) := match d with
  | .dk fs => some (fs.map (·.1))
  | .loc n => match M[n]? with
    | some (some (.dk fs)) => some (fs.map (·.1))
    | _ => none
  | _ => none
theorem dkeys_rep {K : PySem.W.Frag} {g : G} {M : Store} {H : Hp} {v : V} {d : D} {ks : List Key} (R : RelH K g M H) (r : Rep K g v d) (e : dkeysM M d = some ks) : ∃ a kvs, v = .ref a ∧ Rd H a (.dK kvs) ∧ kvs.map (·.1) = ks := by
  cases r with
  | dk s t z => cases e; exact ⟨_, _, rfl, .of (R.frz _ _ s), z⟩
  | @loc n a e1 =>
    have e' : (match M[n]? with | some (some (.dk fs)) => some (fs.map (·.1)) | _ => none) = some ks := e
    split at e'
    · rename_i fs h
      cases e'
      obtain ⟨a', e2, _, vs, e4, t, z⟩ := R.liv n _ h
      rw [e1] at e2; cases e2
      exact ⟨_, vs, rfl, .of e4, z⟩
    · cases e'
  | _ => cases e
/-- a new list, one that stays or one that will change -/
structure FlOk (C : DX) (fr : List D → Py D) : Prop where
  run : ∀ {g : G} {ρ : DEnv} {M : Store} {σ : St} {H : Hp} {Q : VK} {p : Addr} {vs : List V} {ds : List D}, Rl C g ρ M σ H → H p = none → Reps C.X.K g vs ds → Post (fr ds M) (QV C g ρ σ Q) (C.We ρ) → Q (.ref p) (upd H p (.lst vs))
theorem fl_f {C : DX} : FlOk C frF := ⟨fun {g ρ M σ H Q p vs ds} R hp r q => QV.lay q R hp (rep_lst_new r (R.h.fnone hp))⟩
theorem fl_n {C : DX} : FlOk C frN := ⟨fun {g ρ M σ H Q p vs ds} R hp r q => QV.make q R hp ⟨vs, upd_same, r.mono G.le_more⟩⟩
def sortK (fr : List D → Py D) : Option (List Int) → Py D
  | some ns => fr ((sortL ns).map D.int)
  | none => Py.bad
/-- sorted(d): a list of ints, a dict of ints -/
def sortD (fr : List D → Py D) (d : D) : Py D := fun M => match dkeysM M d with
  | some ks => sortK fr (keyInts ks) M
  | none => Py.bnd (litems d) (fun ds => sortK fr (intsOf ds)) M
theorem sortK_post {fr : List D → Py D} {o : Option (List Int)} {M : Store} {q : D → Store → Prop} {E : Exn → Store → Prop} (p : Post (sortK fr o M) q E) : ∃ ns, o = some ns ∧ Post (fr ((sortL ns).map D.int) M) q E := by
  cases o with
  | none => exact p.elim
  | some ns => exact ⟨ns, rfl, p⟩
section
variable {C : DX}
theorem call_or {X : Cx} {f : Value} {r r' : List V → Hp → VK → Prop} (h : CallR X f r) (h' : CallR X f r') : CallR X f (fun xs H Q => r xs H Q ∨ r' xs H Q) := by
  intro pins s σ H xs us Q I rv q
  rcases q with q | q
  · exact h pins s σ H xs us Q I rv q
  · exact h' pins s σ H xs us Q I rv q
theorem dc_sort {fr : List D → Py D} (hf : FlOk C fr) (hc : C.X.calm = true) : DCl C (.builtin "sorted") (one (sortD fr)) := dcl_one (call_or (cr_sortDI hc) cr_sortedI) fun {g ρ M σ H v d} Q R r p => by
  have p0 : Post (sortD fr d M) (QV C g ρ σ Q) (C.We ρ) := p
  unfold sortD at p0
  cases h : dkeysM M d with
  | some ks =>
    rw [h] at p0
    obtain ⟨ns, e, q⟩ := sortK_post p0
    obtain ⟨a, kvs, rfl, hd, ek⟩ := dkeys_rep R.h r h
    refine .inl ⟨a, kvs, ns, rfl, hd, ek.trans (keyInts_eq e), fun ys p perm asc hp => ?_⟩
    rw [sortL_eq perm asc]
    exact hf.run R hp (reps_mkInts _) q
  | none =>
    rw [h] at p0
    obtain ⟨a, vs, ds, rfl, hs, t, q1⟩ := litems_post R.h r (post_bnd.mp p0)
    obtain ⟨ns, e, q⟩ := sortK_post q1
    rw [intsOf_eq e] at t
    have ev := reps_ofInts t
    subst ev
    refine .inr ⟨a, ns, rfl, hs, fun ys p perm asc hp => ?_⟩
    rw [sortL_eq perm asc]
    exact hf.run R hp (reps_mkInts _) q
/-- max of a list -/
def foldK (f : List Int → Option Int) : Option (List Int) → Py D
  | some ns => match f ns with
    | some m => Py.ret (.int m)
    | none => Py.bad
  | none => Py.bad
theorem foldK_post {f : List Int → Option Int} {o : Option (List Int)} {M : Store} {q : D → Store → Prop} {E : Exn → Store → Prop} (p : Post (foldK f o M) q E) : ∃ ns m, o = some ns ∧ f ns = some m ∧ q (.int m) M := by
  cases o with
  | none => exact p.elim
  | some ns =>
    have p' : Post ((match f ns with | some m => Py.ret (.int m) | none => Py.bad : Py D) M) q E := p
    cases h : f ns with
    | none => rw [h] at p'; exact p'.elim
    | some m => rw [h] at p'; exact ⟨ns, m, rfl, h, p'⟩
def maxL : List Int → Option Int
  | [] => none
  | n :: r => some (r.foldl (fun a b => if a < b then b else a) n)
def minL : List Int → Option Int
  | [] => none
  | n :: r => some (r.foldl (fun a b => if b < a then b else a) n)
theorem max_fold : ∀ (r : List Int) (n : Int), (r.foldl (fun a b => if a < b then b else a) n) ∈ n :: r ∧ ∀ y ∈ n :: r, y ≤ r.foldl (fun a b => if a < b then b else a) n
  | [], n => ⟨by simp, by simp⟩
  | b :: r, n => by
    rw [List.foldl_cons]
    obtain ⟨h1, h2⟩ := max_fold r (if n < b then b else n)
    have hb := h2 _ (List.mem_cons_self ..)
    refine ⟨?_, fun y hy => ?_⟩
    · rcases List.mem_cons.mp h1 with h | h
      · rw [h]; split <;> simp
      · exact List.mem_cons_of_mem _ (List.mem_cons_of_mem _ h)
    · rcases List.mem_cons.mp hy with rfl | hy
      · exact Int.le_trans (by split <;> omega) hb
      · rcases List.mem_cons.mp hy with rfl | hy
        · exact Int.le_trans (by split <;> omega) hb
        · exact h2 y (List.mem_cons_of_mem _ hy)
theorem min_fold : ∀ (r : List Int) (n : Int), (r.foldl (fun a b => if b < a then b else a) n) ∈ n :: r ∧ ∀ y ∈ n :: r, r.foldl (fun a b => if b < a then b else a) n ≤ y
  | [], n => ⟨by simp, by simp⟩
  | b :: r, n => by
    rw [List.foldl_cons]
    obtain ⟨h1, h2⟩ := min_fold r (if b < n then b else n)
    have hb := h2 _ (List.mem_cons_self ..)
    refine ⟨?_, fun y hy => ?_⟩
    · rcases List.mem_cons.mp h1 with h | h
      · rw [h]; split <;> simp
      · exact List.mem_cons_of_mem _ (List.mem_cons_of_mem _ h)
    · rcases List.mem_cons.mp hy with rfl | hy
      · exact Int.le_trans hb (by split <;> omega)
      · rcases List.mem_cons.mp hy with rfl | hy
        · exact Int.le_trans hb (by split <;> omega)
        · exact h2 y (List.mem_cons_of_mem _ hy)
theorem maxL_spec {ns : List Int} {m : Int} (h : maxL ns = some m) : m ∈ ns ∧ ∀ y ∈ ns, y ≤ m := by
  cases ns with
  | nil => cases h
  | cons n r => cases h; exact max_fold r n
theorem minL_spec {ns : List Int} {m : Int} (h : minL ns = some m) : m ∈ ns ∧ ∀ y ∈ ns, m ≤ y := by
  cases ns with
  | nil => cases h
  | cons n r => cases h; exact min_fold r n
def maxLD (d : D) : Py D := Py.bnd (litems d) fun ds => foldK maxL (intsOf ds)
def minLD (d : D) : Py D := Py.bnd (litems d) fun ds => foldK minL (intsOf ds)
theorem dc_maxL (hc : C.X.calm = true) : DCl C (.builtin "max") (one maxLD) := dcl_one (cr_max hc) fun {g ρ M σ H v d} Q R r p => by
  obtain ⟨a, vs, ds, rfl, hs, t, q1⟩ := litems_post R.h r (post_bnd.mp p)
  obtain ⟨ns, m, e, e2, q⟩ := foldK_post q1
  rw [intsOf_eq e] at t
  have ev := reps_ofInts t
  subst ev
  obtain ⟨h1, h2⟩ := maxL_spec e2
  refine ⟨a, ns, rfl, hs, List.length_pos_of_mem h1, fun m' h3 h4 => ?_⟩
  have : m' = m := Int.le_antisymm (h2 _ h3) (h4 _ h1)
  rw [this]
  exact QV.here q R (.int _)
theorem dc_minL (hc : C.X.calm = true) : DCl C (.builtin "min") (one minLD) := dcl_one (cr_min hc) fun {g ρ M σ H v d} Q R r p => by
  obtain ⟨a, vs, ds, rfl, hs, t, q1⟩ := litems_post R.h r (post_bnd.mp p)
  obtain ⟨ns, m, e, e2, q⟩ := foldK_post q1
  rw [intsOf_eq e] at t
  have ev := reps_ofInts t
  subst ev
  obtain ⟨h1, h2⟩ := minL_spec e2
  refine ⟨a, ns, rfl, hs, List.length_pos_of_mem h1, fun m' h3 h4 => ?_⟩
  have : m' = m := Int.le_antisymm (h4 _ h1) (h2 _ h3)
  rw [this]
  exact QV.here q R (.int _)
def sumLD (d : D) : Py D := Py.bnd (litems d) fun ds => foldK (fun ns => some ns.sum) (intsOf ds)
theorem dc_sumL (hc : C.X.calm = true) : DCl C (.builtin "sum") (one sumLD) := dcl_one (cr_sum hc) fun {g ρ M σ H v d} Q R r p => by
  obtain ⟨a, vs, ds, rfl, hs, t, q1⟩ := litems_post R.h r (post_bnd.mp p)
  obtain ⟨ns, m, e, e2, q⟩ := foldK_post q1
  rw [intsOf_eq e] at t
  have ev := reps_ofInts t
  subst ev
  cases e2
  exact ⟨a, ns, rfl, hs, QV.here q R (.int _)⟩
/-! ### range(a, b, -1) -/
def rngDn (i j : Int) : List D := (List.range (i - j).toNat).map fun k => .int (i - (k : Nat))
theorem rngDn_len {i j : Int} : (rngDn i j).length = (i - j).toNat := by unfold rngDn; simp
theorem rngDn_get {i j : Int} {k : Nat} (h : k < (i - j).toNat) : (rngDn i j)[k]? = some (.int (i - (k : Nat))) := by
  unfold rngDn
  rw [List.getElem?_map, List.getElem?_range h]
  rfl
def rngW3 : List D → Py Wk
  | [.int i, .int j, .int c] => Py.chk (-(2 ^ 62) ≤ i ∧ i < 2 ^ 62 ∧ -(2 ^ 62) ≤ j ∧ j < 2 ^ 62 ∧ c = -1) (Py.ret ⟨rngDn i j, fun _ => True⟩)
  | _ => Py.bad
theorem rngW3_post {ds : List D} {M : Store} {q : Wk → Store → Prop} {E : Exn → Store → Prop} (p : Post (rngW3 ds M) q E) : ∃ i j, ds = [.int i, .int j, .int (-1)] ∧ (-(2 ^ 62) ≤ i ∧ i < 2 ^ 62 ∧ -(2 ^ 62) ≤ j ∧ j < 2 ^ 62) ∧ q ⟨rngDn i j, fun _ => True⟩ M := by
  unfold rngW3 at p
  split at p
  · rename_i i j c
    obtain ⟨⟨h1, h2, h3, h4, rfl⟩, q⟩ := post_chk.mp p
    exact ⟨i, j, rfl, ⟨h1, h2, h3, h4⟩, q⟩
  · exact p.elim
def iRng3D (ff : DEnv → Py (List D)) : DEnv → Py Wk := fun ρ => Py.bnd (ff ρ) rngW3
theorem walkD_rngDn {K : PySem.W.Frag} {g : G} {i j : Int} {ok : Store → Prop} : WalkD K g ⟨rngDn i j, ok⟩ (Itc i (-1) (i - j).toNat) (fun _ => True) (fun k H x H' => k < (i - j).toNat ∧ H' = H ∧ x = .int (i + (k : Nat) * (-1))) where
  wk := by
    show Walk _ (rngDn i j).length _ _
    rw [rngDn_len]
    exact ⟨fun _ _ hi _ => hi, fun _ _ => Nat.le_refl _, fun _ _ _ _ hi _ y => ⟨hi, y⟩⟩
  ok := fun _ _ _ => trivial
  it := fun {g' M H H' k x} l R o y => by
    obtain ⟨hk, rfl, rfl⟩ := y
    refine ⟨_, g', rngDn_get hk, G.le.refl g', R, ?_⟩
    rw [show i + (k : Nat) * (-1 : Int) = i - (k : Nat) by omega]
    exact .int _
theorem di_rng3 {tg a b c : Expr} {ff : DEnv → Py (List D)} {p pos : Pos} (hm : C.X.mg "range" = none) (ha : DA C [a, b, c] ff) (hg : Gl C.X "range" := by rfl) (hs : starEach [a, b, c] C.X.env = (false, eval a C.X.env) :: starEach [b, c] C.X.env := by rfl) (hpl : (backTo pos (starEach [b, c] C.X.env)).any (·.1) = false := by rfl) :
    DI C tg (.Call (.Name "range" p) [a, b, c] [] pos) (iRng3D ff) :=
  ⟨_, pi_range3 hg hm self_a hs hpl, fun {g ρ M σ H} R Rr p => by
    refine ha.then_ Rr p fun vs ds M1 H1 g1 l1 R1 r1 p1 => ?_
    obtain ⟨i, j, rfl, ⟨b1, b2, b3, b4⟩, q⟩ := rngW3_post p1
    cases r1 with
    | cons x1 t1 => cases t1 with
      | cons x2 t2 => cases t2 with
        | cons x3 t3 =>
          cases t3
          exact ⟨i, j, -1, _, by rw [rep_int x1, rep_int x2, rep_int x3], RgC.neg b1 b2 b3 b4, q _ H1 g1 _ _ l1 R1 walkD_rngDn⟩⟩
end
end L3
set_option Elab.async false
set_option linter.all false
set_option maxRecDepth 100000
set_option maxHeartbeats 4000000
set_option autoImplicit false
/-! instances of own classes: made, read, stored, their methods -/
namespace L3
open PySem PySem.Spec L2
open PyProof.Rows hiding St
/-- the class named C has plain fields, of these names -/
structure ClsF (K : PySem.W.Frag) (C : Str) (fs : List Str) : Prop where
  c : Cls K (He.ga K C)
  n : ∀ f ∈ fs, NoAttr K (He.ga K C) f
section
variable {K : PySem.W.Frag} {g g' : G}
theorem KQ.lookup {f : Str} : ∀ {vs : List (Str × V)} {fs : List (Str × D)}, KQ K g vs fs → RO K g (vs.lookup f) (fs.lookup f)
  | _, _, .nil => True.intro
  | _, _, .cons (k := k) r t => by
    rw [List.lookup_cons, List.lookup_cons]
    by_cases e : f == k
    · rw [e]; exact r
    · have e' : (f == k) = false := by simpa using e
      rw [e']; exact KQ.lookup t
/-- a field of an instance -/
def fldM (M : Store) (f : Str) (Cs : List Str) : D → Option D
  | .ins C fs => if C ∈ Cs then fs.lookup f else none
  | .loc n => match M[n]? with
    | some (some (.ins C fs)) => if C ∈ Cs then fs.lookup f else none
    | _ => none
  | _ => none
theorem fld_rep {M : Store} {H : Hp} {v : V} {x d : D} {f : Str} {Cs : List Str} (R : RelH K g M H) (rx : Rep K g v x) (e : fldM M f Cs x = some d) : ∃ a C dx fs w, C ∈ Cs ∧ v = .ref a ∧ H a = some (.ins (He.ga K C) dx fs) ∧ fs.lookup f = some w ∧ Rep K g w d := by
  have fin : ∀ {C : Str} {fs : List (Str × D)} {vs : List (Str × V)} {a dx : Addr}, H a = some (.ins (He.ga K C) dx vs) → KQ K g vs fs → (if C ∈ Cs then fs.lookup f else none) = some d → ∃ a' C dx fs w, C ∈ Cs ∧ V.ref a = .ref a' ∧ H a' = some (.ins (He.ga K C) dx fs) ∧ fs.lookup f = some w ∧ Rep K g w d := by
    intro C fs vs a dx hH kq h
    by_cases hc : C ∈ Cs
    · rw [if_pos hc] at h
      have ro := KQ.lookup (f := f) kq
      rw [h] at ro
      cases hv : vs.lookup f with
      | none => rw [hv] at ro; exact ro.elim
      | some w => rw [hv] at ro; exact ⟨a, C, dx, vs, w, hc, rfl, hH, hv, ro⟩
    · rw [if_neg hc] at h; cases h
  cases rx with
  | ins s t z => exact fin (R.frz _ _ s) (KQ.of t z) e
  | @loc n a e1 =>
    have e' : (match M[n]? with | some (some (.ins C fs)) => (if C ∈ Cs then fs.lookup f else none) | _ => none) = some d := e
    split at e'
    · rename_i C fs h
      obtain ⟨a', e2, _, dx, vs, e4, t, z⟩ := R.liv n _ h
      rw [e1] at e2; cases e2
      exact fin e4 (KQ.of t z) e'
    · cases e'
  | _ => cases e
end
/-- o.f -/
def fldD (f : Str) (Cs : List Str) (x : D) : Py D := fun M => match fldM M f Cs x with
  | some d => .ok d M
  | none => .bad
def eFld (f : Str) (Cs : List Str) (fo : DEnv → Py D) : DEnv → Py D := fun ρ => Py.bnd (fo ρ) (fldD f Cs)
section
variable {C : DX} {e : Expr} {f : DEnv → Py D} {pos : Pos}
theorem de_fld {n : Str} {Cs : List Str} (hC : ∀ c ∈ Cs, Cls C.X.K (He.ga C.X.K c) ∧ NoAttr C.X.K (He.ga C.X.K c) n) (h : DE C e f) (hb : attributeBase e n C.X.env (eval e C.X.env) = eval e C.X.env := by rfl) : DE C (.Attribute e n pos) (eFld n Cs f) := ⟨fun {g ρ M σ H} Q R p => by
  refine wpe (pe_fld self_e hb) (h.then_ R p fun v d M1 H1 g1 l1 R1 r1 p1 => ?_)
  unfold fldD at p1
  cases hd : fldM M1 n Cs d with
  | none => rw [hd] at p1; exact p1.elim
  | some y =>
    rw [hd] at p1
    obtain ⟨a, c, dx, fs, w, hc, rfl, hH, hw, rw'⟩ := fld_rep R1.h r1 hd
    exact ⟨a, _, dx, fs, w, rfl, hH, (hC c hc).1, (hC c hc).2, hw, QV.here (QV.later (g' := g1) p1 l1) R1 rw'⟩⟩
end
/-! ### a field stored -/
def putFD (f : Str) (d : D) : List (Str × D) → List (Str × D)
  | [] => [(f, d)]
  | (h, x) :: r => if h = f then (h, d) :: r else (h, x) :: putFD f d r
theorem KQ.putF {K : PySem.W.Frag} {g : G} {f : Str} {v : V} {d : D} (r : Rep K g v d) : ∀ {vs : List (Str × V)} {fs : List (Str × D)}, KQ K g vs fs → KQ K g (L2.putF f v vs) (putFD f d fs)
  | _, _, .nil => .cons r .nil
  | _, _, .cons (k := k) r2 t => by
    unfold L2.putF putFD
    by_cases e : k = f
    · rw [if_pos e, if_pos e]; exact .cons r t
    · rw [if_neg e, if_neg e]; exact .cons r2 (KQ.putF r t)
/-- o.f = d -/
def setFldK (n : Nat) (f : Str) (Cs : List Str) (d : D) : Py Unit := fun M => match M[n]? with
  | some (some (.ins C fs)) => if C ∈ Cs ∧ fs.length < 1000 then .ok () (M.set n (some (.ins C (putFD f d fs)))) else .bad
  | _ => .bad
def setFld (f : Str) (Cs : List Str) (d : D) : D → Py Unit
  | .loc n => setFldK n f Cs d
  | _ => Py.bad
theorem setFld_post {K : PySem.W.Frag} {g : G} {M : Store} {H : Hp} {f : Str} {Cs : List Str} {d x : D} {v w : V} {q : Unit → Store → Prop} {E : Exn → Store → Prop} (R : RelH K g M H) (rx : Rep K g v x) (rd : Rep K g w d) (p : Post (setFld f Cs d x M) q E) :
    ∃ a C dx fs M', C ∈ Cs ∧ v = .ref a ∧ H a = some (.ins (He.ga K C) dx fs) ∧ fs.length < 1000 ∧ q () M' ∧ RelH K g M' (upd H a (.ins (He.ga K C) dx (L2.putF f w fs))) := by
  cases x with
  | loc n =>
    cases rx with
    | @loc n a e1 =>
      have p' : Post (setFldK n f Cs d M) q E := p
      unfold setFldK at p'
      split at p'
      · rename_i C fs h
        obtain ⟨a', e2, _, dx, vs, e4, t, z⟩ := R.liv n _ h
        rw [e1] at e2; cases e2
        have kq := KQ.of t z
        by_cases hc : C ∈ Cs ∧ fs.length < 1000
        · rw [if_pos hc] at p'
          exact ⟨a, C, dx, vs, _, hc.1, rfl, e4, by rw [kq.length]; exact hc.2, p', R.put h e1 ⟨dx, _, upd_same, (KQ.putF rd kq).reps⟩⟩
        · rw [if_neg hc] at p'; exact p'.elim
      · exact p'.elim
  | _ => exact p.elim
def sFldD (f : Str) (Cs : List Str) (fo fv : DEnv → Py D) : DEnv → Py Fl := fun ρ => Py.bnd (fv ρ) fun d => Py.bnd (fo ρ) fun x => Py.bnd (setFld f Cs d x) fun _ => Py.ret (.nx ρ)
theorem ds_fld {C : DX} {o value : Expr} {fo fv : DEnv → Py D} {n : Str} {Cs : List Str} {pos pos' : Pos} (hC : ∀ c ∈ Cs, Cls C.X.K (He.ga C.X.K c) ∧ NoAttr C.X.K (He.ga C.X.K c) n) (ho : DE C o fo) (hv : DE C value fv)
    (hs : swapsWith value (some (.Attribute o n pos')) pos.line C.X.env = pure false := by rfl) : DS C (.Assign [.Attribute o n pos'] value pos) (sFldD n Cs fo fv) := ⟨fun {g ρ M σ H} E R p =>
  wps (ps_fld self_e self_e hs) (hv.then_ R p fun v d M1 H1 g1 l1 R1 r1 p1 => ho.then_ R1 p1 fun x o' M2 H2 g2 l2 R2 r2 p2 => by
    obtain ⟨a, c, dx, fs, M', hc, rfl, hH, hl, q, R'⟩ := setFld_post R2.h r2 (r1.mono l2) (post_bnd.mp p2)
    exact ⟨a, _, dx, fs, rfl, hH, (hC c hc).1, (hC c hc).2, hl, q _ _ g2 (l1.trans l2) (R2.next (G.le.refl g2) R')⟩)⟩
/-! ### made -/
theorem RelH.stray {K : PySem.W.Frag} {g : G} {M : Store} {H : Hp} (R : RelH K g M H) {p : Addr} {o : HO} (h : H p = none) : RelH K g M (upd H p o) := by
  refine ⟨fun a u q => ?_, fun a u q => ?_, R.len, fun n x e => ?_, R.inj⟩
  · rw [upd_ne (ne_of_none (R.frz _ _ q) h)]; exact R.frz _ _ q
  · obtain ⟨q1, q2⟩ := R.prt _ _ q
    rw [upd_ne (ne_of_none q1 h)]
    exact ⟨q1, q2⟩
  · obtain ⟨a, e1, e2, x1⟩ := R.liv n x e
    obtain ⟨u, hu⟩ := x1.there
    exact ⟨a, e1, e2, x1.mono ⟨⟨[], by simp⟩, fun _ _ q => q⟩ (upd_ne (ne_of_none hu h))⟩
/-- what an __init__ has made is an instance that stays -/
def mkEnd (C : Str) (n : Nat) : D → Py D
  | .non => fun M => match M[n]? with
    | some (some (.ins C' fs)) => if C' = C then .ok (.ins C fs) (M.set n none) else .bad
    | _ => .bad
  | _ => Py.bad
/-- C(..) -/
def mkD (C : Str) (k : Nat) (m : List D → Py D) (ds : List D) : Py D := fun M => if ds.length + 1 = k then Py.bnd (m (.loc M.length :: ds)) (mkEnd C M.length) (M ++ [some (.ins C [])]) else .bad
/-- the class named C is made by m -/
structure Mkr (P : Program) (w : World) (K : PySem.W.Frag) (mg : Str → Option Value) (base : Heap) (CX : CXT) (k : Nat) (C : Str) (n : Nat) (m : List D → Py D) : Prop where
  ex : ∃ f fd ps, Mk K (He.ga K C) f ∧ FnG P w K mg base CX k f fd ps (spD K n m) ∧ mg C = some (.ref (He.ga K C)) ∧ Binds K fd ps []
theorem mkEnd_post {C : Str} {n : Nat} {d : D} {M : Store} {q : D → Store → Prop} {E : Exn → Store → Prop} (p : Post (mkEnd C n d M) q E) : d = .non ∧ ∃ fs, M[n]? = some (some (.ins C fs)) ∧ q (.ins C fs) (M.set n none) := by
  cases d with
  | non =>
    have p' : Post ((match M[n]? with | some (some (.ins C' fs)) => if C' = C then .ok (.ins C fs) (M.set n none) else .bad | _ => .bad : Out D)) q E := p
    split at p'
    · rename_i C' fs h
      by_cases e : C' = C
      · rw [if_pos e] at p'
        subst e
        exact ⟨rfl, fs, h, p'⟩
      · rw [if_neg e] at p'; exact p'.elim
    · exact p'.elim
  | _ => exact p.elim
end L3
set_option Elab.async false
set_option linter.all false
set_option maxRecDepth 100000
set_option maxHeartbeats 4000000
set_option autoImplicit false
/-! C(..), o.m(..), what they raise wished for at the caller's slots -/
namespace L3
open PySem PySem.Spec L2
open PyProof.Rows hiding St
section
variable {X : Cx} {CX : CXT} {k : Nat} {f A : Addr} {fd : FuncData} {ps : List Str} {sp : Sp} {E : St → XK} {x m : Str} {p pos apos : Pos} {e o : Expr} {es : List Expr} {ta : TE} {t : TA}
theorem making {pins : List (Addr × Obj)} {σ : St} {H : Hp} {s : Shared} {Q : VK} {us : List Value} {vs : List V} (mk : Mk X.K A f) (F : FnG X.prog X.w X.K X.mg X.base CX k f fd ps sp) (room : RoomG (k + 1) X.A) (bind_ : Binds X.K fd ps [])
    (pass : PassesAt CX X σ (E σ)) (J : Inv X pins σ H s) (rel : Vals vs us)
    (wish : ∀ a d, H a = none → H d = none → d ≠ a → sp (.ref a :: vs) (upd (upd H d (.own a)) a (.ins A d [])) (fun v H2 => v = .non ∧ Q (.ref a) H2) (E σ)) :
    wpAny (model X.prog X.w) X.A (call (.ref A) us) (EP X pins σ Q) X.xe s := by
  let d := s.heap.objs.size
  have want := wish (d + 1) d (J.hok.fresh (Nat.le_succ _)) (J.hok.fresh (Nat.le_refl _)) (Nat.ne_of_lt (Nat.lt_succ_self _))
  have J2 := Inv.made (C := A) J
  have rel2 : Vals (V.ref (d + 1) :: vs) (Value.ref (d + 1) :: us) := .cons rfl rel
  have count : (Value.ref (d + 1) :: us).length = ps.length := rel2.length.symm.trans (F.many _ _ _ _ want)
  have bound := bind_ _ (Value.ref (d + 1) :: us) J2.kIn (by rw [List.append_nil]; exact count)
  rw [List.append_nil] at bound
  have ran := F.go _ X.stack _ _ ⟨Value.ref (d + 1) :: us, []⟩ (Value.ref (d + 1) :: us) _ _ (E σ) (room.make A us []) (J2.env0.make A us []) bound rel2 want
  refine wpAny_call (make_map (f := f) J.kIn mk.makes mk.init (beq_iff_eq.mp mk.fn) (codeAny_mono ran fun r s' got => ?_))
  rcases r with e | fl
  · exact pass pins _ _ e s' J2 got
  · rcases fl with _ | _ | _ | u
    all_goals first
      | exact (False.elim got)
      | (obtain ⟨v, H', J3, rv, ev, q3⟩ := J2.after got
         subst ev
         exact ⟨rv, ⟨V.ref (d + 1), H', J3, rfl, q3⟩⟩)
def tMakeS (A : Addr) (sp : Sp) (E : St → XK) (t : TA) : TE := fun σ H Q => t σ H fun vs H1 => ∀ a d, H1 a = none → H1 d = none → d ≠ a → sp (.ref a :: vs) (upd (upd H1 d (.own a)) a (.ins A d [])) (fun v H2 => v = .non ∧ Q (.ref a) H2) (E σ)
theorem pe_makeS (mk : Mk X.K A f) (F : FnG X.prog X.w X.K X.mg X.base CX k f fd ps sp) (room : RoomG (k + 1) X.A) (hg : Gl X x) (hm : X.mg x = some (.ref A)) (bind_ : Binds X.K fd ps []) (pass : ∀ σ, PassesAt CX X σ (E σ))
    (ha : PA X (e :: es) t) (hdb : (x == ("__debug__" : Str)) = false := by decide) (he : starEach (e :: es) X.env = (false, eval e X.env) :: starEach es X.env := by rfl) (hpl : (backTo pos (starEach es X.env)).any (·.1) = false := by rfl) :
    PE X (.Call (.Name x p) (e :: es) [] pos) (tMakeS A sp E t) := by
  refine ⟨fun pins s σ H Q J h => wpAny_Call_Name_kw (ld_glob J hg hm ?_ hdb)⟩
  exact PySem.W.callWith_K (h₀ := X.base) J.ok.mod.kin mk.kp (thn (ha.run pos pins s σ H _ J h) fun us s1 ⟨vs, H1, J1, r, q⟩ => ⟨J1.kIn, making mk F room bind_ (pass σ) J1 r q⟩) he hpl
def tMethS' (A : Addr) (m : Str) (sp : Sp) (E : St → XK) (ta : TE) (t : TA) : TE := fun σ H Q => ta σ H fun x H1 => ∃ a d fs, x = .ref a ∧ H1 a = some (.ins A d fs) ∧ fs.lookup m = none ∧ t σ H1 fun vs H2 => sp (x :: vs) H2 Q (E σ)
theorem pe_methS' {pl : Sem Bool} (ho : PE X o ta) (c : Cls X.K A) (hm : Meth X.K A m f) (F : FnG X.prog X.w X.K X.mg X.base CX k f fd ps sp) (room : RoomG k X.A) (bind_ : Binds X.K fd ps []) (pass : ∀ σ, PassesAt CX X σ (E σ)) (ha : PA X (e :: es) t)
    (hst : starEach (e :: es) X.env = (false, eval e X.env) :: starEach es X.env := by rfl) (hpl : (backTo pos (starEach es X.env)).any (·.1) = false := by rfl)
    (ht : eval (.Call (.Attribute o m apos) (e :: es) [] pos) X.env = (do
      let ov ← eval o X.env
      standAt apos.atName
      let (f, first) ← holding [ov] (getMethod ov m pl)
      callWith pos f first (backTo pos (starEach (e :: es) X.env)) (backToKw pos (keywordEach [] X.env))) := by rfl) :
    PE X (.Call (.Attribute o m apos) (e :: es) [] pos) (tMethS' A m sp E ta t) := by
  refine ⟨fun pins s σ H Q J h => PySem.W.methodCall_KW (pl := pl) (thn (ho.run pins s σ H _ J h) fun u s1 ⟨x, H1, J1, rx, a, d, fs, ex, ea, l, q⟩ => ?_) ht⟩
  subst ex
  obtain rfl : u = Value.ref a := rx
  refine getmeth_ok J1 ea c hm l ?_
  exact PySem.W.callWith_K (first := [.ref a]) (h₀ := X.base) J.ok.mod.kin hm.kp (thn (ha.run pos pins s1 σ H1 _ J1 q) fun us s2 ⟨vs, H2, J2, r, q2⟩ => ⟨J2.kIn, runG (us := .ref a :: us) (xs := .ref a :: vs) F room bind_ (pass σ) J2 (.cons rfl r) q2⟩) hst hpl
end
/-- the methods of a class -/
structure Mth (P : Program) (w : World) (K : PySem.W.Frag) (mg : Str → Option Value) (base : Heap) (CX : CXT) (k : Nat) (C x : Str) (n : Nat) (m : List D → Py D) : Prop where
  ex : ∃ f fd ps, Cls K (He.ga K C) ∧ Meth K (He.ga K C) x f ∧ FnG P w K mg base CX k f fd ps (spD K n m) ∧ Binds K fd ps []
/-- it is an instance of the class, without this field -/
def insOf (M : Store) (C x : Str) : D → Bool
  | .ins C' fs => decide (C' = C) && (fs.lookup x).isNone
  | .loc n => match M[n]? with
    | some (some (.ins C' fs)) => decide (C' = C) && (fs.lookup x).isNone
    | _ => false
  | _ => false
theorem insOf_rep {K : PySem.W.Frag} {g : G} {M : Store} {H : Hp} {v : V} {C x : Str} {d : D} (R : RelH K g M H) (r : Rep K g v d) (h : insOf M C x d = true) : ∃ a dx fs, v = .ref a ∧ H a = some (.ins (He.ga K C) dx fs) ∧ fs.lookup x = none := by
  have fin : ∀ {C' : Str} {fs : List (Str × D)} {vs : List (Str × V)}, KQ K g vs fs → (decide (C' = C) && (fs.lookup x).isNone) = true → C' = C ∧ vs.lookup x = none := by
    intro C' fs vs kq h
    obtain ⟨h1, h2⟩ := Bool.and_eq_true_iff.mp h
    refine ⟨of_decide_eq_true h1, ?_⟩
    have ro := KQ.lookup (f := x) kq
    cases hv : vs.lookup x with
    | none => rfl
    | some w =>
      rw [hv] at ro
      cases hf : fs.lookup x with
      | none => rw [hf] at ro; exact ro.elim
      | some y => rw [hf] at h2; cases h2
  cases r with
  | ins s t z =>
    obtain ⟨rfl, e⟩ := fin (KQ.of t z) h
    exact ⟨_, _, _, rfl, R.frz _ _ s, e⟩
  | @loc n a e1 =>
    have h' : (match M[n]? with | some (some (.ins C' fs)) => decide (C' = C) && (fs.lookup x).isNone | _ => false) = true := h
    split at h'
    · rename_i C' fs hh
      obtain ⟨a', e2, _, dx, vs, e4, t, z⟩ := R.liv n _ hh
      rw [e1] at e2; cases e2
      obtain ⟨rfl, e⟩ := fin (KQ.of t z) h'
      exact ⟨_, dx, vs, rfl, e4, e⟩
    · cases h'
  | _ => cases h
def chkIns (C x : Str) (d : D) : Py Unit := fun M => if insOf M C x d = true then .ok () M else .bad
theorem chkIns_post {C x : Str} {d : D} {M : Store} {q : Unit → Store → Prop} {E : Exn → Store → Prop} (p : Post (chkIns C x d M) q E) : insOf M C x d = true ∧ q () M := by
  unfold chkIns at p
  by_cases h : insOf M C x d = true
  · rw [if_pos h] at p; exact ⟨h, p⟩
  · rw [if_neg h] at p; exact p.elim
/-- o.m(..) -/
def eMeth (C x : Str) (n : Nat) (m : List D → Py D) (fo : DEnv → Py D) (ff : DEnv → Py (List D)) : DEnv → Py D := fun ρ => Py.bnd (fo ρ) fun o => Py.bnd (chkIns C x o) fun _ => Py.bnd (ff ρ) fun ds => nargs n m (o :: ds)
section
variable {C : DX} {CX : CXT} {k n : Nat} {x c : Str} {p pos apos : Pos} {e o : Expr} {es : List Expr} {ff : DEnv → Py (List D)} {fo : DEnv → Py D} {m : List D → Py D}
theorem de_meth (D' : Mth C.X.prog C.X.w C.X.K C.X.mg C.X.base CX k c x n m) (hr : RoomG k C.X.A) (tk : TkD C CX) (ho : DE C o fo) (ha : DA C (e :: es) ff) {pl : Sem Bool}
    (he : starEach (e :: es) C.X.env = (false, eval e C.X.env) :: starEach es C.X.env := by rfl) (hpl : (backTo pos (starEach es C.X.env)).any (·.1) = false := by rfl)
    (ht : eval (.Call (.Attribute o x apos) (e :: es) [] pos) C.X.env = (do
      let ov ← eval o C.X.env
      standAt apos.atName
      let (f, first) ← holding [ov] (getMethod ov x pl)
      callWith pos f first (backTo pos (starEach (e :: es) C.X.env)) (backToKw pos (keywordEach [] C.X.env))) := by rfl) : DE C (.Call (.Attribute o x apos) (e :: es) [] pos) (eMeth c x n m fo ff) := by
  obtain ⟨f, fd, ps, cl, hm, F, hb⟩ := D'.ex
  refine ⟨fun {g ρ M σ H} Q R p => wpe (pe_methS' self_e cl hm F hr hb tk self_a he hpl ht) (ho.then_ R p fun v d M1 H1 g1 l1 R1 r1 p1 => ?_)⟩
  obtain ⟨hi, p2⟩ := chkIns_post (post_bnd.mp p1)
  obtain ⟨a, dx, fs, rfl, hH, hl⟩ := insOf_rep R1.h r1 hi
  refine ⟨a, dx, fs, rfl, hH, hl, ha.then_ R1 p2 fun vs ds M2 H2 g2 l2 R2 r2 p3 => ?_⟩
  obtain ⟨hn, p4⟩ := post_chk.mp p3
  have rr : Reps C.X.K g2 (.ref a :: vs) (d :: ds) := .cons (r1.mono l2) r2
  exact sp_run R2 rr (by rw [rr.length]; exact hn) p4 fun _ _ q => q.later (l1.trans l2)
/-- C(..) -/
theorem de_make (D' : Mkr C.X.prog C.X.w C.X.K C.X.mg C.X.base CX k x n m) (hr : RoomG (k + 1) C.X.A) (tk : TkD C CX) (ha : DA C (e :: es) ff) (hg : Gl C.X x := by rfl) (hdb : (x == ("__debug__" : Str)) = false := by decide)
    (he : starEach (e :: es) C.X.env = (false, eval e C.X.env) :: starEach es C.X.env := by rfl) (hpl : (backTo pos (starEach es C.X.env)).any (·.1) = false := by rfl) : DE C (.Call (.Name x p) (e :: es) [] pos) (eCall (mkD x n m) ff) := by
  obtain ⟨f, fd, ps, mk, F, hm, hb⟩ := D'.ex
  refine ⟨fun {g ρ M σ H} Q R p => wpe (pe_makeS mk F hr hg hm hb tk self_a hdb he hpl) (ha.then_ R p fun vs ds M1 H1 g1 l1 R1 r1 p1 => ?_)⟩
  intro a d na nd ne
  have p2 : Post (mkD x n m ds M1) (QV C g ρ σ Q) (C.We ρ) := p1
  unfold mkD at p2
  by_cases hn : ds.length + 1 = n
  · rw [if_pos hn] at p2
    have na' : (upd H1 d (.own a)) a = none := by rw [upd_ne (Ne.symm ne)]; exact na
    have hl := R1.h.len
    have Rm := (R1.h.stray (o := .own a) nd).made (u := .ins (He.ga C.X.K x) d []) (o := .ins x []) na' ⟨d, [], upd_same, .nil, rfl⟩
    have L : g1.le (g1.more a) := G.le_more
    have rl : Rep C.X.K (g1.more a) (.ref a) (.loc M1.length) := .loc (by
      show (g1.io ++ [a])[M1.length]? = some a
      rw [← hl, List.getElem?_concat_length])
    have rr : Reps C.X.K (g1.more a) (.ref a :: vs) (.loc M1.length :: ds) := .cons rl (r1.mono L)
    refine ⟨by rw [rr.length]; exact hn, _, _, _, Rm, rr, (post_bnd.mp p2).mono (fun d' M2 z v H2 g2 l2 R2 r2 => ?_) fun ex M2 z cc dx H2 g2 l2 R2 xr => ⟨ex, ρ, M2, g2, R1.b.trans (L.trans l2), R2, R1.e.mono (L.trans l2), xr, z⟩⟩
    obtain ⟨rfl, fs, hM, q⟩ := mkEnd_post z
    have ev := rep_non r2
    subst ev
    refine ⟨rfl, ?_⟩
    obtain ⟨a2, ea, _, dx, ws, hH, t, zz⟩ := R2.liv _ _ hM
    have ia : g2.io[M1.length]? = some a := by
      cases rl.mono l2 with
      | loc e1 => exact e1
    rw [ia] at ea; cases ea
    obtain ⟨L3, R3⟩ := R2.freeze hM ia hH
    exact q (.ref a) H2 _ (((l1.trans L).trans l2).trans L3) ⟨R1.b.trans ((L.trans l2).trans L3), R3, R1.e.mono ((L.trans l2).trans L3)⟩ (.ins upd_same (t.mono L3) zz)
  · rw [if_neg hn] at p2; exact p2.elim
end
end L3
set_option Elab.async false
set_option linter.all false
set_option maxRecDepth 100000
set_option maxHeartbeats 4000000
set_option autoImplicit false
/-! == by an own __eq__ -/
namespace L3
open PySem PySem.Spec L2
open PyProof.Rows hiding St
section
variable {X : Cx} {n : Nat} {A f : Addr} {fd : FuncData} {ps : List Str} {sp : Sp}
def rEqI (A : Addr) (sp : Sp) : R2 := fun x y H Q => ∃ a b d e fs gs, x = .ref a ∧ y = .ref b ∧ H a = some (.ins A d fs) ∧ H b = some (.ins A e gs) ∧ sp [x, y] H (fun v H' => (∃ k, v = .bl k) ∧ Q v H') (fun _ _ _ => True)
theorem op_eqI (F : FnG X.prog X.w X.K X.mg X.base CX0 n f fd ps sp) (hm : Meth X.K A "__eq__" f) (room : RoomG n X.A) (bind_ : Binds X.K fd ps []) : OpR X (compareOp .Eq) (rEqI A sp) := by
  intro pins s σ H x y v u Q J rx ry ⟨a, b, d, e, fs, gs, ex, ey, ha, hb, want⟩
  subst ex ey
  obtain rfl : v = Value.ref a := rx
  obtain rfl : u = Value.ref b := ry
  show wpAny (model X.prog X.w) X.A (richCompare .Eq (.ref a) (.ref b)) (EP X pins σ Q) X.xe s
  obtain ⟨_, oa, _⟩ := ins_get J.hok ha
  obtain ⟨_, ob, _⟩ := ins_get J.hok hb
  obtain ⟨_, la, _⟩ := oa.look
  obtain ⟨_, lb, _⟩ := ob.look
  obtain ⟨m, hF⟩ := J.fr
  refine PySem.W.cmp_K (op := .Eq) (tb := .ref A) room.room.units0 hF J.ok.mod.kin la lb.type (by simp [PySem.W.notFirst]) hm.at_ hm.fn ?_
  have two : Vals [V.ref a, V.ref b] [Value.ref a, Value.ref b] := .cons rfl (.cons rfl .nil)
  have count : [Value.ref a, Value.ref b].length = ps.length := two.length.symm.trans (F.many _ _ _ _ want)
  have bound := bind_ s [.ref a, .ref b] J.kIn (by rw [List.append_nil]; exact count)
  rw [List.append_nil] at bound
  refine wpAny_call (codeAny_mono (F.go X.A X.stack s H ⟨[.ref a, .ref b], []⟩ [.ref a, .ref b] [.ref a, .ref b] _ _ room J.env0 bound two want) fun r s' got => ?_)
  rcases r with e | fl
  · exact got.elim
  · rcases fl with _ | _ | _ | w
    all_goals first
      | exact (False.elim got)
      | (obtain ⟨z, H', J', rz, ⟨k, ez⟩, q⟩ := J.after got
         subst ez
         cases rz
         exact ⟨.bl k, H', J', rfl, q⟩)
end
/-- both are instances of the class -/
def insC (M : Store) (C : Str) : D → Bool
  | .ins C' _ => decide (C' = C)
  | .loc n => match M[n]? with
    | some (some (.ins C' _)) => decide (C' = C)
    | _ => false
  | _ => false
theorem insC_rep {K : PySem.W.Frag} {g : G} {M : Store} {H : Hp} {v : V} {C : Str} {d : D} (R : RelH K g M H) (r : Rep K g v d) (h : insC M C d = true) : ∃ a dx fs, v = .ref a ∧ H a = some (.ins (He.ga K C) dx fs) := by
  cases r with
  | ins s t z =>
    have e := of_decide_eq_true (show decide (_ = C) = true from h)
    subst e
    exact ⟨_, _, _, rfl, R.frz _ _ s⟩
  | @loc n a e1 =>
    have h' : (match M[n]? with | some (some (.ins C' _)) => decide (C' = C) | _ => false) = true := h
    split at h'
    · rename_i C' fs hh
      have e := of_decide_eq_true h'
      subst e
      obtain ⟨a', e2, _, dx, vs, e4, t, z⟩ := R.liv n _ hh
      rw [e1] at e2; cases e2
      exact ⟨_, dx, vs, rfl, e4⟩
    · cases h'
  | _ => cases h
def isBl : D → Bool
  | .bl _ => true
  | _ => false
/-- the flag that m tells -/
def flagD (d : D) : Py D := Py.chk (isBl d = true) (Py.ret d)
/-- x == y: instances of C by m, else data -/
def eqC (C : Str) (m : List D → Py D) (x y : D) : Py D := fun M => if insC M C x = true ∧ insC M C y = true then Py.bnd (noX (m [x, y])) flagD M else eqS false x y M
theorem do_eqC {C : DX} {k : Nat} {c : Str} {m : List D → Py D} (D' : Mth C.X.prog C.X.w C.X.K C.X.mg C.X.base L2.CX0 k c "__eq__" 2 m) (hr : RoomG k C.X.A) : DOp C (compareOp .Eq) (eqC c m) := by
  obtain ⟨f, fd, ps, cl, hm, F, hb⟩ := D'.ex
  refine DOp.of ((op_eqI F hm hr hb).or (op_eq.or (op_eqD hr.units))) fun {g ρ M σ H x y dx dy} Q R rx ry p => ?_
  have p' : Post (eqC c m dx dy M) (QV C g ρ σ Q) (C.We ρ) := p
  unfold eqC at p'
  by_cases h : insC M c dx = true ∧ insC M c dy = true
  · rw [if_pos h] at p'
    left
    obtain ⟨a, d, fs, ea, ha⟩ := insC_rep R.h rx h.1
    obtain ⟨b, e, gs, eb, hb⟩ := insC_rep R.h ry h.2
    refine ⟨a, b, d, e, fs, gs, ea, eb, ha, hb, rfl, g, M, [dx, dy], R.h, .cons rx (.cons ry .nil), (noX_post (post_bnd.mp p')).mono (fun d' M' z v H' g' l R' r' => ?_) fun _ _ z => z.elim⟩
    obtain ⟨hf, q⟩ := post_chk.mp z
    cases d' with
    | bl k =>
      have ev := rep_bl r'
      subst ev
      exact ⟨⟨k, rfl⟩, q _ H' g' l (R.next l R') (.bl k)⟩
    | _ => cases hf
  · rw [if_neg h] at p'
    right
    rcases eqS_cases p' with ⟨a, b, rfl, rfl, q⟩ | p2
    · left
      rw [rep_str rx, rep_str ry]
      exact ⟨scal_str, by rw [dec_strV]; exact QV.here q R (.bl _)⟩
    · right
      obtain ⟨a, b, e1, e2, s1, s2, q⟩ := eqP_post p2
      exact ⟨a, b, dpm_of R.h rx e1, dpm_of R.h ry e2, s1, s2, QV.here q R (.bl _)⟩
end L3
set_option Elab.async false
set_option linter.all false
set_option maxRecDepth 100000
set_option maxHeartbeats 4000000
set_option autoImplicit false
/-! isinstance of own classes; a head with more facts -/
namespace L3
open PySem PySem.Spec L2
open PyProof.Rows hiding St
/-- what isinstance asks of a class of its own -/
structure IsC (K : PySem.W.Frag) (C : Str) : Prop where
  c : Cls K (He.ga K C)
  k : ((PySem.W.clsIn K (He.ga K C)).isSome && PySem.W.typeIn K (.ref (He.ga K C)) == some (.type "type")) = true
  a : PySem.W.findIn K (.ref (He.ga K C)) "__class__" = some (some (.builtin "object.__class__"))
  n : PySem.W.specialIn K (.builtin "object.__class__") "__get__" = some (some (.builtin "getset_descriptor.__get__"))
  t : PySem.W.takesIn K (.builtin "object.__class__") = some true
  m : PySem.W.mroIn K (He.ga K C) (.type "object") = some true
theorem sub_own {K : PySem.W.Frag} {A : Addr} {t : String} (h : t ∈ tyNames) : PySem.W.subIn K (.type t) (.ref A) = some false := by
  simp only [tyNames, List.mem_cons, List.not_mem_nil, or_false] at h
  rcases h with rfl | rfl | rfl | rfl | rfl | rfl | rfl <;> rfl
theorem kit_own {K : PySem.W.Frag} {C : Str} (i : IsC K C) {t : String} (h : t ∈ tyNames) : PySem.W.kitOne K (.type t) (.ref (He.ga K C)) = some false := by
  unfold PySem.W.kitOne PySem.W.kitCls
  rw [if_neg (by intro z; cases (eq_of_beq z))]
  dsimp only
  rw [if_pos i.k]
  exact sub_own h
theorem kit_self {K : PySem.W.Frag} {C : Str} : PySem.W.kitOne K (.ref (He.ga K C)) (.ref (He.ga K C)) = some true := by
  unfold PySem.W.kitOne
  rw [if_pos (by simp)]
/-- isinstance(x, C) -/
def isC (C : Str) (d : D) : Py D := fun M => match tyN M d with
  | some _ => .ok (.bl false) M
  | none => if insC M C d = true then .ok (.bl true) M else .bad
theorem isC_post {C : Str} {d : D} {M : Store} {q : D → Store → Prop} {E : Exn → Store → Prop} (p : Post (isC C d M) q E) : (∃ t, tyN M d = some t ∧ q (.bl false) M) ∨ (insC M C d = true ∧ q (.bl true) M) := by
  unfold isC at p
  cases h : tyN M d with
  | some t => rw [h] at p; exact .inl ⟨t, rfl, p⟩
  | none =>
    rw [h] at p
    dsimp only at p
    by_cases hc : insC M C d = true
    · rw [if_pos hc] at p; exact .inr ⟨hc, p⟩
    · rw [if_neg hc] at p; exact p.elim
section
variable {C : DX} {x y : Str} {p2 : Pos} {fa : DEnv → Py D} {a : Expr} {p pos : Pos}
theorem de_isC (i : IsC C.X.K x) (gm : C.X.mg x = some (.ref (He.ga C.X.K x))) (hm : C.X.mg "isinstance" = none) (ha : DE C a fa) (hgx : Gl C.X x := by rfl) (hg : Gl C.X "isinstance" := by rfl) (hdx : (x == ("__debug__" : Str)) = false := by decide)
    (hs : starEach [a, .Name x p2] C.X.env = (false, eval a C.X.env) :: starEach [.Name x p2] C.X.env := by rfl) (hs2 : starEach [.Name x p2] C.X.env = [(false, eval (.Name x p2) C.X.env)] := by rfl) (hpl : (backTo pos (starEach [.Name x p2] C.X.env)).any (·.1) = false := by rfl) :
    DE C (.Call (.Name "isinstance" p) [a, .Name x p2] [] pos) (fun ρ => Py.bnd (fa ρ) (isC x)) := ⟨fun {g ρ M σ H} Q R p => by
  refine wpe (pe_callB call_isi hg hm boot_isinstance (pa_cons self_e (pa_cons (pe_glob (v := .ref (He.ga C.X.K x)) hgx gm rfl hdx) pa_nil hs2) hs) (by decide) (by decide) hs hpl) (ha.then_ R p fun v d M1 H1 g1 l1 R1 r1 p1 => ?_)
  rcases isC_post p1 with ⟨t, ht, q⟩ | ⟨hi, q⟩
  · obtain ⟨ty, hmem⟩ := tyN_ok R1.h r1 ht
    exact ⟨v, .ref (He.ga C.X.K x), .type t, .ref (He.ga C.X.K x), false, rfl, .own _, ty, kit_own i hmem, QV.here (QV.later (g' := g1) q l1) R1 (.bl _)⟩
  · obtain ⟨b, dx, fs, rfl, hH⟩ := insC_rep R1.h r1 hi
    exact ⟨_, .ref (He.ga C.X.K x), .ref (He.ga C.X.K x), .ref (He.ga C.X.K x), true, rfl, .own _, .base (.ins hH i.c i.a i.n i.t i.m), kit_self, QV.here (QV.later (g' := g1) q l1) R1 (.bl _)⟩⟩
end
/-! ### a head with more facts -/
abbrev XF : Type := PySem.W.Frag → Bool
def obsX (ex : List XF) (fa : List He.Fa) (fn : List He.DefD) (K : PySem.W.Frag) : Bool × He.AlD := (ex.all fun f => f K, He.obsD fa fn K)
def obsXG (n : Nat) (ex : List XF) (fa : List He.Fa) (fn : List He.DefD) (g : Addr → Option Obj) : Bool × He.AlD := obsX ex fa fn (He.frG g (He.asD g n))
def hookX (n : Nat) (ex : List XF) (fa : List He.Fa) (fn : List He.DefD) : PySem.W.Hook where
  α := Bool × He.AlD
  obs := fun s => obsXG n ex fa fn s.heap.get?
  val := fun _ => (true, He.valD fn)
  says := fun _ h => ∃ K : PySem.W.Frag, K.In h ∧ obsX ex fa fn K = (true, He.valD fn)
  of := fun _ _ e => ⟨_, He.frG_in, e⟩
  keeps := fun _ _ _ ⟨K, hK, c⟩ k => ⟨K, PySem.W.Frag.In.keeps hK k, c⟩
theorem obsXG_eq {n : Nat} {ex : List XF} {fa : List He.Fa} {fn : List He.DefD} {g : Addr → Option Obj} {s : Shared} (h : ∀ a, g a = s.heap.get? a) : obsXG n ex fa fn g = (hookX n ex fa fn).obs s := by
  have e : g = s.heap.get? := funext h
  rw [e] <;> rfl
theorem obsX_says {ex : List XF} {fa : List He.Fa} {fn : List He.DefD} {K : PySem.W.Frag} (c : obsX ex fa fn K = (true, He.valD fn)) : He.SaysD fa fn K := congrArg (fun z : Bool × He.AlD => z.2) c
theorem obsX_fact {ex : List XF} {fa : List He.Fa} {fn : List He.DefD} {K : PySem.W.Frag} (c : obsX ex fa fn K = (true, He.valD fn)) (i : Nat) {f : XF} (h : ex[i]? = some f := by rfl) : f K = true :=
  List.all_eq_true.mp (show (ex.all fun f => f K) = true from congrArg (fun z : Bool × He.AlD => z.1) c) f (List.mem_of_getElem? h)
/-- the facts of IsC -/
def isCB (C : Str) : XF := fun K => ((PySem.W.clsIn K (He.ga K C)).isSome && PySem.W.typeIn K (.ref (He.ga K C)) == some (.type "type")) && (He.eqO (PySem.W.findIn K (.ref (He.ga K C)) "__class__") (some (some (.builtin "object.__class__"))) &&
  (He.eqO (PySem.W.specialIn K (.builtin "object.__class__") "__get__") (some (some (.builtin "getset_descriptor.__get__"))) && (decide (PySem.W.takesIn K (.builtin "object.__class__") = some true) && decide (PySem.W.mroIn K (He.ga K C) (.type "object") = some true))))
theorem isCB_ok {K : PySem.W.Frag} {C : Str} (c : Cls K (He.ga K C)) (h : isCB C K = true) : IsC K C := by
  obtain ⟨h1, h2⟩ := He.ba h
  obtain ⟨h3, h4⟩ := He.ba h2
  obtain ⟨h5, h6⟩ := He.ba h4
  obtain ⟨h7, h8⟩ := He.ba h6
  exact ⟨c, h1, He.eqO_ok h3, He.eqO_ok h5, of_decide_eq_true h7, of_decide_eq_true h8⟩
end L3
set_option Elab.async false
set_option linter.all false
set_option maxRecDepth 100000
set_option maxHeartbeats 4000000
set_option autoImplicit false
/-! texts; x in y for any y -/
namespace L3
open PySem PySem.Spec L2
open PyProof.Rows hiding St
theorem reps_ofStrs {K : PySem.W.Frag} {g : G} {vs : List V} {ds : List D} {zs : List Str} (r : Reps K g vs ds) (e : strsOf ds = some zs) : vs = zs.map V.str := strsOf_rep r e
theorem reps_mkStrs {K : PySem.W.Frag} {g : G} : ∀ zs : List Str, Reps K g (zs.map V.str) (zs.map D.str)
  | [] => .nil
  | n :: r => .cons (.str n) (reps_mkStrs r)
/-- sep.join(rows) -/
def joinK (a : Str) : Option (List Str) → Py D
  | some ys => Py.chk ((ys.map (·.length)).sum + ys.length * a.length ≤ 16777216) (Py.ret (.str (Txt.join a ys)))
  | none => Py.bad
def joinY (a : Str) (d : D) : Py D := Py.bnd (items d) fun ds => joinK a (strsOf ds)
def joinD (o : D) (ds : List D) : Py D := match o, ds with
  | .str a, [d] => joinY a d
  | _, _ => Py.bad
theorem joinD_post {o : D} {ds : List D} {M : Store} {q : D → Store → Prop} {E : Exn → Store → Prop} (p : Post (joinD o ds M) q E) : ∃ a d, o = .str a ∧ ds = [d] ∧ Post (joinY a d M) q E := by
  cases o with
  | str a =>
    cases ds with
    | nil => exact p.elim
    | cons d r =>
      cases r with
      | nil => exact ⟨a, d, rfl, rfl, p⟩
      | cons _ _ => exact p.elim
  | _ => exact p.elim
theorem joinK_post {a : Str} {o : Option (List Str)} {M : Store} {q : D → Store → Prop} {E : Exn → Store → Prop} (p : Post (joinK a o M) q E) : ∃ ys, o = some ys ∧ (ys.map (·.length)).sum + ys.length * a.length ≤ 16777216 ∧ q (.str (Txt.join a ys)) M := by
  cases o with
  | none => exact p.elim
  | some ys => obtain ⟨h, q⟩ := post_chk.mp p; exact ⟨ys, rfl, h, q⟩
section
variable {C : DX}
theorem dm_join : DMt C "str.join" joinD := by
  refine ⟨_, mt_join, fun {g ρ M σ H x dx xs ds} Q R rx rxs p => ?_⟩
  obtain ⟨a, d, rfl, rfl, p1⟩ := joinD_post p
  obtain ⟨v, rfl, r1⟩ := rxs.one
  obtain ⟨b, vs, es, rfl, hs, t, p2⟩ := items_post R.h r1 (post_bnd.mp p1)
  obtain ⟨ys, e, hz, q⟩ := joinK_post p2
  have ev := reps_ofStrs t e
  subst ev
  exact ⟨a, b, ys, rep_str rx, rfl, hs, hz, QV.here q R (.str _)⟩
/-- a.split(b) -/
def splitD (fr : List D → Py D) (o : D) (ds : List D) : Py D := match o, ds with
  | .str a, [.str b] => Py.chk ((b.length == 0) = false ∧ a.length + 2 ≤ sizeLine) (fr ((Txt.split a b).map D.str))
  | _, _ => Py.bad
theorem splitD_post {fr : List D → Py D} {o : D} {ds : List D} {M : Store} {q : D → Store → Prop} {E : Exn → Store → Prop} (p : Post (splitD fr o ds M) q E) : ∃ a b, o = .str a ∧ ds = [.str b] ∧ (b.length == 0) = false ∧ a.length + 2 ≤ sizeLine ∧ Post (fr ((Txt.split a b).map D.str) M) q E := by
  unfold splitD at p
  split at p
  · obtain ⟨⟨h1, h2⟩, q⟩ := post_chk.mp p
    exact ⟨_, _, rfl, rfl, h1, h2, q⟩
  · exact p.elim
theorem dm_split {fr : List D → Py D} (hf : FlOk C fr) : DMt C "str.split" (splitD fr) := by
  refine ⟨_, mt_split, fun {g ρ M σ H x dx xs ds} Q R rx rxs p => ?_⟩
  obtain ⟨a, b, rfl, rfl, h1, h2, q⟩ := splitD_post p
  obtain ⟨v, rfl, r1⟩ := rxs.one
  exact ⟨a, b, rep_str rx, by rw [rep_str r1], h1, h2, fun p hp => hf.run R hp (reps_mkStrs _) q⟩
/-- int(x): a number, a flag, a text of figures -/
def intU (d : D) : Py D := match d with
  | .str a => (match PySem.intText? a with
    | some n => Py.chk (a.length ≤ 640) (Py.ret (.int n))
    | none => Py.bad)
  | d => intD d
theorem dc_intU : DCl C (.type "int") (one intU) := dcl_one (call_or call_int1 call_int_str) fun {g ρ M σ H v d} Q R r p => by
  cases d with
  | int i => exact .inl (.inl ⟨i, by rw [rep_int r], QV.here p R (.int _)⟩)
  | bl i => exact .inl (.inr ⟨i, by rw [rep_bl r], QV.here p R (.int _)⟩)
  | str a =>
    have p' : Post ((match PySem.intText? a with | some n => Py.chk (a.length ≤ 640) (Py.ret (.int n)) | none => Py.bad : Py D) M) (QV C g ρ σ Q) (C.We ρ) := p
    cases h : PySem.intText? a with
    | none => rw [h] at p'; exact p'.elim
    | some n =>
      rw [h] at p'
      obtain ⟨hl, q⟩ := post_chk.mp p'
      exact .inr ⟨a, n, by rw [rep_str r], h, hl, QV.here q R (.int _)⟩
  | _ => exact p.elim
def strU (d : D) : Py D := match d with
  | .str a => Py.ret (.str a)
  | d => strD d
theorem dc_strU : DCl C (.type "str") (one strU) := dcl_one (call_or call_str_int SkE.call_str_str) fun {g ρ M σ H v d} Q R r p => by
  cases d with
  | int i => exact .inl ⟨i, by rw [rep_int r], (post_chk.mp p).1, QV.here (post_chk.mp p).2 R (.str _)⟩
  | str a => exact .inr ⟨a, by rw [rep_str r], QV.here p R (.str _)⟩
  | _ => exact p.elim
end
/-! ### x in y -/
section
variable {X : Cx}
def rInDT (K : PySem.W.Frag) (neg : Bool) : R2 := fun x y H Q => ∃ d ds, Dp K H x d ∧ (Dp K H y (.list ds) ∨ Dp K H y (.tuple ds)) ∧ SeqAt.shaped d = true ∧ SeqAt.shaped (.list ds) = true ∧ Q (.bl (if neg then !ds.any fun z => PyData.eqv z d else ds.any fun z => PyData.eqv z d)) H
theorem op_inDT (hu : X.A.units + 65 < cLine) : OpR X (compareOp .In) (rInDT X.K false) := by
  intro pins s σ H x y v u Q I rx ry ⟨d, ds, hd, he, sd, se, q⟩
  obtain ⟨as, r1⟩ := Dp.reads I d x v hd rx
  rcases he with he | he
  · obtain ⟨bs, r2⟩ := Dp.reads I (.list ds) y u he ry
    exact SeqAt.in_list_reads r2 r1 (SeqAt.canLay_of_shaped se) (SeqAt.canLay_of_shaped sd) (room_in_shaped sd hu) ⟨.bl _, H, I, rfl, q⟩
  · obtain ⟨bs, r2⟩ := Dp.reads I (.tuple ds) y u he ry
    exact SeqAt.in_tuple_reads r2 r1 (SeqAt.canLay_of_shaped se) (SeqAt.canLay_of_shaped sd) (room_in_shaped sd hu) ⟨.bl _, H, I, rfl, q⟩
theorem op_notInDT (hu : X.A.units + 65 < cLine) : OpR X (compareOp .NotIn) (rInDT X.K true) := by
  intro pins s σ H x y v u Q I rx ry ⟨d, ds, hd, he, sd, se, q⟩
  obtain ⟨as, r1⟩ := Dp.reads I d x v hd rx
  rcases he with he | he
  · obtain ⟨bs, r2⟩ := Dp.reads I (.list ds) y u he ry
    exact SeqAt.notIn_list_reads r2 r1 (SeqAt.canLay_of_shaped se) (SeqAt.canLay_of_shaped sd) (room_in_shaped sd hu) ⟨.bl _, H, I, rfl, q⟩
  · obtain ⟨bs, r2⟩ := Dp.reads I (.tuple ds) y u he ry
    exact SeqAt.notIn_tuple_reads r2 r1 (SeqAt.canLay_of_shaped se) (SeqAt.canLay_of_shaped sd) (room_in_shaped sd hu) ⟨.bl _, H, I, rfl, q⟩
end
/-- x in a list or tuple, by data -/
def inDeep (neg : Bool) (x y : D) : Py D := fun M => match pyM M x, pyM M y with
  | some d, some (.list ds) => if SeqAt.shaped d && SeqAt.shaped (.list ds) then .ok (.bl (if neg then !ds.any fun z => PyData.eqv z d else ds.any fun z => PyData.eqv z d)) M else .bad
  | some d, some (.tuple ds) => if SeqAt.shaped d && SeqAt.shaped (.list ds) then .ok (.bl (if neg then !ds.any fun z => PyData.eqv z d else ds.any fun z => PyData.eqv z d)) M else .bad
  | _, _ => .bad
theorem inDeep_post {neg : Bool} {x y : D} {M : Store} {q : D → Store → Prop} {E : Exn → Store → Prop} (p : Post (inDeep neg x y M) q E) : ∃ d ds, pyM M x = some d ∧ (pyM M y = some (.list ds) ∨ pyM M y = some (.tuple ds)) ∧ SeqAt.shaped d = true ∧ SeqAt.shaped (.list ds) = true ∧ q (.bl (if neg then !ds.any fun z => PyData.eqv z d else ds.any fun z => PyData.eqv z d)) M := by
  unfold inDeep at p
  split at p
  · rename_i d ds h1 h2
    split at p
    · rename_i h
      obtain ⟨a, b⟩ := Bool.and_eq_true_iff.mp h
      exact ⟨d, ds, h1, .inl h2, a, b, p⟩
    · exact p.elim
  · rename_i d ds h1 h2
    split at p
    · rename_i h
      obtain ⟨a, b⟩ := Bool.and_eq_true_iff.mp h
      exact ⟨d, ds, h1, .inr h2, a, b, p⟩
    · exact p.elim
  · exact p.elim
/-- a sign in a text -/
def signOf : List Nat → Str → Py D
  | [c], z => Py.ret (.bl (decide (c ∈ z.cps.toList)))
  | _, _ => Py.bad
def inSign (x : D) (z : Str) : Py D := match x with
  | .str y => signOf y.cps.toList z
  | _ => Py.bad
/-- x in y: a dict, a text, a list or tuple -/
def inU (x y : D) : Py D := fun M => if isDk M y = true then inK false x y M else match y with
  | .str z => inSign x z M
  | _ => inDeep false x y M
def notInU (x y : D) : Py D := fun M => if isDk M y = true then inK true x y M else inDeep true x y M
section
variable {C : DX}
theorem signOf_post : ∀ {cs : List Nat} {z : Str} {M : Store} {q : D → Store → Prop} {E : Exn → Store → Prop}, Post (signOf cs z M) q E → ∃ c, cs = [c] ∧ q (.bl (decide (c ∈ z.cps.toList))) M
  | [], _, _, _, _, p => p.elim
  | [c], _, _, _, _, p => ⟨c, rfl, p⟩
  | _ :: _ :: _, _, _, _, _, p => p.elim
theorem inSign_post {x : D} {z : Str} {M : Store} {q : D → Store → Prop} {E : Exn → Store → Prop} (p : Post (inSign x z M) q E) : ∃ c, x = .str ⟨#[c]⟩ ∧ q (.bl (decide (c ∈ z.cps.toList))) M := by
  cases x with
  | str y =>
    obtain ⟨c, e, q⟩ := signOf_post p
    refine ⟨c, ?_, q⟩
    have : y = ⟨#[c]⟩ := by
      cases y with
      | mk a => exact congrArg Str.mk (Array.ext' e)
    rw [this]
  | _ => exact p.elim
theorem do_inU (hu : C.X.A.units + 65 < cLine) : DOp C (compareOp .In) inU := DOp.of ((op_inK (by omega)).or ((op_inDT hu).or op_in_sign)) fun {g ρ M σ H x y dx dy} Q R rx ry p => by
  have p' : Post (inU dx dy M) (QV C g ρ σ Q) (C.We ρ) := p
  unfold inU at p'
  by_cases h : isDk M dy = true
  · rw [if_pos h] at p'
    obtain ⟨o, e, q⟩ := inK_post p'
    obtain ⟨a, o', ea, hg, ro⟩ := dget_rep R.h ry rx e
    refine .inl ⟨a, o', ea, hg, ?_⟩
    rw [ro.isSome]
    exact QV.here q R (.bl _)
  · rw [if_neg h] at p'
    have deep : Post (inDeep false dx dy M) (QV C g ρ σ Q) (C.We ρ) → rInDT C.X.K false x y H Q := fun p => by
      obtain ⟨d, ds, e1, e2, s1, s2, q⟩ := inDeep_post p
      exact ⟨d, ds, dpm_of R.h rx e1, e2.imp (dpm_of R.h ry) (dpm_of R.h ry), s1, s2, QV.here q R (.bl _)⟩
    cases dy with
    | str z =>
      obtain ⟨c, rfl, q⟩ := inSign_post p'
      exact .inr (.inr ⟨c, z, rep_str rx, rep_str ry, QV.here q R (.bl _)⟩)
    | _ => exact .inr (.inl (deep p'))
theorem do_notInU (hu : C.X.A.units + 65 < cLine) : DOp C (compareOp .NotIn) notInU := DOp.of ((op_notInK (by omega)).or (op_notInDT hu)) fun {g ρ M σ H x y dx dy} Q R rx ry p => by
  have p' : Post (notInU dx dy M) (QV C g ρ σ Q) (C.We ρ) := p
  unfold notInU at p'
  by_cases h : isDk M dy = true
  · rw [if_pos h] at p'
    obtain ⟨o, e, q⟩ := inK_post p'
    obtain ⟨a, o', ea, hg, ro⟩ := dget_rep R.h ry rx e
    refine .inl ⟨a, o', ea, hg, ?_⟩
    rw [ro.isSome]
    exact QV.here q R (.bl _)
  · rw [if_neg h] at p'
    obtain ⟨d, ds, e1, e2, s1, s2, q⟩ := inDeep_post p'
    exact .inr ⟨d, ds, dpm_of R.h rx e1, e2.imp (dpm_of R.h ry) (dpm_of R.h ry), s1, s2, QV.here q R (.bl _)⟩
end
end L3
set_option Elab.async false
set_option linter.all false
set_option maxRecDepth 100000
set_option maxHeartbeats 4000000
set_option autoImplicit false
/-! zip of two lists or two tuples -/
namespace L3
open PySem PySem.Spec L2 RZ
open PyProof.Rows hiding St
def zipD : List D → List D → List D
  | d :: ds, e :: es => .tup [d, e] :: zipD ds es
  | _, _ => []
theorem zipD_length : ∀ (ds es : List D), (zipD ds es).length = min ds.length es.length
  | [], es => by simp [zipD]
  | d :: ds, [] => by simp [zipD]
  | d :: ds, e :: es => by
    show (zipD ds es).length + 1 = _
    rw [zipD_length ds es]
    simp only [List.length_cons]
    omega
theorem zipD_get : ∀ (ds es : List D) (i : Nat) (d e : D), ds[i]? = some d → es[i]? = some e → (zipD ds es)[i]? = some (.tup [d, e])
  | [], _, _, _, _, h, _ => by simp at h
  | _ :: _, [], _, _, _, _, h => by simp at h
  | a :: ds, b :: es, 0, d, e, h, k => by
    have h' : some a = some d := by simpa using h
    have k' : some b = some e := by simpa using k
    cases h'
    cases k'
    rfl
  | a :: ds, b :: es, i + 1, d, e, h, k => by
    have h' : ds[i]? = some d := by simpa using h
    have k' : es[i]? = some e := by simpa using k
    show (zipD ds es)[i]? = _
    exact zipD_get ds es i d e h' k'
theorem zipD_inv : ∀ (ds es : List D) (i : Nat), i < ds.length → i < es.length → ∃ d e, ds[i]? = some d ∧ es[i]? = some e ∧ (zipD ds es)[i]? = some (.tup [d, e]) := fun ds es i h k =>
  ⟨ds[i], es[i], by simp [h], by simp [k], zipD_get ds es i _ _ (by simp [h]) (by simp [k])⟩
def zipL (d e : D) : Py Wk := Py.bnd (wkL d) fun w => Py.bnd (wkL e) fun w' => Py.ret ⟨zipD w.ds w'.ds, fun M => w.ok M ∧ w'.ok M⟩
def zipP (d e : D) : Py Wk := match d with
  | .tup xs => (match e with
    | .tup ys => Py.ret ⟨zipD xs ys, fun _ => True⟩
    | _ => Py.bad)
  | d => zipL d e
def wkZip : List D → Py Wk
  | [d, e] => zipP d e
  | _ => Py.bad
theorem wkZip_post {ds : List D} {M : Store} {q : Wk → Store → Prop} {E : Exn → Store → Prop} (p : Post (wkZip ds M) q E) : ∃ d e, ds = [d, e] ∧ ((∃ xs ys, d = .tup xs ∧ e = .tup ys ∧ q ⟨zipD xs ys, fun _ => True⟩ M) ∨ Post (zipL d e M) q E) := by
  unfold wkZip at p
  split at p
  · rename_i d e
    refine ⟨d, e, rfl, ?_⟩
    cases d with
    | tup xs =>
      cases e with
      | tup ys => exact .inl ⟨xs, ys, rfl, rfl, p⟩
      | _ => exact p.elim
    | _ => exact .inr p
  · exact p.elim
section
variable {C : DX} {a b : Expr} {ff : DEnv → Py (List D)} {p pos : Pos}
def iZipD (ff : DEnv → Py (List D)) : DEnv → Py Wk := fun ρ => Py.bnd (ff ρ) wkZip
theorem wkL_stays {d : D} {w : Wk} {M M' : Store} (h : wkL d M = .ok w M') : M' = M := by
  cases d with
  | loc n =>
    have h' : ((match M[n]? with | some (some (.lst xs)) => .ok ⟨xs, fun M' => M'[n]? = some (some (.lst xs))⟩ M | _ => .bad) : Out Wk) = .ok w M' := h
    split at h'
    · cases h'; rfl
    · cases h'
  | _ => first | (cases h; rfl) | cases h
theorem di_zip {tpos : Pos} {elts : List Expr} {kk : Nat} (hm : C.X.mg "zip" = none) (ha : DA C [a, b] ff) (hg : Gl C.X "zip" := by rfl)
    (hs : starEach [a, b] C.X.env = (false, eval a C.X.env) :: starEach [b] C.X.env := by rfl) (hpl : (backTo pos (starEach [b] C.X.env)).any (·.1) = false := by rfl) : DI C (.Tuple elts kk tpos) (.Call (.Name "zip" p) [a, b] [] pos) (iZipD ff) :=
  ⟨_, RZ.pi_zipA hg hm self_a hs hpl, fun {g ρ M σ H} R Rr p => by
    refine ha.then_ Rr p fun vs ds M1 H1 g1 l1 R1 r1 p1 => ?_
    obtain ⟨d, e, rfl, p2⟩ := wkZip_post p1
    obtain ⟨v, v', rfl, r, r'⟩ := r1.two
    rcases p2 with ⟨xs, ys, rfl, rfl, q⟩ | p2
    · cases r with
      | @tup a1 us ds1 s t =>
        cases r' with
        | @tup a2 us' ds2 s' t' =>
          refine ⟨a1, a2, us, us', rfl, .inr ⟨.of (R1.h.frz _ _ s), .of (R1.h.frz _ _ s'), q _ H1 g1 (fun H => SqT C.X.K H a1 us ∧ SqT C.X.K H a2 us') (fun i H v H' => ∃ T x y, v = .ref T ∧ H T = none ∧ H' = upd H T (.tup [x, y]) ∧ (∀ xs, SqT C.X.K H a1 xs → xs[i]? = some x) ∧ ∀ ys, SqT C.X.K H a2 ys → ys[i]? = some y) l1 R1 (walkD_pairs ?_ ?_ ?_)⟩⟩
          · show Walk _ (zipD xs ys).length _ _
            rw [zipD_length, ← t.length, ← t'.length]
            exact ⟨fun i H hi ⟨q1, q2⟩ => ⟨us, us', us[i]'(by omega), us'[i]'(by omega), q1, q2, by simp, by simp⟩, fun H ⟨q1, q2⟩ => ⟨us, us', q1, q2, by omega⟩, fun i H x H' hi _ y => y⟩
          · intro g' M H l R o
            exact ⟨.of (R.frz _ _ (l.F _ _ s)), .of (R.frz _ _ (l.F _ _ s'))⟩
          · intro g' M H H' i x l R o y
            obtain ⟨T, x', y', rfl, hT, rfl, h1, h2⟩ := y
            obtain ⟨d', e1, e2⟩ := (t.gro l).getV (h1 us (.of (R.frz _ _ (l.F _ _ s))))
            obtain ⟨d'', f1, f2⟩ := (t'.gro l).getV (h2 us' (.of (R.frz _ _ (l.F _ _ s'))))
            exact ⟨T, x', y', d', d'', rfl, hT, rfl, zipD_get xs ys i _ _ e1 f1, e2, f2⟩
    · have p3 : Post (zipL d e M1) _ _ := p2
      obtain ⟨a1, us, w, rfl, q1, q2, q3, q4⟩ := wkL_post R1.h r (post_bnd.mp p3)
      obtain ⟨a2, us', w', rfl, q1', q2', q3', q4'⟩ := wkL_post R1.h r' (post_bnd.mp q3)
      refine ⟨a1, a2, us, us', rfl, .inl ⟨q1, q1', q3' _ H1 g1 (fun H => (∃ vs, SqL C.X.K H a1 vs ∧ vs.length = w.ds.length) ∧ ∃ vs, SqL C.X.K H a2 vs ∧ vs.length = w'.ds.length) (fun i H v H' => ∃ T x y, v = .ref T ∧ H T = none ∧ H' = upd H T (.tup [x, y]) ∧ (∀ xs, SqL C.X.K H a1 xs → xs[i]? = some x) ∧ ∀ ys, SqL C.X.K H a2 ys → ys[i]? = some y) l1 R1 (walkD_pairs ?_ ?_ ?_)⟩⟩
      · show Walk _ (zipD w.ds w'.ds).length _ _
        rw [zipD_length]
        exact ⟨fun i H hi ⟨⟨vs, q, e⟩, ⟨vs', q', e'⟩⟩ => ⟨vs, vs', vs[i]'(by omega), vs'[i]'(by omega), q, q', by simp, by simp⟩, fun H ⟨⟨vs, q, e⟩, ⟨vs', q', e'⟩⟩ => ⟨vs, vs', q, q', by omega⟩, fun i H x H' hi _ y => y⟩
      · intro g' M H l R o
        obtain ⟨vs, q, r⟩ := q4 l R o.1
        obtain ⟨vs', q', r'⟩ := q4' l R o.2
        exact ⟨⟨vs, q, r.length⟩, ⟨vs', q', r'.length⟩⟩
      · intro g' M H H' i x l R o y
        obtain ⟨T, x', y', rfl, hT, rfl, h1, h2⟩ := y
        obtain ⟨vs, q, r⟩ := q4 l R o.1
        obtain ⟨vs', q', r'⟩ := q4' l R o.2
        obtain ⟨d', e1, e2⟩ := r.getV (h1 vs q)
        obtain ⟨d'', f1, f2⟩ := r'.getV (h2 vs' q')
        exact ⟨T, x', y', d', d'', rfl, hT, rfl, zipD_get _ _ i _ _ e1 f1, e2, f2⟩⟩
end
end L3
set_option Elab.async false
set_option linter.all false
set_option maxRecDepth 100000
set_option maxHeartbeats 4000000
set_option autoImplicit false
/-! repr of data -/
namespace L3
open PySem PySem.Spec L2
open PyProof.Rows hiding St
/-- what repr takes here -/
def shows (d : PyData) : Bool := d.showable && !d.hasDict && decide (d.depth < 60) && decide (d.shown.length ≤ sizeLine)
theorem shows_iff {d : PyData} (h : shows d = true) : d.showable = true ∧ d.hasDict = false ∧ d.depth < 60 ∧ d.shown.length ≤ sizeLine := by
  unfold shows at h
  simp only [Bool.and_eq_true, Bool.not_eq_true', decide_eq_true_eq] at h
  exact ⟨h.1.1.1, h.1.1.2, h.1.2, h.2⟩
theorem call_reprD {X : Cx} {k : Nat} (room : RoomG k X.A) : CallR X (.builtin "repr") (fun xs H Q => ∃ x d, xs = [x] ∧ Dp X.K H x d ∧ shows d = true ∧ Q (.str d.shown) H) := by
  intro pins s σ H xs us Q I r ⟨x, d, ex, hd, hs, q⟩
  subst ex
  cases r with
  | @cons _ u _ _ r1 r2 =>
    cases r2
    obtain ⟨h1, h2, h3, h4⟩ := shows_iff hs
    obtain ⟨as, rd⟩ := Dp.reads I d x u hd r1
    have hu := room.units
    cases rd with
    | none => exact PySem.P.repr_of_none ⟨.str _, H, I.tok _, ⟨_, rfl⟩, q⟩
    | bool b => exact PySem.P.repr_of_bool ⟨.str _, H, I.tok _, ⟨_, rfl⟩, q⟩
    | int i t => exact PySem.P.repr_of_int (by simpa [PyData.showable] using h1) ⟨.str _, H, I.tok _, ⟨_, rfl⟩, q⟩
    | str z t => exact PySem.P.repr_of_str ⟨.str _, H, I.tok _, ⟨_, rfl⟩, q⟩ h4
    | list e1 e2 e3 e4 => exact repr_of_reads' (.list e1 e2 e3 e4) h1 (PyData.noDict_hsm h2) room.gd (by omega) (fun _ _ e => e) (fun h' t tk hk => ⟨.str _, H, I.kept (t' := tk) hk, ⟨_, rfl⟩, q⟩) h4
    | tuple e1 e2 e3 e4 => exact repr_of_reads' (.tuple e1 e2 e3 e4) h1 (PyData.noDict_hsm h2) room.gd (by omega) (fun _ _ e => e) (fun h' t tk hk => ⟨.str _, H, I.kept (t' := tk) hk, ⟨_, rfl⟩, q⟩) h4
    | dict e1 e2 e3 e4 e5 => simp [PyData.hasDict] at h2
/-- repr(d) -/
def reprD (d : D) : Py D := fun M => match pyM M d with
  | some p => if shows p then .ok (.str p.shown) M else .bad
  | none => .bad
theorem reprD_post {d : D} {M : Store} {q : D → Store → Prop} {E : Exn → Store → Prop} (p : Post (reprD d M) q E) : ∃ x, pyM M d = some x ∧ shows x = true ∧ q (.str x.shown) M := by
  unfold reprD at p
  split at p
  · rename_i x e
    split at p
    · rename_i h
      exact ⟨x, e, h, p⟩
    · exact p.elim
  · exact p.elim
theorem dc_repr {C : DX} {k : Nat} (room : RoomG k C.X.A) : DCl C (.builtin "repr") (one reprD) := dcl_one (call_reprD room) fun {g ρ M σ H v d} Q R r p => by
  obtain ⟨x, e, h, q⟩ := reprD_post p
  exact ⟨v, x, rfl, dpm_of R.h r e, h, QV.here q R (.str _)⟩
/-- the plain law's side: it shows -/
theorem reprD_ok {d : D} {M : Store} {x : PyData} (e : pyM M d = some x) (h : shows x = true) : reprD d M = .ok (.str x.shown) M := by
  unfold reprD
  rw [e]
  simp [h]
end L3
set_option Elab.async false
set_option linter.all false
set_option maxRecDepth 100000
set_option maxHeartbeats 4000000
set_option autoImplicit false
/-! sets of ints from lists -/
namespace L3
open PySem PySem.Spec L2 PyProof
open PyProof.Rows hiding St
@[reducible] def bare_ (w : World) : Obj := { cls := .type "set", dict := none, data := .set #[] 0 (.fresh 0 0 (!w.params.followText "set-order")) }
/-- the first of each -/
def dd : List Int → List Int
  | [] => []
  | n :: r => if n ∈ r then dd r else n :: dd r
theorem dd_mem : ∀ (l : List Int) (k : Int), k ∈ dd l ↔ k ∈ l
  | [], _ => Iff.rfl
  | n :: r, k => by
    unfold dd
    split
    · rename_i h
      rw [dd_mem r k, List.mem_cons]
      exact ⟨.inr, fun z => z.elim (fun e => e ▸ h) id⟩
    · rw [List.mem_cons, List.mem_cons, dd_mem r k]
theorem dd_nodup : ∀ l : List Int, (dd l).Nodup
  | [] => List.nodup_nil
  | n :: r => by
    unfold dd
    split
    · exact dd_nodup r
    · rename_i h
      exact List.nodup_cons.mpr ⟨fun z => h ((dd_mem r n).mp z), dd_nodup r⟩
theorem dd_le {l m : List Int} (h : ∀ k ∈ l, k ∈ m) : (dd l).length ≤ (dd m).length := by
  have p : (dd l).Perm ((dd m).filter fun k => decide (k ∈ l)) := (List.perm_ext_iff_of_nodup (dd_nodup l) ((dd_nodup m).filter _)).mpr fun k => by
    rw [List.mem_filter, dd_mem, dd_mem, decide_eq_true_eq]
    exact ⟨fun z => ⟨h k z, z⟩, fun z => z.2⟩
  rw [p.length_eq]
  exact List.length_filter_le ..
theorem setR_count {w : World} {h : Heap} {a : Addr} {ms : List Int} {c : Nat} (R : SetR w h a (fun j => decide (j ∈ ms)) c) : c = (dd ms).length := by
  obtain ⟨o, es, ep, t, _, _, _, _, nd, hm, _, _, hn, _⟩ := R
  have p : (es.toList.map keyOf).Perm (dd ms) := (List.perm_ext_iff_of_nodup nd (dd_nodup ms)).mpr fun k => by
    rw [dd_mem, ← hm k, decide_eq_true_eq]
  have q := p.length_eq
  rw [List.length_map, Array.length_toList, hn] at q
  exact q
section
variable {P : Program} {w : World} {A : Around} {E : Value → Shared → Prop} {s : Shared}
/-- set.update over whole numbers of which few are different -/
theorem update_few {J : Addr} {fp wr : List Addr} {G : Array GenState → Array GenState → Prop} {n : Nat} {Pv : Nat → Value → Prop} {St : Nat → Shared → Prop} {R : Result → Shared → Prop} (W : WalksS P w A.in1 J fp wr G n Pv St) (T : Addr) (off : T ∉ fp) (ns : List Int) (many : n = ns.length)
    (few : (dd ns).length + 1 < scanBound) (each : ∀ i v, Pv i v → ∃ k t, ns[i]? = some k ∧ v = .int k t) : ∀ (k i : Nat) (s : Shared), n - i = k → i ≤ n → St i s → (∃ c, SetR w s.heap T (fun j => decide (j ∈ ns.take i)) c) →
      (∀ s' c, Moved (T :: wr) G s s' → SetR w s'.heap T (fun j => decide (j ∈ ns)) c → R (.ok (.ret .none)) s') → codeAny (model P w) A (.builtin "set.update.loop" ⟨[.ref T, .ref J], []⟩) R s := by
  have away : T ∉ wr := fun z => off (W.sub _ z)
  have more : ∀ b ∈ wr, b ∈ T :: wr := fun b z => List.mem_cons_of_mem T z
  intro k
  induction k with
  | zero =>
    intro i s left le at_ ⟨c, set⟩ fin
    obtain rfl : i = n := by omega
    refine codeAny_builtin F.entry_set_update_loop ?_
    rw [Around.under_plainId F.plain_set_update_loop]
    show wpAny _ A.in1 (pyNext (Value.ref J) >>= _) _ _ s
    refine wpAny_bind (W.done s _ _ at_ fun s2 mv => (show wpAny _ A.in1 (ret .none) _ _ s2 from wpAny_pure (fin s2 c (mv.mono more) ?_)))
    rw [List.take_of_length_le (Nat.le_of_eq many.symm)] at set
    exact set.at fun o z => mv.heap T o away z
  | succ k ih =>
    intro i s left le at_ ⟨c, set⟩ fin
    have lt : i < n := by omega
    refine codeAny_builtin F.entry_set_update_loop ?_
    rw [Around.under_plainId F.plain_set_update_loop]
    show wpAny _ A.in1 (pyNext (Value.ref J) >>= _) _ _ s
    refine wpAny_bind (W.item i s _ _ lt at_ fun v s2 pv at2 mv => ?_)
    obtain ⟨z, t, ez, rfl⟩ := each i v pv
    have set2 : SetR w s2.heap T (fun j => decide (j ∈ ns.take i)) c := set.at fun o z => mv.heap T o away z
    have room : c + 1 < scanBound := by
      have q := dd_le (l := ns.take i) (m := ns) fun k z => List.mem_of_mem_take z
      have q2 := setR_count set2
      omega
    show wpAny _ A.in1 (holding [Value.int z t] (setAdd T (Value.int z t)) >>= _) _ _ s2
    refine wpAny_bind (wpAny_holding (show wpAny _ _ (setAdd T (Value.int z t)) _ _ _ from ?_))
    unfold setAdd
    refine wpAny_holding (wpAny_bind ((intKind P w).pyHash (k := z) (intKind_is _ _ _ _) ?_))
    refine setR_add_hashed (s := { s2 with toks := s2.toks + 1 }) set2 room fun h3 same set3 => ?_
    have set4 := set3.congr (S' := fun j => decide (j ∈ ns.take (i + 1))) fun j => by
      rw [List.take_add_one, ez]
      simp [List.mem_append]
    refine wpAny_pure ⟨plainId_quiet F.plain_set_update_loop _, ih (i + 1) _ (by omega) lt (W.frame _ s2 _ _ at2 (Nat.le_succ _) fun b hb o z => ?_) ⟨_, set4⟩ fun s5 c5 mv5 set5 => fin s5 c5 (Moved.trans W.gtrans ((mv.mono more).then_heap (Nat.le_succ _) fun b o hb z => ?_) mv5) set5⟩
    · exact (same.2 b fun q => off (q ▸ hb)).trans z
    · exact (same.2 b fun q => hb (q ▸ List.mem_cons_self)).trans z
end
section
variable {P : Program} {w : World} {A : Around} {E : Value → Shared → Prop} {s : Shared}
/-- what stands behind set(list) -/
def Made (w : World) (ns : List Int) (s : Shared) : Value → Shared → Prop := fun r s2 => r = .none ∧ ∃ h' tk c, s2 = { s with heap := h', toks := tk } ∧ SetR w h' s.heap.objs.size (fun j => decide (j ∈ ns)) c ∧ ∀ b o, s.heap.get? b = some o → h'.get? b = some o
set_option maxHeartbeats 8000000 in
theorem call_setLI {l : Addr} {xs : Array Value} (ns : List Int) {Q : Value → Shared → Prop} (calm : A.handled = none) (il : s.heap.IsList l xs) (are : IntsAre xs.toList ns) (few : (dd ns).length + 1 < scanBound)
    (go : ∀ (h' : Heap) (tk c : Nat), SetR w h' s.heap.objs.size (fun j => decide (j ∈ ns)) c → (∀ b o, s.heap.get? b = some o → h'.get? b = some o) → Q (.ref s.heap.objs.size) { s with heap := h', toks := tk }) : wpAny (model P w) A (call (.type "set") [.ref l]) Q E s := by
  have size : xs.size = ns.length := (Array.length_toList (xs := xs)).symm.trans are.length
  obtain ⟨mroC, mroT, mro⟩ := F.called_set.mro
  have made := F.called_set.made
  have subs := F.called_set.sub
  refine wpAny_call (codeAny_of_tree (show wpAny _ _ (callAny (.type "set") _) _ _ _ from ?_))
  refine wpAny_pure ⟨Code.quiet_builtin _ (by decide +kernel), codeAny_builtin F.entry_type_call ?_⟩
  rw [Around.under_plain (weight_type_call_type "set" _ _) rfl]
  have notT := F.called_set.notType
  have canC := F.called_set.canCreate
  have tcall := F.typeCall_set_1 (.ref l)
  repeat (any_goals (first | assumption | wp_step))
  refine codeAny_mono (code_set_led1 (.ref l) (E := E) (Q₁ := fun z s₁ => z = .ref s.heap.objs.size ∧ s₁ = { s with heap := s.heap.push (bare_ w) }) ⟨rfl, rfl⟩) fun r s₁ got => ?_
  rcases r with e | fl
  · exact got
  rcases fl with _ | _ | _ | z
  all_goals first | exact got.elim | skip
  obtain ⟨rfl, rfl⟩ := got
  have there : (s.heap.push (bare_ w)).get? s.heap.objs.size = some (bare_ w) := Heap.get?_push_size _ rfl
  have isSet : Shared.TypeIs { s with heap := s.heap.push (bare_ w) } (.ref s.heap.objs.size) "set" := ⟨_, there, rfl⟩
  have look := F.called_set.init.lookup
  have bnd := F.called_set.init.bind (.ref s.heap.objs.size)
  repeat (any_goals (first | assumption | wp_step))
  refine codeAny_mono (codeAny_call_builtin (R := wants (Made w ns s) E) F.called_set.init.plain F.entry_set_init (check_set_init_1 isSet ?_)) fun r2 s2 got2 => ?_
  · obtain ⟨⟨cl, od, dat, sl⟩, at_, ecl, n, edat⟩ := il
    dsimp only at ecl edat
    subst ecl edat
    have at1 : (s.heap.push (bare_ w)).get? l = some { cls := .type "list", dict := od, data := .seq xs n, slots := sl } := Heap.get?_push_of_some _ at_
    have sub1 := F.sub_list_set
    have sub2 := F.sub_list_frozenset
    have nodict : (Value.type "list" == Value.type "dict") = false := by decide
    have il1 : (s.heap.push (bare_ w)).IsList l xs := ⟨_, at1, rfl, n, rfl⟩
    unfold Builtin.«set.__init__» noKeywords Builtin.Frozenset.updateFrom
    generalize gen : pyIter = PI
    wp_walk
    subst gen
    refine wpAny_pyIter_list il1 (wpAny_bind (wpAny_runValue ?_))
    have below : l < s.heap.objs.size := Heap.lt_size at_
    have grown : (s.heap.push (bare_ w)).objs.size = s.heap.objs.size + 1 := Heap.size_push ..
    have calm3 : A.in1.in1.in1.handled = none := calm
    have off : l ≠ (s.heap.push (bare_ w)).objs.size := by
      rw [grown]
      exact Nat.ne_of_lt (Nat.lt_succ_of_lt below)
    have out_ : s.heap.objs.size ∉ [(s.heap.push (bare_ w)).objs.size, l] := by
      rw [grown]
      intro z
      rcases List.mem_cons.mp z with z | z
      · exact Nat.ne_of_lt (Nat.lt_succ_self _) z
      · rcases List.mem_cons.mp z with z | z
        · exact Nat.ne_of_gt below z
        · exact List.not_mem_nil z
    have each : ∀ (i : Nat) (v : Value), xs[i]? = some v → ∃ k t, ns[i]? = some k ∧ v = .int k t := fun i v hv => by
      have lt : i < ns.length := size ▸ (Array.getElem?_eq_some_iff.mp hv).1
      obtain ⟨t, ev⟩ := IntsAre.int_at are i v ((Array.getElem?_toList ..).trans hv)
      refine ⟨ns[i], t, List.getElem?_eq_getElem lt, ev.trans ?_⟩
      simp [List.getD_eq_getElem?_getD, lt]
    refine update_few ((Walks.list calm3 _ l off xs).toS) s.heap.objs.size out_ ns size few each (xs.size - 0) 0 _ (by omega) (Nat.zero_le _) ⟨⟨_, Heap.get?_push_size _ rfl, rfl, rfl⟩, il1.push _⟩ ⟨0, setR_new_at (Heap.get?_push_of_some _ there)⟩ ?_
    intro s3 c mv R3
    obtain ⟨h3, g3, d3, t3, o3⟩ := s3
    obtain rfl : g3 = s.gens := mv.gens
    obtain rfl : d3 = s.drawn := mv.drawn
    obtain rfl : o3 = s.os := mv.os
    refine (show wpAny _ _ _ _ _ _ from wpAny_pure (show wpAny _ _ (ret Value.none) _ _ _ from wpAny_pure ⟨rfl, h3, t3, c, rfl, R3, fun b o e => ?_⟩))
    have lo : b < s.heap.objs.size := Heap.lt_size e
    refine mv.heap b o ?_ (Heap.get?_push_of_some _ (Heap.get?_push_of_some _ e))
    intro z
    rcases List.mem_cons.mp z with z | z
    · exact Nat.ne_of_lt lo z
    · rcases List.mem_cons.mp z with z | z
      · rw [grown] at z; exact Nat.ne_of_lt (Nat.lt_succ_of_lt lo) z
      · exact List.not_mem_nil z
  · rcases r2 with e | fl
    · exact got2
    rcases fl with _ | _ | _ | v
    all_goals first | exact got2.elim | skip
    obtain ⟨rfl, h', tk, c, rfl, R3, keep⟩ := got2
    repeat (any_goals (first | assumption | wp_step))
    exact go _ _ _ R3 keep
end
end L3
set_option Elab.async false
set_option linter.all false
set_option maxRecDepth 100000
set_option maxHeartbeats 4000000
set_option autoImplicit false
/-! sorted(set(d)) -/
namespace L3
open PySem PySem.Spec L2 PyProof
open PyProof.Rows hiding St
section
variable {X : Cx}
def rSetLI (K : PySem.W.Frag) (w : World) : List V → Hp → VK → Prop := fun xs H Q => ∃ a ns, xs = [.ref a] ∧ SqL K H a (ns.map V.int) ∧ (dd ns).length + 1 < scanBound ∧ ∀ p, H p = none → Q (.ref p) (upd H p (SetO w p (fun j => decide (j ∈ ns)) (dd ns).length))
theorem cr_setLI (calm : X.calm = true) : CallR X (.type "set") (rSetLI X.K X.w) := by
  intro pins s σ H xs us Q I r ⟨a, ns, ex, seq, few, q⟩
  subst ex
  rw [Vals.ref1 r]
  obtain ⟨its, rv, pl, _⟩ := I.list seq
  refine call_setLI ns (I.ok.hd calm) (show s.heap.IsList a its.toArray from pl.isList) (ints_of_vals rv) few fun h' tk c R keep => ?_
  have new : H s.heap.objs.size = none := I.hok.fresh (Nat.le_refl _)
  have e := setR_count R
  subst e
  exact ⟨.ref s.heap.objs.size, upd H s.heap.objs.size (SetO X.w s.heap.objs.size (fun j => decide (j ∈ ns)) (dd ns).length), I.laid (t' := tk) keep (Nat.le_refl _) (setO_new R), rfl, q _ new⟩
end
def sortSetK (fr : List D → Py D) : Option (List Int) → Py D
  | some ns => Py.chk ((dd ns).length < 64) (fr ((sortL (dd ns)).map D.int))
  | none => Py.bad
theorem sortSetK_post {fr : List D → Py D} {o : Option (List Int)} {M : Store} {q : D → Store → Prop} {E : Exn → Store → Prop} (p : Post (sortSetK fr o M) q E) : ∃ ns, o = some ns ∧ (dd ns).length < 64 ∧ Post (fr ((sortL (dd ns)).map D.int) M) q E := by
  cases o with
  | none => exact p.elim
  | some ns => obtain ⟨h, q⟩ := post_chk.mp p; exact ⟨ns, rfl, h, q⟩
/-- sorted(set(d)) -/
def sortSetD (fr : List D → Py D) : List D → Py D
  | [d] => Py.bnd (litems d) fun ds => sortSetK fr (intsOf ds)
  | _ => Py.bad
theorem sortSetD_post {fr : List D → Py D} {ds : List D} {M : Store} {q : D → Store → Prop} {E : Exn → Store → Prop} (p : Post (sortSetD fr ds M) q E) : ∃ d, ds = [d] ∧ Post (litems d M) (fun ds M' => Post (sortSetK fr (intsOf ds) M') q E) E := by
  unfold sortSetD at p
  split at p
  · exact ⟨_, rfl, post_bnd.mp p⟩
  · exact p.elim
theorem sorted_eq {ns ys : List Int} (asc : ys.Pairwise (· < ·)) (mem : ∀ k : Int, k ∈ ys ↔ decide (k ∈ ns) = true) : ys = sortL (dd ns) := by
  refine sortL_eq ((List.perm_ext_iff_of_nodup (asc.imp fun h => Int.ne_of_lt h) (dd_nodup ns)).mpr fun k => ?_) (asc.imp Int.le_of_lt)
  rw [mem k, dd_mem, decide_eq_true_eq]
section
variable {C : DX} {e : Expr} {ff : DEnv → Py (List D)} {p p2 pos pos2 : Pos} {fr : List D → Py D}
theorem de_sortSet (hf : FlOk C fr) (hc : C.X.calm = true) (hm : C.X.mg "sorted" = none) (hm2 : C.X.mg "set" = none) (ha : DA C [e] ff) (hg : Gl C.X "sorted" := by rfl) (hg2 : Gl C.X "set" := by rfl)
    (he : starEach [e] C.X.env = (false, eval e C.X.env) :: starEach [] C.X.env := by rfl)
    (he2 : starEach [.Call (.Name "set" p2) [e] [] pos2] C.X.env = (false, eval (.Call (.Name "set" p2) [e] [] pos2) C.X.env) :: starEach [] C.X.env := by rfl) :
    DE C (.Call (.Name "sorted" p) [.Call (.Name "set" p2) [e] [] pos2] [] pos) (eCall (sortSetD fr) ff) := by
  refine ⟨fun {g ρ M σ H} Q R pr => wpe (pe_callB (cr_sortedSet hc) hg hm (by decide +kernel) (pa_cons (pe_callTy (cr_setLI hc) hg2 hm2 (by decide +kernel) self_a (he := he)) pa_nil he2) (he := he2)) ?_⟩
  refine ha.then_ R pr fun vs ds M1 H1 g1 l1 R1 r1 p1 => ?_
  obtain ⟨d, rfl, p2⟩ := sortSetD_post p1
  obtain ⟨v, rfl, r⟩ := r1.one
  obtain ⟨a, us, ds, rfl, hs, t, q1⟩ := litems_post R1.h r p2
  obtain ⟨ns, en, few, q⟩ := sortSetK_post q1
  rw [intsOf_eq en] at t
  have ev := reps_ofInts t
  subst ev
  refine ⟨a, ns, rfl, hs, by unfold scanBound; omega, fun b hb => ?_⟩
  refine ⟨b, _, _, rfl, upd_same, few, fun ys c asc mem _ hcn => ?_⟩
  rw [sorted_eq asc mem]
  exact hf.run ⟨R1.b, R1.h.stray hb, R1.e⟩ hcn (reps_mkInts _) (q.imp fun _ _ z => z.later l1)
end
end L3
set_option Elab.async false
set_option linter.all false
set_option maxRecDepth 100000
set_option autoImplicit false
/-! small things for the printed walks -/
namespace L3
open PySem PySem.Spec L2
open PyProof.Rows hiding St
theorem RoomG.hu {k : Nat} {A : Around} (r : RoomG k A) : A.units + 65 < cLine := by have := r.room.un; omega
theorem RoomG.hu1 {k : Nat} {A : Around} (r : RoomG k A) : A.units + 1 < cLine := by have := r.room.un; omega
end L3
set_option Elab.async false
set_option linter.all false
set_option maxRecDepth 100000
set_option maxHeartbeats 4000000
set_option autoImplicit false
/-! x = {k: v for ..} on one line -/
namespace L3
open PySem PySem.Spec L2
open PyProof.Rows hiding St
theorem sw_trueD {ke ve : Expr} {gs : List Comprehension} {scope : Scope} {pos py : Pos} {y : Str} {l : Nat} {env : PySem.Env} (fun_ : env.scope.kind = .function) (loc : env.scope.names.lookup y = some .local) (line : (py.line == pos.line) = true)
    (own_ : (scope.names.any fun (n, k) => n == y && (k == .local || k == .cell)) = false) : swapsWith (.DictComp ke ve gs scope pos) (some (.Name y py)) l env = pure true := by
  have kind : env.kindOf y = some .local := loc
  have block : env.blockKind = .function := by rw [PySem.Env.blockKind, fun_]; rfl
  rw [swapsWith]
  simp only [block, kind, own_, Expr.pos, line]
  rfl
theorem ps_setDc {X : Cx} {i : Nat} {y : Str} {py : Pos} {kx vx tg iter : Expr} {ifs : List Expr} {scope : Scope} {own : List (Str × Nat)} {pos spos : Pos} {wi : TI} {g : TG} {tt : TT} {tk tv : TE} (calm : X.calm = true) (nd : X.N.Nodup) (at_ : X.N[i]? = some y) (loc : X.env.scope.names.lookup y = some .local)
    (swaps : swapsWith (.DictComp kx vx [⟨tg, iter, ifs, 0⟩] scope pos) (some (.Name y py)) spos.line X.env = pure true) (hi : PI X tg iter wi) (ok : BlkOk X.N X.env.scope scope own)
    (hg : ∀ (s : Shared) (H : Hp) (B : Addr) (cl : List (Str × Addr)) (fp : List Addr), PG (X.blk s H scope (compEnvC scope cl B X.env) fp) tg g) (ht : ∀ (s : Shared) (H : Hp) (B : Addr) (cl : List (Str × Addr)) (fp : List Addr), PTs (X.blk s H scope (compEnvC scope cl B X.env) fp) ifs tt)
    (hk : ∀ (s : Shared) (H : Hp) (B : Addr) (cl : List (Str × Addr)) (fp : List Addr), PE (X.blk s H scope (compEnvC scope cl B X.env) fp) kx tk) (hv : ∀ (s : Shared) (H : Hp) (B : Addr) (cl : List (Str × Addr)) (fp : List Addr), PE (X.blk s H scope (compEnvC scope cl B X.env) fp) vx tv)
    (plain : ∀ x, foldedSetIterable iter X.env x = pure x := by intro _; rfl) : PS X (.Assign [.Name y py] (.DictComp kx vx [⟨tg, iter, ifs, 0⟩] scope pos) spos) (tAsg (tDc wi g tt tk tv (own.map (·.2))) (gName i)) := by
  refine ⟨fun pins s σ H T J want => ?_⟩
  rw [exec_Assign_Name_used _ _ _ _ swaps]
  refine wpAny_bind (wpAny_standAt (wpAny_bind ?_))
  show wpAny _ X.A (do let _ ← comprehension (.DictComp kx vx [⟨tg, iter, ifs, 0⟩] scope pos) scope X.env (firstIterPos [⟨tg, iter, ifs, 0⟩] pos) newDict false (eval iter X.env) (some (assign (.Name y py) X.env))) _ _ s
  have want : tDc wi g tt tk tv (own.map (·.2)) σ H (fun x H1 => gName i x σ H1 T.nx) := want
  refine wpAny_bind (thn (dc_core (Qf := fun _ s2 => SP X pins T .next s2) calm nd J hi ok hg ht hk hv plain want fun L B s2 m H2 J2 q ns fresh => ?_) fun _ _ z => wpAny_pure (wpAny_pure z))
  show wpAny _ _ (assign (.Name y py) X.env (Value.ref L)) _ _ _
  refine wpAny_assign_Name (store_ok2 (v := V.ref L) J2 nd at_ (.inl loc) rfl (fun s3 J3 ⟨a, same, place⟩ => ?_) (.inr loc))
  obtain ⟨p0, p1, p2, p3, p4, p5⟩ := fresh
  have apart : B ≠ a := place.elim (fun z => z ▸ p1) fun z e => p4 y a z e.symm
  exact ⟨m, ns.sameBut same apart, fun h4 same4 => ⟨_, H2, J3.turned (t' := s3.toks) (fun b o z e => (same4.2 b z).trans e) p0 p1 p3 p4 p5, q⟩⟩
section
variable {C : DX} {pos spos py : Pos} {tg iter ke ve : Expr} {ifs : List Expr} {scope : Scope} {own : List (Str × Nat)} {it : DEnv → Py Wk} {ft : D → DEnv → Py DEnv} {t : TG} {tt : DEnv → Py Bool} {u : TT} {fk fv : DEnv → Py D} {i : Nat} {y : Str}
theorem ds_setDc {fr : List (Key × D) → Py D} {vs : List Nat} (hfr : FdOk C fr) (calm : C.X.calm = true) (nd : C.X.N.Nodup) (at_ : C.X.N[i]? = some y) (loc : C.X.env.scope.names.lookup y = some .local)
    (swaps : swapsWith (.DictComp ke ve [⟨tg, iter, ifs, 0⟩] scope pos) (some (.Name y py)) spos.line C.X.env = pure true) (hi : DI C tg iter it) (ok : BlkOk C.X.N C.X.env.scope scope own) (hg : ∀ B s H c cl fp, DG (C.blk scope B s H c cl fp) vs tg ft t)
    (ht : DTU C scope ifs tt u) (hk : ∀ B s H c cl fp, DE (C.blk scope B s H c cl fp) ke fk) (hv : ∀ B s H c cl fp, DE (C.blk scope B s H c cl fp) ve fv) (hvs : own.map (·.2) = vs := by rfl) (hs : ∀ x, foldedSetIterable iter C.X.env x = pure x := by intro _; rfl) :
    DS C (.Assign [.Name y py] (.DictComp ke ve [⟨tg, iter, ifs, 0⟩] scope pos) spos) (sSet i (eDc fr (dcAll vs it ft tt fk fv))) := by
  subst hvs
  obtain ⟨wi, pi, hwi⟩ := hi.run
  refine ⟨fun {g ρ M σ H} E R p => wps (ps_setDc (tk := eltT C.X scope ke) (tv := eltT C.X scope ve) calm nd at_ loc swaps pi ok (fun s H c cl fp => (hg g s H c cl fp).pg) ht.pt (fun s H c cl fp => ⟨fun pins s' σ' H' Q' I h => h s H c cl fp pins s' I⟩) (fun s H c cl fp => ⟨fun pins s' σ' H' Q' I h => h s H c cl fp pins s' I⟩) hs) ?_⟩
  exact dc_run (Q := fun x H1 => gName i x σ H1 E.nx) hi hg ht hk hv hwi R ((post_bnd.mp (post_bnd.mp p)).imp fun fs M' q => hfr.run (q.imp fun d M2 z v H' g' l R' r => z _ H' g' l (R'.set i r)))
end
end L3
set_option Elab.async false
set_option linter.all false
set_option maxRecDepth 100000
set_option maxHeartbeats 4000000
set_option autoImplicit false
namespace L3
open PySem PySem.Spec L2
open PyProof.Rows hiding St
/-! the plain law's own tools: what stands stays, dicts that change, whiles -/
/-- nothing that stands is changed -/
def Ext (M M' : Store) : Prop := M.length ≤ M'.length ∧ ∀ n, n < M.length → M'[n]? = M[n]?
section
variable {M M1 M2 : Store} {n : Nat} {o : Option MO}
theorem Ext.refl : Ext M M := ⟨Nat.le_refl _, fun _ _ => rfl⟩
theorem Ext.trans (h : Ext M M1) (k : Ext M1 M2) : Ext M M2 := ⟨Nat.le_trans h.1 k.1, fun n hn => (k.2 n (Nat.lt_of_lt_of_le hn h.1)).trans (h.2 n hn)⟩
theorem Ext.set (h : Ext M M1) (hn : M.length ≤ n) : Ext M (M1.set n o) := ⟨by rw [List.length_set]; exact h.1, fun m hm => by rw [List.getElem?_set_ne (by omega)]; exact h.2 m hm⟩
theorem Ext.app (h : Ext M M1) (l : Store) : Ext M (M1 ++ l) := ⟨by rw [List.length_append]; have := h.1; omega, fun m hm => by rw [List.getElem?_append_left (Nat.lt_of_lt_of_le hm h.1)]; exact h.2 m hm⟩
theorem Ext.at_ {x : MO} (h : Ext M M1) (e : M[n]? = some (some x)) : M1[n]? = some (some x) := (h.2 n (List.getElem?_eq_some_iff.mp e).1).trans e
theorem Ext.pot (h : Ext M M1) (p : Pot n M) : Pot n M1 := by
  obtain ⟨cs, a, b, c, d, e, k⟩ := p
  exact ⟨cs, a, b, c, d, h.at_ e, k⟩
end
/-- the dict at n -/
def LocK (M : Store) (n : Nat) (P : List (Key × D) → Prop) : Prop := match M[n]? with
  | some (some (.dk fs)) => P fs
  | _ => False
section
variable {M : Store} {n m : Nat} {fs : List (Key × D)} {P : List (Key × D) → Prop}
theorem locK_of (h : M[n]? = some (some (.dk fs))) : LocK M n P ↔ P fs := by
  unfold LocK; rw [h]
@[simp] theorem locK_set : LocK (M.set n (some (.dk fs))) n P ↔ n < M.length ∧ P fs := by
  unfold LocK
  by_cases h : n < M.length
  · rw [List.getElem?_set_self h]; exact ⟨fun z => ⟨h, z⟩, fun z => z.2⟩
  · rw [List.getElem?_eq_none (by rw [List.length_set]; omega)]; exact ⟨fun z => z.elim, fun z => (h z.1).elim⟩
end
section
variable {Q : D → Store → Prop} {QB : Bool → Store → Prop} {QL : List D → Store → Prop} {QK : List (Key × D) → Store → Prop} {QF : Fl → Store → Prop} {QW : Wk → Store → Prop} {QU : Unit → Store → Prop} {E : Exn → Store → Prop} {M : Store} {ρ : DEnv}
variable {fa fb fc : DEnv → Py D} {ta tb : DEnv → Py Bool} {ff : DEnv → Py (List D)} {sa sb : DEnv → Py Fl} {d e v : D} {i j : Int} {xs ys : List D} {n : Nat} {ns : List Int} {fs : List (Key × D)}
@[simp] theorem p_intD_bl {b : Bool} : Post (intD (.bl b) M) Q E ↔ Q (.int (if b then 1 else 0)) M := Iff.rfl
theorem p_foldK {f : List Int → Option Int} {o : Option (List Int)} : Post (foldK f o M) Q E ↔ SomeP o fun ns => SomeP (f ns) fun m => Q (.int m) M := by
  cases o with
  | none => exact Iff.rfl
  | some ns =>
    show Post ((match f ns with | some m => Py.ret (.int m) | none => Py.bad : Py D) M) Q E ↔ SomeP (f ns) fun m => Q (.int m) M
    cases f ns <;> exact Iff.rfl
@[simp] theorem p_maxLD : Post (maxLD (.lst xs) M) Q E ↔ SomeP (intsOf xs) fun ns => SomeP (maxL ns) fun m => Q (.int m) M := post_bnd.trans p_foldK
@[simp] theorem p_minLD : Post (minLD (.lst xs) M) Q E ↔ SomeP (intsOf xs) fun ns => SomeP (minL ns) fun m => Q (.int m) M := post_bnd.trans p_foldK
@[simp] theorem p_sumLD : Post (sumLD (.lst xs) M) Q E ↔ SomeP (intsOf xs) fun ns => Q (.int ns.sum) M := post_bnd.trans p_foldK
@[simp] theorem intsOf_map' : intsOf (ns.map D.int) = some ns := intsOf_map ns
@[simp] theorem intsOf_mapF {α : Type} {f : α → Int} {l : List α} : intsOf (l.map fun x => D.int (f x)) = some (l.map f) := by
  have e : (l.map fun x => D.int (f x)) = (l.map f).map D.int := by rw [List.map_map]; rfl
  rw [e]; exact intsOf_map _
@[simp] theorem intsOf_mapC {α : Type} {f : α → Int} {l : List α} : intsOf (l.map (D.int ∘ f)) = some (l.map f) := intsOf_mapF
@[simp] theorem intsOf_cons' : intsOf (.int i :: xs) = (intsOf xs).map fun r => i :: r := rfl
@[simp] theorem intsOf_nil' : intsOf [] = some [] := rfl
/-! dicts -/
@[simp] theorem p_dkOfN {ds : List (D × D)} {o : Option (List (Key × D))} : Post (dkOfN ds o M) Q E ↔ SomeP o fun fs => ds.length ≤ 15 ∧ Q (.loc M.length) (M ++ [some (.dk (mergeG [] fs))]) := by
  cases o with
  | none => exact Iff.rfl
  | some fs => exact post_chk
@[simp] theorem p_eDispN {fp : DEnv → Py (List (D × D))} : Post (eDispN fp ρ M) Q E ↔ Post (fp ρ M) (fun ds M1 => SomeP (keysD ds) fun fs => ds.length ≤ 15 ∧ Q (.loc M1.length) (M1 ++ [some (.dk (mergeG [] fs))])) (fun _ _ => False) := by
  unfold eDispN
  rw [post_bnd]
  simp only [p_noX, p_dkOfN]
@[simp] theorem p_allocK {o : MO} : Post (alloc o M) Q E ↔ Q (.loc M.length) (M ++ [some o]) := Iff.rfl
@[simp] theorem p_fdF : Post (fdF fs M) Q E ↔ Q (.dk fs) M := Iff.rfl
@[simp] theorem p_fdN : Post (fdN fs M) Q E ↔ Q (.loc M.length) (M ++ [some (.dk fs)]) := Iff.rfl
@[simp] theorem p_eDc {fr : List (Key × D) → Py D} {dc : DEnv → Py (List (Key × D))} : Post (eDc fr dc ρ M) Q E ↔ Post (dc ρ M) (fun fs M1 => Post (fr fs M1) Q E) E := by
  unfold eDc; rw [post_bnd]
@[simp] theorem p_dcAll {vs : List Nat} {it : DEnv → Py Wk} {tg : D → DEnv → Py DEnv} {tt : DEnv → Py Bool} {fk fv : DEnv → Py D} : Post (dcAll vs it tg tt fk fv ρ M) QK E ↔ Post (it ρ M) (fun w M1 => Post (dcD w.ok tg tt fk fv (wipeD ρ vs) w.ds [] M1) QK (fun _ _ => False)) E := by
  unfold dcAll; rw [post_bnd]; simp only [p_noX]
theorem putG_len {fs : List (Key × D)} {k : Key} {v : D} : (putG fs k v).length ≤ fs.length + 1 := by
  unfold putG
  split
  · rw [List.length_map]; omega
  · rw [List.length_append]; exact Nat.le_refl _
/-- one that changes nothing, without a test -/
theorem dc_map {α : Type} {ok : Store → Prop} {tg : D → DEnv → Py DEnv} {fk fv : DEnv → Py D} (g : α → D) (kf : α → Key) (vf : α → D) (hok : ok M) :
    ∀ (l : List α) (acc : List (Key × D)), acc.length + l.length ≤ sizeLine →
    (∀ x ∈ l, Post (tg (g x) ρ M) (fun ρ1 M1 => Post (fk ρ1 M1) (fun y M2 => keyD y = some (kf x) ∧ Post (fv ρ1 M2) (fun z M3 => M3 = M ∧ z = vf x) E) E) E) →
    QK (l.foldl (fun acc x => putG acc (kf x) (vf x)) acc) M → Post (dcD ok tg tYesD fk fv ρ (l.map g) acc M) QK E
  | [], acc, _, _, q => by
    show Post (okM ok (Py.ret acc) M) QK E
    rw [okM_true hok]; exact q
  | x :: l, acc, hz, h, q => by
    have hz2 : acc.length + (l.length + 1) ≤ sizeLine := hz
    show Post (okM ok (Py.bnd (tg (g x) ρ) fun ρ1 => Py.bnd (tYesD ρ1) fun b => if b then Py.bnd (fk ρ1) fun y => Py.bnd (fv ρ1) fun z => keyK y fun k => Py.chk (acc.length < sizeLine) (dcD ok tg tYesD fk fv ρ (l.map g) (putG acc k z)) else dcD ok tg tYesD fk fv ρ (l.map g) acc) M) QK E
    rw [okM_true hok]
    refine post_bnd.mpr ((h x (List.mem_cons_self ..)).imp fun ρ1 M1 h1 => ?_)
    refine post_bnd.mpr ?_
    rw [p_tYes, if_pos rfl]
    refine post_bnd.mpr (h1.imp fun y M2 h2 => ?_)
    obtain ⟨ek, h3⟩ := h2
    refine post_bnd.mpr (h3.imp fun z M3 h4 => ?_)
    obtain ⟨e1, e2⟩ := h4
    rw [e1, e2]
    unfold keyK
    rw [ek]
    refine post_chk.mpr ⟨by omega, dc_map g kf vf hok l _ ?_ (fun x hx => h x (List.mem_cons_of_mem _ hx)) q⟩
    have := putG_len (fs := acc) (k := kf x) (v := vf x)
    omega
/-- a comprehension over a list of things -/
theorem lc_mapA {α : Type} {ok : Store → Prop} {tg : D → DEnv → Py DEnv} {fe : DEnv → Py D} (g f : α → D) (hok : ok M) :
    ∀ (l : List α) (acc : List D), acc.length + l.length ≤ sizeLine →
    (∀ x ∈ l, Post (tg (g x) ρ M) (fun ρ1 M1 => Post (fe ρ1 M1) (fun y M3 => M3 = M ∧ y = f x) E) E) →
    QL (acc ++ l.map f) M → Post (lcD ok tg tYesD fe ρ (l.map g) acc M) QL E
  | [], acc, _, _, q => by
    show Post (okM ok (Py.ret acc) M) QL E
    rw [okM_true hok]
    rw [List.map_nil, List.append_nil] at q
    exact q
  | x :: l, acc, hz, h, q => by
    have hz2 : acc.length + (l.length + 1) ≤ sizeLine := hz
    show Post (lcD ok tg tYesD fe ρ (g x :: l.map g) acc M) QL E
    unfold lcD
    rw [okM_true hok]
    refine post_bnd.mpr ((h x (List.mem_cons_self ..)).imp fun ρ1 M1 h1 => ?_)
    refine post_bnd.mpr ?_
    rw [p_tYes, if_pos rfl]
    refine post_bnd.mpr (h1.imp fun y M2 h2 => ?_)
    obtain ⟨e1, e2⟩ := h2
    rw [e1, e2]
    refine post_chk.mpr ⟨by omega, lc_mapA g f hok l _ (by rw [List.length_append]; show acc.length + 1 + _ ≤ _; omega) (fun x hx => h x (List.mem_cons_of_mem _ hx)) ?_⟩
    rw [List.append_assoc]
    exact q
/-- .. with a test -/
theorem lc_filA {α : Type} {ok : Store → Prop} {tg : D → DEnv → Py DEnv} {tt : DEnv → Py Bool} {fe : DEnv → Py D} (g f : α → D) (p : α → Bool) (hok : ok M) :
    ∀ (l : List α) (acc : List D), acc.length + l.length ≤ sizeLine →
    (∀ x ∈ l, Post (tg (g x) ρ M) (fun ρ1 M1 => Post (tt ρ1 M1) (fun b M2 => b = p x ∧ if p x = true then Post (fe ρ1 M2) (fun y M3 => M3 = M ∧ y = f x) E else M2 = M) E) E) →
    QL (acc ++ (l.filter p).map f) M → Post (lcD ok tg tt fe ρ (l.map g) acc M) QL E
  | [], acc, _, _, q => by
    show Post (okM ok (Py.ret acc) M) QL E
    rw [okM_true hok]
    rw [List.filter_nil, List.map_nil, List.append_nil] at q
    exact q
  | x :: l, acc, hz, h, q => by
    have hz2 : acc.length + (l.length + 1) ≤ sizeLine := hz
    show Post (lcD ok tg tt fe ρ (g x :: l.map g) acc M) QL E
    unfold lcD
    rw [okM_true hok]
    refine post_bnd.mpr ((h x (List.mem_cons_self ..)).imp fun ρ1 M1 h1 => post_bnd.mpr (h1.imp fun b M2 h2 => ?_))
    obtain ⟨rfl, h3⟩ := h2
    by_cases hp : p x = true
    · rw [if_pos hp] at h3 ⊢
      refine post_bnd.mpr (Post.imp h3 fun y M3 h4 => ?_)
      obtain ⟨e1, e2⟩ := h4
      rw [e1, e2]
      refine post_chk.mpr ⟨by omega, lc_filA g f p hok l _ (by rw [List.length_append]; show acc.length + 1 + _ ≤ _; omega) (fun x hx => h x (List.mem_cons_of_mem _ hx)) ?_⟩
      rw [List.filter_cons_of_pos hp] at q
      rw [List.append_assoc]
      exact q
    · rw [if_neg hp] at h3 ⊢
      rw [h3]
      refine lc_filA g f p hok l _ (by omega) (fun x hx => h x (List.mem_cons_of_mem _ hx)) ?_
      rw [List.filter_cons_of_neg hp] at q
      exact q
@[simp] theorem p_tyChk_k : Post (tyChk "dict" (.loc n) M) QU E ↔ LocK M n fun _ => QU () M := by
  unfold tyChk LocK
  dsimp only
  rcases M[n]? with _ | _ | (_ | _ | _ | _) <;> first | exact Iff.rfl | (rw [if_pos rfl]; exact Iff.rfl) | (rw [if_neg (by decide)]; exact Iff.rfl)
@[simp] theorem p_upd_k {gs : List (Key × D)} : Post (updDk (.loc n) [.dk gs] M) Q E ↔ LocK M n fun fs => fs.length + gs.length ≤ sizeLine ∧ Q .non (M.set n (some (.dk (mergeG fs gs)))) := by
  show Post (updL gs (.loc n) M) Q E ↔ _
  unfold updL LocK
  dsimp only
  rcases M[n]? with _ | _ | (_ | fs | _ | _) <;> first | exact Iff.rfl | skip
  dsimp only
  split
  · rename_i h; exact ⟨fun z => ⟨h, z⟩, fun z => z.2⟩
  · rename_i h; exact ⟨fun z => z.elim, fun z => (h z.1).elim⟩
@[simp] theorem p_ePop2 : Post (ePop2 fa fb fc ρ M) Q E ↔ Post (fa ρ M) (fun d M1 => Post (chkDk d M1) (fun _ M2 => Post (fb ρ M2) (fun y M3 => Post (fc ρ M3) (fun z M4 => Post (popDk d y z M4) Q E) E) E) E) E := by
  unfold ePop2; simp only [post_bnd]
@[simp] theorem p_eGet2 : Post (eGet2 fa fb fc ρ M) Q E ↔ Post (fa ρ M) (fun d M1 => Post (chkDk d M1) (fun _ M2 => Post (fb ρ M2) (fun y M3 => Post (fc ρ M3) (fun z M4 => Post (getDk d y z M4) Q E) E) E) E) E := by
  unfold eGet2; simp only [post_bnd]
theorem chkDk_k (h : M[n]? = some (some (.dk fs))) : Post (chkDk (.loc n) M) QU E ↔ QU () M := by
  unfold chkDk isDk; simp only [h]; exact Iff.rfl
@[simp] theorem chkDk_d : Post (chkDk (.dk fs) M) QU E ↔ QU () M := Iff.rfl
@[simp] theorem getDk_d {k : Key} (hk : keyD d = some k) : Post (getDk (.dk fs) d e M) Q E ↔ Q ((valG fs k).getD e) M := by
  unfold getDk dgetM; simp only [hk, Option.map_some]; exact Iff.rfl
theorem getDk_k {k : Key} (h : M[n]? = some (some (.dk fs))) (hk : keyD d = some k) : Post (getDk (.loc n) d e M) Q E ↔ Q ((valG fs k).getD e) M := by
  unfold getDk dgetM; simp only [h, hk, Option.map_some]; exact Iff.rfl
theorem popDk_k {k : Key} (h : M[n]? = some (some (.dk fs))) (hk : keyD d = some k) : Post (popDk (.loc n) d e M) Q E ↔ Q ((valG fs k).getD e) (if (valG fs k).isSome then M.set n (some (.dk (dropG fs k))) else M) := by
  unfold popDk; simp only [h, hk]
  cases valG fs k <;> exact Iff.rfl
@[simp] theorem p_sSubU : Post (sSubU fa fb fc ρ M) QF E ↔ Post (fc ρ M) (fun v M1 => Post (fa ρ M1) (fun o M2 => Post (fb ρ M2) (fun k M3 => Post (setU o k v M3) (fun _ M4 => QF (.nx ρ) M4) E) E) E) E := by
  unfold sSubU; simp only [post_bnd]; exact Iff.rfl
theorem setU_k {k : Key} (h : M[n]? = some (some (.dk fs))) (hk : keyD d = some k) : Post (setU (.loc n) d v M) QU E ↔ fs.length < sizeLine ∧ QU () (M.set n (some (.dk (putG fs k v)))) := by
  unfold setU; simp only [h, hk]
  split
  · rename_i z; exact ⟨fun w => ⟨z, w⟩, fun w => w.2⟩
  · rename_i z; exact ⟨fun w => w.elim, fun w => (z w.1).elim⟩
theorem inU_k {k : Key} (h : M[n]? = some (some (.dk fs))) (hk : keyD d = some k) : Post (inU d (.loc n) M) Q E ↔ Q (.bl (valG fs k).isSome) M := by
  unfold inU isDk inK dgetM; simp only [h, hk]; exact Iff.rfl
theorem notInU_k {k : Key} (h : M[n]? = some (some (.dk fs))) (hk : keyD d = some k) : Post (notInU d (.loc n) M) Q E ↔ Q (.bl (!(valG fs k).isSome)) M := by
  unfold notInU isDk inK dgetM; simp only [h, hk]; exact Iff.rfl
theorem ixU_k {k : Key} (h : M[n]? = some (some (.dk fs))) (hk : keyD d = some k) : Post (ixU (.loc n) d M) Q E ↔ SomeP (valG fs k) fun v => Q v M := by
  unfold ixU dgetM; simp only [h, hk, Option.map_some]
  cases valG fs k <;> exact Iff.rfl
theorem ixU_d {k : Key} (hk : keyD d = some k) : Post (ixU (.dk fs) d M) Q E ↔ SomeP (valG fs k) fun v => Q v M := by
  unfold ixU dgetM; simp only [hk, Option.map_some]
  cases valG fs k <;> exact Iff.rfl
@[simp] theorem p_ixU_tup : Post (ixU (.tup xs) (.int i) M) Q E ↔ AtP xs i fun d => Q d M := p_ix_tup
@[simp] theorem p_ixU_lst : Post (ixU (.lst xs) (.int i) M) Q E ↔ AtP xs i fun d => Q d M := p_ix_lst
theorem ixU_l (h : M[n]? = some (some (.lst xs))) : Post (ixU (.loc n) (.int i) M) Q E ↔ AtP xs i fun d => Q d M := by
  have e : dgetM M (.loc n) (.int i) = none := by unfold dgetM; simp only [h]
  show Post ((match dgetM M (.loc n) (.int i) with | some (some d) => .ok d M | some none => .bad | none => ixD (.loc n) (.int i) M) : Out D) Q E ↔ _
  rw [e]
  exact p_ix_loc h
@[simp] theorem keyD_int' : keyD (.int i) = some (.inl i) := rfl
@[simp] theorem keyD_str' {z : Str} : keyD (.str z) = some (.inr z) := rfl
/-! sorted -/
theorem sortD_k {fr : List D → Py D} (h : M[n]? = some (some (.dk fs))) : Post (sortD fr (.loc n) M) Q E ↔ SomeP (keyInts (fs.map (·.1))) fun ns => Post (fr ((sortL ns).map D.int) M) Q E := by
  unfold sortD dkeysM; simp only [h]
  cases keyInts (fs.map (·.1)) <;> exact Iff.rfl
theorem p_sortK {fr : List D → Py D} {o : Option (List Int)} : Post (sortK fr o M) Q E ↔ SomeP o fun ns => Post (fr ((sortL ns).map D.int) M) Q E := by
  cases o <;> exact Iff.rfl
@[simp] theorem p_sortD_lst {fr : List D → Py D} : Post (sortD fr (.lst xs) M) Q E ↔ SomeP (intsOf xs) fun ns => Post (fr ((sortL ns).map D.int) M) Q E := by
  show Post (Py.bnd (litems (.lst xs)) (fun ds => sortK fr (intsOf ds)) M) Q E ↔ _
  exact post_bnd.trans p_sortK
theorem p_sortSetK {fr : List D → Py D} {o : Option (List Int)} : Post (sortSetK fr o M) Q E ↔ SomeP o fun ns => (dd ns).length < 64 ∧ Post (fr ((sortL (dd ns)).map D.int) M) Q E := by
  cases o with
  | none => exact Iff.rfl
  | some ns => exact post_chk
@[simp] theorem p_sortSet_lst {fr : List D → Py D} : Post (sortSetD fr [.lst xs] M) Q E ↔ SomeP (intsOf xs) fun ns => (dd ns).length < 64 ∧ Post (fr ((sortL (dd ns)).map D.int) M) Q E := by
  show Post (Py.bnd (litems (.lst xs)) (fun ds => sortSetK fr (intsOf ds)) M) Q E ↔ _
  exact post_bnd.trans p_sortSetK
theorem sortSet_l {fr : List D → Py D} (h : M[n]? = some (some (.lst xs))) : Post (sortSetD fr [.loc n] M) Q E ↔ SomeP (intsOf xs) fun ns => (dd ns).length < 64 ∧ Post (fr ((sortL (dd ns)).map D.int) M) Q E := by
  refine post_bnd.trans ?_
  show Post (items (.loc n) M) _ E ↔ _
  rw [p_items_loc h]
  exact p_sortSetK
@[simp] theorem keyInts_map' : keyInts (ns.map Sum.inl) = some ns := by
  induction ns with
  | nil => rfl
  | cons x r ih => show (keyInts (r.map Sum.inl)).map _ = _; rw [ih]; rfl
/-! lists that change -/
@[simp] theorem p_extend_l : Post (extendD (.loc n) [.lst ys] M) Q E ↔ LocL M n fun xs => xs.length + ys.length ≤ sizeLine ∧ Q .non (M.set n (some (.lst (xs ++ ys)))) := by
  unfold extendD
  rw [p_locL]
  have e : ∀ xs : List D, Post ((Py.bnd (exItems (.lst ys)) fun ys => Py.chk (xs.length + ys.length ≤ sizeLine) (putL n (xs ++ ys) .non)) M) Q E ↔ xs.length + ys.length ≤ sizeLine ∧ Q .non (M.set n (some (.lst (xs ++ ys)))) := fun xs => post_chk
  simp only [e]
@[simp] theorem p_extend_t : Post (extendD (.loc n) [.tup ys] M) Q E ↔ LocL M n fun xs => xs.length + ys.length ≤ sizeLine ∧ Q .non (M.set n (some (.lst (xs ++ ys)))) := by
  unfold extendD
  rw [p_locL]
  have e : ∀ xs : List D, Post ((Py.bnd (exItems (.tup ys)) fun ys => Py.chk (xs.length + ys.length ≤ sizeLine) (putL n (xs ++ ys) .non)) M) Q E ↔ xs.length + ys.length ≤ sizeLine ∧ Q .non (M.set n (some (.lst (xs ++ ys)))) := fun xs => post_chk
  simp only [e]
theorem pop_l (h : M[n]? = some (some (.lst (xs ++ [d])))) : Post (popD (.loc n) [] M) Q E ↔ Q d (M.set n (some (.lst xs))) := by
  unfold popD locL
  simp only [h]
  rw [show (xs ++ [d])[(xs ++ [d]).length - 1]? = some d by simp, List.dropLast_concat]
  exact Iff.rfl
@[simp] theorem p_lstN_tup : Post (lstN (.tup xs) M) Q E ↔ Q (.loc M.length) (M ++ [some (.lst xs)]) := Iff.rfl
@[simp] theorem p_lstN_lst : Post (lstN (.lst xs) M) Q E ↔ Q (.loc M.length) (M ++ [some (.lst xs)]) := Iff.rfl
@[simp] theorem p_rng3 : Post (iRng3D ff ρ M) QW E ↔ Post (ff ρ M) (fun ds M1 => Post (rngW3 ds M1) QW E) E := by
  unfold iRng3D; rw [post_bnd]
@[simp] theorem p_rngW3 {k : Int} : Post (rngW3 [.int i, .int j, .int k] M) QW E ↔ (-(2 ^ 62) ≤ i ∧ i < 2 ^ 62 ∧ -(2 ^ 62) ≤ j ∧ j < 2 ^ 62 ∧ k = -1) ∧ QW ⟨rngDn i j, fun _ => True⟩ M := post_chk
@[simp] theorem p_mulLn {k : Int} : Post (mulLn (.lst xs) (.int k) M) Q E ↔ (-(2 ^ 63) ≤ k ∧ k < 2 ^ 63 ∧ xs.length * k.toNat ≤ sizeLine) ∧ Q (.loc M.length) (M ++ [some (.lst (List.replicate k.toNat xs).flatten)]) := post_bnd.trans post_chk
@[simp] theorem p_fzL : Post (fzL n sb ρ M) QF E ↔ Post (getV ρ[n]? M) (fun d M1 => Post (locL d (fun m xs => fun M => sb (ρ.set n (some (.lst xs))) (M.set m none)) M1) QF E) E := by
  unfold fzL; rw [post_bnd]
theorem locL_l {α : Type} {R : α → Store → Prop} {k : Nat → List D → Py α} (h : M[n]? = some (some (.lst xs))) : Post (locL (.loc n) k M) R E ↔ Post (k n xs M) R E := by
  rw [p_locL, locL_of h]
theorem wk_l (h : M[n]? = some (some (.lst xs))) : Post (wkA (.loc n) M) QW E ↔ QW ⟨xs, fun M' => M'[n]? = some (some (.lst xs))⟩ M := by
  show Post ((match M[n]? with | some (some (.lst xs)) => .ok ⟨xs, fun M' => M'[n]? = some (some (.lst xs))⟩ M | _ => .bad : Out Wk)) QW E ↔ _
  simp only [h]; exact Iff.rfl
/-! whiles -/
theorem while_g {n : Nat} (I : Nat → DEnv → Store → Prop) (k : Nat) (hk : k < n) (h : I k ρ M)
    (step : ∀ k ρ M, I k ρ M → Post (ta ρ M) (fun c M1 => if c = true then Post (sa ρ M1) (turnF (fun ρ' M' => ∃ j, j < k ∧ I j ρ' M') QF) E else QF (.nx ρ) M1) E) : Post (whD ta sa n ρ M) QF E := by
  induction n generalizing ρ M k with
  | zero => omega
  | succ n ih =>
    show Post (Py.bnd (ta ρ) (fun c => if c then Py.bnd (sa ρ) (fun r => match r with
      | .nx ρ' => whD ta sa n ρ'
      | .ct ρ' => whD ta sa n ρ'
      | .bk ρ' => Py.ret (.nx ρ')
      | .rt v => Py.ret (.rt v)) else Py.ret (.nx ρ)) M) QF E
    refine post_bnd.mpr ((step k ρ M h).imp fun c M1 h1 => ?_)
    cases c with
    | false => exact h1
    | true =>
      rw [if_pos rfl] at h1 ⊢
      refine post_bnd.mpr (Post.imp h1 fun r M2 h2 => ?_)
      cases r with
      | nx ρ' => obtain ⟨j, hj, h3⟩ := h2; exact ih j (by omega) h3
      | ct ρ' => obtain ⟨j, hj, h3⟩ := h2; exact ih j (by omega) h3
      | bk ρ' => exact h2
      | rt v => exact h2
theorem while_rule {n : Nat} (I : DEnv → Store → Prop) (m : DEnv → Store → Nat) (h : I ρ M) (hm : m ρ M < n)
    (step : ∀ ρ M, I ρ M → Post (ta ρ M) (fun c M1 => if c = true then Post (sa ρ M1) (turnF (fun ρ' M' => I ρ' M' ∧ m ρ' M' < m ρ M) QF) E else QF (.nx ρ) M1) E) : Post (whD ta sa n ρ M) QF E := by
  induction n generalizing ρ M with
  | zero => omega
  | succ n ih =>
    show Post (Py.bnd (ta ρ) (fun c => if c then Py.bnd (sa ρ) (fun r => match r with
      | .nx ρ' => whD ta sa n ρ'
      | .ct ρ' => whD ta sa n ρ'
      | .bk ρ' => Py.ret (.nx ρ')
      | .rt v => Py.ret (.rt v)) else Py.ret (.nx ρ)) M) QF E
    refine post_bnd.mpr ((step ρ M h).imp fun c M1 h1 => ?_)
    cases c with
    | false => exact h1
    | true =>
      rw [if_pos rfl] at h1 ⊢
      refine post_bnd.mpr (Post.imp h1 fun r M2 h2 => ?_)
      cases r with
      | nx ρ' => have := h2.2; exact ih h2.1 (by omega)
      | ct ρ' => have := h2.2; exact ih h2.1 (by omega)
      | bk ρ' => exact h2
      | rt v => exact h2
end
/-! more about dicts -/
section
variable {κ : Type} [DecidableEq κ] {fs gs : List (κ × D)} {k j : κ} {v : D}
theorem valG_isSome : (valG fs k).isSome = true ↔ k ∈ fs.map (·.1) := by
  unfold valG
  rw [Option.isSome_map, List.find?_isSome]
  simp only [decide_eq_true_eq, List.mem_map]
theorem putG_keys : (putG fs k v).map (·.1) = if k ∈ fs.map (·.1) then fs.map (·.1) else fs.map (·.1) ++ [k] := by
  unfold putG
  have e : (fs.any fun kv => decide (kv.1 = k)) = true ↔ k ∈ fs.map (·.1) := by
    rw [List.any_eq_true, List.mem_map]
    simp only [decide_eq_true_eq]
  by_cases h : k ∈ fs.map (·.1)
  · rw [if_pos (e.mpr h), if_pos h, List.map_map]
    refine List.map_congr_left fun p _ => ?_
    show (if p.1 = k then (p.1, v) else p).1 = p.1
    split <;> rfl
  · rw [if_neg (fun z => h (e.mp z)), if_neg h, List.map_append]; rfl
theorem putG_mem : j ∈ (putG fs k v).map (·.1) ↔ j ∈ fs.map (·.1) ∨ j = k := by
  rw [putG_keys]
  split
  · rename_i h
    exact ⟨.inl, fun z => z.elim (fun x => x) fun e => e ▸ h⟩
  · rw [List.mem_append, List.mem_singleton]
theorem putG_nodup (h : (fs.map (·.1)).Nodup) : ((putG fs k v).map (·.1)).Nodup := by
  rw [putG_keys]
  split
  · exact h
  · rename_i hk
    exact List.nodup_append.mpr ⟨h, by simp, fun a ha b hb e => by rw [List.mem_singleton] at hb; subst hb; subst e; exact hk ha⟩
theorem dropG_mem : j ∈ (dropG fs k).map (·.1) ↔ j ∈ fs.map (·.1) ∧ j ≠ k := by
  unfold dropG
  simp only [List.mem_map, List.mem_filter, decide_eq_true_eq]
  constructor
  · rintro ⟨p, ⟨h1, h2⟩, rfl⟩; exact ⟨⟨p, h1, rfl⟩, h2⟩
  · rintro ⟨⟨p, h1, rfl⟩, h2⟩; exact ⟨p, ⟨h1, h2⟩, rfl⟩
theorem dropG_nodup (h : (fs.map (·.1)).Nodup) : ((dropG fs k).map (·.1)).Nodup := (List.filter_sublist.map _).nodup h
theorem putG_val : valG (putG fs k v) j = if j = k then some v else valG fs j := by
  unfold putG valG
  by_cases h : (fs.any fun kv => decide (kv.1 = k)) = true
  · rw [if_pos h]
    rw [List.find?_map]
    by_cases e : j = k
    · subst e
      rw [if_pos rfl]
      have e2 : ((fun kv : κ × D => decide (kv.1 = j)) ∘ fun kv => if kv.1 = j then (kv.1, v) else kv) = fun kv => decide (kv.1 = j) := by
        funext kv; show decide ((if kv.1 = j then (kv.1, v) else kv).1 = j) = _; split <;> rfl
      rw [e2]
      obtain ⟨p, hp, hk⟩ := List.any_eq_true.mp h
      cases q : fs.find? fun kv => decide (kv.1 = j) with
      | none => exact absurd hk (by simpa using List.find?_eq_none.mp q p hp)
      | some p =>
        have hq := List.find?_some q
        simp only [decide_eq_true_eq] at hq
        show some (if p.1 = j then (p.1, v) else p).2 = _
        rw [if_pos hq]
    · rw [if_neg e]
      have e2 : ((fun kv : κ × D => decide (kv.1 = j)) ∘ fun kv => if kv.1 = k then (kv.1, v) else kv) = fun kv => decide (kv.1 = j) := by
        funext kv; show decide ((if kv.1 = k then (kv.1, v) else kv).1 = j) = _; split <;> rfl
      rw [e2]
      cases q : fs.find? fun kv => decide (kv.1 = j) with
      | none => rfl
      | some p =>
        have hq := List.find?_some q
        simp only [decide_eq_true_eq] at hq
        show some (if p.1 = k then (p.1, v) else p).2 = some p.2
        rw [if_neg (fun z => e (hq.symm.trans z))]
  · rw [if_neg h, List.find?_append]
    by_cases e : j = k
    · subst e
      rw [if_pos rfl]
      have : fs.find? (fun kv => decide (kv.1 = j)) = none := List.find?_eq_none.mpr fun p hp z => h (List.any_eq_true.mpr ⟨p, hp, z⟩)
      rw [this]
      rw [Option.none_or]
      rw [List.find?_cons_of_pos (by simp)]
      rfl
    · rw [if_neg e]
      cases q : fs.find? fun kv => decide (kv.1 = j) with
      | some p => rfl
      | none =>
        rw [Option.none_or]
        rw [List.find?_cons_of_neg (by simp [Ne.symm e])]
        rfl
theorem mergeG_mem : ∀ (gs fs : List (κ × D)), j ∈ (mergeG fs gs).map (·.1) ↔ j ∈ fs.map (·.1) ∨ j ∈ gs.map (·.1)
  | [], fs => by show j ∈ fs.map (·.1) ↔ _; simp
  | g :: gs, fs => by
    show j ∈ (mergeG (putG fs g.1 g.2) gs).map (·.1) ↔ _
    rw [mergeG_mem gs, putG_mem, List.map_cons, List.mem_cons, or_assoc]
theorem mergeG_nodup : ∀ (gs fs : List (κ × D)), (fs.map (·.1)).Nodup → ((mergeG fs gs).map (·.1)).Nodup
  | [], fs, h => h
  | g :: gs, fs, h => mergeG_nodup gs _ (putG_nodup h)
end
/-! sorted lists -/
theorem sortL_ext {a b : List Int} (ha : a.Nodup) (hb : b.Nodup) (h : ∀ x, x ∈ a ↔ x ∈ b) : sortL a = sortL b := by
  have p : a.Perm b := (List.perm_ext_iff_of_nodup ha hb).mpr h
  exact sortL_eq ((sortL_perm a).trans p) (sortL_asc a)
theorem mem_sortL {a : List Int} {x : Int} : x ∈ sortL a ↔ x ∈ a := (sortL_perm a).mem_iff
section
variable {QL : List D → Store → Prop} {E : Exn → Store → Prop} {M : Store} {ρ : DEnv} {d : D}
/-- between two steps -/
def midF (I : DEnv → Store → Prop) (QF : Fl → Store → Prop) : Fl → Store → Prop
  | .nx ρ, M => I ρ M
  | r, M => QF r M
section
variable {I : DEnv → Store → Prop} {QF : Fl → Store → Prop}
@[simp] theorem midF_nx : midF I QF (.nx ρ) M ↔ I ρ M := Iff.rfl
@[simp] theorem midF_rt : midF I QF (.rt d) M ↔ QF (.rt d) M := Iff.rfl
@[simp] theorem midF_bk : midF I QF (.bk ρ) M ↔ QF (.bk ρ) M := Iff.rfl
@[simp] theorem midF_ct : midF I QF (.ct ρ) M ↔ QF (.ct ρ) M := Iff.rfl
theorem seq_mid {sa sb : DEnv → Py Fl} (I : DEnv → Store → Prop) (h1 : Post (sa ρ M) (midF I QF) E) (h2 : ∀ ρ M, I ρ M → Post (sb ρ M) QF E) : Post (sSeq sa sb ρ M) QF E := by
  rw [p_sSeq]
  refine h1.imp fun r M1 z => ?_
  cases r with
  | nx ρ1 => exact h2 ρ1 M1 z
  | _ => exact z
end
end
theorem nodup_len {α : Type} [DecidableEq α] : ∀ {l m : List α}, l.Nodup → (∀ x ∈ l, x ∈ m) → l.length ≤ m.length
  | [], m, _, _ => Nat.zero_le _
  | a :: l, m, h, k => by
    have ha : a ∈ m := k a (List.mem_cons_self ..)
    have h2 := (List.nodup_cons.mp h)
    have := nodup_len (l := l) (m := m.erase a) h2.2 fun x hx => (List.mem_erase_of_ne (fun e : x = a => h2.1 (by rw [← e]; exact hx))).mpr (k x (List.mem_cons_of_mem _ hx))
    rw [List.length_erase_of_mem ha] at this
    have := List.length_pos_of_mem ha
    rw [List.length_cons]; omega
section
variable {QL : List D → Store → Prop} {E : Exn → Store → Prop} {M : Store} {ρ : DEnv} {ok : Store → Prop} {tg : D → DEnv → Py DEnv} {tt : DEnv → Py Bool} {fe : DEnv → Py D} {d : D} {ds acc : List D}
theorem okM_iff {α : Type} {k : Py α} {R : α → Store → Prop} : Post (okM ok k M) R E ↔ ok M ∧ Post (k M) R E := by
  unfold okM
  by_cases h : ok M
  · rw [if_pos h]; exact ⟨fun z => ⟨h, z⟩, fun z => z.2⟩
  · rw [if_neg h]; exact ⟨fun z => z.elim, fun z => h z.1⟩
theorem lcD_nil : Post (lcD ok tg tt fe ρ [] acc M) QL E ↔ ok M ∧ QL acc M := by
  unfold lcD; exact okM_iff
theorem lcD_cons : Post (lcD ok tg tt fe ρ (d :: ds) acc M) QL E ↔ ok M ∧ Post (tg d ρ M) (fun ρ1 M1 => Post (tt ρ1 M1) (fun b M2 => if b = true then Post (fe ρ1 M2) (fun y M3 => acc.length < sizeLine ∧ Post (lcD ok tg tt fe ρ ds (acc ++ [y]) M3) QL E) E else Post (lcD ok tg tt fe ρ ds acc M2) QL E) E) E := by
  conv => lhs; unfold lcD
  rw [okM_iff]
  simp only [post_bnd, post_if, post_chk]
@[simp] theorem p_pNil {R : List (D × D) → Store → Prop} : Post (pNil ρ M) R E ↔ R [] M := Iff.rfl
@[simp] theorem p_pCons {fk fv : DEnv → Py D} {r : DEnv → Py (List (D × D))} {R : List (D × D) → Store → Prop} : Post (pCons fk fv r ρ M) R E ↔ Post (fk ρ M) (fun k M1 => Post (fv ρ M1) (fun v M2 => Post (r ρ M2) (fun ps M3 => R ((k, v) :: ps) M3) E) E) E := by
  unfold pCons; simp only [post_bnd]; exact Iff.rfl
theorem p_dkOf {ds : List (D × D)} {o : Option (List (Key × D))} {Q : D → Store → Prop} : Post (dkOf ds o M) Q E ↔ SomeP o fun fs => ds.length ≤ 15 ∧ Q (.dk (mergeD [] fs)) M := by
  cases o with
  | none => exact Iff.rfl
  | some fs => exact post_chk
@[simp] theorem p_eDisp {fp : DEnv → Py (List (D × D))} {Q : D → Store → Prop} : Post (eDisp fp ρ M) Q E ↔ Post (fp ρ M) (fun ds M1 => SomeP (keysD ds) fun fs => ds.length ≤ 15 ∧ Q (.dk (mergeD [] fs)) M1) (fun _ _ => False) := by
  unfold eDisp
  rw [post_bnd]
  simp only [p_noX, p_dkOf]
@[simp] theorem keysD_nil : keysD [] = some [] := rfl
@[simp] theorem keysD_str {z : Str} {v : D} {r : List (D × D)} : keysD ((.str z, v) :: r) = (keysD r).map fun r' => (.inr z, v) :: r' := rfl
@[simp] theorem keysD_int {z : Int} {v : D} {r : List (D × D)} : keysD ((.int z, v) :: r) = (keysD r).map fun r' => (.inl z, v) :: r' := rfl
theorem p_dkIx {fs : List (Key × D)} {k : Key} {Q : D → Store → Prop} : Post (dkIx fs (some k) M) Q E ↔ SomeP (valD fs k) fun d => Q d M := by
  cases h : valD fs k with
  | none =>
    have e : dkIx fs (some k) = Py.bad := by unfold dkIx; dsimp only; rw [h]
    rw [e]; exact Iff.rfl
  | some d =>
    have e : dkIx fs (some k) = Py.ret d := by unfold dkIx; dsimp only; rw [h]
    rw [e]; exact Iff.rfl
@[simp] theorem p_dix_str {fs : List (Key × D)} {z : Str} {Q : D → Store → Prop} : Post (dixD (.dk fs) (.str z) M) Q E ↔ SomeP (valD fs (.inr z)) fun d => Q d M := p_dkIx
@[simp] theorem p_dix_int {fs : List (Key × D)} {z : Int} {Q : D → Store → Prop} : Post (dixD (.dk fs) (.int z) M) Q E ↔ SomeP (valD fs (.inl z)) fun d => Q d M := p_dkIx
theorem isS_iff {x : D} {z : Str} : isS x z = true ↔ x = .str z := by
  cases x with
  | str a =>
    simp
    constructor <;> intro h <;> exact h.symm
  | _ => simp [isS]
theorem patch_len {xs : List D} {lo hi : Option Int} {m : Nat} (h : xs.length ≤ m) : (cutD xs none hi).length ≤ m ∧ (cutD xs lo none).length ≤ m := ⟨Nat.le_trans cutD_len h, Nat.le_trans cutD_len h⟩
theorem set_split {xs : List D} {k : Nat} {x : D} (h : k < xs.length) : cutD xs none (some (k : Int)) ++ [x] ++ cutD xs (some ((k : Int) + 1)) none = xs.set k x := by
  unfold cutD HT.sIx
  have h1 : ¬ ((k : Int) < 0) := by omega
  have h2 : ¬ ((k : Int) + 1 < 0) := by omega
  simp [h1, h2]
  rw [Nat.min_eq_left (Nat.le_of_lt h), Nat.min_eq_left (show k + 1 ≤ xs.length from h), List.take_of_length_le (l := List.drop (k + 1) xs) (by rw [List.length_drop]; omega), List.set_eq_take_append_cons_drop, if_pos h]
end
end L3
set_option Elab.async false
set_option linter.all false
set_option maxRecDepth 100000
set_option maxHeartbeats 4000000
set_option autoImplicit false
namespace L3
open PySem PySem.Spec L2
open PyProof.Rows hiding St
/-! data whose leaves are small: their text, their sameness -/
mutual
def okD (B : Nat) : D → Bool
  | .non => true
  | .bl _ => true
  | .int i => decide (i.natAbs < 10 ^ B)
  | .str x => PyData.strOk x
  | .tup xs => okDs B xs
  | .lst xs => okDs B xs
  | .ro xs => okDs B xs
  | .dk _ => false
  | .dkt _ => false
  | .ins _ _ => false
  | .loc _ => false
  | .ref _ => false
  | .ty _ => false
def okDs (B : Nat) : List D → Bool
  | [] => true
  | x :: xs => okD B x && okDs B xs
end
mutual
def depD : D → Nat
  | .tup xs => depDs xs + 1
  | .lst xs => depDs xs + 1
  | .ro xs => depDs xs + 1
  | .non => 0
  | .bl _ => 0
  | .int _ => 0
  | .str _ => 0
  | .dk _ => 0
  | .dkt _ => 0
  | .ins _ _ => 0
  | .loc _ => 0
  | .ref _ => 0
  | .ty _ => 0
def depDs : List D → Nat
  | [] => 0
  | x :: xs => max (depD x) (depDs xs)
end
mutual
def wtD (B : Nat) : D → Nat
  | .int _ => 4 * B + 1
  | .str x => x.cps.size
  | .tup xs => wtDs B xs
  | .lst xs => wtDs B xs
  | .ro xs => wtDs B xs
  | .non => 0
  | .bl _ => 0
  | .dk _ => 0
  | .dkt _ => 0
  | .ins _ _ => 0
  | .loc _ => 0
  | .ref _ => 0
  | .ty _ => 0
def wtDs (B : Nat) : List D → Nat
  | [] => 0
  | x :: xs => wtD B x + 1 + wtDs B xs
end
/-- what is known of it as data -/
structure SmD (B dep wt : Nat) (p : PyData) : Prop where
  lay : p.canLay0 = true
  dep : p.depth = dep
  short : p.leavesShort (B + 1) = true
  wt : p.weight ≤ wt
  show_ : B ≤ 100 → p.showable = true
structure SmDs (B dep wt : Nat) (p : List PyData) : Prop where
  lay : PyData.canLayAll0 p = true
  dep : PyData.depthAll p = dep
  short : PyData.leavesShortAll (B + 1) p = true
  wt : PyData.weightAll p ≤ wt
  show_ : B ≤ 100 → PyData.showableAll p = true
theorem log_small {n B : Nat} (h : n < 10 ^ B) : n.log2 ≤ 4 * B := by
  have h1 : (10 : Nat) ^ B ≤ 16 ^ B := Nat.pow_le_pow_left (by omega) B
  have h2 : (16 : Nat) ^ B = 2 ^ (4 * B) := by rw [show (16 : Nat) = 2 ^ 4 from rfl, ← Nat.pow_mul]
  by_cases h0 : n = 0
  · subst h0; simp
  · have := (Nat.log2_lt h0).mpr (show n < 2 ^ (4 * B) by omega)
    omega
theorem smD_int {B : Nat} {i : Int} (h : i.natAbs < 10 ^ B) : SmD B 0 (4 * B + 1) (.int i) := by
  have hl := log_small h
  refine ⟨rfl, by simp [PyData.depth], ?_, ?_, fun hB => ?_⟩
  · simp only [PyData.leavesShort, decide_eq_true_eq]
    by_cases hB : 0 < B
    · have := int_text_length_le10 (a := i) hB h
      show (Str.ofString (toString i)).length ≤ B + 1
      rw [PySem.ofString_length]
      exact this
    · have e : B = 0 := by omega
      subst e
      have : i = 0 := by omega
      subst this
      decide
  · simp only [PyData.weight]
    split <;> omega
  · simp only [PyData.showable, decide_eq_true_eq]
    have h1 : i.natAbs < 10 ^ 100 := Nat.lt_of_lt_of_le h (Nat.pow_le_pow_right (by omega) hB)
    by_cases h0 : i.natAbs = 0
    · rw [h0]; decide
    · refine (Nat.log2_lt h0).mpr (Nat.lt_of_lt_of_le h1 ?_)
      decide +kernel
mutual
theorem smD_of {B : Nat} : ∀ d : D, okD B d = true → ∃ p, pyD d = some p ∧ SmD B (depD d) (wtD B d) p
  | .non, _ => ⟨_, rfl, rfl, by simp [PyData.depth, depD], rfl, by simp [PyData.weight], fun _ => rfl⟩
  | .bl b, _ => ⟨_, rfl, rfl, by simp [PyData.depth, depD], rfl, by simp [PyData.weight], fun _ => rfl⟩
  | .int i, h => ⟨_, rfl, smD_int (of_decide_eq_true h)⟩
  | .str x, h => ⟨_, rfl, h, by simp [PyData.depth, depD], by
      have h0 : x.cps.all (· < 0x110000) = true := h
      simp only [PyData.leavesShort, List.all_eq_true, decide_eq_true_eq]
      intro c hc
      have := (Array.all_eq_true_iff_forall_mem.mp h0) c (Array.mem_toList_iff.mp hc)
      have h2 : c < 0x110000 := by simpa using this
      have e : (16 : Nat) ^ 8 = 4294967296 := by decide
      omega, by simp [PyData.weight, wtD], fun _ => rfl⟩
  | .tup xs, h => by
    obtain ⟨ps, e, q⟩ := smDs_of xs h
    exact ⟨.tuple ps, by show (pyL xs).map PyData.tuple = _; rw [e]; rfl, by simp only [PyData.canLay0]; exact q.lay, by simp only [PyData.depth, depD, q.dep], by simp only [PyData.leavesShort]; exact q.short, by simp only [PyData.weight, wtD]; exact q.wt, fun hB => by simp only [PyData.showable]; exact q.show_ hB⟩
  | .lst xs, h => by
    obtain ⟨ps, e, q⟩ := smDs_of xs h
    exact ⟨.list ps, by show (pyL xs).map PyData.list = _; rw [e]; rfl, by simp only [PyData.canLay0]; exact q.lay, by simp only [PyData.depth, depD, q.dep], by simp only [PyData.leavesShort]; exact q.short, by simp only [PyData.weight, wtD]; exact q.wt, fun hB => by simp only [PyData.showable]; exact q.show_ hB⟩
  | .ro xs, h => by
    obtain ⟨ps, e, q⟩ := smDs_of xs h
    exact ⟨.list ps, by show (pyL xs).map PyData.list = _; rw [e]; rfl, by simp only [PyData.canLay0]; exact q.lay, by simp only [PyData.depth, depD, q.dep], by simp only [PyData.leavesShort]; exact q.short, by simp only [PyData.weight, wtD]; exact q.wt, fun hB => by simp only [PyData.showable]; exact q.show_ hB⟩
  | .dk _, h => nomatch h
  | .dkt _, h => nomatch h
  | .ins _ _, h => nomatch h
  | .loc _, h => nomatch h
  | .ref _, h => nomatch h
  | .ty _, h => nomatch h
theorem smDs_of {B : Nat} : ∀ ds : List D, okDs B ds = true → ∃ ps, pyL ds = some ps ∧ SmDs B (depDs ds) (wtDs B ds) ps
  | [], _ => ⟨[], rfl, rfl, by simp [PyData.depthAll, depDs], rfl, by simp [PyData.weightAll], fun _ => rfl⟩
  | x :: xs, h => by
    have h' : okD B x = true ∧ okDs B xs = true := Bool.and_eq_true_iff.mp h
    obtain ⟨p, e, q⟩ := smD_of x h'.1
    obtain ⟨ps, e2, q2⟩ := smDs_of xs h'.2
    refine ⟨p :: ps, by show (pyD x).bind _ = _; rw [e]; show (pyL xs).map _ = _; rw [e2]; rfl, ?_, ?_, ?_, ?_, fun hB => ?_⟩
    · simp only [PyData.canLayAll0, q.lay, q2.lay, Bool.and_self]
    · simp only [PyData.depthAll, depDs, q.dep, q2.dep]
    · simp only [PyData.leavesShortAll, q.short, q2.short, Bool.and_self]
    · have := q.wt; have := q2.wt
      simp only [PyData.weightAll, wtDs]; omega
    · simp only [PyData.showableAll, q.show_ hB, q2.show_ hB, Bool.and_self]
end
theorem okDs_iff {B : Nat} : ∀ {xs : List D}, okDs B xs = true ↔ ∀ x ∈ xs, okD B x = true
  | [] => by simp [okDs]
  | x :: xs => by simp [okDs, okDs_iff (xs := xs)]
theorem depDs_le {n : Nat} : ∀ {xs : List D}, (∀ x ∈ xs, depD x ≤ n) → depDs xs ≤ n
  | [], _ => Nat.zero_le _
  | x :: xs, h => by
    show max (depD x) (depDs xs) ≤ n
    exact Nat.max_le.mpr ⟨h x (List.mem_cons_self ..), depDs_le fun y hy => h y (List.mem_cons_of_mem _ hy)⟩
theorem wtDs_le {B n : Nat} : ∀ {xs : List D}, (∀ x ∈ xs, wtD B x ≤ n) → wtDs B xs ≤ (n + 1) * xs.length
  | [], _ => Nat.zero_le _
  | x :: xs, h => by
    have h1 := h x (List.mem_cons_self ..)
    have h2 := wtDs_le (B := B) fun y hy => h y (List.mem_cons_of_mem _ hy)
    show wtD B x + 1 + wtDs B xs ≤ _
    rw [List.length_cons, Nat.mul_succ]; omega
/-- the text of data -/
def reprT (d : D) : Str := match pyD d with
  | some p => p.shown
  | none => ⟨#[]⟩
/-- it can be told -/
structure Tell (d : D) : Prop where
  ex : ∃ B, okD B d = true ∧ B ≤ 100 ∧ depD d < 60 ∧ (B + 3) * wtD B d + (B + 1) ≤ 16777216 ∧ 7 ≤ B
theorem pyM_eq {d : D} {p : PyData} {M : Store} (h : pyD d = some p) : pyM M d = some p := by
  cases d <;> first | exact h | cases h
theorem repr_eq {d : D} {M : Store} (h : Tell d) : reprD d M = .ok (.str (reprT d)) M := by
  obtain ⟨B, h1, h2, h3, h4, h5⟩ := h.ex
  obtain ⟨p, e, q⟩ := smD_of d h1
  have e2 : reprT d = p.shown := by unfold reprT; rw [e]
  rw [e2]
  refine reprD_ok (pyM_eq e) ?_
  unfold shows
  have hd : p.hasDict = false := PyData.hasDict_of_canLay p q.lay
  have hs := PyData.shown_le (B + 1) (by omega) p q.short
  have hw : (B + 3) * p.weight ≤ (B + 3) * wtD B d := Nat.mul_le_mul_left _ q.wt
  rw [show B + 1 + 2 = B + 3 by omega] at hs
  have hz : p.shown.length ≤ sizeLine := by rw [sizeLine_eq]; omega
  have hdep : p.depth < 60 := by rw [q.dep]; exact h3
  rw [q.show_ h2, hd, decide_eq_true hdep, decide_eq_true hz]
  rfl
/-- it can be held against other data -/
theorem shaped_of {B : Nat} {d : D} {p : PyData} (h : okD B d = true) (hd : depD d ≤ 64) (e : pyD d = some p) : SeqAt.shaped p = true := by
  obtain ⟨p', e', q⟩ := smD_of d h
  rw [e] at e'; cases e'
  unfold SeqAt.shaped
  simp only [q.lay, q.dep, Bool.true_and, decide_eq_true_eq]
  exact hd
theorem pyL_ints : ∀ ns : List Int, pyL (ns.map D.int) = some (ns.map PyData.int)
  | [] => rfl
  | n :: ns => by show (pyD (.int n)).bind _ = _; show (pyL (ns.map D.int)).map _ = _; rw [pyL_ints ns]; rfl
theorem shaped_int {i : Int} : SeqAt.shaped (.int i) = true := by
  have : PyData.depth (.int i) = 0 := by simp [PyData.depth]
  unfold SeqAt.shaped; rw [this]; rfl
theorem shaped_ints {ns : List Int} : SeqAt.shaped (.list (ns.map PyData.int)) = true := by
  have h1 : ∀ ns : List Int, PyData.canLayAll0 (ns.map PyData.int) = true := by
    intro ns; induction ns with
    | nil => rfl
    | cons n ns ih => simp only [List.map_cons, PyData.canLayAll0, ih, Bool.and_true]; rfl
  have h2 : ∀ ns : List Int, PyData.depthAll (ns.map PyData.int) = 0 := by
    intro ns; induction ns with
    | nil => simp [PyData.depthAll]
    | cons n ns ih => simp [PyData.depthAll, ih, PyData.depth]
  unfold SeqAt.shaped
  simp only [PyData.canLay0, PyData.depth, h1, h2]; rfl
theorem eqv_int {i j : Int} : PyData.eqv (.int i) (.int j) = decide (i = j) := by
  simp only [PyData.eqv]; rfl
theorem any_eqv {i : Int} : ∀ ns : List Int, ((ns.map PyData.int).any fun z => PyData.eqv z (.int i)) = decide (i ∈ ns)
  | [] => rfl
  | n :: ns => by
    rw [List.map_cons, List.any_cons, any_eqv ns, eqv_int]
    by_cases h : n = i
    · subst h; simp
    · have h' : ¬ i = n := fun e => h e.symm
      simp [h, h']
section
variable {Q : D → Store → Prop} {E : Exn → Store → Prop} {M : Store} {i : Int} {ns : List Int} {n : Nat} {neg : Bool}
theorem inDeep_ints {x : D} (h : pyM M x = some (.list (ns.map PyData.int)) ∨ pyM M x = some (.tuple (ns.map PyData.int))) : Post (inDeep neg (.int i) x M) Q E ↔ Q (.bl (if neg then !decide (i ∈ ns) else decide (i ∈ ns))) M := by
  have e0 : pyM M (.int i) = some (.int i) := rfl
  unfold inDeep
  rcases h with h | h <;>
  · rw [e0, h]
    dsimp only
    rw [shaped_int, shaped_ints, any_eqv]
    exact Iff.rfl
theorem notInU_l (h : M[n]? = some (some (.lst (ns.map D.int)))) : Post (notInU (.int i) (.loc n) M) Q E ↔ Q (.bl (!decide (i ∈ ns))) M := by
  have e : isDk M (.loc n) = false := by unfold isDk; simp only [h]
  have e2 : pyM M (.loc n) = some (.list (ns.map PyData.int)) := by
    unfold pyM; simp only [h, pyL_ints]; rfl
  have := inDeep_ints (neg := true) (Q := Q) (E := E) (i := i) (.inl e2)
  show Post ((if isDk M (.loc n) = true then inK true (.int i) (.loc n) M else inDeep true (.int i) (.loc n) M)) Q E ↔ _
  rw [e]
  exact this
theorem inU_l (h : M[n]? = some (some (.lst (ns.map D.int)))) : Post (inU (.int i) (.loc n) M) Q E ↔ Q (.bl (decide (i ∈ ns))) M := by
  have e : isDk M (.loc n) = false := by unfold isDk; simp only [h]
  have e2 : pyM M (.loc n) = some (.list (ns.map PyData.int)) := by
    unfold pyM; simp only [h, pyL_ints]; rfl
  have := inDeep_ints (neg := false) (Q := Q) (E := E) (i := i) (.inl e2)
  show Post ((if isDk M (.loc n) = true then inK false (.int i) (.loc n) M else inDeep false (.int i) (.loc n) M)) Q E ↔ _
  rw [e]
  exact this
theorem notInU_lst : Post (notInU (.int i) (.lst (ns.map D.int)) M) Q E ↔ Q (.bl (!decide (i ∈ ns))) M :=
  inDeep_ints (neg := true) (.inl (by show pyM M (.lst (ns.map D.int)) = _; exact pyM_eq (by show (pyL _).map _ = _; rw [pyL_ints]; rfl)))
theorem notInU_tup : Post (notInU (.int i) (.tup (ns.map D.int)) M) Q E ↔ Q (.bl (!decide (i ∈ ns))) M :=
  inDeep_ints (neg := true) (.inr (by show pyM M (.tup (ns.map D.int)) = _; exact pyM_eq (by show (pyL _).map _ = _; rw [pyL_ints]; rfl)))
theorem inU_lst : Post (inU (.int i) (.lst (ns.map D.int)) M) Q E ↔ Q (.bl (decide (i ∈ ns))) M :=
  inDeep_ints (neg := false) (.inl (by show pyM M (.lst (ns.map D.int)) = _; exact pyM_eq (by show (pyL _).map _ = _; rw [pyL_ints]; rfl)))
theorem inU_tup : Post (inU (.int i) (.tup (ns.map D.int)) M) Q E ↔ Q (.bl (decide (i ∈ ns))) M :=
  inDeep_ints (neg := false) (.inr (by show pyM M (.tup (ns.map D.int)) = _; exact pyM_eq (by show (pyL _).map _ = _; rw [pyL_ints]; rfl)))
end
end L3
set_option Elab.async false
set_option linter.all false
set_option maxRecDepth 100000
set_option maxHeartbeats 4000000
set_option autoImplicit false
namespace Qk19
open PySem PySem.Spec L2 L3
open PyProof.Rows hiding St
noncomputable def b_is_integer : DEnv → Py Fl :=
  (sRet (eAnd (eCall (twoD (isiTs allTs)) (aCons (eVar 0) (aCons (eC (.ty "int")) aNil))) (eNot (eCall (twoD (isiTs allTs)) (aCons (eVar 0) (aCons (eC (.ty "bool")) aNil))))))
noncomputable def m_is_integer : List D → Py D := runD 1 b_is_integer
noncomputable def b_is_within : DEnv → Py Fl :=
  (sRet (eAnd (eCall (nargs 1 m_is_integer) (aCons (eVar 0) aNil)) (eChain leI leI (eVar 1) (eVar 0) (eVar 2))))
noncomputable def m_is_within : List D → Py D := runD 3 b_is_within
noncomputable def b_is_number : DEnv → Py Fl :=
  (sRet (eCall (nargs 3 m_is_within) (aCons (eVar 0) (aCons (eC (.int 0)) (aCons (eVar 1) aNil)))))
noncomputable def m_is_number : List D → Py D := runD 2 b_is_number
noncomputable def b_is_name : DEnv → Py Fl :=
  (sRet (eCall (nargs 2 m_is_number) (aCons (eVar 0) (aCons (eOp subI (eC (.int 4)) (eC (.int 1))) aNil))))
noncomputable def m_is_name : List D → Py D := runD 1 b_is_name
noncomputable def b_is_plain_line : DEnv → Py Fl :=
  (sSeq (sIf (eTest (eOp (eqS false) (eOp ixD (eVar 0) (eC (.int 0))) (eC (.str (PySem.Str.ofString "hue")))))
    (sRet (eAnd (eOp (eqS false) (eCall (one lenD) (aCons (eVar 0) aNil)) (eC (.int 3))) (eAnd (eCall (nargs 1 m_is_name) (aCons (eOp ixD (eVar 0) (eC (.int 1))) aNil)) (eCall (nargs 2 m_is_number) (aCons (eOp ixD (eVar 0) (eC (.int 2))) (aCons (eC (.int 9)) aNil))))))
    sNext)
  (sSeq (sIf (eTest (eOp (eqS false) (eOp ixD (eVar 0) (eC (.int 0))) (eC (.str (PySem.Str.ofString "same")))))
    (sRet (eAnd (eOp (eqS false) (eCall (one lenD) (aCons (eVar 0) aNil)) (eC (.int 3))) (eAnd (eCall (nargs 1 m_is_name) (aCons (eOp ixD (eVar 0) (eC (.int 1))) aNil)) (eCall (nargs 1 m_is_name) (aCons (eOp ixD (eVar 0) (eC (.int 2))) aNil)))))
    sNext)
  (sSeq (sIf (tOrD (eTest (eOp (eqS true) (eOp ixD (eVar 0) (eC (.int 0))) (eC (.str (PySem.Str.ofString "tie"))))) (tOrD (eTest (eOp (eqS true) (eCall (one lenD) (aCons (eVar 0) aNil)) (eC (.int 4)))) (tNotD (eTest (eCall (nargs 2 m_is_number) (aCons (eOp ixD (eVar 0) (eC (.int 1))) (aCons (eC (.int 3)) aNil)))))))
    (sRet (eC (.bl false)))
    sNext)
  (sRet (eAnd (eCall (nargs 1 m_is_name) (aCons (eOp ixD (eVar 0) (eC (.int 2))) aNil)) (eCall (nargs 1 m_is_name) (aCons (eOp ixD (eVar 0) (eC (.int 3))) aNil)))))))
noncomputable def m_is_plain_line : List D → Py D := runD 1 b_is_plain_line
noncomputable def b_is_line : DEnv → Py Fl :=
  (sSeq (sIf (tOrD (tNotD (eTest (eCall (twoD (isiTs allTs)) (aCons (eVar 0) (aCons (eC (.ty "tuple")) aNil))))) (tOrD (eTest (eOp ltI (eCall (one lenD) (aCons (eVar 0) aNil)) (eC (.int 2)))) (tNotD (eTest (eCall (twoD (isiTs allTs)) (aCons (eOp ixD (eVar 0) (eC (.int 0))) (aCons (eC (.ty "str")) aNil)))))))
    (sRet (eC (.bl false)))
    sNext)
  (sSeq (sIf (eTest (eOp (eqS false) (eOp ixD (eVar 0) (eC (.int 0))) (eC (.str (PySem.Str.ofString "not")))))
    (sRet (eAnd (eOp (eqS false) (eCall (one lenD) (aCons (eVar 0) aNil)) (eC (.int 2))) (eCall (nargs 2 m_is_number) (aCons (eOp ixD (eVar 0) (eC (.int 1))) (aCons (eOp subI (eVar 1) (eC (.int 1))) aNil)))))
    sNext)
  (sSeq (sIf (tOrD (eTest (eOp (eqS false) (eOp ixD (eVar 0) (eC (.int 0))) (eC (.str (PySem.Str.ofString "all"))))) (eTest (eOp (eqS false) (eOp ixD (eVar 0) (eC (.int 0))) (eC (.str (PySem.Str.ofString "some"))))))
    (sSeq (sIf (tOrD (eTest (eOp (eqS true) (eCall (one lenD) (aCons (eVar 0) aNil)) (eC (.int 2)))) (tNotD (eTest (eCall (twoD (isiTs allTs)) (aCons (eOp ixD (eVar 0) (eC (.int 1))) (aCons (eC (.ty "tuple")) aNil))))))
    (sRet (eC (.bl false)))
    sNext)
  (sRet (eCall (one (blsD fun bs => bs.all _root_.id)) (aCons (eLcA frF (lcAll [2] (iSeq wkA (eOp ixD (eVar 0) (eC (.int 1)))) (gSet 2) tYesD (eCall (nargs 2 m_is_number) (aCons (eVar 2) (aCons (eOp subI (eVar 1) (eC (.int 1))) aNil))))) aNil))))
    sNext)
  (sSeq (sIf (eTest (eOp (eqS false) (eOp ixD (eVar 0) (eC (.int 0))) (eC (.str (PySem.Str.ofString "many")))))
    (sSeq (sIf (tOrD (eTest (eOp (eqS true) (eCall (one lenD) (aCons (eVar 0) aNil)) (eC (.int 4)))) (tOrD (tNotD (eTest (eCall (nargs 1 m_is_name) (aCons (eOp ixD (eVar 0) (eC (.int 1))) aNil)))) (tNotD (eTest (eCall (nargs 3 m_is_within) (aCons (eOp ixD (eVar 0) (eC (.int 2))) (aCons (eC (.int 1)) (aCons (eC (.int 40)) aNil))))))))
    (sRet (eC (.bl false)))
    sNext)
  (sRet (eCall (nargs 2 m_is_number) (aCons (eOp ixD (eVar 0) (eC (.int 3))) (aCons (eOp subI (eVar 1) (eC (.int 1))) aNil)))))
    sNext)
  (sRet (eCall (nargs 1 m_is_plain_line) (aCons (eVar 0) aNil)))))))
noncomputable def m_is_line : List D → Py D := runD 3 b_is_line
noncomputable def b_is_saying : DEnv → Py Fl :=
  (sSeq (sIf (tOrD (tNotD (eTest (eCall (twoD (isiTs allTs)) (aCons (eVar 0) (aCons (eC (.ty "tuple")) aNil))))) (eTest (eOp (eqS false) (eCall (one lenD) (aCons (eVar 0) aNil)) (eC (.int 0)))))
    (sRet (eC (.bl false)))
    sNext)
  (sRet (eCall (one (blsD fun bs => bs.all _root_.id)) (aCons (eLcA frF (lcAll [1, 2] (iEnumD wkLT (aCons (eVar 0) aNil)) (gUnp 2 (gsCons (gSet 1) (gsCons (gSet 2) gsNil))) tYesD (eCall (nargs 2 m_is_line) (aCons (eVar 2) (aCons (eVar 1) aNil))))) aNil))))
noncomputable def m_is_saying : List D → Py D := runD 3 b_is_saying
noncomputable def b_check_saying : DEnv → Py Fl :=
  (sIf (tNotD (eTest (eCall (nargs 1 m_is_saying) (aCons (eVar 0) aNil))))
    sBad
    sNext)
noncomputable def m_check_saying : List D → Py D := runD 1 b_check_saying
noncomputable def b_parts_told : DEnv → Py Fl :=
  (sSeq (sIf (eTest (eOp (eqS false) (eOp ixD (eVar 0) (eC (.int 0))) (eC (.str (PySem.Str.ofString "not")))))
    (sRet (eTup (aCons (eOp ixD (eVar 0) (eC (.int 1))) aNil)))
    sNext)
  (sSeq (sIf (eTest (eOp (eqS false) (eOp ixD (eVar 0) (eC (.int 0))) (eC (.str (PySem.Str.ofString "many")))))
    (sRet (eTup (aCons (eOp ixD (eVar 0) (eC (.int 3))) aNil)))
    sNext)
  (sRet (eIf (tOrD (eTest (eOp (eqS false) (eOp ixD (eVar 0) (eC (.int 0))) (eC (.str (PySem.Str.ofString "all"))))) (eTest (eOp (eqS false) (eOp ixD (eVar 0) (eC (.int 0))) (eC (.str (PySem.Str.ofString "some")))))) (eOp ixD (eVar 0) (eC (.int 1))) (eTup aNil)))))
noncomputable def m_parts_told : List D → Py D := runD 1 b_parts_told
noncomputable def b_names_told : DEnv → Py Fl :=
  (sSeq (sIf (eTest (eOp (eqS false) (eOp ixD (eVar 0) (eC (.int 0))) (eC (.str (PySem.Str.ofString "hue")))))
    (sRet (eTup (aCons (eOp ixD (eVar 0) (eC (.int 1))) aNil)))
    sNext)
  (sSeq (sIf (eTest (eOp (eqS false) (eOp ixD (eVar 0) (eC (.int 0))) (eC (.str (PySem.Str.ofString "same")))))
    (sRet (eSl (eVar 0) (oSome (eC (.int 1))) oNone))
    sNext)
  (sRet (eIf (eTest (eOp (eqS false) (eOp ixD (eVar 0) (eC (.int 0))) (eC (.str (PySem.Str.ofString "tie"))))) (eSl (eVar 0) (oSome (eC (.int 2))) oNone) (eTup aNil)))))
noncomputable def m_names_told : List D → Py D := runD 1 b_names_told
noncomputable def b_reached : DEnv → Py Fl :=
  (sSeq (sPar 2 3 (aCons (eDispN (pCons (eVar 1) (eC (.bl true)) pNil)) (aCons (eNew (aCons (eVar 1) aNil)) aNil)))
  (sSeq (whD (eTest (eOp gtI (eCall (one lenD) (aCons (eVar 3) aNil)) (eC (.int 0))))
    (sFor (iSeq wkA (eCall (nargs 1 m_parts_told) (aCons (eOp ixD (eVar 0) (eMt0 "list" popD (eVar 3))) aNil))) (gSet 4)
    (sIf (eTest (eOp notInU (eVar 4) (eVar 2)))
    (sSeq (sSubU (eVar 2) (eVar 4) (eC (.bl true)))
  (sDrop (eMt "list" appendD (eVar 3) (aCons (eVar 4) aNil))))
    sNext)) 10000)
  (sRet (eCall (one (sortD frF)) (aCons (eVar 2) aNil)))))
noncomputable def m_reached : List D → Py D := runD 5 b_reached
noncomputable def b_free_of_lines : DEnv → Py Fl :=
  (sSeq (sSet 1 (eNew aNil))
  (sSeq (sFor (iSeq wkA (eVar 0)) (gSet 2)
    (sSeq (sSet 3 (eDc fdN (dcAll [4] (iSeq wkA (eCall (nargs 1 m_names_told) (aCons (eVar 2) aNil))) (gSet 4) tYesD (eVar 4) (eC (.bl true)))))
  (sSeq (sFor (iSeq wkA (eCall (nargs 1 m_parts_told) (aCons (eVar 2) aNil))) (gSet 5)
    (sDrop (eMt "dict" updDk (eVar 3) (aCons (eDc fdF (dcAll [4] (iSeq wkA (eOp ixD (eVar 1) (eVar 5))) (gSet 4) tYesD (eVar 4) (eC (.bl true)))) aNil))))
  (sSeq (sIf (eTest (eOp (eqS false) (eOp ixD (eVar 2) (eC (.int 0))) (eC (.str (PySem.Str.ofString "many")))))
    (sDrop (ePop2 (eVar 3) (eOp ixD (eVar 2) (eC (.int 1))) (eC .non)))
    sNext)
  (sDrop (eMt "list" appendD (eVar 1) (aCons (eCall (one tupD) (aCons (eCall (one (sortD frF)) (aCons (eVar 3) aNil)) aNil)) aNil)))))))
  (fzL 1 (sRet (eVar 1)))))
noncomputable def m_free_of_lines : List D → Py D := runD 6 b_free_of_lines
noncomputable def b_free : DEnv → Py Fl :=
  (sSeq (sDrop (eCall (nargs 1 m_check_saying) (aCons (eVar 0) aNil)))
  (sRet (eOp ixD (eCall (nargs 1 m_free_of_lines) (aCons (eVar 0) aNil)) (eUn negI (eC (.int 1))))))
noncomputable def m_free : List D → Py D := runD 1 b_free
noncomputable def b_names : DEnv → Py Fl :=
  (sSeq (sDrop (eCall (nargs 1 m_check_saying) (aCons (eVar 0) aNil)))
  (sSeq (sSet 1 (fun _ => alloc (.dk [])))
  (sSeq (sFor (iSeq wkA (eCall (nargs 2 m_reached) (aCons (eVar 0) (aCons (eOp subI (eCall (one lenD) (aCons (eVar 0) aNil)) (eC (.int 1))) aNil)))) (gSet 2)
    (sSeq (sSet 3 (eOp ixD (eVar 0) (eVar 2)))
  (sSeq (sDrop (eMt "dict" updDk (eVar 1) (aCons (eDc fdF (dcAll [4] (iSeq wkA (eCall (nargs 1 m_names_told) (aCons (eVar 3) aNil))) (gSet 4) tYesD (eVar 4) (eC (.bl true)))) aNil)))
  (sIf (eTest (eOp (eqS false) (eOp ixD (eVar 3) (eC (.int 0))) (eC (.str (PySem.Str.ofString "many")))))
    (sSubU (eVar 1) (eOp ixD (eVar 3) (eC (.int 1))) (eC (.bl true)))
    sNext))))
  (sRet (eCall (one tupD) (aCons (eCall (one (sortD frF)) (aCons (eVar 1) aNil)) aNil))))))
noncomputable def m_names : List D → Py D := runD 5 b_names
noncomputable def b_depth : DEnv → Py Fl :=
  (sSeq (sDrop (eCall (nargs 1 m_check_saying) (aCons (eVar 0) aNil)))
  (sSeq (sSet 1 (eNew aNil))
  (sSeq (sFor (iSeq wkA (eVar 0)) (gSet 2)
    (sSeq (sSet 3 (eCall (one maxLD) (aCons (eOp addA (eLst (aCons (eC (.int 0)) aNil)) (eLcA frF (lcAll [4] (iSeq wkA (eCall (nargs 1 m_parts_told) (aCons (eVar 2) aNil))) (gSet 4) tYesD (eOp ixD (eVar 1) (eVar 4))))) aNil)))
  (sDrop (eMt "list" appendD (eVar 1) (aCons (eOp addA (eVar 3) (eCall (one intD) (aCons (eOp (eqS false) (eOp ixD (eVar 2) (eC (.int 0))) (eC (.str (PySem.Str.ofString "many")))) aNil))) aNil)))))
  (sRet (eOp ixD (eVar 1) (eUn negI (eC (.int 1))))))))
noncomputable def m_depth : List D → Py D := runD 5 b_depth
noncomputable def b__law_pot : DEnv → Py Fl :=
  (sSeq (sLc 1 frF (lcAll [2] (iSeq wkA (eSl (eVar 0) oNone (oSome (eC (.int 63))))) (gSet 2) tYesD (eCall (one absD) (aCons (eCall (one intD) (aCons (eVar 2) aNil)) aNil))))
  (sRet (eNew (aCons (eVar 1) (aCons (eC (.int 0)) (aCons (eC (.int 0)) (aCons (eOp addA (eC (.int 1)) (eCall (one lenD) (aCons (eVar 1) aNil))) (aCons (eC (.int 0)) aNil))))))))
noncomputable def m__law_pot : List D → Py D := runD 3 b__law_pot
noncomputable def b__law_draw : DEnv → Py Fl :=
  (sSeq (sIf (tAndD (eTest (eOp (eqS false) (eOp ixD (eVar 0) (eC (.int 2))) (eC (.int 0)))) (eTest (eOp ltI (eOp ixD (eVar 0) (eC (.int 1))) (eCall (one lenD) (aCons (eOp ixD (eVar 0) (eC (.int 0))) aNil)))))
    (sSeq (sSet 2 (eOp ixD (eOp ixD (eVar 0) (eC (.int 0))) (eOp ixD (eVar 0) (eC (.int 1)))))
  (sSeq (sSub (eVar 0) (eC (.int 1)) (eOp addA (eOp ixD (eVar 0) (eC (.int 1))) (eC (.int 1))))
  (sSeq (sSub (eVar 0) (eC (.int 3)) (eOp modI (eCall (one intD) (aCons (eOp addA (eOp addA (eOp mulA (eOp ixD (eVar 0) (eC (.int 3))) (eC (.int 69621))) (eVar 2)) (eC (.int 11))) aNil)) (eC (.int 2147483629))))
  (sIf (eTest (eOp geI (eVar 2) (eOp powI (eC (.int 10)) (eC (.int 18)))))
    (sSub (eVar 0) (eC (.int 2)) (eVar 2))
    sNext))))
    sNext)
  (sSeq (sIf (eTest (eOp gtI (eOp ixD (eVar 0) (eC (.int 2))) (eC (.int 0))))
    (sSeq (sSet 3 (eOp modI (eCall (one intD) (aCons (eOp ixD (eVar 0) (eC (.int 2))) aNil)) (eVar 1)))
  (sSeq (sSub (eVar 0) (eC (.int 2)) (eOp fdivI (eOp ixD (eVar 0) (eC (.int 2))) (eVar 1)))
  (sRet (eVar 3))))
    sNext)
  (sSeq (sSub (eVar 0) (eC (.int 4)) (eOp addA (eOp ixD (eVar 0) (eC (.int 4))) (eC (.int 1))))
  (sSeq (sSet 4 (eOp modI (eCall (one intD) (aCons (eOp mulA (eCall (one intD) (aCons (eOp addA (eOp ixD (eVar 0) (eC (.int 3))) (eOp mulA (eC (.int 7919)) (eOp ixD (eVar 0) (eC (.int 4))))) aNil)) (eC (.int 48271))) aNil)) (eC (.int 2147483647))))
  (sSeq (sSet 4 (eOp modI (eCall (one intD) (aCons (eOp mulA (eVar 4) (eOp addA (eOp fdivI (eVar 4) (eC (.int 1009))) (eC (.int 69621)))) aNil)) (eC (.int 2147483647))))
  (sSeq (sSet 4 (eOp modI (eCall (one intD) (aCons (eOp mulA (eVar 4) (eOp addA (eOp fdivI (eVar 4) (eC (.int 2003))) (eC (.int 40692)))) aNil)) (eC (.int 2147483399))))
  (sRet (eOp modI (eCall (one intD) (aCons (eOp fdivI (eVar 4) (eC (.int 16))) aNil)) (eVar 1)))))))))
noncomputable def m__law_draw : List D → Py D := runD 5 b__law_draw
noncomputable def b__law_any : DEnv → Py Fl :=
  (sRet (eOp ixD (eVar 1) (eCall (nargs 2 m__law_draw) (aCons (eVar 0) (aCons (eCall (one lenD) (aCons (eVar 1) aNil)) aNil)))))
noncomputable def m__law_any : List D → Py D := runD 2 b__law_any
noncomputable def b__law_line_of : DEnv → Py Fl :=
  (sSeq (sPar3 4 5 6 (aCons (eCall (nargs 2 m__law_draw) (aCons (eVar 0) (aCons (eVar 2) aNil))) (aCons (eCall (nargs 2 m__law_draw) (aCons (eVar 0) (aCons (eVar 2) aNil))) (aCons (eCall (nargs 2 m__law_draw) (aCons (eVar 0) (aCons (eC (.int 10)) aNil))) aNil))))
  (sSeq (sIf (tOrD (eTest (eOp (eqS false) (eVar 1) (eC (.int 0)))) (eTest (eOp geI (eCall (nargs 2 m__law_draw) (aCons (eVar 0) (aCons (eC (.int 9)) aNil))) (eVar 3))))
    (sSeq (sIf (eTest (eOp ltI (eVar 6) (eC (.int 4))))
    (sRet (eTup (aCons (eC (.str (PySem.Str.ofString "hue"))) (aCons (eVar 4) (aCons (eCall (nargs 2 m__law_any) (aCons (eVar 0) (aCons (eLst (aCons (eC (.int 0)) (aCons (eC (.int 0)) (aCons (eC (.int 1)) (aCons (eC (.int 1)) (aCons (eCall (nargs 2 m__law_draw) (aCons (eVar 0) (aCons (eC (.int 10)) aNil))) aNil)))))) aNil))) aNil)))))
    sNext)
  (sRet (eIf (eTest (eOp ltI (eVar 6) (eC (.int 6)))) (eTup (aCons (eC (.str (PySem.Str.ofString "same"))) (aCons (eVar 4) (aCons (eVar 5) aNil)))) (eTup (aCons (eC (.str (PySem.Str.ofString "tie"))) (aCons (eCall (nargs 2 m__law_any) (aCons (eVar 0) (aCons (eLst (aCons (eC (.int 0)) (aCons (eC (.int 0)) (aCons (eC (.int 0)) (aCons (eC (.int 1)) (aCons (eCall (nargs 2 m__law_draw) (aCons (eVar 0) (aCons (eC (.int 4)) aNil))) aNil)))))) aNil))) (aCons (eVar 4) (aCons (eVar 5) aNil))))))))
    sNext)
  (sSeq (sSet 7 (eCall (twoD maxI) (aCons (eC (.int 0)) (aCons (eOp subI (eOp subI (eVar 1) (eC (.int 1))) (eCall (nargs 2 m__law_draw) (aCons (eVar 0) (aCons (eC (.int 5)) aNil)))) aNil))))
  (sSeq (sIf (eTest (eOp ltI (eVar 6) (eC (.int 2))))
    (sRet (eTup (aCons (eC (.str (PySem.Str.ofString "not"))) (aCons (eVar 7) aNil))))
    sNext)
  (sSeq (sIf (eTest (eOp ltI (eVar 6) (eC (.int 6))))
    (sSeq (sLc 8 frF (lcAll [9] (iRng1D (aCons (eCall (nargs 2 m__law_any) (aCons (eVar 0) (aCons (eLst (aCons (eC (.int 0)) (aCons (eC (.int 1)) (aCons (eC (.int 2)) (aCons (eC (.int 2)) (aCons (eC (.int 2)) (aCons (eC (.int 3)) aNil))))))) aNil))) aNil)) (gSet 9) tYesD (eCall (twoD maxI) (aCons (eC (.int 0)) (aCons (eOp subI (eOp subI (eVar 1) (eC (.int 1))) (eCall (nargs 2 m__law_draw) (aCons (eVar 0) (aCons (eC (.int 6)) aNil)))) aNil)))))
  (sRet (eTup (aCons (eCall (nargs 2 m__law_any) (aCons (eVar 0) (aCons (eLst (aCons (eC (.str (PySem.Str.ofString "all"))) (aCons (eC (.str (PySem.Str.ofString "some"))) aNil))) aNil))) (aCons (eCall (one tupD) (aCons (eVar 8) aNil)) aNil)))))
    sNext)
  (sRet (eTup (aCons (eC (.str (PySem.Str.ofString "many"))) (aCons (eVar 4) (aCons (eCall (nargs 2 m__law_any) (aCons (eVar 0) (aCons (eLst (aCons (eC (.int 1)) (aCons (eC (.int 1)) (aCons (eC (.int 2)) (aCons (eC (.int 2)) (aCons (eC (.int 3)) (aCons (eOp addA (eC (.int 1)) (eCall (nargs 2 m__law_draw) (aCons (eVar 0) (aCons (eC (.int 40)) aNil)))) aNil))))))) aNil))) (aCons (eVar 7) aNil)))))))))))
noncomputable def m__law_line_of : List D → Py D := runD 10 b__law_line_of
noncomputable def b__law_saying : DEnv → Py Fl :=
  (sRet (eCall (one tupD) (aCons (eLcA frF (lcAll [4] (iRng1D (aCons (eVar 1) aNil)) (gSet 4) tYesD (eCall (nargs 4 m__law_line_of) (aCons (eVar 0) (aCons (eVar 4) (aCons (eVar 2) (aCons (eVar 3) aNil))))))) aNil)))
noncomputable def m__law_saying : List D → Py D := runD 5 b__law_saying
noncomputable def b__law_told_by : DEnv → Py Fl :=
  (sSeq (sIf (eTest (eOp (inTD false) (eOp ixD (eVar 0) (eC (.int 0))) (eTup (aCons (eC (.str (PySem.Str.ofString "all"))) (aCons (eC (.str (PySem.Str.ofString "some"))) aNil)))))
    (sRet (eOp ixD (eVar 0) (eC (.int 1))))
    sNext)
  (sRet (eIf (eTest (eOp (inTD false) (eOp ixD (eVar 0) (eC (.int 0))) (eTup (aCons (eC (.str (PySem.Str.ofString "not"))) (aCons (eC (.str (PySem.Str.ofString "many"))) aNil))))) (eTup (aCons (eOp ixD (eVar 0) (eUn negI (eC (.int 1)))) aNil)) (eTup aNil))))
noncomputable def m__law_told_by : List D → Py D := runD 1 b__law_told_by
noncomputable def b__law_kept : DEnv → Py Fl :=
  (sSeq (sSet 1 (eOp mulLn (eLst (aCons (eC (.bl false)) aNil)) (eCall (one lenD) (aCons (eVar 0) aNil))))
  (sSeq (sSub (eVar 1) (eUn negI (eC (.int 1))) (eC (.bl true)))
  (sSeq (sFor (iRng3D (aCons (eOp subI (eCall (one lenD) (aCons (eVar 0) aNil)) (eC (.int 1))) (aCons (eUn negI (eC (.int 1))) (aCons (eUn negI (eC (.int 1))) aNil)))) (gSet 2)
    (sIf (eTest (eOp ixD (eVar 1) (eVar 2)))
    (sFor (iSeq wkA (eCall (nargs 1 m__law_told_by) (aCons (eOp ixD (eVar 0) (eVar 2)) aNil))) (gSet 3)
    (sSub (eVar 1) (eVar 3) (eC (.bl true))))
    sNext))
  (sRet (eLcA frF (lcAll [2] (iRng1D (aCons (eCall (one lenD) (aCons (eVar 0) aNil)) aNil)) (gSet 2) (eTest (eOp ixD (eVar 1) (eVar 2))) (eVar 2)))))))
noncomputable def m__law_kept : List D → Py D := runD 4 b__law_kept
noncomputable def b__law_free_in : DEnv → Py Fl :=
  (sSeq (sSet 1 (eNew aNil))
  (sSeq (sFor (iSeq wkA (eVar 0)) (gSet 2)
    (sSeq (sSet 3 (eNew aNil))
  (sSeq (sIf (eTest (eOp (inTD false) (eOp ixD (eVar 2) (eC (.int 0))) (eTup (aCons (eC (.str (PySem.Str.ofString "hue"))) (aCons (eC (.str (PySem.Str.ofString "same"))) (aCons (eC (.str (PySem.Str.ofString "tie"))) aNil))))))
    (sSet 3 (eCall (one lstN) (aCons (eOp dixD (eDisp (pCons (eC (.str (PySem.Str.ofString "hue"))) (eSl (eVar 2) (oSome (eC (.int 1))) (oSome (eC (.int 2)))) (pCons (eC (.str (PySem.Str.ofString "same"))) (eSl (eVar 2) (oSome (eC (.int 1))) oNone) (pCons (eC (.str (PySem.Str.ofString "tie"))) (eSl (eVar 2) (oSome (eC (.int 2))) oNone) pNil)))) (eOp ixD (eVar 2) (eC (.int 0)))) aNil)))
    sNext)
  (sSeq (sFor (iSeq wkA (eCall (nargs 1 m__law_told_by) (aCons (eVar 2) aNil))) (gSet 4)
    (sDrop (eMt "list" extendD (eVar 3) (aCons (eLcA frF (lcAll [5] (iSeq wkA (eOp ixD (eVar 1) (eVar 4))) (gSet 5) (eTest (eOp notInU (eVar 5) (eVar 3))) (eVar 5))) aNil))))
  (sSeq (sIf (eTest (eOp (eqS false) (eOp ixD (eVar 2) (eC (.int 0))) (eC (.str (PySem.Str.ofString "many")))))
    (sSet 3 (eLcA frN (lcAll [5] (iSeq wkA (eVar 3)) (gSet 5) (eTest (eOp (eqS true) (eVar 5) (eOp ixD (eVar 2) (eC (.int 1))))) (eVar 5))))
    sNext)
  (sDrop (eMt "list" appendD (eVar 1) (aCons (eCall (sortSetD frF) (aCons (eVar 3) aNil)) aNil))))))))
  (sRet (eLcA frF (lcAll [3] (iSeq wkA (eVar 1)) (gSet 3) tYesD (eCall (one tupD) (aCons (eVar 3) aNil)))))))
noncomputable def m__law_free_in : List D → Py D := runD 6 b__law_free_in
noncomputable def b__law_depths : DEnv → Py Fl :=
  (sSeq (sSet 1 (eNew aNil))
  (sSeq (sFor (iSeq wkA (eVar 0)) (gSet 2)
    (sSeq (sSet 3 (eCall (one maxLD) (aCons (eOp addA (eLst (aCons (eC (.int 0)) aNil)) (eLcA frF (lcAll [4] (iSeq wkA (eCall (nargs 1 m__law_told_by) (aCons (eVar 2) aNil))) (gSet 4) tYesD (eOp ixD (eVar 1) (eVar 4))))) aNil)))
  (sDrop (eMt "list" appendD (eVar 1) (aCons (eOp addA (eVar 3) (eCall (one intD) (aCons (eOp (eqS false) (eOp ixD (eVar 2) (eC (.int 0))) (eC (.str (PySem.Str.ofString "many")))) aNil))) aNil)))))
  (fzL 1 (sRet (eVar 1)))))
noncomputable def m__law_depths : List D → Py D := runD 5 b__law_depths
noncomputable def b__law_names_in : DEnv → Py Fl :=
  (sSeq (sSet 1 (eNew aNil))
  (sSeq (sFor (iSeq wkA (eCall (nargs 1 m__law_kept) (aCons (eVar 0) aNil))) (gSet 2)
    (sSeq (sSet 3 (eOp ixD (eVar 0) (eVar 2)))
  (sDrop (eMt "list" extendD (eVar 1) (aCons (eGet2 (eDisp (pCons (eC (.str (PySem.Str.ofString "hue"))) (eSl (eVar 3) (oSome (eC (.int 1))) (oSome (eC (.int 2)))) (pCons (eC (.str (PySem.Str.ofString "same"))) (eSl (eVar 3) (oSome (eC (.int 1))) oNone) (pCons (eC (.str (PySem.Str.ofString "tie"))) (eSl (eVar 3) (oSome (eC (.int 2))) oNone) (pCons (eC (.str (PySem.Str.ofString "many"))) (eSl (eVar 3) (oSome (eC (.int 1))) (oSome (eC (.int 2)))) pNil))))) (eOp ixD (eVar 3) (eC (.int 0))) (eTup aNil)) aNil)))))
  (sRet (eCall (one tupD) (aCons (eCall (sortSetD frF) (aCons (eVar 1) aNil)) aNil)))))
noncomputable def m__law_names_in : List D → Py D := runD 4 b__law_names_in
noncomputable def b__law_right : DEnv → Py Fl :=
  (sSeq (sIf (eTest (eOp (eqS true) (eCall (one reprD) (aCons (eCall (nargs 1 m_free) (aCons (eVar 0) aNil)) aNil)) (eCall (one reprD) (aCons (eOp ixD (eCall (nargs 1 m__law_free_in) (aCons (eVar 0) aNil)) (eUn negI (eC (.int 1)))) aNil))))
    (sRet (eC (.bl false)))
    sNext)
  (sRet (eOp (eqS false) (eCall (one reprD) (aCons (eLst (aCons (eCall (nargs 1 m_names) (aCons (eVar 0) aNil)) (aCons (eCall (nargs 1 m_depth) (aCons (eVar 0) aNil)) aNil))) aNil)) (eCall (one reprD) (aCons (eLst (aCons (eCall (nargs 1 m__law_names_in) (aCons (eVar 0) aNil)) (aCons (eOp ixD (eCall (nargs 1 m__law_depths) (aCons (eVar 0) aNil)) (eUn negI (eC (.int 1)))) aNil))) aNil)))))
noncomputable def m__law_right : List D → Py D := runD 1 b__law_right
noncomputable def b__law_row_right : DEnv → Py Fl :=
  (sSeq (sAsg (eTup (aCons (eOp addA (eC (.int 100)) (eCall (nargs 2 m__law_draw) (aCons (eVar 0) (aCons (eC (.int 2900)) aNil)))) (aCons (eCall (nargs 2 m__law_any) (aCons (eVar 0) (aCons (eLst (aCons (eC (.str (PySem.Str.ofString "not"))) (aCons (eC (.str (PySem.Str.ofString "all"))) (aCons (eC (.str (PySem.Str.ofString "many"))) (aCons (eC (.str (PySem.Str.ofString "some"))) aNil))))) aNil))) aNil))) (gUnp 2 (gsCons (gSet 1) (gsCons (gSet 2) gsNil))))
  (sSeq (sAsg (eTup (aCons (eCall (nargs 2 m__law_draw) (aCons (eVar 0) (aCons (eC (.int 4)) aNil))) (aCons (eCall (nargs 2 m__law_draw) (aCons (eVar 0) (aCons (eC (.int 4)) aNil))) aNil))) (gUnp 2 (gsCons (gSet 3) (gsCons (gSet 4) gsNil))))
  (sSeq (sSet 5 (eNew (aCons (eTup (aCons (eC (.str (PySem.Str.ofString "tie"))) (aCons (eC (.int 1)) (aCons (eVar 3) (aCons (eVar 4) aNil))))) aNil)))
  (sSeq (sFor (iRng1D (aCons (eVar 1) aNil)) (gSet 6)
    (sSeq (sSet 7 (eDisp (pCons (eC (.str (PySem.Str.ofString "not"))) (eTup (aCons (eC (.str (PySem.Str.ofString "not"))) (aCons (eVar 6) aNil))) (pCons (eC (.str (PySem.Str.ofString "all"))) (eTup (aCons (eC (.str (PySem.Str.ofString "all"))) (aCons (eTup (aCons (eVar 6) (aCons (eVar 6) aNil))) aNil))) (pCons (eC (.str (PySem.Str.ofString "some"))) (eTup (aCons (eC (.str (PySem.Str.ofString "some"))) (aCons (eTup (aCons (eVar 6) aNil)) aNil))) (pCons (eC (.str (PySem.Str.ofString "many"))) (eTup (aCons (eC (.str (PySem.Str.ofString "many"))) (aCons (eVar 3) (aCons (eC (.int 2)) (aCons (eVar 6) aNil))))) pNil))))))
  (sDrop (eMt "list" appendD (eVar 5) (aCons (eOp ixU (eVar 7) (eVar 2)) aNil)))))
  (sSeq (sSet 8 (eCall (one tupD) (aCons (eOp addA (eVar 5) (eLst (aCons (eTup (aCons (eC (.str (PySem.Str.ofString "hue"))) (aCons (eC (.int 3)) (aCons (eC (.int 1)) aNil)))) (aCons (eTup (aCons (eC (.str (PySem.Str.ofString "all"))) (aCons (eTup (aCons (eVar 1) aNil)) aNil))) aNil)))) aNil)))
  (sSeq (sSet 9 (eCall (one tupD) (aCons (eLcA frF (lcAll [10] (iSeq wkA (eCall (sortSetD frF) (aCons (eLst (aCons (eVar 3) (aCons (eVar 4) aNil))) aNil))) (gSet 10) (tOrD (eTest (eOp (eqS true) (eVar 2) (eC (.str (PySem.Str.ofString "many"))))) (eTest (eOp (eqS true) (eVar 10) (eVar 3)))) (eVar 10))) aNil)))
  (sSeq (sSet 11 (eLst (aCons (eCall (nargs 1 m_free) (aCons (eVar 8) aNil)) (aCons (eCall (nargs 1 m_names) (aCons (eVar 8) aNil)) (aCons (eCall (nargs 1 m_depth) (aCons (eVar 8) aNil)) aNil)))))
  (sRet (eOp (eqS false) (eCall (one reprD) (aCons (eVar 11) aNil)) (eCall (one reprD) (aCons (eLst (aCons (eVar 9) (aCons (eCall (one tupD) (aCons (eCall (sortSetD frF) (aCons (eLst (aCons (eVar 3) (aCons (eVar 4) aNil))) aNil)) aNil)) (aCons (eIf (eTest (eOp (eqS false) (eVar 2) (eC (.str (PySem.Str.ofString "many"))))) (eVar 1) (eC (.int 0))) aNil)))) aNil)))))))))))
noncomputable def m__law_row_right : List D → Py D := runD 12 b__law_row_right
noncomputable def b_law : DEnv → Py Fl :=
  (sSeq (sSet 1 (eCall (nargs 1 m__law_pot) (aCons (eVar 0) aNil)))
  (sSeq (sFor (iRng1D (aCons (eC (.int 10)) aNil)) (gSet 2)
    (sSeq (sSet 3 (eCall (nargs 4 m__law_saying) (aCons (eVar 1) (aCons (eOp addA (eC (.int 1)) (eCall (nargs 2 m__law_draw) (aCons (eVar 1) (aCons (eC (.int 14)) aNil)))) (aCons (eOp addA (eC (.int 1)) (eCall (nargs 2 m__law_draw) (aCons (eVar 1) (aCons (eC (.int 4)) aNil)))) (aCons (eCall (nargs 2 m__law_any) (aCons (eVar 1) (aCons (eLst (aCons (eC (.int 2)) (aCons (eC (.int 5)) (aCons (eC (.int 8)) (aCons (eC (.int 9)) aNil))))) aNil))) aNil))))))
  (sIf (tNotD (eTest (eCall (nargs 1 m__law_right) (aCons (eVar 3) aNil))))
    (sRet (eC (.bl false)))
    sNext)))
  (sSeq (sIf (tAndD (eTest (eOp (eqS false) (eCall (nargs 2 m__law_draw) (aCons (eVar 1) (aCons (eC (.int 5)) aNil))) (eC (.int 0)))) (tNotD (eTest (eCall (nargs 1 m__law_right) (aCons (eCall (nargs 4 m__law_saying) (aCons (eVar 1) (aCons (eOp addA (eC (.int 500)) (eCall (nargs 2 m__law_draw) (aCons (eVar 1) (aCons (eC (.int 2000)) aNil)))) (aCons (eC (.int 4)) (aCons (eC (.int 9)) aNil))))) aNil)))))
    (sRet (eC (.bl false)))
    sNext)
  (sRet (eOr (eOp gtI (eCall (nargs 2 m__law_draw) (aCons (eVar 1) (aCons (eC (.int 3)) aNil))) (eC (.int 0))) (eCall (nargs 1 m__law_row_right) (aCons (eVar 1) aNil)))))))
noncomputable def m_law : List D → Py D := runD 4 b_law
end Qk19
set_option Elab.async false
set_option linter.all false
set_option maxRecDepth 100000
set_option maxHeartbeats 4000000
set_option autoImplicit false
namespace Qk19
open PySem PySem.Spec L2 L3
open PyProof.Rows hiding St
def top (i : Nat) : Stmt := PySem.Challenge.pw_levelkin_k19_whole_free_names_and_depths.main.body.getD i (.Pass ⟨0, 0, 0, 0⟩)
abbrev s_is_integer : Stmt := top 4
abbrev N_is_integer : List Str := ["thing"]
theorem sc_is_integer : FnScope N_is_integer ["thing"] (defScope s_is_integer) := ⟨rfl, rfl, rfl, by decide +kernel, rfl, by decide +kernel, by decide +kernel⟩
abbrev s_is_within : Stmt := top 5
abbrev N_is_within : List Str := ["thing", "least", "most"]
theorem sc_is_within : FnScope N_is_within ["thing", "least", "most"] (defScope s_is_within) := ⟨rfl, rfl, rfl, by decide +kernel, rfl, by decide +kernel, by decide +kernel⟩
abbrev s_is_number : Stmt := top 6
abbrev N_is_number : List Str := ["thing", "most"]
theorem sc_is_number : FnScope N_is_number ["thing", "most"] (defScope s_is_number) := ⟨rfl, rfl, rfl, by decide +kernel, rfl, by decide +kernel, by decide +kernel⟩
abbrev s_is_name : Stmt := top 19
abbrev N_is_name : List Str := ["thing"]
theorem sc_is_name : FnScope N_is_name ["thing"] (defScope s_is_name) := ⟨rfl, rfl, rfl, by decide +kernel, rfl, by decide +kernel, by decide +kernel⟩
abbrev s_is_plain_line : Stmt := top 20
abbrev N_is_plain_line : List Str := ["thing"]
theorem sc_is_plain_line : FnScope N_is_plain_line ["thing"] (defScope s_is_plain_line) := ⟨rfl, rfl, rfl, by decide +kernel, rfl, by decide +kernel, by decide +kernel⟩
abbrev s_is_line : Stmt := top 21
abbrev N_is_line : List Str := ["thing", "number", "line"]
theorem sc_is_line : FnScope N_is_line ["thing", "number"] (defScope s_is_line) := ⟨rfl, rfl, rfl, by decide +kernel, rfl, by decide +kernel, by decide +kernel⟩
abbrev s_is_saying : Stmt := top 22
abbrev N_is_saying : List Str := ["thing", "number", "line"]
theorem sc_is_saying : FnScope N_is_saying ["thing"] (defScope s_is_saying) := ⟨rfl, rfl, rfl, by decide +kernel, rfl, by decide +kernel, by decide +kernel⟩
abbrev s_check_saying : Stmt := top 23
abbrev N_check_saying : List Str := ["thing"]
theorem sc_check_saying : FnScope N_check_saying ["thing"] (defScope s_check_saying) := ⟨rfl, rfl, rfl, by decide +kernel, rfl, by decide +kernel, by decide +kernel⟩
abbrev s_parts_told : Stmt := top 24
abbrev N_parts_told : List Str := ["line"]
theorem sc_parts_told : FnScope N_parts_told ["line"] (defScope s_parts_told) := ⟨rfl, rfl, rfl, by decide +kernel, rfl, by decide +kernel, by decide +kernel⟩
abbrev s_names_told : Stmt := top 25
abbrev N_names_told : List Str := ["line"]
theorem sc_names_told : FnScope N_names_told ["line"] (defScope s_names_told) := ⟨rfl, rfl, rfl, by decide +kernel, rfl, by decide +kernel, by decide +kernel⟩
abbrev s_reached : Stmt := top 26
abbrev N_reached : List Str := ["saying", "last", "found", "waiting", "number"]
theorem sc_reached : FnScope N_reached ["saying", "last"] (defScope s_reached) := ⟨rfl, rfl, rfl, by decide +kernel, rfl, by decide +kernel, by decide +kernel⟩
abbrev s_free_of_lines : Stmt := top 27
abbrev N_free_of_lines : List Str := ["saying", "found", "line", "names_here", "name", "number"]
theorem sc_free_of_lines : FnScope N_free_of_lines ["saying"] (defScope s_free_of_lines) := ⟨rfl, rfl, rfl, by decide +kernel, rfl, by decide +kernel, by decide +kernel⟩
abbrev s_free : Stmt := top 28
abbrev N_free : List Str := ["saying"]
theorem sc_free : FnScope N_free ["saying"] (defScope s_free) := ⟨rfl, rfl, rfl, by decide +kernel, rfl, by decide +kernel, by decide +kernel⟩
abbrev s_names : Stmt := top 29
abbrev N_names : List Str := ["saying", "found", "number", "line", "name"]
theorem sc_names : FnScope N_names ["saying"] (defScope s_names) := ⟨rfl, rfl, rfl, by decide +kernel, rfl, by decide +kernel, by decide +kernel⟩
abbrev s_depth : Stmt := top 30
abbrev N_depth : List Str := ["saying", "found", "line", "inner", "number"]
theorem sc_depth : FnScope N_depth ["saying"] (defScope s_depth) := ⟨rfl, rfl, rfl, by decide +kernel, rfl, by decide +kernel, by decide +kernel⟩
abbrev s__law_pot : Stmt := top 32
abbrev N__law_pot : List Str := ["script", "cells", "cell"]
theorem sc__law_pot : FnScope N__law_pot ["script"] (defScope s__law_pot) := ⟨rfl, rfl, rfl, by decide +kernel, rfl, by decide +kernel, by decide +kernel⟩
abbrev s__law_draw : Stmt := top 33
abbrev N__law_draw : List Str := ["pot", "many", "cell", "digit", "number"]
theorem sc__law_draw : FnScope N__law_draw ["pot", "many"] (defScope s__law_draw) := ⟨rfl, rfl, rfl, by decide +kernel, rfl, by decide +kernel, by decide +kernel⟩
abbrev s__law_any : Stmt := top 34
abbrev N__law_any : List Str := ["pot", "things"]
theorem sc__law_any : FnScope N__law_any ["pot", "things"] (defScope s__law_any) := ⟨rfl, rfl, rfl, by decide +kernel, rfl, by decide +kernel, by decide +kernel⟩
abbrev s__law_line_of : Stmt := top 35
abbrev N__law_line_of : List Str := ["pot", "at", "most", "deeper", "i", "j", "kind", "near", "some", "turn"]
theorem sc__law_line_of : FnScope N__law_line_of ["pot", "at", "most", "deeper"] (defScope s__law_line_of) := ⟨rfl, rfl, rfl, by decide +kernel, rfl, by decide +kernel, by decide +kernel⟩
abbrev s__law_saying : Stmt := top 36
abbrev N__law_saying : List Str := ["pot", "lines", "most", "deeper", "at"]
theorem sc__law_saying : FnScope N__law_saying ["pot", "lines", "most", "deeper"] (defScope s__law_saying) := ⟨rfl, rfl, rfl, by decide +kernel, rfl, by decide +kernel, by decide +kernel⟩
abbrev s__law_told_by : Stmt := top 37
abbrev N__law_told_by : List Str := ["line"]
theorem sc__law_told_by : FnScope N__law_told_by ["line"] (defScope s__law_told_by) := ⟨rfl, rfl, rfl, by decide +kernel, rfl, by decide +kernel, by decide +kernel⟩
abbrev s__law_kept : Stmt := top 38
abbrev N__law_kept : List Str := ["saying", "marks", "at", "one"]
theorem sc__law_kept : FnScope N__law_kept ["saying"] (defScope s__law_kept) := ⟨rfl, rfl, rfl, by decide +kernel, rfl, by decide +kernel, by decide +kernel⟩
abbrev s__law_free_in : Stmt := top 39
abbrev N__law_free_in : List Str := ["saying", "found", "line", "some", "one", "name"]
theorem sc__law_free_in : FnScope N__law_free_in ["saying"] (defScope s__law_free_in) := ⟨rfl, rfl, rfl, by decide +kernel, rfl, by decide +kernel, by decide +kernel⟩
abbrev s__law_depths : Stmt := top 40
abbrev N__law_depths : List Str := ["saying", "found", "line", "most", "one"]
theorem sc__law_depths : FnScope N__law_depths ["saying"] (defScope s__law_depths) := ⟨rfl, rfl, rfl, by decide +kernel, rfl, by decide +kernel, by decide +kernel⟩
abbrev s__law_names_in : Stmt := top 41
abbrev N__law_names_in : List Str := ["saying", "found", "at", "line"]
theorem sc__law_names_in : FnScope N__law_names_in ["saying"] (defScope s__law_names_in) := ⟨rfl, rfl, rfl, by decide +kernel, rfl, by decide +kernel, by decide +kernel⟩
abbrev s__law_right : Stmt := top 42
abbrev N__law_right : List Str := ["saying"]
theorem sc__law_right : FnScope N__law_right ["saying"] (defScope s__law_right) := ⟨rfl, rfl, rfl, by decide +kernel, rfl, by decide +kernel, by decide +kernel⟩
abbrev s__law_row_right : Stmt := top 43
abbrev N__law_row_right : List Str := ["pot", "many", "word", "i", "j", "found", "at", "some", "saying", "due", "name", "told"]
theorem sc__law_row_right : FnScope N__law_row_right ["pot"] (defScope s__law_row_right) := ⟨rfl, rfl, rfl, by decide +kernel, rfl, by decide +kernel, by decide +kernel⟩
abbrev s_law : Stmt := top 44
abbrev N_law : List Str := ["script", "pot", "turn", "saying"]
theorem sc_law : FnScope N_law ["script"] (defScope s_law) := ⟨rfl, rfl, rfl, by decide +kernel, rfl, by decide +kernel, by decide +kernel⟩
/-- what stands in the module -/
structure Tx (mg : Str → Option Value) : Prop where
  b_abs : mg "abs" = none
  b_all : mg "all" = none
  b_bool : mg "bool" = none
  b_enumerate : mg "enumerate" = none
  b_int : mg "int" = none
  b_isinstance : mg "isinstance" = none
  b_len : mg "len" = none
  b_list : mg "list" = none
  b_max : mg "max" = none
  b_range : mg "range" = none
  b_repr : mg "repr" = none
  b_set : mg "set" = none
  b_sorted : mg "sorted" = none
  b_str : mg "str" = none
  b_tuple : mg "tuple" = none
  c_ALL : ∃ t, mg "ALL" = some (.str (PySem.Str.ofString "all") t)
  c_HUE : ∃ t, mg "HUE" = some (.str (PySem.Str.ofString "hue") t)
  c_MANY : ∃ t, mg "MANY" = some (.str (PySem.Str.ofString "many") t)
  c_MOST_COUNT : ∃ t, mg "MOST_COUNT" = some (.int 40 t)
  c_MOST_HUE : ∃ t, mg "MOST_HUE" = some (.int 9 t)
  c_MOST_KIND : ∃ t, mg "MOST_KIND" = some (.int 3 t)
  c_NAMES : ∃ t, mg "NAMES" = some (.int 4 t)
  c_NOT : ∃ t, mg "NOT" = some (.str (PySem.Str.ofString "not") t)
  c_SAME : ∃ t, mg "SAME" = some (.str (PySem.Str.ofString "same") t)
  c_SOME : ∃ t, mg "SOME" = some (.str (PySem.Str.ofString "some") t)
  c_TIE : ∃ t, mg "TIE" = some (.str (PySem.Str.ofString "tie") t)
section
variable {P : Program} {w : World} {K : PySem.W.Frag} {mg : Str → Option Value} {base : Heap} {f : Addr} {fd : FuncData}
theorem ok_is_integer (T : Tx mg)  (F : FunD K "is_integer" "is_integer" (defArgs s_is_integer) (defBody s_is_integer) (defScope s_is_integer) [] [] f fd) (G : mg "is_integer" = some (.ref f)) : Dfn P w K mg base CX0 1 "is_integer" 1 m_is_integer := by
  refine ⟨⟨f, fd, ["thing"], fn_d F sc_is_integer rfl (fun cdv A outer s H E g hr => ?_), G, F.kp, F.bindsN fun _ _ _ _ _ _ us hl => match us, hl with | [_], _ => rfl⟩⟩
  have nd := sc_is_integer.nd
  have ev := body_even (CX := CX0) (P := P) (w := w) (K := K) (mg := mg) (base := base) (N := N_is_integer) (qual := "is_integer") (scope := defScope s_is_integer) (f := f) (cd := cdv) (A := A) (outer := outer) (s := s) (H := H) (E := E) (g := g)
  unfold b_is_integer
  exact (dss_one (ds_ret (de_and (de_callB (dc_isiA allTs_ok) T.b_isinstance (da_cons (de_var (i := 0)) (da_cons (de_ty T.b_int (by decide +kernel)) da_nil))) (de_one (de_not (de_callB (dc_isiA allTs_ok) T.b_isinstance (da_cons (de_var (i := 0)) (da_cons (de_ty T.b_bool (by decide +kernel)) da_nil))))))))
theorem ok_is_within (T : Tx mg) (D_is_integer : Dfn P w K mg base CX0 1 "is_integer" 1 m_is_integer) (F : FunD K "is_within" "is_within" (defArgs s_is_within) (defBody s_is_within) (defScope s_is_within) [] [] f fd) (G : mg "is_within" = some (.ref f)) : Dfn P w K mg base CX0 2 "is_within" 3 m_is_within := by
  refine ⟨⟨f, fd, ["thing", "least", "most"], fn_d F sc_is_within rfl (fun cdv A outer s H E g hr => ?_), G, F.kp, F.bindsN fun _ _ _ _ _ _ us hl => match us, hl with | [_, _, _], _ => rfl⟩⟩
  have nd := sc_is_within.nd
  have ev := body_even (CX := CX0) (P := P) (w := w) (K := K) (mg := mg) (base := base) (N := N_is_within) (qual := "is_within") (scope := defScope s_is_within) (f := f) (cd := cdv) (A := A) (outer := outer) (s := s) (H := H) (E := E) (g := g)
  unfold b_is_within
  exact (dss_one (ds_ret (de_and (de_call D_is_integer (hr.mono (by decide)) tk0 (da_cons (de_var (i := 0)) da_nil)) (de_one (de_chain do_leI do_leI (de_var (i := 1)) (de_var (i := 0)) (de_var (i := 2)))))))
theorem ok_is_number (T : Tx mg) (D_is_within : Dfn P w K mg base CX0 2 "is_within" 3 m_is_within) (F : FunD K "is_number" "is_number" (defArgs s_is_number) (defBody s_is_number) (defScope s_is_number) [] [] f fd) (G : mg "is_number" = some (.ref f)) : Dfn P w K mg base CX0 3 "is_number" 2 m_is_number := by
  refine ⟨⟨f, fd, ["thing", "most"], fn_d F sc_is_number rfl (fun cdv A outer s H E g hr => ?_), G, F.kp, F.bindsN fun _ _ _ _ _ _ us hl => match us, hl with | [_, _], _ => rfl⟩⟩
  have nd := sc_is_number.nd
  have ev := body_even (CX := CX0) (P := P) (w := w) (K := K) (mg := mg) (base := base) (N := N_is_number) (qual := "is_number") (scope := defScope s_is_number) (f := f) (cd := cdv) (A := A) (outer := outer) (s := s) (H := H) (E := E) (g := g)
  unfold b_is_number
  exact (dss_one (ds_ret (de_call D_is_within (hr.mono (by decide)) tk0 (da_cons (de_var (i := 0)) (da_cons de_int (da_cons (de_var (i := 1)) da_nil))))))
theorem ok_is_name (T : Tx mg) (D_is_number : Dfn P w K mg base CX0 3 "is_number" 2 m_is_number) (F : FunD K "is_name" "is_name" (defArgs s_is_name) (defBody s_is_name) (defScope s_is_name) [] [] f fd) (G : mg "is_name" = some (.ref f)) : Dfn P w K mg base CX0 4 "is_name" 1 m_is_name := by
  refine ⟨⟨f, fd, ["thing"], fn_d F sc_is_name rfl (fun cdv A outer s H E g hr => ?_), G, F.kp, F.bindsN fun _ _ _ _ _ _ us hl => match us, hl with | [_], _ => rfl⟩⟩
  have nd := sc_is_name.nd
  have ev := body_even (CX := CX0) (P := P) (w := w) (K := K) (mg := mg) (base := base) (N := N_is_name) (qual := "is_name") (scope := defScope s_is_name) (f := f) (cd := cdv) (A := A) (outer := outer) (s := s) (H := H) (E := E) (g := g)
  unfold b_is_name
  exact (dss_one (ds_ret (de_call D_is_number (hr.mono (by decide)) tk0 (da_cons (de_var (i := 0)) (da_cons (de_op do_subI (de_gint T.c_NAMES.choose_spec) de_int) da_nil)))))
theorem ok_is_plain_line (T : Tx mg) (D_is_name : Dfn P w K mg base CX0 4 "is_name" 1 m_is_name) (D_is_number : Dfn P w K mg base CX0 3 "is_number" 2 m_is_number) (F : FunD K "is_plain_line" "is_plain_line" (defArgs s_is_plain_line) (defBody s_is_plain_line) (defScope s_is_plain_line) [] [] f fd) (G : mg "is_plain_line" = some (.ref f)) : Dfn P w K mg base CX0 5 "is_plain_line" 1 m_is_plain_line := by
  refine ⟨⟨f, fd, ["thing"], fn_d F sc_is_plain_line rfl (fun cdv A outer s H E g hr => ?_), G, F.kp, F.bindsN fun _ _ _ _ _ _ us hl => match us, hl with | [_], _ => rfl⟩⟩
  have nd := sc_is_plain_line.nd
  have ev := body_even (CX := CX0) (P := P) (w := w) (K := K) (mg := mg) (base := base) (N := N_is_plain_line) (qual := "is_plain_line") (scope := defScope s_is_plain_line) (f := f) (cd := cdv) (A := A) (outer := outer) (s := s) (H := H) (E := E) (g := g)
  unfold b_is_plain_line
  exact (dss_cons ev (ds_if (dt_cmp (do_eq hr.units) (de_ix (de_var (i := 0)) de_int) (de_gstr T.c_HUE.choose_spec))
    (dss_one (ds_ret (de_and (de_cmp (do_eq hr.units) (de_callB dc_len T.b_len (da_cons (de_var (i := 0)) da_nil)) de_int) (de_and (de_call D_is_name (hr.mono (by decide)) tk0 (da_cons (de_ix (de_var (i := 0)) de_int) da_nil)) (de_one (de_call D_is_number (hr.mono (by decide)) tk0 (da_cons (de_ix (de_var (i := 0)) de_int) (da_cons (de_gint T.c_MOST_HUE.choose_spec) da_nil))))))))
    dss_nil)
  (dss_cons ev (ds_if (dt_cmp (do_eq hr.units) (de_ix (de_var (i := 0)) de_int) (de_gstr T.c_SAME.choose_spec))
    (dss_one (ds_ret (de_and (de_cmp (do_eq hr.units) (de_callB dc_len T.b_len (da_cons (de_var (i := 0)) da_nil)) de_int) (de_and (de_call D_is_name (hr.mono (by decide)) tk0 (da_cons (de_ix (de_var (i := 0)) de_int) da_nil)) (de_one (de_call D_is_name (hr.mono (by decide)) tk0 (da_cons (de_ix (de_var (i := 0)) de_int) da_nil)))))))
    dss_nil)
  (dss_cons ev (ds_if (dw_pt (dw_or (dt_cmp (do_ne hr.units) (de_ix (de_var (i := 0)) de_int) (de_gstr T.c_TIE.choose_spec)) (dw_or (dt_cmp (do_ne hr.units) (de_callB dc_len T.b_len (da_cons (de_var (i := 0)) da_nil)) de_int) (dw_or1 (dt_not (dt_val (de_call D_is_number (hr.mono (by decide)) tk0 (da_cons (de_ix (de_var (i := 0)) de_int) (da_cons (de_gint T.c_MOST_KIND.choose_spec) da_nil)))))))))
    (dss_one (ds_ret de_bl))
    dss_nil)
  (dss_one (ds_ret (de_and (de_call D_is_name (hr.mono (by decide)) tk0 (da_cons (de_ix (de_var (i := 0)) de_int) da_nil)) (de_one (de_call D_is_name (hr.mono (by decide)) tk0 (da_cons (de_ix (de_var (i := 0)) de_int) da_nil)))))))))
theorem ok_is_line (T : Tx mg) (D_is_name : Dfn P w K mg base CX0 4 "is_name" 1 m_is_name) (D_is_number : Dfn P w K mg base CX0 3 "is_number" 2 m_is_number) (D_is_plain_line : Dfn P w K mg base CX0 5 "is_plain_line" 1 m_is_plain_line) (D_is_within : Dfn P w K mg base CX0 2 "is_within" 3 m_is_within) (F : FunD K "is_line" "is_line" (defArgs s_is_line) (defBody s_is_line) (defScope s_is_line) [] [] f fd) (G : mg "is_line" = some (.ref f)) : Dfn P w K mg base CX0 6 "is_line" 2 m_is_line := by
  refine ⟨⟨f, fd, ["thing", "number"], fn_d F sc_is_line rfl (fun cdv A outer s H E g hr => ?_), G, F.kp, F.bindsN fun _ _ _ _ _ _ us hl => match us, hl with | [_, _], _ => rfl⟩⟩
  have nd := sc_is_line.nd
  have ev := body_even (CX := CX0) (P := P) (w := w) (K := K) (mg := mg) (base := base) (N := N_is_line) (qual := "is_line") (scope := defScope s_is_line) (f := f) (cd := cdv) (A := A) (outer := outer) (s := s) (H := H) (E := E) (g := g)
  unfold b_is_line
  exact (dss_cons ev (ds_if (dw_pt (dw_or (dt_not (dt_val (de_callB (dc_isiA allTs_ok) T.b_isinstance (da_cons (de_var (i := 0)) (da_cons (de_ty T.b_tuple (by decide +kernel)) da_nil))))) (dw_or (dt_cmp do_ltI (de_callB dc_len T.b_len (da_cons (de_var (i := 0)) da_nil)) de_int) (dw_or1 (dt_not (dt_val (de_callB (dc_isiA allTs_ok) T.b_isinstance (da_cons (de_ix (de_var (i := 0)) de_int) (da_cons (de_ty T.b_str (by decide +kernel)) da_nil)))))))))
    (dss_one (ds_ret de_bl))
    dss_nil)
  (dss_cons ev (ds_if (dt_cmp (do_eq hr.units) (de_ix (de_var (i := 0)) de_int) (de_gstr T.c_NOT.choose_spec))
    (dss_one (ds_ret (de_and (de_cmp (do_eq hr.units) (de_callB dc_len T.b_len (da_cons (de_var (i := 0)) da_nil)) de_int) (de_one (de_call D_is_number (hr.mono (by decide)) tk0 (da_cons (de_ix (de_var (i := 0)) de_int) (da_cons (de_op do_subI (de_var (i := 1)) de_int) da_nil)))))))
    dss_nil)
  (dss_cons ev (ds_if (dw_pt (dw_or (dt_cmp (do_eq hr.units) (de_ix (de_var (i := 0)) de_int) (de_gstr T.c_ALL.choose_spec)) (dw_or1 (dt_cmp (do_eq hr.units) (de_ix (de_var (i := 0)) de_int) (de_gstr T.c_SOME.choose_spec)))))
    (dss_cons ev (ds_if (dw_pt (dw_or (dt_cmp (do_ne hr.units) (de_callB dc_len T.b_len (da_cons (de_var (i := 0)) da_nil)) de_int) (dw_or1 (dt_not (dt_val (de_callB (dc_isiA allTs_ok) T.b_isinstance (da_cons (de_ix (de_var (i := 0)) de_int) (da_cons (de_ty T.b_tuple (by decide +kernel)) da_nil))))))))
    (dss_one (ds_ret de_bl))
    dss_nil)
  (dss_one (ds_ret (de_callB (dc_all rfl) T.b_all (da_cons (de_lcA fr_f rfl nd (di_seq (de_ix (de_var (i := 0)) de_int)) (blkOk_by (own := [("line", 2)]) (N := N_is_line) (sc := defScope s_is_line) (by decide +kernel)) (fun B _ _ _ _ _ => (dg_name (i := 2) nd)) dtu_nil (fun B _ _ _ _ _ => (de_call D_is_number (hr.mono (by decide)) tk0 (da_cons (de_var (i := 2)) (da_cons (de_op do_subI (de_var (i := 1)) de_int) da_nil))))) da_nil)))))
    dss_nil)
  (dss_cons ev (ds_if (dt_cmp (do_eq hr.units) (de_ix (de_var (i := 0)) de_int) (de_gstr T.c_MANY.choose_spec))
    (dss_cons ev (ds_if (dw_pt (dw_or (dt_cmp (do_ne hr.units) (de_callB dc_len T.b_len (da_cons (de_var (i := 0)) da_nil)) de_int) (dw_or (dt_not (dt_val (de_call D_is_name (hr.mono (by decide)) tk0 (da_cons (de_ix (de_var (i := 0)) de_int) da_nil)))) (dw_or1 (dt_not (dt_val (de_call D_is_within (hr.mono (by decide)) tk0 (da_cons (de_ix (de_var (i := 0)) de_int) (da_cons de_int (da_cons (de_gint T.c_MOST_COUNT.choose_spec) da_nil))))))))))
    (dss_one (ds_ret de_bl))
    dss_nil)
  (dss_one (ds_ret (de_call D_is_number (hr.mono (by decide)) tk0 (da_cons (de_ix (de_var (i := 0)) de_int) (da_cons (de_op do_subI (de_var (i := 1)) de_int) da_nil))))))
    dss_nil)
  (dss_one (ds_ret (de_call D_is_plain_line (hr.mono (by decide)) tk0 (da_cons (de_var (i := 0)) da_nil))))))))
theorem ok_is_saying (T : Tx mg) (D_is_line : Dfn P w K mg base CX0 6 "is_line" 2 m_is_line) (F : FunD K "is_saying" "is_saying" (defArgs s_is_saying) (defBody s_is_saying) (defScope s_is_saying) [] [] f fd) (G : mg "is_saying" = some (.ref f)) : Dfn P w K mg base CX0 7 "is_saying" 1 m_is_saying := by
  refine ⟨⟨f, fd, ["thing"], fn_d F sc_is_saying rfl (fun cdv A outer s H E g hr => ?_), G, F.kp, F.bindsN fun _ _ _ _ _ _ us hl => match us, hl with | [_], _ => rfl⟩⟩
  have nd := sc_is_saying.nd
  have ev := body_even (CX := CX0) (P := P) (w := w) (K := K) (mg := mg) (base := base) (N := N_is_saying) (qual := "is_saying") (scope := defScope s_is_saying) (f := f) (cd := cdv) (A := A) (outer := outer) (s := s) (H := H) (E := E) (g := g)
  unfold b_is_saying
  exact (dss_cons ev (ds_if (dw_pt (dw_or (dt_not (dt_val (de_callB (dc_isiA allTs_ok) T.b_isinstance (da_cons (de_var (i := 0)) (da_cons (de_ty T.b_tuple (by decide +kernel)) da_nil))))) (dw_or1 (dt_cmp (do_eq hr.units) (de_callB dc_len T.b_len (da_cons (de_var (i := 0)) da_nil)) de_int))))
    (dss_one (ds_ret de_bl))
    dss_nil)
  (dss_one (ds_ret (de_callB (dc_all rfl) T.b_all (da_cons (de_lcA fr_f rfl nd (di_enumA T.b_enumerate (da_cons (de_var (i := 0)) da_nil)) (blkOk_by (own := [("number", 1), ("line", 2)]) (N := N_is_saying) (sc := defScope s_is_saying) (by decide +kernel)) (fun B _ _ _ _ _ => (dg_tup (n := 2) rfl (dgs_cons (dg_name (i := 1) nd) (dgs_cons (dg_name (i := 2) nd) dgs_nil)))) dtu_nil (fun B _ _ _ _ _ => (de_call D_is_line (hr.mono (by decide)) tk0 (da_cons (de_var (i := 2)) (da_cons (de_var (i := 1)) da_nil))))) da_nil)))))
theorem ok_check_saying (T : Tx mg) (D_is_saying : Dfn P w K mg base CX0 7 "is_saying" 1 m_is_saying) (F : FunD K "check_saying" "check_saying" (defArgs s_check_saying) (defBody s_check_saying) (defScope s_check_saying) [] [] f fd) (G : mg "check_saying" = some (.ref f)) : Dfn P w K mg base CX0 8 "check_saying" 1 m_check_saying := by
  refine ⟨⟨f, fd, ["thing"], fn_d F sc_check_saying rfl (fun cdv A outer s H E g hr => ?_), G, F.kp, F.bindsN fun _ _ _ _ _ _ us hl => match us, hl with | [_], _ => rfl⟩⟩
  have nd := sc_check_saying.nd
  have ev := body_even (CX := CX0) (P := P) (w := w) (K := K) (mg := mg) (base := base) (N := N_check_saying) (qual := "check_saying") (scope := defScope s_check_saying) (f := f) (cd := cdv) (A := A) (outer := outer) (s := s) (H := H) (E := E) (g := g)
  unfold b_check_saying
  exact (dss_one (ds_if (dt_not (dt_val (de_call D_is_saying (hr.mono (by decide)) tk0 (da_cons (de_var (i := 0)) da_nil))))
    (dss_one ds_never)
    dss_nil))
theorem ok_parts_told (T : Tx mg)  (F : FunD K "parts_told" "parts_told" (defArgs s_parts_told) (defBody s_parts_told) (defScope s_parts_told) [] [] f fd) (G : mg "parts_told" = some (.ref f)) : Dfn P w K mg base CX0 1 "parts_told" 1 m_parts_told := by
  refine ⟨⟨f, fd, ["line"], fn_d F sc_parts_told rfl (fun cdv A outer s H E g hr => ?_), G, F.kp, F.bindsN fun _ _ _ _ _ _ us hl => match us, hl with | [_], _ => rfl⟩⟩
  have nd := sc_parts_told.nd
  have ev := body_even (CX := CX0) (P := P) (w := w) (K := K) (mg := mg) (base := base) (N := N_parts_told) (qual := "parts_told") (scope := defScope s_parts_told) (f := f) (cd := cdv) (A := A) (outer := outer) (s := s) (H := H) (E := E) (g := g)
  unfold b_parts_told
  exact (dss_cons ev (ds_if (dt_cmp (do_eq hr.units) (de_ix (de_var (i := 0)) de_int) (de_gstr T.c_NOT.choose_spec))
    (dss_one (ds_ret (de_tup (da_cons (de_ix (de_var (i := 0)) de_int) da_nil))))
    dss_nil)
  (dss_cons ev (ds_if (dt_cmp (do_eq hr.units) (de_ix (de_var (i := 0)) de_int) (de_gstr T.c_MANY.choose_spec))
    (dss_one (ds_ret (de_tup (da_cons (de_ix (de_var (i := 0)) de_int) da_nil))))
    dss_nil)
  (dss_one (ds_ret (de_if (dw_pt (dw_or (dt_cmp (do_eq hr.units) (de_ix (de_var (i := 0)) de_int) (de_gstr T.c_ALL.choose_spec)) (dw_or1 (dt_cmp (do_eq hr.units) (de_ix (de_var (i := 0)) de_int) (de_gstr T.c_SOME.choose_spec))))) (de_ix (de_var (i := 0)) de_int) (de_tup da_nil))))))
theorem ok_names_told (T : Tx mg)  (F : FunD K "names_told" "names_told" (defArgs s_names_told) (defBody s_names_told) (defScope s_names_told) [] [] f fd) (G : mg "names_told" = some (.ref f)) : Dfn P w K mg base CX0 1 "names_told" 1 m_names_told := by
  refine ⟨⟨f, fd, ["line"], fn_d F sc_names_told rfl (fun cdv A outer s H E g hr => ?_), G, F.kp, F.bindsN fun _ _ _ _ _ _ us hl => match us, hl with | [_], _ => rfl⟩⟩
  have nd := sc_names_told.nd
  have ev := body_even (CX := CX0) (P := P) (w := w) (K := K) (mg := mg) (base := base) (N := N_names_told) (qual := "names_told") (scope := defScope s_names_told) (f := f) (cd := cdv) (A := A) (outer := outer) (s := s) (H := H) (E := E) (g := g)
  unfold b_names_told
  exact (dss_cons ev (ds_if (dt_cmp (do_eq hr.units) (de_ix (de_var (i := 0)) de_int) (de_gstr T.c_HUE.choose_spec))
    (dss_one (ds_ret (de_tup (da_cons (de_ix (de_var (i := 0)) de_int) da_nil))))
    dss_nil)
  (dss_cons ev (ds_if (dt_cmp (do_eq hr.units) (de_ix (de_var (i := 0)) de_int) (de_gstr T.c_SAME.choose_spec))
    (dss_one (ds_ret (de_sl (de_var (i := 0)) (do_some de_int) do_none)))
    dss_nil)
  (dss_one (ds_ret (de_if (dt_cmp (do_eq hr.units) (de_ix (de_var (i := 0)) de_int) (de_gstr T.c_TIE.choose_spec)) (de_sl (de_var (i := 0)) (do_some de_int) do_none) (de_tup da_nil))))))
theorem ok_reached (T : Tx mg) (D_parts_told : Dfn P w K mg base CX0 1 "parts_told" 1 m_parts_told) (F : FunD K "reached" "reached" (defArgs s_reached) (defBody s_reached) (defScope s_reached) [] [] f fd) (G : mg "reached" = some (.ref f)) : Dfn P w K mg base CX0 2 "reached" 2 m_reached := by
  refine ⟨⟨f, fd, ["saying", "last"], fn_d F sc_reached rfl (fun cdv A outer s H E g hr => ?_), G, F.kp, F.bindsN fun _ _ _ _ _ _ us hl => match us, hl with | [_, _], _ => rfl⟩⟩
  have nd := sc_reached.nd
  have ev := body_even (CX := CX0) (P := P) (w := w) (K := K) (mg := mg) (base := base) (N := N_reached) (qual := "reached") (scope := defScope s_reached) (f := f) (cd := cdv) (A := A) (outer := outer) (s := s) (H := H) (E := E) (g := g)
  unfold b_reached
  exact (dss_cons ev (ds_par (i := 2) (j := 3) rfl nd (da_cons (de_dispN fun B => (dp_cons (de_var (i := 1)) de_bl dp_nil)) (da_cons (de_new (da_cons (de_var (i := 1)) da_nil)) da_nil)))
  (dss_cons ev (ds_while 10000 (passes_of rfl) ev (dt_cmp do_gtI (de_callB dc_len T.b_len (da_cons (de_var (i := 3)) da_nil)) de_int)
    (dss_one (ds_for (vs := [4]) (passes_of rfl) rfl ev (di_seq (de_call D_parts_told (hr.mono (by decide)) tk0 (da_cons (de_ix (de_var (i := 0)) (de_bm0 PySem.F.plainAttrs_list PySem.F.slot_list_pop PySem.F.type_list_pop dm_pop (de_var (i := 3)))) da_nil))) (dg_name (i := 4) nd)
    (dss_one (ds_if (dt_cmp (do_notInU hr.hu) (de_var (i := 4)) (de_var (i := 2)))
    (dss_cons ev (ds_subU hr.hu1 (de_var (i := 2)) (de_var (i := 4)) de_bl)
  (dss_one (ds_expr (de_bm PySem.F.plainAttrs_list PySem.F.slot_list_append PySem.F.type_list_append dm_append (de_var (i := 3)) (da_cons (de_var (i := 4)) da_nil)))))
    dss_nil)))))
  (dss_one (ds_ret (de_callB (dc_sort fl_f rfl) T.b_sorted (da_cons (de_var (i := 2)) da_nil))))))
theorem ok_free_of_lines (T : Tx mg) (D_names_told : Dfn P w K mg base CX0 1 "names_told" 1 m_names_told) (D_parts_told : Dfn P w K mg base CX0 1 "parts_told" 1 m_parts_told) (F : FunD K "free_of_lines" "free_of_lines" (defArgs s_free_of_lines) (defBody s_free_of_lines) (defScope s_free_of_lines) [] [] f fd) (G : mg "free_of_lines" = some (.ref f)) : Dfn P w K mg base CX0 2 "free_of_lines" 1 m_free_of_lines := by
  refine ⟨⟨f, fd, ["saying"], fn_d F sc_free_of_lines rfl (fun cdv A outer s H E g hr => ?_), G, F.kp, F.bindsN fun _ _ _ _ _ _ us hl => match us, hl with | [_], _ => rfl⟩⟩
  have nd := sc_free_of_lines.nd
  have ev := body_even (CX := CX0) (P := P) (w := w) (K := K) (mg := mg) (base := base) (N := N_free_of_lines) (qual := "free_of_lines") (scope := defScope s_free_of_lines) (f := f) (cd := cdv) (A := A) (outer := outer) (s := s) (H := H) (E := E) (g := g)
  unfold b_free_of_lines
  exact (dss_cons ev (ds_set (i := 1) nd (de_new da_nil))
  (dss_cons ev (ds_for (vs := [2]) (passes_of rfl) rfl ev (di_seq (de_var (i := 0))) (dg_name (i := 2) nd)
    (dss_cons ev (ds_setDc fd_n (i := 3) rfl nd rfl rfl (sw_trueD rfl rfl rfl (by decide +kernel)) (di_seq (de_call D_names_told (hr.mono (by decide)) tk0 (da_cons (de_var (i := 2)) da_nil))) (blkOk_by (own := [("name", 4)]) (N := N_free_of_lines) (sc := defScope s_free_of_lines) (by decide +kernel)) (fun B _ _ _ _ _ => (dg_name (i := 4) nd)) dtu_nil (fun B _ _ _ _ _ => (de_var (i := 4))) (fun B _ _ _ _ _ => de_bl))
  (dss_cons ev (ds_for (vs := [5]) (passes_of rfl) rfl ev (di_seq (de_call D_parts_told (hr.mono (by decide)) tk0 (da_cons (de_var (i := 2)) da_nil))) (dg_name (i := 5) nd)
    (dss_one (ds_expr (de_bm PySem.F.plainAttrs_dict PySem.F.slot_dict_update PySem.F.type_dict_update dm_upd (de_var (i := 3)) (da_cons (de_dc fd_f rfl nd (di_seq (de_ix (de_var (i := 1)) (de_var (i := 5)))) (blkOk_by (own := [("name", 4)]) (N := N_free_of_lines) (sc := defScope s_free_of_lines) (by decide +kernel)) (fun B _ _ _ _ _ => (dg_name (i := 4) nd)) dtu_nil (fun B _ _ _ _ _ => (de_var (i := 4))) (fun B _ _ _ _ _ => de_bl)) da_nil)))))
  (dss_cons ev (ds_if (dt_cmp (do_eq hr.units) (de_ix (de_var (i := 2)) de_int) (de_gstr T.c_MANY.choose_spec))
    (dss_one (ds_expr (de_pop2 (de_var (i := 3)) (de_ix (de_var (i := 2)) de_int) de_non)))
    dss_nil)
  (dss_one (ds_expr (de_bm PySem.F.plainAttrs_list PySem.F.slot_list_append PySem.F.type_list_append dm_append (de_var (i := 1)) (da_cons (de_callTy dc_tup T.b_tuple (da_cons (de_callB (dc_sort fl_f rfl) T.b_sorted (da_cons (de_var (i := 3)) da_nil)) da_nil)) da_nil))))))))
  (dss_fz 1 ev (dss_one (ds_ret (de_var (i := 1)))))))
theorem ok_free (T : Tx mg) (D_check_saying : Dfn P w K mg base CX0 8 "check_saying" 1 m_check_saying) (D_free_of_lines : Dfn P w K mg base CX0 2 "free_of_lines" 1 m_free_of_lines) (F : FunD K "free" "free" (defArgs s_free) (defBody s_free) (defScope s_free) [] [] f fd) (G : mg "free" = some (.ref f)) : Dfn P w K mg base CX0 9 "free" 1 m_free := by
  refine ⟨⟨f, fd, ["saying"], fn_d F sc_free rfl (fun cdv A outer s H E g hr => ?_), G, F.kp, F.bindsN fun _ _ _ _ _ _ us hl => match us, hl with | [_], _ => rfl⟩⟩
  have nd := sc_free.nd
  have ev := body_even (CX := CX0) (P := P) (w := w) (K := K) (mg := mg) (base := base) (N := N_free) (qual := "free") (scope := defScope s_free) (f := f) (cd := cdv) (A := A) (outer := outer) (s := s) (H := H) (E := E) (g := g)
  unfold b_free
  exact (dss_cons ev (ds_expr (de_call D_check_saying (hr.mono (by decide)) tk0 (da_cons (de_var (i := 0)) da_nil)))
  (dss_one (ds_ret (de_ix (de_call D_free_of_lines (hr.mono (by decide)) tk0 (da_cons (de_var (i := 0)) da_nil)) (de_un do_negI de_int)))))
theorem ok_names (T : Tx mg) (D_check_saying : Dfn P w K mg base CX0 8 "check_saying" 1 m_check_saying) (D_names_told : Dfn P w K mg base CX0 1 "names_told" 1 m_names_told) (D_reached : Dfn P w K mg base CX0 2 "reached" 2 m_reached) (F : FunD K "names" "names" (defArgs s_names) (defBody s_names) (defScope s_names) [] [] f fd) (G : mg "names" = some (.ref f)) : Dfn P w K mg base CX0 9 "names" 1 m_names := by
  refine ⟨⟨f, fd, ["saying"], fn_d F sc_names rfl (fun cdv A outer s H E g hr => ?_), G, F.kp, F.bindsN fun _ _ _ _ _ _ us hl => match us, hl with | [_], _ => rfl⟩⟩
  have nd := sc_names.nd
  have ev := body_even (CX := CX0) (P := P) (w := w) (K := K) (mg := mg) (base := base) (N := N_names) (qual := "names") (scope := defScope s_names) (f := f) (cd := cdv) (A := A) (outer := outer) (s := s) (H := H) (E := E) (g := g)
  unfold b_names
  exact (dss_cons ev (ds_expr (de_call D_check_saying (hr.mono (by decide)) tk0 (da_cons (de_var (i := 0)) da_nil)))
  (dss_cons ev (ds_set (i := 1) nd de_dict0N)
  (dss_cons ev (ds_for (vs := [2]) (passes_of rfl) rfl ev (di_seq (de_call D_reached (hr.mono (by decide)) tk0 (da_cons (de_var (i := 0)) (da_cons (de_op do_subI (de_callB dc_len T.b_len (da_cons (de_var (i := 0)) da_nil)) de_int) da_nil)))) (dg_name (i := 2) nd)
    (dss_cons ev (ds_set (i := 3) nd (de_ix (de_var (i := 0)) (de_var (i := 2))))
  (dss_cons ev (ds_expr (de_bm PySem.F.plainAttrs_dict PySem.F.slot_dict_update PySem.F.type_dict_update dm_upd (de_var (i := 1)) (da_cons (de_dc fd_f rfl nd (di_seq (de_call D_names_told (hr.mono (by decide)) tk0 (da_cons (de_var (i := 3)) da_nil))) (blkOk_by (own := [("name", 4)]) (N := N_names) (sc := defScope s_names) (by decide +kernel)) (fun B _ _ _ _ _ => (dg_name (i := 4) nd)) dtu_nil (fun B _ _ _ _ _ => (de_var (i := 4))) (fun B _ _ _ _ _ => de_bl)) da_nil)))
  (dss_one (ds_if (dt_cmp (do_eq hr.units) (de_ix (de_var (i := 3)) de_int) (de_gstr T.c_MANY.choose_spec))
    (dss_one (ds_subU hr.hu1 (de_var (i := 1)) (de_ix (de_var (i := 3)) de_int) de_bl))
    dss_nil)))))
  (dss_one (ds_ret (de_callTy dc_tup T.b_tuple (da_cons (de_callB (dc_sort fl_f rfl) T.b_sorted (da_cons (de_var (i := 1)) da_nil)) da_nil)))))))
theorem ok_depth (T : Tx mg) (D_check_saying : Dfn P w K mg base CX0 8 "check_saying" 1 m_check_saying) (D_parts_told : Dfn P w K mg base CX0 1 "parts_told" 1 m_parts_told) (F : FunD K "depth" "depth" (defArgs s_depth) (defBody s_depth) (defScope s_depth) [] [] f fd) (G : mg "depth" = some (.ref f)) : Dfn P w K mg base CX0 9 "depth" 1 m_depth := by
  refine ⟨⟨f, fd, ["saying"], fn_d F sc_depth rfl (fun cdv A outer s H E g hr => ?_), G, F.kp, F.bindsN fun _ _ _ _ _ _ us hl => match us, hl with | [_], _ => rfl⟩⟩
  have nd := sc_depth.nd
  have ev := body_even (CX := CX0) (P := P) (w := w) (K := K) (mg := mg) (base := base) (N := N_depth) (qual := "depth") (scope := defScope s_depth) (f := f) (cd := cdv) (A := A) (outer := outer) (s := s) (H := H) (E := E) (g := g)
  unfold b_depth
  exact (dss_cons ev (ds_expr (de_call D_check_saying (hr.mono (by decide)) tk0 (da_cons (de_var (i := 0)) da_nil)))
  (dss_cons ev (ds_set (i := 1) nd (de_new da_nil))
  (dss_cons ev (ds_for (vs := [2]) (passes_of rfl) rfl ev (di_seq (de_var (i := 0))) (dg_name (i := 2) nd)
    (dss_cons ev (ds_set (i := 3) nd (de_callB (dc_maxL rfl) T.b_max (da_cons (de_op do_addA (de_lst (da_cons de_int da_nil)) (de_lcA fr_f rfl nd (di_seq (de_call D_parts_told (hr.mono (by decide)) tk0 (da_cons (de_var (i := 2)) da_nil))) (blkOk_by (own := [("number", 4)]) (N := N_depth) (sc := defScope s_depth) (by decide +kernel)) (fun B _ _ _ _ _ => (dg_name (i := 4) nd)) dtu_nil (fun B _ _ _ _ _ => (de_ix (de_var (i := 1)) (de_var (i := 4)))))) da_nil)))
  (dss_one (ds_expr (de_bm PySem.F.plainAttrs_list PySem.F.slot_list_append PySem.F.type_list_append dm_append (de_var (i := 1)) (da_cons (de_op do_addA (de_var (i := 3)) (de_callTy dc_int T.b_int (da_cons (de_cmp (do_eq hr.units) (de_ix (de_var (i := 2)) de_int) (de_gstr T.c_MANY.choose_spec)) da_nil))) da_nil))))))
  (dss_one (ds_ret (de_ix (de_var (i := 1)) (de_un do_negI de_int)))))))
theorem ok__law_pot (T : Tx mg)  (F : FunD K "_law_pot" "_law_pot" (defArgs s__law_pot) (defBody s__law_pot) (defScope s__law_pot) [] [] f fd) (G : mg "_law_pot" = some (.ref f)) : Dfn P w K mg base CX0 1 "_law_pot" 1 m__law_pot := by
  refine ⟨⟨f, fd, ["script"], fn_d F sc__law_pot rfl (fun cdv A outer s H E g hr => ?_), G, F.kp, F.bindsN fun _ _ _ _ _ _ us hl => match us, hl with | [_], _ => rfl⟩⟩
  have nd := sc__law_pot.nd
  have ev := body_even (CX := CX0) (P := P) (w := w) (K := K) (mg := mg) (base := base) (N := N__law_pot) (qual := "_law_pot") (scope := defScope s__law_pot) (f := f) (cd := cdv) (A := A) (outer := outer) (s := s) (H := H) (E := E) (g := g)
  unfold b__law_pot
  exact (dss_cons ev (ds_setLcA fr_f (i := 1) rfl nd rfl rfl (sw_true rfl rfl rfl (by decide +kernel)) (di_seq (de_sl (de_var (i := 0)) do_none (do_some de_int))) (blkOk_by (own := [("cell", 2)]) (N := N__law_pot) (sc := defScope s__law_pot) (by decide +kernel)) (fun B _ _ _ _ _ => (dg_name (i := 2) nd)) dtu_nil (fun B _ _ _ _ _ => (de_callB dc_abs T.b_abs (da_cons (de_callTy dc_int T.b_int (da_cons (de_var (i := 2)) da_nil)) da_nil))))
  (dss_one (ds_ret (de_new (da_cons (de_var (i := 1)) (da_cons de_int (da_cons de_int (da_cons (de_op do_addA de_int (de_callB dc_len T.b_len (da_cons (de_var (i := 1)) da_nil))) (da_cons de_int da_nil)))))))))
theorem ok__law_draw (T : Tx mg)  (F : FunD K "_law_draw" "_law_draw" (defArgs s__law_draw) (defBody s__law_draw) (defScope s__law_draw) [] [] f fd) (G : mg "_law_draw" = some (.ref f)) : Dfn P w K mg base CX0 1 "_law_draw" 2 m__law_draw := by
  refine ⟨⟨f, fd, ["pot", "many"], fn_d F sc__law_draw rfl (fun cdv A outer s H E g hr => ?_), G, F.kp, F.bindsN fun _ _ _ _ _ _ us hl => match us, hl with | [_, _], _ => rfl⟩⟩
  have nd := sc__law_draw.nd
  have ev := body_even (CX := CX0) (P := P) (w := w) (K := K) (mg := mg) (base := base) (N := N__law_draw) (qual := "_law_draw") (scope := defScope s__law_draw) (f := f) (cd := cdv) (A := A) (outer := outer) (s := s) (H := H) (E := E) (g := g)
  unfold b__law_draw
  exact (dss_cons ev (ds_if (dw_pt (dw_and (dt_cmp (do_eq hr.units) (de_ix (de_var (i := 0)) de_int) de_int) (dw_and1 (dt_cmp do_ltI (de_ix (de_var (i := 0)) de_int) (de_callB dc_len T.b_len (da_cons (de_ix (de_var (i := 0)) de_int) da_nil))))))
    (dss_cons ev (ds_set (i := 2) nd (de_ix (de_ix (de_var (i := 0)) de_int) (de_ix (de_var (i := 0)) de_int)))
  (dss_cons ev (ds_sub (de_var (i := 0)) de_int (de_op do_addA (de_ix (de_var (i := 0)) de_int) de_int))
  (dss_cons ev (ds_sub (de_var (i := 0)) de_int (de_op do_modI (de_callTy dc_int T.b_int (da_cons (de_op do_addA (de_op do_addA (de_op do_mulA (de_ix (de_var (i := 0)) de_int) de_int) (de_var (i := 2))) de_int) da_nil)) de_int))
  (dss_one (ds_if (dt_cmp do_geI (de_var (i := 2)) (de_op do_powI de_int de_int))
    (dss_one (ds_sub (de_var (i := 0)) de_int (de_var (i := 2))))
    dss_nil)))))
    dss_nil)
  (dss_cons ev (ds_if (dt_cmp do_gtI (de_ix (de_var (i := 0)) de_int) de_int)
    (dss_cons ev (ds_set (i := 3) nd (de_op do_modI (de_callTy dc_int T.b_int (da_cons (de_ix (de_var (i := 0)) de_int) da_nil)) (de_var (i := 1))))
  (dss_cons ev (ds_sub (de_var (i := 0)) de_int (de_op do_fdivI (de_ix (de_var (i := 0)) de_int) (de_var (i := 1))))
  (dss_one (ds_ret (de_var (i := 3))))))
    dss_nil)
  (dss_cons ev (ds_sub (de_var (i := 0)) de_int (de_op do_addA (de_ix (de_var (i := 0)) de_int) de_int))
  (dss_cons ev (ds_set (i := 4) nd (de_op do_modI (de_callTy dc_int T.b_int (da_cons (de_op do_mulA (de_callTy dc_int T.b_int (da_cons (de_op do_addA (de_ix (de_var (i := 0)) de_int) (de_op do_mulA de_int (de_ix (de_var (i := 0)) de_int))) da_nil)) de_int) da_nil)) de_int))
  (dss_cons ev (ds_set (i := 4) nd (de_op do_modI (de_callTy dc_int T.b_int (da_cons (de_op do_mulA (de_var (i := 4)) (de_op do_addA (de_op do_fdivI (de_var (i := 4)) de_int) de_int)) da_nil)) de_int))
  (dss_cons ev (ds_set (i := 4) nd (de_op do_modI (de_callTy dc_int T.b_int (da_cons (de_op do_mulA (de_var (i := 4)) (de_op do_addA (de_op do_fdivI (de_var (i := 4)) de_int) de_int)) da_nil)) de_int))
  (dss_one (ds_ret (de_op do_modI (de_callTy dc_int T.b_int (da_cons (de_op do_fdivI (de_var (i := 4)) de_int) da_nil)) (de_var (i := 1)))))))))))
theorem ok__law_any (T : Tx mg) (D__law_draw : Dfn P w K mg base CX0 1 "_law_draw" 2 m__law_draw) (F : FunD K "_law_any" "_law_any" (defArgs s__law_any) (defBody s__law_any) (defScope s__law_any) [] [] f fd) (G : mg "_law_any" = some (.ref f)) : Dfn P w K mg base CX0 2 "_law_any" 2 m__law_any := by
  refine ⟨⟨f, fd, ["pot", "things"], fn_d F sc__law_any rfl (fun cdv A outer s H E g hr => ?_), G, F.kp, F.bindsN fun _ _ _ _ _ _ us hl => match us, hl with | [_, _], _ => rfl⟩⟩
  have nd := sc__law_any.nd
  have ev := body_even (CX := CX0) (P := P) (w := w) (K := K) (mg := mg) (base := base) (N := N__law_any) (qual := "_law_any") (scope := defScope s__law_any) (f := f) (cd := cdv) (A := A) (outer := outer) (s := s) (H := H) (E := E) (g := g)
  unfold b__law_any
  exact (dss_one (ds_ret (de_ix (de_var (i := 1)) (de_call D__law_draw (hr.mono (by decide)) tk0 (da_cons (de_var (i := 0)) (da_cons (de_callB dc_len T.b_len (da_cons (de_var (i := 1)) da_nil)) da_nil))))))
theorem ok__law_line_of (T : Tx mg) (D__law_any : Dfn P w K mg base CX0 2 "_law_any" 2 m__law_any) (D__law_draw : Dfn P w K mg base CX0 1 "_law_draw" 2 m__law_draw) (F : FunD K "_law_line_of" "_law_line_of" (defArgs s__law_line_of) (defBody s__law_line_of) (defScope s__law_line_of) [] [] f fd) (G : mg "_law_line_of" = some (.ref f)) : Dfn P w K mg base CX0 3 "_law_line_of" 4 m__law_line_of := by
  refine ⟨⟨f, fd, ["pot", "at", "most", "deeper"], fn_d F sc__law_line_of rfl (fun cdv A outer s H E g hr => ?_), G, F.kp, F.bindsN fun _ _ _ _ _ _ us hl => match us, hl with | [_, _, _, _], _ => rfl⟩⟩
  have nd := sc__law_line_of.nd
  have ev := body_even (CX := CX0) (P := P) (w := w) (K := K) (mg := mg) (base := base) (N := N__law_line_of) (qual := "_law_line_of") (scope := defScope s__law_line_of) (f := f) (cd := cdv) (A := A) (outer := outer) (s := s) (H := H) (E := E) (g := g)
  unfold b__law_line_of
  exact (dss_cons ev (ds_par3 (i := 4) (j := 5) (l := 6) rfl nd (da_cons (de_call D__law_draw (hr.mono (by decide)) tk0 (da_cons (de_var (i := 0)) (da_cons (de_var (i := 2)) da_nil))) (da_cons (de_call D__law_draw (hr.mono (by decide)) tk0 (da_cons (de_var (i := 0)) (da_cons (de_var (i := 2)) da_nil))) (da_cons (de_call D__law_draw (hr.mono (by decide)) tk0 (da_cons (de_var (i := 0)) (da_cons de_int da_nil))) da_nil))))
  (dss_cons ev (ds_if (dw_pt (dw_or (dt_cmp (do_eq hr.units) (de_var (i := 1)) de_int) (dw_or1 (dt_cmp do_geI (de_call D__law_draw (hr.mono (by decide)) tk0 (da_cons (de_var (i := 0)) (da_cons de_int da_nil))) (de_var (i := 3))))))
    (dss_cons ev (ds_if (dt_cmp do_ltI (de_var (i := 6)) de_int)
    (dss_one (ds_ret (de_tup (da_cons de_str (da_cons (de_var (i := 4)) (da_cons (de_call D__law_any (hr.mono (by decide)) tk0 (da_cons (de_var (i := 0)) (da_cons (de_lst (da_cons de_int (da_cons de_int (da_cons de_int (da_cons de_int (da_cons (de_call D__law_draw (hr.mono (by decide)) tk0 (da_cons (de_var (i := 0)) (da_cons de_int da_nil))) da_nil)))))) da_nil))) da_nil))))))
    dss_nil)
  (dss_one (ds_ret (de_if (dt_cmp do_ltI (de_var (i := 6)) de_int) (de_tup (da_cons de_str (da_cons (de_var (i := 4)) (da_cons (de_var (i := 5)) da_nil)))) (de_tup (da_cons de_str (da_cons (de_call D__law_any (hr.mono (by decide)) tk0 (da_cons (de_var (i := 0)) (da_cons (de_lst (da_cons de_int (da_cons de_int (da_cons de_int (da_cons de_int (da_cons (de_call D__law_draw (hr.mono (by decide)) tk0 (da_cons (de_var (i := 0)) (da_cons de_int da_nil))) da_nil)))))) da_nil))) (da_cons (de_var (i := 4)) (da_cons (de_var (i := 5)) da_nil)))))))))
    dss_nil)
  (dss_cons ev (ds_set (i := 7) nd (de_callB (dc_max2 rfl) T.b_max (da_cons de_int (da_cons (de_op do_subI (de_op do_subI (de_var (i := 1)) de_int) (de_call D__law_draw (hr.mono (by decide)) tk0 (da_cons (de_var (i := 0)) (da_cons de_int da_nil)))) da_nil))))
  (dss_cons ev (ds_if (dt_cmp do_ltI (de_var (i := 6)) de_int)
    (dss_one (ds_ret (de_tup (da_cons de_str (da_cons (de_var (i := 7)) da_nil)))))
    dss_nil)
  (dss_cons ev (ds_if (dt_cmp do_ltI (de_var (i := 6)) de_int)
    (dss_cons ev (ds_setLcA fr_f (i := 8) rfl nd rfl rfl (sw_true rfl rfl rfl (by decide +kernel)) (di_rng1 T.b_range (da_cons (de_call D__law_any (hr.mono (by decide)) tk0 (da_cons (de_var (i := 0)) (da_cons (de_lst (da_cons de_int (da_cons de_int (da_cons de_int (da_cons de_int (da_cons de_int (da_cons de_int da_nil))))))) da_nil))) da_nil)) (blkOk_by (own := [("turn", 9)]) (N := N__law_line_of) (sc := defScope s__law_line_of) (by decide +kernel)) (fun B _ _ _ _ _ => (dg_name (i := 9) nd)) dtu_nil (fun B _ _ _ _ _ => (de_callB (dc_max2 rfl) T.b_max (da_cons de_int (da_cons (de_op do_subI (de_op do_subI (de_var (i := 1)) de_int) (de_call D__law_draw (hr.mono (by decide)) tk0 (da_cons (de_var (i := 0)) (da_cons de_int da_nil)))) da_nil)))))
  (dss_one (ds_ret (de_tup (da_cons (de_call D__law_any (hr.mono (by decide)) tk0 (da_cons (de_var (i := 0)) (da_cons (de_lst (da_cons de_str (da_cons de_str da_nil))) da_nil))) (da_cons (de_callTy dc_tup T.b_tuple (da_cons (de_var (i := 8)) da_nil)) da_nil))))))
    dss_nil)
  (dss_one (ds_ret (de_tup (da_cons de_str (da_cons (de_var (i := 4)) (da_cons (de_call D__law_any (hr.mono (by decide)) tk0 (da_cons (de_var (i := 0)) (da_cons (de_lst (da_cons de_int (da_cons de_int (da_cons de_int (da_cons de_int (da_cons de_int (da_cons (de_op do_addA de_int (de_call D__law_draw (hr.mono (by decide)) tk0 (da_cons (de_var (i := 0)) (da_cons de_int da_nil)))) da_nil))))))) da_nil))) (da_cons (de_var (i := 7)) da_nil))))))))))))
theorem ok__law_saying (T : Tx mg) (D__law_line_of : Dfn P w K mg base CX0 3 "_law_line_of" 4 m__law_line_of) (F : FunD K "_law_saying" "_law_saying" (defArgs s__law_saying) (defBody s__law_saying) (defScope s__law_saying) [] [] f fd) (G : mg "_law_saying" = some (.ref f)) : Dfn P w K mg base CX0 4 "_law_saying" 4 m__law_saying := by
  refine ⟨⟨f, fd, ["pot", "lines", "most", "deeper"], fn_d F sc__law_saying rfl (fun cdv A outer s H E g hr => ?_), G, F.kp, F.bindsN fun _ _ _ _ _ _ us hl => match us, hl with | [_, _, _, _], _ => rfl⟩⟩
  have nd := sc__law_saying.nd
  have ev := body_even (CX := CX0) (P := P) (w := w) (K := K) (mg := mg) (base := base) (N := N__law_saying) (qual := "_law_saying") (scope := defScope s__law_saying) (f := f) (cd := cdv) (A := A) (outer := outer) (s := s) (H := H) (E := E) (g := g)
  unfold b__law_saying
  exact (dss_one (ds_ret (de_callTy dc_tup T.b_tuple (da_cons (de_lcA fr_f rfl nd (di_rng1 T.b_range (da_cons (de_var (i := 1)) da_nil)) (blkOk_by (own := [("at", 4)]) (N := N__law_saying) (sc := defScope s__law_saying) (by decide +kernel)) (fun B _ _ _ _ _ => (dg_name (i := 4) nd)) dtu_nil (fun B _ _ _ _ _ => (de_call D__law_line_of (hr.mono (by decide)) tk0 (da_cons (de_var (i := 0)) (da_cons (de_var (i := 4)) (da_cons (de_var (i := 2)) (da_cons (de_var (i := 3)) da_nil))))))) da_nil))))
theorem ok__law_told_by (T : Tx mg)  (F : FunD K "_law_told_by" "_law_told_by" (defArgs s__law_told_by) (defBody s__law_told_by) (defScope s__law_told_by) [] [] f fd) (G : mg "_law_told_by" = some (.ref f)) : Dfn P w K mg base CX0 1 "_law_told_by" 1 m__law_told_by := by
  refine ⟨⟨f, fd, ["line"], fn_d F sc__law_told_by rfl (fun cdv A outer s H E g hr => ?_), G, F.kp, F.bindsN fun _ _ _ _ _ _ us hl => match us, hl with | [_], _ => rfl⟩⟩
  have nd := sc__law_told_by.nd
  have ev := body_even (CX := CX0) (P := P) (w := w) (K := K) (mg := mg) (base := base) (N := N__law_told_by) (qual := "_law_told_by") (scope := defScope s__law_told_by) (f := f) (cd := cdv) (A := A) (outer := outer) (s := s) (H := H) (E := E) (g := g)
  unfold b__law_told_by
  exact (dss_cons ev (ds_if (dt_cmp (do_inT hr.hu1) (de_ix (de_var (i := 0)) de_int) (de_tup (da_cons de_str (da_cons de_str da_nil))))
    (dss_one (ds_ret (de_ix (de_var (i := 0)) de_int)))
    dss_nil)
  (dss_one (ds_ret (de_if (dt_cmp (do_inT hr.hu1) (de_ix (de_var (i := 0)) de_int) (de_tup (da_cons de_str (da_cons de_str da_nil)))) (de_tup (da_cons (de_ix (de_var (i := 0)) (de_un do_negI de_int)) da_nil)) (de_tup da_nil)))))
theorem ok__law_kept (T : Tx mg) (D__law_told_by : Dfn P w K mg base CX0 1 "_law_told_by" 1 m__law_told_by) (F : FunD K "_law_kept" "_law_kept" (defArgs s__law_kept) (defBody s__law_kept) (defScope s__law_kept) [] [] f fd) (G : mg "_law_kept" = some (.ref f)) : Dfn P w K mg base CX0 2 "_law_kept" 1 m__law_kept := by
  refine ⟨⟨f, fd, ["saying"], fn_d F sc__law_kept rfl (fun cdv A outer s H E g hr => ?_), G, F.kp, F.bindsN fun _ _ _ _ _ _ us hl => match us, hl with | [_], _ => rfl⟩⟩
  have nd := sc__law_kept.nd
  have ev := body_even (CX := CX0) (P := P) (w := w) (K := K) (mg := mg) (base := base) (N := N__law_kept) (qual := "_law_kept") (scope := defScope s__law_kept) (f := f) (cd := cdv) (A := A) (outer := outer) (s := s) (H := H) (E := E) (g := g)
  unfold b__law_kept
  exact (dss_cons ev (ds_set (i := 1) nd (de_op do_mulLn (de_lst (da_cons de_bl da_nil)) (de_callB dc_len T.b_len (da_cons (de_var (i := 0)) da_nil))))
  (dss_cons ev (ds_sub (de_var (i := 1)) (de_un do_negI de_int) de_bl)
  (dss_cons ev (ds_for (vs := [2]) (passes_of rfl) rfl ev (di_rng3 T.b_range (da_cons (de_op do_subI (de_callB dc_len T.b_len (da_cons (de_var (i := 0)) da_nil)) de_int) (da_cons (de_un do_negI de_int) (da_cons (de_un do_negI de_int) da_nil)))) (dg_name (i := 2) nd)
    (dss_one (ds_if (dt_val (de_ix (de_var (i := 1)) (de_var (i := 2))))
    (dss_one (ds_for (vs := [3]) (passes_of rfl) rfl ev (di_seq (de_call D__law_told_by (hr.mono (by decide)) tk0 (da_cons (de_ix (de_var (i := 0)) (de_var (i := 2))) da_nil))) (dg_name (i := 3) nd)
    (dss_one (ds_sub (de_var (i := 1)) (de_var (i := 3)) de_bl))))
    dss_nil)))
  (dss_one (ds_ret (de_lcA fr_f rfl nd (di_rng1 T.b_range (da_cons (de_callB dc_len T.b_len (da_cons (de_var (i := 0)) da_nil)) da_nil)) (blkOk_by (own := [("at", 2)]) (N := N__law_kept) (sc := defScope s__law_kept) (by decide +kernel)) (fun B _ _ _ _ _ => (dg_name (i := 2) nd)) (dtu_one fun B _ _ _ _ _ => (dt_val (de_ix (de_var (i := 1)) (de_var (i := 2))))) (fun B _ _ _ _ _ => (de_var (i := 2)))))))))
theorem ok__law_free_in (T : Tx mg) (D__law_told_by : Dfn P w K mg base CX0 1 "_law_told_by" 1 m__law_told_by) (F : FunD K "_law_free_in" "_law_free_in" (defArgs s__law_free_in) (defBody s__law_free_in) (defScope s__law_free_in) [] [] f fd) (G : mg "_law_free_in" = some (.ref f)) : Dfn P w K mg base CX0 2 "_law_free_in" 1 m__law_free_in := by
  refine ⟨⟨f, fd, ["saying"], fn_d F sc__law_free_in rfl (fun cdv A outer s H E g hr => ?_), G, F.kp, F.bindsN fun _ _ _ _ _ _ us hl => match us, hl with | [_], _ => rfl⟩⟩
  have nd := sc__law_free_in.nd
  have ev := body_even (CX := CX0) (P := P) (w := w) (K := K) (mg := mg) (base := base) (N := N__law_free_in) (qual := "_law_free_in") (scope := defScope s__law_free_in) (f := f) (cd := cdv) (A := A) (outer := outer) (s := s) (H := H) (E := E) (g := g)
  unfold b__law_free_in
  exact (dss_cons ev (ds_set (i := 1) nd (de_new da_nil))
  (dss_cons ev (ds_for (vs := [2]) (passes_of rfl) rfl ev (di_seq (de_var (i := 0))) (dg_name (i := 2) nd)
    (dss_cons ev (ds_set (i := 3) nd (de_new da_nil))
  (dss_cons ev (ds_if (dt_cmp (do_inT hr.hu1) (de_ix (de_var (i := 2)) de_int) (de_tup (da_cons de_str (da_cons de_str (da_cons de_str da_nil)))))
    (dss_one (ds_set (i := 3) nd (de_callTy dc_lstN T.b_list (da_cons (de_dix hr.hu1 (de_disp fun B => (dp_cons de_str (de_sl (de_var (i := 2)) (do_some de_int) (do_some de_int)) (dp_cons de_str (de_sl (de_var (i := 2)) (do_some de_int) do_none) (dp_cons de_str (de_sl (de_var (i := 2)) (do_some de_int) do_none) dp_nil)))) (de_ix (de_var (i := 2)) de_int)) da_nil))))
    dss_nil)
  (dss_cons ev (ds_for (vs := [4]) (passes_of rfl) rfl ev (di_seq (de_call D__law_told_by (hr.mono (by decide)) tk0 (da_cons (de_var (i := 2)) da_nil))) (dg_name (i := 4) nd)
    (dss_one (ds_expr (de_bm PySem.F.plainAttrs_list PySem.F.slot_list_extend PySem.F.type_list_extend dm_extend (de_var (i := 3)) (da_cons (de_lcA fr_f rfl nd (di_seq (de_ix (de_var (i := 1)) (de_var (i := 4)))) (blkOk_by (own := [("name", 5)]) (N := N__law_free_in) (sc := defScope s__law_free_in) (by decide +kernel)) (fun B _ _ _ _ _ => (dg_name (i := 5) nd)) (dtu_one fun B _ _ _ _ _ => (dt_cmp (do_notInU hr.hu) (de_var (i := 5)) (de_var (i := 3)))) (fun B _ _ _ _ _ => (de_var (i := 5)))) da_nil)))))
  (dss_cons ev (ds_if (dt_cmp (do_eq hr.units) (de_ix (de_var (i := 2)) de_int) de_str)
    (dss_one (ds_set (i := 3) nd (de_lcA fr_n rfl nd (di_seq (de_var (i := 3))) (blkOk_by (own := [("name", 5)]) (N := N__law_free_in) (sc := defScope s__law_free_in) (by decide +kernel)) (fun B _ _ _ _ _ => (dg_name (i := 5) nd)) (dtu_one fun B _ _ _ _ _ => (dt_cmp (do_ne hr.units) (de_var (i := 5)) (de_ix (de_var (i := 2)) de_int))) (fun B _ _ _ _ _ => (de_var (i := 5))))))
    dss_nil)
  (dss_one (ds_expr (de_bm PySem.F.plainAttrs_list PySem.F.slot_list_append PySem.F.type_list_append dm_append (de_var (i := 1)) (da_cons (de_sortSet fl_f rfl T.b_sorted T.b_set (da_cons (de_var (i := 3)) da_nil)) da_nil)))))))))
  (dss_one (ds_ret (de_lcA fr_f rfl nd (di_seq (de_var (i := 1))) (blkOk_by (own := [("some", 3)]) (N := N__law_free_in) (sc := defScope s__law_free_in) (by decide +kernel)) (fun B _ _ _ _ _ => (dg_name (i := 3) nd)) dtu_nil (fun B _ _ _ _ _ => (de_callTy dc_tup T.b_tuple (da_cons (de_var (i := 3)) da_nil))))))))
theorem ok__law_depths (T : Tx mg) (D__law_told_by : Dfn P w K mg base CX0 1 "_law_told_by" 1 m__law_told_by) (F : FunD K "_law_depths" "_law_depths" (defArgs s__law_depths) (defBody s__law_depths) (defScope s__law_depths) [] [] f fd) (G : mg "_law_depths" = some (.ref f)) : Dfn P w K mg base CX0 2 "_law_depths" 1 m__law_depths := by
  refine ⟨⟨f, fd, ["saying"], fn_d F sc__law_depths rfl (fun cdv A outer s H E g hr => ?_), G, F.kp, F.bindsN fun _ _ _ _ _ _ us hl => match us, hl with | [_], _ => rfl⟩⟩
  have nd := sc__law_depths.nd
  have ev := body_even (CX := CX0) (P := P) (w := w) (K := K) (mg := mg) (base := base) (N := N__law_depths) (qual := "_law_depths") (scope := defScope s__law_depths) (f := f) (cd := cdv) (A := A) (outer := outer) (s := s) (H := H) (E := E) (g := g)
  unfold b__law_depths
  exact (dss_cons ev (ds_set (i := 1) nd (de_new da_nil))
  (dss_cons ev (ds_for (vs := [2]) (passes_of rfl) rfl ev (di_seq (de_var (i := 0))) (dg_name (i := 2) nd)
    (dss_cons ev (ds_set (i := 3) nd (de_callB (dc_maxL rfl) T.b_max (da_cons (de_op do_addA (de_lst (da_cons de_int da_nil)) (de_lcA fr_f rfl nd (di_seq (de_call D__law_told_by (hr.mono (by decide)) tk0 (da_cons (de_var (i := 2)) da_nil))) (blkOk_by (own := [("one", 4)]) (N := N__law_depths) (sc := defScope s__law_depths) (by decide +kernel)) (fun B _ _ _ _ _ => (dg_name (i := 4) nd)) dtu_nil (fun B _ _ _ _ _ => (de_ix (de_var (i := 1)) (de_var (i := 4)))))) da_nil)))
  (dss_one (ds_expr (de_bm PySem.F.plainAttrs_list PySem.F.slot_list_append PySem.F.type_list_append dm_append (de_var (i := 1)) (da_cons (de_op do_addA (de_var (i := 3)) (de_callTy dc_int T.b_int (da_cons (de_cmp (do_eq hr.units) (de_ix (de_var (i := 2)) de_int) de_str) da_nil))) da_nil))))))
  (dss_fz 1 ev (dss_one (ds_ret (de_var (i := 1)))))))
theorem ok__law_names_in (T : Tx mg) (D__law_kept : Dfn P w K mg base CX0 2 "_law_kept" 1 m__law_kept) (F : FunD K "_law_names_in" "_law_names_in" (defArgs s__law_names_in) (defBody s__law_names_in) (defScope s__law_names_in) [] [] f fd) (G : mg "_law_names_in" = some (.ref f)) : Dfn P w K mg base CX0 3 "_law_names_in" 1 m__law_names_in := by
  refine ⟨⟨f, fd, ["saying"], fn_d F sc__law_names_in rfl (fun cdv A outer s H E g hr => ?_), G, F.kp, F.bindsN fun _ _ _ _ _ _ us hl => match us, hl with | [_], _ => rfl⟩⟩
  have nd := sc__law_names_in.nd
  have ev := body_even (CX := CX0) (P := P) (w := w) (K := K) (mg := mg) (base := base) (N := N__law_names_in) (qual := "_law_names_in") (scope := defScope s__law_names_in) (f := f) (cd := cdv) (A := A) (outer := outer) (s := s) (H := H) (E := E) (g := g)
  unfold b__law_names_in
  exact (dss_cons ev (ds_set (i := 1) nd (de_new da_nil))
  (dss_cons ev (ds_for (vs := [2]) (passes_of rfl) rfl ev (di_seq (de_call D__law_kept (hr.mono (by decide)) tk0 (da_cons (de_var (i := 0)) da_nil))) (dg_name (i := 2) nd)
    (dss_cons ev (ds_set (i := 3) nd (de_ix (de_var (i := 0)) (de_var (i := 2))))
  (dss_one (ds_expr (de_bm PySem.F.plainAttrs_list PySem.F.slot_list_extend PySem.F.type_list_extend dm_extend (de_var (i := 1)) (da_cons (de_get2 hr.hu1 (de_disp fun B => (dp_cons de_str (de_sl (de_var (i := 3)) (do_some de_int) (do_some de_int)) (dp_cons de_str (de_sl (de_var (i := 3)) (do_some de_int) do_none) (dp_cons de_str (de_sl (de_var (i := 3)) (do_some de_int) do_none) (dp_cons de_str (de_sl (de_var (i := 3)) (do_some de_int) (do_some de_int)) dp_nil))))) (de_ix (de_var (i := 3)) de_int) (de_tup da_nil)) da_nil))))))
  (dss_one (ds_ret (de_callTy dc_tup T.b_tuple (da_cons (de_sortSet fl_f rfl T.b_sorted T.b_set (da_cons (de_var (i := 1)) da_nil)) da_nil))))))
theorem ok__law_right (T : Tx mg) (D__law_depths : Dfn P w K mg base CX0 2 "_law_depths" 1 m__law_depths) (D__law_free_in : Dfn P w K mg base CX0 2 "_law_free_in" 1 m__law_free_in) (D__law_names_in : Dfn P w K mg base CX0 3 "_law_names_in" 1 m__law_names_in) (D_depth : Dfn P w K mg base CX0 9 "depth" 1 m_depth) (D_free : Dfn P w K mg base CX0 9 "free" 1 m_free) (D_names : Dfn P w K mg base CX0 9 "names" 1 m_names) (F : FunD K "_law_right" "_law_right" (defArgs s__law_right) (defBody s__law_right) (defScope s__law_right) [] [] f fd) (G : mg "_law_right" = some (.ref f)) : Dfn P w K mg base CX0 10 "_law_right" 1 m__law_right := by
  refine ⟨⟨f, fd, ["saying"], fn_d F sc__law_right rfl (fun cdv A outer s H E g hr => ?_), G, F.kp, F.bindsN fun _ _ _ _ _ _ us hl => match us, hl with | [_], _ => rfl⟩⟩
  have nd := sc__law_right.nd
  have ev := body_even (CX := CX0) (P := P) (w := w) (K := K) (mg := mg) (base := base) (N := N__law_right) (qual := "_law_right") (scope := defScope s__law_right) (f := f) (cd := cdv) (A := A) (outer := outer) (s := s) (H := H) (E := E) (g := g)
  unfold b__law_right
  exact (dss_cons ev (ds_if (dt_cmp (do_ne hr.units) (de_callB (dc_repr hr) T.b_repr (da_cons (de_call D_free (hr.mono (by decide)) tk0 (da_cons (de_var (i := 0)) da_nil)) da_nil)) (de_callB (dc_repr hr) T.b_repr (da_cons (de_ix (de_call D__law_free_in (hr.mono (by decide)) tk0 (da_cons (de_var (i := 0)) da_nil)) (de_un do_negI de_int)) da_nil)))
    (dss_one (ds_ret de_bl))
    dss_nil)
  (dss_one (ds_ret (de_cmp (do_eq hr.units) (de_callB (dc_repr hr) T.b_repr (da_cons (de_lst (da_cons (de_call D_names (hr.mono (by decide)) tk0 (da_cons (de_var (i := 0)) da_nil)) (da_cons (de_call D_depth (hr.mono (by decide)) tk0 (da_cons (de_var (i := 0)) da_nil)) da_nil))) da_nil)) (de_callB (dc_repr hr) T.b_repr (da_cons (de_lst (da_cons (de_call D__law_names_in (hr.mono (by decide)) tk0 (da_cons (de_var (i := 0)) da_nil)) (da_cons (de_ix (de_call D__law_depths (hr.mono (by decide)) tk0 (da_cons (de_var (i := 0)) da_nil)) (de_un do_negI de_int)) da_nil))) da_nil))))))
theorem ok__law_row_right (T : Tx mg) (D__law_any : Dfn P w K mg base CX0 2 "_law_any" 2 m__law_any) (D__law_draw : Dfn P w K mg base CX0 1 "_law_draw" 2 m__law_draw) (D_depth : Dfn P w K mg base CX0 9 "depth" 1 m_depth) (D_free : Dfn P w K mg base CX0 9 "free" 1 m_free) (D_names : Dfn P w K mg base CX0 9 "names" 1 m_names) (F : FunD K "_law_row_right" "_law_row_right" (defArgs s__law_row_right) (defBody s__law_row_right) (defScope s__law_row_right) [] [] f fd) (G : mg "_law_row_right" = some (.ref f)) : Dfn P w K mg base CX0 10 "_law_row_right" 1 m__law_row_right := by
  refine ⟨⟨f, fd, ["pot"], fn_d F sc__law_row_right rfl (fun cdv A outer s H E g hr => ?_), G, F.kp, F.bindsN fun _ _ _ _ _ _ us hl => match us, hl with | [_], _ => rfl⟩⟩
  have nd := sc__law_row_right.nd
  have ev := body_even (CX := CX0) (P := P) (w := w) (K := K) (mg := mg) (base := base) (N := N__law_row_right) (qual := "_law_row_right") (scope := defScope s__law_row_right) (f := f) (cd := cdv) (A := A) (outer := outer) (s := s) (H := H) (E := E) (g := g)
  unfold b__law_row_right
  exact (dss_cons ev (ds_asg (vs := [1, 2]) (de_tup (da_cons (de_op do_addA de_int (de_call D__law_draw (hr.mono (by decide)) tk0 (da_cons (de_var (i := 0)) (da_cons de_int da_nil)))) (da_cons (de_call D__law_any (hr.mono (by decide)) tk0 (da_cons (de_var (i := 0)) (da_cons (de_lst (da_cons de_str (da_cons de_str (da_cons de_str (da_cons de_str da_nil))))) da_nil))) da_nil))) (dg_tup (n := 2) rfl (dgs_cons (dg_name (i := 1) nd) (dgs_cons (dg_name (i := 2) nd) dgs_nil))))
  (dss_cons ev (ds_asg (vs := [3, 4]) (de_tup (da_cons (de_call D__law_draw (hr.mono (by decide)) tk0 (da_cons (de_var (i := 0)) (da_cons de_int da_nil))) (da_cons (de_call D__law_draw (hr.mono (by decide)) tk0 (da_cons (de_var (i := 0)) (da_cons de_int da_nil))) da_nil))) (dg_tup (n := 2) rfl (dgs_cons (dg_name (i := 3) nd) (dgs_cons (dg_name (i := 4) nd) dgs_nil))))
  (dss_cons ev (ds_set (i := 5) nd (de_new (da_cons (de_tup (da_cons de_str (da_cons de_int (da_cons (de_var (i := 3)) (da_cons (de_var (i := 4)) da_nil))))) da_nil)))
  (dss_cons ev (ds_for (vs := [6]) (passes_of rfl) rfl ev (di_rng1 T.b_range (da_cons (de_var (i := 1)) da_nil)) (dg_name (i := 6) nd)
    (dss_cons ev (ds_set (i := 7) nd (de_disp fun B => (dp_cons de_str (de_tup (da_cons de_str (da_cons (de_var (i := 6)) da_nil))) (dp_cons de_str (de_tup (da_cons de_str (da_cons (de_tup (da_cons (de_var (i := 6)) (da_cons (de_var (i := 6)) da_nil))) da_nil))) (dp_cons de_str (de_tup (da_cons de_str (da_cons (de_tup (da_cons (de_var (i := 6)) da_nil)) da_nil))) (dp_cons de_str (de_tup (da_cons de_str (da_cons (de_var (i := 3)) (da_cons de_int (da_cons (de_var (i := 6)) da_nil))))) dp_nil))))))
  (dss_one (ds_expr (de_bm PySem.F.plainAttrs_list PySem.F.slot_list_append PySem.F.type_list_append dm_append (de_var (i := 5)) (da_cons (de_ixU hr.hu1 (de_var (i := 7)) (de_var (i := 2))) da_nil))))))
  (dss_cons ev (ds_set (i := 8) nd (de_callTy dc_tup T.b_tuple (da_cons (de_op do_addA (de_var (i := 5)) (de_lst (da_cons (de_tup (da_cons de_str (da_cons de_int (da_cons de_int da_nil)))) (da_cons (de_tup (da_cons de_str (da_cons (de_tup (da_cons (de_var (i := 1)) da_nil)) da_nil))) da_nil)))) da_nil)))
  (dss_cons ev (ds_set (i := 9) nd (de_callTy dc_tup T.b_tuple (da_cons (de_lcA fr_f rfl nd (di_seq (de_sortSet fl_f rfl T.b_sorted T.b_set (da_cons (de_lst (da_cons (de_var (i := 3)) (da_cons (de_var (i := 4)) da_nil))) da_nil))) (blkOk_by (own := [("name", 10)]) (N := N__law_row_right) (sc := defScope s__law_row_right) (by decide +kernel)) (fun B _ _ _ _ _ => (dg_name (i := 10) nd)) (dtu_one fun B _ _ _ _ _ => (dw_pt (dw_or (dt_cmp (do_ne hr.units) (de_var (i := 2)) de_str) (dw_or1 (dt_cmp (do_ne hr.units) (de_var (i := 10)) (de_var (i := 3))))))) (fun B _ _ _ _ _ => (de_var (i := 10)))) da_nil)))
  (dss_cons ev (ds_set (i := 11) nd (de_lst (da_cons (de_call D_free (hr.mono (by decide)) tk0 (da_cons (de_var (i := 8)) da_nil)) (da_cons (de_call D_names (hr.mono (by decide)) tk0 (da_cons (de_var (i := 8)) da_nil)) (da_cons (de_call D_depth (hr.mono (by decide)) tk0 (da_cons (de_var (i := 8)) da_nil)) da_nil)))))
  (dss_one (ds_ret (de_cmp (do_eq hr.units) (de_callB (dc_repr hr) T.b_repr (da_cons (de_var (i := 11)) da_nil)) (de_callB (dc_repr hr) T.b_repr (da_cons (de_lst (da_cons (de_var (i := 9)) (da_cons (de_callTy dc_tup T.b_tuple (da_cons (de_sortSet fl_f rfl T.b_sorted T.b_set (da_cons (de_lst (da_cons (de_var (i := 3)) (da_cons (de_var (i := 4)) da_nil))) da_nil)) da_nil)) (da_cons (de_if (dt_cmp (do_eq hr.units) (de_var (i := 2)) de_str) (de_var (i := 1)) de_int) da_nil)))) da_nil))))))))))))
theorem ok_law (T : Tx mg) (D__law_any : Dfn P w K mg base CX0 2 "_law_any" 2 m__law_any) (D__law_draw : Dfn P w K mg base CX0 1 "_law_draw" 2 m__law_draw) (D__law_pot : Dfn P w K mg base CX0 1 "_law_pot" 1 m__law_pot) (D__law_right : Dfn P w K mg base CX0 10 "_law_right" 1 m__law_right) (D__law_row_right : Dfn P w K mg base CX0 10 "_law_row_right" 1 m__law_row_right) (D__law_saying : Dfn P w K mg base CX0 4 "_law_saying" 4 m__law_saying) (F : FunD K "law" "law" (defArgs s_law) (defBody s_law) (defScope s_law) [] [] f fd) : FnG P w K mg base CX0 11 f fd ["script"] (spD K 1 m_law) := by
  refine fn_d F sc_law rfl (fun cdv A outer s H E g hr => ?_)
  have nd := sc_law.nd
  have ev := body_even (CX := CX0) (P := P) (w := w) (K := K) (mg := mg) (base := base) (N := N_law) (qual := "law") (scope := defScope s_law) (f := f) (cd := cdv) (A := A) (outer := outer) (s := s) (H := H) (E := E) (g := g)
  unfold b_law
  exact (dss_cons ev (ds_set (i := 1) nd (de_call D__law_pot (hr.mono (by decide)) tk0 (da_cons (de_var (i := 0)) da_nil)))
  (dss_cons ev (ds_for (vs := [2]) (passes_of rfl) rfl ev (di_rng1 T.b_range (da_cons de_int da_nil)) (dg_name (i := 2) nd)
    (dss_cons ev (ds_set (i := 3) nd (de_call D__law_saying (hr.mono (by decide)) tk0 (da_cons (de_var (i := 1)) (da_cons (de_op do_addA de_int (de_call D__law_draw (hr.mono (by decide)) tk0 (da_cons (de_var (i := 1)) (da_cons de_int da_nil)))) (da_cons (de_op do_addA de_int (de_call D__law_draw (hr.mono (by decide)) tk0 (da_cons (de_var (i := 1)) (da_cons de_int da_nil)))) (da_cons (de_call D__law_any (hr.mono (by decide)) tk0 (da_cons (de_var (i := 1)) (da_cons (de_lst (da_cons de_int (da_cons de_int (da_cons de_int (da_cons de_int da_nil))))) da_nil))) da_nil))))))
  (dss_one (ds_if (dt_not (dt_val (de_call D__law_right (hr.mono (by decide)) tk0 (da_cons (de_var (i := 3)) da_nil))))
    (dss_one (ds_ret de_bl))
    dss_nil))))
  (dss_cons ev (ds_if (dw_pt (dw_and (dt_cmp (do_eq hr.units) (de_call D__law_draw (hr.mono (by decide)) tk0 (da_cons (de_var (i := 1)) (da_cons de_int da_nil))) de_int) (dw_and1 (dt_not (dt_val (de_call D__law_right (hr.mono (by decide)) tk0 (da_cons (de_call D__law_saying (hr.mono (by decide)) tk0 (da_cons (de_var (i := 1)) (da_cons (de_op do_addA de_int (de_call D__law_draw (hr.mono (by decide)) tk0 (da_cons (de_var (i := 1)) (da_cons de_int da_nil)))) (da_cons de_int (da_cons de_int da_nil))))) da_nil)))))))
    (dss_one (ds_ret de_bl))
    dss_nil)
  (dss_one (ds_ret (de_or (de_cmp do_gtI (de_call D__law_draw (hr.mono (by decide)) tk0 (da_cons (de_var (i := 1)) (da_cons de_int da_nil))) de_int) (de_one (de_call D__law_row_right (hr.mono (by decide)) tk0 (da_cons (de_var (i := 1)) da_nil)))))))))
end
end Qk19
set_option Elab.async false
set_option linter.all false
set_option maxRecDepth 100000
set_option maxHeartbeats 0
set_option autoImplicit false
namespace Qk19
open PySem PySem.Spec L2 L3
open PyProof.Rows hiding St
def d_is_integer : He.DefD := ⟨("is_integer", none), "is_integer", "is_integer", defArgs s_is_integer, defBody s_is_integer, defScope s_is_integer, [], []⟩
def d_is_within : He.DefD := ⟨("is_within", none), "is_within", "is_within", defArgs s_is_within, defBody s_is_within, defScope s_is_within, [], []⟩
def d_is_number : He.DefD := ⟨("is_number", none), "is_number", "is_number", defArgs s_is_number, defBody s_is_number, defScope s_is_number, [], []⟩
def d_is_name : He.DefD := ⟨("is_name", none), "is_name", "is_name", defArgs s_is_name, defBody s_is_name, defScope s_is_name, [], []⟩
def d_is_plain_line : He.DefD := ⟨("is_plain_line", none), "is_plain_line", "is_plain_line", defArgs s_is_plain_line, defBody s_is_plain_line, defScope s_is_plain_line, [], []⟩
def d_is_line : He.DefD := ⟨("is_line", none), "is_line", "is_line", defArgs s_is_line, defBody s_is_line, defScope s_is_line, [], []⟩
def d_is_saying : He.DefD := ⟨("is_saying", none), "is_saying", "is_saying", defArgs s_is_saying, defBody s_is_saying, defScope s_is_saying, [], []⟩
def d_check_saying : He.DefD := ⟨("check_saying", none), "check_saying", "check_saying", defArgs s_check_saying, defBody s_check_saying, defScope s_check_saying, [], []⟩
def d_parts_told : He.DefD := ⟨("parts_told", none), "parts_told", "parts_told", defArgs s_parts_told, defBody s_parts_told, defScope s_parts_told, [], []⟩
def d_names_told : He.DefD := ⟨("names_told", none), "names_told", "names_told", defArgs s_names_told, defBody s_names_told, defScope s_names_told, [], []⟩
def d_reached : He.DefD := ⟨("reached", none), "reached", "reached", defArgs s_reached, defBody s_reached, defScope s_reached, [], []⟩
def d_free_of_lines : He.DefD := ⟨("free_of_lines", none), "free_of_lines", "free_of_lines", defArgs s_free_of_lines, defBody s_free_of_lines, defScope s_free_of_lines, [], []⟩
def d_free : He.DefD := ⟨("free", none), "free", "free", defArgs s_free, defBody s_free, defScope s_free, [], []⟩
def d_names : He.DefD := ⟨("names", none), "names", "names", defArgs s_names, defBody s_names, defScope s_names, [], []⟩
def d_depth : He.DefD := ⟨("depth", none), "depth", "depth", defArgs s_depth, defBody s_depth, defScope s_depth, [], []⟩
def d__law_pot : He.DefD := ⟨("_law_pot", none), "_law_pot", "_law_pot", defArgs s__law_pot, defBody s__law_pot, defScope s__law_pot, [], []⟩
def d__law_draw : He.DefD := ⟨("_law_draw", none), "_law_draw", "_law_draw", defArgs s__law_draw, defBody s__law_draw, defScope s__law_draw, [], []⟩
def d__law_any : He.DefD := ⟨("_law_any", none), "_law_any", "_law_any", defArgs s__law_any, defBody s__law_any, defScope s__law_any, [], []⟩
def d__law_line_of : He.DefD := ⟨("_law_line_of", none), "_law_line_of", "_law_line_of", defArgs s__law_line_of, defBody s__law_line_of, defScope s__law_line_of, [], []⟩
def d__law_saying : He.DefD := ⟨("_law_saying", none), "_law_saying", "_law_saying", defArgs s__law_saying, defBody s__law_saying, defScope s__law_saying, [], []⟩
def d__law_told_by : He.DefD := ⟨("_law_told_by", none), "_law_told_by", "_law_told_by", defArgs s__law_told_by, defBody s__law_told_by, defScope s__law_told_by, [], []⟩
def d__law_kept : He.DefD := ⟨("_law_kept", none), "_law_kept", "_law_kept", defArgs s__law_kept, defBody s__law_kept, defScope s__law_kept, [], []⟩
def d__law_free_in : He.DefD := ⟨("_law_free_in", none), "_law_free_in", "_law_free_in", defArgs s__law_free_in, defBody s__law_free_in, defScope s__law_free_in, [], []⟩
def d__law_depths : He.DefD := ⟨("_law_depths", none), "_law_depths", "_law_depths", defArgs s__law_depths, defBody s__law_depths, defScope s__law_depths, [], []⟩
def d__law_names_in : He.DefD := ⟨("_law_names_in", none), "_law_names_in", "_law_names_in", defArgs s__law_names_in, defBody s__law_names_in, defScope s__law_names_in, [], []⟩
def d__law_right : He.DefD := ⟨("_law_right", none), "_law_right", "_law_right", defArgs s__law_right, defBody s__law_right, defScope s__law_right, [], []⟩
def d__law_row_right : He.DefD := ⟨("_law_row_right", none), "_law_row_right", "_law_row_right", defArgs s__law_row_right, defBody s__law_row_right, defScope s__law_row_right, [], []⟩
def d_law : He.DefD := ⟨("law", none), "law", "law", defArgs s_law, defBody s_law, defScope s_law, [], []⟩
def fnl0 : List He.DefD := [d_is_integer, d_is_within, d_is_number, d_is_name, d_is_plain_line, d_is_line, d_is_saying, d_check_saying, d_parts_told, d_names_told, d_reached, d_free_of_lines, d_free, d_names, d_depth, d__law_pot, d__law_draw, d__law_any, d__law_line_of, d__law_saying, d__law_told_by, d__law_kept, d__law_free_in, d__law_depths, d__law_names_in, d__law_right, d__law_row_right, d_law]
abbrev fnl : List He.DefD := fnl0
def fal0 : List He.Fa := [.glo "is_integer", .glo "is_within", .glo "is_number", .glo "is_name", .glo "is_plain_line", .glo "is_line", .glo "is_saying", .glo "check_saying", .glo "parts_told", .glo "names_told", .glo "reached", .glo "free_of_lines", .glo "free", .glo "names", .glo "depth", .glo "_law_pot", .glo "_law_draw", .glo "_law_any", .glo "_law_line_of", .glo "_law_saying", .glo "_law_told_by", .glo "_law_kept", .glo "_law_free_in", .glo "_law_depths", .glo "_law_names_in", .glo "_law_right", .glo "_law_row_right", .glo "law", .free "abs", .free "all"]
def fal1 : List He.Fa := [.free "bool", .free "enumerate", .free "int", .free "isinstance", .free "len", .free "list", .free "max", .free "range", .free "repr", .free "set", .free "sorted", .free "str", .free "tuple", .str "ALL" (PySem.Str.ofString "all"), .str "HUE" (PySem.Str.ofString "hue"), .str "MANY" (PySem.Str.ofString "many"), .int "MOST_COUNT" (40), .int "MOST_HUE" (9), .int "MOST_KIND" (3), .int "NAMES" (4), .str "NOT" (PySem.Str.ofString "not"), .str "SAME" (PySem.Str.ofString "same"), .str "SOME" (PySem.Str.ofString "some"), .str "TIE" (PySem.Str.ofString "tie")]
abbrev fal : List He.Fa := fal0 ++ fal1
def loo0 : List Str := ["KinError", "NoSaying", "is_integer", "is_within", "is_number", "NAMES", "MOST_HUE", "MOST_KIND", "MOST_COUNT", "HUE", "SAME", "TIE", "NOT", "ALL", "SOME", "MANY", "is_name", "is_plain_line", "is_line", "is_saying", "check_saying", "parts_told", "names_told", "reached", "free_of_lines", "free", "names", "depth", "_law_pot", "_law_draw"]
def loo1 : List Str := ["_law_any", "_law_line_of", "_law_saying", "_law_told_by", "_law_kept", "_law_free_in", "_law_depths", "_law_names_in", "_law_right", "_law_row_right"]
abbrev loo : List Str := loo0 ++ loo1
abbrev R : PySem.W.OpenRow := PySem.W.OpenLaw.row PySem.Challenge.rw_levelkin_k19_whole_free_names_and_depths
abbrev hk : PySem.W.Hook := He.hookD 4 fal fnl
def ob (s : PySem.W.SharedT) : He.AlD := He.obsDG 4 fal fnl (HandSHeadRun.getT s)
theorem ob_eq (s : PySem.W.SharedT) : ob s = hk.obs s.abs := He.obsDG_eq (HandSHeadRun.getT_eq s)
theorem run (w : World) : HandSHeadRun.RunEq R (PySem.W.view R.prog [44]) hk ob 3000 loo w := by
  intro os
  kernel_rfl
theorem facts {P : Program} {w : World} {K : PySem.W.Frag} {h : Heap} {mg : Str → Option Value} {f : Addr} (X : K.In h) (G : h.Ns mainGlobals mg) (hfa : mg ("law" : Str) = some (.ref f)) (c : He.SaysD fal fnl K) :
    ∃ fd : FuncData, (∀ (s : Shared) (v : Value), BindsTo s fd ⟨[v], []⟩ [("script", v)]) ∧ ∀ base : Heap, K.In base → base.Ns mainGlobals mg → FnG P w K mg base CX0 11 f fd ["script"] (spD K 1 m_law) := by
  obtain ⟨fd_is_integer, F_is_integer⟩ := c.def_ 0 (d := d_is_integer) rfl
  have G_is_integer := He.glo_ok X G (c.fact 0 (f := .glo "is_integer") rfl)
  obtain ⟨fd_is_within, F_is_within⟩ := c.def_ 1 (d := d_is_within) rfl
  have G_is_within := He.glo_ok X G (c.fact 1 (f := .glo "is_within") rfl)
  obtain ⟨fd_is_number, F_is_number⟩ := c.def_ 2 (d := d_is_number) rfl
  have G_is_number := He.glo_ok X G (c.fact 2 (f := .glo "is_number") rfl)
  obtain ⟨fd_is_name, F_is_name⟩ := c.def_ 3 (d := d_is_name) rfl
  have G_is_name := He.glo_ok X G (c.fact 3 (f := .glo "is_name") rfl)
  obtain ⟨fd_is_plain_line, F_is_plain_line⟩ := c.def_ 4 (d := d_is_plain_line) rfl
  have G_is_plain_line := He.glo_ok X G (c.fact 4 (f := .glo "is_plain_line") rfl)
  obtain ⟨fd_is_line, F_is_line⟩ := c.def_ 5 (d := d_is_line) rfl
  have G_is_line := He.glo_ok X G (c.fact 5 (f := .glo "is_line") rfl)
  obtain ⟨fd_is_saying, F_is_saying⟩ := c.def_ 6 (d := d_is_saying) rfl
  have G_is_saying := He.glo_ok X G (c.fact 6 (f := .glo "is_saying") rfl)
  obtain ⟨fd_check_saying, F_check_saying⟩ := c.def_ 7 (d := d_check_saying) rfl
  have G_check_saying := He.glo_ok X G (c.fact 7 (f := .glo "check_saying") rfl)
  obtain ⟨fd_parts_told, F_parts_told⟩ := c.def_ 8 (d := d_parts_told) rfl
  have G_parts_told := He.glo_ok X G (c.fact 8 (f := .glo "parts_told") rfl)
  obtain ⟨fd_names_told, F_names_told⟩ := c.def_ 9 (d := d_names_told) rfl
  have G_names_told := He.glo_ok X G (c.fact 9 (f := .glo "names_told") rfl)
  obtain ⟨fd_reached, F_reached⟩ := c.def_ 10 (d := d_reached) rfl
  have G_reached := He.glo_ok X G (c.fact 10 (f := .glo "reached") rfl)
  obtain ⟨fd_free_of_lines, F_free_of_lines⟩ := c.def_ 11 (d := d_free_of_lines) rfl
  have G_free_of_lines := He.glo_ok X G (c.fact 11 (f := .glo "free_of_lines") rfl)
  obtain ⟨fd_free, F_free⟩ := c.def_ 12 (d := d_free) rfl
  have G_free := He.glo_ok X G (c.fact 12 (f := .glo "free") rfl)
  obtain ⟨fd_names, F_names⟩ := c.def_ 13 (d := d_names) rfl
  have G_names := He.glo_ok X G (c.fact 13 (f := .glo "names") rfl)
  obtain ⟨fd_depth, F_depth⟩ := c.def_ 14 (d := d_depth) rfl
  have G_depth := He.glo_ok X G (c.fact 14 (f := .glo "depth") rfl)
  obtain ⟨fd__law_pot, F__law_pot⟩ := c.def_ 15 (d := d__law_pot) rfl
  have G__law_pot := He.glo_ok X G (c.fact 15 (f := .glo "_law_pot") rfl)
  obtain ⟨fd__law_draw, F__law_draw⟩ := c.def_ 16 (d := d__law_draw) rfl
  have G__law_draw := He.glo_ok X G (c.fact 16 (f := .glo "_law_draw") rfl)
  obtain ⟨fd__law_any, F__law_any⟩ := c.def_ 17 (d := d__law_any) rfl
  have G__law_any := He.glo_ok X G (c.fact 17 (f := .glo "_law_any") rfl)
  obtain ⟨fd__law_line_of, F__law_line_of⟩ := c.def_ 18 (d := d__law_line_of) rfl
  have G__law_line_of := He.glo_ok X G (c.fact 18 (f := .glo "_law_line_of") rfl)
  obtain ⟨fd__law_saying, F__law_saying⟩ := c.def_ 19 (d := d__law_saying) rfl
  have G__law_saying := He.glo_ok X G (c.fact 19 (f := .glo "_law_saying") rfl)
  obtain ⟨fd__law_told_by, F__law_told_by⟩ := c.def_ 20 (d := d__law_told_by) rfl
  have G__law_told_by := He.glo_ok X G (c.fact 20 (f := .glo "_law_told_by") rfl)
  obtain ⟨fd__law_kept, F__law_kept⟩ := c.def_ 21 (d := d__law_kept) rfl
  have G__law_kept := He.glo_ok X G (c.fact 21 (f := .glo "_law_kept") rfl)
  obtain ⟨fd__law_free_in, F__law_free_in⟩ := c.def_ 22 (d := d__law_free_in) rfl
  have G__law_free_in := He.glo_ok X G (c.fact 22 (f := .glo "_law_free_in") rfl)
  obtain ⟨fd__law_depths, F__law_depths⟩ := c.def_ 23 (d := d__law_depths) rfl
  have G__law_depths := He.glo_ok X G (c.fact 23 (f := .glo "_law_depths") rfl)
  obtain ⟨fd__law_names_in, F__law_names_in⟩ := c.def_ 24 (d := d__law_names_in) rfl
  have G__law_names_in := He.glo_ok X G (c.fact 24 (f := .glo "_law_names_in") rfl)
  obtain ⟨fd__law_right, F__law_right⟩ := c.def_ 25 (d := d__law_right) rfl
  have G__law_right := He.glo_ok X G (c.fact 25 (f := .glo "_law_right") rfl)
  obtain ⟨fd__law_row_right, F__law_row_right⟩ := c.def_ 26 (d := d__law_row_right) rfl
  have G__law_row_right := He.glo_ok X G (c.fact 26 (f := .glo "_law_row_right") rfl)
  obtain ⟨fd_law, F_law⟩ := c.def_ 27 (d := d_law) rfl
  have G_law := He.glo_ok X G (c.fact 27 (f := .glo "law") rfl)
  have T : Tx mg := { b_abs := He.free_ok X G (c.fact 28 (f := .free "abs") rfl), b_all := He.free_ok X G (c.fact 29 (f := .free "all") rfl), b_bool := He.free_ok X G (c.fact 30 (f := .free "bool") rfl), b_enumerate := He.free_ok X G (c.fact 31 (f := .free "enumerate") rfl), b_int := He.free_ok X G (c.fact 32 (f := .free "int") rfl), b_isinstance := He.free_ok X G (c.fact 33 (f := .free "isinstance") rfl), b_len := He.free_ok X G (c.fact 34 (f := .free "len") rfl), b_list := He.free_ok X G (c.fact 35 (f := .free "list") rfl), b_max := He.free_ok X G (c.fact 36 (f := .free "max") rfl), b_range := He.free_ok X G (c.fact 37 (f := .free "range") rfl), b_repr := He.free_ok X G (c.fact 38 (f := .free "repr") rfl), b_set := He.free_ok X G (c.fact 39 (f := .free "set") rfl), b_sorted := He.free_ok X G (c.fact 40 (f := .free "sorted") rfl), b_str := He.free_ok X G (c.fact 41 (f := .free "str") rfl), b_tuple := He.free_ok X G (c.fact 42 (f := .free "tuple") rfl), c_ALL := He.str_ok X G (c.fact 43 (f := .str "ALL" (PySem.Str.ofString "all")) rfl), c_HUE := He.str_ok X G (c.fact 44 (f := .str "HUE" (PySem.Str.ofString "hue")) rfl), c_MANY := He.str_ok X G (c.fact 45 (f := .str "MANY" (PySem.Str.ofString "many")) rfl), c_MOST_COUNT := He.int_ok X G (c.fact 46 (f := .int "MOST_COUNT" (40)) rfl), c_MOST_HUE := He.int_ok X G (c.fact 47 (f := .int "MOST_HUE" (9)) rfl), c_MOST_KIND := He.int_ok X G (c.fact 48 (f := .int "MOST_KIND" (3)) rfl), c_NAMES := He.int_ok X G (c.fact 49 (f := .int "NAMES" (4)) rfl), c_NOT := He.str_ok X G (c.fact 50 (f := .str "NOT" (PySem.Str.ofString "not")) rfl), c_SAME := He.str_ok X G (c.fact 51 (f := .str "SAME" (PySem.Str.ofString "same")) rfl), c_SOME := He.str_ok X G (c.fact 52 (f := .str "SOME" (PySem.Str.ofString "some")) rfl), c_TIE := He.str_ok X G (c.fact 53 (f := .str "TIE" (PySem.Str.ofString "tie")) rfl) }
  have e := hfa.symm.trans G_law
  cases e
  have b := FunD.bindsA (ps := ["script"]) F_law fun _ _ _ _ _ _ us hl => match us, hl with | [_], _ => rfl
  refine ⟨fd_law, fun s v => b s [v] rfl, fun base _ _ => ?_⟩
  have D_is_integer : Dfn P w K mg base CX0 1 "is_integer" 1 m_is_integer := ok_is_integer T  F_is_integer G_is_integer
  have D_is_within : Dfn P w K mg base CX0 2 "is_within" 3 m_is_within := ok_is_within T D_is_integer F_is_within G_is_within
  have D_is_number : Dfn P w K mg base CX0 3 "is_number" 2 m_is_number := ok_is_number T D_is_within F_is_number G_is_number
  have D_is_name : Dfn P w K mg base CX0 4 "is_name" 1 m_is_name := ok_is_name T D_is_number F_is_name G_is_name
  have D_is_plain_line : Dfn P w K mg base CX0 5 "is_plain_line" 1 m_is_plain_line := ok_is_plain_line T D_is_name D_is_number F_is_plain_line G_is_plain_line
  have D_is_line : Dfn P w K mg base CX0 6 "is_line" 2 m_is_line := ok_is_line T D_is_name D_is_number D_is_plain_line D_is_within F_is_line G_is_line
  have D_is_saying : Dfn P w K mg base CX0 7 "is_saying" 1 m_is_saying := ok_is_saying T D_is_line F_is_saying G_is_saying
  have D_check_saying : Dfn P w K mg base CX0 8 "check_saying" 1 m_check_saying := ok_check_saying T D_is_saying F_check_saying G_check_saying
  have D_parts_told : Dfn P w K mg base CX0 1 "parts_told" 1 m_parts_told := ok_parts_told T  F_parts_told G_parts_told
  have D_names_told : Dfn P w K mg base CX0 1 "names_told" 1 m_names_told := ok_names_told T  F_names_told G_names_told
  have D_reached : Dfn P w K mg base CX0 2 "reached" 2 m_reached := ok_reached T D_parts_told F_reached G_reached
  have D_free_of_lines : Dfn P w K mg base CX0 2 "free_of_lines" 1 m_free_of_lines := ok_free_of_lines T D_names_told D_parts_told F_free_of_lines G_free_of_lines
  have D_free : Dfn P w K mg base CX0 9 "free" 1 m_free := ok_free T D_check_saying D_free_of_lines F_free G_free
  have D_names : Dfn P w K mg base CX0 9 "names" 1 m_names := ok_names T D_check_saying D_names_told D_reached F_names G_names
  have D_depth : Dfn P w K mg base CX0 9 "depth" 1 m_depth := ok_depth T D_check_saying D_parts_told F_depth G_depth
  have D__law_pot : Dfn P w K mg base CX0 1 "_law_pot" 1 m__law_pot := ok__law_pot T  F__law_pot G__law_pot
  have D__law_draw : Dfn P w K mg base CX0 1 "_law_draw" 2 m__law_draw := ok__law_draw T  F__law_draw G__law_draw
  have D__law_any : Dfn P w K mg base CX0 2 "_law_any" 2 m__law_any := ok__law_any T D__law_draw F__law_any G__law_any
  have D__law_line_of : Dfn P w K mg base CX0 3 "_law_line_of" 4 m__law_line_of := ok__law_line_of T D__law_any D__law_draw F__law_line_of G__law_line_of
  have D__law_saying : Dfn P w K mg base CX0 4 "_law_saying" 4 m__law_saying := ok__law_saying T D__law_line_of F__law_saying G__law_saying
  have D__law_told_by : Dfn P w K mg base CX0 1 "_law_told_by" 1 m__law_told_by := ok__law_told_by T  F__law_told_by G__law_told_by
  have D__law_kept : Dfn P w K mg base CX0 2 "_law_kept" 1 m__law_kept := ok__law_kept T D__law_told_by F__law_kept G__law_kept
  have D__law_free_in : Dfn P w K mg base CX0 2 "_law_free_in" 1 m__law_free_in := ok__law_free_in T D__law_told_by F__law_free_in G__law_free_in
  have D__law_depths : Dfn P w K mg base CX0 2 "_law_depths" 1 m__law_depths := ok__law_depths T D__law_told_by F__law_depths G__law_depths
  have D__law_names_in : Dfn P w K mg base CX0 3 "_law_names_in" 1 m__law_names_in := ok__law_names_in T D__law_kept F__law_names_in G__law_names_in
  have D__law_right : Dfn P w K mg base CX0 10 "_law_right" 1 m__law_right := ok__law_right T D__law_depths D__law_free_in D__law_names_in D_depth D_free D_names F__law_right G__law_right
  have D__law_row_right : Dfn P w K mg base CX0 10 "_law_row_right" 1 m__law_row_right := ok__law_row_right T D__law_any D__law_draw D_depth D_free D_names F__law_row_right G__law_row_right
  exact ok_law T D__law_any D__law_draw D__law_pot D__law_right D__law_row_right D__law_saying F_law
end Qk19
set_option Elab.async false
set_option linter.all false
set_option maxRecDepth 100000
set_option maxHeartbeats 4000000
set_option autoImplicit false
namespace Qk19
open PySem PySem.Spec L2 L3
open PyProof.Rows hiding St
theorem draw_spec {n : Nat} {k : Int} {M : Store} (h : Pot n M) (h0 : 0 < k) (h1 : k < 1073741824) : Post (m__law_draw [.loc n, .int k] M) (fun d M' => Pot n M' ∧ ∃ j : Int, d = .int j ∧ 0 ≤ j ∧ j < k) (fun _ _ => False) := by
  obtain ⟨cs, a, b, c, d, e, ha⟩ := h
  have hn : n < M.length := (List.getElem?_eq_some_iff.mp e).1
  unfold m__law_draw b__law_draw
  have hk0 := fun x : Int => Int.emod_nonneg x (show k ≠ 0 by omega)
  have hk1 := fun x : Int => Int.emod_lt_of_pos x h0
  by_cases hb : b = 0
  · subst hb
    by_cases hb2 : a < cs.length
    · obtain ⟨x, hx⟩ := atP_ints ha hb2
      simp [p_runD, locL_of e, hn, hx, hb2, pot_set hn, h0, h1, hk0, hk1]
      (repeat' split) <;> omega
    · simp [p_runD, locL_of e, hn, hb2, pot_set hn, h0, h1, hk0, hk1]
      omega
  · simp [p_runD, locL_of e, hn, hb, pot_set hn, h0, h1, hk0, hk1]
    (repeat' split) <;> omega
theorem any_spec {n : Nat} {xs : List D} {M : Store} (h : Pot n M) (h0 : xs ≠ []) (h1 : xs.length < 1073741824) : Post (m__law_any [.loc n, .lst xs] M) (fun d M' => Pot n M' ∧ d ∈ xs) (fun _ _ => False) := by
  have hp : 0 < xs.length := List.length_pos_iff.mpr h0
  unfold m__law_any b__law_any
  simp [p_runD]
  refine (draw_spec h (by omega) (by omega)).use ?_
  rintro d M1 ⟨h2, j, rfl, h3, h4⟩
  simp
  exact atP_all h3 h4 fun d hd => ⟨h2, hd⟩
theorem pot_spec {ns : List Int} (hl : ns.length ≤ 63) : Post (m__law_pot [.ro (ns.map .int)] []) (fun d M' => d = .loc 0 ∧ Pot 0 M') (fun _ _ => False) := by
  unfold m__law_pot b__law_pot
  simp [p_runD]
  rw [cutD_map]
  refine lc_map absI trivial ?_ ?_ ?_
  · rw [List.length_map, List.length_take, List.length_drop]; simp; omega
  · intro d hd
    obtain ⟨i, _, rfl⟩ := List.mem_map.mp hd
    simp [absI]
  · simp
    have e : ns.map (absI ∘ D.int) = (ns.map fun i : Int => if i < 0 then -i else i).map D.int := by rw [List.map_map]; rfl
    rw [e, ← List.map_drop, ← List.map_take]
    exact ⟨_, _, _, _, _, rfl, Int.le_refl 0⟩
/-! the judges -/
def isNum (d : D) (a b : Int) : Bool := match d with
  | .int i => decide (a ≤ i) && decide (i ≤ b)
  | _ => false
section
variable {Q : D → Store → Prop} {E : Exn → Store → Prop} {M : Store} {n : Nat} {d : D} {a b : Int}
theorem is_within_eq (h : Dat n d) : m_is_within [d, .int a, .int b] M = .ok (.bl (isNum d a b)) M := by
  refine ok_of ?_
  unfold m_is_within b_is_within m_is_integer b_is_integer
  cases h <;> simp [p_runD, isT, isNum]
  split <;> simp_all
  omega
theorem is_number_eq (h : Dat n d) : m_is_number [d, .int b] M = .ok (.bl (isNum d 0 b)) M := by
  refine ok_of ?_
  unfold m_is_number b_is_number
  simp [p_runD, is_within_eq h]
theorem is_name_eq (h : Dat n d) : m_is_name [d] M = .ok (.bl (isNum d 0 3)) M := by
  refine ok_of ?_
  unfold m_is_name b_is_name
  simp [p_runD, is_number_eq h]
/-- a row of numbers -/
def areNums (d : D) (b : Int) : Bool := match d with
  | .tup xs => xs.all fun x => isNum x 0 b
  | _ => false
/-- a line at a place -/
def lineOk (d : D) (k : Int) : Bool := match d with
  | .tup (.str w :: r) =>
    if w = Str.ofString "hue" then match r with
      | [a, b] => isNum a 0 3 && isNum b 0 9
      | _ => false
    else if w = Str.ofString "same" then match r with
      | [a, b] => isNum a 0 3 && isNum b 0 3
      | _ => false
    else if w = Str.ofString "tie" then match r with
      | [a, b, c] => isNum a 0 3 && isNum b 0 3 && isNum c 0 3
      | _ => false
    else if w = Str.ofString "not" then match r with
      | [a] => isNum a 0 (k - 1)
      | _ => false
    else if w = Str.ofString "all" ∨ w = Str.ofString "some" then match r with
      | [a] => areNums a (k - 1)
      | _ => false
    else if w = Str.ofString "many" then match r with
      | [a, b, c] => isNum a 0 3 && isNum b 1 40 && isNum c 0 (k - 1)
      | _ => false
    else false
  | _ => false
theorem lc_nums {ys : List D} {x : D} (hn : n ≤ 16777216) (hl : ys.length ≤ n) (h : ∀ d ∈ ys, Dat n d) : lcD (fun _ => True) (gSet 2) tYesD (eCall (nargs 2 m_is_number) (aCons (eVar 2) (aCons (eOp subI (eVar 1) (eC (.int 1))) aNil))) [some x, some (.int a), none] ys [] M = .ok (ys.map fun d => .bl (isNum d 0 (a - 1))) M := by
  refine ok_of (lc_map (fun d => .bl (isNum d 0 (a - 1))) trivial (Nat.le_trans hl hn) (fun d hd => ?_) ⟨rfl, rfl⟩)
  simp [is_number_eq (h d hd)]
theorem word_cases (w : Str) : w = Str.ofString "hue" ∨ w = Str.ofString "same" ∨ w = Str.ofString "tie" ∨ w = Str.ofString "not" ∨ w = Str.ofString "all" ∨ w = Str.ofString "some" ∨ w = Str.ofString "many" ∨ (w ≠ Str.ofString "hue" ∧ w ≠ Str.ofString "same" ∧ w ≠ Str.ofString "tie" ∧ w ≠ Str.ofString "not" ∧ w ≠ Str.ofString "all" ∧ w ≠ Str.ofString "some" ∧ w ≠ Str.ofString "many") := by
  by_cases h0 : w = Str.ofString "hue"
  · simp [h0]
  by_cases h1 : w = Str.ofString "same"
  · simp [h1]
  by_cases h2 : w = Str.ofString "tie"
  · simp [h2]
  by_cases h3 : w = Str.ofString "not"
  · simp [h3]
  by_cases h4 : w = Str.ofString "all"
  · simp [h4]
  by_cases h5 : w = Str.ofString "some"
  · simp [h5]
  by_cases h6 : w = Str.ofString "many"
  · simp [h6]
  simp [h0, h1, h2, h3, h4, h5, h6]
theorem is_line_eq (hn : n ≤ 16777216) (h : Dat n d) : m_is_line [d, .int a] M = .ok (.bl (lineOk d a)) M := by
  refine ok_of ?_
  unfold m_is_line b_is_line m_is_plain_line b_is_plain_line
  cases h with
  | @tup xs hl hx =>
    rcases xs with _ | ⟨x, _ | ⟨y, r⟩⟩
    · simp [p_runD, isT, lineOk]
    · simp [p_runD, isT]
      cases x <;> simp [lineOk]
    · have dx := hx x (by simp)
      have dy := hx y (by simp)
      cases dx with
      | str w =>
        rcases r with _ | ⟨z, _ | ⟨u, _ | ⟨v, r⟩⟩⟩
        · have dy2 := hx y (by simp)
          cases dy with
          | @tup ys hl2 hy =>
            rcases word_cases w with rfl | rfl | rfl | rfl | rfl | rfl | rfl | ⟨h0, h1, h2, h3, h4, h5, h6⟩ <;> simp [*, p_runD, isT, lineOk, areNums, ofString_inj, is_number_eq (.tup hl2 hy), is_name_eq (.tup hl2 hy), is_within_eq (.tup hl2 hy), lc_nums hn hl2 hy]
          | _ =>
            rcases word_cases w with rfl | rfl | rfl | rfl | rfl | rfl | rfl | ⟨h0, h1, h2, h3, h4, h5, h6⟩ <;> simp [*, p_runD, isT, lineOk, areNums, ofString_inj, is_number_eq dy2, is_name_eq dy2, is_within_eq dy2]
        · have dz := hx z (by simp)
          rcases word_cases w with rfl | rfl | rfl | rfl | rfl | rfl | rfl | ⟨h0, h1, h2, h3, h4, h5, h6⟩ <;> simp [*, p_runD, isT, lineOk, areNums, ofString_inj, is_number_eq dy, is_name_eq dy, is_within_eq dy, is_number_eq dz, is_name_eq dz, is_within_eq dz] <;> (try split) <;> simp_all
        · have dz := hx z (by simp)
          have du := hx u (by simp)
          rcases word_cases w with rfl | rfl | rfl | rfl | rfl | rfl | rfl | ⟨h0, h1, h2, h3, h4, h5, h6⟩ <;> simp [*, p_runD, isT, lineOk, areNums, ofString_inj, is_number_eq dy, is_name_eq dy, is_within_eq dy, is_number_eq dz, is_name_eq dz, is_within_eq dz, is_number_eq du, is_name_eq du, is_within_eq du] <;> (try split) <;> (try split) <;> simp_all
        · rcases word_cases w with rfl | rfl | rfl | rfl | rfl | rfl | rfl | ⟨h0, h1, h2, h3, h4, h5, h6⟩ <;> simp [*, p_runD, isT, lineOk, areNums, ofString_inj] <;> (intros; omega)
      | _ => simp [p_runD, isT, lineOk]
  | _ => simp [p_runD, isT, lineOk]
/-- a saying -/
def itemOk (d : D) : Bool := match d with
  | .tup [.int k, l] => lineOk l k
  | _ => false
def sayOk (d : D) : Bool := match d with
  | .tup (x :: xs) => (enumD 0 (x :: xs)).all itemOk
  | _ => false
theorem enum_mem {xs : List D} {k : Nat} {d : D} (h : d ∈ enumD k xs) : ∃ m x, x ∈ xs ∧ d = .tup [.int (m : Nat), x] := by
  induction xs generalizing k with
  | nil => cases h
  | cons y ys ih =>
    rcases List.mem_cons.mp h with rfl | h
    · exact ⟨k, y, List.mem_cons_self .., rfl⟩
    · obtain ⟨m, x, h1, h2⟩ := ih h
      exact ⟨m, x, List.mem_cons_of_mem _ h1, h2⟩
theorem lc_lines {ys : List D} {m : List D → Py D} {x : D} (hn : n ≤ 16777216) (hl : ys.length ≤ n) (h : ∀ d ∈ ys, Dat n d) (hm : ∀ (d : D) (a : Int), Dat n d → m [d, .int a] M = .ok (.bl (lineOk d a)) M) :
    lcD (fun _ => True) (gUnp 2 (gsCons (gSet 1) (gsCons (gSet 2) gsNil))) tYesD (eCall (nargs 2 m) (aCons (eVar 2) (aCons (eVar 1) aNil))) [some x, none, none] (enumD 0 ys) [] M = .ok ((enumD 0 ys).map fun d => .bl (itemOk d)) M := by
  refine ok_of (lc_map (fun d => .bl (itemOk d)) trivial (by rw [enumD_len]; exact Nat.le_trans hl hn) (fun d hd => ?_) ⟨rfl, rfl⟩)
  obtain ⟨k, l, h1, rfl⟩ := enum_mem hd
  simp [hm l k (h l h1), itemOk]
theorem is_saying_eq (hn : n ≤ 16777216) (h : Dat n d) : m_is_saying [d] M = .ok (.bl (sayOk d)) M := by
  refine ok_of ?_
  unfold m_is_saying b_is_saying
  cases h with
  | @tup xs hl hx =>
    rcases xs with _ | ⟨x, xs⟩
    · simp [p_runD, isT, sayOk]
    · simp [p_runD, isT, sayOk, lc_lines hn hl hx (fun d a h => is_line_eq hn h)]
      intro; omega
  | _ => simp [p_runD, isT, sayOk]
end
end Qk19
set_option Elab.async false
set_option linter.all false
set_option maxRecDepth 100000
set_option maxHeartbeats 4000000
set_option autoImplicit false
namespace Qk19
open PySem PySem.Spec L2 L3
open PyProof.Rows hiding St

/-- a line -/
inductive Ln where
  | hue (i h : Nat)
  | same (i j : Nat)
  | tie (k i j : Nat)
  | not (p : Nat)
  | all (ps : List Nat)
  | some (ps : List Nat)
  | many (i n p : Nat)
def nD (n : Nat) : D := .int (n : Nat)
def Ln.d : Ln → D
  | .hue i h => .tup [.str "hue", nD i, nD h]
  | .same i j => .tup [.str "same", nD i, nD j]
  | .tie k i j => .tup [.str "tie", nD k, nD i, nD j]
  | .not p => .tup [.str "not", nD p]
  | .all ps => .tup [.str "all", .tup (ps.map nD)]
  | .some ps => .tup [.str "some", .tup (ps.map nD)]
  | .many i n p => .tup [.str "many", nD i, nD n, nD p]
def Ln.parts : Ln → List Nat
  | .not p => [p]
  | .all ps => ps
  | .some ps => ps
  | .many _ _ p => [p]
  | _ => []
def Ln.names : Ln → List Nat
  | .hue i _ => [i]
  | .same i j => [i, j]
  | .tie _ i j => [i, j]
  | _ => []
theorem parts_told_eq {l : Ln} {M : Store} : m_parts_told [l.d] M = .ok (.tup (l.parts.map nD)) M := by
  refine ok_of ?_
  unfold m_parts_told b_parts_told
  cases l <;> (simp [Ln.d, Ln.parts, p_runD, ofString_inj])
theorem names_told_eq {l : Ln} {M : Store} : m_names_told [l.d] M = .ok (.tup (l.names.map nD)) M := by
  refine ok_of ?_
  unfold m_names_told b_names_told
  cases l <;> (simp [Ln.d, Ln.names, p_runD, ofString_inj]) <;> rfl
theorem told_by_eq {l : Ln} {M : Store} : m__law_told_by [l.d] M = .ok (.tup (l.parts.map nD)) M := by
  refine ok_of ?_
  unfold m__law_told_by b__law_told_by
  cases l <;> (simp [Ln.d, Ln.parts, p_runD, ofString_inj]) <;> rfl
end Qk19
set_option Elab.async false
set_option linter.all false
set_option maxRecDepth 100000
set_option maxHeartbeats 4000000
set_option autoImplicit false
namespace Qk19
open PySem PySem.Spec L2 L3
open PyProof.Rows hiding St
/-- a good line with a number -/
inductive LOk (k : Nat) : Ln → Prop
  | hue {i h : Nat} : i < 4 → h ≤ 9 → LOk k (.hue i h)
  | same {i j : Nat} : i < 4 → j < 4 → LOk k (.same i j)
  | tie {c i j : Nat} : c ≤ 3 → i < 4 → j < 4 → LOk k (.tie c i j)
  | not {p : Nat} : p < k → LOk k (.not p)
  | all {ps : List Nat} : ps.length ≤ 4 → (∀ p ∈ ps, p < k) → LOk k (.all ps)
  | some {ps : List Nat} : ps.length ≤ 4 → (∀ p ∈ ps, p < k) → LOk k (.some ps)
  | many {i n p : Nat} : i < 4 → 1 ≤ n → n ≤ 40 → p < k → LOk k (.many i n p)
def Ln.bound : Ln → List Nat
  | .many i _ _ => [i]
  | _ => []
def Ln.isMany : Ln → Bool
  | .many _ _ _ => true
  | _ => false
theorem LOk.parts {k : Nat} {l : Ln} (h : LOk k l) : ∀ p ∈ l.parts, p < k := by
  cases h <;> simp_all [Ln.parts]
theorem LOk.plen {k : Nat} {l : Ln} (h : LOk k l) : l.parts.length ≤ 4 := by
  cases h <;> simp_all [Ln.parts]
theorem LOk.names {k : Nat} {l : Ln} (h : LOk k l) : ∀ x ∈ l.names, x < 4 := by
  cases h <;> simp_all [Ln.names]
theorem LOk.nlen {k : Nat} {l : Ln} (h : LOk k l) : l.names.length ≤ 2 := by
  cases h <;> simp_all [Ln.names]
theorem LOk.bound {k : Nat} {l : Ln} (h : LOk k l) : ∀ x ∈ l.bound, x < 4 := by
  cases h <;> simp_all [Ln.bound]
theorem LOk.line {k : Nat} {l : Ln} (h : LOk k l) : lineOk l.d (k : Nat) = true := by
  cases h <;> (simp [Ln.d, nD, lineOk, isNum, ofString_inj, areNums]) <;> (try omega)
  · rename_i ps h1 h2; intro p hp; have := h2 p hp; omega
  · rename_i ps h1 h2; intro p hp; have := h2 p hp; omega
theorem LOk.dat {k : Nat} {l : Ln} (h : LOk k l) : Dat 12 l.d := by
  cases h with
  | all h1 h2 => exact .tup (by simp) (by simp; exact ⟨.str _, .tup (by rw [List.length_map]; omega) (by simp [nD]; intro _ _; exact .int _)⟩)
  | some h1 h2 => exact .tup (by simp) (by simp; exact ⟨.str _, .tup (by rw [List.length_map]; omega) (by simp [nD]; intro _ _; exact .int _)⟩)
  | _ => exact .tup (by simp) (by simp [nD]; repeat' constructor)
def Good (ls : List Ln) : Prop := ∀ (k : Nat) (l : Ln), ls[k]? = some l → LOk k l
abbrev sayD (ls : List Ln) : D := .tup (ls.map Ln.d)
theorem enum_at {zs : List D} {d : D} (h : d ∈ enumD 0 zs) : ∃ (k : Nat) (y : D), zs[k]? = some y ∧ d = .tup [.int (k : Nat), y] := by
  obtain ⟨k, hk⟩ := List.getElem?_of_mem h
  have hl : k < zs.length := by rw [← enumD_len 0]; exact (List.getElem?_eq_some_iff.mp hk).1
  have := enumD_get zs 0 k _ (List.getElem?_eq_getElem hl)
  rw [this] at hk
  cases hk
  exact ⟨k, _, List.getElem?_eq_getElem hl, by rw [Nat.zero_add]⟩
theorem Good.say {ls : List Ln} (h : Good ls) (h0 : ls ≠ []) : sayOk (sayD ls) = true := by
  cases ls with
  | nil => exact absurd rfl h0
  | cons z zs =>
    show (enumD 0 (z.d :: zs.map Ln.d)).all itemOk = true
    rw [List.all_eq_true]
    intro d hd
    obtain ⟨k, y, h1, rfl⟩ := enum_at hd
    have h2 : ((z :: zs).map Ln.d)[k]? = some y := h1
    rw [List.getElem?_map] at h2
    obtain ⟨l, h3, rfl⟩ := Option.map_eq_some_iff.mp h2
    exact (h k l h3).line
theorem Good.dat {ls : List Ln} (h : Good ls) {m : Nat} (h1 : ls.length ≤ m) (h2 : 12 ≤ m) : Dat m (sayD ls) := by
  refine .tup (by rw [List.length_map]; exact h1) fun d hd => ?_
  obtain ⟨l, hl, rfl⟩ := List.mem_map.mp hd
  obtain ⟨k, hk⟩ := List.getElem?_of_mem hl
  exact (h k l hk).dat.mono h2
theorem check_eq {ls : List Ln} {M : Store} (h : Good ls) (h0 : ls ≠ []) (hl : ls.length ≤ 16777216) : m_check_saying [sayD ls] M = .ok .non M := by
  refine ok_of ?_
  unfold m_check_saying b_check_saying
  have e := is_saying_eq (M := M) (n := ls.length + 12) (d := sayD ls)
  by_cases h12 : ls.length + 12 ≤ 16777216
  · simp [p_runD, e h12 (h.dat (by omega) (by omega)), h.say h0]
  · have e := is_saying_eq (M := M) (n := 16777216) (d := sayD ls) (by omega) (h.dat hl (by omega))
    simp [p_runD, e, h.say h0]
/-! line by line -/
section
variable {α : Type}
def build (f : List α → Ln → α) (ls : List Ln) : List α := ls.foldl (fun acc l => acc ++ [f acc l]) []
theorem build_snoc (f : List α → Ln → α) (ls : List Ln) (l : Ln) : build f (ls ++ [l]) = build f ls ++ [f (build f ls) l] := by
  unfold build; rw [List.foldl_append]; rfl
theorem build_take {f : List α → Ln → α} {ls : List Ln} {k : Nat} {l : Ln} (h : ls[k]? = some l) : build f (ls.take (k + 1)) = build f (ls.take k) ++ [f (build f (ls.take k)) l] := by
  rw [List.take_succ, h]
  exact build_snoc f _ l
theorem build_len (f : List α → Ln → α) (ls : List Ln) : (build f ls).length = ls.length := by
  have : ∀ (ls : List Ln) (acc : List α), (ls.foldl (fun acc l => acc ++ [f acc l]) acc).length = acc.length + ls.length := by
    intro ls
    induction ls with
    | nil => intro acc; rfl
    | cons l ls ih => intro acc; rw [List.foldl_cons, ih, List.length_append, List.length_cons]; simp; omega
  have q := this ls []
  rw [List.length_nil, Nat.zero_add] at q
  exact q
end
def depF (acc : List Int) (l : Ln) : Int := (l.parts.map fun p => acc[p]?.getD 0).foldl (fun a b => if a < b then b else a) 0 + if l.isMany = true then 1 else 0
noncomputable abbrev depBody (m : List D → Py D) : DEnv → Py Fl :=
  (sSeq (sSet 3 (eCall (one maxLD) (aCons (eOp addA (eLst (aCons (eC (.int 0)) aNil)) (eLcA frF (lcAll [4] (iSeq wkA (eCall (nargs 1 m) (aCons (eVar 2) aNil))) (gSet 4) tYesD (eOp ixD (eVar 1) (eVar 4))))) aNil)))
  (sDrop (eMt "list" appendD (eVar 1) (aCons (eOp addA (eVar 3) (eCall (one intD) (aCons (eOp (eqS false) (eOp ixD (eVar 2) (eC (.int 0))) (eC (.str (PySem.Str.ofString "many")))) aNil))) aNil))))
theorem dep_turn {m : List D → Py D} {l : Ln} {M : Store} {n k : Nat} {s o3 o4 : Option D} {acc : List Int} (hl : LOk k l) (hm : ∀ M, m [l.d] M = .ok (.tup (l.parts.map nD)) M) (hM : M[n]? = some (some (.lst (acc.map D.int)))) (ha : acc.length = k) (hz : k < 16777216) :
    Post (depBody m [s, some (.loc n), some l.d, o3, o4] M) (fun r M' => ∃ v, r = .nx [s, some (.loc n), some l.d, some v, o4] ∧ M' = M.set n (some (.lst ((acc ++ [depF acc l]).map D.int)))) (fun _ _ => False) := by
  have hp := hl.parts
  have hp2 := hl.plen
  simp [hm]
  refine lc_mapA nD (fun p => .int (acc[p]?.getD 0)) trivial l.parts [] (by simp; omega) (fun p hp' => ?_) ?_
  · have hk : p < acc.length := by rw [ha]; exact hp p hp'
    simp [nD, locL_of hM]
    rw [atP_nat (by simpa using hk)]
    simp [hk]
  · simp
    simp [maxL, locL_of hM]
    refine ⟨by omega, ?_⟩
    cases l <;> simp [Ln.d, ofString_inj, depF, Ln.isMany, ha, hz, locL_of hM]
def deps (ls : List Ln) : List Int := build depF ls
theorem dep_loop {m : List D → Py D} {ls : List Ln} {M : Store} {n : Nat} {o2 o3 o4 : Option D} {QF : Fl → Store → Prop} (h : Good ls) (hm : ∀ (l : Ln) M, m [l.d] M = .ok (.tup (l.parts.map nD)) M) (hM : M[n]? = some (some (.lst []))) (hz : ls.length ≤ 16777216)
    (q : ∀ o2 o3 M', M'[n]? = some (some (.lst ((deps ls).map D.int))) → (∀ j, j ≠ n → M'[j]? = M[j]?) → M'.length = M.length → QF (.nx [some (sayD ls), some (.loc n), o2, o3, o4]) M') :
    Post (forD (fun _ => True) (gSet 2) (depBody m) (ls.map Ln.d) [some (sayD ls), some (.loc n), o2, o3, o4] M) QF (fun _ _ => False) := by
  have hn : n < M.length := (List.getElem?_eq_some_iff.mp hM).1
  refine for_rule (fun k ρ M' => ∃ o2 o3, ρ = [some (sayD ls), some (.loc n), o2, o3, o4] ∧ M'[n]? = some (some (.lst ((deps (ls.take k)).map D.int))) ∧ (∀ j, j ≠ n → M'[j]? = M[j]?) ∧ M'.length = M.length) (fun _ _ _ _ => trivial) ⟨o2, o3, rfl, hM, fun _ _ => rfl, rfl⟩ ?_ ?_
  · rintro k d ρ M1 hd ⟨o2, o3, rfl, h1, h2, h3⟩
    rw [List.getElem?_map] at hd
    obtain ⟨l, hl, rfl⟩ := Option.map_eq_some_iff.mp hd
    have hk : k < ls.length := (List.getElem?_eq_some_iff.mp hl).1
    rw [p_gSet]
    refine (dep_turn (h k l hl) (fun M => hm l M) h1 (by rw [deps, build_len, List.length_take]; omega) (by omega)).use ?_
    rintro r M2 ⟨v, rfl, rfl⟩
    refine ⟨_, _, rfl, ?_, fun j hj => by rw [List.getElem?_set_ne (Ne.symm hj)]; exact h2 j hj, by rw [List.length_set]; exact h3⟩
    rw [List.getElem?_set_self (by omega)]
    unfold deps
    rw [build_take hl]
  · rintro ρ M1 ⟨o2, o3, rfl, h1, h2, h3⟩
    rw [List.length_map, List.take_length] at h1
    exact q _ _ _ h1 h2 h3
theorem last_at {α : Type} {f : α → D} {xs : List α} {P : D → Prop} {x : α} : AtP ((xs ++ [x]).map f) (-1) P ↔ P (f x) := by
  have e : atI ((xs ++ [x]).map f) (-1) = some (f x) := by
    have h1 : (-1 + ((xs.length : Int) + 1)).toNat = xs.length := by omega
    have h2 : (1 : Int) ≤ (xs.length : Int) + 1 := by omega
    unfold atI ixN
    simp [h1, h2]
  unfold AtP; rw [e]
theorem Ext.of_ne {M M1 M' : Store} {n : Nat} (h1 : Ext M M1) (hn : M.length ≤ n) (h2 : ∀ j, j ≠ n → M'[j]? = M1[j]?) (h3 : M'.length = M1.length) : Ext M M' :=
  ⟨by rw [h3]; exact h1.1, fun j hj => (h2 j (by omega)).trans (h1.2 j hj)⟩
theorem last_of {α : Type} {xs : List α} (h : xs ≠ []) : ∃ ys y, xs = ys ++ [y] := ⟨xs.dropLast, xs.getLast h, (List.dropLast_concat_getLast h).symm⟩
theorem depth_spec {ls : List Ln} {M : Store} (h : Good ls) (h0 : ls ≠ []) (hz : ls.length ≤ 16777216) : Post (m_depth [sayD ls] M) (fun d M' => Ext M M' ∧ ∃ xs x, deps ls = xs ++ [x] ∧ d = .int x) (fun _ _ => False) := by
  unfold m_depth b_depth
  simp only [p_runD, p_sSeq, p_sDrop, p_eCall, p_aCons, p_aNil]
  simp [check_eq h h0 hz]
  show Post (forD _ (gSet 2) (depBody m_parts_told) _ _ _) _ _
  refine dep_loop (M := M ++ [some (.lst [])]) h (fun l M => parts_told_eq) (List.getElem?_concat_length ..) hz ?_
  intro o2 o3 M' h1 h2 h3
  obtain ⟨xs, x, e⟩ := last_of (xs := deps ls) (by intro z; have := build_len depF ls; unfold deps at z; rw [z] at this; exact h0 (List.eq_nil_of_length_eq_zero this.symm))
  simp [locL_of h1, e]
  rw [← List.map_singleton, ← List.map_append, last_at]
  exact ⟨Ext.of_ne (Ext.refl.app _) (Nat.le_refl _) h2 h3, xs, x, ⟨rfl, rfl⟩, rfl⟩
theorem law_depths_spec {ls : List Ln} {M : Store} (h : Good ls) (hz : ls.length ≤ 16777216) : Post (m__law_depths [sayD ls] M) (fun d M' => Ext M M' ∧ d = .lst ((deps ls).map D.int)) (fun _ _ => False) := by
  unfold m__law_depths b__law_depths
  simp [p_runD]
  show Post (forD _ (gSet 2) (depBody m__law_told_by) _ _ _) _ _
  refine dep_loop (M := M ++ [some (.lst [])]) h (fun l M => told_by_eq) (List.getElem?_concat_length ..) hz ?_
  intro o2 o3 M' h1 h2 h3
  simp
  refine (locL_l h1).mpr ?_
  simp
  exact Ext.set (Ext.of_ne (Ext.refl.app _) (Nat.le_refl _) h2 h3) (Nat.le_refl _)
end Qk19
set_option Elab.async false
set_option linter.all false
set_option maxRecDepth 100000
set_option maxHeartbeats 4000000
set_option autoImplicit false
namespace Qk19
open PySem PySem.Spec L2 L3
open PyProof.Rows hiding St
/-- a dict whose keys are these numbers -/
def IsKeys (fs : List (Key × D)) (S : Int → Prop) : Prop := ∃ ks : List Int, fs.map (·.1) = ks.map Sum.inl ∧ ks.Nodup ∧ ∀ x, x ∈ ks ↔ S x
theorem isKeys_mem {fs : List (Key × D)} {ks : List Int} (h : fs.map (·.1) = ks.map Sum.inl) {x : Int} : (Sum.inl x : Key) ∈ fs.map (·.1) ↔ x ∈ ks := by
  rw [h, List.mem_map]
  constructor
  · rintro ⟨y, hy, e⟩; cases e; exact hy
  · intro hx; exact ⟨x, hx, rfl⟩
theorem IsKeys.congr {fs : List (Key × D)} {S T : Int → Prop} (h : IsKeys fs S) (e : ∀ x, S x ↔ T x) : IsKeys fs T := by
  obtain ⟨ks, h1, h2, h3⟩ := h
  exact ⟨ks, h1, h2, fun x => (h3 x).trans (e x)⟩
theorem IsKeys.nil : IsKeys [] fun _ => False := ⟨[], rfl, .nil, fun x => by simp⟩
theorem IsKeys.put {fs : List (Key × D)} {S : Int → Prop} {x : Int} {v : D} (h : IsKeys fs S) : IsKeys (putG fs (.inl x) v) fun y => S y ∨ y = x := by
  obtain ⟨ks, h1, h2, h3⟩ := h
  have k := putG_keys (fs := fs) (k := (Sum.inl x : Key)) (v := v)
  by_cases hx : x ∈ ks
  · rw [if_pos ((isKeys_mem h1).mpr hx)] at k
    refine ⟨ks, k.trans h1, h2, fun y => ?_⟩
    rw [h3]
    exact ⟨.inl, fun z => z.elim (fun a => a) fun e => by rw [e]; exact (h3 x).mp hx⟩
  · rw [if_neg (fun z => hx ((isKeys_mem h1).mp z))] at k
    refine ⟨ks ++ [x], by rw [k, h1, List.map_append]; rfl, List.nodup_append.mpr ⟨h2, by simp, fun a ha b hb e => by rw [List.mem_singleton] at hb; subst hb; subst e; exact hx ha⟩, fun y => ?_⟩
    rw [List.mem_append, List.mem_singleton, h3]
theorem IsKeys.fold {α : Type} {f : α → Int} {v : D} : ∀ (l : List α) {fs : List (Key × D)} {S : Int → Prop}, IsKeys fs S → IsKeys (l.foldl (fun acc x => putG acc (.inl (f x)) v) fs) fun y => S y ∨ ∃ x ∈ l, y = f x
  | [], fs, S, h => h.congr fun x => by simp
  | a :: l, fs, S, h => (IsKeys.fold l (h.put (x := f a) (v := v))).congr fun x => by simp [or_assoc]
theorem IsKeys.merge {gs : List (Key × D)} : ∀ {T : Int → Prop} {fs : List (Key × D)} {S : Int → Prop}, IsKeys fs S → IsKeys gs T → IsKeys (mergeG fs gs) fun y => S y ∨ T y := fun {T fs S} h k => by
  obtain ⟨ks, h1, h2, h3⟩ := k
  have : ∀ (gs : List (Key × D)) (ks : List Int) (fs : List (Key × D)) (S : Int → Prop), gs.map (·.1) = ks.map Sum.inl → IsKeys fs S → IsKeys (mergeG fs gs) fun y => S y ∨ y ∈ ks := by
    intro gs
    induction gs with
    | nil =>
      intro ks fs S e h
      cases ks with
      | nil => exact h.congr fun x => by simp
      | cons _ _ => cases e
    | cons p gs ih =>
      intro ks fs S e h
      cases ks with
      | nil => cases e
      | cons x ks =>
        obtain ⟨e1, e2⟩ := List.cons.inj e
        obtain ⟨k, v⟩ := p
        have e1 : k = Sum.inl x := e1
        subst e1
        exact (ih ks _ _ e2 (h.put (x := x) (v := v))).congr fun y => by simp [or_assoc]
  exact (this gs ks fs S h1 h).congr fun y => by rw [h3]
theorem IsKeys.drop {fs : List (Key × D)} {S : Int → Prop} {x : Int} (h : IsKeys fs S) : IsKeys (dropG fs (.inl x)) fun y => S y ∧ y ≠ x := by
  obtain ⟨ks, h1, h2, h3⟩ := h
  have e : ∀ (fs : List (Key × D)) (ks : List Int), fs.map (·.1) = ks.map Sum.inl → (dropG fs (.inl x)).map (·.1) = (ks.filter fun y => decide (y ≠ x)).map Sum.inl := by
    intro fs
    induction fs with
    | nil => intro ks e; cases ks with
      | nil => rfl
      | cons _ _ => cases e
    | cons p fs ih =>
      intro ks e
      cases ks with
      | nil => cases e
      | cons y ks =>
        obtain ⟨e1, e2⟩ := List.cons.inj e
        have e1 : p.1 = Sum.inl y := e1
        have q := ih ks e2
        unfold dropG at q ⊢
        by_cases hy : y = x
        · rw [List.filter_cons_of_neg (by simp [e1, hy]), List.filter_cons_of_neg (by simp [hy])]
          exact q
        · rw [List.filter_cons_of_pos (by simp [e1, hy]), List.filter_cons_of_pos (by simp [hy]), List.map_cons, List.map_cons, q, e1]
  refine ⟨_, e fs ks h1, h2.sublist List.filter_sublist, fun y => ?_⟩
  simp [h3]
theorem IsKeys.isSome {fs : List (Key × D)} {S : Int → Prop} {x : Int} (h : IsKeys fs S) : (valG fs (.inl x)).isSome = true ↔ S x := by
  obtain ⟨ks, h1, h2, h3⟩ := h
  rw [valG_isSome, isKeys_mem h1, h3]
theorem IsKeys.pop {fs : List (Key × D)} {S : Int → Prop} {x : Int} {M : Store} {n : Nat} (h : IsKeys fs S) (e : M[n]? = some (some (.dk fs))) : ∃ gs, (if (valG fs (.inl x)).isSome = true then M.set n (some (.dk (dropG fs (.inl x)))) else M) = M.set n (some (.dk gs)) ∧ IsKeys gs fun y => S y ∧ y ≠ x := by
  by_cases hx : (valG fs (.inl x)).isSome = true
  · exact ⟨_, by rw [if_pos hx], h.drop⟩
  · refine ⟨fs, ?_, h.congr fun y => ⟨fun hy => ⟨hy, fun z => hx (h.isSome.mpr (z ▸ hy))⟩, fun z => z.1⟩⟩
    rw [if_neg hx]
    have hn := (List.getElem?_eq_some_iff.mp e).1
    refine (List.ext_getElem? fun j => ?_)
    by_cases hj : n = j
    · subst hj; rw [List.getElem?_set_self hn, e]
    · rw [List.getElem?_set_ne hj]
theorem IsKeys.len {fs : List (Key × D)} {S : Int → Prop} (h : IsKeys fs S) (b : ∀ x, S x → 0 ≤ x ∧ x < 4) : fs.length ≤ 4 := by
  obtain ⟨ks, h1, h2, h3⟩ := h
  have e : fs.length = ks.length := by simpa using congrArg List.length h1
  have d : ∀ x ∈ ks, x ∈ [(0 : Int), 1, 2, 3] := fun x hx => by
    have := b x ((h3 x).mp hx)
    have : x = 0 ∨ x = 1 ∨ x = 2 ∨ x = 3 := by omega
    simp; exact this
  have := nodup_len h2 d
  rw [e]; exact this
/-- the names as they stand in order -/
def ordL (l : List Nat) : List Int := sortL (dd (l.map Int.ofNat))
theorem mem_ordL {l : List Nat} {x : Int} : x ∈ ordL l ↔ ∃ y ∈ l, x = (y : Nat) := by
  unfold ordL
  rw [mem_sortL, dd_mem, List.mem_map]
  exact ⟨fun ⟨y, h, e⟩ => ⟨y, h, e.symm⟩, fun ⟨y, h, e⟩ => ⟨y, h, e.symm⟩⟩
theorem IsKeys.sorted {fs : List (Key × D)} {S : Int → Prop} {l : List Nat} (h : IsKeys fs S) (e : ∀ x, S x ↔ ∃ y ∈ l, x = (y : Nat)) : ∃ ks, keyInts (fs.map (·.1)) = some ks ∧ sortL ks = ordL l := by
  obtain ⟨ks, h1, h2, h3⟩ := h
  refine ⟨ks, by rw [h1, keyInts_map'], sortL_ext h2 (dd_nodup _) fun x => ?_⟩
  rw [h3, e, dd_mem, List.mem_map]
  exact ⟨fun ⟨y, h, e⟩ => ⟨y, h, e.symm⟩, fun ⟨y, h, e⟩ => ⟨y, h, e.symm⟩⟩
theorem ordL_ext {ns : List Int} {l : List Nat} (e : ∀ x, x ∈ ns ↔ ∃ y ∈ l, x = (y : Nat)) : sortL (dd ns) = ordL l := by
  refine sortL_ext (dd_nodup _) (dd_nodup _) fun x => ?_
  rw [dd_mem, e, dd_mem, List.mem_map]
  exact ⟨fun ⟨y, h, e⟩ => ⟨y, h, e.symm⟩, fun ⟨y, h, e⟩ => ⟨y, h, e.symm⟩⟩
theorem few {ns : List Int} (b : ∀ x ∈ ns, 0 ≤ x ∧ x < 4) : (dd ns).length ≤ 4 := by
  have d : ∀ x ∈ dd ns, x ∈ [(0 : Int), 1, 2, 3] := fun x hx => by
    have := b x ((dd_mem _ _).mp hx)
    have : x = 0 ∨ x = 1 ∨ x = 2 ∨ x = 3 := by omega
    simp; exact this
  exact nodup_len (dd_nodup _) d
/-- the free names of a line -/
def frL (acc : List (List Nat)) (l : Ln) : List Nat := (l.names ++ l.parts.flatMap fun p => acc[p]?.getD []).filter fun x => !l.bound.contains x
def frees (ls : List Ln) : List (List Nat) := build frL ls
def tupI (l : List Nat) : D := .tup ((ordL l).map D.int)
def lstI (l : List Nat) : D := .lst ((ordL l).map D.int)
theorem mem_frL {acc : List (List Nat)} {l : Ln} {x : Nat} : x ∈ frL acc l ↔ (x ∈ l.names ∨ ∃ p ∈ l.parts, x ∈ acc[p]?.getD []) ∧ x ∉ l.bound := by
  unfold frL
  simp [or_and_right]
theorem frees_small {ls : List Ln} (h : Good ls) : ∀ k, ∀ xs ∈ frees (ls.take k), ∀ x ∈ xs, x < 4
  | 0 => by intro xs hx; cases hx
  | k + 1 => by
    by_cases hk : k < ls.length
    · have e := List.getElem?_eq_getElem hk
      intro xs hx x hx2
      unfold frees at hx
      rw [build_take e] at hx
      rcases List.mem_append.mp hx with hx | hx
      · exact frees_small h k xs hx x hx2
      · rw [List.mem_singleton] at hx
        subst hx
        rw [mem_frL] at hx2
        rcases hx2.1 with h1 | ⟨p, hp, h1⟩
        · exact (h k _ e).names x h1
        · cases q : (build frL (ls.take k))[p]? with
          | none => rw [q] at h1; cases h1
          | some ys => rw [q] at h1; exact frees_small h k ys (List.mem_of_getElem? q) x h1
    · rw [show ls.take (k + 1) = ls.take k by rw [List.take_of_length_le (by omega), List.take_of_length_le (by omega)]]
      exact frees_small h k
noncomputable abbrev freeBody : DEnv → Py Fl :=
  (sSeq (sSet 3 (eDc fdN (dcAll [4] (iSeq wkA (eCall (nargs 1 m_names_told) (aCons (eVar 2) aNil))) (gSet 4) tYesD (eVar 4) (eC (.bl true)))))
  (sSeq (sFor (iSeq wkA (eCall (nargs 1 m_parts_told) (aCons (eVar 2) aNil))) (gSet 5)
    (sDrop (eMt "dict" updDk (eVar 3) (aCons (eDc fdF (dcAll [4] (iSeq wkA (eOp ixD (eVar 1) (eVar 5))) (gSet 4) tYesD (eVar 4) (eC (.bl true)))) aNil))))
  (sSeq (sIf (eTest (eOp (eqS false) (eOp ixD (eVar 2) (eC (.int 0))) (eC (.str (PySem.Str.ofString "many")))))
    (sDrop (ePop2 (eVar 3) (eOp ixD (eVar 2) (eC (.int 1))) (eC .non)))
    sNext)
  (sDrop (eMt "list" appendD (eVar 1) (aCons (eCall (one tupD) (aCons (eCall (one (sortD frF)) (aCons (eVar 3) aNil)) aNil)) aNil))))))
/-- what is the same but for n -/
def But (n : Nat) (M M' : Store) : Prop := M.length ≤ M'.length ∧ ∀ j, j < M.length → j ≠ n → M'[j]? = M[j]?
theorem But.trans {n : Nat} {M M1 M2 : Store} (h : But n M M1) (k : But n M1 M2) : But n M M2 := ⟨Nat.le_trans h.1 k.1, fun j hj hn => (k.2 j (Nat.lt_of_lt_of_le hj h.1) hn).trans (h.2 j hj hn)⟩
theorem But.refl {n : Nat} {M : Store} : But n M M := ⟨Nat.le_refl _, fun _ _ _ => rfl⟩
theorem Ext.but {n : Nat} {M M1 M' : Store} (h1 : Ext M M1) (hn : M.length ≤ n) (k : But n M1 M') : Ext M M' := ⟨Nat.le_trans h1.1 k.1, fun j hj => (k.2 j (Nat.lt_of_lt_of_le hj h1.1) (by omega)).trans (h1.2 j hj)⟩
theorem atP_accN {acc : List (List Nat)} {f : List Nat → D} {p : Nat} {P : D → Prop} (h : p < acc.length) : AtP (acc.map f) (p : Int) P ↔ P (f (acc[p]?.getD [])) := by
  rw [atP_nat (by simpa using h)]
  simp [h]
theorem free_turn {l : Ln} {M : Store} {n k : Nat} {s o3 o4 o5 : Option D} {acc : List (List Nat)} (hl : LOk k l) (hM : M[n]? = some (some (.lst (acc.map tupI)))) (ha : acc.length = k) (hb : ∀ xs ∈ acc, ∀ x ∈ xs, x < 4) (hz : k < 16777216) :
    Post (freeBody [s, some (.loc n), some l.d, o3, o4, o5] M) (fun r M' => ∃ o3 o5, r = .nx [s, some (.loc n), some l.d, o3, o4, o5] ∧ M'[n]? = some (some (.lst ((acc ++ [frL acc l]).map tupI))) ∧ But n M M') (fun _ _ => False) := by
  have hn : n < M.length := (List.getElem?_eq_some_iff.mp hM).1
  have hp := hl.parts
  have hp2 := hl.plen
  refine seq_mid (fun ρ M' => ∃ fs, ρ = [s, some (.loc n), some l.d, some (.loc M.length), o4, o5] ∧ M' = M ++ [some (.dk fs)] ∧ IsKeys fs fun y => ∃ x ∈ l.names, y = (x : Nat)) ?_ ?_
  · simp [names_told_eq]
    refine dc_map nD (fun x => .inl ((x : Nat) : Int)) (fun _ => .bl true) trivial l.names [] ?_ (fun x hx => ?_) ?_
    · have := hl.nlen; simp; omega
    · simp [nD]
    · simp
      exact (IsKeys.nil.fold l.names (f := fun x => ((x : Nat) : Int)) (v := .bl true)).congr fun y => by simp
  rintro ρ M1 ⟨fs, rfl, rfl, hf⟩
  refine seq_mid (fun ρ M' => ∃ fs o5, ρ = [s, some (.loc n), some l.d, some (.loc M.length), o4, o5] ∧ M'[n]? = some (some (.lst (acc.map tupI))) ∧ M'[M.length]? = some (some (.dk fs)) ∧ But n M M' ∧ IsKeys fs fun y => ∃ x, (x ∈ l.names ∨ ∃ p ∈ l.parts, x ∈ acc[p]?.getD []) ∧ y = (x : Nat)) ?_ ?_
  · simp [parts_told_eq]
    refine for_rule (fun j ρ M' => ∃ fs o5, ρ = [s, some (.loc n), some l.d, some (.loc M.length), o4, o5] ∧ M'[n]? = some (some (.lst (acc.map tupI))) ∧ M'[M.length]? = some (some (.dk fs)) ∧ But n M M' ∧ IsKeys fs fun y => ∃ x, (x ∈ l.names ∨ ∃ p ∈ l.parts.take j, x ∈ acc[p]?.getD []) ∧ y = (x : Nat)) (fun _ _ _ _ => trivial) ?_ ?_ ?_
    · refine ⟨fs, o5, rfl, by rw [List.getElem?_append_left hn]; exact hM, List.getElem?_concat_length .., ⟨by simp, fun j hj _ => by rw [List.getElem?_append_left hj]⟩, hf.congr fun y => by simp⟩
    · rintro j d ρ M2 hd ⟨fs, o5, rfl, h1, h2, h3, h4⟩
      rw [List.getElem?_map] at hd
      obtain ⟨p, hj, rfl⟩ := Option.map_eq_some_iff.mp hd
      have hpk : p < acc.length := by rw [ha]; exact hp p (List.mem_of_getElem? hj)
      have hsm : ∀ x ∈ acc[p]?.getD [], x < 4 := fun x hx => hb (acc[p]?.getD []) (by rw [List.getElem?_eq_getElem hpk]; exact List.getElem_mem hpk) x hx
      have hol : (ordL (acc[p]?.getD [])).length ≤ 4 := by
        unfold ordL
        rw [(sortL_perm _).length_eq]
        refine few fun x hx => ?_
        obtain ⟨y, hy, rfl⟩ := List.mem_map.mp hx
        have := hsm y hy
        exact ⟨Int.natCast_nonneg _, by show ((y : Nat) : Int) < 4; omega⟩
      have hf4 : fs.length ≤ 4 := h4.len fun x hx => by
        obtain ⟨y, hy, rfl⟩ := hx
        rcases hy with hy | ⟨q, hq, hy⟩
        · have := hl.names y hy; omega
        · cases e : acc[q]? with
          | none => rw [e] at hy; cases hy
          | some ys => rw [e] at hy; have := hb ys (List.mem_of_getElem? e) y hy; omega
      simp [locK_of h2, nD, locL_of h1]
      rw [atP_accN hpk]
      simp [tupI]
      refine dc_map D.int (fun x => .inl x) (fun _ => .bl true) trivial (ordL (acc[p]?.getD [])) [] (by simp; omega) (fun x hx => ?_) ?_
      · simp
      · have hk : IsKeys ((ordL (acc[p]?.getD [])).foldl (fun acc x => putG acc (.inl x) (.bl true)) []) fun y => ∃ x ∈ acc[p]?.getD [], y = (x : Nat) :=
          (IsKeys.nil.fold (ordL (acc[p]?.getD [])) (f := fun x => x) (v := .bl true)).congr fun y => by simp [mem_ordL]
        have hg4 := hk.len fun x hx => by
          obtain ⟨y, hy, rfl⟩ := hx
          have := hsm y hy; omega
        rw [locK_of h2]
        refine ⟨by omega, ?_, mergeG fs ((ordL (acc[p]?.getD [])).foldl (fun acc x => putG acc (.inl x) (.bl true)) []), ?_, ?_, ?_⟩
        · rw [List.getElem?_set_ne (by omega)]; exact h1
        · rw [List.getElem?_set_self (List.getElem?_eq_some_iff.mp h2).1]
        · exact ⟨by rw [List.length_set]; exact h3.1, fun q hq hqn => by rw [List.getElem?_set_ne (by omega)]; exact h3.2 q hq hqn⟩
        · refine (h4.merge hk).congr fun y => ?_
          rw [List.take_succ, hj]
          constructor
          · rintro (⟨x, hx, rfl⟩ | ⟨x, hx, rfl⟩)
            · refine ⟨x, hx.imp id ?_, rfl⟩
              rintro ⟨q, hq, hx⟩
              exact ⟨q, List.mem_append_left _ hq, hx⟩
            · exact ⟨x, .inr ⟨p, List.mem_append_right _ (by simp), hx⟩, rfl⟩
          · rintro ⟨x, hx | ⟨q, hq, hx⟩, rfl⟩
            · exact .inl ⟨x, .inl hx, rfl⟩
            · rcases List.mem_append.mp hq with hq | hq
              · exact .inl ⟨x, .inr ⟨q, hq, hx⟩, rfl⟩
              · simp at hq
                subst hq
                exact .inr ⟨x, hx, rfl⟩
    · rintro ρ M2 ⟨fs, o5, rfl, h1, h2, h3, h4⟩
      rw [List.length_map, List.take_length] at h4
      exact ⟨⟨o5, rfl⟩, h1, fs, h2, h3, h4⟩
  rintro ρ M2 ⟨fs, o5, rfl, h1, h2, h3, h4⟩
  refine seq_mid (fun ρ M' => ∃ fs, ρ = [s, some (.loc n), some l.d, some (.loc M.length), o4, o5] ∧ M'[n]? = some (some (.lst (acc.map tupI))) ∧ M'[M.length]? = some (some (.dk fs)) ∧ But n M M' ∧ IsKeys fs fun y => ∃ x ∈ frL acc l, y = (x : Nat)) ?_ ?_
  · have plain : l.bound = [] → IsKeys fs fun y => ∃ x ∈ frL acc l, y = (x : Nat) := fun e => h4.congr fun y => by
      simp only [mem_frL, e]
      simp
    cases l with
    | many i t p =>
      simp [Ln.d, ofString_inj, chkDk_k h2, nD, popDk_k h2]
      obtain ⟨gs, e, hk⟩ := h4.pop (x := ((i : Nat) : Int)) h2
      rw [e]
      refine ⟨?_, gs, ?_, ?_, ?_⟩
      · rw [List.getElem?_set_ne (by omega)]; exact h1
      · rw [List.getElem?_set_self (List.getElem?_eq_some_iff.mp h2).1]
      · exact ⟨by rw [List.length_set]; exact h3.1, fun q hq hqn => by rw [List.getElem?_set_ne (by omega)]; exact h3.2 q hq hqn⟩
      · refine hk.congr fun y => ?_
        simp only [mem_frL, Ln.bound, List.mem_singleton]
        constructor
        · rintro ⟨⟨x, hx, rfl⟩, hn⟩; exact ⟨x, ⟨hx, fun z => hn (by rw [z])⟩, rfl⟩
        · rintro ⟨x, ⟨hx, hn⟩, rfl⟩; exact ⟨⟨x, hx, rfl⟩, fun z => hn (by omega)⟩
    | _ =>
      simp [Ln.d, ofString_inj]
      exact ⟨h1, fs, h2, h3, plain rfl⟩
  rintro ρ M3 ⟨fs, rfl, h1, h2, h3, h4⟩
  obtain ⟨ks, e1, e2⟩ := h4.sorted (l := frL acc l) fun x => Iff.rfl
  simp [locL_of h1, sortD_k h2, e1, e2, ha, hz]
  rw [List.getElem?_set_self (List.getElem?_eq_some_iff.mp h1).1]
  exact ⟨rfl, by rw [List.length_set]; exact h3.1, fun q hq hqn => by rw [List.getElem?_set_ne (Ne.symm hqn)]; exact h3.2 q hq hqn⟩
end Qk19
set_option Elab.async false
set_option linter.all false
set_option maxRecDepth 100000
set_option maxHeartbeats 4000000
set_option autoImplicit false
namespace Qk19
open PySem PySem.Spec L2 L3
open PyProof.Rows hiding St
theorem frees_ne {ls : List Ln} (h0 : ls ≠ []) : frees ls ≠ [] := by
  intro z
  have := build_len frL ls
  unfold frees at z; rw [z] at this
  exact h0 (List.eq_nil_of_length_eq_zero this.symm)
def FoI (ls : List Ln) (f : List Nat → D) (M : Store) (n : Nat) (k : Nat) (ρ : DEnv) (M' : Store) : Prop :=
  ∃ o2 o3 o4 o5, ρ = [some (sayD ls), some (.loc n), o2, o3, o4, o5] ∧ M'[n]? = some (some (.lst ((frees (ls.take k)).map f))) ∧ Ext M M'
theorem free_of_lines_spec {ls : List Ln} {M : Store} (h : Good ls) (hz : ls.length ≤ 16777216) : Post (m_free_of_lines [sayD ls] M) (fun d M' => Ext M M' ∧ d = .lst ((frees ls).map tupI)) (fun _ _ => False) := by
  unfold m_free_of_lines b_free_of_lines
  simp [p_runD]
  show Post (forD _ (gSet 2) freeBody (ls.map Ln.d) _ _) _ _
  refine for_rule (FoI ls tupI M M.length) (fun _ _ _ _ => trivial) ⟨none, none, none, none, rfl, List.getElem?_concat_length .., Ext.refl.app _⟩ ?_ ?_
  · rintro k d ρ M1 hd ⟨o2, o3, o4, o5, rfl, h1, h2⟩
    rw [List.getElem?_map] at hd
    obtain ⟨l, hl, rfl⟩ := Option.map_eq_some_iff.mp hd
    have hk : k < ls.length := (List.getElem?_eq_some_iff.mp hl).1
    rw [p_gSet]
    refine (free_turn (h k l hl) h1 (by rw [frees, build_len, List.length_take]; omega) (fun xs hx x hx2 => frees_small h k xs hx x hx2) (by omega)).use ?_
    rintro r M2 ⟨o3, o5, rfl, h3, h4⟩
    refine ⟨_, _, _, _, rfl, ?_, Ext.but h2 (Nat.le_refl _) h4⟩
    rw [h3]
    unfold frees
    rw [build_take hl]
  · rintro ρ M1 ⟨o2, o3, o4, o5, rfl, h1, h2⟩
    rw [List.length_map, List.take_length] at h1
    simp
    refine (locL_l h1).mpr ?_
    simp
    exact Ext.set h2 (Nat.le_refl _)
theorem free_spec {ls : List Ln} {M : Store} (h : Good ls) (h0 : ls ≠ []) (hz : ls.length ≤ 16777216) : Post (m_free [sayD ls] M) (fun d M' => Ext M M' ∧ ∃ xs x, frees ls = xs ++ [x] ∧ d = tupI x) (fun _ _ => False) := by
  unfold m_free b_free
  simp [p_runD, check_eq h h0 hz]
  refine (free_of_lines_spec h hz).use ?_
  rintro d M1 ⟨h1, rfl⟩
  obtain ⟨xs, x, e⟩ := last_of (frees_ne h0)
  simp only [p_negI, p_ix_lst, e]
  rw [last_at]
  exact ⟨h1, xs, x, rfl, rfl⟩
/-! by the law -/
def LfI (s : Option D) (n : Nat) (l : Ln) (acc : List (List Nat)) (M : Store) (b : Nat) (P : Nat → Prop) (ρ : DEnv) (M' : Store) : Prop :=
  ∃ (m : Nat) (ns : List Int) (o4 o5 : Option D), ρ = [s, some (.loc n), some l.d, some (.loc m), o4, o5] ∧ M.length ≤ m ∧ M'[m]? = some (some (.lst (ns.map D.int))) ∧ M'[n]? = some (some (.lst (acc.map lstI))) ∧ But n M M' ∧ ns.length ≤ b ∧ ∀ y, y ∈ ns ↔ ∃ x, P x ∧ y = (x : Nat)
noncomputable abbrev lawFreeBody : DEnv → Py Fl :=
  (sSeq (sSet 3 (eNew aNil))
  (sSeq (sIf (eTest (eOp (inTD false) (eOp ixD (eVar 2) (eC (.int 0))) (eTup (aCons (eC (.str (PySem.Str.ofString "hue"))) (aCons (eC (.str (PySem.Str.ofString "same"))) (aCons (eC (.str (PySem.Str.ofString "tie"))) aNil))))))
    (sSet 3 (eCall (one lstN) (aCons (eOp dixD (eDisp (pCons (eC (.str (PySem.Str.ofString "hue"))) (eSl (eVar 2) (oSome (eC (.int 1))) (oSome (eC (.int 2)))) (pCons (eC (.str (PySem.Str.ofString "same"))) (eSl (eVar 2) (oSome (eC (.int 1))) oNone) (pCons (eC (.str (PySem.Str.ofString "tie"))) (eSl (eVar 2) (oSome (eC (.int 2))) oNone) pNil)))) (eOp ixD (eVar 2) (eC (.int 0)))) aNil)))
    sNext)
  (sSeq (sFor (iSeq wkA (eCall (nargs 1 m__law_told_by) (aCons (eVar 2) aNil))) (gSet 4)
    (sDrop (eMt "list" extendD (eVar 3) (aCons (eLcA frF (lcAll [5] (iSeq wkA (eOp ixD (eVar 1) (eVar 4))) (gSet 5) (eTest (eOp notInU (eVar 5) (eVar 3))) (eVar 5))) aNil))))
  (sSeq (sIf (eTest (eOp (eqS false) (eOp ixD (eVar 2) (eC (.int 0))) (eC (.str (PySem.Str.ofString "many")))))
    (sSet 3 (eLcA frN (lcAll [5] (iSeq wkA (eVar 3)) (gSet 5) (eTest (eOp (eqS true) (eVar 5) (eOp ixD (eVar 2) (eC (.int 1))))) (eVar 5))))
    sNext)
  (sDrop (eMt "list" appendD (eVar 1) (aCons (eCall (sortSetD frF) (aCons (eVar 3) aNil)) aNil)))))))
theorem But.app {n : Nat} {M M1 : Store} (h : But n M M1) (l : Store) : But n M (M1 ++ l) := ⟨by rw [List.length_append]; have := h.1; omega, fun j hj hn => by rw [List.getElem?_append_left (Nat.lt_of_lt_of_le hj h.1)]; exact h.2 j hj hn⟩
theorem But.set {n m : Nat} {M M1 : Store} {o : Option MO} (h : But n M M1) (hm : M.length ≤ m ∨ m = n) : But n M (M1.set m o) := ⟨by rw [List.length_set]; exact h.1, fun j hj hn => by rw [List.getElem?_set_ne (by omega)]; exact h.2 j hj hn⟩
theorem law_free_turn {l : Ln} {M : Store} {n k : Nat} {s o3 o4 o5 : Option D} {acc : List (List Nat)} (hl : LOk k l) (hM : M[n]? = some (some (.lst (acc.map lstI)))) (ha : acc.length = k) (hb : ∀ xs ∈ acc, ∀ x ∈ xs, x < 4) (hz : k < 16777216) :
    Post (lawFreeBody [s, some (.loc n), some l.d, o3, o4, o5] M) (fun r M' => ∃ o3 o4 o5, r = .nx [s, some (.loc n), some l.d, o3, o4, o5] ∧ M'[n]? = some (some (.lst ((acc ++ [frL acc l]).map lstI))) ∧ But n M M') (fun _ _ => False) := by
  have hn : n < M.length := (List.getElem?_eq_some_iff.mp hM).1
  have hp := hl.parts
  have hp2 := hl.plen
  have hsm : ∀ q : Nat, ∀ x ∈ acc[q]?.getD [], x < 4 := fun q x hx => by
    cases e : acc[q]? with
    | none => rw [e] at hx; cases hx
    | some ys => rw [e] at hx; exact hb ys (List.mem_of_getElem? e) x hx
  rw [p_sSeq]
  simp only [p_sSet, p_eNew, p_aNil, thenF_nx]
  refine ⟨by simp, ?_⟩
  refine seq_mid (LfI s n l acc M 2 (fun x => x ∈ l.names)) ?_ ?_
  · have h1 : (M ++ [some (MO.lst [])])[n]? = some (some (.lst (acc.map lstI))) := by rw [List.getElem?_append_left hn]; exact hM
    have none_ : l.names = [] → LfI s n l acc M 2 (fun x => x ∈ l.names) [s, some (.loc n), some l.d, some (.loc M.length), o4, o5] (M ++ [some (MO.lst [])]) := fun e =>
      ⟨M.length, [], o4, o5, rfl, Nat.le_refl _, List.getElem?_concat_length .., h1, But.refl.app _, by simp, fun y => by simp [e]⟩
    have some_ : l.names.length ≤ 2 → LfI s n l acc M 2 (fun x => x ∈ l.names) [s, some (.loc n), some l.d, some (.loc (M ++ [some (MO.lst [])]).length), o4, o5] (M ++ [some (MO.lst [])] ++ [some (.lst (l.names.map nD))]) := fun e =>
      ⟨_, l.names.map Int.ofNat, o4, o5, rfl, by simp, by rw [List.getElem?_concat_length, List.map_map]; rfl, by rw [List.getElem?_append_left (by simp; omega)]; exact h1, (But.refl.app _).app _, by rw [List.length_map]; exact e, fun y => by
        rw [List.mem_map]; exact ⟨fun ⟨x, h, e⟩ => ⟨x, h, e.symm⟩, fun ⟨x, h, e⟩ => ⟨x, h, e.symm⟩⟩⟩
    cases l with
    | hue i h =>
      have := some_ (by simp [Ln.names])
      simp [Ln.d, ofString_inj, mergeD, putD, valD, L3.cutD, HT.sIx] at this ⊢
      exact this
    | same i j =>
      have := some_ (by simp [Ln.names])
      simp [Ln.d, ofString_inj, mergeD, putD, valD, L3.cutD, HT.sIx] at this ⊢
      exact this
    | tie c i j =>
      have := some_ (by simp [Ln.names])
      simp [Ln.d, ofString_inj, mergeD, putD, valD, L3.cutD, HT.sIx] at this ⊢
      exact this
    | not p => simpa [Ln.d, ofString_inj] using none_ rfl
    | all ps => simpa [Ln.d, ofString_inj] using none_ rfl
    | some ps => simpa [Ln.d, ofString_inj] using none_ rfl
    | many i t p => simpa [Ln.d, ofString_inj] using none_ rfl
  rintro ρ M1 ⟨m, ns, o4, o5, rfl, g1, g2, g3, g4, g5, g6⟩
  refine seq_mid (LfI s n l acc M 18 (fun x => x ∈ l.names ∨ ∃ p ∈ l.parts, x ∈ (acc[p]?.getD [] : List Nat))) ?_ ?_
  · simp [told_by_eq]
    refine for_rule (fun j => LfI s n l acc M (2 + 4 * j) (fun x => x ∈ l.names ∨ ∃ p ∈ l.parts.take j, x ∈ (acc[p]?.getD [] : List Nat))) (fun _ _ _ _ => trivial) ⟨m, ns, o4, o5, rfl, g1, g2, g3, g4, g5, fun y => by rw [g6]; simp⟩ ?_ ?_
    · rintro j d ρ M2 hd ⟨m, ns, o4, o5, rfl, g1, g2, g3, g4, g5, g6⟩
      rw [List.getElem?_map] at hd
      obtain ⟨p, hj, rfl⟩ := Option.map_eq_some_iff.mp hd
      have hjl : j < l.parts.length := (List.getElem?_eq_some_iff.mp hj).1
      have hpk : p < acc.length := by rw [ha]; exact hp p (List.mem_of_getElem? hj)
      have hol : (ordL (acc[p]?.getD [])).length ≤ 4 := by
        unfold ordL
        rw [(sortL_perm _).length_eq]
        refine few fun x hx => ?_
        obtain ⟨y, hy, rfl⟩ := List.mem_map.mp hx
        have := hsm p y hy
        exact ⟨Int.natCast_nonneg _, by show ((y : Nat) : Int) < 4; omega⟩
      simp [locL_of g2, nD, locL_of g3]
      rw [atP_accN hpk]
      simp [lstI]
      refine lc_filA D.int D.int (fun x => !decide (x ∈ ns)) trivial (ordL (acc[p]?.getD [])) [] (by simp; omega) (fun x hx => ?_) ?_
      · simp [notInU_l g2]
      · have hf : ((ordL (acc[p]?.getD [])).filter fun x => !decide (x ∈ ns)).length ≤ 4 := Nat.le_trans (List.length_filter_le ..) hol
        simp [locL_of g2]
        refine ⟨by omega, m, ns ++ (ordL (acc[p]?.getD [])).filter (fun x => !decide (x ∈ ns)), some (.int p), o5, rfl, g1, ?_, ?_, g4.set (.inl g1), ?_, fun y => ?_⟩
        · rw [List.getElem?_set_self (List.getElem?_eq_some_iff.mp g2).1, List.map_append]
        · rw [List.getElem?_set_ne (by omega)]; exact g3
        · rw [List.length_append]; omega
        · rw [List.mem_append, List.mem_filter, mem_ordL, List.take_succ, hj]
          constructor
          · rintro (hy | ⟨⟨x, hx, rfl⟩, _⟩)
            · obtain ⟨x, hx, rfl⟩ := (g6 y).mp hy
              refine ⟨x, hx.imp id ?_, rfl⟩
              rintro ⟨q, hq, hx⟩
              exact ⟨q, List.mem_append_left _ hq, hx⟩
            · exact ⟨x, .inr ⟨p, List.mem_append_right _ (by simp), hx⟩, rfl⟩
          · rintro ⟨x, hx, rfl⟩
            by_cases hin : ((x : Nat) : Int) ∈ ns
            · exact .inl hin
            · refine .inr ⟨?_, by simp [hin]⟩
              rcases hx with hx | ⟨q, hq, hx⟩
              · exact absurd ((g6 _).mpr ⟨x, .inl hx, rfl⟩) hin
              · rcases List.mem_append.mp hq with hq | hq
                · exact absurd ((g6 _).mpr ⟨x, .inr ⟨q, hq, hx⟩, rfl⟩) hin
                · simp at hq
                  subst hq
                  exact ⟨x, hx, rfl⟩
    · rintro ρ M2 ⟨m, ns, o4, o5, rfl, g1, g2, g3, g4, g5, g6⟩
      rw [List.length_map, List.take_length] at g6
      rw [List.length_map] at g5
      exact ⟨m, ns, o4, o5, rfl, g1, g2, g3, g4, by omega, g6⟩
  rintro ρ M2 ⟨m, ns, o4, o5, rfl, g1, g2, g3, g4, g5, g6⟩
  refine seq_mid (LfI s n l acc M 18 (fun x => x ∈ frL acc l)) ?_ ?_
  · have plain : l.bound = [] → LfI s n l acc M 18 (fun x => x ∈ frL acc l) [s, some (.loc n), some l.d, some (.loc m), o4, o5] M2 := fun e => ⟨m, ns, o4, o5, rfl, g1, g2, g3, g4, g5, fun y => by
      rw [g6]; simp only [mem_frL, e]; simp⟩
    cases l with
    | many i t p =>
      simp [Ln.d, ofString_inj]
      refine (wk_l g2).mpr ?_
      simp
      refine lc_filA D.int D.int (fun x => !decide (x = (i : Nat))) g2 ns [] (by simp; omega) (fun x hx => ?_) ?_
      · simp [nD]
      · simp
        refine ⟨M2.length, ns.filter (fun x => !decide (x = (i : Nat))), o4, o5, rfl, g4.1, List.getElem?_concat_length .., ?_, g4.app _, Nat.le_trans (List.length_filter_le ..) g5, fun y => ?_⟩
        · rw [List.getElem?_append_left (List.getElem?_eq_some_iff.mp g3).1]; exact g3
        · rw [List.mem_filter, g6]
          simp only [mem_frL, Ln.bound, List.mem_singleton]
          constructor
          · rintro ⟨⟨x, hx, rfl⟩, hn⟩
            exact ⟨x, ⟨hx, fun z => by simp [z] at hn⟩, rfl⟩
          · rintro ⟨x, ⟨hx, hn⟩, rfl⟩
            refine ⟨⟨x, hx, rfl⟩, ?_⟩
            simp; omega
    | _ =>
      simp [Ln.d, ofString_inj]
      exact plain rfl
  rintro ρ M3 ⟨m, ns, o4, o5, rfl, g1, g2, g3, g4, g5, g6⟩
  have hfew : (dd ns).length ≤ 4 := few fun y hy => by
    obtain ⟨x, hx, rfl⟩ := (g6 y).mp hy
    rw [mem_frL] at hx
    rcases hx.1 with hx | ⟨q, _, hx⟩
    · have := hl.names x hx; omega
    · have := hsm q x hx; omega
  have e : sortL (dd ns) = ordL (frL acc l) := ordL_ext fun y => by
    rw [g6]
  simp [locL_of g3, sortSet_l g2, ha, hz, e]
  rw [List.getElem?_set_self (List.getElem?_eq_some_iff.mp g3).1]
  exact ⟨by omega, rfl, g4.set (.inr rfl)⟩
theorem law_free_in_spec {ls : List Ln} {M : Store} (h : Good ls) (hz : ls.length ≤ 16777216) : Post (m__law_free_in [sayD ls] M) (fun d M' => Ext M M' ∧ d = .lst ((frees ls).map tupI)) (fun _ _ => False) := by
  unfold m__law_free_in b__law_free_in
  rw [p_runD]
  rw [p_sSeq]
  simp only [p_sSet, p_eNew, p_aNil, thenF_nx]
  refine ⟨by simp, ?_⟩
  refine seq_mid (FoI ls lstI M M.length ls.length) ?_ ?_
  · rw [p_sFor]
    simp only [p_iSeq, p_eVar]
    show Post (forD (fun _ => True) (gSet 2) lawFreeBody (ls.map Ln.d) [some (sayD ls), some (.loc M.length), none, none, none, none] (M ++ [some (.lst [])])) _ _
    refine for_rule (FoI ls lstI M M.length) (fun _ _ _ _ => trivial) ⟨none, none, none, none, rfl, List.getElem?_concat_length .., Ext.refl.app _⟩ ?_ ?_
    · rintro k d ρ M1 hd ⟨o2, o3, o4, o5, rfl, h1, h2⟩
      rw [List.getElem?_map] at hd
      obtain ⟨l, hl, rfl⟩ := Option.map_eq_some_iff.mp hd
      have hk : k < ls.length := (List.getElem?_eq_some_iff.mp hl).1
      rw [p_gSet]
      refine (law_free_turn (h k l hl) h1 (by rw [frees, build_len, List.length_take]; omega) (fun xs hx x hx2 => frees_small h k xs hx x hx2) (by omega)).use ?_
      rintro r M2 ⟨o3, o4, o5, rfl, h3, h4⟩
      refine ⟨_, _, _, _, rfl, ?_, Ext.but h2 (Nat.le_refl _) h4⟩
      rw [h3]
      unfold frees
      rw [build_take hl]
    · rintro ρ M1 hI
      rw [List.length_map] at hI
      exact hI
  rintro ρ M1 ⟨o2, o3, o4, o5, rfl, h1, h2⟩
  rw [List.take_length] at h1
  simp
  refine (wk_l h1).mpr ?_
  simp
  refine lc_mapA lstI tupI h1 (frees ls) [] (by simp [frees, build_len]; omega) (fun x hx => ?_) ?_
  · simp [lstI, tupI]
  · simp
    exact h2
end Qk19
set_option Elab.async false
set_option linter.all false
set_option maxRecDepth 100000
set_option maxHeartbeats 4000000
set_option autoImplicit false
namespace Qk19
open PySem PySem.Spec L2 L3
open PyProof.Rows hiding St
/-- the parts of the line with a number -/
def partsOf (ls : List Ln) (j : Nat) : List Nat := match ls[j]? with
  | some l => l.parts
  | none => []
theorem partsOf_at {ls : List Ln} {j : Nat} {l : Ln} (h : ls[j]? = some l) : partsOf ls j = l.parts := by unfold partsOf; rw [h]
/-- reached from the last line -/
inductive Rch (ls : List Ln) (last : Nat) : Nat → Prop
  | here : Rch ls last last
  | step {j p : Nat} : Rch ls last j → p ∈ partsOf ls j → Rch ls last p
theorem Rch.lt {ls : List Ln} {last j : Nat} (h : Good ls) (hl : last < ls.length) (r : Rch ls last j) : j < ls.length := by
  induction r with
  | here => exact hl
  | @step j p r hp ih =>
    unfold partsOf at hp
    cases e : ls[j]? with
    | none => rw [e] at hp; cases hp
    | some l =>
      rw [e] at hp
      have := (h _ l e).parts _ hp
      omega
theorem rch_all {ls : List Ln} {last : Nat} {S : Nat → Prop} (h0 : S last) (h : ∀ j, S j → ∀ p ∈ partsOf ls j, S p) : ∀ j, Rch ls last j → S j := fun j r => by
  induction r with
  | here => exact h0
  | step r hp ih => exact h _ ih _ hp
/-- F: what is found; ws: what waits -/
structure Wl (ls : List Ln) (last : Nat) (F ws : List Nat) : Prop where
  nd : F.Nodup
  lt : ∀ x ∈ F, x < ls.length
  sound : ∀ x ∈ F, Rch ls last x
  last : last ∈ F
  sub : ∀ x ∈ ws, x ∈ F
  closed : ∀ x ∈ F, x ∈ ws ∨ ∀ p ∈ partsOf ls x, p ∈ F
def isNums (F : List Nat) (y : Int) : Prop := ∃ x ∈ F, y = (x : Nat)
def RcI (ls : List Ln) (last : Nat) (M : Store) (k : Nat) (ρ : DEnv) (M' : Store) : Prop :=
  ∃ (fs : List (Key × D)) (F ws : List Nat) (o4 : Option D), ρ = [some (sayD ls), some (nD last), some (.loc M.length), some (.loc (M.length + 1)), o4] ∧ M'[M.length]? = some (some (.dk fs)) ∧ M'[M.length + 1]? = some (some (.lst (ws.map nD))) ∧ Ext M M' ∧
    IsKeys fs (isNums F) ∧ fs.length = F.length ∧ Wl ls last F ws ∧ k = (ls.length - F.length) + ws.length ∧ k ≤ ls.length
theorem IsKeys.putN {fs : List (Key × D)} {F : List Nat} {x : Nat} {v : D} (h : IsKeys fs (isNums F)) : IsKeys (putG fs (.inl (x : Nat)) v) (isNums (F ++ [x])) :=
  (h.put (x := ((x : Nat) : Int)) (v := v)).congr fun y => by
    unfold isNums
    constructor
    · rintro (⟨z, hz, rfl⟩ | rfl)
      · exact ⟨z, List.mem_append_left _ hz, rfl⟩
      · exact ⟨x, by simp, rfl⟩
    · rintro ⟨z, hz, rfl⟩
      rcases List.mem_append.mp hz with hz | hz
      · exact .inl ⟨z, hz, rfl⟩
      · simp at hz; exact .inr (by rw [hz])
theorem isNums_nat {F : List Nat} {x : Nat} : isNums F (x : Nat) ↔ x ∈ F := by
  constructor
  · rintro ⟨y, h, e⟩
    have e2 : x = y := by omega
    rw [e2]; exact h
  · exact fun h => ⟨x, h, rfl⟩
theorem putG_lenN {fs : List (Key × D)} {F : List Nat} {x : Nat} {v : D} (h : IsKeys fs (isNums F)) (hx : x ∉ F) : (putG fs (.inl (x : Nat)) v).length = fs.length + 1 := by
  have k := putG_keys (fs := fs) (k := (Sum.inl ((x : Nat) : Int) : Key)) (v := v)
  rw [if_neg (fun z => hx (isNums_nat.mp (h.isSome.mp (valG_isSome.mpr z))))] at k
  have := congrArg List.length k
  simpa using this
theorem nodup_lt {F : List Nat} {n : Nat} (h : F.Nodup) (k : ∀ x ∈ F, x < n) : F.length ≤ n := by
  have := nodup_len (m := List.range n) h fun x hx => List.mem_range.mpr (k x hx)
  rwa [List.length_range] at this
def RtI (ls : List Ln) (last : Nat) (M : Store) (F ws : List Nat) (j : Nat) (l : Ln) (i : Nat) (ρ : DEnv) (M' : Store) : Prop :=
  ∃ (fs : List (Key × D)) (F' ws' : List Nat) (o4 : Option D), ρ = [some (sayD ls), some (nD last), some (.loc M.length), some (.loc (M.length + 1)), o4] ∧ M'[M.length]? = some (some (.dk fs)) ∧ M'[M.length + 1]? = some (some (.lst (ws'.map nD))) ∧ Ext M M' ∧
        IsKeys fs (isNums F') ∧ fs.length = F'.length ∧ F'.Nodup ∧ (∀ x ∈ F', x < ls.length) ∧ (∀ x ∈ F', Rch ls last x) ∧ (∀ x ∈ F, x ∈ F') ∧ (∀ x ∈ ws', x ∈ F') ∧ (∀ x ∈ F', x = j ∨ x ∈ ws' ∨ ∀ p ∈ partsOf ls x, p ∈ F') ∧ (∀ p ∈ l.parts.take i, p ∈ F') ∧ ls.length - F'.length + ws'.length + 1 = ls.length - F.length + (ws.length + 1) ∧ ls.length - F'.length + ws'.length ≤ ls.length
theorem reached_spec {ls : List Ln} {M : Store} {last : Nat} (h : Good ls) (hlast : last < ls.length) (hz : ls.length < 9999) :
    Post (m_reached [sayD ls, nD last] M) (fun d M' => Ext M M' ∧ ∃ F : List Nat, d = .lst ((ordL F).map D.int) ∧ ∀ x, x ∈ F ↔ Rch ls last x) (fun _ _ => False) := by
  unfold m_reached b_reached
  rw [p_runD]
  refine seq_mid (RcI ls last M (ls.length - 1 + 1)) ?_ ?_
  · simp [nD, mergeG]
    refine ⟨putG [] (.inl ((last : Nat) : Int)) (.bl true), [last], [last], none, rfl, ?_, ?_, ?_, ?_, rfl, ?_, (by first | (simp; done) | (simp; omega)), (by omega)⟩
    · rw [List.getElem?_append_right (Nat.le_refl _)]; simp
    · rw [List.getElem?_append_right (by omega)]
      rw [show M.length + 1 - M.length = 1 by omega]; rfl
    · exact Ext.refl.app _
    · exact (IsKeys.nil.congr (T := isNums []) fun y => by unfold isNums; simp).putN
    · refine ⟨by simp, ?_, ?_, by simp, by simp, ?_⟩
      · intro x hx; simp at hx; omega
      · intro x hx; simp at hx; rw [hx]; exact .here
      · intro x hx; exact .inl hx
  rintro ρ M1 hI
  refine seq_mid (fun ρ M' => ∃ (fs : List (Key × D)) (F : List Nat) (o4 : Option D), ρ = [some (sayD ls), some (nD last), some (.loc M.length), some (.loc (M.length + 1)), o4] ∧ M'[M.length]? = some (some (.dk fs)) ∧ Ext M M' ∧ IsKeys fs (isNums F) ∧ Wl ls last F []) ?_ ?_
  · refine while_g (RcI ls last M) _ (by omega) hI ?_
    rintro k ρ M2 ⟨fs, F, ws, o4, rfl, g1, g2, g3, g4, g5, g6, rfl, g7⟩
    simp [locL_of g2]
    split
    · rename_i hw
      obtain ⟨ws, j, rfl⟩ := last_of (xs := ws) (by intro z; subst z; simp at hw)
      have hjF : j ∈ F := g6.sub j (by simp)
      have hj : j < ls.length := g6.lt j hjF
      have el := List.getElem?_eq_getElem hj
      generalize ls[j] = l at el
      have lk := h j l el
      have g2' : M2[M.length + 1]? = some (some (.lst (ws.map nD ++ [nD j]))) := g2.trans (by rw [List.map_append]; exact rfl)
      have hlen := (List.getElem?_eq_some_iff.mp g2).1
      simp
      refine (pop_l g2').mpr ?_
      simp [nD]
      rw [atP_nat (by simpa using hj)]
      have eg : (ls.map Ln.d)[j]'(by simpa using hj) = l.d := by
        have : (ls.map Ln.d)[j]? = some l.d := by rw [List.getElem?_map, el]; rfl
        rw [List.getElem?_eq_getElem (by simpa using hj)] at this
        exact Option.some.inj this
      rw [eg]
      simp [parts_told_eq]
      have hFn := nodup_lt g6.nd g6.lt
      refine for_rule (RtI ls last M F ws j l) (fun _ _ _ _ => trivial) ?_ ?_ ?_
      · refine ⟨fs, F, ws, o4, rfl, ?_, ?_, ?_, g4, g5, g6.nd, g6.lt, g6.sound, fun _ h => h, fun x hx => g6.sub x (List.mem_append_left _ hx), fun x hx => ?_, by simp, rfl, ?_⟩
        · rw [List.getElem?_set_ne (by omega)]; exact g1
        · rw [List.getElem?_set_self hlen]
        · exact g3.set (by omega)
        · rcases g6.closed x hx with hc | hc
          · rcases List.mem_append.mp hc with hc | hc
            · exact .inr (.inl hc)
            · simp at hc; exact .inl hc
          · exact .inr (.inr hc)
        · rw [List.length_append] at g7; omega
      · rintro i d ρ M3 hd ⟨fs, F', ws', o4, rfl, k1, k2, k3, k4, k5, k6, k7, k8, k9, k10, k11, k12, k13, k14⟩
        rw [List.getElem?_map] at hd
        obtain ⟨p, hi, rfl⟩ := Option.map_eq_some_iff.mp hd
        have hpp : p ∈ l.parts := List.mem_of_getElem? hi
        have hpl : p < ls.length := by have := lk.parts p hpp; omega
        have hFl := nodup_lt k6 k7
        have hl3 := (List.getElem?_eq_some_iff.mp k2).1
        have takeS : l.parts.take (i + 1) = l.parts.take i ++ [p] := by rw [List.take_succ, hi]; rfl
        have hfz : fs.length < 16777216 := by omega
        simp [nD]
        refine (notInU_k k1 rfl).mpr ?_
        simp
        split
        · rename_i hno
          have hpF : p ∉ F' := fun z => by
            have := k4.isSome.mpr (isNums_nat.mpr z)
            rw [hno] at this
            cases this
          have hn2 : (F' ++ [p]).Nodup := List.nodup_append.mpr ⟨k6, by simp, fun a ha b hb e => by rw [List.mem_singleton] at hb; subst hb; subst e; exact hpF ha⟩
          have hFl2 := nodup_lt (n := ls.length) hn2 fun x hx => by
            rcases List.mem_append.mp hx with hx | hx
            · exact k7 x hx
            · simp at hx; omega
          rw [List.length_append, List.length_singleton] at hFl2
          refine (setU_k k1 rfl).mpr ⟨hfz, ?_⟩
          have k2' : (M3.set M.length (some (.dk (putG fs (.inl ((p : Nat) : Int)) (.bl true)))))[M.length + 1]? = some (some (.lst (ws'.map nD))) := by rw [List.getElem?_set_ne (by omega)]; exact k2
          simp [locL_of k2']
          have hws : ws'.length < 16777216 := by omega
          refine ⟨hws, putG fs (.inl ((p : Nat) : Int)) (.bl true), F' ++ [p], ws' ++ [p], some (.int p), rfl, ?_, ?_, ?_, k4.putN, ?_, hn2, ?_, ?_, ?_, ?_, ?_, ?_, ?_, ?_⟩
          · rw [List.getElem?_set_ne (by omega), List.getElem?_set_self (by omega)]
          · rw [List.getElem?_set_self (by rw [List.length_set]; omega), List.map_append]; rfl
          · exact (k3.set (Nat.le_refl _)).set (by omega)
          · rw [putG_lenN k4 hpF, k5, List.length_append]; rfl
          · intro x hx
            rcases List.mem_append.mp hx with hx | hx
            · exact k7 x hx
            · simp at hx; omega
          · intro x hx
            rcases List.mem_append.mp hx with hx | hx
            · exact k8 x hx
            · simp at hx
              rw [hx]
              exact .step (k8 j (k9 j hjF)) (by rw [partsOf_at el]; exact hpp)
          · intro x hx; exact List.mem_append_left _ (k9 x hx)
          · intro x hx
            rcases List.mem_append.mp hx with hx | hx
            · exact List.mem_append_left _ (k10 x hx)
            · exact List.mem_append_right _ hx
          · intro x hx
            rcases List.mem_append.mp hx with hx | hx
            · rcases k11 x hx with hc | hc | hc
              · exact .inl hc
              · exact .inr (.inl (List.mem_append_left _ hc))
              · exact .inr (.inr fun q hq => List.mem_append_left _ (hc q hq))
            · exact .inr (.inl (List.mem_append_right _ hx))
          · rw [takeS]
            intro q hq
            rcases List.mem_append.mp hq with hq | hq
            · exact List.mem_append_left _ (k12 q hq)
            · exact List.mem_append_right _ hq
          · rw [List.length_append, List.length_append, List.length_singleton (a := p)]; omega
          · rw [List.length_append, List.length_append, List.length_singleton (a := p)]; omega
        · rename_i hno
          have hpF : p ∈ F' := by
            refine isNums_nat.mp (k4.isSome.mp ?_)
            cases e : valG fs (.inl ((p : Nat) : Int)) with
            | some d => rfl
            | none => exact absurd e hno
          refine ⟨fs, F', ws', some (.int p), rfl, k1, k2, k3, k4, k5, k6, k7, k8, k9, k10, k11, ?_, k13, k14⟩
          rw [takeS]
          intro q hq
          rcases List.mem_append.mp hq with hq | hq
          · exact k12 q hq
          · simp at hq; rw [hq]; exact hpF
      · rintro ρ M3 ⟨fs, F', ws', o4, rfl, k1, k2, k3, k4, k5, k6, k7, k8, k9, k10, k11, k12, k13, k14⟩
        rw [List.length_map, List.take_length] at k12
        refine ⟨_, ?_, fs, F', ws', o4, rfl, k1, k2, k3, k4, k5, ⟨k6, k7, k8, k9 _ g6.last, k10, fun x hx => ?_⟩, rfl, k14⟩
        · omega
        · rcases k11 x hx with hc | hc | hc
          · subst hc; exact .inr fun p hp => k12 p (by rw [partsOf_at el] at hp; exact hp)
          · exact .inl hc
          · exact .inr hc
    · rename_i hw
      have : ws = [] := by
        cases ws with
        | nil => rfl
        | cons a r => exact absurd (by simp) hw
      subst this
      exact ⟨fs, g1, g3, F, g4, g6⟩
  rintro ρ M2 ⟨fs, F, o4, rfl, g1, g3, g4, g6⟩
  obtain ⟨ks, e1, e2⟩ := g4.sorted (l := F) fun x => Iff.rfl
  simp [sortD_k g1, e1, e2]
  refine ⟨g3, F, rfl, fun x => ⟨g6.sound x, rch_all (S := fun x => x ∈ F) g6.last (fun j hj => ?_) x⟩⟩
  rcases g6.closed j hj with hc | hc
  · cases hc
  · exact hc
end Qk19
set_option Elab.async false
set_option linter.all false
set_option maxRecDepth 100000
set_option maxHeartbeats 4000000
set_option autoImplicit false
namespace Qk19
open PySem PySem.Spec L2 L3
open PyProof.Rows hiding St
theorem rngD_nat {n : Nat} : rngD 0 (n : Int) = (List.range n).map nD := by
  unfold rngD nD
  rw [show ((n : Int) - 0).toNat = n by omega]
  refine List.map_congr_left fun i _ => ?_
  rw [Int.zero_add]
theorem rngDn_nat {n k : Nat} (h : k < n) : (rngDn ((n : Int) - 1) (-1))[k]? = some (nD (n - 1 - k)) := by
  rw [rngDn_get (by omega)]
  unfold nD
  congr 2
  omega
/-- the marks -/
structure Mk (ls : List Ln) (last : Nat) (bs : List Bool) (k : Nat) : Prop where
  len : bs.length = ls.length
  sound : ∀ i, bs[i]? = some true → Rch ls last i
  last : bs[last]? = some true
  closed : ∀ i, ls.length ≤ i + k → bs[i]? = some true → ∀ p ∈ partsOf ls i, bs[p]? = some true
def MkI (ls : List Ln) (M : Store) (k : Nat) (ρ : DEnv) (M' : Store) : Prop :=
  ∃ (bs : List Bool) (o2 o3 : Option D), ρ = [some (sayD ls), some (.loc M.length), o2, o3] ∧ M'[M.length]? = some (some (.lst (bs.map D.bl))) ∧ Ext M M' ∧ Mk ls (ls.length - 1) bs k
def MpI (ls : List Ln) (M : Store) (k at_ : Nat) (l : Ln) (i : Nat) (ρ : DEnv) (M' : Store) : Prop :=
  ∃ (bs : List Bool) (o3 : Option D), ρ = [some (sayD ls), some (.loc M.length), some (nD at_), o3] ∧ M'[M.length]? = some (some (.lst (bs.map D.bl))) ∧ Ext M M' ∧ Mk ls (ls.length - 1) bs k ∧ bs[at_]? = some true ∧ ∀ p ∈ l.parts.take i, bs[p]? = some true
theorem flat_rep {n : Nat} {d : D} : (List.replicate n [d]).flatten = List.replicate n d := by
  induction n with
  | zero => rfl
  | succ n ih => rw [List.replicate_succ, List.flatten_cons, ih, List.replicate_succ]; rfl
theorem ixN_last {n : Nat} (h : 0 < n) : ixN n (-1) = some (n - 1) := by
  unfold ixN
  have h1 : ¬ (0 : Int) ≤ -1 := by omega
  have h2 : -(n : Int) ≤ -1 := by omega
  rw [if_neg h1, if_pos h2]
  congr 1
  omega
def RcL (ls : List Ln) (x : Nat) : Prop := Rch ls (ls.length - 1) x
theorem kept_spec {ls : List Ln} {M : Store} (h : Good ls) (h0 : ls ≠ []) (hz : ls.length < 9999) :
    Post (m__law_kept [sayD ls] M) (fun d M' => Ext M M' ∧ ∃ ats : List Nat, d = .lst (ats.map nD) ∧ ats.length ≤ ls.length ∧ ∀ x, x ∈ ats ↔ RcL ls x) (fun _ _ => False) := by
  have hn : 0 < ls.length := List.length_pos_iff.mpr h0
  unfold m__law_kept b__law_kept
  rw [p_runD]
  rw [p_sSeq]
  generalize hT : thenF _ _ _ = T
  simp [flat_rep]
  have e0 : ls.length ≤ 16777216 := by omega
  simp [e0]
  have e1 : ((ls.length : Nat) : Int) < 9223372036854775808 := by omega
  have e2 : -9223372036854775808 ≤ ((ls.length : Nat) : Int) := by omega
  simp [e1, e2]
  subst hT
  rw [← List.map_replicate, thenF_nx]
  refine seq_mid (MkI ls M 0) ?_ ?_
  · have e : (M ++ [some (MO.lst ((List.replicate ls.length false).map D.bl))])[M.length]? = some (some (.lst ((List.replicate ls.length false).map D.bl))) := List.getElem?_concat_length ..
    simp only [p_sSub, p_eUn, p_eC, p_eVar, p_negI]
    show Post (setD (.loc M.length) (.int (-1)) (.bl true) _) _ _
    rw [p_setD_l, locL_of e]
    refine ⟨ls.length - 1, by rw [List.length_map, List.length_replicate]; exact ixN_last hn, ?_⟩
    refine ⟨(List.replicate ls.length false).set (ls.length - 1) true, none, none, rfl, ?_, (Ext.refl.app _).set (Nat.le_refl _), ?_, ?_, ?_, ?_⟩
    · rw [List.getElem?_set_self (by simp), List.map_set]
    · simp
    · intro i hi
      by_cases e : ls.length - 1 = i
      · subst e; exact .here
      · rw [List.getElem?_set_ne e, List.getElem?_replicate] at hi
        split at hi <;> simp at hi
    · rw [List.getElem?_set_self (by simp; omega)]
    · intro i hi hb
      have : i < ((List.replicate ls.length false).set (ls.length - 1) true).length := (List.getElem?_eq_some_iff.mp hb).1
      rw [List.length_set, List.length_replicate] at this
      omega
  rintro ρ M1 hI
  refine seq_mid (MkI ls M ls.length) ?_ ?_
  · obtain ⟨bs, o2, o3, rfl, g1, g2, g3⟩ := hI
    simp only [p_sFor, p_rng3, p_aCons, p_aNil, p_eOp, p_eUn, p_eC, p_eVar, p_eCall, p_one, p_negI]
    simp only [List.getElem?_cons_zero, p_getV, p_len_tup, p_subI, List.length_map, p_rngW3]
    refine ⟨by simp; omega, ?_⟩
    have hl : (rngDn ((ls.length : Int) - 1) (-1)).length = ls.length := by rw [rngDn_len]; omega
    refine for_rule (MkI ls M) (fun _ _ _ _ => trivial) ⟨bs, o2, o3, rfl, g1, g2, g3⟩ ?_ ?_
    · rintro k d ρ M2 hd ⟨bs, o2, o3, rfl, g1, g2, g3⟩
      have hk : k < ls.length := by rw [← hl]; exact (List.getElem?_eq_some_iff.mp hd).1
      rw [rngDn_nat hk] at hd
      have hd := Option.some.inj hd
      subst hd
      have hat : ls.length - 1 - k < ls.length := by omega
      have el := List.getElem?_eq_getElem hat
      generalize hat_ : ls.length - 1 - k = at_ at *
      generalize ls[at_] = l at el
      have lk := h at_ l el
      have hb : at_ < bs.length := by rw [g3.len]; exact hat
      simp [nD, locL_of g1]
      rw [atP_nat (by simpa using hb)]
      simp
      split
      · rename_i hbt
        have hbt' : bs[at_]? = some true := by rw [List.getElem?_eq_getElem hb, hbt]
        rw [atP_nat (by simpa using hat)]
        have eg : (ls.map Ln.d)[at_]'(by simpa using hat) = l.d := by
          have : (ls.map Ln.d)[at_]? = some l.d := by rw [List.getElem?_map, el]; rfl
          rw [List.getElem?_eq_getElem (by simpa using hat)] at this
          exact Option.some.inj this
        rw [eg]
        simp [told_by_eq]
        refine for_rule (MpI ls M k at_ l) (fun _ _ _ _ => trivial) ⟨bs, o3, rfl, g1, g2, g3, hbt', by simp⟩ ?_ ?_
        · rintro i d ρ M3 hd ⟨bs, o3, rfl, g1, g2, g3, g4, g5⟩
          rw [List.getElem?_map] at hd
          obtain ⟨p, hi, rfl⟩ := Option.map_eq_some_iff.mp hd
          have hpp : p ∈ l.parts := List.mem_of_getElem? hi
          have hpa := lk.parts p hpp
          have hpl : p < bs.length := by have := g3.len; omega
          have takeS : l.parts.take (i + 1) = l.parts.take i ++ [p] := by rw [List.take_succ, hi]; rfl
          have mono : ∀ q, bs[q]? = some true → (bs.set p true)[q]? = some true := fun q hq => by
            by_cases e : p = q
            · subst e; rw [List.getElem?_set_self hpl]
            · rw [List.getElem?_set_ne e]; exact hq
          simp [nD, locL_of g1]
          refine ⟨p, by rw [ixN_nat hpl], bs.set p true, some (.int p), rfl, ?_, g2.set (Nat.le_refl _), ⟨by rw [List.length_set]; exact g3.len, ?_, mono _ g3.last, ?_⟩, mono _ g4, ?_⟩
          · rw [List.getElem?_set_self (List.getElem?_eq_some_iff.mp g1).1, List.map_set]
          · intro q hq
            by_cases e : p = q
            · subst e; exact .step (g3.sound _ g4) (by rw [partsOf_at el]; exact hpp)
            · rw [List.getElem?_set_ne e] at hq; exact g3.sound q hq
          · intro q hq hb r hr
            rw [List.getElem?_set_ne (by omega)] at hb
            exact mono _ (g3.closed q hq hb r hr)
          · rw [takeS]
            intro q hq
            rcases List.mem_append.mp hq with hq | hq
            · exact mono _ (g5 q hq)
            · simp at hq; rw [hq, List.getElem?_set_self hpl]
        · rintro ρ M3 ⟨bs, o3, rfl, g1, g2, g3, g4, g5⟩
          rw [List.length_map, List.take_length] at g5
          refine ⟨bs, some (nD at_), o3, rfl, g1, g2, g3.len, g3.sound, g3.last, fun i hi hb => ?_⟩
          by_cases e : i = at_
          · subst e; rw [partsOf_at el]; exact g5
          · have : i < bs.length := (List.getElem?_eq_some_iff.mp hb).1
            rw [g3.len] at this
            exact g3.closed i (by omega) hb
      · rename_i hbf
        refine ⟨bs, some (nD at_), o3, rfl, g1, g2, g3.len, g3.sound, g3.last, fun i hi hbi => ?_⟩
        by_cases e : i = at_
        · subst e
          rw [List.getElem?_eq_getElem hb] at hbi
          exact absurd (Option.some.inj hbi) hbf
        · have : i < bs.length := (List.getElem?_eq_some_iff.mp hbi).1
          rw [g3.len] at this
          exact g3.closed i (by omega) hbi
    · rintro ρ M2 hJ
      rw [hl] at hJ
      exact hJ
  intro ρ M2 hJ
  unfold MkI at hJ
  obtain ⟨bs, hJ⟩ := hJ
  obtain ⟨o2, hJ⟩ := hJ
  obtain ⟨o3, hJ⟩ := hJ
  obtain ⟨e, g1, g2, g3⟩ := hJ
  rw [e]
  simp
  refine ⟨by omega, ?_⟩
  rw [rngD_nat]
  refine lc_filA nD nD (fun i => bs[i]? == some true) trivial (List.range ls.length) [] (by simp; omega) (fun i hi => ?_) ?_
  · have hi := List.mem_range.mp hi
    have hb : i < bs.length := by rw [g3.len]; exact hi
    simp [nD, locL_of g1]
    rw [atP_nat (by simpa using hb)]
    simp [hb]
  · simp
    refine ⟨g2, _, rfl, ?_, fun x => ?_⟩
    · exact Nat.le_trans (List.length_filter_le ..) (by simp)
    · unfold RcL
      rw [List.mem_filter]
      simp only [List.mem_range, beq_iff_eq]
      constructor
      · rintro ⟨_, hx⟩; exact g3.sound x hx
      · intro hx
        have hb := rch_all (S := fun x => bs[x]? = some true) g3.last (fun j hj => g3.closed j (by omega) hj) x hx
        exact ⟨by rw [← g3.len]; exact (List.getElem?_eq_some_iff.mp hb).1, hb⟩
end Qk19
set_option Elab.async false
set_option linter.all false
set_option maxRecDepth 100000
set_option maxHeartbeats 4000000
set_option autoImplicit false
namespace Qk19
open PySem PySem.Spec L2 L3
open PyProof.Rows hiding St
def ownL (l : Ln) : List Nat := l.names ++ l.bound
/-- a name of the line with a number -/
def ownS (ls : List Ln) (j : Nat) (y : Int) : Prop := ∃ l, ls[j]? = some l ∧ ∃ x ∈ ownL l, y = (x : Nat)
def NamS (ls : List Ln) (y : Int) : Prop := ∃ j, RcL ls j ∧ ownS ls j y
theorem ownS_small {ls : List Ln} (h : Good ls) {j : Nat} {y : Int} (k : ownS ls j y) : 0 ≤ y ∧ y < 4 := by
  obtain ⟨l, el, x, hx, rfl⟩ := k
  have : x < 4 := by
    rcases List.mem_append.mp hx with hx | hx
    · exact (h j l el).names x hx
    · exact (h j l el).bound x hx
  omega
theorem say_at {ls : List Ln} {j : Nat} {l : Ln} {P : D → Prop} (el : ls[j]? = some l) : AtP (ls.map Ln.d) ((j : Nat) : Int) P ↔ P l.d := by
  have hj : j < ls.length := (List.getElem?_eq_some_iff.mp el).1
  rw [atP_nat (by simpa using hj)]
  have eg : (ls.map Ln.d)[j]'(by simpa using hj) = l.d := by
    have : (ls.map Ln.d)[j]? = some l.d := by rw [List.getElem?_map, el]; rfl
    rw [List.getElem?_eq_getElem (by simpa using hj)] at this
    exact Option.some.inj this
  rw [eg]
def NmI (ls : List Ln) (M : Store) (F : List Nat) (k : Nat) (ρ : DEnv) (M' : Store) : Prop :=
  ∃ (fs : List (Key × D)) (o2 o3 o4 : Option D), ρ = [some (sayD ls), some (.loc M.length), o2, o3, o4] ∧ M'[M.length]? = some (some (.dk fs)) ∧ Ext M M' ∧ IsKeys fs fun y => ∃ x : Int, x ∈ (ordL F).take k ∧ ∃ j : Nat, x = (j : Nat) ∧ ownS ls j y
noncomputable abbrev namesBody : DEnv → Py Fl :=
    (sSeq (sSet 3 (eOp ixD (eVar 0) (eVar 2)))
  (sSeq (sDrop (eMt "dict" updDk (eVar 1) (aCons (eDc fdF (dcAll [4] (iSeq wkA (eCall (nargs 1 m_names_told) (aCons (eVar 3) aNil))) (gSet 4) tYesD (eVar 4) (eC (.bl true)))) aNil)))
  (sIf (eTest (eOp (eqS false) (eOp ixD (eVar 3) (eC (.int 0))) (eC (.str (PySem.Str.ofString "many")))))
    (sSubU (eVar 1) (eOp ixD (eVar 3) (eC (.int 1))) (eC (.bl true)))
    sNext)))
theorem names_turn {ls : List Ln} {M M1 : Store} {j : Nat} {fs : List (Key × D)} {o3 o4 : Option D} {S : Int → Prop} (h : Good ls) (hj : j < ls.length) (g1 : M1[M.length]? = some (some (.dk fs))) (g2 : Ext M M1) (g3 : IsKeys fs S) (b : ∀ y, S y → 0 ≤ y ∧ y < 4) :
    Post (namesBody [some (sayD ls), some (.loc M.length), some (nD j), o3, o4] M1) (fun r M' => ∃ fs o2 o3 o4, r = .nx [some (sayD ls), some (.loc M.length), o2, o3, o4] ∧ M'[M.length]? = some (some (.dk fs)) ∧ Ext M M' ∧ IsKeys fs fun y => S y ∨ ownS ls j y) (fun _ _ => False) := by
  have el := List.getElem?_eq_getElem hj
  generalize ls[j] = l at el
  have lk := h j l el
  have hlen := (List.getElem?_eq_some_iff.mp g1).1
  have hf4 := g3.len b
  refine seq_mid (fun ρ M' => ρ = [some (sayD ls), some (.loc M.length), some (nD j), some l.d, o4] ∧ M' = M1) ?_ ?_
  · simp [nD]
    rw [say_at el]
  rintro ρ M2 ⟨rfl, e⟩
  rw [e]
  clear e M2
  refine seq_mid (fun ρ M' => ∃ fs, ρ = [some (sayD ls), some (.loc M.length), some (nD j), some l.d, o4] ∧ M' = M1.set M.length (some (.dk fs)) ∧ IsKeys fs fun y => S y ∨ ∃ x ∈ l.names, y = (x : Nat)) ?_ ?_
  · simp [locK_of g1, names_told_eq]
    refine dc_map nD (fun x => .inl ((x : Nat) : Int)) (fun _ => .bl true) trivial l.names [] ?_ (fun x hx => ?_) ?_
    · have := lk.nlen; simp; omega
    · simp [nD]
    · have hk : IsKeys (l.names.foldl (fun acc x => putG acc (.inl ((x : Nat) : Int)) (.bl true)) []) fun y => ∃ x ∈ l.names, y = (x : Nat) :=
        (IsKeys.nil.fold l.names (f := fun x => ((x : Nat) : Int)) (v := .bl true)).congr fun y => by simp
      have hg4 := hk.len fun y hy => by
        obtain ⟨x, hx, rfl⟩ := hy
        have := lk.names x hx; omega
      simp [locK_of g1]
      exact ⟨by omega, _, rfl, g3.merge hk⟩
  rintro ρ M2 ⟨fs, rfl, e, g4⟩
  rw [e]
  clear e M2
  have g5 : (M1.set M.length (some (.dk fs)))[M.length]? = some (some (.dk fs)) := List.getElem?_set_self hlen
  have hf5 := g4.len fun y hy => by
    rcases hy with hy | ⟨x, hx, rfl⟩
    · exact b y hy
    · have := lk.names x hx; omega
  have plain : l.bound = [] → IsKeys fs fun y => S y ∨ ownS ls j y := fun e => g4.congr fun y => by
    unfold ownS
    rw [el]
    simp [ownL, e]
  cases l with
  | many i t p =>
    simp [Ln.d, ofString_inj, nD]
    refine (setU_k g5 rfl).mpr ⟨by rw [L3.sizeLine_eq]; omega, ?_⟩
    refine ⟨putG fs (.inl ((i : Nat) : Int)) (.bl true), by rw [List.getElem?_set_self (by rw [List.length_set]; exact hlen)], (g2.set (Nat.le_refl _)).set (Nat.le_refl _), ?_⟩
    refine (g4.put (x := ((i : Nat) : Int))).congr fun y => ?_
    unfold ownS
    rw [el]
    simp [ownL, Ln.names, Ln.bound]
  | _ =>
    simp [Ln.d, ofString_inj]
    exact ⟨fs, g5, g2.set (Nat.le_refl _), plain rfl⟩
theorem names_spec {ls : List Ln} {M : Store} (h : Good ls) (h0 : ls ≠ []) (hz : ls.length < 9999) :
    Post (m_names [sayD ls] M) (fun d M' => Ext M M' ∧ ∃ ks : List Int, ks.Nodup ∧ (∀ y, y ∈ ks ↔ NamS ls y) ∧ d = .tup ((sortL ks).map D.int)) (fun _ _ => False) := by
  have hn : 0 < ls.length := List.length_pos_iff.mpr h0
  unfold m_names b_names
  simp [p_runD, check_eq h h0 (by omega)]
  have e : ((ls.length : Int) - 1) = ((ls.length - 1 : Nat) : Int) := by omega
  rw [e]
  refine (reached_spec (M := M ++ [some (.dk [])]) (last := ls.length - 1) h (by omega) hz).use ?_
  rintro d M1 ⟨x1, F, rfl, hF⟩
  simp
  refine for_rule (NmI ls M F) (fun _ _ _ _ => trivial) ?_ ?_ ?_
  · exact ⟨[], none, none, none, rfl, x1.at_ (List.getElem?_concat_length ..), (Ext.refl.app _).trans x1, IsKeys.nil.congr fun y => by simp⟩
  · intro k d ρ M2 hd hI
    unfold NmI at hI
    obtain ⟨fs, o2, o3, o4, rfl, g1, g2, g3⟩ := hI
    rw [List.getElem?_map] at hd
    obtain ⟨x, hx, rfl⟩ := Option.map_eq_some_iff.mp hd
    have hxm : x ∈ ordL F := List.mem_of_getElem? hx
    obtain ⟨j, hj, rfl⟩ := mem_ordL.mp hxm
    have hjl := (hF j).mp hj |>.lt h (by omega)
    rw [p_gSet]
    refine (names_turn h hjl g1 g2 g3 fun y hy => ?_).use ?_
    · obtain ⟨_, _, j, _, hy⟩ := hy
      exact ownS_small h hy
    · rintro r M3 ⟨fs, o2, o3, o4, rfl, k1, k2, k3⟩
      refine ⟨fs, o2, o3, o4, rfl, k1, k2, k3.congr fun y => ?_⟩
      rw [List.take_succ, hx]
      constructor
      · rintro (⟨x, hx, j', e, hy⟩ | hy)
        · exact ⟨x, List.mem_append_left _ hx, j', e, hy⟩
        · exact ⟨_, List.mem_append_right _ (by simp), j, rfl, hy⟩
      · rintro ⟨x, hx, j', e, hy⟩
        rcases List.mem_append.mp hx with hx | hx
        · exact .inl ⟨x, hx, j', e, hy⟩
        · simp at hx
          have : j' = j := by omega
          subst this
          exact .inr hy
  · intro ρ M2 hI
    unfold NmI at hI
    obtain ⟨fs, o2, o3, o4, rfl, g1, g2, ks, k1, k2, k3⟩ := hI
    rw [List.length_map, List.take_length] at k3
    simp [sortD_k g1, k1]
    refine ⟨g2, ks, k2, fun y => ?_, rfl⟩
    rw [k3]
    unfold NamS
    constructor
    · rintro ⟨x, hx, j, rfl, hy⟩
      obtain ⟨j', hj', e⟩ := mem_ordL.mp hx
      have : j = j' := by omega
      subst this
      exact ⟨j, (hF j).mp hj', hy⟩
    · rintro ⟨j, hj, hy⟩
      exact ⟨(j : Nat), mem_ordL.mpr ⟨j, (hF j).mpr hj, rfl⟩, j, rfl, hy⟩
def LnI (ls : List Ln) (M : Store) (ats : List Nat) (k : Nat) (ρ : DEnv) (M' : Store) : Prop :=
  ∃ (ns : List Int) (o2 o3 : Option D), ρ = [some (sayD ls), some (.loc M.length), o2, o3] ∧ M'[M.length]? = some (some (.lst (ns.map D.int))) ∧ Ext M M' ∧ ns.length ≤ 2 * k ∧ ∀ y, y ∈ ns ↔ ∃ j : Nat, j ∈ ats.take k ∧ ownS ls j y
theorem law_names_spec {ls : List Ln} {M : Store} (h : Good ls) (h0 : ls ≠ []) (hz : ls.length < 9999) :
    Post (m__law_names_in [sayD ls] M) (fun d M' => Ext M M' ∧ ∃ ks : List Int, ks.Nodup ∧ (∀ y, y ∈ ks ↔ NamS ls y) ∧ d = .tup ((sortL ks).map D.int)) (fun _ _ => False) := by
  have hn : 0 < ls.length := List.length_pos_iff.mpr h0
  unfold m__law_names_in b__law_names_in
  simp [p_runD]
  refine (kept_spec (M := M ++ [some (.lst [])]) h h0 hz).use ?_
  rintro d M1 ⟨x1, ats, rfl, hal, hF⟩
  simp
  refine for_rule (LnI ls M ats) (fun _ _ _ _ => trivial) ?_ ?_ ?_
  · unfold LnI
    exact ⟨[], none, none, rfl, x1.at_ (List.getElem?_concat_length ..), (Ext.refl.app _).trans x1, by simp, fun y => by simp⟩
  · intro k d ρ M2 hd hI
    unfold LnI at hI
    obtain ⟨ns, o2, o3, rfl, g1, g2, g3, g4⟩ := hI
    rw [List.getElem?_map] at hd
    obtain ⟨j, hx, rfl⟩ := Option.map_eq_some_iff.mp hd
    have hk : k < ats.length := (List.getElem?_eq_some_iff.mp hx).1
    have hjm : j ∈ ats := List.mem_of_getElem? hx
    have hjl := Rch.lt h (by omega) (show Rch ls (ls.length - 1) j from (hF j).mp hjm)
    have hlen := (List.getElem?_eq_some_iff.mp g1).1
    have el := List.getElem?_eq_getElem hjl
    generalize ls[j] = l at el
    have fin : ∀ zs : List Nat, (∀ x, x ∈ zs ↔ x ∈ ownL l) → zs.length ≤ 2 → LnI ls M ats (k + 1) [some (sayD ls), some (.loc M.length), some (nD j), some l.d] (M2.set M.length (some (.lst (ns.map D.int ++ zs.map nD)))) := fun zs hzs hzl => by
      refine ⟨ns ++ zs.map Int.ofNat, _, _, rfl, ?_, g2.set (Nat.le_refl _), by rw [List.length_append, List.length_map]; omega, fun y => ?_⟩
      · rw [List.getElem?_set_self hlen, List.map_append, List.map_map]; rfl
      · rw [List.mem_append, g4, List.take_succ, hx]
        constructor
        · rintro (⟨j', hj', hy⟩ | hy)
          · exact ⟨j', List.mem_append_left _ hj', hy⟩
          · obtain ⟨x, hx, rfl⟩ := List.mem_map.mp hy
            exact ⟨j, List.mem_append_right _ (by simp), l, el, x, (hzs x).mp hx, rfl⟩
        · rintro ⟨j', hj', hy⟩
          rcases List.mem_append.mp hj' with hj' | hj'
          · exact .inl ⟨j', hj', hy⟩
          · simp at hj'
            subst hj'
            obtain ⟨l', el', x, hx, rfl⟩ := hy
            rw [el] at el'; cases el'
            exact .inr (List.mem_map.mpr ⟨x, (hzs x).mpr hx, rfl⟩)
    have f1 := fin (ownL l) (fun x => Iff.rfl)
    rw [p_gSet]
    simp [nD]
    rw [say_at el]
    have b1 : ns.length ≤ 16777216 - 2 := by omega
    cases l <;> (simp [Ln.d, ofString_inj, mergeD, putD, valG, L3.cutD, HT.sIx, locL_of g1]; refine ⟨by omega, ?_⟩; simp [ownL, Ln.names, Ln.bound, nD, Ln.d] at f1; exact f1)
  · intro ρ M2 hI
    unfold LnI at hI
    obtain ⟨ns, o2, o3, rfl, g1, g2, g3, g4⟩ := hI
    rw [List.length_map, List.take_length] at g4
    have hm : ∀ y, y ∈ ns ↔ NamS ls y := fun y => by
      rw [g4]
      unfold NamS
      exact ⟨fun ⟨j, hj, hy⟩ => ⟨j, (hF j).mp hj, hy⟩, fun ⟨j, hj, hy⟩ => ⟨j, (hF j).mpr hj, hy⟩⟩
    have hfew : (dd ns).length ≤ 4 := few fun y hy => by
      obtain ⟨j, hj, hy⟩ := (hm y).mp hy
      exact ownS_small h hy
    simp
    refine (sortSet_l g1).mpr ?_
    simp
    exact ⟨by omega, g2, dd ns, dd_nodup _, fun y => by rw [dd_mem]; exact hm y, rfl⟩
theorem names_same {ls : List Ln} {a b : List Int} (ha : a.Nodup) (hb : b.Nodup) (h : ∀ y, y ∈ a ↔ NamS ls y) (k : ∀ y, y ∈ b ↔ NamS ls y) : sortL a = sortL b := sortL_ext ha hb fun y => (h y).trans (k y).symm
end Qk19
set_option Elab.async false
set_option linter.all false
set_option maxRecDepth 100000
set_option maxHeartbeats 4000000
set_option autoImplicit false
namespace Qk19
open PySem PySem.Spec L2 L3
open PyProof.Rows hiding St
section
variable {M : Store} {n : Nat}
theorem any_all {xs : List D} (P : D → Prop) (h : Pot n M) (h0 : xs ≠ []) (h1 : xs.length < 1073741824) (hP : ∀ d ∈ xs, P d) : Post (m__law_any [.loc n, .lst xs] M) (fun d M' => Pot n M' ∧ P d) (fun _ _ => False) :=
  (any_spec h h0 h1).use fun d M' z => ⟨z.1, hP d z.2⟩
def IntB (a b : Int) (d : D) : Prop := ∃ i, d = .int i ∧ a ≤ i ∧ i ≤ b
@[simp] theorem intB_int {a b i : Int} : IntB a b (.int i) ↔ a ≤ i ∧ i ≤ b := ⟨fun ⟨j, e, h⟩ => by cases e; exact h, fun h => ⟨i, rfl, h⟩⟩
def LnP (n k : Nat) (d : D) (M' : Store) : Prop := Pot n M' ∧ ∃ l, LOk k l ∧ d = l.d
theorem nat_of {i : Int} (h : 0 ≤ i) : ∃ k : Nat, i = (k : Nat) := Int.eq_ofNat_of_zero_le h
theorem line_of_spec {k : Nat} {most deeper : Int} (h : Pot n M) (h1 : 0 < most) (h2 : most ≤ 4) : Post (m__law_line_of [.loc n, .int (k : Nat), .int most, .int deeper] M) (LnP n k) (fun _ _ => False) := by
  unfold m__law_line_of b__law_line_of
  simp [p_runD]
  refine (draw_spec (by assumption) (by omega) (by omega)).use ?_
  rintro _ M1 ⟨p1, i, rfl, _, _⟩
  try simp
  refine (draw_spec (by assumption) (by omega) (by omega)).use ?_
  rintro _ M2 ⟨p2, j, rfl, _, _⟩
  try simp
  refine (draw_spec (by assumption) (by omega) (by omega)).use ?_
  rintro _ M3 ⟨p3, kind, rfl, _, _⟩
  try simp
  obtain ⟨i, rfl⟩ := nat_of (i := i) (by omega)
  obtain ⟨j, rfl⟩ := nat_of (i := j) (by omega)
  have plain : ∀ M4, Pot n M4 → (if kind < 4 then
      Post (m__law_draw [D.loc n, D.int 10] M4)
        (fun x M1 =>
          Post (m__law_any [D.loc n, D.lst [D.int 0, D.int 0, D.int 1, D.int 1, x]] M1)
            (fun x M1 => LnP n k (D.tup [D.str (Str.ofString "hue"), D.int i, x]) M1)
            fun x x_1 => False)
        fun x x_1 => False
    else
      if kind < 6 then LnP n k (D.tup [D.str (Str.ofString "same"), D.int i, D.int j]) M4
      else
        Post (m__law_draw [D.loc n, D.int 4] M4)
          (fun x M1 =>
            Post (m__law_any [D.loc n, D.lst [D.int 0, D.int 0, D.int 0, D.int 1, x]] M1)
              (fun x M1 =>
                LnP n k (D.tup [D.str (Str.ofString "tie"), x, D.int i, D.int j]) M1)
              fun x x_1 => False)
          fun x x_1 => False) := by
    intro M4 p4
    split
    · refine (draw_spec (by assumption) (by omega) (by omega)).use ?_
      rintro _ M5 ⟨p5, u, rfl, _, _⟩
      refine (any_all (IntB 0 9) (by assumption) (by simp) (by simp) (by simp; omega)).use ?_
      rintro _ M6 ⟨p6, v, rfl, _, _⟩
      obtain ⟨v, rfl⟩ := nat_of (i := v) (by omega)
      exact ⟨p6, .hue i v, .hue (by omega) (by omega), rfl⟩
    split
    · exact ⟨p4, .same i j, .same (by omega) (by omega), rfl⟩
    · refine (draw_spec (by assumption) (by omega) (by omega)).use ?_
      rintro _ M5 ⟨p5, u, rfl, _, _⟩
      refine (any_all (IntB 0 3) (by assumption) (by simp) (by simp) (by simp; omega)).use ?_
      rintro _ M6 ⟨p6, v, rfl, _, _⟩
      obtain ⟨v, rfl⟩ := nat_of (i := v) (by omega)
      exact ⟨p6, .tie v i j, .tie (by omega) (by omega) (by omega), rfl⟩
  split
  · exact plain M3 p3
  rename_i hk0
  refine (draw_spec (by assumption) (by omega) (by omega)).use ?_
  rintro _ M4 ⟨p4, u, rfl, _, _⟩
  try simp
  split
  · exact plain M4 p4
  refine (draw_spec (by assumption) (by omega) (by omega)).use ?_
  rintro _ M5 ⟨p5, v, rfl, _, _⟩
  try simp
  have near : ∃ w : Nat, (if v < (k : Int) - 1 then (k : Int) - 1 - v else 0) = (w : Nat) ∧ w < k := by
    split
    · exact ⟨((k : Int) - 1 - v).toNat, by omega, by omega⟩
    · exact ⟨0, rfl, by omega⟩
  obtain ⟨w, hw, hwk⟩ := near
  try rw [hw]
  split
  · exact ⟨p5, .not w, .not hwk, rfl⟩
  split
  · refine (any_all (IntB 0 3) (by assumption) (by simp) (by simp) (by simp)).use ?_
    rintro _ M6 ⟨p6, c, rfl, _, _⟩
    try simp
    refine ⟨by omega, ?_⟩
    refine lc_draw (Pot n) (fun _ d => ∃ p : Nat, d = nD p ∧ p < k) (fun _ _ => trivial) (by rw [rngD_len]; simp; omega) p6 (fun q d M hd hM => ?_) ?_
    · simp
      refine (draw_spec hM (by omega) (by omega)).use ?_
      rintro _ M7 ⟨p7, x, rfl, _, _⟩
      refine ⟨p7, ?_⟩
      split
      · exact ⟨((k : Int) - 1 - x).toNat, by unfold nD; congr 1; omega, by omega⟩
      · exact ⟨0, rfl, by omega⟩
    · intro zs M7 p7 hl hz
      rw [rngD_len] at hl
      have hz2 : ∀ d ∈ zs, ∃ p : Nat, d = nD p ∧ p < k := fun d hd => by
        obtain ⟨q, hq⟩ := List.getElem?_of_mem hd
        exact hz q d hq
      have typed : ∀ zs : List D, (∀ d ∈ zs, ∃ p : Nat, d = nD p ∧ p < k) → ∃ ps : List Nat, zs = ps.map nD ∧ ∀ p ∈ ps, p < k := by
        intro zs
        induction zs with
        | nil => intro _; exact ⟨[], rfl, by simp⟩
        | cons z zs ih =>
          intro h
          obtain ⟨p, rfl, hp⟩ := h z (List.mem_cons_self ..)
          obtain ⟨ps, rfl, hps⟩ := ih fun d hd => h d (List.mem_cons_of_mem _ hd)
          exact ⟨p :: ps, rfl, by simp; exact ⟨hp, hps⟩⟩
      obtain ⟨ps, rfl, hps⟩ := typed zs hz2
      rw [List.length_map] at hl
      try simp
      refine (any_spec p7 (by simp) (by simp)).use ?_
      rintro w M8 ⟨p8, hw⟩
      simp at hw
      rcases hw with rfl | rfl
      · exact ⟨p8, .all ps, .all (by omega) hps, rfl⟩
      · exact ⟨p8, .some ps, .some (by omega) hps, rfl⟩
  · refine (draw_spec (by assumption) (by omega) (by omega)).use ?_
    rintro _ M6 ⟨p6, u2, rfl, _, _⟩
    try simp
    refine (any_all (IntB 1 40) (by assumption) (by simp) (by simp) (by simp; omega)).use ?_
    rintro _ M7 ⟨p7, t, rfl, _, _⟩
    obtain ⟨t, rfl⟩ := nat_of (i := t) (by omega)
    exact ⟨p7, .many i t w, .many (by omega) (by omega) (by omega) hwk, rfl⟩
theorem typed_lines : ∀ (zs : List D) (k0 : Nat), (∀ (k : Nat) (y : D), zs[k]? = some y → ∃ l, LOk (k0 + k) l ∧ y = l.d) → ∃ ls : List Ln, zs = ls.map Ln.d ∧ ∀ (k : Nat) (l : Ln), ls[k]? = some l → LOk (k0 + k) l
  | [], k0, _ => ⟨[], rfl, fun k l e => by simp at e⟩
  | z :: zs, k0, h => by
    obtain ⟨l, hl, rfl⟩ := h 0 z rfl
    obtain ⟨ls, rfl, hls⟩ := typed_lines zs (k0 + 1) fun k y e => by
      have := h (k + 1) y (by simpa using e)
      rwa [show k0 + (k + 1) = k0 + 1 + k by omega] at this
    refine ⟨l :: ls, rfl, fun k l' e => ?_⟩
    cases k with
    | zero => simp at e; subst e; exact hl
    | succ k =>
      have := hls k l' (by simpa using e)
      rwa [show k0 + 1 + k = k0 + (k + 1) by omega] at this
def SyP (n m : Nat) (d : D) (M' : Store) : Prop := Pot n M' ∧ ∃ ls, d = sayD ls ∧ ls.length = m ∧ Good ls
theorem saying_spec {lines most deeper : Int} (h : Pot n M) (h0 : 0 ≤ lines) (h3 : lines ≤ 9000) (h1 : 0 < most) (h2 : most ≤ 4) : Post (m__law_saying [.loc n, .int lines, .int most, .int deeper] M) (SyP n lines.toNat) (fun _ _ => False) := by
  unfold m__law_saying b__law_saying
  simp [p_runD]
  refine ⟨by omega, ?_⟩
  refine lc_draw (Pot n) (fun k d => ∃ l, LOk k l ∧ d = l.d) (fun _ _ => trivial) (by rw [rngD_len]; simp; omega) h (fun k d M hd hM => ?_) ?_
  · have hk : k < (lines - 0).toNat := by rw [← rngD_len]; exact (List.getElem?_eq_some_iff.mp hd).1
    rw [rngD_get hk] at hd
    cases hd
    try simp
    exact (line_of_spec hM h1 h2).use fun d M1 z => z
  · intro zs M7 p7 hl hz
    rw [rngD_len] at hl
    obtain ⟨ls, rfl, hls⟩ := typed_lines zs 0 (by simpa using hz)
    try simp
    refine ⟨p7, ls, rfl, ?_, fun k l e => by have := hls k l e; rwa [Nat.zero_add] at this⟩
    rw [List.length_map] at hl
    omega
end
/-! as due -/
theorem deps_small {ls : List Ln} : ∀ k, ∀ v ∈ deps (ls.take k), 0 ≤ v ∧ v ≤ k
  | 0 => by intro v hv; cases hv
  | k + 1 => by
    by_cases hk : k < ls.length
    · have e := List.getElem?_eq_getElem hk
      intro v hv
      unfold deps at hv
      rw [build_take e] at hv
      rcases List.mem_append.mp hv with hv | hv
      · have := deps_small k v hv; omega
      · rw [List.mem_singleton] at hv
        subst hv
        have hb : ∀ x : Int, x ∈ (ls[k].parts.map fun p => (build depF (ls.take k))[p]?.getD (0 : Int)) → 0 ≤ x ∧ x ≤ (k : Int) := by
          intro x hx
          obtain ⟨p, _, rfl⟩ := List.mem_map.mp hx
          cases q : (build depF (ls.take k))[p]? with
          | none => show 0 ≤ (0 : Int) ∧ (0 : Int) ≤ k; omega
          | some y => exact deps_small k y (List.mem_of_getElem? q)
        have hm := (max_fold (ls[k].parts.map fun p => (build depF (ls.take k))[p]?.getD (0 : Int)) 0).1
        have : 0 ≤ ((ls[k].parts.map fun p => (build depF (ls.take k))[p]?.getD (0 : Int)).foldl (fun a b => if a < b then b else a) 0) ∧ ((ls[k].parts.map fun p => (build depF (ls.take k))[p]?.getD (0 : Int)).foldl (fun a b => if a < b then b else a) 0) ≤ k := by
          rcases List.mem_cons.mp hm with hm | hm
          · rw [hm]; omega
          · exact hb _ hm
        show 0 ≤ _ + (if ls[k].isMany = true then (1 : Int) else 0) ∧ _ + (if ls[k].isMany = true then (1 : Int) else 0) ≤ _
        generalize ((ls[k].parts.map fun p => (build depF (ls.take k))[p]?.getD (0 : Int)).foldl (fun a b => if a < b then b else a) 0) = F at *
        split <;> omega
    · rw [show ls.take (k + 1) = ls.take k by rw [List.take_of_length_le (by omega), List.take_of_length_le (by omega)]]
      intro v hv
      have := deps_small k v hv; omega
theorem ok_small {i : Int} (h0 : 0 ≤ i) (h1 : i < 10000) : okD 7 (.int i) = true := by
  show decide (i.natAbs < 10 ^ 7) = true
  have : i.natAbs < 10000 := by omega
  simp; omega
theorem okDs_ints {ns : List Int} (h : ∀ x ∈ ns, 0 ≤ x ∧ x < 4) : okDs 7 (ns.map D.int) = true := okDs_iff.mpr fun x hx => by
  obtain ⟨i, hi, rfl⟩ := List.mem_map.mp hx
  have := h i hi
  exact ok_small this.1 (by omega)
theorem depDs_ints {ns : List Int} : depDs (ns.map D.int) = 0 := Nat.le_zero.mp (depDs_le fun x hx => by
  obtain ⟨i, hi, rfl⟩ := List.mem_map.mp hx
  exact Nat.le_refl 0)
theorem wtDs_ints {ns : List Int} : wtDs 7 (ns.map D.int) ≤ 30 * ns.length := by
  have := wtDs_le (B := 7) (n := 29) (xs := ns.map D.int) fun x hx => by
    obtain ⟨i, hi, rfl⟩ := List.mem_map.mp hx
    exact Nat.le_refl 29
  rwa [List.length_map] at this
theorem tell_tup {ns : List Int} (h : ∀ x ∈ ns, 0 ≤ x ∧ x < 4) (hl : ns.length ≤ 4) : Tell (.tup (ns.map D.int)) := by
  refine ⟨7, ?_, by omega, ?_, ?_, by omega⟩
  · show okDs 7 _ = true
    exact okDs_ints h
  · show depDs (ns.map D.int) + 1 < 60
    rw [depDs_ints]; omega
  · show (7 + 3) * wtDs 7 (ns.map D.int) + 8 ≤ _
    have := wtDs_ints (ns := ns)
    omega
theorem tell_two {ns : List Int} {v : Int} (h : ∀ x ∈ ns, 0 ≤ x ∧ x < 4) (hl : ns.length ≤ 4) (h0 : 0 ≤ v) (h1 : v < 10000) : Tell (.lst [.tup (ns.map D.int), .int v]) := by
  refine ⟨7, ?_, by omega, ?_, ?_, by omega⟩
  · show (okDs 7 _ && (okD 7 (.int v) && true)) = true
    rw [okDs_ints h, ok_small h0 h1]; rfl
  · show max (depDs (ns.map D.int) + 1) (max 0 0) + 1 < 60
    rw [depDs_ints]; simp
  · show (7 + 3) * (wtDs 7 (ns.map D.int) + 1 + (29 + 1 + 0)) + 8 ≤ _
    have := wtDs_ints (ns := ns)
    omega
theorem tell_three {ns ms : List Int} {v : Int} (h : ∀ x ∈ ns, 0 ≤ x ∧ x < 4) (hl : ns.length ≤ 4) (k : ∀ x ∈ ms, 0 ≤ x ∧ x < 4) (kl : ms.length ≤ 4) (h0 : 0 ≤ v) (h1 : v < 10000) : Tell (.lst [.tup (ns.map D.int), .tup (ms.map D.int), .int v]) := by
  refine ⟨7, ?_, by omega, ?_, ?_, by omega⟩
  · show (okDs 7 _ && (okDs 7 _ && (okD 7 (.int v) && true))) = true
    rw [okDs_ints h, okDs_ints k, ok_small h0 h1]; rfl
  · show max (depDs (ns.map D.int) + 1) (max (depDs (ms.map D.int) + 1) (max 0 0)) + 1 < 60
    rw [depDs_ints, depDs_ints]; simp
  · show (7 + 3) * (wtDs 7 (ns.map D.int) + 1 + (wtDs 7 (ms.map D.int) + 1 + (29 + 1 + 0))) + 8 ≤ _
    have := wtDs_ints (ns := ns)
    have := wtDs_ints (ns := ms)
    omega
theorem ordL_small {xs : List Nat} (h : ∀ x ∈ xs, x < 4) : (∀ x ∈ ordL xs, 0 ≤ x ∧ x < 4) ∧ (ordL xs).length ≤ 4 := by
  have b : ∀ x ∈ xs.map Int.ofNat, 0 ≤ x ∧ x < 4 := fun x hx => by
    obtain ⟨y, hy, rfl⟩ := List.mem_map.mp hx
    have := h y hy
    exact ⟨Int.natCast_nonneg _, by show ((y : Nat) : Int) < 4; omega⟩
  refine ⟨fun x hx => ?_, ?_⟩
  · obtain ⟨y, hy, rfl⟩ := mem_ordL.mp hx
    have := h y hy; omega
  · unfold ordL
    rw [(sortL_perm _).length_eq]
    exact few b
theorem nam_small {ls : List Ln} {ks : List Int} (h : Good ls) (hn : ks.Nodup) (hk : ∀ y, y ∈ ks ↔ NamS ls y) : (∀ x ∈ sortL ks, 0 ≤ x ∧ x < 4) ∧ (sortL ks).length ≤ 4 := by
  have b : ∀ x ∈ ks, 0 ≤ x ∧ x < 4 := fun x hx => by
    obtain ⟨j, _, hy⟩ := (hk x).mp hx
    exact ownS_small h hy
  refine ⟨fun x hx => b x (mem_sortL.mp hx), ?_⟩
  rw [(sortL_perm _).length_eq]
  have d : ∀ x ∈ ks, x ∈ [(0 : Int), 1, 2, 3] := fun x hx => by
    have := b x hx
    have : x = 0 ∨ x = 1 ∨ x = 2 ∨ x = 3 := by omega
    simp; exact this
  exact nodup_len hn d
theorem right_spec {ls : List Ln} {M : Store} (h : Good ls) (h0 : ls ≠ []) (hz : ls.length < 9999) : Post (m__law_right [sayD ls] M) (fun d M' => Ext M M' ∧ d = .bl true) (fun _ _ => False) := by
  have hn : 0 < ls.length := List.length_pos_iff.mpr h0
  unfold m__law_right b__law_right
  simp [p_runD]
  refine (free_spec h h0 (by omega)).use ?_
  rintro d M1 ⟨x1, xs, x, e, rfl⟩
  have hx : ∀ y ∈ x, y < 4 := fun y hy => frees_small h ls.length x (by rw [List.take_length, e]; simp) y hy
  have ht : Tell (tupI x) := tell_tup (ordL_small hx).1 (ordL_small hx).2
  rw [repr_eq ht]
  try simp
  refine (law_free_in_spec h (by omega)).use ?_
  rintro d M2 ⟨x2, rfl⟩
  simp only [p_ix_lst, e]
  rw [last_at, repr_eq ht]
  try simp
  refine (names_spec h h0 hz).use ?_
  rintro d M3 ⟨x3, ks, k1, k2, rfl⟩
  try simp
  refine (depth_spec h h0 (by omega)).use ?_
  rintro d M4 ⟨x4, vs, v, e2, rfl⟩
  have hv : 0 ≤ v ∧ v ≤ ls.length := deps_small ls.length v (by rw [List.take_length, e2]; simp)
  have hks := nam_small h k1 k2
  have ht2 : Tell (.lst [.tup ((sortL ks).map D.int), .int v]) := tell_two hks.1 hks.2 hv.1 (by omega)
  rw [repr_eq ht2]
  try simp
  refine (law_names_spec h h0 hz).use ?_
  rintro d M5 ⟨x5, js, j1, j2, rfl⟩
  try simp
  refine (law_depths_spec h (by omega)).use ?_
  rintro d M6 ⟨x6, rfl⟩
  simp only [p_ix_lst, e2]
  rw [last_at, names_same j1 k1 j2 k2, repr_eq ht2]
  try simp
  exact ((((x1.trans x2).trans x3).trans x4).trans x5).trans x6
end Qk19
set_option Elab.async false
set_option linter.all false
set_option maxRecDepth 100000
set_option maxHeartbeats 4000000
set_option autoImplicit false
namespace Qk19
open PySem PySem.Spec L2 L3
open PyProof.Rows hiding St
theorem addA_l {M : Store} {n : Nat} {xs ys : List D} {Q : D → Store → Prop} {E : Exn → Store → Prop} (h : M[n]? = some (some (.lst xs))) : Post (addA (.loc n) (.lst ys) M) Q E ↔ xs.length + ys.length ≤ sizeLine ∧ Q (.lst (xs ++ ys)) M := by
  show Post (addL (.loc n) (.lst ys) M) Q E ↔ _
  unfold addL
  refine post_bnd.trans ?_
  show Post (items (.loc n) M) _ E ↔ _
  rw [p_items_loc h]
  exact post_chk
inductive Wd where
  | not | all | many | some
def Wd.s : Wd → String
  | .not => "not"
  | .all => "all"
  | .many => "many"
  | .some => "some"
def Wd.isM : Wd → Bool
  | .many => true
  | _ => false
def rowL (w : Wd) (i at_ : Nat) : Ln := match w with
  | .not => .not at_
  | .all => .all [at_, at_]
  | .many => .many i 2 at_
  | .some => .some [at_]
def rowB (w : Wd) (i j m : Nat) : List Ln := .tie 1 i j :: (List.range m).map (rowL w i)
def rowF (w : Wd) (i j m : Nat) : List Ln := rowB w i j m ++ [.hue 3 1, .all [m]]
theorem rowB_snoc {w : Wd} {i j m : Nat} : rowB w i j (m + 1) = rowB w i j m ++ [rowL w i m] := by
  unfold rowB
  rw [List.range_succ, List.map_append]
  rfl
theorem rowB_len {w : Wd} {i j m : Nat} : (rowB w i j m).length = m + 1 := by simp [rowB]
theorem rowF_len {w : Wd} {i j m : Nat} : (rowF w i j m).length = m + 3 := by simp [rowF, rowB]
theorem rowB_get {w : Wd} {i j m k : Nat} (h : k < m) : (rowB w i j m)[k + 1]? = some (rowL w i k) := by
  simp [rowB, h]
theorem rowF_getB {w : Wd} {i j m k : Nat} (h : k ≤ m) : (rowF w i j m)[k]? = (rowB w i j m)[k]? := by
  unfold rowF
  rw [List.getElem?_append_left (by rw [rowB_len]; omega)]
theorem rowF_get1 {w : Wd} {i j m : Nat} : (rowF w i j m)[m + 1]? = some (.hue 3 1) := by
  unfold rowF
  rw [List.getElem?_append_right (by rw [rowB_len]; omega), rowB_len]
  simp
theorem rowF_get2 {w : Wd} {i j m : Nat} : (rowF w i j m)[m + 2]? = some (.all [m]) := by
  unfold rowF
  rw [List.getElem?_append_right (by rw [rowB_len]; omega), rowB_len]
  rw [show m + 2 - (m + 1) = 1 by omega]
  rfl
theorem rowF_good {w : Wd} {i j m : Nat} (hi : i < 4) (hj : j < 4) : Good (rowF w i j m) := by
  intro k l e
  by_cases h0 : k = 0
  · subst h0
    rw [rowF_getB (by omega)] at e
    simp [rowB] at e
    subst e
    exact .tie (by omega) hi hj
  by_cases h1 : k ≤ m
  · obtain ⟨k, rfl⟩ : ∃ q, k = q + 1 := ⟨k - 1, by omega⟩
    rw [rowF_getB h1, rowB_get (by omega)] at e
    cases e
    cases w with
    | not => exact .not (by omega)
    | all => exact .all (by simp) (by simp)
    | many => exact .many hi (by omega) (by omega) (by omega)
    | some => exact .some (by simp) (by simp)
  by_cases h2 : k = m + 1
  · subst h2
    rw [rowF_get1] at e
    cases e
    exact .hue (by omega) (by omega)
  by_cases h3 : k = m + 2
  · subst h3
    rw [rowF_get2] at e
    cases e
    exact .all (by simp) (by simp)
  · have := (List.getElem?_eq_some_iff.mp e).1
    rw [rowF_len] at this
    omega
/-- what is free in the line with number k -/
def freeAt (w : Wd) (i j k x : Nat) : Prop := (x = i ∨ x = j) ∧ (k = 0 ∨ w.isM = false ∨ x ≠ i)
theorem rowB_free {w : Wd} {i j : Nat} : ∀ m, ∀ k, k ≤ m → ∃ xs, (frees (rowB w i j m))[k]? = some xs ∧ ∀ x, x ∈ xs ↔ freeAt w i j k x
  | 0, k, h => by
    have : k = 0 := by omega
    subst this
    refine ⟨[i, j], ?_, fun x => by simp [freeAt]⟩
    simp [frees, build, rowB, frL, Ln.names, Ln.parts, Ln.bound]
  | m + 1, k, h => by
    have e : frees (rowB w i j (m + 1)) = frees (rowB w i j m) ++ [frL (frees (rowB w i j m)) (rowL w i m)] := by
      unfold frees
      rw [rowB_snoc, build_snoc]
    have hl : (frees (rowB w i j m)).length = m + 1 := by unfold frees; rw [build_len, rowB_len]
    rw [e]
    by_cases hk : k ≤ m
    · rw [List.getElem?_append_left (by omega)]
      exact rowB_free m k hk
    · have : k = m + 1 := by omega
      subst this
      obtain ⟨ys, hy, hc⟩ := rowB_free (w := w) (i := i) (j := j) m m (Nat.le_refl _)
      rw [List.getElem?_append_right (by omega), hl, Nat.sub_self]
      refine ⟨_, rfl, fun x => ?_⟩
      rw [mem_frL]
      have hcx := hc x
      unfold freeAt at hcx ⊢
      cases w with
      | not => simp [rowL, Ln.names, Ln.parts, Ln.bound, Wd.isM, hy, hcx]
      | all => simp [rowL, Ln.names, Ln.parts, Ln.bound, Wd.isM, hy, hcx]
      | some => simp [rowL, Ln.names, Ln.parts, Ln.bound, Wd.isM, hy, hcx]
      | many =>
        simp [rowL, Ln.names, Ln.parts, Ln.bound, Wd.isM, hy, hcx]
        exact fun a _ => .inr a
theorem rowB_deps {w : Wd} {i j : Nat} : ∀ m, ∀ k, k ≤ m → (deps (rowB w i j m))[k]? = some (if w.isM = true then (k : Int) else 0)
  | 0, k, h => by
    have : k = 0 := by omega
    subst this
    simp [deps, build, rowB, depF, Ln.parts, Ln.isMany]
  | m + 1, k, h => by
    have e : deps (rowB w i j (m + 1)) = deps (rowB w i j m) ++ [depF (deps (rowB w i j m)) (rowL w i m)] := by
      unfold deps
      rw [rowB_snoc, build_snoc]
    have hl : (deps (rowB w i j m)).length = m + 1 := by unfold deps; rw [build_len, rowB_len]
    rw [e]
    by_cases hk : k ≤ m
    · rw [List.getElem?_append_left (by omega)]
      exact rowB_deps m k hk
    · have : k = m + 1 := by omega
      subst this
      have ih := rowB_deps (w := w) (i := i) (j := j) m m (Nat.le_refl _)
      rw [List.getElem?_append_right (by omega), hl, Nat.sub_self]
      show some _ = _
      congr 1
      unfold depF
      cases w with
      | not => simp [rowL, Ln.parts, Ln.isMany, ih, Wd.isM]
      | all => simp [rowL, Ln.parts, Ln.isMany, ih, Wd.isM]
      | some => simp [rowL, Ln.parts, Ln.isMany, ih, Wd.isM]
      | many =>
        simp [rowL, Ln.parts, Ln.isMany, ih, Wd.isM]
        try omega
theorem rowF_frees {w : Wd} {i j m : Nat} : ∃ xs x, frees (rowF w i j m) = xs ++ [x] ∧ ∀ y, y ∈ x ↔ freeAt w i j m y := by
  obtain ⟨ys, hy, hc⟩ := rowB_free (w := w) (i := i) (j := j) m m (Nat.le_refl _)
  have e : frees (rowF w i j m) = (frees (rowB w i j m) ++ [frL (frees (rowB w i j m)) (.hue 3 1)]) ++ [frL (frees (rowB w i j m) ++ [frL (frees (rowB w i j m)) (.hue 3 1)]) (.all [m])] := by
    unfold frees rowF
    rw [show rowB w i j m ++ [Ln.hue 3 1, .all [m]] = rowB w i j m ++ [Ln.hue 3 1] ++ [.all [m]] by simp, build_snoc, build_snoc]
  refine ⟨_, _, e, fun y => ?_⟩
  have hl : (frees (rowB w i j m)).length = m + 1 := by unfold frees; rw [build_len, rowB_len]
  rw [mem_frL]
  simp [Ln.names, Ln.parts, Ln.bound]
  rw [List.getElem?_append_left (by omega), hy]
  simp [hc]
theorem rowF_deps {w : Wd} {i j m : Nat} : ∃ xs, deps (rowF w i j m) = xs ++ [if w.isM = true then (m : Int) else 0] := by
  have ih := rowB_deps (w := w) (i := i) (j := j) m m (Nat.le_refl _)
  have e : deps (rowF w i j m) = (deps (rowB w i j m) ++ [depF (deps (rowB w i j m)) (.hue 3 1)]) ++ [depF (deps (rowB w i j m) ++ [depF (deps (rowB w i j m)) (.hue 3 1)]) (.all [m])] := by
    unfold deps rowF
    rw [show rowB w i j m ++ [Ln.hue 3 1, .all [m]] = rowB w i j m ++ [Ln.hue 3 1] ++ [.all [m]] by simp, build_snoc, build_snoc]
  refine ⟨deps (rowB w i j m) ++ [depF (deps (rowB w i j m)) (.hue 3 1)], e.trans ?_⟩
  have hl : (deps (rowB w i j m)).length = m + 1 := by unfold deps; rw [build_len, rowB_len]
  congr 2
  show (([m].map fun p => _).foldl _ 0) + (0 : Int) = _
  simp only [List.map_cons, List.map_nil, List.foldl_cons, List.foldl_nil]
  rw [List.getElem?_append_left (by omega), ih]
  cases h : w.isM
  · simp [h]
  · simp [h]
    omega
theorem rowF_rch {w : Wd} {i j m : Nat} : ∀ k, k ≤ m → Rch (rowF w i j m) (m + 2) (m - k)
  | 0, _ => .step .here (by rw [partsOf_at rowF_get2]; simp [Ln.parts])
  | k + 1, h => by
    have ih := rowF_rch (w := w) (i := i) (j := j) (m := m) k (by omega)
    obtain ⟨q, hq⟩ : ∃ q, m - k = q + 1 := ⟨m - k - 1, by omega⟩
    refine .step ih ?_
    rw [hq, partsOf_at ((rowF_getB (by omega)).trans (rowB_get (by omega))), show m - (k + 1) = q by omega]
    cases w <;> simp [rowL, Ln.parts]
theorem rowF_rchs {w : Wd} {i j m : Nat} : ∀ x, Rch (rowF w i j m) (m + 2) x → x = m + 2 ∨ x ≤ m := by
  refine rch_all (.inl rfl) fun q hq p hp => ?_
  rcases hq with rfl | hq
  · rw [partsOf_at rowF_get2] at hp
    simp [Ln.parts] at hp
    omega
  · by_cases h0 : q = 0
    · subst h0
      rw [partsOf_at ((rowF_getB (by omega)).trans (show (rowB w i j m)[0]? = some (.tie 1 i j) by simp [rowB]))] at hp
      simp [Ln.parts] at hp
    · obtain ⟨q, rfl⟩ : ∃ r, q = r + 1 := ⟨q - 1, by omega⟩
      rw [partsOf_at ((rowF_getB (by omega)).trans (rowB_get (by omega)))] at hp
      cases w <;> simp [rowL, Ln.parts] at hp <;> omega
theorem rowF_names {w : Wd} {i j m : Nat} {y : Int} : NamS (rowF w i j m) y ↔ y = (i : Nat) ∨ y = (j : Nat) := by
  unfold NamS RcL
  rw [rowF_len, show m + 3 - 1 = m + 2 by omega]
  constructor
  · rintro ⟨q, hq, l, el, x, hx, rfl⟩
    rcases rowF_rchs q hq with rfl | hq
    · rw [rowF_get2] at el
      cases el
      simp [ownL, Ln.names, Ln.bound] at hx
    · by_cases h0 : q = 0
      · subst h0
        rw [rowF_getB (by omega), show (rowB w i j m)[0]? = some (.tie 1 i j) by simp [rowB]] at el
        cases el
        simp [ownL, Ln.names, Ln.bound] at hx
        omega
      · obtain ⟨q, rfl⟩ : ∃ r, q = r + 1 := ⟨q - 1, by omega⟩
        rw [rowF_getB (by omega), rowB_get (by omega)] at el
        cases el
        cases w <;> simp [rowL, ownL, Ln.names, Ln.bound] at hx
        omega
  · have h0 := rowF_rch (w := w) (i := i) (j := j) (m := m) m (Nat.le_refl _)
    rw [Nat.sub_self] at h0
    have e0 : (rowF w i j m)[0]? = some (.tie 1 i j) := (rowF_getB (by omega)).trans (by simp [rowB])
    rintro (rfl | rfl)
    · exact ⟨0, h0, _, e0, i, by simp [ownL, Ln.names], rfl⟩
    · exact ⟨0, h0, _, e0, j, by simp [ownL, Ln.names], rfl⟩
end Qk19
set_option Elab.async false
set_option linter.all false
set_option maxRecDepth 100000
set_option maxHeartbeats 4000000
set_option autoImplicit false
namespace Qk19
open PySem PySem.Spec L2 L3
open PyProof.Rows hiding St
section
variable {M : Store} {n : Nat}
theorem ixU_ds {fs : List (Key × D)} {z : Str} {Q : D → Store → Prop} {E : Exn → Store → Prop} : Post (ixU (.dk fs) (.str z) M) Q E ↔ SomeP (valG fs (.inr z)) fun v => Q v M := ixU_d rfl
def RwI (w : Wd) (i j n : Nat) (M : Store) (rest : DEnv) (k : Nat) (ρ : DEnv) (M' : Store) : Prop :=
  ∃ o6 o7, ρ = [some (.loc n)] ++ rest ++ [some (.loc M.length), o6, o7, none, none, none, none] ∧ M'[M.length]? = some (some (.lst ((rowB w i j k).map Ln.d))) ∧ Ext M M'
theorem due_ints {ns : List Int} {a : Nat} {M : Store} {ρ : DEnv} {w : Wd} {QL : List D → Store → Prop} {E : Exn → Store → Prop} (h2 : ρ[2]? = some (some (.str (Str.ofString w.s)))) (h3 : ρ[3]? = some (some (nD a))) (h10 : 10 < ρ.length) (hl : ns.length ≤ 100)
    (q : QL ((ns.filter fun x : Int => !w.isM || !decide (x = ((a : Nat) : Int))).map D.int) M) :
    Post (lcD (fun _ => True) (gSet 10) (tOrD (eTest (eOp (eqS true) (eVar 2) (eC (.str (PySem.Str.ofString "many"))))) (eTest (eOp (eqS true) (eVar 10) (eVar 3)))) (eVar 10) ρ (ns.map D.int) [] M) QL E := by
  refine lc_filA D.int D.int (fun x : Int => !w.isM || !decide (x = ((a : Nat) : Int))) trivial ns [] (by simp; omega) (fun x hx => ?_) (by simpa using q)
  have e2 : (ρ.set 10 (some (.int x)))[2]? = some (some (.str (Str.ofString w.s))) := by rw [List.getElem?_set_ne (by omega)]; exact h2
  have e3 : (ρ.set 10 (some (.int x)))[3]? = some (some (nD a)) := by rw [List.getElem?_set_ne (by omega)]; exact h3
  have e10 : (ρ.set 10 (some (.int x)))[10]? = some (some (.int x)) := List.getElem?_set_self h10
  simp only [p_gSet, p_tOr, p_eTest, p_eOp, p_eVar, p_eC, e2, e3, e10, p_getV, nD]
  cases w <;> simp [Wd.s, Wd.isM, ofString_inj]
theorem row_spec (h : Pot n M) : Post (m__law_row_right [.loc n] M) (fun d M' => Pot n M' ∧ d = .bl true) (fun _ _ => False) := by
  unfold m__law_row_right b__law_row_right
  simp only [p_runD]
  rw [p_sSeq]
  generalize hT : thenF _ _ _ = T
  try simp
  refine (draw_spec (by assumption) (by omega) (by omega)).use ?_
  rintro _ M1 ⟨p1, mm, rfl, hm0, hm1⟩
  try simp
  refine (any_all (fun d => ∃ w : Wd, d = .str (Str.ofString w.s)) (by assumption) (by simp) (by simp) ?_).use ?_
  · intro d hd
    simp at hd
    rcases hd with rfl | rfl | rfl | rfl
    · exact ⟨.not, rfl⟩
    · exact ⟨.all, rfl⟩
    · exact ⟨.many, rfl⟩
    · exact ⟨.some, rfl⟩
  rintro _ M2 ⟨p2, w, rfl⟩
  try simp
  subst hT
  rw [thenF_nx, p_sSeq]
  generalize hT : thenF _ _ _ = T
  try simp
  refine (draw_spec (by assumption) (by omega) (by omega)).use ?_
  rintro _ M3 ⟨p3, i, rfl, hi0, hi1⟩
  try simp
  refine (draw_spec (by assumption) (by omega) (by omega)).use ?_
  rintro _ M4 ⟨p4, j, rfl, hj0, hj1⟩
  try simp
  subst hT
  obtain ⟨i, rfl⟩ := nat_of hi0
  obtain ⟨j, rfl⟩ := nat_of hj0
  obtain ⟨m, hm⟩ : ∃ m : Nat, 100 + mm = (m : Nat) := nat_of (by omega)
  rw [hm]
  have hml : m < 3000 := by omega
  have hm100 : 100 ≤ m := by omega
  clear hm p1 p2 p3 M1 M2 M3
  have hi : i < 4 := by omega
  have hj : j < 4 := by omega
  rw [thenF_nx, p_sSeq]
  generalize hT : thenF _ _ _ = T
  try simp
  subst hT
  rw [thenF_nx]
  refine seq_mid (fun ρ M' => RwI w i j n M4 [some (nD m), some (.str (Str.ofString w.s)), some (nD i), some (nD j)] m ρ M') ?_ ?_
  · simp
    refine ⟨by omega, ?_⟩
    rw [rngD_nat]
    refine for_rule (RwI w i j n M4 [some (nD m), some (.str (Str.ofString w.s)), some (nD i), some (nD j)]) (fun _ _ _ _ => trivial) ?_ ?_ ?_
    · unfold RwI
      exact ⟨none, none, rfl, by rw [List.getElem?_concat_length]; rfl, Ext.refl.app _⟩
    · intro k d ρ M5 hd hI
      unfold RwI at hI
      obtain ⟨o6, o7, rfl, g1, g2⟩ := hI
      rw [List.getElem?_map] at hd
      obtain ⟨q, hq, rfl⟩ := Option.map_eq_some_iff.mp hd
      have hk : k < m := by have := (List.getElem?_eq_some_iff.mp hq).1; simpa using this
      have : q = k := by simp [hk] at hq; omega
      subst this
      have hlen := (List.getElem?_eq_some_iff.mp g1).1
      have e : ∀ (dd : D) (o7 : Option D), dd = (rowL w i q).d → RwI w i j n M4 [some (nD m), some (.str (Str.ofString w.s)), some (nD i), some (nD j)] (q + 1) ([some (.loc n)] ++ [some (nD m), some (.str (Str.ofString w.s)), some (nD i), some (nD j)] ++ [some (.loc M4.length), some (nD q), o7, none, none, none, none]) (M5.set M4.length (some (.lst ((rowB w i j q).map Ln.d ++ [dd])))) := fun dd o7 hdd => by
        subst hdd
        unfold RwI
        refine ⟨_, _, rfl, ?_, g2.set (Nat.le_refl _)⟩
        rw [List.getElem?_set_self hlen, rowB_snoc, List.map_append]
        rfl
      have g1' : (M5.set M4.length (some (.lst ((rowB w i j q).map Ln.d ++ [(rowL w i q).d])))) = M5.set M4.length (some (.lst ((rowB w i j q).map Ln.d ++ [(rowL w i q).d]))) := rfl
      have hz : (rowB w i j q).length < 16777216 := by rw [rowB_len]; omega
      cases w with
      | not =>
        have e1 := fun o => e _ o rfl
        simp [nD, Wd.s, ofString_inj, mergeD, putD, ixU_ds, valG, locL_of g1, rowL, Ln.d] at e1 ⊢
        exact ⟨hz, e1 _⟩
      | all =>
        have e1 := fun o => e _ o rfl
        simp [nD, Wd.s, ofString_inj, mergeD, putD, ixU_ds, valG, locL_of g1, rowL, Ln.d] at e1 ⊢
        exact ⟨hz, e1 _⟩
      | many =>
        have e1 := fun o => e _ o rfl
        simp [nD, Wd.s, ofString_inj, mergeD, putD, ixU_ds, valG, locL_of g1, rowL, Ln.d] at e1 ⊢
        exact ⟨hz, e1 _⟩
      | some =>
        have e1 := fun o => e _ o rfl
        simp [nD, Wd.s, ofString_inj, mergeD, putD, ixU_ds, valG, locL_of g1, rowL, Ln.d] at e1 ⊢
        exact ⟨hz, e1 _⟩
    · intro ρ M5 hI
      rw [List.length_map, List.length_range] at hI
      exact hI
  intro ρ M5 hI
  unfold RwI at hI
  obtain ⟨o6, o7, rfl, g1, g2⟩ := hI
  have hz : ((rowB w i j m).map Ln.d).length + 2 ≤ 16777216 := by rw [List.length_map, rowB_len]; omega
  rw [p_sSeq]
  generalize hT : thenF _ _ _ = T
  simp
  refine (addA_l g1).mpr ⟨hz, ?_⟩
  simp
  have eF : (rowB w i j m).map Ln.d ++ [D.tup [.str (Str.ofString "hue"), .int 3, .int 1], D.tup [.str (Str.ofString "all"), .tup [nD m]]] = (rowF w i j m).map Ln.d := by
    unfold rowF
    rw [List.map_append]
    rfl
  rw [eF]
  subst hT
  rw [thenF_nx]
  have hG : Good (rowF w i j m) := rowF_good hi hj
  have hne : rowF w i j m ≠ [] := by intro z; have := rowF_len (w := w) (i := i) (j := j) (m := m); rw [z] at this; simp at this
  have hlen : (rowF w i j m).length < 9999 := by rw [rowF_len]; omega
  have hdd : (dd [((i : Nat) : Int), ((j : Nat) : Int)]).length ≤ 4 := few fun x hx => by simp at hx; omega
  have hS : ∀ y, y ∈ sortL (dd [((i : Nat) : Int), ((j : Nat) : Int)]) ↔ y = (i : Nat) ∨ y = (j : Nat) := fun y => by rw [mem_sortL, dd_mem]; simp
  rw [p_sSeq]
  generalize hT : thenF _ _ _ = T
  simp [nD]
  refine ⟨by omega, ?_⟩
  refine due_ints (a := i) (w := w) rfl rfl (by simp) (by rw [(sortL_perm _).length_eq]; omega) ?_
  subst hT
  generalize hDn : (sortL (dd [((i : Nat) : Int), ((j : Nat) : Int)])).filter (fun x : Int => !w.isM || !decide (x = ((i : Nat) : Int))) = Dn
  have hDm : ∀ y, y ∈ Dn ↔ (y = (i : Nat) ∨ y = (j : Nat)) ∧ (w.isM = false ∨ y ≠ (i : Nat)) := fun y => by
    rw [← hDn, List.mem_filter, hS]; simp
  have hDn2 : Dn.Nodup := by
    rw [← hDn]
    exact ((sortL_perm _).nodup_iff.mpr (dd_nodup _)).sublist List.filter_sublist
  have hDa : Dn.Pairwise (· ≤ ·) := by
    rw [← hDn]
    exact (sortL_asc _).sublist List.filter_sublist
  have hDs : (∀ x ∈ Dn, 0 ≤ x ∧ x < 4) ∧ Dn.length ≤ 4 := by
    have b : ∀ x ∈ Dn, 0 ≤ x ∧ x < 4 := fun x hx => by
      have := ((hDm x).mp hx).1
      omega
    refine ⟨b, ?_⟩
    have d : ∀ x ∈ Dn, x ∈ [(0 : Int), 1, 2, 3] := fun x hx => by
      have := b x hx
      have : x = 0 ∨ x = 1 ∨ x = 2 ∨ x = 3 := by omega
      simp; exact this
    exact nodup_len hDn2 d
  rw [thenF_nx, p_sSeq]
  generalize hT : thenF _ _ _ = T
  simp
  refine (free_spec hG hne (by omega)).use ?_
  rintro d M6 ⟨x6, xs, x, e, rfl⟩
  try simp
  refine (names_spec hG hne hlen).use ?_
  rintro d M7 ⟨x7, ks, k1, k2, rfl⟩
  try simp
  refine (depth_spec hG hne (by omega)).use ?_
  rintro d M8 ⟨x8, vs, v, e2, rfl⟩
  try simp
  subst hT
  obtain ⟨xs', x', e', hx'⟩ := rowF_frees (w := w) (i := i) (j := j) (m := m)
  have ex : x = x' := by
    have := e.symm.trans e'
    have := congrArg List.getLast? this
    simpa using this
  subst ex
  obtain ⟨vs', e2'⟩ := rowF_deps (w := w) (i := i) (j := j) (m := m)
  have ev : v = if w.isM = true then (m : Int) else 0 := by
    have := e2.symm.trans e2'
    have := congrArg List.getLast? this
    simpa using this
  have eD : ordL x = Dn := by
    have p1 : Dn.Perm (dd (x.map Int.ofNat)) := (List.perm_ext_iff_of_nodup hDn2 (dd_nodup _)).mpr fun y => by
      rw [hDm, dd_mem, List.mem_map]
      constructor
      · rintro ⟨h1, h2⟩
        rcases h1 with rfl | rfl
        · exact ⟨i, (hx' i).mpr ⟨.inl rfl, .inr (h2.imp id fun z => by simpa using z)⟩, rfl⟩
        · exact ⟨j, (hx' j).mpr ⟨.inr rfl, .inr (h2.imp id fun z => by omega)⟩, rfl⟩
      · rintro ⟨z, hz, rfl⟩
        obtain ⟨h1, h2⟩ := (hx' z).mp hz
        refine ⟨by rcases h1 with rfl | rfl <;> simp, ?_⟩
        rcases h2 with h2 | h2 | h2
        · omega
        · exact .inl h2
        · refine .inr fun q => h2 ?_
          have : ((z : Nat) : Int) = ((i : Nat) : Int) := q
          omega
    exact (sortL_eq p1 hDa).symm
  have eS : sortL ks = sortL (dd [((i : Nat) : Int), ((j : Nat) : Int)]) := sortL_ext k1 (dd_nodup _) fun y => by
    rw [k2, rowF_names, dd_mem]; simp
  have hks := nam_small hG k1 k2
  have hv : 0 ≤ v ∧ v < 10000 := by rw [ev]; split <;> omega
  have ht : Tell (.lst [tupI x, .tup ((sortL ks).map D.int), .int v]) := by
    unfold tupI
    rw [eD]
    exact tell_three hDs.1 hDs.2 hks.1 hks.2 hv.1 hv.2
  rw [thenF_nx]
  simp
  rw [repr_eq ht]
  simp
  refine ⟨by omega, ?_⟩
  have fin : ∀ u : Int, u = v → Post (reprD (.lst [.tup (Dn.map D.int), .tup ((sortL (dd [((i : Nat) : Int), ((j : Nat) : Int)])).map D.int), .int u]) M8) (fun y M2 => Post (eqS false (.str (reprT (.lst [tupI x, .tup ((sortL ks).map D.int), .int v]))) y M2) (fun d M' => Pot n M' ∧ d = D.bl true) fun _ _ => False) fun _ _ => False := by
    intro u hu
    subst hu
    have eL : D.lst [.tup (Dn.map D.int), .tup ((sortL (dd [((i : Nat) : Int), ((j : Nat) : Int)])).map D.int), .int u] = .lst [tupI x, .tup ((sortL ks).map D.int), .int u] := by
      unfold tupI
      rw [eD, eS]
    rw [eL, repr_eq ht]
    simp
    exact (((g2.trans x6).trans x7).trans x8).pot p4
  cases w with
  | many =>
    simp [Wd.s, Wd.isM, nD] at ev ⊢
    exact fin _ ev.symm
  | not =>
    simp [Wd.s, Wd.isM, nD, ofString_inj] at ev ⊢
    exact fin _ ev.symm
  | all =>
    simp [Wd.s, Wd.isM, nD, ofString_inj] at ev ⊢
    exact fin _ ev.symm
  | some =>
    simp [Wd.s, Wd.isM, nD, ofString_inj] at ev ⊢
    exact fin _ ev.symm
end
theorem main (ns : List Int) (hl : ns.length ≤ 63) : Post (m_law [.ro (ns.map D.int)] []) (fun d _ => d = .bl true) (fun _ _ => False) := by
  unfold m_law b_law
  rw [p_runD]
  refine seq_mid (fun ρ M => Pot 0 M ∧ ρ = [some (.ro (ns.map D.int)), some (.loc 0), none, none]) ?_ ?_
  · simp
    refine (pot_spec hl).use ?_
    rintro _ M1 ⟨rfl, p1⟩
    simp [p1]
  rintro _ M1 ⟨p1, rfl⟩
  refine seq_mid (fun ρ M => Pot 0 M ∧ ∃ o2 o3, ρ = [some (.ro (ns.map D.int)), some (.loc 0), o2, o3]) ?_ ?_
  · simp
    refine for_rule (fun _ ρ M => Pot 0 M ∧ ∃ o2 o3, ρ = [some (.ro (ns.map D.int)), some (.loc 0), o2, o3]) (fun _ _ _ _ => trivial) ⟨p1, none, none, rfl⟩ ?_ ?_
    · rintro k t ρ M3 - ⟨p3, o2, o3, rfl⟩
      simp
      refine (draw_spec (by assumption) (by omega) (by omega)).use ?_
      rintro _ M4 ⟨p4, a, rfl, _, _⟩
      simp
      refine (draw_spec (by assumption) (by omega) (by omega)).use ?_
      rintro _ M5 ⟨p5, b, rfl, _, _⟩
      simp
      refine (any_all (IntB 0 9) (by assumption) (by simp) (by simp) (by simp)).use ?_
      rintro _ M6 ⟨p6, c, rfl, _, _⟩
      try simp
      refine (saying_spec p6 (by omega) (by omega) (by omega) (by omega)).use ?_
      rintro _ M7 ⟨p7, ls, rfl, hz, hg⟩
      try simp
      refine (right_spec hg (by intro z; subst z; simp at hz; omega) (by omega)).use ?_
      rintro _ M8 ⟨x8, rfl⟩
      simp
      exact x8.pot p7
    · rintro ρ M3 h3
      exact h3
  rintro _ M2 ⟨p2, o2, o3, rfl⟩
  refine seq_mid (fun ρ M => Pot 0 M ∧ ρ = [some (.ro (ns.map D.int)), some (.loc 0), o2, o3]) ?_ ?_
  · simp
    refine (draw_spec (by assumption) (by omega) (by omega)).use ?_
    rintro _ M4 ⟨p4, a, rfl, _, _⟩
    simp
    split
    · refine (draw_spec (by assumption) (by omega) (by omega)).use ?_
      rintro _ M5 ⟨p5, b, rfl, _, _⟩
      try simp
      refine (saying_spec p5 (by omega) (by omega) (by omega) (by omega)).use ?_
      rintro _ M7 ⟨p7, ls, rfl, hz, hg⟩
      try simp
      refine (right_spec hg (by intro z; subst z; simp at hz; omega) (by omega)).use ?_
      rintro _ M8 ⟨x8, rfl⟩
      simp
      exact x8.pot p7
    · exact p4
  rintro _ M3 ⟨p3, rfl⟩
  simp
  refine (draw_spec (by assumption) (by omega) (by omega)).use ?_
  rintro _ M4 ⟨p4, a, rfl, _, _⟩
  simp
  intro _
  refine (row_spec p4).use ?_
  rintro d M5 ⟨_, rfl⟩
  rfl
end Qk19
set_option Elab.async false
set_option linter.all false
set_option maxRecDepth 100000
set_option maxHeartbeats 0
set_option autoImplicit false
open PySem PySem.W PySem.Calls PyProof.Rows
theorem PySem.Challenge.cw_levelkin_k19_whole_free_names_and_depths_holds : PySem.Challenge.rw_levelkin_k19_whole_free_names_and_depths.Holds := by
  w_on; o_law
  refine HandSHeadRun.head_any (r := OpenLaw.row PySem.Challenge.rw_levelkin_k19_whole_free_names_and_depths) (q := view (OpenLaw.row PySem.Challenge.rw_levelkin_k19_whole_free_names_and_depths).prog [44]) (H := Qk19.hk) (ob := Qk19.ob) (M := 3000) (loose := Qk19.loo) (d := HandSHeadRun.topDef (OpenLaw.row PySem.Challenge.rw_levelkin_k19_whole_free_names_and_depths).prog 44) (kwd := []) Qk19.ob_eq
    (by kernel_rfl) (fun s => by kernel_rfl) Qk19.run (by kernel_rfl) (by kernel_rfl) (by kernel_rfl) (by rfl) (by first | assumption | decide +kernel) (by decide +kernel) ⟨rfl, rfl, rfl, rfl, rfl, by decide +kernel⟩ ?hw ?hc
  case hw => w_witness2
  case hc =>
    refine L3.walkG (l := PySem.Challenge.rw_levelkin_k19_whole_free_names_and_depths) (n := 63) (k := 11) (x := "script") (CX := L2.CX0) rfl (by decide) (by kernel_rfl) ⟨rfl, by decide, by decide⟩ ?F (fun _ _ _ _ z => z)
    intro w mg fa h Y G hmg0
    obtain ⟨K, KX, c⟩ := Y
    have hmg : mg ("law" : PySem.Str) = some (.ref fa) := by
      have e : (HandSHeadRun.topDef (OpenLaw.row PySem.Challenge.rw_levelkin_k19_whole_free_names_and_depths).prog 44).name = ("law" : PySem.Str) := by kernel_rfl
      rw [← e]
      exact hmg0
    obtain ⟨fd, hb, hF⟩ := Qk19.facts (P := (PySem.Challenge.rw_levelkin_k19_whole_free_names_and_depths).prog) (w := w) KX G hmg c
    exact ⟨K, fd, L3.spD K 1 Qk19.m_law, KX, hb, fun H a ns hl _ hS => L3.sp_start hS (Qk19.main ns hl), hF⟩
