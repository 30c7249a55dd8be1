import PyProof.Rows.All
import Wide.All
import OpenK.AllK
import Wide.FinOn
import HandS.ForMost
import HandS.Exc
import HandS.ExcOwn
import HandS.WordsExc
import HandS.CallSlots
import HandS.IsInst
import HandS.Walk
import HandS.TupAny
import HandS.Deep
import HandS.Style
import HandS.Defaults
import KE.GoesEnum
import HandS.ListEq
import HandS.DictEq
import PySem.Challenge.RW_levelkin_k18_whole_sayings_judged
import HandS.Base
import HandS.Head0
import HandS.Head1
import HandS.Head2
import HandS.HeadEnd
import HandS.HeadHook1
import HandS.HeadHook2
import KE.KStateDown
import Lean
set_option Elab.async false
set_option linter.all false
set_option maxRecDepth 100000
set_option autoImplicit false
/-! The data layer: immutable things are plain data D, what changes stands in a store; a def is a function of data. -/
namespace L3
open PySem PySem.Spec L2
open PyProof.Rows hiding St

inductive D where
  | non | bl (b : Bool) | int (i : Int) | str (x : Str)
  | tup (xs : List D) | lst (xs : List D)
  /-- a list that is only read: the script, a list of the module -/
  | ro (xs : List D)
  /-- a dict with keys that are ints or texts -/
  | dk (kvs : List (Key × D))
  | ins (C : Addr) (fs : List (Str × D))
  | loc (n : Nat)
  | ref (a : Addr)
  | ty (n : String)

/-- a thing that changes -/
inductive MO where
  | lst (xs : List D)
  | dk (kvs : List (Key × D))
  | ins (C : Addr) (fs : List (Str × D))
abbrev Store := List (Option MO)
structure Exn where
  cls : D
  fs : List (Str × D)
inductive Out (α : Type) where
  | ok (a : α) (M : Store)
  | exc (e : Exn) (M : Store)
  | bad
def Py (α : Type) := Store → Out α
namespace Py
variable {α β : Type}
def ret (a : α) : Py α := fun M => .ok a M
def bnd (m : Py α) (k : α → Py β) : Py β := fun M => match m M with
  | .ok a M' => k a M'
  | .exc e M' => .exc e M'
  | .bad => .bad
def bad : Py α := fun _ => .bad
def raise (e : Exn) : Py α := fun M => .exc e M
/-- a guard -/
def chk (p : Prop) [Decidable p] (k : Py α) : Py α := fun M => if p then k M else .bad
end Py
def Post {α : Type} (o : Out α) (Q : α → Store → Prop) (E : Exn → Store → Prop) : Prop := match o with
  | .ok a M => Q a M
  | .exc e M => E e M
  | .bad => False
section
variable {α β : Type} {Q : α → Store → Prop} {R : β → Store → Prop} {E : Exn → Store → Prop} {M : Store}
theorem post_ret {a : α} : Post (Py.ret a M) Q E ↔ Q a M := Iff.rfl
theorem post_bnd {m : Py α} {k : α → Py β} : Post (Py.bnd m k M) R E ↔ Post (m M) (fun a M' => Post (k a M') R E) E := by
  unfold Py.bnd
  cases m M <;> exact Iff.rfl
theorem post_bad : Post (Py.bad M : Out α) Q E ↔ False := Iff.rfl
theorem post_raise {e : Exn} : Post (Py.raise e M : Out α) Q E ↔ E e M := Iff.rfl
theorem post_chk {p : Prop} [Decidable p] {k : Py α} : Post (Py.chk p k M) Q E ↔ p ∧ Post (k M) Q E := by
  unfold Py.chk
  by_cases h : p
  · rw [if_pos h]; exact ⟨fun q => ⟨h, q⟩, fun q => q.2⟩
  · rw [if_neg h]; exact ⟨fun q => q.elim, fun q => absurd q.1 h⟩
theorem Post.mono {o : Out α} {Q' : α → Store → Prop} {E' : Exn → Store → Prop} (h : Post o Q E) (hq : ∀ a M, Q a M → Q' a M) (he : ∀ e M, E e M → E' e M) : Post o Q' E' := by
  cases o with
  | ok a M => exact hq _ _ h
  | exc e M => exact he _ _ h
  | bad => exact h
theorem Post.imp {o : Out α} {Q' : α → Store → Prop} (h : Post o Q E) (hq : ∀ a M, Q a M → Q' a M) : Post o Q' E := h.mono hq fun _ _ z => z
end

/-! ### what stands for what -/
/-- the ground: where the locations lie; what is never changed any more -/
structure G where
  io : List Addr
  F : Hp
  /-- what a rule builds meanwhile -/
  P : Hp
structure G.le (g g' : G) : Prop where
  io : ∃ r, g'.io = g.io ++ r
  F : ∀ a o, g.F a = some o → g'.F a = some o
  P : g'.P = g.P
theorem G.le.refl (g : G) : g.le g := ⟨⟨[], by simp⟩, fun _ _ h => h, rfl⟩
theorem G.le.trans {a b c : G} (h : a.le b) (k : b.le c) : a.le c := by
  obtain ⟨⟨r, e⟩, f, p⟩ := h
  obtain ⟨⟨r', e'⟩, f', p'⟩ := k
  exact ⟨⟨r ++ r', by rw [e', e, List.append_assoc]⟩, fun a o q => f' _ _ (f _ _ q), p'.trans p⟩
/-- what Rep leans on -/
structure G.sub (g g' : G) : Prop where
  io : ∃ r, g'.io = g.io ++ r
  F : ∀ a o, g.F a = some o → g'.F a = some o
theorem G.le.sub {g g' : G} (h : g.le g') : g.sub g' := ⟨h.io, h.F⟩
theorem G.sub.refl (g : G) : g.sub g := ⟨⟨[], by simp⟩, fun _ _ h => h⟩
theorem G.sub.trans {a b c : G} (h : a.sub b) (k : b.sub c) : a.sub c := by
  obtain ⟨⟨r, e⟩, f⟩ := h
  obtain ⟨⟨r', e'⟩, f'⟩ := k
  exact ⟨⟨r ++ r', by rw [e', e, List.append_assoc]⟩, fun a o q => f' _ _ (f _ _ q)⟩

mutual
inductive Rep (K : PySem.W.Frag) (g : G) : V → D → Prop
  | non : Rep K g .non .non
  | bl (b : Bool) : Rep K g (.bl b) (.bl b)
  | int (i : Int) : Rep K g (.int i) (.int i)
  | str (x : Str) : Rep K g (.str x) (.str x)
  | tup {a : Addr} {vs : List V} {ds : List D} : g.F a = some (.tup vs) → Reps K g vs ds → Rep K g (.ref a) (.tup ds)
  | lst {a : Addr} {vs : List V} {ds : List D} : g.F a = some (.lst vs) → Reps K g vs ds → Rep K g (.ref a) (.lst ds)
  | ro {a : Addr} {vs : List V} {ds : List D} : SqL K g.F a vs → Reps K g vs ds → Rep K g (.ref a) (.ro ds)
  | dk {a : Addr} {vs : List (Key × V)} {fs : List (Key × D)} : g.F a = some (.dK vs) → Reps K g (vs.map (·.2)) (fs.map (·.2)) → vs.map (·.1) = fs.map (·.1) → Rep K g (.ref a) (.dk fs)
  | ins {a C dx : Addr} {vs : List (Str × V)} {fs : List (Str × D)} : g.F a = some (.ins C dx vs) → Reps K g (vs.map (·.2)) (fs.map (·.2)) → vs.map (·.1) = fs.map (·.1) → Rep K g (.ref a) (.ins C fs)
  | loc {n : Nat} {a : Addr} : g.io[n]? = some a → Rep K g (.ref a) (.loc n)
  | ref (a : Addr) : Rep K g (.ref a) (.ref a)
  | ty (n : String) : Rep K g (.ty n) (.ty n)
inductive Reps (K : PySem.W.Frag) (g : G) : List V → List D → Prop
  | nil : Reps K g [] []
  | cons {v : V} {vs : List V} {d : D} {ds : List D} : Rep K g v d → Reps K g vs ds → Reps K g (v :: vs) (d :: ds)
end
section
variable {K : PySem.W.Frag} {g g' : G}
theorem Rd.mono {F F' : Hp} {a : Addr} {u : HO} (h : ∀ a o, F a = some o → F' a = some o) (r : Rd F a u) : Rd F' a u := by
  rcases r with r | ⟨o, r⟩
  · exact .inl (h _ _ r)
  · exact .inr ⟨o, h _ _ r⟩
theorem sqT_mono {F F' : Hp} {a : Addr} {xs : List V} (h : ∀ a o, F a = some o → F' a = some o) (r : SqT K F a xs) : SqT K F' a xs := by
  rcases r with r | r
  · exact .inl (Rd.mono h r)
  · exact .inr r
theorem sqL_mono {F F' : Hp} {a : Addr} {xs : List V} (h : ∀ a o, F a = some o → F' a = some o) (r : SqL K F a xs) : SqL K F' a xs := by
  rcases r with r | r
  · exact .inl (Rd.mono h r)
  · exact .inr r
mutual
theorem Rep.gro (h : g.sub g') : ∀ {v : V} {d : D}, Rep K g v d → Rep K g' v d
  | _, _, .non => .non
  | _, _, .bl b => .bl b
  | _, _, .int i => .int i
  | _, _, .str x => .str x
  | _, _, .tup s r => .tup (h.F _ _ s) (Reps.gro h r)
  | _, _, .lst s r => .lst (h.F _ _ s) (Reps.gro h r)
  | _, _, .ro s r => .ro (sqL_mono h.F s) (Reps.gro h r)
  | _, _, .dk s r e => .dk (h.F _ _ s) (Reps.gro h r) e
  | _, _, .ins s r e => .ins (h.F _ _ s) (Reps.gro h r) e
  | _, _, .loc e => .loc (by
      obtain ⟨r, q⟩ := h.io
      rw [q, List.getElem?_append_left (List.getElem?_eq_some_iff.mp e).1]
      exact e)
  | _, _, .ref a => .ref a
  | _, _, .ty n => .ty n
theorem Reps.gro (h : g.sub g') : ∀ {vs : List V} {ds : List D}, Reps K g vs ds → Reps K g' vs ds
  | _, _, .nil => .nil
  | _, _, .cons r t => .cons (Rep.gro h r) (Reps.gro h t)
end
theorem Rep.mono (h : g.le g') {v : V} {d : D} (r : Rep K g v d) : Rep K g' v d := r.gro h.sub
theorem Reps.mono (h : g.le g') {vs : List V} {ds : List D} (r : Reps K g vs ds) : Reps K g' vs ds := r.gro h.sub
theorem Reps.length : ∀ {vs : List V} {ds : List D}, Reps K g vs ds → vs.length = ds.length
  | _, _, .nil => rfl
  | _, _, .cons _ t => congrArg (· + 1) (Reps.length t)
theorem Reps.get : ∀ {vs : List V} {ds : List D} {i : Nat} {d : D}, Reps K g vs ds → ds[i]? = some d → ∃ v, vs[i]? = some v ∧ Rep K g v d
  | _, _, _, _, .nil, e => by simp at e
  | _, _, 0, _, .cons r _, e => by simp at e; subst e; exact ⟨_, rfl, r⟩
  | _, _, i + 1, _, .cons _ t, e => by
    obtain ⟨v, h1, h2⟩ := Reps.get t (by simpa using e)
    exact ⟨v, by simpa using h1, h2⟩
theorem Reps.getV : ∀ {vs : List V} {ds : List D} {i : Nat} {v : V}, Reps K g vs ds → vs[i]? = some v → ∃ d, ds[i]? = some d ∧ Rep K g v d
  | _, _, _, _, .nil, e => by simp at e
  | _, _, 0, _, .cons r _, e => by simp at e; subst e; exact ⟨_, rfl, r⟩
  | _, _, i + 1, _, .cons _ t, e => by
    obtain ⟨v, h1, h2⟩ := Reps.getV t (by simpa using e)
    exact ⟨v, by simpa using h1, h2⟩
theorem Reps.append : ∀ {vs ws : List V} {ds es : List D}, Reps K g vs ds → Reps K g ws es → Reps K g (vs ++ ws) (ds ++ es)
  | _, _, _, _, .nil, s => s
  | _, _, _, _, .cons r t, s => .cons r (Reps.append t s)
theorem Reps.set {v : V} {d : D} (r : Rep K g v d) : ∀ {vs : List V} {ds : List D} (i : Nat), Reps K g vs ds → Reps K g (vs.set i v) (ds.set i d)
  | _, _, _, .nil => .nil
  | _, _, 0, .cons _ t => .cons r t
  | _, _, i + 1, .cons q t => .cons q (Reps.set r i t)
theorem Reps.take : ∀ {vs : List V} {ds : List D} (n : Nat), Reps K g vs ds → Reps K g (vs.take n) (ds.take n)
  | _, _, 0, _ => .nil
  | _, _, _ + 1, .nil => .nil
  | _, _, n + 1, .cons r t => .cons r (Reps.take n t)
theorem Reps.drop : ∀ {vs : List V} {ds : List D} (n : Nat), Reps K g vs ds → Reps K g (vs.drop n) (ds.drop n)
  | _, _, 0, r => r
  | _, _, _ + 1, .nil => .nil
  | _, _, n + 1, .cons _ t => Reps.drop n t
theorem Reps.dropLast : ∀ {vs : List V} {ds : List D}, Reps K g vs ds → Reps K g vs.dropLast ds.dropLast
  | _, _, .nil => .nil
  | _, _, .cons _ .nil => .nil
  | _, _, .cons r (.cons q t) => .cons r (Reps.dropLast (.cons q t))
theorem Reps.reverse {vs : List V} {ds : List D} (h : Reps K g vs ds) : Reps K g vs.reverse ds.reverse := by
  induction vs generalizing ds with
  | nil => cases h; exact .nil
  | cons v vs ih =>
    cases h with
    | cons r t =>
      rw [List.reverse_cons, List.reverse_cons]
      exact Reps.append (ih t) (.cons r .nil)
theorem Reps.one {vs : List V} {d : D} (h : Reps K g vs [d]) : ∃ v, vs = [v] ∧ Rep K g v d := by
  cases h with
  | cons r t => cases t; exact ⟨_, rfl, r⟩
theorem Reps.two {vs : List V} {d e : D} (h : Reps K g vs [d, e]) : ∃ v w, vs = [v, w] ∧ Rep K g v d ∧ Rep K g w e := by
  cases h with
  | cons r t =>
    obtain ⟨w, rfl, q⟩ := Reps.one t
    exact ⟨_, w, rfl, r, q⟩
end

def ObjRep (K : PySem.W.Frag) (g : G) (H : Hp) (a : Addr) : MO → Prop
  | .lst ds => ∃ vs, H a = some (.lst vs) ∧ Reps K g vs ds
  | .dk fs => ∃ vs, H a = some (.dK vs) ∧ Reps K g (vs.map (·.2)) (fs.map (·.2)) ∧ vs.map (·.1) = fs.map (·.1)
  | .ins C fs => ∃ dx vs, H a = some (.ins C dx vs) ∧ Reps K g (vs.map (·.2)) (fs.map (·.2)) ∧ vs.map (·.1) = fs.map (·.1)
/-- the heap bears the store -/
structure RelH (K : PySem.W.Frag) (g : G) (M : Store) (H : Hp) : Prop where
  frz : ∀ a o, g.F a = some o → H a = some o
  prt : ∀ a o, g.P a = some o → H a = some o ∧ g.F a = none
  len : g.io.length = M.length
  liv : ∀ (n : Nat) (o : MO), M[n]? = some (some o) → ∃ a, g.io[n]? = some a ∧ (g.F a = none ∧ g.P a = none) ∧ ObjRep K g H a o
  inj : ∀ (n m : Nat) (a : Addr) (o o' : MO), M[n]? = some (some o) → M[m]? = some (some o') → g.io[n]? = some a → g.io[m]? = some a → n = m
theorem ObjRep.mono {K : PySem.W.Frag} {g g' : G} {H H' : Hp} {a : Addr} {o : MO} (x : ObjRep K g H a o) (h : g.sub g') (e : H' a = H a) : ObjRep K g' H' a o := by
  cases o with
  | lst ds => obtain ⟨vs, q, r⟩ := x; exact ⟨vs, by rw [e]; exact q, r.gro h⟩
  | dk fs => obtain ⟨vs, q, r, z⟩ := x; exact ⟨vs, by rw [e]; exact q, r.gro h, z⟩
  | ins C fs => obtain ⟨dx, vs, q, r, z⟩ := x; exact ⟨dx, vs, by rw [e]; exact q, r.gro h, z⟩
theorem ObjRep.there {K : PySem.W.Frag} {g : G} {H : Hp} {a : Addr} {o : MO} (x : ObjRep K g H a o) : ∃ u, H a = some u := by
  cases o with
  | lst ds => obtain ⟨vs, q, _⟩ := x; exact ⟨_, q⟩
  | dk fs => obtain ⟨vs, q, _⟩ := x; exact ⟨_, q⟩
  | ins C fs => obtain ⟨dx, vs, q, _⟩ := x; exact ⟨_, q⟩
section
variable {K : PySem.W.Frag} {g : G} {M : Store} {H : Hp}
theorem RelH.fnone (R : RelH K g M H) {p : Addr} (h : H p = none) : g.F p = none := by
  cases q : g.F p with
  | none => rfl
  | some o => rw [R.frz _ _ q] at h; cases h
theorem RelH.pnone (R : RelH K g M H) {p : Addr} (h : H p = none) : g.P p = none := by
  cases q : g.P p with
  | none => rfl
  | some o => rw [(R.prt _ _ q).1] at h; cases h
/-- the new ground: one more thing that never changes -/
def G.add (g : G) (p : Addr) (o : HO) : G := { g with F := upd g.F p o }
theorem G.le_add {p : Addr} {o : HO} (h : g.F p = none) : g.le (g.add p o) := ⟨⟨[], by simp [G.add]⟩, fun a u q => by
  show upd g.F p o a = some u
  rw [upd_ne (ne_of_none q h)]
  exact q, rfl⟩
/-- a new object is laid that never changes -/
theorem RelH.laid (R : RelH K g M H) {p : Addr} {o : HO} (h : H p = none) : RelH K (g.add p o) M (upd H p o) := by
  have L : g.le (g.add p o) := G.le_add (R.fnone h)
  refine ⟨fun a u q => ?_, fun a u q => ?_, R.len, fun n x e => ?_, R.inj⟩
  · have q' : upd g.F p o a = some u := q
    by_cases e : a = p
    · subst e
      rw [upd_same] at q' ⊢
      exact q'
    · rw [upd_ne e] at q' ⊢
      exact R.frz _ _ q'
  · obtain ⟨q1, q2⟩ := R.prt a u q
    have ne : a ≠ p := ne_of_none q1 h
    refine ⟨by rw [upd_ne ne]; exact q1, ?_⟩
    show upd g.F p o a = none
    rw [upd_ne ne]
    exact q2
  · obtain ⟨a, e1, ⟨e2, e4⟩, e3⟩ := R.liv n x e
    obtain ⟨u, eu⟩ := e3.there
    have ne : a ≠ p := ne_of_none eu h
    refine ⟨a, e1, ⟨?_, e4⟩, e3.mono L.sub (upd_ne ne)⟩
    show upd g.F p o a = none
    rw [upd_ne ne]
    exact e2
/-- a new object that changes -/
def G.more (g : G) (p : Addr) : G := { g with io := g.io ++ [p] }
theorem G.le_more {p : Addr} : g.le (g.more p) := ⟨⟨[p], rfl⟩, fun _ _ q => q, rfl⟩
theorem getElem?_snoc {α : Type} (l : List α) (a : α) (n : Nat) (b : α) (h : (l ++ [a])[n]? = some b) : (l[n]? = some b) ∨ (n = l.length ∧ b = a) := by
  by_cases e : n < l.length
  · rw [List.getElem?_append_left e] at h
    exact .inl h
  · have e2 : n = l.length := by
      have h2 := (List.getElem?_eq_some_iff.mp h).1
      rw [List.length_append, List.length_singleton] at h2
      omega
    subst e2
    rw [List.getElem?_concat_length] at h
    exact .inr ⟨rfl, (Option.some.inj h).symm⟩
theorem RelH.made (R : RelH K g M H) {p : Addr} {u : HO} {o : MO} (h : H p = none) (x : ObjRep K (g.more p) (upd H p u) p o) : RelH K (g.more p) (M ++ [some o]) (upd H p u) := by
  have L : g.le (g.more p) := G.le_more
  refine ⟨fun a u q => ?_, fun a u q => ?_, ?_, fun n y e => ?_, fun n m a y y' e e' i i' => ?_⟩
  · rw [upd_ne (ne_of_none (R.frz _ _ q) h)]
    exact R.frz _ _ q
  · obtain ⟨q1, q2⟩ := R.prt a u q
    exact ⟨by rw [upd_ne (ne_of_none q1 h)]; exact q1, q2⟩
  · show (g.io ++ [p]).length = _
    rw [List.length_append, List.length_append, R.len]
    rfl
  · rcases getElem?_snoc _ _ _ _ e with e | ⟨rfl, e8⟩
    · obtain ⟨a, e1, e2, e3⟩ := R.liv n y e
      obtain ⟨z, ez⟩ := e3.there
      refine ⟨a, ?_, e2, e3.mono L.sub (upd_ne (ne_of_none ez h))⟩
      show (g.io ++ [p])[n]? = some a
      rw [List.getElem?_append_left (List.getElem?_eq_some_iff.mp e1).1]
      exact e1
    · have e9 : y = o := Option.some.inj e8
      subst e9
      refine ⟨p, ?_, ⟨R.fnone h, R.pnone h⟩, x⟩
      show (g.io ++ [p])[M.length]? = some p
      rw [← R.len, List.getElem?_concat_length]
  · have key : ∀ (n : Nat) (y : MO), (M ++ [some o])[n]? = some (some y) → (g.io ++ [p])[n]? = some a → (M[n]? = some (some y) ∧ g.io[n]? = some a ∧ a ≠ p) ∨ (n = M.length ∧ a = p) := by
      intro n y e i
      rcases getElem?_snoc _ _ _ _ e with e | ⟨rfl, e⟩
      · have hn : n < g.io.length := by rw [R.len]; exact (List.getElem?_eq_some_iff.mp e).1
        rw [List.getElem?_append_left hn] at i
        obtain ⟨b, e1, e2, e3⟩ := R.liv n y e
        rw [i] at e1
        cases e1
        obtain ⟨z, ez⟩ := e3.there
        exact .inl ⟨e, i, ne_of_none ez h⟩
      · rw [← R.len, List.getElem?_concat_length] at i
        exact .inr ⟨rfl, (Option.some.inj i).symm⟩
    rcases key n y e i with ⟨a1, a2, a3⟩ | ⟨a1, a2⟩
    · rcases key m y' e' i' with ⟨b1, b2, b3⟩ | ⟨b1, b2⟩
      · exact R.inj n m a y y' a1 b1 a2 b2
      · exact absurd b2 a3
    · rcases key m y' e' i' with ⟨b1, b2, b3⟩ | ⟨b1, b2⟩
      · exact absurd a2 b3
      · rw [a1, b1]
/-- what changes is changed -/
theorem RelH.put (R : RelH K g M H) {n : Nat} {p : Addr} {o o' : MO} {u : HO} (e : M[n]? = some (some o)) (ep : g.io[n]? = some p) (x : ObjRep K g (upd H p u) p o') : RelH K g (M.set n (some o')) (upd H p u) := by
  obtain ⟨p', ep', ⟨fp, pp⟩, x0⟩ := R.liv n o e
  rw [ep] at ep'
  cases ep'
  have hn : n < M.length := (List.getElem?_eq_some_iff.mp e).1
  refine ⟨fun a v q => ?_, fun a v q => ?_, by rw [List.length_set]; exact R.len, fun m y q => ?_, fun m k a y y' q q' i i' => ?_⟩
  · rw [upd_ne (ne_of_none q fp)]
    exact R.frz _ _ q
  · obtain ⟨q1, q2⟩ := R.prt a v q
    exact ⟨by rw [upd_ne (ne_of_none q pp)]; exact q1, q2⟩
  · by_cases hm : m = n
    · subst hm
      rw [List.getElem?_set_self hn] at q
      cases q
      exact ⟨p, ep, ⟨fp, pp⟩, x⟩
    · rw [List.getElem?_set_ne (Ne.symm hm)] at q
      obtain ⟨a, e1, e2, e3⟩ := R.liv m y q
      refine ⟨a, e1, e2, e3.mono (G.sub.refl g) (upd_ne fun z => ?_)⟩
      subst z
      exact hm (R.inj m n a y o q e e1 ep)
  · have key : ∀ (m : Nat) (y : MO), (M.set n (some o'))[m]? = some (some y) → ∃ z, M[m]? = some (some z) := by
      intro m y q
      by_cases hm : m = n
      · subst hm; exact ⟨o, e⟩
      · rw [List.getElem?_set_ne (Ne.symm hm)] at q
        exact ⟨y, q⟩
    obtain ⟨z, hz⟩ := key m y q
    obtain ⟨z', hz'⟩ := key k y' q'
    exact R.inj m k a z z' hz hz' i i'
/-- what changed is changed no more -/
theorem RelH.freeze (R : RelH K g M H) {n : Nat} {p : Addr} {o : MO} {u : HO} (e : M[n]? = some (some o)) (ep : g.io[n]? = some p) (hu : H p = some u) :
    g.le (g.add p u) ∧ RelH K (g.add p u) (M.set n none) H := by
  obtain ⟨p', ep', ⟨fp, pp⟩, x0⟩ := R.liv n o e
  rw [ep] at ep'
  cases ep'
  have L : g.le (g.add p u) := G.le_add fp
  have key : ∀ (m : Nat) (y : MO), (M.set n none)[m]? = some (some y) → m ≠ n ∧ M[m]? = some (some y) := by
    intro m y q
    by_cases hm : m = n
    · subst hm
      rw [List.getElem?_set_self (List.getElem?_eq_some_iff.mp e).1] at q
      cases q
    · rw [List.getElem?_set_ne (Ne.symm hm)] at q
      exact ⟨hm, q⟩
  refine ⟨L, fun a v q => ?_, fun a v q => ?_, by rw [List.length_set]; exact R.len, fun m y q => ?_, fun m k a y y' q q' i i' => R.inj m k a y y' (key m y q).2 (key k y' q').2 i i'⟩
  · have q' : upd g.F p u a = some v := q
    by_cases z : a = p
    · subst z
      rw [upd_same] at q'
      cases q'
      exact hu
    · rw [upd_ne z] at q'
      exact R.frz _ _ q'
  · obtain ⟨q1, q2⟩ := R.prt a v q
    refine ⟨q1, ?_⟩
    show upd g.F p u a = none
    rw [upd_ne (ne_of_none q pp)]
    exact q2
  · obtain ⟨hm, q⟩ := key m y q
    obtain ⟨a, e1, ⟨e2, e4⟩, e3⟩ := R.liv m y q
    refine ⟨a, e1, ⟨?_, e4⟩, e3.mono L.sub rfl⟩
    show upd g.F p u a = none
    rw [upd_ne fun z => ?_]
    · exact e2
    · subst z
      exact hm (R.inj m n a y o q e e1 ep)
/-- something is built at p -/
def G.bld (g : G) (p : Addr) (o : HO) : G := { g with P := upd g.P p o }
/-- .. is built no more -/
def G.unb (g : G) (P0 : Hp) (p : Addr) (o : HO) : G := { io := g.io, F := upd g.F p o, P := P0 }
theorem RelH.build (R : RelH K g M H) {p : Addr} {o : HO} (h : H p = none) : RelH K (g.bld p o) M (upd H p o) := by
  refine ⟨fun a u q => ?_, fun a u q => ?_, R.len, fun n x e => ?_, R.inj⟩
  · rw [upd_ne (ne_of_none (R.frz _ _ q) h)]
    exact R.frz _ _ q
  · have q' : upd g.P p o a = some u := q
    by_cases e : a = p
    · subst e
      rw [upd_same] at q' ⊢
      exact ⟨q', R.fnone h⟩
    · rw [upd_ne e] at q' ⊢
      exact R.prt _ _ q'
  · obtain ⟨a, e1, ⟨e2, e4⟩, e3⟩ := R.liv n x e
    obtain ⟨u, eu⟩ := e3.there
    have ne : a ≠ p := ne_of_none eu h
    refine ⟨a, e1, ⟨e2, ?_⟩, e3.mono ⟨⟨[], by simp [G.bld]⟩, fun _ _ q => q⟩ (upd_ne ne)⟩
    show upd g.P p o a = none
    rw [upd_ne ne]
    exact e4
/-- one step more is built -/
theorem RelH.rebuild (R : RelH K g M H) {p : Addr} {o u : HO} (hp : g.P p = some u) : RelH K (g.bld p o) M (upd H p o) := by
  have fp := (R.prt _ _ hp).2
  refine ⟨fun a u q => ?_, fun a u q => ?_, R.len, fun n x e => ?_, R.inj⟩
  · rw [upd_ne (ne_of_none q fp)]
    exact R.frz _ _ q
  · have q' : upd g.P p o a = some u := q
    by_cases e : a = p
    · subst e
      rw [upd_same] at q' ⊢
      exact ⟨q', fp⟩
    · rw [upd_ne e] at q' ⊢
      exact R.prt _ _ q'
  · obtain ⟨a, e1, ⟨e2, e4⟩, e3⟩ := R.liv n x e
    have ne : a ≠ p := (ne_of_none hp e4).symm
    refine ⟨a, e1, ⟨e2, ?_⟩, e3.mono ⟨⟨[], by simp [G.bld]⟩, fun _ _ q => q⟩ (upd_ne ne)⟩
    show upd g.P p o a = none
    rw [upd_ne ne]
    exact e4
/-- it is whole: it never changes any more -/
theorem RelH.built (R : RelH K g M H) {p : Addr} {o : HO} {P0 : Hp} (hp : g.P p = some o) (h0 : P0 p = none) (he : ∀ a, a ≠ p → P0 a = g.P a) : RelH K (g.unb P0 p o) M H := by
  obtain ⟨hH, fp⟩ := R.prt _ _ hp
  refine ⟨fun a u q => ?_, fun a u q => ?_, R.len, fun n x e => ?_, R.inj⟩
  · have q' : upd g.F p o a = some u := q
    by_cases e : a = p
    · subst e
      rw [upd_same] at q'
      cases q'
      exact hH
    · rw [upd_ne e] at q'
      exact R.frz _ _ q'
  · have q' : P0 a = some u := q
    have ne : a ≠ p := ne_of_none q' h0
    rw [he a ne] at q'
    obtain ⟨q1, q2⟩ := R.prt a u q'
    refine ⟨q1, ?_⟩
    show upd g.F p o a = none
    rw [upd_ne ne]
    exact q2
  · obtain ⟨a, e1, ⟨e2, e4⟩, e3⟩ := R.liv n x e
    have ne : a ≠ p := (ne_of_none hp e4).symm
    refine ⟨a, e1, ⟨?_, ?_⟩, e3.mono ⟨⟨[], by simp [G.unb]⟩, fun b v q => ?_⟩ rfl⟩
    · show upd g.F p o a = none
      rw [upd_ne ne]
      exact e2
    · show P0 a = none
      rw [he a ne]
      exact e4
    · show upd g.F p o b = some v
      rw [upd_ne (ne_of_none q fp)]
      exact q
/-- it is whole: it changes from now on by its location -/
def G.unbL (g : G) (P0 : Hp) (p : Addr) : G := { io := g.io ++ [p], F := g.F, P := P0 }
theorem RelH.builtL (R : RelH K g M H) {p : Addr} {u : HO} {o : MO} {P0 : Hp} (hp : g.P p = some u) (h0 : P0 p = none) (he : ∀ a, a ≠ p → P0 a = g.P a) (x : ObjRep K g H p o) : RelH K (g.unbL P0 p) (M ++ [some o]) H := by
  obtain ⟨hH, fp⟩ := R.prt _ _ hp
  have S : g.sub (g.unbL P0 p) := ⟨⟨[p], rfl⟩, fun _ _ q => q⟩
  refine ⟨R.frz, fun a u q => ?_, ?_, fun n y e => ?_, fun n m a y y' e e' i i' => ?_⟩
  · have q' : P0 a = some u := q
    have ne : a ≠ p := ne_of_none q' h0
    rw [he a ne] at q'
    exact R.prt a u q'
  · show (g.io ++ [p]).length = _
    rw [List.length_append, List.length_append, R.len]
    rfl
  · rcases getElem?_snoc _ _ _ _ e with e | ⟨rfl, e8⟩
    · obtain ⟨a, e1, ⟨e2, e4⟩, e3⟩ := R.liv n y e
      have ne : a ≠ p := (ne_of_none hp e4).symm
      refine ⟨a, ?_, ⟨e2, ?_⟩, e3.mono S rfl⟩
      · show (g.io ++ [p])[n]? = some a
        rw [List.getElem?_append_left (List.getElem?_eq_some_iff.mp e1).1]
        exact e1
      · show P0 a = none
        rw [he a ne]
        exact e4
    · have e9 : y = o := Option.some.inj e8
      subst e9
      refine ⟨p, ?_, ⟨fp, h0⟩, x.mono S rfl⟩
      show (g.io ++ [p])[M.length]? = some p
      rw [← R.len, List.getElem?_concat_length]
  · have key : ∀ (n : Nat) (y : MO), (M ++ [some o])[n]? = some (some y) → (g.io ++ [p])[n]? = some a → (M[n]? = some (some y) ∧ g.io[n]? = some a ∧ a ≠ p) ∨ (n = M.length ∧ a = p) := by
      intro n y e i
      rcases getElem?_snoc _ _ _ _ e with e | ⟨rfl, e⟩
      · have hn : n < g.io.length := by rw [R.len]; exact (List.getElem?_eq_some_iff.mp e).1
        rw [List.getElem?_append_left hn] at i
        obtain ⟨b, e1, ⟨e2, e4⟩, e3⟩ := R.liv n y e
        rw [i] at e1
        cases e1
        exact .inl ⟨e, i, (ne_of_none hp e4).symm⟩
      · rw [← R.len, List.getElem?_concat_length] at i
        exact .inr ⟨rfl, (Option.some.inj i).symm⟩
    rcases key n y e i with ⟨a1, a2, a3⟩ | ⟨a1, a2⟩
    · rcases key m y' e' i' with ⟨b1, b2, b3⟩ | ⟨b1, b2⟩
      · exact R.inj n m a y y' a1 b1 a2 b2
      · exact absurd b2 a3
    · rcases key m y' e' i' with ⟨b1, b2, b3⟩ | ⟨b1, b2⟩
      · exact absurd a2 b3
      · rw [a1, b1]
end

/-! ### names -/
abbrev DEnv := List (Option D)
structure RelE (K : PySem.W.Frag) (g : G) (σ : St) (ρ : DEnv) : Prop where
  len : σ.length = ρ.length
  at_ : ∀ (i : Nat) (d : D), ρ[i]? = some (some d) → ∃ v, σ[i]? = some (some v) ∧ Rep K g v d
theorem RelE.gro {K : PySem.W.Frag} {g g' : G} {σ : St} {ρ : DEnv} (x : RelE K g σ ρ) (h : g.sub g') : RelE K g' σ ρ :=
  ⟨x.len, fun i d e => let ⟨v, q, r⟩ := x.at_ i d e; ⟨v, q, r.gro h⟩⟩
theorem RelE.mono {K : PySem.W.Frag} {g g' : G} {σ : St} {ρ : DEnv} (x : RelE K g σ ρ) (h : g.le g') : RelE K g' σ ρ := x.gro h.sub
theorem RelE.set {K : PySem.W.Frag} {g : G} {σ : St} {ρ : DEnv} (x : RelE K g σ ρ) (i : Nat) {v : V} {d : D} (r : Rep K g v d) : RelE K g (σ.set i (some v)) (ρ.set i (some d)) := by
  refine ⟨by rw [List.length_set, List.length_set]; exact x.len, fun j e q => ?_⟩
  by_cases h : j = i
  · subst h
    have hl : j < ρ.length := by
      have := (List.getElem?_eq_some_iff.mp q).1
      rwa [List.length_set] at this
    rw [List.getElem?_set_self hl] at q
    cases q
    exact ⟨v, List.getElem?_set_self (by rw [x.len]; exact hl), r⟩
  · rw [List.getElem?_set_ne (Ne.symm h)] at q ⊢
    exact x.at_ j e q
def wipeD (ρ : DEnv) : List Nat → DEnv
  | [] => ρ
  | i :: r => (wipeD ρ r).set i none
theorem RelE.wipe {K : PySem.W.Frag} {g : G} {σ : St} {ρ : DEnv} (x : RelE K g σ ρ) : ∀ l : List Nat, RelE K g (L2.wipe σ l) (wipeD ρ l)
  | [] => x
  | n :: l => by
    have y := RelE.wipe x l
    show RelE K g ((L2.wipe σ l).set n none) ((wipeD ρ l).set n none)
    refine ⟨by rw [List.length_set, List.length_set]; exact y.len, fun j e q => ?_⟩
    by_cases h : j = n
    · subst h
      have hl : j < (wipeD ρ l).length := by
        have := (List.getElem?_eq_some_iff.mp q).1
        rwa [List.length_set] at this
      rw [List.getElem?_set_self hl] at q
      cases q
    · rw [List.getElem?_set_ne (Ne.symm h)] at q ⊢
      exact y.at_ j e q
theorem wipe_getD (ρ : DEnv) : ∀ l : List Nat, (wipeD ρ l).length = ρ.length
  | [] => rfl
  | n :: l => by
    show ((wipeD ρ l).set n none).length = _
    rw [List.length_set]
    exact wipe_getD ρ l
theorem wipe_at (σ : St) (j : Nat) : ∀ l : List Nat, (L2.wipe σ l)[j]? = if j ∈ l then (σ[j]?).map (fun _ => none) else σ[j]?
  | [] => by simp [L2.wipe]
  | n :: l => by
    have ih := wipe_at σ j l
    show ((L2.wipe σ l).set n none)[j]? = _
    by_cases h : n = j
    · subst h
      rw [if_pos (List.mem_cons_self ..)]
      by_cases hl : n < σ.length
      · rw [List.getElem?_set_self (by rw [wipe_length]; exact hl), List.getElem?_eq_getElem hl]
        rfl
      · rw [List.getElem?_eq_none (by rw [List.length_set, wipe_length]; omega), List.getElem?_eq_none (by omega)]
        rfl
    · rw [List.getElem?_set_ne h, ih]
      by_cases hm : j ∈ l
      · rw [if_pos hm, if_pos (List.mem_cons_of_mem _ hm)]
      · rw [if_neg hm, if_neg (fun z => (List.mem_cons.mp z).elim (fun e => h e.symm) hm)]
theorem wipe_set {σ : St} {i : Nat} {x : Option V} {l : List Nat} (h : i ∈ l) : L2.wipe (σ.set i x) l = L2.wipe σ l := by
  refine List.ext_getElem? fun j => ?_
  rw [wipe_at, wipe_at]
  by_cases hj : j ∈ l
  · rw [if_pos hj, if_pos hj]
    by_cases e : i = j
    · subst e
      by_cases hl : i < σ.length
      · rw [List.getElem?_set_self hl, List.getElem?_eq_getElem hl]; rfl
      · rw [List.getElem?_eq_none (by rw [List.length_set]; omega), List.getElem?_eq_none (by omega)]
    · rw [List.getElem?_set_ne e]
  · rw [if_neg hj, if_neg hj, List.getElem?_set_ne (fun e : i = j => hj (e ▸ h))]
theorem RelE.start {K : PySem.W.Frag} {g : G} {N : List Str} {vs : List V} {ds : List D} (r : Reps K g vs ds) : RelE K g (start N vs) (ds.map some ++ List.replicate (N.length - ds.length) none) := by
  have hl := r.length
  refine ⟨by unfold L2.start; simp [hl], fun i d e => ?_⟩
  have hi : i < ds.length := by
    by_cases hi : i < ds.length
    · exact hi
    · rw [List.getElem?_append_right (by simpa using hi), List.getElem?_replicate] at e
      split at e <;> cases e
  rw [List.getElem?_append_left (by simpa using hi), List.getElem?_map] at e
  cases q : ds[i]? with
  | none => rw [q] at e; cases e
  | some d' =>
    rw [q] at e
    cases e
    obtain ⟨v, h1, h2⟩ := r.get q
    refine ⟨v, ?_, h2⟩
    unfold L2.start
    rw [List.getElem?_append_left (by rw [List.length_map, hl]; exact hi), List.getElem?_map, h1]
    rfl
end L3
set_option Elab.async false
set_option linter.all false
set_option maxRecDepth 100000
set_option autoImplicit false
namespace L3
open PySem PySem.Spec L2
open PyProof.Rows hiding St

/-- where one stands: the context of the layer below, the ground at the entry, what is wanted of an exception -/
structure DX where
  X : Cx
  B : G
  W : Exn → DEnv → Store → Prop
abbrev DX.K (C : DX) : PySem.W.Frag := C.X.K

structure Rl (C : DX) (g : G) (ρ : DEnv) (M : Store) (σ : St) (H : Hp) : Prop where
  b : C.B.le g
  h : RelH C.X.K g M H
  e : RelE C.X.K g σ ρ
theorem Rl.next {C : DX} {g g' : G} {ρ : DEnv} {M M' : Store} {σ : St} {H H' : Hp} (R : Rl C g ρ M σ H) (l : g.le g') (h : RelH C.X.K g' M' H') : Rl C g' ρ M' σ H' := ⟨R.b.trans l, h, R.e.mono l⟩

/-- what is wanted of values -/
def QV (C : DX) (g : G) (ρ : DEnv) (σ : St) (Q : VK) : D → Store → Prop := fun d M' => ∀ v H' g', g.le g' → Rl C g' ρ M' σ H' → Rep C.X.K g' v d → Q v H'
def QT (C : DX) (g : G) (ρ : DEnv) (σ : St) (Q : Bool → Hp → Prop) : Bool → Store → Prop := fun d M' => ∀ H' g', g.le g' → Rl C g' ρ M' σ H' → Q d H'
def QA (C : DX) (g : G) (ρ : DEnv) (σ : St) (Q : List V → Hp → Prop) : List D → Store → Prop := fun ds M' => ∀ vs H' g', g.le g' → Rl C g' ρ M' σ H' → Reps C.X.K g' vs ds → Q vs H'
abbrev DX.We (C : DX) (ρ : DEnv) : Exn → Store → Prop := fun e M => C.W e ρ M

def WPE (X : Cx) (e : Expr) (σ : St) (H : Hp) (Q : VK) : Prop := ∀ (pins : List (Addr × Obj)) (s : Shared), Inv X pins σ H s → wpAny (model X.prog X.w) X.A (eval e X.env) (EP X pins σ Q) X.xe s
def WPT (X : Cx) (e : Expr) (σ : St) (H : Hp) (Q : Bool → Hp → Prop) : Prop := ∀ (pins : List (Addr × Obj)) (s : Shared), Inv X pins σ H s → wpAny (model X.prog X.w) X.A (isTrue e X.env (eval e X.env)) (TP X pins σ Q) X.xe s
def WPW (X : Cx) (e : Expr) (σ : St) (H : Hp) (Q : Bool → Hp → Prop) : Prop := ∀ (whole : Sem Value) (pins : List (Addr × Obj)) (s : Shared), Inv X pins σ H s → wpAny (model X.prog X.w) X.A (isTrue e X.env whole) (TP X pins σ Q) X.xe s
def WPA (X : Cx) (es : List Expr) (σ : St) (H : Hp) (Q : List V → Hp → Prop) : Prop := ∀ (pos : Pos) (pins : List (Addr × Obj)) (s : Shared), Inv X pins σ H s → wpAny (model X.prog X.w) X.A (spliced (backTo pos (starEach es X.env))) (AP X pins σ Q) X.xe s
def WPS (X : Cx) (st : Stmt) (D : Ends) (σ : St) (H : Hp) : Prop := ∀ (pins : List (Addr × Obj)) (s : Shared), Inv X pins σ H s → wpAny (model X.prog X.w) X.A (exec st X.env) (SP X pins D) X.xe s
def WPSs (X : Cx) (st : List Stmt) (D : Ends) (σ : St) (H : Hp) : Prop := ∀ (pins : List (Addr × Obj)) (s : Shared), Inv X pins σ H s → wpAny (model X.prog X.w) X.A (execs st X.env) (SP X pins D) X.xe s
section
variable {X : Cx} {e : Expr} {es : List Expr} {st : Stmt} {sts : List Stmt} {σ : St} {H : Hp}
theorem self_e : PE X e (WPE X e) := ⟨fun pins s _ _ _ I h => h pins s I⟩
theorem self_t : PT X e (WPT X e) := ⟨fun pins s _ _ _ I h => h pins s I⟩
theorem self_w : PW X e (WPW X e) := ⟨fun wh pins s _ _ _ I h => h wh pins s I⟩
theorem self_a : PA X es (WPA X es) := ⟨fun pos pins s _ _ _ I h => h pos pins s I⟩
theorem self_s : PS X st (fun D σ H => WPS X st D σ H) := ⟨fun pins s _ _ _ I h => h pins s I⟩
theorem self_ss : PSs X sts (fun D σ H => WPSs X sts D σ H) := ⟨fun pins s _ _ _ I h => h pins s I⟩
theorem wpe {t : TE} (p : PE X e t) {Q : VK} (h : t σ H Q) : WPE X e σ H Q := fun pins s I => p.run pins s σ H Q I h
theorem wpt {t : TT} (p : PT X e t) {Q : Bool → Hp → Prop} (h : t σ H Q) : WPT X e σ H Q := fun pins s I => p.run pins s σ H Q I h
theorem wpw {t : TT} (p : PW X e t) {Q : Bool → Hp → Prop} (h : t σ H Q) : WPW X e σ H Q := fun wh pins s I => p.run wh pins s σ H Q I h
theorem wpa {t : TA} (p : PA X es t) {Q : List V → Hp → Prop} (h : t σ H Q) : WPA X es σ H Q := fun pos pins s I => p.run pos pins s σ H Q I h
theorem wps {t : TS} (p : PS X st t) {D : Ends} (h : t D σ H) : WPS X st D σ H := fun pins s I => p.run pins s σ H D I h
theorem wpss {t : TS} (p : PSs X sts t) {D : Ends} (h : t D σ H) : WPSs X sts D σ H := fun pins s I => p.run pins s σ H D I h
end

/-- an expression's meaning; a test's; an argument list's -/
structure DE (C : DX) (e : Expr) (f : DEnv → Py D) : Prop where
  run : ∀ {g : G} {ρ : DEnv} {M : Store} {σ : St} {H : Hp} (Q : VK), Rl C g ρ M σ H → Post (f ρ M) (QV C g ρ σ Q) (C.We ρ) → WPE C.X e σ H Q
structure DT (C : DX) (e : Expr) (f : DEnv → Py Bool) : Prop where
  run : ∀ {g : G} {ρ : DEnv} {M : Store} {σ : St} {H : Hp} (Q : Bool → Hp → Prop), Rl C g ρ M σ H → Post (f ρ M) (QT C g ρ σ Q) (C.We ρ) → WPT C.X e σ H Q
structure DW (C : DX) (e : Expr) (f : DEnv → Py Bool) : Prop where
  run : ∀ {g : G} {ρ : DEnv} {M : Store} {σ : St} {H : Hp} (Q : Bool → Hp → Prop), Rl C g ρ M σ H → Post (f ρ M) (QT C g ρ σ Q) (C.We ρ) → WPW C.X e σ H Q
structure DA (C : DX) (es : List Expr) (f : DEnv → Py (List D)) : Prop where
  run : ∀ {g : G} {ρ : DEnv} {M : Store} {σ : St} {H : Hp} (Q : List V → Hp → Prop), Rl C g ρ M σ H → Post (f ρ M) (QA C g ρ σ Q) (C.We ρ) → WPA C.X es σ H Q
/-- how a statement ends -/
inductive Fl where
  | nx (ρ : DEnv) | bk (ρ : DEnv) | ct (ρ : DEnv) | rt (d : D)
def QS (C : DX) (g : G) (E : Ends) : Fl → Store → Prop
  | .nx ρ', M' => ∀ σ' H' g', g.le g' → Rl C g' ρ' M' σ' H' → E.nx σ' H'
  | .bk ρ', M' => ∀ σ' H' g', g.le g' → Rl C g' ρ' M' σ' H' → E.bk σ' H'
  | .ct ρ', M' => ∀ σ' H' g', g.le g' → Rl C g' ρ' M' σ' H' → E.ct σ' H'
  | .rt d, M' => ∀ v H' g', g.le g' → C.B.le g' → RelH C.X.K g' M' H' → Rep C.X.K g' v d → E.rt v H'
/-- a wish about exceptions that does not lean on the names -/
def DX.Even (C : DX) : Prop := ∀ e ρ ρ' M, C.W e ρ M → C.W e ρ' M
structure DS (C : DX) (st : Stmt) (f : DEnv → Py Fl) : Prop where
  run : ∀ {g : G} {ρ : DEnv} {M : Store} {σ : St} {H : Hp} (E : Ends), Rl C g ρ M σ H → Post (f ρ M) (QS C g E) (C.We ρ) → WPS C.X st E σ H
structure DSs (C : DX) (st : List Stmt) (f : DEnv → Py Fl) : Prop where
  run : ∀ {g : G} {ρ : DEnv} {M : Store} {σ : St} {H : Hp} (E : Ends), Rl C g ρ M σ H → Post (f ρ M) (QS C g E) (C.We ρ) → WPSs C.X st E σ H
/-- a binary operation, by values -/
def DOp (C : DX) (f : Value → Value → Sem Value) (op : D → D → Py D) : Prop :=
  ∀ {g : G} {ρ : DEnv} {M : Store} {σ : St} {H : Hp} {x y : V} {dx dy : D} {v u : Value} {pins : List (Addr × Obj)} {s : Shared} (Q : VK), Rl C g ρ M σ H → Inv C.X pins σ H s → RelV x v → RelV y u → Rep C.X.K g x dx → Rep C.X.K g y dy →
    Post (op dx dy M) (QV C g ρ σ Q) (C.We ρ) → wpAny (model C.X.prog C.X.w) C.X.A (f v u) (EP C.X pins σ Q) C.X.xe s
def DUn (C : DX) (f : Value → Sem Value) (op : D → Py D) : Prop :=
  ∀ {g : G} {ρ : DEnv} {M : Store} {σ : St} {H : Hp} {x : V} {dx : D} {v : Value} {pins : List (Addr × Obj)} {s : Shared} (Q : VK), Rl C g ρ M σ H → Inv C.X pins σ H s → RelV x v → Rep C.X.K g x dx →
    Post (op dx M) (QV C g ρ σ Q) (C.We ρ) → wpAny (model C.X.prog C.X.w) C.X.A (f v) (EP C.X pins σ Q) C.X.xe s
/-- a call of the value f, by values -/
def DCall (C : DX) (f : Value) (op : List D → Py D) : Prop :=
  ∀ {g : G} {ρ : DEnv} {M : Store} {σ : St} {H : Hp} {xs : List V} {ds : List D} {us : List Value} {pins : List (Addr × Obj)} {s : Shared} (Q : VK), Rl C g ρ M σ H → Inv C.X pins σ H s → Vals xs us → Reps C.X.K g xs ds →
    Post (op ds M) (QV C g ρ σ Q) (C.We ρ) → wpAny (model C.X.prog C.X.w) C.X.A (call f us) (EP C.X pins σ Q) C.X.xe s
/-- such an operation, by what the layer below asks -/
theorem DOp.of {C : DX} {f : Value → Value → Sem Value} {r : R2} {op : D → D → Py D} (ho : OpR C.X f r)
    (h : ∀ {g : G} {ρ : DEnv} {M : Store} {σ : St} {H : Hp} {x y : V} {dx dy : D} (Q : VK), Rl C g ρ M σ H → Rep C.X.K g x dx → Rep C.X.K g y dy → Post (op dx dy M) (QV C g ρ σ Q) (C.We ρ) → r x y H Q) : DOp C f op := by
  intro g ρ M σ H x y dx dy v u pins s Q R I rx ry dx' dy' p
  exact ho pins s σ H x y v u Q I rx ry (h Q R dx' dy' p)
theorem DUn.of {C : DX} {f : Value → Sem Value} {r : V → Hp → VK → Prop} {op : D → Py D} (ho : UnR C.X f r)
    (h : ∀ {g : G} {ρ : DEnv} {M : Store} {σ : St} {H : Hp} {x : V} {dx : D} (Q : VK), Rl C g ρ M σ H → Rep C.X.K g x dx → Post (op dx M) (QV C g ρ σ Q) (C.We ρ) → r x H Q) : DUn C f op := by
  intro g ρ M σ H x dx v pins s Q R I rx dx' p
  exact ho pins s σ H x v Q I rx (h Q R dx' p)
theorem DCall.of {C : DX} {f : Value} {r : List V → Hp → VK → Prop} {op : List D → Py D} (ho : CallR C.X f r)
    (h : ∀ {g : G} {ρ : DEnv} {M : Store} {σ : St} {H : Hp} {xs : List V} {ds : List D} (Q : VK), Rl C g ρ M σ H → Reps C.X.K g xs ds → Post (op ds M) (QV C g ρ σ Q) (C.We ρ) → r xs H Q) : DCall C f op := by
  intro g ρ M σ H xs ds us pins s Q R I rx dx' p
  exact ho pins s σ H xs us Q I rx (h Q R dx' p)

theorem QV.here {C : DX} {g : G} {ρ : DEnv} {σ : St} {Q : VK} {d : D} {M : Store} {H : Hp} {v : V} (h : QV C g ρ σ Q d M) (R : Rl C g ρ M σ H) (r : Rep C.X.K g v d) : Q v H := h v H g (G.le.refl g) R r
/-- a later ground -/
theorem QV.later {C : DX} {g g' : G} {ρ : DEnv} {σ : St} {Q : VK} {d : D} {M : Store} (h : QV C g ρ σ Q d M) (l : g.le g') : QV C g' ρ σ Q d M := fun v H' g'' l' => h v H' g'' (l.trans l')
theorem QT.later {C : DX} {g g' : G} {ρ : DEnv} {σ : St} {Q : Bool → Hp → Prop} {d : Bool} {M : Store} (h : QT C g ρ σ Q d M) (l : g.le g') : QT C g' ρ σ Q d M := fun H' g'' l' => h H' g'' (l.trans l')
theorem QA.later {C : DX} {g g' : G} {ρ : DEnv} {σ : St} {Q : List V → Hp → Prop} {d : List D} {M : Store} (h : QA C g ρ σ Q d M) (l : g.le g') : QA C g' ρ σ Q d M := fun v H' g'' l' => h v H' g'' (l.trans l')
theorem QS.later {C : DX} {g g' : G} {E : Ends} {d : Fl} {M : Store} (h : QS C g E d M) (l : g.le g') : QS C g' E d M := by
  cases d with
  | nx ρ => exact fun σ' H' g'' l' => h σ' H' g'' (l.trans l')
  | bk ρ => exact fun σ' H' g'' l' => h σ' H' g'' (l.trans l')
  | ct ρ => exact fun σ' H' g'' l' => h σ' H' g'' (l.trans l')
  | rt d => exact fun σ' H' g'' l' => h σ' H' g'' (l.trans l')

section
variable {C : DX} {e a b : Expr} {es rest : List Expr} {f fa fb : DEnv → Py D} {ff : DEnv → Py (List D)} {pos : Pos}
/-- run a part, then go on from what it gives -/
theorem DE.then_ (h : DE C e f) {g : G} {ρ : DEnv} {M : Store} {σ : St} {H : Hp} {α : Type} {k : D → Py α} {q : α → Store → Prop} {Q : VK} (R : Rl C g ρ M σ H) (p : Post (Py.bnd (f ρ) k M) q (C.We ρ))
    (go : ∀ (v : V) (d : D) (M' : Store) (H' : Hp) (g' : G), g.le g' → Rl C g' ρ M' σ H' → Rep C.X.K g' v d → Post (k d M') q (C.We ρ) → Q v H') : WPE C.X e σ H Q :=
  h.run Q R ((post_bnd.mp p).imp fun d M' p' v H' g' l R' r => go v d M' H' g' l R' r p')
theorem DT.then_ {f : DEnv → Py Bool} (h : DT C e f) {g : G} {ρ : DEnv} {M : Store} {σ : St} {H : Hp} {α : Type} {k : Bool → Py α} {q : α → Store → Prop} {Q : Bool → Hp → Prop} (R : Rl C g ρ M σ H) (p : Post (Py.bnd (f ρ) k M) q (C.We ρ))
    (go : ∀ (c : Bool) (M' : Store) (H' : Hp) (g' : G), g.le g' → Rl C g' ρ M' σ H' → Post (k c M') q (C.We ρ) → Q c H') : WPT C.X e σ H Q :=
  h.run Q R ((post_bnd.mp p).imp fun d M' p' H' g' l R' => go d M' H' g' l R' p')
theorem DA.then_ (h : DA C es ff) {g : G} {ρ : DEnv} {M : Store} {σ : St} {H : Hp} {α : Type} {k : List D → Py α} {q : α → Store → Prop} {Q : List V → Hp → Prop} (R : Rl C g ρ M σ H) (p : Post (Py.bnd (ff ρ) k M) q (C.We ρ))
    (go : ∀ (vs : List V) (ds : List D) (M' : Store) (H' : Hp) (g' : G), g.le g' → Rl C g' ρ M' σ H' → Reps C.X.K g' vs ds → Post (k ds M') q (C.We ρ) → Q vs H') : WPA C.X es σ H Q :=
  h.run Q R ((post_bnd.mp p).imp fun d M' p' v H' g' l R' r => go v d M' H' g' l R' r p')

/-! ### names, constants -/
def getV (o : Option (Option D)) : Py D := match o with
  | some (some d) => Py.ret d
  | _ => Py.bad
def eVar (i : Nat) : DEnv → Py D := fun ρ => getV ρ[i]?
def eC (d : D) : DEnv → Py D := fun _ => Py.ret d
theorem de_var {i : Nat} {x : Str} (hN : C.X.N[i]? = some x := by rfl) (hv : Vis C.X.env.scope x := by first | exact Or.inl rfl | exact Or.inr (Or.inl rfl) | exact Or.inr (Or.inr rfl)) (hd : (x == ("__debug__" : Str)) = false := by decide)
    (hcd : (x == ("__classdict__" : Str)) = false := by decide) : DE C (.Name x pos) (eVar i) := ⟨fun {g ρ M σ H} Q R p => by
  refine wpe (pe_var hN hv hd hcd) ?_
  have p' : Post (getV ρ[i]? M) (QV C g ρ σ Q) (C.We ρ) := p
  cases e : ρ[i]? with
  | none => rw [e] at p'; exact p'.elim
  | some o =>
    cases o with
    | none => rw [e] at p'; exact p'.elim
    | some d =>
      rw [e] at p'
      obtain ⟨v, q, r⟩ := R.e.at_ i d e
      exact ⟨v, q, QV.here p' R r⟩⟩
theorem de_pe {d : D} {v : V} (h : PE C.X e (tC v)) (r : ∀ g, Rep C.X.K g v d) : DE C e (eC d) := ⟨fun {g ρ M σ H} Q R p => wpe h (show Q v H from QV.here p R (r g))⟩
theorem de_int {i : Int} {j : Nat} : DE C (.Constant (.int i) j pos) (eC (.int i)) := de_pe pe_int fun _ => .int i
theorem de_bl {i : Bool} {j : Nat} : DE C (.Constant (.bool i) j pos) (eC (.bl i)) := de_pe pe_bl fun _ => .bl i
theorem de_non {j : Nat} : DE C (.Constant .none j pos) (eC .non) := de_pe pe_non fun _ => .non
theorem de_str {i : Str} {j : Nat} : DE C (.Constant (.str i) j pos) (eC (.str i)) := de_pe pe_str fun _ => .str i
/-- a module's constant -/
theorem de_gint {x : Str} {i : Int} {t : Tok} (hm : C.X.mg x = some (.int i t)) (hg : Gl C.X x := by rfl) (hd : (x == ("__debug__" : Str)) = false := by decide) : DE C (.Name x pos) (eC (.int i)) :=
  de_pe (pe_glob hg hm (show RelV (.int i) _ from ⟨t, rfl⟩) hd) fun _ => .int i
theorem de_gstr {x : Str} {i : Str} {t : Tok} (hm : C.X.mg x = some (.str i t)) (hg : Gl C.X x := by rfl) (hd : (x == ("__debug__" : Str)) = false := by decide) : DE C (.Name x pos) (eC (.str i)) :=
  de_pe (pe_glob hg hm (show RelV (.str i) _ from ⟨t, rfl⟩) hd) fun _ => .str i
theorem de_gref {x : Str} {i : Addr} (hm : C.X.mg x = some (.ref i)) (hg : Gl C.X x := by rfl) (hd : (x == ("__debug__" : Str)) = false := by decide) : DE C (.Name x pos) (eC (.ref i)) :=
  de_pe (pe_glob hg hm (show RelV (.ref i) _ from rfl) hd) fun _ => .ref i
/-- a built-in type -/
theorem de_ty {x : Str} {T : String} (hm : C.X.mg x = none) (hv : bootBuiltins x = some (.type T)) (hg : Gl C.X x := by rfl) (hn : x ≠ "__name__" := by decide) (hd : (x == ("__debug__" : Str)) = false := by decide) : DE C (.Name x pos) (eC (.ty T)) :=
  de_pe (pe_bltn hg hm hv (show RelV (.ty T) _ from rfl) hn hd) fun _ => .ty T

/-! ### operators -/
def eOp (op : D → D → Py D) (fa fb : DEnv → Py D) : DEnv → Py D := fun ρ => Py.bnd (fa ρ) fun x => Py.bnd (fb ρ) fun y => op x y
def eUn (op : D → Py D) (fa : DEnv → Py D) : DEnv → Py D := fun ρ => Py.bnd (fa ρ) fun x => op x
/-- two expressions in a row -/
theorem two {op : D → D → Py D} {fv : Value → Value → Sem Value} (ho : DOp C fv op) (ha : DE C a fa) (hb : DE C b fb) {g : G} {ρ : DEnv} {M : Store} {σ : St} {H : Hp} {Q : VK} (R : Rl C g ρ M σ H) (p : Post (eOp op fa fb ρ M) (QV C g ρ σ Q) (C.We ρ))
    {pins : List (Addr × Obj)} {s : Shared} (I : Inv C.X pins σ H s) :
    wpAny (model C.X.prog C.X.w) C.X.A (eval a C.X.env) (fun v s₁ => wpAny (model C.X.prog C.X.w) C.X.A (eval b C.X.env) (fun u s₂ => wpAny (model C.X.prog C.X.w) C.X.A (fv v u) (EP C.X pins σ Q) C.X.xe s₂) C.X.xe s₁) C.X.xe s := by
  refine bin (R := fun x y H2 => ∀ v u pins s, Inv C.X pins σ H2 s → RelV x v → RelV y u → wpAny (model C.X.prog C.X.w) C.X.A (fv v u) (EP C.X pins σ Q) C.X.xe s) self_e self_e I ?_ fun v u s2 x y H2 I2 rx ry h => h v u pins s2 I2 rx ry
  refine ha.then_ R p fun v d M1 H1 g1 l1 R1 r1 p1 => ?_
  refine hb.then_ R1 p1 fun u d2 M2 H2 g2 l2 R2 r2 p2 => ?_
  intro vv uu pins s I2 rx ry
  exact ho Q R2 I2 rx ry (r1.mono l2) r2 (p2.imp fun _ _ z => z.later (l1.trans l2))
theorem de_op {o : Operator} {op : D → D → Py D} (ho : DOp C (binaryOp o) op) (ha : DE C a fa) (hb : DE C b fb) : DE C (.BinOp a o b pos) (eOp op fa fb) :=
  ⟨fun Q R p pins s I => wpAny_BinOp (two ho ha hb R p I)⟩
theorem de_un {o : UnaryOp} {op : D → Py D} (ho : DUn C (unaryOp o) op) (ha : DE C a fa) : DE C (.UnaryOp o a pos) (eUn op fa) := ⟨fun {g ρ M σ H} Q R p pins s I => by
  refine UnaryOp_ (thn ((ha.then_ (Q := fun v H1 => ∃ d M1 g1, g.le g1 ∧ Rl C g1 ρ M1 σ H1 ∧ Rep C.X.K g1 v d ∧ Post (op d M1) (QV C g ρ σ Q) (C.We ρ)) R p fun v d M1 H1 g1 l1 R1 r1 p1 => ⟨d, M1, g1, l1, R1, r1, p1⟩) pins s I) fun v s1 ⟨x, H1, I1, rx, d, M1, g1, l1, R1, r1, p1⟩ => ?_)
  exact ho Q R1 I1 rx r1 (p1.imp fun _ _ z => z.later l1)⟩
theorem de_cmp {o : CmpOp} {op : D → D → Py D} (ho : DOp C (compareOp o) op) (ha : DE C a fa) (hb : DE C b fb) (hm : behindInMarks o b = false := by first | exact nobehind _ (by decide) (by decide) | rfl) : DE C (.Compare a [o] [b] pos) (eOp op fa fb) :=
  ⟨fun Q R p pins s I => wpAny_Compare1 (two ho ha hb R p I) hm⟩
/-- the truth of a bool -/
def truB : D → Py Bool
  | .bl b => Py.ret b
  | _ => Py.bad
def eTest (f : DEnv → Py D) : DEnv → Py Bool := fun ρ => Py.bnd (f ρ) truB
theorem truB_post {C : DX} {d : D} {M : Store} {q : Bool → Store → Prop} {E : Exn → Store → Prop} (h : Post (truB d M) q E) : ∃ b, d = .bl b ∧ q b M := by
  cases d with
  | bl b => exact ⟨b, rfl, h⟩
  | _ => exact h.elim
theorem rep_bl {K : PySem.W.Frag} {g : G} {v : V} {b : Bool} (r : Rep K g v (.bl b)) : v = .bl b := by cases r; rfl
theorem rep_int {K : PySem.W.Frag} {g : G} {v : V} {b : Int} (r : Rep K g v (.int b)) : v = .int b := by cases r; rfl
theorem rep_str {K : PySem.W.Frag} {g : G} {v : V} {b : Str} (r : Rep K g v (.str b)) : v = .str b := by cases r; rfl
theorem rep_non {K : PySem.W.Frag} {g : G} {v : V} (r : Rep K g v .non) : v = .non := by cases r; rfl
theorem post_test {f : DEnv → Py D} {g : G} {ρ : DEnv} {M : Store} {σ : St} {Q : Bool → Hp → Prop} (p : Post (eTest f ρ M) (QT C g ρ σ Q) (C.We ρ)) : Post (f ρ M) (QV C g ρ σ fun x H1 => ∃ c, x = .bl c ∧ Q c H1) (C.We ρ) := by
  refine (post_bnd.mp p).imp fun d M' p' => ?_
  obtain ⟨b, rfl, q⟩ := truB_post (C := C) p'
  intro v H' g' l R' r
  exact ⟨b, rep_bl r, q H' g' l R'⟩
/-- an expression whose value is a bool, as a test -/
theorem dt_val (h : DE C e f) (he : ∀ whole, isTrue e C.X.env whole = (do let v ← whole; standAt e.pos; holding [v] (truthy v)) := by intro _; rfl) : DT C e (eTest f) := ⟨fun {g ρ M σ H} Q R p =>
  wpt (pt_val self_e he) (h.run _ R (post_test p))⟩
theorem dt_cmp {o : CmpOp} {op : D → D → Py D} (ho : DOp C (compareOp o) op) (ha : DE C a fa) (hb : DE C b fb) (hm : behindInMarks o b = false := by first | exact nobehind _ (by decide) (by decide) | rfl) : DT C (.Compare a [o] [b] pos) (eTest (eOp op fa fb)) := ⟨fun {g ρ M σ H} Q R p pins s I => by
  refine wpAny_isTrue_Compare1 (thn (two ho ha hb R (post_test p) I) fun v s1 h1 => thn h1 fun u s2 h2 => thn h2 fun c s3 ⟨z, H3, I3, r3, k, e, q3⟩ => ?_) hm
  subst e
  cases r3
  exact wpAny_truthy_bool ⟨H3, I3, q3⟩⟩

/-! ### chains -/
def eChain (op op' : D → D → Py D) (fa fb fc : DEnv → Py D) : DEnv → Py D := fun ρ => Py.bnd (fa ρ) fun x => Py.bnd (fb ρ) fun y => Py.bnd (op x y) fun z => Py.bnd (truB z) fun k => if k then Py.bnd (fc ρ) fun w' => op' y w' else Py.ret (.bl false)
theorem de_chain {c : Expr} {fc : DEnv → Py D} {o o' : CmpOp} {op op' : D → D → Py D} (ho : DOp C (compareOp o) op) (ho' : DOp C (compareOp o') op') (ha : DE C a fa) (hb : DE C b fb) (hc : DE C c fc)
    (hm : lastMarks [o, o'] [b, c] = false := by with_unfolding_all rfl) : DE C (.Compare a [o, o'] [b, c] pos) (eChain op op' fa fb fc) := ⟨fun {g ρ M σ H} Q R p pins s I => by
  refine Compare_chain (thn ((ha.then_ (Q := fun v H1 => ∃ d M1 g1, g.le g1 ∧ Rl C g1 ρ M1 σ H1 ∧ Rep C.X.K g1 v d ∧ Post (Py.bnd (fb ρ) (fun y => Py.bnd (op d y) fun z => Py.bnd (truB z) fun k => if k then Py.bnd (fc ρ) fun w' => op' y w' else Py.ret (.bl false)) M1) (QV C g ρ σ Q) (C.We ρ)) R p
    fun v d M1 H1 g1 l1 R1 r1 p1 => ⟨d, M1, g1, l1, R1, r1, p1⟩) pins s I) fun v s1 ⟨x, H1, I1, rx, d, M1, g1, l1, R1, r1, p1⟩ => chain_link ?_) hm
  refine thn ((hb.then_ (Q := fun v H2 => ∃ y M2 g2, g1.le g2 ∧ Rl C g2 ρ M2 σ H2 ∧ Rep C.X.K g2 v y ∧ Post (Py.bnd (op d y) (fun z => Py.bnd (truB z) fun k => if k then Py.bnd (fc ρ) fun w' => op' y w' else Py.ret (.bl false)) M2) (QV C g ρ σ Q) (C.We ρ)) R1 p1
    fun v d M1 H1 g1 l1 R1 r1 p1 => ⟨d, M1, g1, l1, R1, r1, p1⟩) pins s1 I1) fun u s2 ⟨x2, H2, I2, rx2, y, M2, g2, l2, R2, r2, p2⟩ => ?_
  have p3 := post_bnd.mp p2
  refine thn (ho (fun z H3 => ∃ k M3 g3, z = .bl k ∧ g2.le g3 ∧ Rl C g3 ρ M3 σ H3 ∧ Post ((if k then Py.bnd (fc ρ) fun w' => op' y w' else Py.ret (.bl false) : Py D) M3) (QV C g ρ σ Q) (C.We ρ)) R2 I2 rx rx2 (r1.mono l2) r2 (p3.imp fun z M3 q z' H3 g3 l3 R3 r3 => ?_)) fun d' s3 ⟨z, H3, I3, r3, k, M3, g3, e, l3, R3, p4⟩ => ?_
  · obtain ⟨k, rfl, q'⟩ := truB_post (C := C) (post_bnd.mp q)
    exact ⟨k, M3, g3, rep_bl r3, l3, R3, q'⟩
  · subst e
    cases r3
    refine wpAny_truthy_bool ?_
    cases k with
    | false => exact ite_ff ⟨.bl false, H3, I3, rfl, QV.here (QV.later (g' := g3) p4 ((l1.trans l2).trans l3)) R3 (.bl false)⟩
    | true =>
      refine ite_tt (chain_last (thn ((hc.then_ (Q := fun v H4 => ∃ w' M4 g4, g3.le g4 ∧ Rl C g4 ρ M4 σ H4 ∧ Rep C.X.K g4 v w' ∧ Post (op' y w' M4) (QV C g ρ σ Q) (C.We ρ)) R3 p4 fun v d M1 H1 g1 l1 R1 r1 p1 => ⟨d, M1, g1, l1, R1, r1, p1⟩) pins s3 I3)
        fun w' s4 ⟨z', H4, I4, r4, d4, M4, g4, l4, R4, r5, p5⟩ => ho' Q R4 I4 rx2 r4 (r2.mono (l3.trans l4)) r5 (p5.imp fun _ _ q => q.later (((l1.trans l2).trans l3).trans l4))))⟩
theorem isTrue_chain_val (ops : List CmpOp) (rest : List Expr) : True := trivial

/-! ### and, or, not, if -/
def tAndD (fa fb : DEnv → Py Bool) : DEnv → Py Bool := fun ρ => Py.bnd (fa ρ) fun c => if c then fb ρ else Py.ret false
def tOrD (fa fb : DEnv → Py Bool) : DEnv → Py Bool := fun ρ => Py.bnd (fa ρ) fun c => if c then Py.ret true else fb ρ
def tNotD (fa : DEnv → Py Bool) : DEnv → Py Bool := fun ρ => Py.bnd (fa ρ) fun c => Py.ret (!c)
variable {ta tb : DEnv → Py Bool}
theorem dw_pt (h : DW C e ta) : DT C e ta := ⟨fun Q R p pins s I => h.run Q R p _ pins s I⟩
theorem dw_and1 (ha : DT C a ta) : DW C (.BoolOp .And [a] pos) ta := ⟨fun Q R p => wpw (pw_and1 self_t) (ha.run Q R p)⟩
theorem dw_or1 (ha : DT C a ta) : DW C (.BoolOp .Or [a] pos) ta := ⟨fun Q R p => wpw (pw_or1 self_t) (ha.run Q R p)⟩
theorem dw_and (ha : DT C a ta) (hb : DW C (.BoolOp .And (b :: rest) pos) tb) : DW C (.BoolOp .And (a :: b :: rest) pos) (tAndD ta tb) := ⟨fun {g ρ M σ H} Q R p => by
  refine wpw (pw_and self_t self_w) (ha.then_ R p fun c M1 H1 g1 l1 R1 p1 => ?_)
  cases c with
  | true => exact hb.run Q R1 (p1.imp fun _ _ q => q.later l1)
  | false => exact p1 H1 g1 l1 R1⟩
theorem dw_or (ha : DT C a ta) (hb : DW C (.BoolOp .Or (b :: rest) pos) tb) : DW C (.BoolOp .Or (a :: b :: rest) pos) (tOrD ta tb) := ⟨fun {g ρ M σ H} Q R p => by
  refine wpw (pw_or self_t self_w) (ha.then_ R p fun c M1 H1 g1 l1 R1 p1 => ?_)
  cases c with
  | false => exact hb.run Q R1 (p1.imp fun _ _ q => q.later l1)
  | true => exact p1 H1 g1 l1 R1⟩
theorem dt_not (ha : DT C a ta) : DT C (.UnaryOp .Not a pos) (tNotD ta) := ⟨fun {g ρ M σ H} Q R p => wpt (pt_not self_t) (ha.then_ R p fun c M1 H1 g1 l1 R1 p1 => p1 H1 g1 l1 R1)⟩
/-- as values -/
def eAnd (fa fb : DEnv → Py D) : DEnv → Py D := fun ρ => Py.bnd (fa ρ) fun d => Py.bnd (truB d) fun c => if c then fb ρ else Py.ret (.bl false)
def eOr (fa fb : DEnv → Py D) : DEnv → Py D := fun ρ => Py.bnd (fa ρ) fun d => Py.bnd (truB d) fun c => if c then Py.ret (.bl true) else fb ρ
def eNot (fa : DEnv → Py D) : DEnv → Py D := fun ρ => Py.bnd (fa ρ) fun d => Py.bnd (truB d) fun c => Py.ret (.bl (!c))
theorem de_one {o : BoolOp} (h : DE C a fa) : DE C (.BoolOp o [a] pos) fa := ⟨fun Q R p => wpe (pe_one self_e) (h.run Q R p)⟩
theorem de_and (ha : DE C a fa) (hb : DE C (.BoolOp .And (b :: rest) pos) fb) : DE C (.BoolOp .And (a :: b :: rest) pos) (eAnd fa fb) := ⟨fun {g ρ M σ H} Q R p => by
  refine wpe (pe_and self_e self_e) (ha.then_ R p fun v d M1 H1 g1 l1 R1 r1 p1 => ?_)
  obtain ⟨c, rfl, p2⟩ := truB_post (C := C) (post_bnd.mp p1)
  refine ⟨c, rep_bl r1, ?_⟩
  cases c with
  | true => rw [if_pos rfl]; exact hb.run Q R1 (Post.imp (show Post (fb ρ M1) _ _ from p2) fun _ _ q => q.later l1)
  | false => rw [if_neg Bool.false_ne_true]; exact QV.here (QV.later (g' := g1) p2 l1) R1 (.bl false)⟩
theorem de_or (ha : DE C a fa) (hb : DE C (.BoolOp .Or (b :: rest) pos) fb) : DE C (.BoolOp .Or (a :: b :: rest) pos) (eOr fa fb) := ⟨fun {g ρ M σ H} Q R p => by
  refine wpe (pe_or self_e self_e) (ha.then_ R p fun v d M1 H1 g1 l1 R1 r1 p1 => ?_)
  obtain ⟨c, rfl, p2⟩ := truB_post (C := C) (post_bnd.mp p1)
  refine ⟨c, rep_bl r1, ?_⟩
  cases c with
  | false => rw [if_neg Bool.false_ne_true]; exact hb.run Q R1 (Post.imp (show Post (fb ρ M1) _ _ from p2) fun _ _ q => q.later l1)
  | true => rw [if_pos rfl]; exact QV.here (QV.later (g' := g1) p2 l1) R1 (.bl true)⟩
theorem de_not (ha : DE C a fa) : DE C (.UnaryOp .Not a pos) (eNot fa) := ⟨fun {g ρ M σ H} Q R p => by
  refine wpe (pe_not self_e) (ha.then_ R p fun v d M1 H1 g1 l1 R1 r1 p1 => ?_)
  obtain ⟨c, rfl, p2⟩ := truB_post (C := C) (post_bnd.mp p1)
  exact ⟨c, rep_bl r1, QV.here (QV.later (g' := g1) p2 l1) R1 (.bl _)⟩⟩
def eIf (t : DEnv → Py Bool) (fa fb : DEnv → Py D) : DEnv → Py D := fun ρ => Py.bnd (t ρ) fun c => if c then fa ρ else fb ρ
theorem de_if {c : Expr} (hc : DT C c ta) (ha : DE C a fa) (hb : DE C b fb) : DE C (.IfExp c a b pos) (eIf ta fa fb) := ⟨fun {g ρ M σ H} Q R p => by
  refine wpe (pe_ifExp self_t self_e self_e) (hc.then_ R p fun c M1 H1 g1 l1 R1 p1 => ?_)
  cases c with
  | true => rw [if_pos rfl]; exact ha.run Q R1 (Post.imp (show Post (fa ρ M1) _ _ from p1) fun _ _ q => q.later l1)
  | false => rw [if_neg Bool.false_ne_true]; exact hb.run Q R1 (Post.imp (show Post (fb ρ M1) _ _ from p1) fun _ _ q => q.later l1)⟩

/-! ### lists of expressions, displays -/
def aNil : DEnv → Py (List D) := fun _ => Py.ret []
def aCons (f : DEnv → Py D) (r : DEnv → Py (List D)) : DEnv → Py (List D) := fun ρ => Py.bnd (f ρ) fun x => Py.bnd (r ρ) fun xs => Py.ret (x :: xs)
theorem da_nil : DA C [] aNil := ⟨fun {g ρ M σ H} Q R p => wpa pa_nil (show Q [] H from p [] H g (G.le.refl g) R .nil)⟩
theorem da_cons (ha : DE C e f) (hr : DA C es ff) (hs : starEach (e :: es) C.X.env = (false, eval e C.X.env) :: starEach es C.X.env := by rfl) : DA C (e :: es) (aCons f ff) := ⟨fun {g ρ M σ H} Q R p => by
  refine wpa (pa_cons self_e self_a hs) (ha.then_ R p fun v d M1 H1 g1 l1 R1 r1 p1 => ?_)
  refine hr.then_ R1 p1 fun vs ds M2 H2 g2 l2 R2 r2 p2 => ?_
  exact p2 _ H2 g2 (l1.trans l2) R2 (.cons (r1.mono l2) r2)⟩
/-- a new thing that never changes -/
theorem QV.lay {g : G} {ρ : DEnv} {M : Store} {σ : St} {H : Hp} {Q : VK} {d : D} (q : QV C g ρ σ Q d M) (R : Rl C g ρ M σ H) {p : Addr} {o : HO} (h : H p = none) (r : Rep C.X.K (g.add p o) (.ref p) d) : Q (.ref p) (upd H p o) :=
  q (.ref p) _ (g.add p o) (G.le_add (R.h.fnone h)) (R.next (G.le_add (R.h.fnone h)) (R.h.laid h)) r
theorem rep_tup_new {K : PySem.W.Frag} {g : G} {p : Addr} {vs : List V} {ds : List D} (r : Reps K g vs ds) (h : g.F p = none) : Rep K (g.add p (.tup vs)) (.ref p) (.tup ds) := .tup upd_same (r.mono (G.le_add h))
theorem rep_lst_new {K : PySem.W.Frag} {g : G} {p : Addr} {vs : List V} {ds : List D} (r : Reps K g vs ds) (h : g.F p = none) : Rep K (g.add p (.lst vs)) (.ref p) (.lst ds) := .lst upd_same (r.mono (G.le_add h))
def eTup (ff : DEnv → Py (List D)) : DEnv → Py D := fun ρ => Py.bnd (ff ρ) fun ds => Py.chk (ds.length ≤ sizeLine) (Py.ret (.tup ds))
/-- a list that is never changed -/
def eLst (ff : DEnv → Py (List D)) : DEnv → Py D := fun ρ => Py.bnd (ff ρ) fun ds => Py.chk (ds.length ≤ sizeLine) (Py.ret (.lst ds))
theorem de_tup {x1 : Nat} (h : DA C es ff) : DE C (.Tuple es x1 pos) (eTup ff) := ⟨fun {g ρ M σ H} Q R p => by
  refine wpe (pe_tup self_a) (h.then_ R p fun vs ds M1 H1 g1 l1 R1 r1 p1 => ?_)
  obtain ⟨hz, q⟩ := post_chk.mp p1
  exact ⟨by rw [r1.length]; exact hz, fun p hp => QV.lay (QV.later (g' := g1) q l1) R1 hp (rep_tup_new r1 (R1.h.fnone hp))⟩⟩
theorem de_lst (h : DA C es ff) : DE C (.List es pos) (eLst ff) := ⟨fun {g ρ M σ H} Q R p => by
  refine wpe (pe_lst self_a) (h.then_ R p fun vs ds M1 H1 g1 l1 R1 r1 p1 => ?_)
  obtain ⟨hz, q⟩ := post_chk.mp p1
  exact ⟨by rw [r1.length]; exact hz, fun p hp => QV.lay (QV.later (g' := g1) q l1) R1 hp (rep_lst_new r1 (R1.h.fnone hp))⟩⟩
/-- a list that will change -/
def alloc (o : MO) : Py D := fun M => .ok (.loc M.length) (M ++ [some o])
def eNew (ff : DEnv → Py (List D)) : DEnv → Py D := fun ρ => Py.bnd (ff ρ) fun ds => Py.chk (ds.length ≤ sizeLine) (alloc (.lst ds))
theorem QV.make {g : G} {ρ : DEnv} {M : Store} {σ : St} {H : Hp} {Q : VK} {mo : MO} {E : Exn → Store → Prop} (q : Post (alloc mo M) (QV C g ρ σ Q) E) (R : Rl C g ρ M σ H) {p : Addr} {o : HO} (h : H p = none) (r : ObjRep C.X.K (g.more p) (upd H p o) p mo) : Q (.ref p) (upd H p o) := by
  refine q (.ref p) _ (g.more p) G.le_more (R.next G.le_more (R.h.made h r)) (.loc ?_)
  show (g.io ++ [p])[M.length]? = some p
  rw [← R.h.len, List.getElem?_concat_length]
theorem de_new (h : DA C es ff) : DE C (.List es pos) (eNew ff) := ⟨fun {g ρ M σ H} Q R p => by
  refine wpe (pe_lst self_a) (h.then_ R p fun vs ds M1 H1 g1 l1 R1 r1 p1 => ?_)
  obtain ⟨hz, q⟩ := post_chk.mp p1
  exact ⟨by rw [r1.length]; exact hz, fun p hp => QV.make (q.imp fun _ _ z => QV.later (g' := g1) z l1) R1 hp ⟨vs, upd_same, r1.mono G.le_more⟩⟩⟩
end
end L3
set_option Elab.async false
set_option linter.all false
set_option maxRecDepth 100000
set_option autoImplicit false
namespace L3
open PySem PySem.Spec L2
open PyProof.Rows hiding St

/-! ### sequences -/
/-- the items of a tuple or a list -/
def items (d : D) : Py (List D) := match d with
  | .tup xs => Py.ret xs
  | .lst xs => Py.ret xs
  | .ro xs => Py.ret xs
  | .loc n => fun M => match M[n]? with
    | some (some (.lst xs)) => .ok xs M
    | _ => .bad
  | _ => Py.bad
/-- of a list -/
def litems (d : D) : Py (List D) := match d with
  | .tup _ => Py.bad
  | d => items d
/-- of a list that is no script -/
def xitems (d : D) : Py (List D) := match d with
  | .ro _ => Py.bad
  | d => litems d
section
variable {K : PySem.W.Frag} {g : G} {M : Store} {H : Hp} {v : V} {d : D} {q : List D → Store → Prop} {E : Exn → Store → Prop}
theorem loc_lst {n : Nat} {xs : List D} (R : RelH K g M H) (r : Rep K g v (.loc n)) (e : M[n]? = some (some (.lst xs))) : ∃ a vs, v = .ref a ∧ g.io[n]? = some a ∧ H a = some (.lst vs) ∧ Reps K g vs xs := by
  cases r with
  | loc e1 =>
    obtain ⟨a, e2, e3, vs, e4, e5⟩ := R.liv n _ e
    rw [e1] at e2
    cases e2
    exact ⟨_, vs, rfl, e1, e4, e5⟩
theorem items_post (R : RelH K g M H) (r : Rep K g v d) (p : Post (items d M) q E) : ∃ a vs ds, v = .ref a ∧ (SqL K H a vs ∨ SqT K H a vs) ∧ Reps K g vs ds ∧ q ds M := by
  cases r with
  | tup s t => exact ⟨_, _, _, rfl, .inr (.of (R.frz _ _ s)), t, p⟩
  | lst s t => exact ⟨_, _, _, rfl, .inl (.of (R.frz _ _ s)), t, p⟩
  | ro s t => exact ⟨_, _, _, rfl, .inl (sqL_mono R.frz s), t, p⟩
  | @loc n a e1 =>
    have p' : Post ((match M[n]? with | some (some (.lst xs)) => .ok xs M | _ => .bad) : Out (List D)) q E := p
    split at p'
    · rename_i xs e
      obtain ⟨a', vs, ea, e2, e4, e5⟩ := loc_lst R (.loc e1) e
      exact ⟨a', vs, xs, ea, .inl (.of e4), e5, p'⟩
    · exact p'.elim
  | _ => exact p.elim
theorem litems_post (R : RelH K g M H) (r : Rep K g v d) (p : Post (litems d M) q E) : ∃ a vs ds, v = .ref a ∧ SqL K H a vs ∧ Reps K g vs ds ∧ q ds M := by
  cases r with
  | tup s t => exact p.elim
  | lst s t => exact ⟨_, _, _, rfl, .of (R.frz _ _ s), t, p⟩
  | ro s t => exact ⟨_, _, _, rfl, sqL_mono R.frz s, t, p⟩
  | @loc n a e1 =>
    have p' : Post ((match M[n]? with | some (some (.lst xs)) => .ok xs M | _ => .bad) : Out (List D)) q E := p
    split at p'
    · rename_i xs e
      obtain ⟨a', vs, ea, e2, e4, e5⟩ := loc_lst R (.loc e1) e
      exact ⟨a', vs, xs, ea, .of e4, e5, p'⟩
    · exact p'.elim
  | _ => exact p.elim
theorem xitems_post (R : RelH K g M H) (r : Rep K g v d) (p : Post (xitems d M) q E) : ∃ a vs ds, v = .ref a ∧ H a = some (.lst vs) ∧ Reps K g vs ds ∧ q ds M := by
  cases r with
  | lst s t => exact ⟨_, _, _, rfl, R.frz _ _ s, t, p⟩
  | @loc n a e1 =>
    have p' : Post ((match M[n]? with | some (some (.lst xs)) => .ok xs M | _ => .bad) : Out (List D)) q E := p
    split at p'
    · rename_i xs e
      obtain ⟨a', vs, ea, e2, e4, e5⟩ := loc_lst R (.loc e1) e
      exact ⟨a', vs, xs, ea, e4, e5, p'⟩
    · exact p'.elim
  | _ => exact p.elim
end

/-! ### arithmetic -/
def intOp (f : Int → Int → Py D) : D → D → Py D
  | .int i, .int j => f i j
  | _, _ => Py.bad
theorem intOp_post {f : Int → Int → Py D} {dx dy : D} {M : Store} {q : D → Store → Prop} {E : Exn → Store → Prop} (p : Post (intOp f dx dy M) q E) : ∃ i j, dx = .int i ∧ dy = .int j ∧ Post (f i j M) q E := by
  cases dx with
  | int i =>
    cases dy with
    | int j => exact ⟨i, j, rfl, rfl, p⟩
    | _ => exact p.elim
  | _ => exact p.elim
section
variable {C : DX}
theorem dop_int {fv : Value → Value → Sem Value} {c : Int → Int → Prop} {w : Int → Int → V} {f : Int → Int → Py D} (ho : OpR C.X fv (rI c w))
    (h : ∀ {g : G} {ρ : DEnv} {M : Store} {σ : St} {H : Hp} {i j : Int} (Q : VK), Rl C g ρ M σ H → Post (f i j M) (QV C g ρ σ Q) (C.We ρ) → c i j ∧ Q (w i j) H) : DOp C fv (intOp f) := DOp.of ho fun Q R rx ry p => by
  obtain ⟨i, j, rfl, rfl, q⟩ := intOp_post p
  exact ⟨i, j, rep_int rx, rep_int ry, h Q R q⟩
theorem dop_int0 {fv : Value → Value → Sem Value} {w : Int → Int → V} {f : Int → Int → Py D} (ho : OpR C.X fv (rI0 w))
    (h : ∀ {g : G} {ρ : DEnv} {M : Store} {σ : St} {H : Hp} {i j : Int} (Q : VK), Rl C g ρ M σ H → Post (f i j M) (QV C g ρ σ Q) (C.We ρ) → Q (w i j) H) : DOp C fv (intOp f) := DOp.of ho fun Q R rx ry p => by
  obtain ⟨i, j, rfl, rfl, q⟩ := intOp_post p
  exact ⟨i, j, rep_int rx, rep_int ry, h Q R q⟩
def addI := intOp fun i j => Py.ret (.int (i + j))
def subI := intOp fun i j => Py.ret (.int (i - j))
def mulI := intOp fun i j => Py.chk ((-(2 ^ 64) < i ∧ i < 2 ^ 64) ∨ (-(2 ^ 64) < j ∧ j < 2 ^ 64)) (Py.ret (.int (i * j)))
def fdivI := intOp fun i j => Py.chk (0 < j ∧ j < 1073741824) (Py.ret (.int (i / j)))
def modI := intOp fun i j => Py.chk (0 < j) (Py.ret (.int (i % j)))
def powI := intOp fun i j => Py.chk (0 ≤ j ∧ j ≤ 1000000 ∧ i.natAbs < 2 ^ 64) (Py.ret (.int (i ^ j.toNat)))
def ltI := intOp fun i j => Py.ret (.bl (decide (i < j)))
def leI := intOp fun i j => Py.ret (.bl (decide (i ≤ j)))
def gtI := intOp fun i j => Py.ret (.bl (decide (j < i)))
def geI := intOp fun i j => Py.ret (.bl (decide (j ≤ i)))
theorem do_addI : DOp C (binaryOp .Add) addI := by
  refine dop_int0 op_add fun Q R p => ?_
  exact QV.here p R (.int _)
theorem do_subI : DOp C (binaryOp .Sub) subI := by
  refine dop_int0 op_sub fun Q R p => ?_
  exact QV.here p R (.int _)
theorem do_mulI : DOp C (binaryOp .Mult) mulI := by
  refine dop_int op_mul fun Q R p => ?_
  exact ⟨(post_chk.mp p).1, QV.here (post_chk.mp p).2 R (.int _)⟩
theorem do_fdivI : DOp C (binaryOp .FloorDiv) fdivI := by
  refine dop_int op_fdiv fun Q R p => ?_
  exact ⟨(post_chk.mp p).1, QV.here (post_chk.mp p).2 R (.int _)⟩
theorem do_modI : DOp C (binaryOp .Mod) modI := by
  refine dop_int op_mod fun Q R p => ?_
  exact ⟨(post_chk.mp p).1, QV.here (post_chk.mp p).2 R (.int _)⟩
theorem do_powI : DOp C (binaryOp .Pow) powI := by
  refine dop_int op_pow fun Q R p => ?_
  exact ⟨(post_chk.mp p).1, QV.here (post_chk.mp p).2 R (.int _)⟩
theorem do_ltI : DOp C (compareOp .Lt) ltI := by
  refine dop_int0 op_lt fun Q R p => ?_
  exact QV.here p R (.bl _)
theorem do_leI : DOp C (compareOp .LtE) leI := by
  refine dop_int0 op_le fun Q R p => ?_
  exact QV.here p R (.bl _)
theorem do_gtI : DOp C (compareOp .Gt) gtI := by
  refine dop_int0 op_gt fun Q R p => ?_
  exact QV.here p R (.bl _)
theorem do_geI : DOp C (compareOp .GtE) geI := by
  refine dop_int0 op_ge fun Q R p => ?_
  exact QV.here p R (.bl _)
def negI : D → Py D
  | .int i => Py.ret (.int (-i))
  | _ => Py.bad
theorem do_negI : DUn C (unaryOp .USub) negI := DUn.of un_neg fun {g ρ M σ H x dx} Q R rx p => by
  cases dx with
  | int i => exact ⟨i, rep_int rx, QV.here p R (.int _)⟩
  | _ => exact p.elim

/-! ### + of texts, tuples, lists -/
def addS : D → D → Py D
  | .str a, .str b => Py.chk (a.length + b.length ≤ sizeLine) (Py.ret (.str (a ++ b)))
  | _, _ => Py.bad
theorem do_addS : DOp C (binaryOp .Add) addS := DOp.of op_add_str fun {g ρ M σ H x y dx dy} Q R rx ry p => by
  cases dx with
  | str a =>
    cases dy with
    | str b => exact ⟨a, b, rep_str rx, rep_str ry, (post_chk.mp p).1, QV.here (post_chk.mp p).2 R (.str _)⟩
    | _ => exact p.elim
  | _ => exact p.elim
def addT : D → D → Py D
  | .tup xs, .tup ys => Py.chk (xs.length + ys.length ≤ sizeLine) (Py.ret (.tup (xs ++ ys)))
  | _, _ => Py.bad
theorem do_addT : DOp C (binaryOp .Add) addT := DOp.of op_catA fun {g ρ M σ H x y dx dy} Q R rx ry p => by
  cases rx with
  | tup s1 t1 =>
    cases ry with
    | tup s2 t2 =>
      obtain ⟨hz, q⟩ := post_chk.mp p
      refine ⟨_, _, _, _, rfl, rfl, .of (R.h.frz _ _ s1), .of (R.h.frz _ _ s2), by rw [t1.length, t2.length]; exact hz, fun e => ?_, fun e e2 => ?_, fun e e2 p hp => ?_⟩
      · subst e
        cases t1
        exact QV.here q R (.tup s2 t2)
      · subst e2
        cases t2
        rw [List.append_nil] at q
        exact QV.here q R (.tup s1 t1)
      · exact QV.lay q R hp (rep_tup_new (t1.append t2) (R.h.fnone hp))
    | _ => exact p.elim
  | _ => exact p.elim
/-- a new list that is never changed -/
def addL (x y : D) : Py D := Py.bnd (xitems x) fun xs => Py.bnd (xitems y) fun ys => Py.chk (xs.length + ys.length ≤ sizeLine) (Py.ret (.lst (xs ++ ys)))
theorem do_addL : DOp C (binaryOp .Add) addL := DOp.of op_cat fun {g ρ M σ H x y dx dy} Q R rx ry p => by
  obtain ⟨a, vs, xs, rfl, h1, t1, p1⟩ := xitems_post R.h rx (post_bnd.mp p)
  obtain ⟨b, ws, ys, rfl, h2, t2, p2⟩ := xitems_post R.h ry (post_bnd.mp p1)
  obtain ⟨hz, q⟩ := post_chk.mp p2
  exact ⟨a, b, vs, ws, rfl, rfl, h1, h2, by rw [t1.length, t2.length]; exact hz, fun p hp => QV.lay q R hp (rep_lst_new (t1.append t2) (R.h.fnone hp))⟩
/-- a new list that changes -/
def addLn (x y : D) : Py D := Py.bnd (xitems x) fun xs => Py.bnd (xitems y) fun ys => Py.chk (xs.length + ys.length ≤ sizeLine) (alloc (.lst (xs ++ ys)))
theorem do_addLn : DOp C (binaryOp .Add) addLn := DOp.of op_cat fun {g ρ M σ H x y dx dy} Q R rx ry p => by
  obtain ⟨a, vs, xs, rfl, h1, t1, p1⟩ := xitems_post R.h rx (post_bnd.mp p)
  obtain ⟨b, ws, ys, rfl, h2, t2, p2⟩ := xitems_post R.h ry (post_bnd.mp p1)
  obtain ⟨hz, q⟩ := post_chk.mp p2
  exact ⟨a, b, vs, ws, rfl, rfl, h1, h2, by rw [t1.length, t2.length]; exact hz, fun p hp => QV.make q R hp ⟨_, upd_same, (t1.append t2).mono G.le_more⟩⟩
def mulL : D → D → Py D := fun x y => Py.bnd (xitems x) fun xs => match y with
  | .int k => Py.chk (-(2 ^ 63) ≤ k ∧ k < 2 ^ 63 ∧ xs.length * k.toNat ≤ sizeLine) (Py.ret (.lst (List.replicate k.toNat xs).flatten))
  | _ => Py.bad
theorem Reps.rep {K : PySem.W.Frag} {g : G} {vs : List V} {ds : List D} (h : Reps K g vs ds) : ∀ k : Nat, Reps K g (List.replicate k vs).flatten (List.replicate k ds).flatten
  | 0 => .nil
  | k + 1 => by
    rw [List.replicate_succ, List.replicate_succ, List.flatten_cons, List.flatten_cons]
    exact h.append (Reps.rep h k)
theorem do_mulL : DOp C (binaryOp .Mult) mulL := DOp.of op_rep fun {g ρ M σ H x y dx dy} Q R rx ry p => by
  obtain ⟨a, vs, xs, rfl, h1, t1, p1⟩ := xitems_post R.h rx (post_bnd.mp p)
  cases dy with
  | int k =>
    obtain ⟨⟨b1, b2, hz⟩, q⟩ := post_chk.mp p1
    exact ⟨a, k, vs, rfl, rep_int ry, h1, b1, b2, by rw [t1.length]; exact hz, fun p hp => QV.lay q R hp (rep_lst_new (t1.rep _) (R.h.fnone hp))⟩
  | _ => exact p1.elim
def mulLn : D → D → Py D := fun x y => Py.bnd (xitems x) fun xs => match y with
  | .int k => Py.chk (-(2 ^ 63) ≤ k ∧ k < 2 ^ 63 ∧ xs.length * k.toNat ≤ sizeLine) (alloc (.lst (List.replicate k.toNat xs).flatten))
  | _ => Py.bad
theorem do_mulLn : DOp C (binaryOp .Mult) mulLn := DOp.of op_rep fun {g ρ M σ H x y dx dy} Q R rx ry p => by
  obtain ⟨a, vs, xs, rfl, h1, t1, p1⟩ := xitems_post R.h rx (post_bnd.mp p)
  cases dy with
  | int k =>
    obtain ⟨⟨b1, b2, hz⟩, q⟩ := post_chk.mp p1
    exact ⟨a, k, vs, rfl, rep_int ry, h1, b1, b2, by rw [t1.length]; exact hz, fun p hp => QV.make q R hp ⟨_, upd_same, (t1.rep _).mono G.le_more⟩⟩
  | _ => exact p1.elim

/-! ### == and != of data -/
mutual
def pyD : D → Option PyData
  | .non => some .none
  | .bl b => some (.bool b)
  | .int i => some (.int i)
  | .str x => some (.str x)
  | .tup xs => (pyL xs).map PyData.tuple
  | .lst xs => (pyL xs).map PyData.list
  | .ro xs => (pyL xs).map PyData.list
  | .dk _ => none
  | .ins _ _ => none
  | .loc _ => none
  | .ref _ => none
  | .ty _ => none
def pyL : List D → Option (List PyData)
  | [] => some []
  | x :: xs => (pyD x).bind fun p => (pyL xs).map fun ps => p :: ps
end
def pyM (M : Store) : D → Option PyData
  | .loc n => match M[n]? with
    | some (some (.lst xs)) => (pyL xs).map PyData.list
    | _ => none
  | d => pyD d
mutual
theorem dp_of {K : PySem.W.Frag} {g : G} {H : Hp} (hf : ∀ a o, g.F a = some o → H a = some o) : ∀ {v : V} {d : D} {p : PyData}, Rep K g v d → pyD d = some p → Dp K H v p
  | _, _, _, .non, e => by cases e; exact .non
  | _, _, _, .bl b, e => by cases e; exact .bl b
  | _, _, _, .int b, e => by cases e; exact .int b
  | _, _, _, .str b, e => by cases e; exact .str b
  | _, _, _, .tup s r, e => by
    obtain ⟨ps, e1, e2⟩ := Option.map_eq_some_iff.mp (show (pyL _).map PyData.tuple = some _ from e)
    subst e2
    exact .tup (.of (hf _ _ s)) (dps_of hf r e1)
  | _, _, _, .lst s r, e => by
    obtain ⟨ps, e1, e2⟩ := Option.map_eq_some_iff.mp (show (pyL _).map PyData.list = some _ from e)
    subst e2
    exact .lst (.of (hf _ _ s)) (dps_of hf r e1)
  | _, _, _, .ro s r, e => by
    obtain ⟨ps, e1, e2⟩ := Option.map_eq_some_iff.mp (show (pyL _).map PyData.list = some _ from e)
    subst e2
    exact .lst (sqL_mono hf s) (dps_of hf r e1)
  | _, _, _, .dk _ _ _, e => by cases e
  | _, _, _, .ins _ _ _, e => by cases e
  | _, _, _, .loc _, e => by cases e
  | _, _, _, .ref _, e => by cases e
  | _, _, _, .ty _, e => by cases e
theorem dps_of {K : PySem.W.Frag} {g : G} {H : Hp} (hf : ∀ a o, g.F a = some o → H a = some o) : ∀ {vs : List V} {ds : List D} {ps : List PyData}, Reps K g vs ds → pyL ds = some ps → DpAll K H vs ps
  | _, _, _, .nil, e => by cases e; exact .nil
  | _, _, _, .cons r t, e => by
    obtain ⟨p, e1, e2⟩ := Option.bind_eq_some_iff.mp (show (pyD _).bind _ = some _ from e)
    obtain ⟨qs, e3, e4⟩ := Option.map_eq_some_iff.mp e2
    subst e4
    exact .cons (dp_of hf r e1) (dps_of hf t e3)
end
theorem dpm_of {K : PySem.W.Frag} {g : G} {M : Store} {H : Hp} (R : RelH K g M H) {v : V} {d : D} {p : PyData} (r : Rep K g v d) (e : pyM M d = some p) : Dp K H v p := by
  cases r with
  | @loc n a e1 =>
    have e' : (match M[n]? with | some (some (.lst xs)) => (pyL xs).map PyData.list | _ => none) = some p := e
    split at e'
    · rename_i xs h
      obtain ⟨a', vs, ea, e2, e4, e5⟩ := loc_lst R (.loc e1) h
      obtain ⟨ps, e6, e7⟩ := Option.map_eq_some_iff.mp e'
      subst e7
      rw [ea]
      exact .lst (.of e4) (dps_of R.frz e5 e6)
    · cases e'
  | non => exact dp_of R.frz .non e
  | bl b => exact dp_of R.frz (.bl b) e
  | int b => exact dp_of R.frz (.int b) e
  | str b => exact dp_of R.frz (.str b) e
  | tup s t => exact dp_of R.frz (.tup s t) e
  | lst s t => exact dp_of R.frz (.lst s t) e
  | ro s t => exact dp_of R.frz (.ro s t) e
  | dk s t z => cases e
  | ins s t z => cases e
  | ref a => cases e
  | ty a => cases e
def eqP (neg : Bool) (x y : D) : Py D := fun M => match pyM M x, pyM M y with
  | some p, some q => if SeqAt.shaped p && SeqAt.shaped q then .ok (.bl (if neg then !PyData.eqv p q else PyData.eqv p q)) M else .bad
  | _, _ => .bad
def eqS (neg : Bool) (x y : D) : Py D := match x, y with
  | .str a, .str b => Py.ret (.bl (if neg then !decide (a = b) else decide (a = b)))
  | x, y => eqP neg x y
theorem eqP_post {neg : Bool} {x y : D} {M : Store} {q : D → Store → Prop} {E : Exn → Store → Prop} (p : Post (eqP neg x y M) q E) :
    ∃ a b, pyM M x = some a ∧ pyM M y = some b ∧ SeqAt.shaped a = true ∧ SeqAt.shaped b = true ∧ q (.bl (if neg then !PyData.eqv a b else PyData.eqv a b)) M := by
  unfold eqP at p
  split at p
  · rename_i a b h1 h2
    split at p
    · rename_i h
      rw [Bool.and_eq_true] at h
      exact ⟨a, b, h1, h2, h.1, h.2, p⟩
    · exact p.elim
  · exact p.elim
theorem eqS_cases {neg : Bool} {x y : D} {M : Store} {q : D → Store → Prop} {E : Exn → Store → Prop} (p : Post (eqS neg x y M) q E) :
    (∃ a b, x = .str a ∧ y = .str b ∧ q (.bl (if neg then !decide (a = b) else decide (a = b))) M) ∨ Post (eqP neg x y M) q E := by
  cases x with
  | str a =>
    cases y with
    | str b => exact .inl ⟨a, b, rfl, rfl, p⟩
    | _ => exact .inr p
  | _ => exact .inr p
theorem scal_str {a b : Str} : scal (.str a) (.str b) = true := rfl
theorem dec_strV {a b : Str} : decide (V.str a = V.str b) = decide (a = b) := by
  by_cases h : a = b
  · subst h; rw [decide_eq_true rfl, decide_eq_true rfl]
  · rw [decide_eq_false h, decide_eq_false fun e => h (V.str.inj e)]
theorem do_eq (hu : C.X.A.units + 64 < cLine) : DOp C (compareOp .Eq) (eqS false) := DOp.of (op_eq.or (op_eqD hu)) fun {g ρ M σ H x y dx dy} Q R rx ry p => by
  rcases eqS_cases p with ⟨a, b, rfl, rfl, q⟩ | p
  · left
    rw [rep_str rx, rep_str ry]
    exact ⟨scal_str, by rw [dec_strV]; exact QV.here q R (.bl _)⟩
  · right
    obtain ⟨a, b, e1, e2, s1, s2, q⟩ := eqP_post p
    exact ⟨a, b, dpm_of R.h rx e1, dpm_of R.h ry e2, s1, s2, QV.here q R (.bl _)⟩
theorem do_ne (hu : C.X.A.units + 64 < cLine) : DOp C (compareOp .NotEq) (eqS true) := DOp.of (op_ne.or (op_neD hu)) fun {g ρ M σ H x y dx dy} Q R rx ry p => by
  rcases eqS_cases p with ⟨a, b, rfl, rfl, q⟩ | p
  · left
    rw [rep_str rx, rep_str ry]
    exact ⟨scal_str, by rw [dec_strV]; exact QV.here q R (.bl _)⟩
  · right
    obtain ⟨a, b, e1, e2, s1, s2, q⟩ := eqP_post p
    exact ⟨a, b, dpm_of R.h rx e1, dpm_of R.h ry e2, s1, s2, QV.here q R (.bl _)⟩

/-! ### is None -/
def isNon : D → Bool
  | .non => true
  | _ => false
def isN (neg : Bool) : D → D → Py D := fun x y => match y with
  | .non => Py.ret (.bl (if neg then !isNon x else isNon x))
  | _ => Py.bad
theorem dec_non {K : PySem.W.Frag} {g : G} {v : V} {d : D} (r : Rep K g v d) : decide (v = V.non) = isNon d := by cases r <;> rfl
theorem do_isN : DOp C (compareOp .Is) (isN false) := DOp.of op_isN fun {g ρ M σ H x y dx dy} Q R rx ry p => by
  cases dy with
  | non =>
    refine ⟨rep_non ry, ?_⟩
    rw [dec_non rx]
    exact QV.here p R (.bl _)
  | _ => exact p.elim
theorem do_notN : DOp C (compareOp .IsNot) (isN true) := DOp.of op_notN fun {g ρ M σ H x y dx dy} Q R rx ry p => by
  cases dy with
  | non =>
    refine ⟨rep_non ry, ?_⟩
    rw [dec_non rx]
    exact QV.here p R (.bl _)
  | _ => exact p.elim

/-! ### in -/
def flatD : D → Bool
  | .non => true
  | .bl _ => true
  | .int _ => true
  | .str _ => true
  | _ => false
def eqF : D → D → Bool
  | .non, .non => true
  | .bl a, .bl b => a == b
  | .bl a, .int b => (if a then 1 else 0) == b
  | .int a, .bl b => a == (if b then 1 else 0)
  | .int a, .int b => a == b
  | .str a, .str b => a == b
  | _, _ => false
theorem flat_rep {K : PySem.W.Frag} {g : G} {v : V} {d : D} (r : Rep K g v d) (f : flatD d = true) : flatV v = true := by cases r <;> first | rfl | exact f
theorem eqF_rep {K : PySem.W.Frag} {g : G} {v w : V} {d e : D} (r : Rep K g v d) (q : Rep K g w e) (f : flatD d = true) (h : flatD e = true) : eqV v w = eqF d e := by
  cases r <;> first | exact absurd f Bool.false_ne_true | skip
  all_goals (cases q <;> first | exact absurd h Bool.false_ne_true | rfl)
theorem flat_reps {K : PySem.W.Frag} {g : G} : ∀ {vs : List V} {ds : List D}, Reps K g vs ds → ds.all flatD = true → vs.all flatV = true
  | _, _, .nil, _ => rfl
  | _, _, .cons r t, f => by
    rw [List.all_cons, Bool.and_eq_true] at f ⊢
    exact ⟨flat_rep r f.1, flat_reps t f.2⟩
theorem inV_reps {K : PySem.W.Frag} {g : G} {x : V} {d : D} (r : Rep K g x d) (f : flatD d = true) : ∀ {vs : List V} {ds : List D}, Reps K g vs ds → ds.all flatD = true → inV x vs = ds.any fun e => eqF e d
  | _, _, .nil, _ => rfl
  | _, _, .cons q t, h => by
    rw [List.all_cons, Bool.and_eq_true] at h
    have ih := inV_reps r f t h.2
    unfold inV at ih ⊢
    rw [List.any_cons, List.any_cons, ih, eqF_rep q r h.1 f]
def inF (neg : Bool) (x y : D) : Py D := Py.bnd (items y) fun ds => Py.chk (flatD x = true ∧ ds.all flatD = true) (Py.ret (.bl (if neg then !(ds.any fun e => eqF e x) else ds.any fun e => eqF e x)))
theorem do_inF : DOp C (compareOp .In) (inF false) := DOp.of op_in_seq fun {g ρ M σ H x y dx dy} Q R rx ry p => by
  obtain ⟨a, vs, ds, rfl, hs, t, p1⟩ := items_post R.h ry (post_bnd.mp p)
  obtain ⟨⟨f1, f2⟩, q⟩ := post_chk.mp p1
  refine ⟨a, vs, rfl, hs, flat_rep rx f1, flat_reps t f2, ?_⟩
  rw [inV_reps rx f1 t f2]
  exact QV.here q R (.bl _)
theorem do_notInF : DOp C (compareOp .NotIn) (inF true) := DOp.of op_notIn_seq fun {g ρ M σ H x y dx dy} Q R rx ry p => by
  obtain ⟨a, vs, ds, rfl, hs, t, p1⟩ := items_post R.h ry (post_bnd.mp p)
  obtain ⟨⟨f1, f2⟩, q⟩ := post_chk.mp p1
  refine ⟨a, vs, rfl, hs, flat_rep rx f1, flat_reps t f2, ?_⟩
  rw [inV_reps rx f1 t f2]
  exact QV.here q R (.bl _)

/-! ### items, slices -/
def ixD (x y : D) : Py D := match x, y with
  | .str z, .int i => Py.chk (z.length ≤ sizeLine) (match atI z.cps.toList i with | some c => Py.ret (.str ⟨#[c]⟩) | none => Py.bad)
  | x, .int i => Py.bnd (items x) fun ds => match atI ds i with | some d => Py.ret d | none => Py.bad
  | _, _ => Py.bad
theorem atI_reps {K : PySem.W.Frag} {g : G} {vs : List V} {ds : List D} {i : Int} {d : D} (t : Reps K g vs ds) (e : atI ds i = some d) : ∃ v, atI vs i = some v ∧ Rep K g v d := by
  unfold atI at e ⊢
  rw [t.length]
  obtain ⟨j, h1, h2⟩ := Option.bind_eq_some_iff.mp e
  obtain ⟨v, h3, h4⟩ := t.get h2
  exact ⟨v, by rw [h1]; exact h3, h4⟩
theorem ixD_cases {x y : D} {M : Store} {q : D → Store → Prop} {E : Exn → Store → Prop} (p : Post (ixD x y M) q E) :
    (∃ z i c, x = .str z ∧ y = .int i ∧ z.length ≤ sizeLine ∧ atI z.cps.toList i = some c ∧ q (.str ⟨#[c]⟩) M) ∨ ∃ i, y = .int i ∧ Post (items x M) (fun ds M' => ∃ d, atI ds i = some d ∧ q d M') E := by
  have gen : ∀ {x : D} {i : Int}, Post (Py.bnd (items x) (fun ds => match atI ds i with | some d => Py.ret d | none => Py.bad) M) q E → Post (items x M) (fun ds M' => ∃ d, atI ds i = some d ∧ q d M') E := by
    intro x i p
    refine (post_bnd.mp p).imp fun ds M' p' => ?_
    cases e : atI ds i with
    | none => rw [e] at p'; exact p'.elim
    | some d => rw [e] at p'; exact ⟨d, rfl, p'⟩
  cases y with
  | int i =>
    cases x with
    | str z =>
      obtain ⟨h1, p1⟩ := post_chk.mp p
      left
      cases e : atI z.cps.toList i with
      | none => rw [e] at p1; exact p1.elim
      | some c => rw [e] at p1; exact ⟨z, i, c, rfl, rfl, h1, e, p1⟩
    | _ => exact .inr ⟨i, rfl, gen p⟩
  | _ => cases x <;> exact p.elim
variable {a b : Expr} {fa fb : DEnv → Py D} {pos : Pos}
theorem de_ix (ha : DE C a fa) (hb : DE C b fb) (hs : PlainIx b := by exact fun _ _ => rfl) : DE C (.Subscript a b pos) (eOp ixD fa fb) := ⟨fun {g ρ M σ H} Q R p => by
  refine wpe (pe_ix ix_seq self_e self_e hs) (ha.then_ R p fun v d M1 H1 g1 l1 R1 r1 p1 => hb.then_ R1 p1 fun u e M2 H2 g2 l2 R2 r2 p2 => ?_)
  rcases ixD_cases p2 with ⟨z, i, c, rfl, rfl, hz, e, q⟩ | ⟨i, rfl, p3⟩
  · exact .inr (.inr ⟨z, i, c, rep_str (r1.mono l2), rep_int r2, hz, e, QV.here (QV.later (g' := g2) q (l1.trans l2)) R2 (.str _)⟩)
  · obtain ⟨a', vs, ds, ea, hs, t, d', e, q⟩ := items_post R2.h (r1.mono l2) p3
    obtain ⟨w', e1, e2⟩ := atI_reps t e
    rcases hs with hs | hs
    · exact .inl ⟨a', vs, i, w', ea, rep_int r2, hs, e1, QV.here (QV.later (g' := g2) q (l1.trans l2)) R2 e2⟩
    · exact .inr (.inl ⟨a', vs, i, w', ea, rep_int r2, hs, e1, QV.here (QV.later (g' := g2) q (l1.trans l2)) R2 e2⟩)⟩

/-- a part of a slice -/
structure DO (C : DX) (e : Option Expr) (f : DEnv → Py (Option Int)) : Prop where
  run : ∀ {g : G} {ρ : DEnv} {M : Store} {σ : St} {H : Hp}, Rl C g ρ M σ H → ∀ (q : Option Int → Store → Prop), Post (f ρ M) q (C.We ρ) → ∃ t : TO, PO C.X e t ∧ ∀ Q : Option Int → Hp → Prop, (∀ o M' H' g', g.le g' → Rl C g' ρ M' σ H' → q o M' → Q o H') → t σ H Q
def oNone : DEnv → Py (Option Int) := fun _ => Py.ret none
def toI : D → Py (Option Int)
  | .int i => Py.ret (some i)
  | _ => Py.bad
def oSome (f : DEnv → Py D) : DEnv → Py (Option Int) := fun ρ => Py.bnd (f ρ) toI
/-- by the reading -/
structure DOp2 (C : DX) (e : Option Expr) (f : DEnv → Py (Option Int)) (t : TO) : Prop where
  po : PO C.X e t
  run : ∀ {g : G} {ρ : DEnv} {M : Store} {σ : St} {H : Hp} {α : Type} {k : Option Int → Py α} {q : α → Store → Prop} {Q : Option Int → Hp → Prop}, Rl C g ρ M σ H → Post (Py.bnd (f ρ) k M) q (C.We ρ) →
    (∀ (o : Option Int) (M' : Store) (H' : Hp) (g' : G), g.le g' → Rl C g' ρ M' σ H' → Post (k o M') q (C.We ρ) → Q o H') → t σ H Q
theorem do_none : DOp2 C none oNone tNoPart := ⟨po_none, fun {g ρ M σ H α k q Q} R p go => go none M H g (G.le.refl g) R p⟩
theorem do_some {e : Expr} {f : DEnv → Py D} (h : DE C e f) : DOp2 C (some e) (oSome f) (tPart (WPE C.X e)) := ⟨po_some self_e, fun {g ρ M σ H α k q Q} R p go => by
  refine h.run _ R (Post.imp (post_bnd.mp (post_bnd.mp p)) fun d M' p' => ?_)
  intro v H' g' l R' r
  cases d with
  | int i => exact ⟨i, rep_int r, go (some i) M' H' g' l R' p'⟩
  | _ => exact p'.elim⟩
def cutD (xs : List D) (lo hi : Option Int) : List D := (xs.drop (HT.sIx xs.length 0 lo)).take (HT.sIx xs.length xs.length hi - HT.sIx xs.length 0 lo)
theorem Reps.cut {K : PySem.W.Frag} {g : G} {vs : List V} {ds : List D} (h : Reps K g vs ds) (lo hi : Option Int) : Reps K g (cutV vs lo hi) (cutD ds lo hi) := by
  unfold cutV cutD
  rw [h.length]
  exact (h.drop _).take _
def cutS' (z : Str) (lo hi : Option Int) : Str := cutS z lo hi
def slD (x : D) (lo hi : Option Int) : Py D := match x with
  | .tup xs => Py.ret (.tup (cutD xs lo hi))
  | .str z => Py.chk (z.length ≤ sizeLine) (Py.ret (.str (cutS z lo hi)))
  | x => Py.bnd (litems x) fun xs => Py.ret (.lst (cutD xs lo hi))
def eSl (fa : DEnv → Py D) (fl fh : DEnv → Py (Option Int)) : DEnv → Py D := fun ρ => Py.bnd (fa ρ) fun x => Py.bnd (fl ρ) fun lo => Py.bnd (fh ρ) fun hi => slD x lo hi
theorem cutV_whole {vs : List V} {lo hi : Option Int} (h : HT.sIx vs.length 0 lo = 0 ∧ HT.sIx vs.length vs.length hi = vs.length) : cutV vs lo hi = vs := by
  unfold cutV
  rw [h.1, h.2, List.drop_zero, Nat.sub_zero, List.take_length]
theorem cutD_whole {vs : List D} {lo hi : Option Int} (h : HT.sIx vs.length 0 lo = 0 ∧ HT.sIx vs.length vs.length hi = vs.length) : cutD vs lo hi = vs := by
  unfold cutD
  rw [h.1, h.2, List.drop_zero, Nat.sub_zero, List.take_length]
theorem de_sl {e : Expr} {f : DEnv → Py D} {lo hi : Option Expr} {fl fh : DEnv → Py (Option Int)} {tl th : TO} {p2 : Pos} (he : DE C e f) (hl : DOp2 C lo fl tl) (hh : DOp2 C hi fh th) : DE C (.Subscript e (.Slice lo hi none p2) pos) (eSl f fl fh) := ⟨fun {g ρ M σ H} Q R p => by
  refine wpe (pe_slice (sl_list.or (sl_tupA.or sl_str)) self_e hl.po hh.po) (he.then_ R p fun v d M1 H1 g1 l1 R1 r1 p1 => hl.run R1 p1 fun o M2 H2 g2 l2 R2 p2 => hh.run R2 p2 fun u M3 H3 g3 l3 R3 p3 => ?_)
  have r3 := r1.mono (l2.trans l3)
  have L := (l1.trans l2).trans l3
  have lst : ∀ {d : D}, Rep C.X.K g3 v d → Post (Py.bnd (litems d) (fun xs => Py.ret (.lst (cutD xs o u))) M3) (QV C g ρ σ Q) (C.We ρ) → rSlL C.X.K v o u H3 Q := by
    intro d r3 p3
    obtain ⟨a', vs, ds, ea, hs, t, q⟩ := litems_post R3.h r3 (post_bnd.mp p3)
    exact ⟨a', vs, ea, hs, fun p hp => QV.lay (QV.later (g' := g3) q L) R3 hp (rep_lst_new (t.cut o u) (R3.h.fnone hp))⟩
  cases d with
  | tup xs =>
    right; left
    cases r3 with
    | tup s t =>
      refine ⟨_, _, rfl, .of (R3.h.frz _ _ s), fun w' => ?_, fun w' p hp => ?_⟩
      · refine QV.here (QV.later (g' := g3) p3 L) R3 ?_
        rw [t.length] at w'
        rw [cutD_whole w']
        exact .tup s t
      · exact QV.lay (QV.later (g' := g3) p3 L) R3 hp (rep_tup_new (t.cut o u) (R3.h.fnone hp))
  | str z =>
    right; right
    obtain ⟨hz, q⟩ := post_chk.mp p3
    exact ⟨z, rep_str r3, hz, QV.here (QV.later (g' := g3) q L) R3 (.str _)⟩
  | lst xs => exact .inl (lst r3 p3)
  | ro xs => exact .inl (lst r3 p3)
  | loc n => exact .inl (lst r3 p3)
  | _ => exact p3.elim⟩
end
end L3
set_option Elab.async false
set_option linter.all false
set_option maxRecDepth 100000
set_option autoImplicit false
namespace L3
open PySem PySem.Spec L2
open PyProof.Rows hiding St

/-- what may not raise -/
def noX {α : Type} (m : Py α) : Py α := fun M => match m M with
  | .exc _ _ => .bad
  | o => o
theorem noX_post {α : Type} {m : Py α} {M : Store} {q : α → Store → Prop} {E : Exn → Store → Prop} (p : Post (noX m M) q E) : Post (m M) q fun _ _ => False := by
  unfold noX at p
  cases h : m M with
  | ok a M' => rw [h] at p; exact p
  | exc e M' => rw [h] at p; exact p.elim
  | bad => rw [h] at p; exact p.elim
/-! ### targets -/
/-- t: what the layer below asks; vs: the places that it writes -/
structure DG (C : DX) (vs : List Nat) (tg : Expr) (f : D → DEnv → Py DEnv) (t : TG) : Prop where
  pg : PG C.X tg t
  run : ∀ {g : G} {ρ : DEnv} {M : Store} {σ : St} {H : Hp} {v : V} {d : D} (Q : St → Hp → Prop), Rl C g ρ M σ H → Rep C.X.K g v d →
    Post (f d ρ M) (fun ρ' M' => ∀ σ' H' g', g.le g' → Rl C g' ρ' M' σ' H' → L2.wipe σ' vs = L2.wipe σ vs → Q σ' H') (C.We ρ) → t v σ H Q
structure DGs (C : DX) (vs : List Nat) (tgs : List Expr) (f : List D → DEnv → Py DEnv) (t : TGs) : Prop where
  pg : PGs C.X tgs t
  run : ∀ {g : G} {ρ : DEnv} {M : Store} {σ : St} {H : Hp} {xs : List V} {ds : List D} (Q : St → Hp → Prop), Rl C g ρ M σ H → Reps C.X.K g xs ds →
    Post (f ds ρ M) (fun ρ' M' => ∀ σ' H' g', g.le g' → Rl C g' ρ' M' σ' H' → L2.wipe σ' vs = L2.wipe σ vs → Q σ' H') (fun _ _ => False) → t xs σ H Q
def gSet (i : Nat) : D → DEnv → Py DEnv := fun d ρ => Py.ret (ρ.set i (some d))
def gsNil : List D → DEnv → Py DEnv := fun ds ρ => match ds with
  | [] => Py.ret ρ
  | _ => Py.bad
def gsCons (f : D → DEnv → Py DEnv) (r : List D → DEnv → Py DEnv) : List D → DEnv → Py DEnv := fun ds ρ => match ds with
  | [] => Py.bad
  | d :: ds => Py.bnd (f d ρ) fun ρ' => r ds ρ'
def gUnp (n : Nat) (f : List D → DEnv → Py DEnv) : D → DEnv → Py DEnv := fun d ρ => match d with
  | .tup xs => Py.chk (xs.length = n) (noX (f xs ρ))
  | _ => Py.bad
section
variable {C : DX} {pos : Pos}
theorem Rl.set {g : G} {ρ : DEnv} {M : Store} {σ : St} {H : Hp} (R : Rl C g ρ M σ H) (i : Nat) {v : V} {d : D} (r : Rep C.X.K g v d) : Rl C g (ρ.set i (some d)) M (σ.set i (some v)) H := ⟨R.b, R.h, R.e.set i r⟩
variable {vs : List Nat}
theorem dg_name {i : Nat} {x : Str} (hN : C.X.N.Nodup) (hi : C.X.N[i]? = some x := by rfl) (hx : Loc C.X.env.scope x := by first | exact Or.inl rfl | exact Or.inr rfl) (hf : C.X.fn x = true ∨ C.X.env.scope.names.lookup x = some .local := by first | exact .inl rfl | exact .inr rfl) (hv : i ∈ vs := by decide) : DG C vs (.Name x pos) (gSet i) (gName i) :=
  ⟨pg_name hN hi hx hf, fun {g ρ M σ H v d} Q R r p => p _ _ g (G.le.refl g) (R.set i r) (wipe_set hv)⟩
theorem dgs_nil : DGs C vs [] gsNil gNil := ⟨pgs_nil, fun {g ρ M σ H xs ds} Q R r p => by
  cases r with
  | nil => exact ⟨rfl, p _ _ g (G.le.refl g) R rfl⟩
  | cons a b => exact p.elim⟩
theorem dgs_cons {e : Expr} {es : List Expr} {f : D → DEnv → Py DEnv} {r : List D → DEnv → Py DEnv} {t : TG} {u : TGs} (h1 : DG C vs e f t) (h2 : DGs C vs es r u)
    (hs : (assignEach (e :: es) C.X.env).map (·.2) = assign e C.X.env :: (assignEach es C.X.env).map (·.2) := by rfl) : DGs C vs (e :: es) (gsCons f r) (gCons t u) :=
  ⟨pgs_cons h1.pg h2.pg hs, fun {g ρ M σ H xs ds} Q R rr p => by
    cases rr with
    | nil => exact p.elim
    | cons a b =>
      refine ⟨_, _, rfl, h1.run _ R a ((post_bnd.mp p).mono (fun ρ' M' p' σ' H' g' l R' w => h2.run _ R' (b.mono l) (p'.imp fun ρ'' M'' q σ'' H'' g'' l' R'' w' => q σ'' H'' g'' (l.trans l') R'' (w'.trans w))) fun _ _ z => z.elim)⟩⟩
theorem dg_tup {es : List Expr} {K : PySem.W.Frag} {k n : Nat} {f : List D → DEnv → Py DEnv} {t : TGs} (hc : C.X.calm = true) (h : DGs C vs es f t) (hn : (assignEach es C.X.env).length = n := by rfl) (hst : (assignEach es C.X.env).findIdx? (·.1) = none := by rfl) (hK : C.X.K = K := by rfl) : DG C vs (.Tuple es k pos) (gUnp n f) (gTup K n t) := hK ▸
  ⟨pg_tup hc h.pg hn hst, fun {g ρ M σ H v d} Q R r p => by
    cases r with
    | @tup a xs ds s q =>
      obtain ⟨hl, p'⟩ := post_chk.mp p
      exact ⟨a, xs, rfl, .of (R.h.frz _ _ s), by rw [q.length]; exact hl, h.run Q R q (noX_post p')⟩
    | _ => exact p.elim⟩
end

/-! ### what is walked -/
structure Wk where
  ds : List D
  /-- what must stand while it is walked -/
  ok : Store → Prop
structure WalkD (K : PySem.W.Frag) (g : G) (w : Wk) (J : It) (Gd : Hp → Prop) (Y : Nat → Hp → V → Hp → Prop) : Prop where
  wk : Walk J w.ds.length Gd Y
  ok : ∀ {g' : G} {M : Store} {H : Hp}, g.sub g' → RelH K g' M H → w.ok M → Gd H
  it : ∀ {g' : G} {M : Store} {H H' : Hp} {i : Nat} {x : V}, g.sub g' → RelH K g' M H → w.ok M → Y i H x H' → ∃ d g'', w.ds[i]? = some d ∧ g'.le g'' ∧ RelH K g'' M H' ∧ Rep K g'' x d
structure DI (C : DX) (tg iter : Expr) (f : DEnv → Py Wk) : Prop where
  run : ∃ wi : TI, PI C.X tg iter wi ∧ ∀ {g : G} {ρ : DEnv} {M : Store} {σ : St} {H : Hp} (R : It → Hp → Prop), Rl C g ρ M σ H →
    Post (f ρ M) (fun w M' => ∀ J H' g' Gd Y, g.le g' → Rl C g' ρ M' σ H' → WalkD C.X.K g' w J Gd Y → R J H') (C.We ρ) → wi σ H R
/-- the items of a list or a tuple; a list that changes must stand as it is -/
def wkOf (d : D) : Py Wk := match d with
  | .loc n => fun M => match M[n]? with
    | some (some (.lst xs)) => .ok ⟨xs, fun M' => M'[n]? = some (some (.lst xs))⟩ M
    | _ => .bad
  | d => Py.bnd (items d) fun xs => Py.ret ⟨xs, fun _ => True⟩
def wkL (d : D) : Py Wk := match d with
  | .tup _ => Py.bad
  | d => wkOf d
def wkT (d : D) : Py Wk := match d with
  | .tup xs => Py.ret ⟨xs, fun _ => True⟩
  | _ => Py.bad
def iSeq (wk : D → Py Wk) (f : DEnv → Py D) : DEnv → Py Wk := fun ρ => Py.bnd (f ρ) wk
theorem wkL_post {K : PySem.W.Frag} {g : G} {M : Store} {H : Hp} {v : V} {d : D} {q : Wk → Store → Prop} {E : Exn → Store → Prop} (R : RelH K g M H) (r : Rep K g v d) (p : Post (wkL d M) q E) :
    ∃ a vs w, v = .ref a ∧ SqL K H a vs ∧ Reps K g vs w.ds ∧ q w M ∧ ∀ {g' : G} {M' : Store} {H' : Hp}, g.sub g' → RelH K g' M' H' → w.ok M' → ∃ vs', SqL K H' a vs' ∧ Reps K g' vs' w.ds := by
  cases r with
  | tup s t => exact p.elim
  | lst s t => exact ⟨_, _, _, rfl, .of (R.frz _ _ s), t, p, fun l R' _ => ⟨_, .of (R'.frz _ _ (l.F _ _ s)), t.gro l⟩⟩
  | ro s t => exact ⟨_, _, _, rfl, sqL_mono R.frz s, t, p, fun l R' _ => ⟨_, sqL_mono R'.frz (sqL_mono l.F s), t.gro l⟩⟩
  | @loc n a e1 =>
    have p' : Post ((match M[n]? with | some (some (.lst xs)) => .ok ⟨xs, fun M' => M'[n]? = some (some (.lst xs))⟩ M | _ => .bad) : Out Wk) q E := p
    split at p'
    · rename_i xs e
      obtain ⟨a', vs, ea, e2, e4, e5⟩ := loc_lst R (.loc e1) e
      refine ⟨a', vs, _, ea, .of e4, e5, p', fun {g' M' H'} l R' ok => ?_⟩
      obtain ⟨r, hr⟩ := l.io
      have e6 : g'.io[n]? = some a' := by
        rw [hr, List.getElem?_append_left (List.getElem?_eq_some_iff.mp e2).1]
        exact e2
      have ok' : M'[n]? = some (some (.lst xs)) := ok
      obtain ⟨a2, vs2, ea2, e7, e8, e9⟩ := loc_lst R' (.loc e6) ok'
      cases ea2
      exact ⟨vs2, .of e8, e9⟩
    · exact p'.elim
  | _ => exact p.elim
/-- over a list, as it stands at each turn -/
theorem walkD_list {K : PySem.W.Frag} {g : G} {w : Wk} {a : Addr} (h : ∀ {g' : G} {M' : Store} {H' : Hp}, g.sub g' → RelH K g' M' H' → w.ok M' → ∃ vs', SqL K H' a vs' ∧ Reps K g' vs' w.ds) :
    WalkD K g w (Itl K a) (fun H => ∃ vs, SqL K H a vs ∧ vs.length = w.ds.length) (fun i H x H' => H' = H ∧ ∀ vs, SqL K H a vs → vs[i]? = some x) where
  wk := ⟨fun i H hi ⟨vs, q, e⟩ => ⟨vs, vs[i]'(by omega), q, by simp⟩, fun H ⟨vs, q, e⟩ => ⟨vs, q, by omega⟩, fun i H x H' hi _ y => y⟩
  ok := fun l R o => let ⟨vs, q, r⟩ := h l R o; ⟨vs, q, r.length⟩
  it := fun {g' M H H' i x} l R o y => by
    obtain ⟨vs, q, r⟩ := h l R o
    obtain ⟨rfl, y⟩ := y
    obtain ⟨d, e1, e2⟩ := r.getV (y vs q)
    exact ⟨d, g', e1, G.le.refl g', R, e2⟩
theorem walkD_tup {K : PySem.W.Frag} {g : G} {a : Addr} {vs : List V} {ds : List D} {ok : Store → Prop} (s : g.F a = some (.tup vs)) (t : Reps K g vs ds) :
    WalkD K g ⟨ds, ok⟩ (Itt K a) (fun H => SqT K H a vs) (YAt vs) where
  wk := by
    show Walk _ ds.length _ _
    rw [← t.length]
    exact walk_tup
  ok := fun l R _ => .of (R.frz _ _ (l.F _ _ s))
  it := fun {g' M H H' i x} l R o y => by
    obtain ⟨rfl, y⟩ := y
    obtain ⟨d, e1, e2⟩ := (t.gro l).getV y
    exact ⟨d, g', e1, G.le.refl g', R, e2⟩
section
variable {C : DX} {pos : Pos} {tg e : Expr} {f : DEnv → Py D}
theorem di_list (h : DE C e f) : DI C tg e (iSeq wkL f) := ⟨_, pi_list self_e, fun {g ρ M σ H} R Rr p => by
  refine h.then_ Rr p fun v d M1 H1 g1 l1 R1 r1 p1 => ?_
  obtain ⟨a, vs, w, rfl, q1, q2, q3, q4⟩ := wkL_post R1.h r1 p1
  exact ⟨a, rfl, ⟨vs, q1⟩, q3 _ H1 g1 _ _ l1 R1 (walkD_list q4)⟩⟩
theorem di_tup (h : DE C e f) : DI C tg e (iSeq wkT f) := ⟨_, pi_tup self_e, fun {g ρ M σ H} R Rr p => by
  refine h.then_ Rr p fun v d M1 H1 g1 l1 R1 r1 p1 => ?_
  cases r1 with
  | @tup a vs ds s t => exact ⟨a, rfl, ⟨vs, .of (R1.h.frz _ _ s)⟩, Post.imp (Q := _) (E := C.We ρ) (o := Out.ok (⟨ds, fun _ => True⟩ : Wk) M1) p1 (fun _ _ z => z) _ H1 g1 _ _ l1 R1 (walkD_tup s t)⟩
  | _ => exact p1.elim⟩
def rngD (lo hi : Int) : List D := (List.range (hi - lo).toNat).map fun i => .int (lo + (i : Nat))
theorem rngD_get {lo hi : Int} {i : Nat} (h : i < (hi - lo).toNat) : (rngD lo hi)[i]? = some (.int (lo + (i : Nat))) := by
  unfold rngD
  rw [List.getElem?_map, List.getElem?_range h]
  rfl
theorem rngD_length {lo hi : Int} : (rngD lo hi).length = (hi - lo).toNat := by
  unfold rngD
  rw [List.length_map, List.length_range]
theorem walkD_range {K : PySem.W.Frag} {g : G} {lo hi : Int} {ok : Store → Prop} : WalkD K g ⟨rngD lo hi, ok⟩ (Itr lo (hi - lo).toNat) (fun _ => True) (fun i H x H' => i < (hi - lo).toNat ∧ H' = H ∧ x = .int (lo + i)) where
  wk := by
    show Walk _ (rngD lo hi).length _ _
    rw [rngD_length]
    exact ⟨fun _ _ hi _ => hi, fun _ _ => Nat.le_refl _, fun _ _ _ _ hi _ y => ⟨hi, y⟩⟩
  ok := fun _ _ _ => trivial
  it := fun {g' M H H' i x} l R o y => by
    obtain ⟨hi, rfl, rfl⟩ := y
    exact ⟨_, g', rngD_get hi, G.le.refl g', R, .int _⟩
def rngW1 : List D → Py Wk
  | [.int j] => Py.chk (-(2 ^ 62) ≤ j ∧ j < 2 ^ 62) (Py.ret ⟨rngD 0 j, fun _ => True⟩)
  | _ => Py.bad
def rngW2 : List D → Py Wk
  | [.int i, .int j] => Py.chk (-(2 ^ 62) ≤ i ∧ i < 2 ^ 62 ∧ -(2 ^ 62) ≤ j ∧ j < 2 ^ 62) (Py.ret ⟨rngD i j, fun _ => True⟩)
  | _ => Py.bad
theorem rngW1_post {ds : List D} {M : Store} {q : Wk → Store → Prop} {E : Exn → Store → Prop} (p : Post (rngW1 ds M) q E) : ∃ j, ds = [.int j] ∧ (-(2 ^ 62) ≤ j ∧ j < 2 ^ 62) ∧ q ⟨rngD 0 j, fun _ => True⟩ M := by
  unfold rngW1 at p
  split at p
  · obtain ⟨h, q⟩ := post_chk.mp p
    exact ⟨_, rfl, h, q⟩
  · exact p.elim
theorem rngW2_post {ds : List D} {M : Store} {q : Wk → Store → Prop} {E : Exn → Store → Prop} (p : Post (rngW2 ds M) q E) : ∃ i j, ds = [.int i, .int j] ∧ (-(2 ^ 62) ≤ i ∧ i < 2 ^ 62 ∧ -(2 ^ 62) ≤ j ∧ j < 2 ^ 62) ∧ q ⟨rngD i j, fun _ => True⟩ M := by
  unfold rngW2 at p
  split at p
  · obtain ⟨h, q⟩ := post_chk.mp p
    exact ⟨_, _, rfl, h, q⟩
  · exact p.elim
def iRng1D (ff : DEnv → Py (List D)) : DEnv → Py Wk := fun ρ => Py.bnd (ff ρ) rngW1
def iRng2D (ff : DEnv → Py (List D)) : DEnv → Py Wk := fun ρ => Py.bnd (ff ρ) rngW2
variable {a b : Expr} {ff : DEnv → Py (List D)} {p : Pos}
theorem di_rng1 (hm : C.X.mg "range" = none) (ha : DA C [a] ff) (hg : Gl C.X "range" := by rfl) (hs : starEach [a] C.X.env = [(false, eval a C.X.env)] := by rfl) : DI C tg (.Call (.Name "range" p) [a] [] pos) (iRng1D ff) :=
  ⟨_, pi_range1 hg hm self_a hs, fun {g ρ M σ H} R Rr p => by
    refine ha.then_ Rr p fun vs ds M1 H1 g1 l1 R1 r1 p1 => ?_
    obtain ⟨j, rfl, ⟨b1, b2⟩, q⟩ := rngW1_post p1
    obtain ⟨v, rfl, r⟩ := r1.one
    have W := walkD_range (K := C.X.K) (g := g1) (lo := 0) (hi := j) (ok := fun _ => True)
    rw [Int.sub_zero] at W
    exact ⟨j, by rw [rep_int r], b1, b2, q _ H1 g1 _ _ l1 R1 W⟩⟩
theorem di_rng2 (hm : C.X.mg "range" = none) (ha : DA C [a, b] ff) (hg : Gl C.X "range" := by rfl) (hs : starEach [a, b] C.X.env = [(false, eval a C.X.env), (false, eval b C.X.env)] := by rfl) (hs2 : starEach [b] C.X.env = [(false, eval b C.X.env)] := by rfl) : DI C tg (.Call (.Name "range" p) [a, b] [] pos) (iRng2D ff) :=
  ⟨_, pi_range2 hg hm self_a hs hs2, fun {g ρ M σ H} R Rr p => by
    refine ha.then_ Rr p fun vs ds M1 H1 g1 l1 R1 r1 p1 => ?_
    obtain ⟨i, j, rfl, ⟨b1, b2, b3, b4⟩, q⟩ := rngW2_post p1
    obtain ⟨v, w', rfl, r, r'⟩ := r1.two
    exact ⟨i, j, by rw [rep_int r, rep_int r'], ⟨b1, b2, b3, b4⟩, q _ H1 g1 _ _ l1 R1 walkD_range⟩⟩
/-- pairs: enumerate, zip -/
theorem walkD_pairs {K : PySem.W.Frag} {g : G} {w : Wk} {J : It} {Gd : Hp → Prop} {Y : Nat → Hp → V → Hp → Prop} (wk : Walk J w.ds.length Gd Y) (ok : ∀ {g' : G} {M : Store} {H : Hp}, g.sub g' → RelH K g' M H → w.ok M → Gd H)
    (it : ∀ {g' : G} {M : Store} {H H' : Hp} {i : Nat} {x : V}, g.sub g' → RelH K g' M H → w.ok M → Y i H x H' → ∃ T v u a b, x = .ref T ∧ H T = none ∧ H' = upd H T (.tup [v, u]) ∧ w.ds[i]? = some (.tup [a, b]) ∧ Rep K g' v a ∧ Rep K g' u b) : WalkD K g w J Gd Y where
  wk := wk
  ok := ok
  it := fun {g' M H H' i x} l R o y => by
    obtain ⟨T, v, u, a, b, rfl, hT, rfl, e, r1, r2⟩ := it l R o y
    exact ⟨_, g'.add T (.tup [v, u]), e, G.le_add (R.fnone hT), R.laid hT, rep_tup_new (.cons r1 (.cons r2 .nil)) (R.fnone hT)⟩
def enumD (n : Nat) : List D → List D
  | [] => []
  | d :: ds => .tup [.int n, d] :: enumD (n + 1) ds
theorem enumD_length : ∀ (ds : List D) (n : Nat), (enumD n ds).length = ds.length
  | [], _ => rfl
  | _ :: ds, n => congrArg (· + 1) (enumD_length ds (n + 1))
theorem enumD_get : ∀ (ds : List D) (n i : Nat) (d : D), ds[i]? = some d → (enumD n ds)[i]? = some (.tup [.int ((n + i : Nat) : Int), d])
  | [], _, _, _, h => by simp at h
  | e :: ds, n, 0, d, h => by
    have h' : some e = some d := by simpa using h
    cases h'
    rfl
  | e :: ds, n, i + 1, d, h => by
    have h' : ds[i]? = some d := by simpa using h
    have := enumD_get ds (n + 1) i d h'
    show (enumD (n + 1) ds)[i]? = _
    rw [this]
    congr 3
    have : n + 1 + i = n + (i + 1) := by omega
    rw [this]
def wkEnum (wk : D → Py Wk) : List D → Py Wk
  | [d] => Py.bnd (wk d) fun w => Py.ret ⟨enumD 0 w.ds, w.ok⟩
  | _ => Py.bad
theorem wkEnum_post {wk : D → Py Wk} {ds : List D} {M : Store} {q : Wk → Store → Prop} {E : Exn → Store → Prop} (p : Post (wkEnum wk ds M) q E) : ∃ d, ds = [d] ∧ Post (wk d M) (fun w M' => q ⟨enumD 0 w.ds, w.ok⟩ M') E := by
  unfold wkEnum at p
  split at p
  · exact ⟨_, rfl, post_bnd.mp p⟩
  · exact p.elim
def iEnumD (wk : D → Py Wk) (ff : DEnv → Py (List D)) : DEnv → Py Wk := fun ρ => Py.bnd (ff ρ) (wkEnum wk)
theorem di_enum {tpos : Pos} {elts : List Expr} {kk : Nat} (hm : C.X.mg "enumerate" = none) (ha : DA C [a] ff) (hg : Gl C.X "enumerate" := by rfl) (hs : starEach [a] C.X.env = [(false, eval a C.X.env)] := by rfl) : DI C (.Tuple elts kk tpos) (.Call (.Name "enumerate" p) [a] [] pos) (iEnumD wkL ff) :=
  ⟨_, pi_enum hg hm self_a hs, fun {g ρ M σ H} R Rr p => by
    refine ha.then_ Rr p fun vs ds M1 H1 g1 l1 R1 r1 p1 => ?_
    obtain ⟨d, rfl, p2⟩ := wkEnum_post p1
    obtain ⟨v, rfl, r⟩ := r1.one
    obtain ⟨a', us, w, rfl, q1, q2, q3, q4⟩ := wkL_post R1.h r p2
    refine ⟨a', us, rfl, q1, q3 _ H1 g1 (fun H => ∃ vs, SqL C.X.K H a' vs ∧ vs.length = w.ds.length) (fun i H v H' => ∃ T x, v = .ref T ∧ H T = none ∧ H' = upd H T (.tup [.int (i : Nat), x]) ∧ ∀ xs, SqL C.X.K H a' xs → xs[i]? = some x) l1 R1 (walkD_pairs ?_ ?_ ?_)⟩
    · show Walk _ (enumD 0 w.ds).length _ _
      rw [enumD_length]
      exact ⟨fun i H hi ⟨vs, q, e⟩ => ⟨vs, vs[i]'(by omega), q, by simp⟩, fun H ⟨vs, q, e⟩ => ⟨vs, q, by omega⟩, fun i H x H' hi _ y => y⟩
    · intro g' M H l R o
      obtain ⟨vs, q, r⟩ := q4 l R o
      exact ⟨vs, q, r.length⟩
    · intro g' M H H' i x l R o y
      obtain ⟨T, x', rfl, hT, rfl, h⟩ := y
      obtain ⟨vs, q, r⟩ := q4 l R o
      obtain ⟨d', e1, e2⟩ := r.getV (h vs q)
      have e3 := enumD_get w.ds 0 i d' e1
      rw [Nat.zero_add] at e3
      exact ⟨T, _, x', .int (i : Nat), d', rfl, hT, rfl, e3, .int _, e2⟩⟩
end

/-! ### for -/
open Classical in
noncomputable def okM {α : Type} (ok : Store → Prop) (k : Py α) : Py α := fun M => if ok M then k M else .bad
theorem okM_post {α : Type} {ok : Store → Prop} {k : Py α} {M : Store} {q : α → Store → Prop} {E : Exn → Store → Prop} (p : Post (okM ok k M) q E) : ok M ∧ Post (k M) q E := by
  unfold okM at p
  split at p
  · rename_i h; exact ⟨h, p⟩
  · exact p.elim
/-- a loop's turns -/
noncomputable def forD (ok : Store → Prop) (tg : D → DEnv → Py DEnv) (body : DEnv → Py Fl) : List D → DEnv → Py Fl
  | [], ρ => okM ok (Py.ret (.nx ρ))
  | d :: ds, ρ => okM ok (Py.bnd (tg d ρ) fun ρ1 => Py.bnd (body ρ1) fun r => match r with
    | .nx ρ' => forD ok tg body ds ρ'
    | .ct ρ' => forD ok tg body ds ρ'
    | .bk ρ' => Py.ret (.nx ρ')
    | .rt v => Py.ret (.rt v))
noncomputable def sFor (it : DEnv → Py Wk) (tg : D → DEnv → Py DEnv) (body : DEnv → Py Fl) : DEnv → Py Fl := fun ρ => Py.bnd (it ρ) fun w => forD w.ok tg body w.ds ρ
section
variable {C : DX} {pos : Pos} {tg iter : Expr} {body : List Stmt} {it : DEnv → Py Wk} {ft : D → DEnv → Py DEnv} {fb : DEnv → Py Fl}
theorem ds_for (hp : PassesOwn (model C.X.prog C.X.w) C.X.A C.X.env C.X.xe) (hc : C.X.calm = true) (ev : C.Even) {vs : List Nat} {t : TG} (hi : DI C tg iter it) (hg : DG C vs tg ft t) (hb : DSs C body fb)
    (hs : ∀ x, foldedSetIterable iter C.X.env x = pure x := by intro _; rfl) : DS C (.For tg iter body [] pos) (sFor it ft fb) := by
  obtain ⟨wi, pi, hwi⟩ := hi.run
  refine ⟨fun {g ρ M σ H} E R p => wps (ps_for hp hc pi hg.pg self_ss hs) ?_⟩
  refine hwi _ R ((post_bnd.mp p).imp fun w M1 p1 J H1 g1 Gd Y l1 R1 WD => ?_)
  refine for_it WD.wk (fun i σ' H' => ∃ g' ρ' M', g1.le g' ∧ Rl C g' ρ' M' σ' H' ∧ Post (forD w.ok ft fb (w.ds.drop i) ρ' M') (QS C g E) (C.We ρ)) ⟨g1, ρ, M1, G.le.refl g1, R1, by rw [List.drop_zero]; exact p1⟩ ?_ ?_ ?_
  · rintro i σ' H' hi ⟨g', ρ', M', l', R', p'⟩
    have : w.ok M' := by
      cases e : w.ds.drop i with
      | nil => rw [e] at p'; exact (okM_post p').1
      | cons d ds => rw [e] at p'; exact (okM_post p').1
    exact WD.ok l'.sub R'.h this
  · rintro i x σ' H' H2 hi ⟨g', ρ', M', l', R', p'⟩ y
    have e : w.ds.drop i = w.ds[i] :: w.ds.drop (i + 1) := List.drop_eq_getElem_cons hi
    rw [e] at p'
    obtain ⟨ok, p2⟩ := okM_post p'
    obtain ⟨d, g2, e1, l2, R2, r⟩ := WD.it l'.sub R'.h ok y
    rw [List.getElem?_eq_getElem hi] at e1
    cases e1
    have Rl2 : Rl C g2 ρ' M' σ' H2 := R'.next l2 R2
    have L2 : g.le g2 := (l1.trans l').trans l2
    refine hg.run _ Rl2 r (((post_bnd.mp p2).mono (fun ρ3 M3 p3 σ3 H3 g3 l3 R3 _ => ?_) fun e' M'' z => ev _ _ _ _ z))
    refine hb.run _ R3 ((post_bnd.mp p3).mono (fun r M4 p4 => ?_) fun e' M'' z => ev _ _ _ _ z)
    cases r with
    | nx ρ4 => exact fun σ4 H4 g4 l4 R4 => ⟨g4, ρ4, M4, ((l'.trans l2).trans l3).trans l4, R4, p4⟩
    | ct ρ4 => exact fun σ4 H4 g4 l4 R4 => ⟨g4, ρ4, M4, ((l'.trans l2).trans l3).trans l4, R4, p4⟩
    | bk ρ4 => exact fun σ4 H4 g4 l4 R4 => p4 σ4 H4 g4 ((L2.trans l3).trans l4) R4
    | rt v => exact fun v4 H4 g4 l4 b4 R4 r4 => p4 v4 H4 g4 ((L2.trans l3).trans l4) b4 R4 r4
  · rintro σ' H' ⟨g', ρ', M', l', R', p'⟩
    rw [List.drop_length] at p'
    obtain ⟨_, p2⟩ := okM_post p'
    exact p2 σ' H' g' (l1.trans l') R'
end
end L3
set_option Elab.async false
set_option linter.all false
set_option maxRecDepth 100000
set_option autoImplicit false
namespace L3
open PySem PySem.Spec L2
open PyProof.Rows hiding St

/-! ### comprehensions -/
noncomputable def lcD (ok : Store → Prop) (tg : D → DEnv → Py DEnv) (tt : DEnv → Py Bool) (fe : DEnv → Py D) (ρ : DEnv) : List D → List D → Py (List D)
  | [], acc => okM ok (Py.ret acc)
  | d :: ds, acc => okM ok (Py.bnd (tg d ρ) fun ρ1 => Py.bnd (tt ρ1) fun b => if b then Py.bnd (fe ρ1) fun y => Py.chk (acc.length < sizeLine) (lcD ok tg tt fe ρ ds (acc ++ [y])) else lcD ok tg tt fe ρ ds acc)
noncomputable def lcAll (vs : List Nat) (it : DEnv → Py Wk) (tg : D → DEnv → Py DEnv) (tt : DEnv → Py Bool) (fe : DEnv → Py D) : DEnv → Py (List D) := fun ρ => Py.bnd (it ρ) fun w => noX (lcD w.ok tg tt fe (wipeD ρ vs) w.ds [])
/-- a new list that is never changed -/
noncomputable def eLc (vs : List Nat) (it : DEnv → Py Wk) (tg : D → DEnv → Py DEnv) (tt : DEnv → Py Bool) (fe : DEnv → Py D) : DEnv → Py D := fun ρ => Py.bnd (lcAll vs it tg tt fe ρ) fun ds => Py.ret (.lst ds)
/-- one that changes -/
noncomputable def eLcN (vs : List Nat) (it : DEnv → Py Wk) (tg : D → DEnv → Py DEnv) (tt : DEnv → Py Bool) (fe : DEnv → Py D) : DEnv → Py D := fun ρ => Py.bnd (lcAll vs it tg tt fe ρ) fun ds => alloc (.lst ds)
def tYesD : DEnv → Py Bool := fun _ => Py.ret true
theorem wipe_wipe {σ : St} {l : List Nat} : L2.wipe (L2.wipe σ l) l = L2.wipe σ l := by
  refine List.ext_getElem? fun j => ?_
  rw [wipe_at, wipe_at]
  by_cases hj : j ∈ l
  · rw [if_pos hj, if_pos hj]
    cases σ[j]? <;> rfl
  · rw [if_neg hj, if_neg hj]
/-- the block's context -/
abbrev DX.blk (C : DX) (scope : Scope) (B : G) (s : Shared) (H : Hp) (c : Addr) (cl : List (Str × Addr)) (fp : List Addr) : DX := ⟨C.X.blk s H scope (compEnvC scope cl c C.X.env) fp, B, fun _ _ _ => False⟩
theorem blk_even {C : DX} {scope : Scope} {B : G} {s : Shared} {H : Hp} {c : Addr} {cl : List (Str × Addr)} {fp : List Addr} : (C.blk scope B s H c cl fp).Even := fun _ _ _ _ z => z
/-- the tests of a block -/
structure DTU (C : DX) (scope : Scope) (ifs : List Expr) (tt : DEnv → Py Bool) (u : TT) : Prop where
  pt : ∀ s H c cl fp, PTs (C.X.blk s H scope (compEnvC scope cl c C.X.env) fp) ifs u
  run : ∀ {g : G} {ρ : DEnv} {M : Store} {σ : St} {H : Hp} (Q : Bool → Hp → Prop), (∀ s H0 c cl fp, Rl (C.blk scope g s H0 c cl fp) g ρ M σ H) → Post (tt ρ M) (fun d M' => ∀ H' g', g.le g' → RelH C.X.K g' M' H' → Q d H') (fun _ _ => False) → u σ H Q
section
variable {C : DX} {pos : Pos} {elt tg iter : Expr} {ifs : List Expr} {scope : Scope} {own : List (Str × Nat)} {it : DEnv → Py Wk} {ft : D → DEnv → Py DEnv} {tt : DEnv → Py Bool} {fe : DEnv → Py D} {t : TG} {u : TT}
theorem dtu_nil : DTU C scope [] tYesD tYes := ⟨fun _ _ _ _ _ => pts_nil, fun {g ρ M σ H} Q R p => p H g (G.le.refl g) (R C.X.s_0 H 0 [] []).h⟩
/-- what the elements ask, in every block -/
def eltT (X : Cx) (scope : Scope) (elt : Expr) : TE := fun σ H Q => ∀ s H0 c cl fp, WPE (X.blk s H0 scope (compEnvC scope cl c X.env) fp) elt σ H Q
def ifT (X : Cx) (scope : Scope) (c : Expr) : TT := fun σ H Q => ∀ s H0 c' cl fp, WPT (X.blk s H0 scope (compEnvC scope cl c' X.env) fp) c σ H Q
theorem dtu_one {c : Expr} {tc : DEnv → Py Bool} (h : ∀ B s H c' cl fp, DT (C.blk scope B s H c' cl fp) c tc) : DTU C scope [c] tc (ifT C.X scope c) :=
  ⟨fun s H c' cl fp => pts_one ⟨fun pins s' σ' H' Q' I h => h s H c' cl fp pins s' I⟩, fun {g ρ M σ H} Q R p s H0 c' cl fp => (h g s H0 c' cl fp).run Q (R s H0 c' cl fp) (p.mono (fun d M' q H' g' l R' => q H' g' l R'.h) fun _ _ z => z)⟩
/-- the core: what tLc asks -/
theorem lc_run (hi : DI C tg iter it) (hg : ∀ B s H c cl fp, DG (C.blk scope B s H c cl fp) (own.map (·.2)) tg ft t)
    (ht : DTU C scope ifs tt u) (he : ∀ B s H c cl fp, DE (C.blk scope B s H c cl fp) elt fe) {wi : TI}
    (hwi : ∀ {g : G} {ρ : DEnv} {M : Store} {σ : St} {H : Hp} (R : It → Hp → Prop), Rl C g ρ M σ H → Post (it ρ M) (fun w M' => ∀ J H' g' Gd Y, g.le g' → Rl C g' ρ M' σ H' → WalkD C.X.K g' w J Gd Y → R J H') (C.We ρ) → wi σ H R)
    {g : G} {ρ : DEnv} {M : Store} {σ : St} {H : Hp} {Q : VK} (R : Rl C g ρ M σ H)
    (p : Post (lcAll (own.map (·.2)) it ft tt fe ρ M) (fun ds M' => ∀ D H' g1 g' vs, g.le g1 → RelE C.X.K g1 σ ρ → C.B.le g1 → g1.sub g' → g'.P D = some (.lst vs) → g1.P D = none → (g1.F D = none) → (∀ a, a ≠ D → g1.P a = g'.P a) → RelH C.X.K g' M' H' → Reps C.X.K g' vs ds → Q (.ref D) H') (C.We ρ)) :
    tLc wi t u (eltT C.X scope elt) (own.map (·.2)) σ H Q := by
  refine hwi _ R ((post_bnd.mp p).imp fun w M1 p1 J H1 g1 Gd Y l1 R1 WD => ?_)
  intro D hD
  have gP : g1.P D = none := R1.h.pnone hD
  have gF : g1.F D = none := R1.h.fnone hD
  have eW : RelE C.X.K g1 (L2.wipe σ (own.map (·.2))) (wipeD ρ (own.map (·.2))) := R1.e.wipe _
  refine lc_it WD.wk (fun i H' => ∃ g' M' acc vs, g1.sub g' ∧ g'.P D = some (.lst vs) ∧ (∀ a, a ≠ D → g1.P a = g'.P a) ∧ RelH C.X.K g' M' H' ∧ Reps C.X.K g' vs acc ∧
    Post (lcD w.ok ft tt fe (wipeD ρ (own.map (·.2))) (w.ds.drop i) acc M') (fun ds M' => ∀ D H' g1 g' vs, g.le g1 → RelE C.X.K g1 σ ρ → C.B.le g1 → g1.sub g' → g'.P D = some (.lst vs) → g1.P D = none → (g1.F D = none) → (∀ a, a ≠ D → g1.P a = g'.P a) → RelH C.X.K g' M' H' → Reps C.X.K g' vs ds → Q (.ref D) H') (fun _ _ => False)) ?_ ?_ ?_ ?_
  · refine ⟨g1.bld D (.lst []), M1, [], [], ⟨⟨[], by simp [G.bld]⟩, fun _ _ q => q⟩, upd_same, fun a ha => ?_, R1.h.build hD, .nil, ?_⟩
    · show g1.P a = upd g1.P D _ a
      rw [upd_ne ha]
    · rw [List.drop_zero]
      exact noX_post p1
  · rintro i H' hi ⟨g', M', acc, vs, S, hP, hPn, Rh, rp, p'⟩
    have : w.ok M' := by
      cases e : w.ds.drop i with
      | nil => rw [e] at p'; exact (okM_post p').1
      | cons d ds => rw [e] at p'; exact (okM_post p').1
    exact WD.ok S Rh this
  · rintro i x H' H2 hi ⟨g', M', acc, vs, S, hP, hPn, Rh, rp, p'⟩ y
    have e : w.ds.drop i = w.ds[i] :: w.ds.drop (i + 1) := List.drop_eq_getElem_cons hi
    rw [e] at p'
    obtain ⟨ok, p2⟩ := okM_post p'
    obtain ⟨d, g2, e1, l2, R2, r⟩ := WD.it S Rh ok y
    rw [List.getElem?_eq_getElem hi] at e1
    cases e1
    have L12 : g1.sub g2 := S.trans l2.sub
    have Rb : ∀ s H0 c cl fp, Rl (C.blk scope g2 s H0 c cl fp) g2 (wipeD ρ (own.map (·.2))) M' (L2.wipe σ (own.map (·.2))) H2 := fun _ _ _ _ _ => ⟨G.le.refl g2, R2, eW.gro L12⟩
    refine (hg g2 C.X.s_0 H 0 [] []).run _ (Rb _ _ _ _ _) r ((post_bnd.mp p2).imp fun ρ1 M3 p3 σ3 H3 g3 l3 R3 hw => ⟨hw.trans wipe_wipe, ?_⟩)
    refine ht.run _ (fun _ _ _ _ _ => ⟨G.le.refl g3, R3.h, R3.e⟩) ((post_bnd.mp p3).imp fun b M4 p4 H4 g4 l4 R4 => ?_)
    have P4 : g4.P D = some (.lst vs) := by rw [l4.P, l3.P, l2.P]; exact hP
    have P4n : ∀ a, a ≠ D → g1.P a = g4.P a := fun a ha => by rw [l4.P, l3.P, l2.P]; exact hPn a ha
    have S4 : g'.le g4 := (l2.trans l3).trans l4
    cases b with
    | false =>
      rw [if_neg Bool.false_ne_true] at p4 ⊢
      exact ⟨g4, M4, acc, vs, S.trans S4.sub, P4, P4n, R4, rp.mono S4, p4⟩
    | true =>
      rw [if_pos rfl] at p4 ⊢
      intro s H0 c cl fp
      refine (he g4 s H0 c cl fp).run _ ⟨G.le.refl g4, R4, R3.e.mono l4⟩ ((post_bnd.mp p4).imp fun y M5 p5 v H5 g5 l5 R5 r5 => ?_)
      have P5 : g5.P D = some (.lst vs) := by rw [l5.P]; exact P4
      have r6 := rp.mono (S4.trans l5)
      obtain ⟨hz, p6⟩ := post_chk.mp p5
      have B5 : g5.sub (g5.bld D (.lst (vs ++ [v]))) := ⟨⟨[], by simp [G.bld]⟩, fun _ _ q => q⟩
      refine ⟨vs, (R5.h.prt _ _ P5).1, by rw [rp.length]; exact hz, g5.bld D (.lst (vs ++ [v])), M5, acc ++ [y], vs ++ [v], (S.trans (S4.trans l5).sub).trans B5, upd_same, fun a ha => ?_, R5.h.rebuild P5, (r6.append (.cons r5 .nil)).gro B5, p6⟩
      show g1.P a = upd g5.P D _ a
      rw [upd_ne ha, l5.P]
      exact P4n a ha
  · rintro H' ⟨g', M', acc, vs, S, hP, hPn, Rh, rp, p'⟩
    rw [List.drop_length] at p'
    obtain ⟨_, p2⟩ := okM_post p'
    exact p2 D H' g1 g' vs l1 R1.e R1.b S hP gP gF hPn Rh rp
theorem end_frz {g g1 g' : G} {ρ : DEnv} {M' : Store} {σ : St} {H' : Hp} {vs : List V} {ds : List D} {D : Addr} (l1 : g.le g1) (e1 : RelE C.X.K g1 σ ρ) (b1 : C.B.le g1) (S : g1.sub g') (hP : g'.P D = some (.lst vs)) (gP : g1.P D = none) (gF : g1.F D = none) (hPn : ∀ a, a ≠ D → g1.P a = g'.P a)
    (Rh : RelH C.X.K g' M' H') (rp : Reps C.X.K g' vs ds) : ∃ g2, g.le g2 ∧ Rl C g2 ρ M' σ H' ∧ Rep C.X.K g2 (.ref D) (.lst ds) := by
  have fD : g'.F D = none := (Rh.prt _ _ hP).2
  have S2 : g'.sub (g'.unb g1.P D (.lst vs)) := ⟨⟨[], by simp [G.unb]⟩, fun a o q => by
    show upd g'.F D _ a = some o
    rw [upd_ne (ne_of_none q fD)]
    exact q⟩
  have L : g1.le (g'.unb g1.P D (.lst vs)) := ⟨S.io, fun a o q => S2.F _ _ (S.F _ _ q), rfl⟩
  exact ⟨_, l1.trans L, ⟨b1.trans L, Rh.built hP gP hPn, e1.mono L⟩, .lst upd_same (rp.gro S2)⟩
theorem end_new {g g1 g' : G} {ρ : DEnv} {M' : Store} {σ : St} {H' : Hp} {vs : List V} {ds : List D} {D : Addr} (l1 : g.le g1) (e1 : RelE C.X.K g1 σ ρ) (b1 : C.B.le g1) (S : g1.sub g') (hP : g'.P D = some (.lst vs)) (gP : g1.P D = none) (gF : g1.F D = none) (hPn : ∀ a, a ≠ D → g1.P a = g'.P a)
    (Rh : RelH C.X.K g' M' H') (rp : Reps C.X.K g' vs ds) : ∃ g2, g.le g2 ∧ Rl C g2 ρ (M' ++ [some (.lst ds)]) σ H' ∧ Rep C.X.K g2 (.ref D) (.loc M'.length) := by
  have S2 : g'.sub (g'.unbL g1.P D) := ⟨⟨[D], rfl⟩, fun a o q => q⟩
  have L : g1.le (g'.unbL g1.P D) := ⟨(S.trans S2).io, fun a o q => S.F _ _ q, rfl⟩
  refine ⟨_, l1.trans L, ⟨b1.trans L, Rh.builtL hP gP hPn ⟨vs, (Rh.prt _ _ hP).1, rp⟩, e1.mono L⟩, .loc ?_⟩
  show (g'.io ++ [D])[M'.length]? = some D
  rw [← Rh.len, List.getElem?_concat_length]
structure FrOk (C : DX) (fr : List D → Py D) : Prop where
  run : ∀ {g g1 g' : G} {ρ : DEnv} {M' : Store} {σ : St} {H' : Hp} {vs : List V} {ds : List D} {D : Addr} {Q : VK} (l1 : g.le g1) (e1 : RelE C.X.K g1 σ ρ) (b1 : C.B.le g1) (S : g1.sub g') (hP : g'.P D = some (.lst vs)) (gP : g1.P D = none) (gF : g1.F D = none) (hPn : ∀ a, a ≠ D → g1.P a = g'.P a)
    (Rh : RelH C.X.K g' M' H') (rp : Reps C.X.K g' vs ds), Post (fr ds M') (QV C g ρ σ Q) (C.We ρ) → Q (.ref D) H'
theorem lc_any {fr : List D → Py D} (hfr : FrOk C fr) (hi : DI C tg iter it) (hg : ∀ B s H c cl fp, DG (C.blk scope B s H c cl fp) (own.map (·.2)) tg ft t) (ht : DTU C scope ifs tt u) (he : ∀ B s H c cl fp, DE (C.blk scope B s H c cl fp) elt fe) :
    ∃ (wi : TI) (te : TE), PI C.X tg iter wi ∧ (∀ s H c cl fp, PE (C.X.blk s H scope (compEnvC scope cl c C.X.env) fp) elt te) ∧ ∀ {Q : VK} {g : G} {ρ : DEnv} {M : Store} {σ : St} {H : Hp}, Rl C g ρ M σ H → Post (Py.bnd (lcAll (own.map (·.2)) it ft tt fe ρ) fr M) (QV C g ρ σ Q) (C.We ρ) → tLc wi t u te (own.map (·.2)) σ H Q := by
  obtain ⟨wi, pi, hwi⟩ := hi.run
  refine ⟨wi, eltT C.X scope elt, pi, fun s H c cl fp => ⟨fun pins s' σ' H' Q' I h => h s H c cl fp pins s' I⟩, fun {Q g ρ M σ H} R p => ?_⟩
  exact lc_run hi hg ht he hwi R ((post_bnd.mp p).imp fun ds M' q D H' g1 g' vs l1 e1 b1 S hP gP gF hPn Rh rp => hfr.run l1 e1 b1 S hP gP gF hPn Rh rp q)
def frF : List D → Py D := fun ds => Py.ret (.lst ds)
def frN : List D → Py D := fun ds => alloc (.lst ds)
theorem fr_f : FrOk C frF := by
  constructor
  intro g g1 g' ρ M' σ H' vs ds D Q l1 e1 b1 S hP gP gF hPn Rh rp p
  obtain ⟨g2, l2, R2, r2⟩ := end_frz l1 e1 b1 S hP gP gF hPn Rh rp
  exact p _ H' g2 l2 R2 r2
theorem fr_n : FrOk C frN := by
  constructor
  intro g g1 g' ρ M' σ H' vs ds D Q l1 e1 b1 S hP gP gF hPn Rh rp p
  obtain ⟨g2, l2, R2, r2⟩ := end_new l1 e1 b1 S hP gP gF hPn Rh rp
  exact p _ H' g2 l2 R2 r2
def sLc (i : Nat) (fr : List D → Py D) (lc : DEnv → Py (List D)) : DEnv → Py Fl := fun ρ => Py.bnd (Py.bnd (lc ρ) fr) fun d => Py.ret (.nx (ρ.set i (some d)))
def eLcA (fr : List D → Py D) (lc : DEnv → Py (List D)) : DEnv → Py D := fun ρ => Py.bnd (lc ρ) fr
theorem de_lcA {fr : List D → Py D} {vs : List Nat} (hfr : FrOk C fr) (hc : C.X.calm = true) (hN : C.X.N.Nodup) (hi : DI C tg iter it) (ok : BlkOk C.X.N C.X.env.scope scope own) (hg : ∀ B s H c cl fp, DG (C.blk scope B s H c cl fp) vs tg ft t)
    (ht : DTU C scope ifs tt u) (he : ∀ B s H c cl fp, DE (C.blk scope B s H c cl fp) elt fe) (hvs : own.map (·.2) = vs := by rfl) (hs : ∀ x, foldedSetIterable iter C.X.env x = pure x := by intro _; rfl) :
    DE C (.ListComp elt [⟨tg, iter, ifs, 0⟩] scope pos) (eLcA fr (lcAll vs it ft tt fe)) := by
  subst hvs
  obtain ⟨wi, te, pi, pe, q⟩ := lc_any hfr hi hg ht he
  exact ⟨fun {g ρ M σ H} Q R p => wpe (pe_lc hc hN pi ok (fun s H c cl fp => (hg g s H c cl fp).pg) ht.pt pe hs) (q R p)⟩
/-- y = [..] -/
theorem ds_setLcA {fr : List D → Py D} {vs : List Nat} (hfr : FrOk C fr) {i : Nat} {y : Str} {py spos : Pos} (hc : C.X.calm = true) (hN : C.X.N.Nodup) (hy : C.X.N[i]? = some y) (hyl : C.X.env.scope.names.lookup y = some .local)
    (hsw : swapsWith (.ListComp elt [⟨tg, iter, ifs, 0⟩] scope pos) (some (.Name y py)) spos.line C.X.env = pure true) (hi : DI C tg iter it) (ok : BlkOk C.X.N C.X.env.scope scope own) (hg : ∀ B s H c cl fp, DG (C.blk scope B s H c cl fp) vs tg ft t)
    (ht : DTU C scope ifs tt u) (he : ∀ B s H c cl fp, DE (C.blk scope B s H c cl fp) elt fe) (hvs : own.map (·.2) = vs := by rfl) (hs : ∀ x, foldedSetIterable iter C.X.env x = pure x := by intro _; rfl) :
    DS C (.Assign [.Name y py] (.ListComp elt [⟨tg, iter, ifs, 0⟩] scope pos) spos) (sLc i fr (lcAll vs it ft tt fe)) := by
  subst hvs
  obtain ⟨wi, te, pi, pe, q⟩ := lc_any hfr hi hg ht he
  refine ⟨fun {g ρ M σ H} E R p => wps (ps_setLc hc hN hy hyl hsw pi ok (fun s H c cl fp => (hg g s H c cl fp).pg) ht.pt pe hs) ?_⟩
  exact q R ((post_bnd.mp p).imp fun d M' p' v H' g' l R' r => p' _ H' g' l (R'.set i r))
end
end L3
set_option Elab.async false
set_option linter.all false
set_option maxRecDepth 100000
set_option autoImplicit false
namespace L3
open PySem PySem.Spec L2
open PyProof.Rows hiding St

/-! ### built-in functions -/
def DCl (C : DX) (f : Value) (op : List D → Py D) : Prop := ∃ r, CallR C.X f r ∧
  ∀ {g : G} {ρ : DEnv} {M : Store} {σ : St} {H : Hp} {xs : List V} {ds : List D} (Q : VK), Rl C g ρ M σ H → Reps C.X.K g xs ds → Post (op ds M) (QV C g ρ σ Q) (C.We ρ) → r xs H Q
def eCall (op : List D → Py D) (ff : DEnv → Py (List D)) : DEnv → Py D := fun ρ => Py.bnd (ff ρ) op
section
variable {C : DX} {x : Str} {p pos : Pos} {e : Expr} {es : List Expr} {ff : DEnv → Py (List D)} {op : List D → Py D} {id T : String}
theorem de_callB (hc : DCl C (.builtin id) op) (hm : C.X.mg x = none) (ha : DA C (e :: es) ff) (hv : bootBuiltins x = some (.builtin id) := by decide +kernel) (hg : Gl C.X x := by rfl) (hn : x ≠ "__name__" := by decide) (hdb : (x == ("__debug__" : Str)) = false := by decide)
    (he : starEach (e :: es) C.X.env = (false, eval e C.X.env) :: starEach es C.X.env := by rfl) (hpl : (backTo pos (starEach es C.X.env)).any (·.1) = false := by rfl) : DE C (.Call (.Name x p) (e :: es) [] pos) (eCall op ff) := by
  obtain ⟨r, hr, h⟩ := hc
  exact ⟨fun {g ρ M σ H} Q R p => wpe (pe_callB hr hg hm hv self_a hn hdb he hpl) (ha.then_ R p fun vs ds M1 H1 g1 l1 R1 r1 p1 => h Q R1 r1 (p1.imp fun _ _ q => q.later l1))⟩
theorem de_callTy (hc : DCl C (.type T) op) (hm : C.X.mg x = none) (ha : DA C (e :: es) ff) (hv : bootBuiltins x = some (.type T) := by decide +kernel) (hg : Gl C.X x := by rfl) (hn : x ≠ "__name__" := by decide) (hdb : (x == ("__debug__" : Str)) = false := by decide)
    (he : starEach (e :: es) C.X.env = (false, eval e C.X.env) :: starEach es C.X.env := by rfl) (hpl : (backTo pos (starEach es C.X.env)).any (·.1) = false := by rfl) : DE C (.Call (.Name x p) (e :: es) [] pos) (eCall op ff) := by
  obtain ⟨r, hr, h⟩ := hc
  exact ⟨fun {g ρ M σ H} Q R p => wpe (pe_callTy hr hg hm hv self_a hn hdb he hpl) (ha.then_ R p fun vs ds M1 H1 g1 l1 R1 r1 p1 => h Q R1 r1 (p1.imp fun _ _ q => q.later l1))⟩
def one (f : D → Py D) : List D → Py D
  | [d] => f d
  | _ => Py.bad
def twoD (f : D → D → Py D) : List D → Py D
  | [d, e] => f d e
  | _ => Py.bad
theorem one_post {f : D → Py D} {ds : List D} {M : Store} {q : D → Store → Prop} {E : Exn → Store → Prop} (p : Post (one f ds M) q E) : ∃ d, ds = [d] ∧ Post (f d M) q E := by
  unfold one at p
  split at p
  · exact ⟨_, rfl, p⟩
  · exact p.elim
theorem twoD_post {f : D → D → Py D} {ds : List D} {M : Store} {q : D → Store → Prop} {E : Exn → Store → Prop} (p : Post (twoD f ds M) q E) : ∃ d e, ds = [d, e] ∧ Post (f d e M) q E := by
  unfold twoD at p
  split at p
  · exact ⟨_, _, rfl, p⟩
  · exact p.elim
theorem dcl_one {f : Value} {g1 : D → Py D} {r : List V → Hp → VK → Prop} (hr : CallR C.X f r)
    (h : ∀ {g : G} {ρ : DEnv} {M : Store} {σ : St} {H : Hp} {v : V} {d : D} (Q : VK), Rl C g ρ M σ H → Rep C.X.K g v d → Post (g1 d M) (QV C g ρ σ Q) (C.We ρ) → r [v] H Q) : DCl C f (one g1) :=
  ⟨r, hr, fun {g ρ M σ H xs ds} Q R rr p => by
    obtain ⟨d, rfl, q⟩ := one_post p
    obtain ⟨v, rfl, r1⟩ := rr.one
    exact h Q R r1 q⟩
theorem dcl_two {f : Value} {g1 : D → D → Py D} {r : List V → Hp → VK → Prop} (hr : CallR C.X f r)
    (h : ∀ {g : G} {ρ : DEnv} {M : Store} {σ : St} {H : Hp} {v u : V} {d e : D} (Q : VK), Rl C g ρ M σ H → Rep C.X.K g v d → Rep C.X.K g u e → Post (g1 d e M) (QV C g ρ σ Q) (C.We ρ) → r [v, u] H Q) : DCl C f (twoD g1) :=
  ⟨r, hr, fun {g ρ M σ H xs ds} Q R rr p => by
    obtain ⟨d, e, rfl, q⟩ := twoD_post p
    obtain ⟨v, u, rfl, r1, r2⟩ := rr.two
    exact h Q R r1 r2 q⟩
/-- len -/
def lenD : D → Py D
  | .str z => Py.chk (z.length ≤ sizeLine) (Py.ret (.int z.length))
  | d => Py.bnd (items d) fun ds => Py.ret (.int ds.length)
theorem dc_len : DCl C (.builtin "len") (one lenD) := dcl_one (call_len_seq.or call_len_str) fun {g ρ M σ H v d} Q R r p => by
  have seq : Post (Py.bnd (items d) (fun ds => Py.ret (.int ds.length)) M) (QV C g ρ σ Q) (C.We ρ) → ∃ p ys, [v] = [.ref p] ∧ (SqL C.X.K H p ys ∨ SqT C.X.K H p ys) ∧ Q (.int ys.length) H := fun p => by
    obtain ⟨a, vs, ds, rfl, hs, t, q⟩ := items_post R.h r (post_bnd.mp p)
    refine ⟨a, vs, rfl, hs, ?_⟩
    rw [t.length]
    exact QV.here q R (.int _)
  cases d with
  | str z =>
    obtain ⟨hz, q⟩ := post_chk.mp p
    exact .inr ⟨z, by rw [rep_str r], hz, QV.here q R (.int _)⟩
  | _ => exact .inl (seq p)
def absD : D → Py D
  | .int i => Py.ret (.int (if i < 0 then -i else i))
  | _ => Py.bad
theorem dc_abs : DCl C (.builtin "abs") (one absD) := dcl_one call_abs fun {g ρ M σ H v d} Q R r p => by
  cases d with
  | int i => exact ⟨i, by rw [rep_int r], QV.here p R (.int _)⟩
  | _ => exact p.elim
def intD : D → Py D
  | .int i => Py.ret (.int i)
  | .bl k => Py.ret (.int (if k then 1 else 0))
  | _ => Py.bad
theorem dc_int : DCl C (.type "int") (one intD) := dcl_one call_int1 fun {g ρ M σ H v d} Q R r p => by
  cases d with
  | int i => exact .inl ⟨i, by rw [rep_int r], QV.here p R (.int _)⟩
  | bl i => exact .inr ⟨i, by rw [rep_bl r], QV.here p R (.int _)⟩
  | _ => exact p.elim
def strD : D → Py D
  | .int i => Py.chk (i.natAbs.log2 < 1920) (Py.ret (.str (toString i)))
  | _ => Py.bad
theorem dc_strI : DCl C (.type "str") (one strD) := dcl_one call_str_int fun {g ρ M σ H v d} Q R r p => by
  cases d with
  | int i => exact ⟨i, by rw [rep_int r], (post_chk.mp p).1, QV.here (post_chk.mp p).2 R (.str _)⟩
  | _ => exact p.elim
def maxI : D → D → Py D := intOp fun i j => Py.ret (.int (if j > i then j else i))
def minI : D → D → Py D := intOp fun i j => Py.ret (.int (if j < i then j else i))
theorem dc_max2 (hc : C.X.calm = true) : DCl C (.builtin "max") (twoD maxI) := dcl_two (call_max2 hc) fun {g ρ M σ H v u d e} Q R r r' p => by
  obtain ⟨i, j, rfl, rfl, q⟩ := intOp_post p
  exact ⟨i, j, by rw [rep_int r, rep_int r'], QV.here q R (.int _)⟩
theorem dc_min2 (hc : C.X.calm = true) : DCl C (.builtin "min") (twoD minI) := dcl_two (call_min2 hc) fun {g ρ M σ H v u d e} Q R r r' p => by
  obtain ⟨i, j, rfl, rfl, q⟩ := intOp_post p
  exact ⟨i, j, by rw [rep_int r, rep_int r'], QV.here q R (.int _)⟩
/-- tuple(x), list(x) -/
def tupD : D → Py D
  | .tup xs => Py.ret (.tup xs)
  | d => Py.bnd (litems d) fun ds => Py.ret (.tup ds)
theorem dc_tup : DCl C (.type "tuple") (one tupD) := dcl_one call_tuple_of fun {g ρ M σ H v d} Q R r p => by
  have lst : ∀ {d : D}, Rep C.X.K g v d → Post (Py.bnd (litems d) (fun ds => Py.ret (.tup ds)) M) (QV C g ρ σ Q) (C.We ρ) → ∃ p ys, [v] = [.ref p] ∧ ((SqL C.X.K H p ys ∧ ∀ l, H l = none → Q (.ref l) (upd H l (.tup ys))) ∨ (SqT C.X.K H p ys ∧ Q (.ref p) H)) := fun r p => by
    obtain ⟨a, vs, ds, rfl, hs, t, q⟩ := litems_post R.h r (post_bnd.mp p)
    exact ⟨a, vs, rfl, .inl ⟨hs, fun l hl => QV.lay q R hl (rep_tup_new t (R.h.fnone hl))⟩⟩
  cases d with
  | tup xs =>
    cases r with
    | tup s t => exact ⟨_, _, rfl, .inr ⟨.of (R.h.frz _ _ s), QV.here p R (.tup s t)⟩⟩
  | _ => exact lst r p
def lstD (d : D) : Py D := Py.bnd (items d) fun ds => Py.ret (.lst ds)
def lstN (d : D) : Py D := Py.bnd (items d) fun ds => alloc (.lst ds)
theorem dc_lst : DCl C (.type "list") (one lstD) := dcl_one call_list_of fun {g ρ M σ H v d} Q R r p => by
  obtain ⟨a, vs, ds, rfl, hs, t, q⟩ := items_post R.h r (post_bnd.mp p)
  exact ⟨a, vs, rfl, hs, fun l hl => QV.lay q R hl (rep_lst_new t (R.h.fnone hl))⟩
theorem dc_lstN : DCl C (.type "list") (one lstN) := dcl_one call_list_of fun {g ρ M σ H v d} Q R r p => by
  obtain ⟨a, vs, ds, rfl, hs, t, q⟩ := items_post R.h r (post_bnd.mp p)
  exact ⟨a, vs, rfl, hs, fun l hl => QV.make q R hl ⟨vs, upd_same, t.mono G.le_more⟩⟩
/-- all, any -/
def blsOf : List D → Option (List Bool)
  | [] => some []
  | .bl b :: r => (blsOf r).map fun bs => b :: bs
  | _ :: _ => none
theorem bls_rep {K : PySem.W.Frag} {g : G} : ∀ {vs : List V} {ds : List D} {bs : List Bool}, Reps K g vs ds → blsOf ds = some bs → vs = bs.map V.bl
  | _, _, _, .nil, e => by cases e; rfl
  | _, _, _, .cons (d := .bl b) r t, e => by
    obtain ⟨cs, e1, e2⟩ := Option.map_eq_some_iff.mp (show (blsOf _).map _ = some _ from e)
    subst e2
    rw [rep_bl r, bls_rep t e1]
    rfl
  | _, _, _, .cons (d := .non) r t, e => by cases e
  | _, _, _, .cons (d := .int _) r t, e => by cases e
  | _, _, _, .cons (d := .str _) r t, e => by cases e
  | _, _, _, .cons (d := .tup _) r t, e => by cases e
  | _, _, _, .cons (d := .lst _) r t, e => by cases e
  | _, _, _, .cons (d := .ro _) r t, e => by cases e
  | _, _, _, .cons (d := .dk _) r t, e => by cases e
  | _, _, _, .cons (d := .ins _ _) r t, e => by cases e
  | _, _, _, .cons (d := .loc _) r t, e => by cases e
  | _, _, _, .cons (d := .ref _) r t, e => by cases e
  | _, _, _, .cons (d := .ty _) r t, e => by cases e
def blsD (f : List Bool → Bool) (d : D) : Py D := Py.bnd (litems d) fun ds => match blsOf ds with
  | some bs => Py.ret (.bl (f bs))
  | none => Py.bad
theorem blsD_post {K : PySem.W.Frag} {g : G} {M : Store} {H : Hp} {f : List Bool → Bool} {v : V} {d : D} {q : D → Store → Prop} {E : Exn → Store → Prop} (R : RelH K g M H) (r : Rep K g v d) (p : Post (blsD f d M) q E) : ∃ a bs, v = .ref a ∧ SqL K H a (bs.map V.bl) ∧ q (.bl (f bs)) M := by
  obtain ⟨a, vs, ds, rfl, hs, t, q⟩ := litems_post R r (post_bnd.mp p)
  cases e : blsOf ds with
  | none => rw [e] at q; exact q.elim
  | some bs =>
    rw [e] at q
    have := bls_rep t e
    subst this
    exact ⟨a, bs, rfl, hs, q⟩
theorem dc_all (hc : C.X.calm = true) : DCl C (.builtin "all") (one (blsD fun bs => bs.all _root_.id)) := dcl_one (cr_all hc) fun {g ρ M σ H v d} Q R r p => by
  obtain ⟨a, bs, rfl, hs, q⟩ := blsD_post R.h r p
  exact ⟨a, bs, rfl, hs, QV.here q R (.bl _)⟩
theorem dc_any (hc : C.X.calm = true) : DCl C (.builtin "any") (one (blsD fun bs => bs.any _root_.id)) := dcl_one (cr_any hc) fun {g ρ M σ H v d} Q R r p => by
  obtain ⟨a, bs, rfl, hs, q⟩ := blsD_post R.h r p
  exact ⟨a, bs, rfl, hs, QV.here q R (.bl _)⟩
/-- isinstance with built-in types -/
def tyN (M : Store) : D → Option String
  | .non => some "NoneType"
  | .bl _ => some "bool"
  | .int _ => some "int"
  | .str _ => some "str"
  | .tup _ => some "tuple"
  | .lst _ => some "list"
  | .ro _ => some "list"
  | .dk _ => some "dict"
  | .loc n => match M[n]? with
    | some (some (.lst _)) => some "list"
    | some (some (.dk _)) => some "dict"
    | _ => none
  | _ => none
def tyNames : List String := ["NoneType", "bool", "int", "str", "tuple", "list", "dict"]
def isT (T t : String) : Bool := t == T || (T == "int" && t == "bool")
theorem tyN_ok {K : PySem.W.Frag} {g : G} {M : Store} {H : Hp} {v : V} {d : D} {t : String} (R : RelH K g M H) (r : Rep K g v d) (e : tyN M d = some t) : TyX K H v (.type t) ∧ t ∈ tyNames := by
  cases r with
  | non => cases e; exact ⟨.base .non, by decide⟩
  | bl b => cases e; exact ⟨.base (.bl b), by decide⟩
  | int b => cases e; exact ⟨.base (.int b), by decide⟩
  | str b => cases e; exact ⟨.base (.str b), by decide⟩
  | tup s t => cases e; exact ⟨.base (.tup (R.frz _ _ s)), by decide⟩
  | lst s t => cases e; exact ⟨.base (.lst (R.frz _ _ s)), by decide⟩
  | ro s t =>
    cases e
    rcases sqL_mono R.frz s with (h | ⟨o, h⟩) | ⟨o, its, n, h1, h2, _⟩
    · exact ⟨.base (.lst h), by decide⟩
    · exact ⟨.base (.frz h), by decide⟩
    · exact ⟨.kList h1 h2, by decide⟩
  | dk s t z => cases e; exact ⟨.base (.dK (R.frz _ _ s)), by decide⟩
  | @loc n a e1 =>
    have e' : (match M[n]? with | some (some (.lst _)) => some "list" | some (some (.dk _)) => some "dict" | _ => none) = some t := e
    split at e'
    · rename_i xs h
      cases e'
      obtain ⟨a', vs, ea, e2, e4, e5⟩ := loc_lst R (.loc e1) h
      rw [ea]
      exact ⟨.base (.lst e4), by decide⟩
    · rename_i xs h
      cases e'
      obtain ⟨a', e2, _, vs, e4, _⟩ := R.liv n _ h
      rw [e1] at e2
      cases e2
      exact ⟨.base (.dK e4), by decide⟩
    · cases e'
  | _ => cases e
def isiD (x y : D) : Py D := fun M => match tyN M x, y with
  | some t, .ty T => .ok (.bl (isT T t)) M
  | _, _ => .bad
theorem isiD_post {x y : D} {M : Store} {q : D → Store → Prop} {E : Exn → Store → Prop} (p : Post (isiD x y M) q E) : ∃ t T, tyN M x = some t ∧ y = .ty T ∧ q (.bl (isT T t)) M := by
  unfold isiD at p
  split at p
  · rename_i t T h1
    exact ⟨t, T, h1, rfl, p⟩
  · exact p.elim
/-- the types that may be asked for -/
def kitOk (T : String) : Bool := tyNames.all fun t => kitB t T == some (isT T t)
def isiT (Ts : List String) (x y : D) : Py D := match y with
  | .ty T => if Ts.contains T then isiD x y else Py.bad
  | _ => Py.bad
theorem rep_ty {K : PySem.W.Frag} {g : G} {v : V} {n : String} (r : Rep K g v (.ty n)) : v = .ty n := by cases r; rfl
theorem dc_isi {Ts : List String} (hT : Ts.all kitOk = true := by decide +kernel) : DCl C (.builtin "isinstance") (twoD (isiT Ts)) := dcl_two call_isi fun {g ρ M σ H v u d e} Q R r r' p => by
  cases e with
  | ty T =>
    have p' : Post ((if Ts.contains T then isiD d (.ty T) else Py.bad : Py D) M) (QV C g ρ σ Q) (C.We ρ) := p
    by_cases hc : Ts.contains T = true
    · rw [if_pos hc] at p'
      obtain ⟨t, T', h1, h2, q⟩ := isiD_post p'
      cases h2
      obtain ⟨ty, hm⟩ := tyN_ok R.h r h1
      have hk : kitB t T = some (isT T t) := by
        have h3 := List.all_eq_true.mp hT T (by simpa using hc)
        exact beq_iff_eq.mp (List.all_eq_true.mp h3 t hm)
      exact ⟨v, .ty T, .type t, .type T, _, by rw [rep_ty r'], .ty T, ty, kit_ty hk, QV.here q R (.bl _)⟩
    · rw [if_neg hc] at p'; exact p'.elim
  | _ => exact p.elim

/-! ### methods of built-in types -/
/-- the value is of that type -/
def tyChk (T : String) (d : D) : Py Unit := match d with
  | .str _ => Py.chk (T = "str") (Py.ret ())
  | .dk _ => Py.chk (T = "dict") (Py.ret ())
  | .loc n => fun M => match M[n]? with
    | some (some (.lst _)) => if T = "list" then .ok () M else .bad
    | some (some (.dk _)) => if T = "dict" then .ok () M else .bad
    | _ => .bad
  | .lst _ => Py.chk (T = "list") (Py.ret ())
  | .ro _ => Py.chk (T = "list") (Py.ret ())
  | _ => Py.bad
theorem tyChk_post {K : PySem.W.Frag} {g : G} {M : Store} {H : Hp} {v : V} {d : D} {T : String} {q : Unit → Store → Prop} {E : Exn → Store → Prop} (R : RelH K g M H) (r : Rep K g v d) (p : Post (tyChk T d M) q E) : tyV K T v H ∧ q () M := by
  cases r with
  | str z => obtain ⟨h, q⟩ := post_chk.mp p; exact ⟨h, q⟩
  | dk s t z => obtain ⟨h, q⟩ := post_chk.mp p; exact ⟨.inr (.inr (.inl ⟨h, .inl ⟨_, R.frz _ _ s⟩⟩)), q⟩
  | lst s t => obtain ⟨h, q⟩ := post_chk.mp p; exact ⟨.inl ⟨h, _, .of (R.frz _ _ s)⟩, q⟩
  | ro s t => obtain ⟨h, q⟩ := post_chk.mp p; exact ⟨.inl ⟨h, _, sqL_mono R.frz s⟩, q⟩
  | @loc n a e1 =>
    have p' : Post ((match M[n]? with | some (some (.lst _)) => if T = "list" then .ok () M else .bad | some (some (.dk _)) => if T = "dict" then .ok () M else .bad | _ => .bad) : Out Unit) q E := p
    split at p'
    · rename_i xs h
      obtain ⟨a', vs, ea, e2, e4, e5⟩ := loc_lst R (.loc e1) h
      by_cases hT : T = "list"
      · rw [if_pos hT] at p'
        rw [ea]
        exact ⟨.inl ⟨hT, _, .of e4⟩, p'⟩
      · rw [if_neg hT] at p'; exact p'.elim
    · rename_i xs h
      obtain ⟨a', e2, _, vs, e4, _⟩ := R.liv n _ h
      rw [e1] at e2
      cases e2
      by_cases hT : T = "dict"
      · rw [if_pos hT] at p'
        exact ⟨.inr (.inr (.inl ⟨hT, .inl ⟨_, e4⟩⟩)), p'⟩
      · rw [if_neg hT] at p'; exact p'.elim
    · exact p'.elim
  | _ => exact p.elim
def DMt (C : DX) (id : String) (op : D → List D → Py D) : Prop := ∃ r, MtR C.X id r ∧
  ∀ {g : G} {ρ : DEnv} {M : Store} {σ : St} {H : Hp} {x : V} {dx : D} {xs : List V} {ds : List D} (Q : VK), Rl C g ρ M σ H → Rep C.X.K g x dx → Reps C.X.K g xs ds → Post (op dx ds M) (QV C g ρ σ Q) (C.We ρ) → r x xs H Q
def eMt (T : String) (op : D → List D → Py D) (fo : DEnv → Py D) (ff : DEnv → Py (List D)) : DEnv → Py D := fun ρ => Py.bnd (fo ρ) fun o => Py.bnd (tyChk T o) fun _ => Py.bnd (ff ρ) fun ds => op o ds
def eMt0 (T : String) (op : D → List D → Py D) (fo : DEnv → Py D) : DEnv → Py D := fun ρ => Py.bnd (fo ρ) fun o => Py.bnd (tyChk T o) fun _ => op o []
variable {o : Expr} {fo : DEnv → Py D} {name : Str} {apos cpos : Pos} {mop : D → List D → Py D}
theorem de_bm (pa : PlainAttrs T) (slot : Slot T name id) (hty : typeOf (.builtin id) = pure (.type "method_descriptor")) (hm : DMt C id mop) (ho : DE C o fo) (ha : DA C (e :: es) ff)
    (hbase : attributeBase o name C.X.env (eval o C.X.env) = eval o C.X.env := by rfl)
    (hfew : ((backTo cpos (starEach (e :: es) C.X.env)).all (fun x => !x.1) && (backToKw cpos (keywordEach [] C.X.env)).all (fun x => x.1.isSome)
      && decide ((e :: es).length + ([] : List Keyword).length + (if ([] : List Keyword).isEmpty then 0 else 1) < 30)) = true := by rfl)
    (hline : (apos.endLine == cpos.line) = true := by rfl) (hs : starEach (e :: es) C.X.env = (false, eval e C.X.env) :: starEach es C.X.env := by rfl) (hplain : (backTo cpos (starEach es C.X.env)).any (·.1) = false := by rfl) :
    DE C (.Call (.Attribute o name apos) (e :: es) [] cpos) (eMt T mop fo ff) := by
  obtain ⟨r, hr, h⟩ := hm
  refine ⟨fun {g ρ M σ H} Q R p => wpe (pe_bm pa slot hty hr self_e self_a hbase hfew hline hs hplain) (ho.then_ R p fun v d M1 H1 g1 l1 R1 r1 p1 => ?_)⟩
  obtain ⟨ty, p2⟩ := tyChk_post R1.h r1 (post_bnd.mp p1)
  exact ⟨ty, ha.then_ R1 p2 fun vs ds M2 H2 g2 l2 R2 r2 p3 => h Q R2 (r1.mono l2) r2 (p3.imp fun _ _ q => q.later (l1.trans l2))⟩
theorem de_bm0 (pa : PlainAttrs T) (slot : Slot T name id) (hty : typeOf (.builtin id) = pure (.type "method_descriptor")) (hm : DMt C id mop) (ho : DE C o fo)
    (hbase : attributeBase o name C.X.env (eval o C.X.env) = eval o C.X.env := by rfl) (hline : (apos.endLine == cpos.line) = true := by rfl) : DE C (.Call (.Attribute o name apos) [] [] cpos) (eMt0 T mop fo) := by
  obtain ⟨r, hr, h⟩ := hm
  refine ⟨fun {g ρ M σ H} Q R p => wpe (pe_bm0 pa slot hty hr self_e hbase hline) (ho.then_ R p fun v d M1 H1 g1 l1 R1 r1 p1 => ?_)⟩
  obtain ⟨ty, p2⟩ := tyChk_post R1.h r1 (post_bnd.mp p1)
  exact ⟨ty, h Q R1 r1 .nil (p2.imp fun _ _ q => q.later l1)⟩
/-- what a list at a location becomes -/
def putL (n : Nat) (xs : List D) (d : D) : Py D := fun M => .ok d (M.set n (some (.lst xs)))
/-- the list at a location -/
def locL {α : Type} (d : D) (k : Nat → List D → Py α) : Py α := match d with
  | .loc n => fun M => match M[n]? with
    | some (some (.lst xs)) => k n xs M
    | _ => .bad
  | _ => Py.bad
theorem locL_post {α : Type} {K : PySem.W.Frag} {g : G} {M : Store} {H : Hp} {v : V} {d : D} {k : Nat → List D → Py α} {q : α → Store → Prop} {E : Exn → Store → Prop} (R : RelH K g M H) (r : Rep K g v d) (p : Post (locL d k M) q E) :
    ∃ n xs a vs, d = .loc n ∧ v = .ref a ∧ M[n]? = some (some (.lst xs)) ∧ g.io[n]? = some a ∧ H a = some (.lst vs) ∧ Reps K g vs xs ∧ Post (k n xs M) q E := by
  cases r with
  | @loc n a e1 =>
    have p' : Post ((match M[n]? with | some (some (.lst xs)) => k n xs M | _ => .bad) : Out α) q E := p
    split at p'
    · rename_i xs e
      obtain ⟨a', vs, ea, e2, e4, e5⟩ := loc_lst R (.loc e1) e
      cases ea
      exact ⟨n, xs, _, vs, rfl, rfl, e, e2, e4, e5, p'⟩
    · exact p'.elim
  | _ => exact p.elim
theorem QV.put {g : G} {ρ : DEnv} {M : Store} {σ : St} {H : Hp} {Q : VK} {n : Nat} {xs ys : List D} {a : Addr} {ws : List V} {d : D} {v : V} {E : Exn → Store → Prop} (R : Rl C g ρ M σ H) (e : M[n]? = some (some (.lst xs))) (ei : g.io[n]? = some a) (t : Reps C.X.K g ws ys) (r : Rep C.X.K g v d)
    (p : Post (putL n ys d M) (QV C g ρ σ Q) E) : Q v (upd H a (.lst ws)) := p v _ g (G.le.refl g) (R.next (G.le.refl g) (R.h.put e ei ⟨ws, upd_same, t⟩)) r
def appendD (o : D) (ds : List D) : Py D := match ds with
  | [y] => locL o fun n xs => Py.chk (xs.length < sizeLine) (putL n (xs ++ [y]) .non)
  | _ => Py.bad
theorem dm_append : DMt C "list.append" appendD := ⟨_, mt_append, fun {g ρ M σ H x dx xs ds} Q R r rr p => by
  unfold appendD at p
  split at p
  · rename_i y
    obtain ⟨v, rfl, r1⟩ := rr.one
    obtain ⟨n, xs, a, vs, rfl, rfl, e, ei, hH, t, p1⟩ := locL_post R.h r p
    obtain ⟨hz, p2⟩ := post_chk.mp p1
    exact ⟨a, vs, v, rfl, rfl, hH, by rw [t.length]; exact hz, QV.put R e ei (t.append (.cons r1 .nil)) .non p2⟩
  · exact p.elim⟩
def extendD (o : D) (ds : List D) : Py D := match ds with
  | [y] => locL o fun n xs => Py.bnd (xitems y) fun ys => Py.chk (xs.length + ys.length ≤ sizeLine) (putL n (xs ++ ys) .non)
  | _ => Py.bad
theorem dm_extend : DMt C "list.extend" extendD := ⟨_, mt_extend, fun {g ρ M σ H x dx xs ds} Q R r rr p => by
  unfold extendD at p
  split at p
  · rename_i y
    obtain ⟨v, rfl, r1⟩ := rr.one
    obtain ⟨n, xs, a, vs, rfl, rfl, e, ei, hH, t, p1⟩ := locL_post R.h r p
    obtain ⟨b, ws, ys, rfl, h2, t2, p2⟩ := xitems_post R.h r1 (post_bnd.mp p1)
    obtain ⟨hz, p3⟩ := post_chk.mp p2
    exact ⟨a, b, vs, ws, rfl, rfl, hH, h2, by rw [t.length, t2.length]; exact hz, QV.put R e ei (t.append t2) .non p3⟩
  · exact p.elim⟩
def popD (o : D) (ds : List D) : Py D := match ds with
  | [] => locL o fun n xs => match xs[xs.length - 1]? with
    | some y => putL n xs.dropLast y
    | none => Py.bad
  | _ => Py.bad
theorem dm_pop : DMt C "list.pop" popD := ⟨_, mt_pop, fun {g ρ M σ H x dx xs ds} Q R r rr p => by
  unfold popD at p
  split at p
  · cases rr
    obtain ⟨n, xs, a, vs, rfl, rfl, e, ei, hH, t, p1⟩ := locL_post R.h r p
    cases h : xs[xs.length - 1]? with
    | none => rw [h] at p1; exact p1.elim
    | some y =>
      rw [h] at p1
      obtain ⟨v, h1, r1⟩ := t.get h
      exact ⟨a, vs, v, rfl, rfl, hH, by rw [t.length]; exact h1, QV.put R e ei t.dropLast r1 p1⟩
  · exact p.elim⟩
theorem Reps.eraseIdx {K : PySem.W.Frag} {g : G} : ∀ {vs : List V} {ds : List D} (i : Nat), Reps K g vs ds → Reps K g (vs.eraseIdx i) (ds.eraseIdx i)
  | _, _, _, .nil => .nil
  | _, _, 0, .cons _ t => t
  | _, _, i + 1, .cons r t => .cons r (Reps.eraseIdx i t)
def popAtD (o : D) (ds : List D) : Py D := match ds with
  | [.int i] => locL o fun n xs => match seqIndex? i xs.length with
    | some k => match xs[k]? with
      | some y => Py.chk (-(2 ^ 63) ≤ i ∧ i < 2 ^ 63) (putL n (xs.eraseIdx k) y)
      | none => Py.bad
    | none => Py.bad
  | _ => Py.bad
theorem dm_popAt : DMt C "list.pop" popAtD := ⟨_, mt_popAt, fun {g ρ M σ H x dx xs ds} Q R r rr p => by
  unfold popAtD at p
  split at p
  · rename_i i
    obtain ⟨v, rfl, r1⟩ := rr.one
    obtain ⟨n, xs, a, vs, rfl, rfl, e, ei, hH, t, p1⟩ := locL_post R.h r p
    cases hk : seqIndex? i xs.length with
    | none => rw [hk] at p1; exact p1.elim
    | some k =>
      rw [hk] at p1
      cases h : xs[k]? with
      | none =>
        have p2 : Post ((match xs[k]? with | some y => Py.chk (-(2 ^ 63) ≤ i ∧ i < 2 ^ 63) (putL n (xs.eraseIdx k) y) | none => Py.bad : Py D) M) (QV C g ρ σ Q) (C.We ρ) := p1
        rw [h] at p2; exact p2.elim
      | some y =>
        have p2 : Post ((match xs[k]? with | some y => Py.chk (-(2 ^ 63) ≤ i ∧ i < 2 ^ 63) (putL n (xs.eraseIdx k) y) | none => Py.bad : Py D) M) (QV C g ρ σ Q) (C.We ρ) := p1
        rw [h] at p2
        obtain ⟨⟨b1, b2⟩, p3⟩ := post_chk.mp p2
        obtain ⟨w', h1, r2⟩ := t.get h
        exact ⟨a, vs, i, k, w', rfl, by rw [rep_int r1], hH, b1, b2, by rw [t.length]; exact hk, h1, QV.put R e ei (t.eraseIdx k) r2 p3⟩
  · exact p.elim⟩
end
end L3
set_option Elab.async false
set_option linter.all false
set_option maxRecDepth 100000
set_option autoImplicit false
namespace L3
open PySem PySem.Spec L2
open PyProof.Rows hiding St

/-! ### statements -/
def sSet (i : Nat) (f : DEnv → Py D) : DEnv → Py Fl := fun ρ => Py.bnd (f ρ) fun d => Py.ret (.nx (ρ.set i (some d)))
def sAsg (f : DEnv → Py D) (ft : D → DEnv → Py DEnv) : DEnv → Py Fl := fun ρ => Py.bnd (f ρ) fun d => Py.bnd (ft d ρ) fun ρ' => Py.ret (.nx ρ')
def sRet (f : DEnv → Py D) : DEnv → Py Fl := fun ρ => Py.bnd (f ρ) fun d => Py.ret (.rt d)
def sRetN : DEnv → Py Fl := fun _ => Py.ret (.rt .non)
def sDrop (f : DEnv → Py D) : DEnv → Py Fl := fun ρ => Py.bnd (f ρ) fun _ => Py.ret (.nx ρ)
def sIf (t : DEnv → Py Bool) (a b : DEnv → Py Fl) : DEnv → Py Fl := fun ρ => Py.bnd (t ρ) fun c => if c then a ρ else b ρ
def sNext : DEnv → Py Fl := fun ρ => Py.ret (.nx ρ)
def sSeq (a b : DEnv → Py Fl) : DEnv → Py Fl := fun ρ => Py.bnd (a ρ) fun r => match r with
  | .nx ρ' => b ρ'
  | r => Py.ret r
def sBad : DEnv → Py Fl := fun _ => Py.bad
def sBk : DEnv → Py Fl := fun ρ => Py.ret (.bk ρ)
def sCt : DEnv → Py Fl := fun ρ => Py.ret (.ct ρ)
section
variable {C : DX} {pos : Pos} {e : Expr} {st : Stmt} {sts rest : List Stmt} {f : DEnv → Py D} {a b : DEnv → Py Fl} {t : DEnv → Py Bool}
theorem ds_set {i : Nat} {x : Str} {pos' : Pos} (hN : C.X.N.Nodup) (he : DE C e f) (hi : C.X.N[i]? = some x := by rfl) (hx : Loc C.X.env.scope x := by first | exact Or.inl rfl | exact Or.inr rfl) (hs : swapsWith e (some (.Name x pos')) pos.line C.X.env = pure false := by rfl)
    (hf : C.X.fn x = true ∨ C.X.env.scope.names.lookup x = some .local := by first | exact .inl rfl | exact .inr rfl) : DS C (.Assign [.Name x pos'] e pos) (sSet i f) := ⟨fun {g ρ M σ H} E R p =>
  wps (ps_set hN hi hx self_e hs hf) (he.then_ R p fun v d M1 H1 g1 l1 R1 r1 p1 => p1 _ _ g1 l1 (R1.set i r1))⟩
theorem ds_asg {tg : Expr} {ft : D → DEnv → Py DEnv} {vs : List Nat} {tt : TG} (he : DE C e f) (hg : DG C vs tg ft tt) (hs : swapsWithSole [tg] e pos.line C.X.env = pure false := by rfl) (hw : swappedStores [tg] e C.X.env = pure none := by rfl)
    (h1 : (assignEach [tg] C.X.env).map (·.2) = [assign tg C.X.env] := by rfl) : DS C (.Assign [tg] e pos) (sAsg f ft) := ⟨fun {g ρ M σ H} E R p =>
  wps (ps_asg self_e hg.pg hs hw h1) (he.then_ R p fun v d M1 H1 g1 l1 R1 r1 p1 => hg.run _ R1 r1 ((post_bnd.mp p1).imp fun ρ' M2 p2 σ' H' g' l' R' _ => p2 σ' H' g' (l1.trans l') R'))⟩
/-- a, b = x, y -/
def parK (i j : Nat) (ρ : DEnv) : List D → Py Fl
  | [d, e] => Py.ret (.nx ((ρ.set i (some d)).set j (some e)))
  | _ => Py.bad
def sPar (i j : Nat) (ff : DEnv → Py (List D)) : DEnv → Py Fl := fun ρ => Py.bnd (ff ρ) (parK i j ρ)
theorem parK_post {i j : Nat} {ρ : DEnv} {ds : List D} {M : Store} {q : Fl → Store → Prop} {E : Exn → Store → Prop} (p : Post (parK i j ρ ds M) q E) : ∃ d e, ds = [d, e] ∧ q (.nx ((ρ.set i (some d)).set j (some e))) M := by
  unfold parK at p
  split at p
  · exact ⟨_, _, rfl, p⟩
  · exact p.elim
theorem ds_par {i j : Nat} {x y : Str} {a b : Expr} {ff : DEnv → Py (List D)} {px py pt : Pos} {kt k2 : Nat} {pt2 : Pos} (hc : C.X.calm = true) (hN : C.X.N.Nodup) (ha : DA C [a, b] ff) (hi : C.X.N[i]? = some x := by rfl) (hj : C.X.N[j]? = some y := by rfl) (hij : i ≠ j := by decide)
    (hx : C.X.env.scope.names.lookup x = some .local := by rfl) (hy : C.X.env.scope.names.lookup y = some .local := by rfl)
    (hw : swappedStores [.Tuple [.Name x px, .Name y py] kt pt] (.Tuple [a, b] k2 pt2) C.X.env = pure (some [x, y]) := by rfl)
    (hs : swapsWithSole [.Tuple [.Name x px, .Name y py] kt pt] (.Tuple [a, b] k2 pt2) pos.line C.X.env = pure false := by rfl) :
    DS C (.Assign [.Tuple [.Name x px, .Name y py] kt pt] (.Tuple [a, b] k2 pt2) pos) (sPar i j ff) := ⟨fun {g ρ M σ H} E R p =>
  wps (ps_par hc hN hi hj hij hx hy self_a hw hs) (ha.then_ R p fun vs ds M1 H1 g1 l1 R1 r1 p1 => by
    obtain ⟨d, e, rfl, p2⟩ := parK_post p1
    obtain ⟨v, w', rfl, ra, rb⟩ := r1.two
    exact ⟨v, w', rfl, p2 _ _ g1 l1 ((R1.set i ra).set j rb)⟩)⟩
theorem ds_ret (he : DE C e f) : DS C (.Return (some e) pos) (sRet f) := ⟨fun {g ρ M σ H} E R p =>
  wps (ps_ret self_e) (he.then_ R p fun v d M1 H1 g1 l1 R1 r1 p1 => p1 v H1 g1 l1 R1.b R1.h r1)⟩
theorem ds_retN : DS C (.Return none pos) sRetN := ⟨fun {g ρ M σ H} E R p => wps ps_retN (show E.rt .non H from p .non H g (G.le.refl g) R.b R.h .non)⟩
theorem ds_expr (he : DE C e f) (hs : swapsWith e none pos.line C.X.env = pure false := by rfl) : DS C (.Expr e pos) (sDrop f) := ⟨fun {g ρ M σ H} E R p =>
  wps (ps_expr self_e hs) (he.then_ R p fun v d M1 H1 g1 l1 R1 r1 p1 => p1 _ _ g1 l1 R1)⟩
theorem ds_if {c : Expr} {xs ys : List Stmt} (hc : DT C c t) (ha : DSs C xs a) (hb : DSs C ys b) : DS C (.If c xs ys pos) (sIf t a b) := ⟨fun {g ρ M σ H} E R p =>
  wps (ps_if self_t self_ss self_ss) (hc.then_ R p fun c M1 H1 g1 l1 R1 p1 => by
    cases c with
    | true => rw [if_pos rfl]; exact ha.run E R1 (Post.imp (show Post (a ρ M1) _ _ from p1) fun _ _ q => q.later l1)
    | false => rw [if_neg Bool.false_ne_true]; exact hb.run E R1 (Post.imp (show Post (b ρ M1) _ _ from p1) fun _ _ q => q.later l1))⟩
theorem ds_pass : DS C (.Pass pos) sNext := ⟨fun {g ρ M σ H} E R p => wps ps_pass (show E.nx σ H from p σ H g (G.le.refl g) R)⟩
theorem ds_doc {x : Str} {j : Nat} {pos' : Pos} : DS C (.Expr (.Constant (.str x) j pos) pos') sNext := ⟨fun {g ρ M σ H} E R p => wps ps_doc (show E.nx σ H from p σ H g (G.le.refl g) R)⟩
theorem ds_break : DS C (.Break pos) sBk := ⟨fun {g ρ M σ H} E R p => wps ps_break (show E.bk σ H from p σ H g (G.le.refl g) R)⟩
theorem ds_continue : DS C (.Continue pos) sCt := ⟨fun {g ρ M σ H} E R p => wps ps_continue (show E.ct σ H from p σ H g (G.le.refl g) R)⟩
/-- what is never reached -/
theorem ds_never : DS C st sBad := ⟨fun {g ρ M σ H} E R p => False.elim p⟩
theorem dss_never : DSs C sts sBad := ⟨fun {g ρ M σ H} E R p => False.elim p⟩
theorem dss_nil : DSs C [] sNext := ⟨fun {g ρ M σ H} E R p => wpss pss_nil (show E.nx σ H from p σ H g (G.le.refl g) R)⟩
theorem dss_one (h : DS C st a) : DSs C [st] a := ⟨fun {g ρ M σ H} E R p => wpss (pss_one self_s) (h.run E R p)⟩
theorem dss_cons (ev : C.Even) (h : DS C st a) (hr : DSs C rest b) : DSs C (st :: rest) (sSeq a b) := ⟨fun {g ρ M σ H} E R p => by
  refine wpss (pss_cons self_s self_ss) (h.run _ R ((post_bnd.mp p).imp fun r M1 p1 => ?_))
  cases r with
  | nx ρ' => exact fun σ' H' g' l' R' => hr.run E R' (p1.mono (fun _ _ q => q.later l') fun _ _ z => ev _ _ _ _ z)
  | bk ρ' => exact p1
  | ct ρ' => exact p1
  | rt d => exact p1⟩
/-- a list at the location in slot i is changed no more: it is data from here on -/
def fzL (i : Nat) (b : DEnv → Py Fl) : DEnv → Py Fl := fun ρ => Py.bnd (getV ρ[i]?) fun d => locL d fun n xs => fun M => b (ρ.set i (some (.lst xs))) (M.set n none)
theorem getV_post {o : Option (Option D)} {M : Store} {q : D → Store → Prop} {E : Exn → Store → Prop} (p : Post (getV o M) q E) : ∃ d, o = some (some d) ∧ q d M := by
  cases o with
  | none => exact p.elim
  | some o =>
    cases o with
    | none => exact p.elim
    | some d => exact ⟨d, rfl, p⟩
theorem dss_fz (i : Nat) (ev : C.Even) (h : DSs C sts b) : DSs C sts (fzL i b) := ⟨fun {g ρ M σ H} E R p => by
  obtain ⟨d, e, p1⟩ := getV_post (post_bnd.mp p)
  obtain ⟨v, e1, r⟩ := R.e.at_ i _ e
  obtain ⟨n, xs, a, vs, rfl, rfl, em, e2, e3, t, p2⟩ := locL_post R.h r p1
  obtain ⟨L, R2⟩ := R.h.freeze em e2 e3
  have r2 : Rep C.X.K (g.add a (.lst vs)) (.ref a) (.lst xs) := .lst upd_same (t.mono L)
  have hs : σ.set i (some (.ref a)) = σ := by
    refine List.ext_getElem? fun j => ?_
    by_cases hj : i = j
    · subst hj
      rw [List.getElem?_set_self (List.getElem?_eq_some_iff.mp e1).1]
      exact e1.symm
    · rw [List.getElem?_set_ne hj]
  have R3 : RelE C.X.K (g.add a (.lst vs)) σ (ρ.set i (some (.lst xs))) := by
    have := (R.e.mono L).set i r2
    rw [hs] at this
    exact this
  exact h.run E ⟨R.b.trans L, R2, R3⟩ (Post.mono (show Post (b _ _) _ _ from p2) (fun _ _ q => q.later L) fun _ _ z => ev _ _ _ _ z)⟩
/-- o[i] = e -/
def setK (n : Nat) (xs : List D) (v : D) : D → Py Unit
  | .int k => match ixN xs.length k with
    | some j => fun M => .ok () (M.set n (some (.lst (xs.set j v))))
    | none => Py.bad
  | _ => Py.bad
def setD (o i v : D) : Py Unit := locL o fun n xs => setK n xs v i
theorem setK_post {n : Nat} {xs : List D} {v i : D} {M : Store} {q : Unit → Store → Prop} {E : Exn → Store → Prop} (p : Post (setK n xs v i M) q E) : ∃ k j, i = .int k ∧ ixN xs.length k = some j ∧ q () (M.set n (some (.lst (xs.set j v)))) := by
  cases i with
  | int k =>
    have p' : Post ((match ixN xs.length k with | some j => fun M => .ok () (M.set n (some (.lst (xs.set j v)))) | none => Py.bad : Py Unit) M) q E := p
    cases h : ixN xs.length k with
    | none => rw [h] at p'; exact p'.elim
    | some j => rw [h] at p'; exact ⟨k, j, rfl, h, p'⟩
  | _ => exact p.elim
def sSub (fo fi fv : DEnv → Py D) : DEnv → Py Fl := fun ρ => Py.bnd (fv ρ) fun v => Py.bnd (fo ρ) fun o => Py.bnd (fi ρ) fun i => Py.bnd (setD o i v) fun _ => Py.ret (.nx ρ)
theorem setD_post {K : PySem.W.Frag} {g : G} {M : Store} {H : Hp} {o i v : D} {x y z : V} {q : Unit → Store → Prop} {E : Exn → Store → Prop} (R : RelH K g M H) (rx : Rep K g x o) (ry : Rep K g y i) (rz : Rep K g z v) (p : Post (setD o i v M) q E) :
    ∃ a vs k j M', x = .ref a ∧ y = .int k ∧ H a = some (.lst vs) ∧ ixN vs.length k = some j ∧ q () M' ∧ RelH K g M' (upd H a (.lst (vs.set j z))) := by
  obtain ⟨n, xs, a, vs, rfl, rfl, e, e1, e2, t, p1⟩ := locL_post R rx p
  obtain ⟨k, j, rfl, ej, q⟩ := setK_post p1
  exact ⟨a, vs, k, j, _, rfl, rep_int ry, e2, by rw [t.length]; exact ej, q, R.put e e1 ⟨_, upd_same, t.set rz j⟩⟩
theorem ds_sub {o i : Expr} {fo fi : DEnv → Py D} {tpos : Pos} (ho : DE C o fo) (hi : DE C i fi) (hv : DE C e f)
    (ha : ∀ v, assign (.Subscript o i tpos) C.X.env v = (do
      let ov ← holding [v] (eval o C.X.env)
      let iv ← holding [v, ov] (eval i C.X.env)
      standAt tpos
      holding [v, ov, iv] (setItem ov iv v)
      release [v, ov, iv] []) := by intro _; rfl)
    (hs : swapsWithSole [.Subscript o i tpos] e pos.line C.X.env = pure false := by rfl) (hw : swappedStores [.Subscript o i tpos] e C.X.env = pure none := by rfl)
    (h1 : (assignEach [.Subscript o i tpos] C.X.env).map (·.2) = [assign (.Subscript o i tpos) C.X.env] := by rfl) : DS C (.Assign [.Subscript o i tpos] e pos) (sSub fo fi f) := ⟨fun {g ρ M σ H} E R p =>
  wps (ps_asg self_e (pg_sub self_e self_e set_list ha) hs hw h1) (hv.then_ R p fun v d M1 H1 g1 l1 R1 r1 p1 => ho.then_ R1 p1 fun x o' M2 H2 g2 l2 R2 r2 p2 => hi.then_ R2 p2 fun y i' M3 H3 g3 l3 R3 r3 p3 => by
    obtain ⟨a, vs, k, j, M', rfl, rfl, e1, e2, q, R'⟩ := setD_post R3.h (r2.mono l3) r3 (r1.mono (l2.trans l3)) (post_bnd.mp p3)
    exact ⟨a, vs, k, j, rfl, rfl, e1, e2, q _ _ g3 ((l1.trans l2).trans l3) (R3.next (G.le.refl g3) R')⟩)⟩
/-- name op= e -/
def sAug (i : Nat) (op : D → D → Py D) (f : DEnv → Py D) : DEnv → Py Fl := fun ρ => Py.bnd (getV ρ[i]?) fun x => Py.bnd (f ρ) fun y => Py.bnd (op x y) fun z => Py.ret (.nx (ρ.set i (some z)))
theorem ds_aug {i : Nat} {x : Str} {pos' : Pos} {o : Operator} {op : D → D → Py D} {r : R2} (hN : C.X.N.Nodup) (he : DE C e f) (ho : OpR C.X (inplaceOp o) r)
    (hop : ∀ {g : G} {ρ : DEnv} {M : Store} {σ : St} {H : Hp} {x y : V} {dx dy : D} (Q : VK), Rl C g ρ M σ H → Rep C.X.K g x dx → Rep C.X.K g y dy → Post (op dx dy M) (QV C g ρ σ Q) (C.We ρ) → r x y H Q) (hi : C.X.N[i]? = some x := by rfl) (hx : Loc C.X.env.scope x := by first | exact Or.inl rfl | exact Or.inr rfl)
    (hf : C.X.fn x = true ∨ C.X.env.scope.names.lookup x = some .local := by first | exact .inl rfl | exact .inr rfl) : DS C (.AugAssign (.Name x pos') o e pos) (sAug i op f) := ⟨fun {g ρ M σ H} E R p => by
  obtain ⟨d, e1, p1⟩ := getV_post (post_bnd.mp p)
  obtain ⟨v, e2, r2⟩ := R.e.at_ i d e1
  refine wps (ps_aug hN hi hx self_e (show PIp C.X o r from ho) hf) ⟨v, e2, he.then_ R p1 fun u y M1 H1 g1 l1 R1 r1 p2 => ?_⟩
  exact hop _ R1 (r2.mono l1) r1 ((post_bnd.mp p2).imp fun z M2 q w' H' g' l' R' r' => q _ _ g' (l1.trans l') (R'.set i r'))⟩
/-- while -/
def whD (t : DEnv → Py Bool) (body : DEnv → Py Fl) : Nat → DEnv → Py Fl
  | 0, _ => Py.bad
  | n + 1, ρ => Py.bnd (t ρ) fun c => if c then Py.bnd (body ρ) fun r => match r with
      | .nx ρ' => whD t body n ρ'
      | .ct ρ' => whD t body n ρ'
      | .bk ρ' => Py.ret (.nx ρ')
      | .rt v => Py.ret (.rt v)
    else Py.ret (.nx ρ)
theorem ds_while (n : Nat) {c : Expr} {body : List Stmt} (hp : PassesOwn (model C.X.prog C.X.w) C.X.A C.X.env C.X.xe) (ev : C.Even) (hc : DT C c t) (hb : DSs C body b) : DS C (.While c body [] pos) (whD t b n) := ⟨fun {g ρ M σ H} E R p => by
  refine wps (ps_while hp self_t self_ss) ⟨fun m σ' H' => ∃ g' ρ' M', g.le g' ∧ Rl C g' ρ' M' σ' H' ∧ Post (whD t b m ρ' M') (QS C g E) (C.We ρ), ⟨n, g, ρ, M, G.le.refl g, R, p⟩, ?_⟩
  rintro m σ' H' ⟨g', ρ', M', l', R', p'⟩
  cases m with
  | zero => exact p'.elim
  | succ m =>
    have p2 : Post (Py.bnd (t ρ') (fun c => if c then Py.bnd (b ρ') fun r => match r with
      | .nx ρ' => whD t b m ρ'
      | .ct ρ' => whD t b m ρ'
      | .bk ρ' => Py.ret (.nx ρ')
      | .rt v => Py.ret (.rt v)
    else Py.ret (.nx ρ')) M') (QS C g E) (C.We ρ') := p'.mono (fun _ _ z => z) fun _ _ z => ev _ _ _ _ z
    refine hc.then_ R' p2 fun c M1 H1 g1 l1 R1 p3 => ?_
    cases c with
    | false =>
      rw [if_neg Bool.false_ne_true]
      exact p3 σ' H1 g1 (l'.trans l1) R1
    | true =>
      rw [if_pos rfl]
      refine ⟨fun σ2 H2 => ∃ g2 ρ2 M2, g.le g2 ∧ Rl C g2 ρ2 M2 σ2 H2 ∧ Post (whD t b m ρ2 M2) (QS C g E) (C.We ρ), fun σ2 H2 h => ⟨m, Nat.lt_succ_self m, h⟩, ?_⟩
      refine hb.run _ R1 ((post_bnd.mp p3).imp fun r M4 p4 => ?_)
      have L := l'.trans l1
      cases r with
      | nx ρ4 => exact fun σ4 H4 g4 l4 R4 => ⟨g4, ρ4, M4, L.trans l4, R4, p4.mono (fun _ _ z => z) fun _ _ z => ev _ _ _ _ z⟩
      | ct ρ4 => exact fun σ4 H4 g4 l4 R4 => ⟨g4, ρ4, M4, L.trans l4, R4, p4.mono (fun _ _ z => z) fun _ _ z => ev _ _ _ _ z⟩
      | bk ρ4 => exact fun σ4 H4 g4 l4 R4 => p4 σ4 H4 g4 (L.trans l4) R4
      | rt v => exact fun v4 H4 g4 l4 b4 R4 r4 => p4 v4 H4 g4 (L.trans l4) b4 R4 r4⟩
end

/-! ### defs -/
/-- how an exception stands for one of data -/
def ExnRep (K : PySem.W.Frag) (g : G) (c : Value) (d : Option Addr) (e : Exn) : Prop :=
  (∃ v, RelV v c ∧ Rep K g v e.cls) ∧ match d with
    | none => e.fs = []
    | some a => ∃ vs, g.F a = some (.xd vs) ∧ Reps K g (vs.map (·.2)) (e.fs.map (·.2)) ∧ vs.map (·.1) = e.fs.map (·.1)
/-- a def's promise: it gives what m gives -/
def spD (K : PySem.W.Frag) (n : Nat) (m : List D → Py D) : Sp := fun vs H Q E => vs.length = n ∧ ∃ g M ds, RelH K g M H ∧ Reps K g vs ds ∧
  Post (m ds M) (fun d M' => ∀ v H' g', g.le g' → RelH K g' M' H' → Rep K g' v d → Q v H') (fun e M' => ∀ c dx H' g', g.le g' → RelH K g' M' H' → ExnRep K g' c dx e → E c dx H')
/-- what a body gives -/
def runD (n : Nat) (body : DEnv → Py Fl) : List D → Py D := fun ds => Py.bnd (body (ds.map some ++ List.replicate (n - ds.length) none)) fun r => match r with
  | .nx _ => Py.ret .non
  | .rt d => Py.ret d
  | _ => Py.bad
/-- the def named x keeps to m -/
structure Dfn (P : Program) (w : World) (K : PySem.W.Frag) (mg : Str → Option Value) (base : Heap) (CX : CXT) (k : Nat) (x : Str) (n : Nat) (m : List D → Py D) : Prop where
  ex : ∃ f fd ps, FnOk P w K mg base CX k f fd ps (spD K n m) ∧ mg x = some (.ref f) ∧ PySem.W.keepIn K (.ref f) = true ∧ Binds K fd ps []
/-- exceptions of a callee are taken here -/
def TkD (C : DX) (CX : CXT) : Prop := ∀ σ, PassesAt CX C.X σ (fun c dx H' => ∃ e ρ M' g', C.B.le g' ∧ RelH C.X.K g' M' H' ∧ RelE C.X.K g' σ ρ ∧ ExnRep C.X.K g' c dx e ∧ C.W e ρ M')
section
variable {C : DX} {CX : CXT} {k n : Nat} {x : Str} {p pos : Pos} {e : Expr} {es : List Expr} {ff : DEnv → Py (List D)} {m : List D → Py D}
theorem sp_run {g : G} {ρ : DEnv} {M : Store} {σ : St} {H : Hp} {vs : List V} {ds : List D} {Q : VK} {q : D → Store → Prop} (R : Rl C g ρ M σ H) (r : Reps C.X.K g vs ds) (hl : vs.length = n) (p : Post (m ds M) q (C.We ρ)) (h : ∀ d M', q d M' → QV C g ρ σ Q d M') :
    spD C.X.K n m vs H Q (fun c dx H' => ∃ e ρ M' g', C.B.le g' ∧ RelH C.X.K g' M' H' ∧ RelE C.X.K g' σ ρ ∧ ExnRep C.X.K g' c dx e ∧ C.W e ρ M') :=
  ⟨hl, g, M, ds, R.h, r, p.mono (fun d M' z v H' g' l R' r' => h d M' z v H' g' l (R.next l R') r') fun e M' z c dx H' g' l R' x => ⟨e, ρ, M', g', R.b.trans l, R', R.e.mono l, x, z⟩⟩
/-- the number of the arguments -/
def nargs (n : Nat) (m : List D → Py D) : List D → Py D := fun ds => Py.chk (ds.length = n) (m ds)
theorem de_call (D' : Dfn C.X.prog C.X.w C.X.K C.X.mg C.X.base CX k x n m) (hr : Room k C.X.A) (tk : TkD C CX) (ha : DA C (e :: es) ff) (hg : Gl C.X x := by rfl) (hdb : (x == ("__debug__" : Str)) = false := by decide)
    (he : starEach (e :: es) C.X.env = (false, eval e C.X.env) :: starEach es C.X.env := by rfl) (hpl : (backTo pos (starEach es C.X.env)).any (·.1) = false := by rfl) : DE C (.Call (.Name x p) (e :: es) [] pos) (eCall (nargs n m) ff) := by
  obtain ⟨f, fd, ps, F, hm, hk, hb⟩ := D'.ex
  refine ⟨fun {g ρ M σ H} Q R p => wpe (pe_callS F hr hg hm hk hb tk self_a hdb he hpl) (ha.then_ R p fun vs ds M1 H1 g1 l1 R1 r1 p1 => ?_)⟩
  obtain ⟨hl, p2⟩ := post_chk.mp p1
  exact sp_run R1 r1 (by rw [r1.length]; exact hl) p2 fun _ _ q => q.later l1
theorem de_call0 (D' : Dfn C.X.prog C.X.w C.X.K C.X.mg C.X.base L2.CX0 k x 0 m) (hr : Room k C.X.A) (hg : Gl C.X x := by rfl) (hdb : (x == ("__debug__" : Str)) = false := by decide) : DE C (.Call (.Name x p) [] [] pos) (eCall (nargs 0 m) aNil) := by
  obtain ⟨f, fd, ps, F, hm, hk, hb⟩ := D'.ex
  refine ⟨fun {g ρ M σ H} Q R p => wpe (pe_call0 (E := fun _ _ _ => True) F hr hg hm hk hb .nil (fun _ _ _ _ _ _ _ h => h.elim) hdb) ?_⟩
  have p1 := (post_bnd.mp p : Post (Py.chk (([] : List D).length = 0) (m []) M) (QV C g ρ σ Q) (C.We ρ))
  obtain ⟨hl, p2⟩ := post_chk.mp p1
  exact ⟨rfl, g, M, [], R.h, .nil, p2.mono (fun d M' z v H' g' l R' r' => z v H' g' l (R.next l R') r') fun _ _ _ _ _ _ _ _ _ _ => trivial⟩
end
/-- no exception leaves -/
theorem tk0 {C : DX} : TkD C L2.CX0 := fun _ _ _ _ _ _ _ h => h.elim
/-- the context of a body -/
abbrev bodyC (CX : CXT) (P : Program) (w : World) (K : PySem.W.Frag) (mg : Str → Option Value) (base : Heap) (N : List Str) (qual : Str) (scope : Scope) (f : Addr) (cd : Value) (A : Around) (outer : List PySem.Env) (s : Shared) (H : Hp) (E : XK) (g : G) : DX :=
  ⟨cxOf CX P w K mg base N qual scope f cd A outer s H E, g, fun e _ M' => ∀ c dx H' g', g.le g' → RelH K g' M' H' → ExnRep K g' c dx e → E c dx H'⟩
theorem body_even {CX : CXT} {P : Program} {w : World} {K : PySem.W.Frag} {mg : Str → Option Value} {base : Heap} {N : List Str} {qual : Str} {scope : Scope} {f : Addr} {cd : Value} {A : Around} {outer : List PySem.Env} {s : Shared} {H : Hp} {E : XK} {g : G} :
    (bodyC CX P w K mg base N qual scope f cd A outer s H E g).Even := fun _ _ _ _ z => z
section
variable {P : Program} {w : World} {K : PySem.W.Frag} {mg : Str → Option Value} {base : Heap} {CX : CXT} {x qual : Str} {params : Arguments} {body : List Stmt} {scope : Scope} {f : Addr} {fd : FuncData} {N ps : List Str} {k n : Nat} {b : DEnv → Py Fl}
/-- THE RULE for a def -/
theorem fn_d (F : FunD K x qual params body scope [] [] f fd) (S : FnScope N ps scope) (hn : ps.length = n)
    (hb : ∀ (cdv : Value) (A : Around) (outer : List PySem.Env) (s : Shared) (H : Hp) (E : XK) (g : G), Room k (A.deeper (envOfC qual scope s.heap.objs.size f cdv)) → DSs (bodyC CX P w K mg base N qual scope f cdv A outer s H E g) body b) :
    FnOk P w K mg base CX (k + 1) f fd ps (spD K n (runD N.length b)) := by
  refine F.ok S (fun vs H Q E h => by rw [h.1, hn]) (fun cdv A outer s H vs Q E hr h => ?_)
  obtain ⟨hl, g, M, ds, R, r, p⟩ := h
  refine ⟨_, self_ss, (hb cdv A outer s H E g hr).run _ ⟨G.le.refl g, R, RelE.start r⟩ ((post_bnd.mp p).imp fun fl M' q => ?_)⟩
  cases fl with
  | nx ρ => exact fun σ' H' g' l' R' => q .non H' g' l' R'.h .non
  | rt d => exact fun v H' g' l' _ R' r' => q v H' g' l' R' r'
  | bk ρ => exact q.elim
  | ct ρ => exact q.elim
end
end L3
set_option Elab.async false
set_option linter.all false
set_option maxRecDepth 100000
set_option autoImplicit false

namespace PySem
/-! ### enumerate over a tuple -/
set_option maxHeartbeats 1000000 in
theorem meets_enumerate_newB1 {v : Value} {o : Obj} {H : Heap → Prop} (B : Begins v o H) :
    Meets (Builtin.«enumerate.__new__» ⟨[.type "enumerate", v], []⟩) (fun _ R s => H s.heap ∧
      R (.ok (.ret (.ref (s.heap.push o).objs.size))) { s with heap := (s.heap.push o).push { cls := .type "enumerate", data := .fields #[.none, .bool false, .ref s.heap.objs.size, rawInt 0, .none, .none] } }) :=
  .of_wp fun prog w A R s h => by
    obtain ⟨hp, g, d, tk, os⟩ := s; obtain ⟨h1, h⟩ := h
    have hsub := sub_enumerate
    have q1 : ∀ {A' : Around} {E : Value → Shared → Prop} {Q : Value → Shared → Prop}, Q (.ref hp.objs.size) ⟨hp.push o, g, d, tk, os⟩ → wpAny (model prog w) A' (pyIter v) Q E ⟨hp, g, d, tk, os⟩ :=
      fun q => B.iter prog w _ _ ⟨hp, g, d, tk, os⟩ _ h1 q
    wp_walk using q1
    refine wpAny_stack_any fun st => wpAny_pure ?_
    split
    · rename_i c _ _ _ _ _
      cases (c == Value.type "enumerate")
      · wp_walk using q1
        exact ⟨_, rfl, h⟩
      · wp_walk using q1
        exact ⟨_, rfl, h⟩
    · wp_walk using q1
      exact ⟨_, rfl, h⟩
section
variable {prog : Program} {w : World} {A : Around} {E : Value → Shared → Prop} {s : Shared}
theorem call_enumerate_B1 {v : Value} {o : Obj} {H : Heap → Prop} {Q : Value → Shared → Prop} (B : Begins v o H) (h1 : H s.heap)
    (h : ∀ h', IsEnum h' (s.heap.objs.size + 1) s.heap.objs.size 0 .none → h'.get? s.heap.objs.size = some o → h'.objs.size = s.heap.objs.size + 2 →
      (∀ b o, s.heap.get? b = some o → h'.get? b = some o) → Q (.ref (s.heap.objs.size + 1)) { s with heap := h' }) :
    wpAny (model prog w) A (call (.type "enumerate") [v]) Q E s := by
  refine callType_new F.called_enumerate (by decide) (F.typeCall_enumerate_1 _) (F.newCall_enumerate_1 _) (fun obj => F.args_object_init_2 obj _) F.entry_enumerate_new
    (meets_enumerate_newB1 B) ⟨h1, ?_⟩
  have hz : (s.heap.push o).objs.size = s.heap.objs.size + 1 := Heap.size_push ..
  show _ ∧ _
  rw [hz]
  have he : IsEnum ((s.heap.push o).push
      { cls := .type "enumerate", data := .fields #[.none, .bool false, .ref s.heap.objs.size, rawInt 0, .none, .none] }) (s.heap.objs.size + 1) s.heap.objs.size 0 .none := by
    have := Heap.get?_push_size (s.heap.push o)
      (o := { cls := .type "enumerate", data := .fields #[.none, .bool false, .ref s.heap.objs.size, rawInt 0, .none, .none] }) rfl
    rw [hz] at this; exact this
  exact ⟨⟨_, he, rfl⟩, h _ he (Heap.get?_push_of_some _ (Heap.get?_push_size _ B.free)) (by rw [Heap.size_push, hz]) fun b o x => Heap.get?_push_of_some _ (Heap.get?_push_of_some _ x)⟩
theorem pyNext_enumT_end {e it l : Addr} {i : Nat} {items : Array Value} {old : Value} {Q : Option Value → Shared → Prop} (hh : A.handled = none)
    (he : IsEnum s.heap e it i old) (hit : s.heap.IsTupleIter it l i) (hl : s.heap.IsTuple l items) (hx : items[i]? = none)
    (hQ : ∀ h', Heap.ExtBut it s.heap h' → Q none { s with heap := h' }) : wpAny (model prog w) A (pyNext (.ref e)) Q E s := by
  have hT : s.TypeIs (.ref e) "enumerate" := ⟨_, he, rfl⟩
  unfold pyNext
  refine wpAny_bind (wpAny_attempt (wpAny_callSpecial?_slot (name := Str.ofString "__next__") hT F.slot_enumerate_next
    (wpAny_call_entry F.slot_enumerate_next hT F.entry_enumerate_next ?_ (F.args_enumerate_next_1 _))))
  show wpAny _ _ (field (.ref e) 2 >>= _) _ _ _
  refine wpAny_bind (wpAny_field he rfl (x := .ref it) rfl ?_)
  refine wpAny_bind (wpAny_nextOf_tuple_end hh hit hl hx fun h' x he' hx' => ?_)
  obtain ⟨o, ho, hc⟩ := hx'
  refine wpAny_bind (wpAny_isInstance (T := "StopIteration") (b := true) ⟨o, ho, hc⟩ isSubtype_stop ?_)
  exact wpAny_pure (hQ _ he')
end
end PySem
namespace L2
open PySem PySem.Spec PyProof.Rows
/-- the tuple at a, each item in a new pair -/
def IteT (K : PySem.W.Frag) (a : Addr) : It :=
  ⟨fun i H => ∃ (xs : List V) (x : V), SqT K H a xs ∧ xs[i]? = some x, fun i H v H' => ∃ T x, v = .ref T ∧ H T = none ∧ H' = upd H T (.tup [.int (i : Nat), x]) ∧ ∀ xs, SqT K H a xs → xs[i]? = some x, fun i H => ∃ xs : List V, SqT K H a xs ∧ xs.length ≤ i⟩
theorem tupIter_ne {h : Heap} {it a : Addr} {i : Nat} {its : Array Value} (x : h.IsTupleIter it a i) (t : IsTup h a its) : a ≠ it := by
  intro z
  subst z
  obtain ⟨o, h1, h2, _⟩ := x
  obtain ⟨o', h1', h2', _⟩ := t
  rw [h1] at h1'
  cases h1'
  rw [h2] at h2'
  exact absurd h2' (by decide)
theorem enum_ne {h : Heap} {e it a : Addr} {i : Int} {old : Value} {its : Array Value} (x : IsEnum h e it i old) (t : IsTup h a its) : a ≠ e := by
  intro z
  subst z
  obtain ⟨o', h1', h2', _⟩ := t
  have x' : h.get? a = some _ := x
  rw [x'] at h1'
  cases h1'
  have h3 : Value.type "enumerate" = Value.type "tuple" := h2'
  exact absurd h3 (by decide)
theorem turn_enumT {P : Program} {w : World} {K : PySem.W.Frag} {elts : List Expr} {kk : Nat} {tpos : Pos} (a e it : Addr) :
    Turn P w K (.Tuple elts kk tpos) (IteT K a) [e, it] e (fun i h => (∃ old, IsEnum h e it ((i : Nat) : Int) old) ∧ h.IsTupleIter it a i ∧ e ≠ it) where
  mem := by simp
  obj := fun i h st b hb => by
    obtain ⟨⟨old, he⟩, ⟨o, ho, hc, hd⟩, _⟩ := st
    have e' : b = e ∨ b = it := by simpa using hb
    rcases e' with z | z
    · rw [z]; exact ⟨_, he, fun v q => nomatch q⟩
    · rw [z]; exact ⟨o, ho, fun v q => by rw [hd] at q; cases q⟩
  keep := fun i h h' st k => let ⟨⟨old, he⟩, hi, hne⟩ := st; ⟨⟨old, k e (by simp) _ he⟩, hi.at fun o q => k it (by simp) o q, hne⟩
  item := by
    intro X hP hw hK hc i pins s σ H E I hf st hg
    subst hP hw hK
    obtain ⟨⟨old, he⟩, hit, hne⟩ := st
    obtain ⟨xs, x, hq, hx⟩ := hg
    obtain ⟨its, rv, p, hz⟩ := I.tuple hq
    obtain ⟨u, hu, ru⟩ := rv.get hx
    have hel : e < s.heap.objs.size := Heap.lt_size he
    have hil : it < s.heap.objs.size := by obtain ⟨_, q, _⟩ := hit; exact Heap.lt_size q
    have ha1 : a ≠ it := tupIter_ne hit p
    have ha2 : a ≠ e := enum_ne he p
    have hlt : i < its.toArray.size := by
      have := (List.getElem?_eq_some_iff.mp hu).1
      simpa using this
    refine wpAny_pyNext_enum_itemD (Draws.tuple (prog := X.prog) (w := X.w) (A := X.A.in1) (show X.A.in1.handled = none from I.ok.hd hc) it a ha1 its.toArray) he ⟨hit, p⟩ hlt hne (by simp; exact ⟨hne, Ne.symm ha2⟩) fun x' h' tk hPx ho hst' hT hsz hk => ?_
    have ex : x' = u := by
      have h1 : its.toArray[i]? = some x' := hPx
      have h2 : its.toArray[i]? = some u := by simpa using hu
      exact Option.some.inj (h1.symm.trans h2)
    subst ex
    obtain ⟨hit', _⟩ := hst'
    refine ⟨_, rfl, wpAny_letOwnedTupleGo_enum (s := { s with heap := h', toks := tk + 1 }) ho fun h'' he' sb => ?_⟩
    have hT2 : h''.get? s.heap.objs.size = some { cls := .type "tuple", data := .seq #[.int i tk, x'] } := (sb.2 _ (Nat.ne_of_gt hel)).trans hT
    have new : ObjOk X.prog X.w (upd H s.heap.objs.size (.tup [.int (i : Nat), x])) h'' s.heap.objs.size (.tup [.int (i : Nat), x]) :=
      ⟨by show 2 ≤ sizeLine; decide, [.int i tk, x'], .cons ⟨_, rfl⟩ (.cons ru .nil), ⟨_, hT2, rfl, _, rfl⟩⟩
    have I1 : Inv X pins σ (upd H s.heap.objs.size (.tup [.int (i : Nat), x])) { s with heap := h'', toks := tk + 1 } :=
      I.turnedNew (ch := [e, it]) (fun b ob hb q => (sb.2 b (fun z => hb (by simp [z]))).trans (hk b ob (fun z => hb (by simp [z])) (fun z => hb (by simp [z])) q)) hf (Nat.le_refl _) new
    refine ⟨.ref s.heap.objs.size, _, I1, rfl, ⟨_, x, rfl, I.hok.fresh (Nat.le_refl _), rfl, fun ys hy => by rw [I.tuple_inj hy hq]; exact hx⟩, ⟨⟨x', ?_⟩, hit'.at fun o q => (sb.2 it (Ne.symm hne)).trans q, hne⟩, fun b hb => ?_⟩
    · have e1 : ((i + 1 : Nat) : Int) = (i : Int) + 1 := by omega
      rw [e1]; exact he'
    · have hb' : b < s.heap.objs.size := by
        have e' : b = e ∨ b = it := by simpa using hb
        rcases e' with z | z
        · rw [z]; exact hel
        · rw [z]; exact hil
      rw [upd_ne (Nat.ne_of_lt hb')]
      exact (hf b hb).1
  done := by
    intro X hP hw hK hc i pins s σ H E I hf st hg
    subst hP hw hK
    obtain ⟨⟨old, he⟩, hit, hne⟩ := st
    obtain ⟨xs, hq, hx⟩ := hg
    obtain ⟨its, rv, p, hz⟩ := I.tuple hq
    obtain ⟨f0, f1, f2, f3, f4, f5⟩ := hf it (by simp)
    have hl := rv.length
    have ha1 : a ≠ it := tupIter_ne hit p
    exact pyNext_enumT_end (I.ok.hd hc) he hit p (by simp; omega) fun h' eb => ⟨rfl, I.turned (t' := s.toks) (fun b o hb q => eb b o hb q) f0 f1 f3 f4 f5⟩
  self := fun A i s Q E st h => let ⟨⟨_, he⟩, _⟩ := st; wpAny_pyIter_enum he h
def iEnumT (K : PySem.W.Frag) (ta : TA) : TI := fun σ H R => ta σ H fun vs H1 => ∃ a xs, vs = [.ref a] ∧ SqT K H1 a xs ∧ R (IteT K a) H1
theorem pi_enumT {X : Cx} {e : Expr} {ta : TA} {p pos tpos : Pos} {elts : List Expr} {kk : Nat} (hg : Gl X "enumerate") (hm : X.mg "enumerate" = none) (ha : PA X [e] ta) (hs : starEach [e] X.env = [(false, eval e X.env)] := by rfl) :
    PI X (.Tuple elts kk tpos) (.Call (.Name "enumerate" p) [e] [] pos) (iEnumT X.K ta) := by
  refine ⟨fun pins s σ H R I h => ?_⟩
  refine Call_ (ld_blt I hg hm boot_enumerate (PyProof.Rows.callWith_type1 (thn (ha.run pos pins s σ H _ I h) fun us s1 ⟨vs, H1, I1, r1, q1⟩ => ?_) hs rfl))
  obtain ⟨a, xs, ex, hq, q⟩ := q1
  subst ex
  cases r1 with
  | cons r rr =>
    cases rr
    cases r
    obtain ⟨its, rv, p', hz⟩ := I1.tuple hq
    refine call_enumerate_B1 (begins_tuple a its.toArray) p' fun h' he hit hsz hk => wpAny_pyIter_enum he ?_
    have I2 : Inv X pins σ H1 { s1 with heap := h' } := I1.kept (t' := s1.toks) hk
    refine ⟨s1.heap.objs.size + 1, [s1.heap.objs.size + 1, s1.heap.objs.size], _, _, H1, rfl, I2, turn_enumT a (s1.heap.objs.size + 1) s1.heap.objs.size, ⟨⟨.none, he⟩, ⟨_, hit, rfl, rfl⟩, Nat.succ_ne_self _⟩, fun b hb => ?_, q⟩
    have e' : b = s1.heap.objs.size + 1 ∨ b = s1.heap.objs.size := by simpa using hb
    have hle : s1.heap.objs.size ≤ b := by
      rcases e' with z | z
      · rw [z]; exact Nat.le_add_right _ _
      · rw [z]; exact Nat.le_refl _
    exact I1.fpOk hle (I1.hok.fresh hle)
end L2
set_option Elab.async false
set_option linter.all false
set_option maxRecDepth 100000
set_option autoImplicit false
namespace L3
open PySem PySem.Spec L2
open PyProof.Rows hiding St

theorem pi_or {X : Cx} {tg e : Expr} {w1 w2 : TI} (h1 : PI X tg e w1) (h2 : PI X tg e w2) : PI X tg e (fun σ H R => w1 σ H R ∨ w2 σ H R) :=
  ⟨fun pins s σ H R I h => h.elim (h1.run pins s σ H R I) (h2.run pins s σ H R I)⟩
section
variable {C : DX} {pos : Pos} {tg e : Expr} {f : DEnv → Py D}
/-- what it gives is known -/
theorem DE.det (h : DE C e f) {g : G} {ρ : DEnv} {M M1 : Store} {σ : St} {H : Hp} {d : D} {Q : VK} (R : Rl C g ρ M σ H) (hf : f ρ M = .ok d M1) (go : ∀ (v : V) (H' : Hp) (g' : G), g.le g' → Rl C g' ρ M1 σ H' → Rep C.X.K g' v d → Q v H') : WPE C.X e σ H Q :=
  h.run Q R (by rw [hf]; exact go)
theorem DE.exc (h : DE C e f) {g : G} {ρ : DEnv} {M M1 : Store} {σ : St} {H : Hp} {x : Exn} {Q : VK} (R : Rl C g ρ M σ H) (hf : f ρ M = .exc x M1) (hw : C.W x ρ M1) : WPE C.X e σ H Q :=
  h.run Q R (by rw [hf]; exact hw)
/-- a text's signs -/
def chars (z : Str) : List D := z.cps.toList.map fun c => .str ⟨#[c]⟩
theorem walkD_str {K : PySem.W.Frag} {g : G} {z : Str} {ok : Store → Prop} : WalkD K g ⟨chars z, ok⟩ (Its z) (fun _ => True) (fun i H v H' => H' = H ∧ ∃ c, z.cps[i]? = some c ∧ v = .str ⟨#[c]⟩) where
  wk := by
    show Walk _ (chars z).length _ _
    have : (chars z).length = z.cps.size := by unfold chars; rw [List.length_map, Array.length_toList]
    rw [this]
    exact walk_str
  ok := fun _ _ _ => trivial
  it := fun {g' M H H' i x} l R o y => by
    obtain ⟨rfl, c, e, rfl⟩ := y
    refine ⟨.str ⟨#[c]⟩, g', ?_, G.le.refl g', R, .str _⟩
    show (chars z)[i]? = _
    unfold chars
    rw [List.getElem?_map, Array.getElem?_toList, e]
    rfl
/-- a tuple, a list, a text -/
def wkA (d : D) : Py Wk := match d with
  | .tup xs => Py.ret ⟨xs, fun _ => True⟩
  | .str z => Py.ret ⟨chars z, fun _ => True⟩
  | d => wkL d
theorem di_seq (h : DE C e f) : DI C tg e (iSeq wkA f) := ⟨_, pi_or (pi_tup self_e) (pi_or (pi_list self_e) (pi_str self_e)), fun {g ρ M σ H} R Rr p => by
  have p' := (post_bnd.mp p : Post (f ρ M) _ _)
  cases hf : f ρ M with
  | bad => rw [hf] at p'; exact p'.elim
  | exc x M1 =>
    rw [hf] at p'
    exact .inl (h.exc Rr hf p')
  | ok d M1 =>
    rw [hf] at p'
    have p2 : Post (wkA d M1) (fun w M' => ∀ J H' g' Gd Y, g.le g' → Rl C g' ρ M' σ H' → WalkD C.X.K g' w J Gd Y → R J H') (C.We ρ) := p'
    cases d with
    | tup xs =>
      refine .inl (h.det Rr hf fun v H1 g1 l1 R1 r1 => ?_)
      cases r1 with
      | @tup a vs ds s t => exact ⟨a, rfl, ⟨vs, .of (R1.h.frz _ _ s)⟩, p2 _ H1 g1 _ _ l1 R1 (walkD_tup s t)⟩
    | str z =>
      refine .inr (.inr (h.det Rr hf fun v H1 g1 l1 R1 r1 => ?_))
      exact ⟨z, rep_str r1, p2 _ H1 g1 _ _ l1 R1 walkD_str⟩
    | _ =>
      refine .inr (.inl (h.det Rr hf fun v H1 g1 l1 R1 r1 => ?_))
      obtain ⟨a, vs, w, rfl, q1, q2, q3, q4⟩ := wkL_post R1.h r1 p2
      exact ⟨a, rfl, ⟨vs, q1⟩, q3 _ H1 g1 _ _ l1 R1 (walkD_list q4)⟩⟩
/-! enumerate -/
variable {a : Expr} {ff : DEnv → Py (List D)} {p : Pos}
theorem DA.det (h : DA C [a] ff) {g : G} {ρ : DEnv} {M M1 : Store} {σ : St} {H : Hp} {d : List D} {Q : List V → Hp → Prop} (R : Rl C g ρ M σ H) (hf : ff ρ M = .ok d M1) (go : ∀ (v : List V) (H' : Hp) (g' : G), g.le g' → Rl C g' ρ M1 σ H' → Reps C.X.K g' v d → Q v H') : WPA C.X [a] σ H Q :=
  h.run Q R (by rw [hf]; exact go)
def wkLT (d : D) : Py Wk := match d with
  | .tup xs => Py.ret ⟨xs, fun _ => True⟩
  | d => wkL d
theorem di_enumA {tpos : Pos} {elts : List Expr} {kk : Nat} (hm : C.X.mg "enumerate" = none) (ha : DA C [a] ff) (hg : Gl C.X "enumerate" := by rfl) (hs : starEach [a] C.X.env = [(false, eval a C.X.env)] := by rfl) : DI C (.Tuple elts kk tpos) (.Call (.Name "enumerate" p) [a] [] pos) (iEnumD wkLT ff) :=
  ⟨_, pi_or (pi_enum hg hm self_a hs) (pi_enumT hg hm self_a hs), fun {g ρ M σ H} R Rr p => by
    have p' := (post_bnd.mp p : Post (ff ρ M) _ _)
    cases hf : ff ρ M with
    | bad => rw [hf] at p'; exact p'.elim
    | exc x M1 =>
      rw [hf] at p'
      exact .inl (ha.run _ Rr (by rw [hf]; exact p'))
    | ok ds M1 =>
      rw [hf] at p'
      obtain ⟨d, rfl, p2⟩ := wkEnum_post (show Post (wkEnum wkLT ds M1) _ _ from p')
      by_cases hd : ∃ xs, d = .tup xs
      · obtain ⟨xs, rfl⟩ := hd
        refine .inr (ha.det Rr hf fun v H1 g1 l1 R1 r1 => ?_)
        obtain ⟨v, rfl, r⟩ := r1.one
        cases r with
        | @tup a' us ds s t =>
          refine ⟨a', us, rfl, .of (R1.h.frz _ _ s), p2 _ H1 g1 (fun H => SqT C.X.K H a' us) (fun i H v H' => ∃ T x, v = .ref T ∧ H T = none ∧ H' = upd H T (.tup [.int (i : Nat), x]) ∧ ∀ xs, SqT C.X.K H a' xs → xs[i]? = some x) l1 R1 (walkD_pairs ?_ ?_ ?_)⟩
          · show Walk _ (enumD 0 xs).length _ _
            rw [enumD_length, ← t.length]
            exact ⟨fun i H hi q => ⟨us, us[i], q, by simp⟩, fun H q => ⟨us, q, Nat.le_refl _⟩, fun i H x H' hi _ y => y⟩
          · intro g' M H l R o
            exact .of (R.frz _ _ (l.F _ _ s))
          · intro g' M H H' i x l R o y
            obtain ⟨T, x', rfl, hT, rfl, h⟩ := y
            obtain ⟨d', e1, e2⟩ := (t.gro l).getV (h us (.of (R.frz _ _ (l.F _ _ s))))
            have e3 := enumD_get xs 0 i d' e1
            rw [Nat.zero_add] at e3
            exact ⟨T, _, x', .int (i : Nat), d', rfl, hT, rfl, e3, .int _, e2⟩
      · have p3 : Post (wkL d M1) (fun w M' => ∀ J H' g' Gd Y, g.le g' → Rl C g' ρ M' σ H' → WalkD C.X.K g' ⟨enumD 0 w.ds, w.ok⟩ J Gd Y → R J H') (C.We ρ) := by
          cases d with
          | tup xs => exact absurd ⟨xs, rfl⟩ hd
          | _ => exact p2
        refine .inl (ha.det Rr hf fun v H1 g1 l1 R1 r1 => ?_)
        obtain ⟨v, rfl, r⟩ := r1.one
        obtain ⟨a', us, w, rfl, q1, q2, q3, q4⟩ := wkL_post R1.h r p3
        refine ⟨a', us, rfl, q1, q3 _ H1 g1 (fun H => ∃ vs, SqL C.X.K H a' vs ∧ vs.length = w.ds.length) (fun i H v H' => ∃ T x, v = .ref T ∧ H T = none ∧ H' = upd H T (.tup [.int (i : Nat), x]) ∧ ∀ xs, SqL C.X.K H a' xs → xs[i]? = some x) l1 R1 (walkD_pairs ?_ ?_ ?_)⟩
        · show Walk _ (enumD 0 w.ds).length _ _
          rw [enumD_length]
          exact ⟨fun i H hi ⟨vs, q, e⟩ => ⟨vs, vs[i]'(by omega), q, by simp⟩, fun H ⟨vs, q, e⟩ => ⟨vs, q, by omega⟩, fun i H x H' hi _ y => y⟩
        · intro g' M H l R o
          obtain ⟨vs, q, r⟩ := q4 l R o
          exact ⟨vs, q, r.length⟩
        · intro g' M H H' i x l R o y
          obtain ⟨T, x', rfl, hT, rfl, h⟩ := y
          obtain ⟨vs, q, r⟩ := q4 l R o
          obtain ⟨d', e1, e2⟩ := r.getV (h vs q)
          have e3 := enumD_get w.ds 0 i d' e1
          rw [Nat.zero_add] at e3
          exact ⟨T, _, x', .int (i : Nat), d', rfl, hT, rfl, e3, .int _, e2⟩⟩

/-! ### + of anything -/
def addA (x y : D) : Py D := match x with
  | .int _ => addI x y
  | .str _ => addS x y
  | .tup _ => addT x y
  | _ => addL x y
theorem do_addA : DOp C (binaryOp .Add) addA := by
  intro g ρ M σ H x y dx dy v u pins s Q R I rx ry r1 r2 p
  cases dx with
  | int i => exact do_addI Q R I rx ry r1 r2 p
  | str i => exact do_addS Q R I rx ry r1 r2 p
  | tup i => exact do_addT Q R I rx ry r1 r2 p
  | _ => exact do_addL Q R I rx ry r1 r2 p
/-- * of an int or a list -/
def mulA (x y : D) : Py D := match x with
  | .int _ => mulI x y
  | _ => mulL x y
theorem do_mulA : DOp C (binaryOp .Mult) mulA := by
  intro g ρ M σ H x y dx dy v u pins s Q R I rx ry r1 r2 p
  cases dx with
  | int i => exact do_mulI Q R I rx ry r1 r2 p
  | _ => exact do_mulL Q R I rx ry r1 r2 p

/-! ### isinstance with a tuple of types -/
def tysOf : List D → Option (List String)
  | [] => some []
  | .ty T :: r => (tysOf r).map fun ts => T :: ts
  | _ :: _ => none
theorem tys_rep {K : PySem.W.Frag} {g : G} : ∀ {vs : List V} {ds : List D} {ts : List String}, Reps K g vs ds → tysOf ds = some ts → vs = ts.map V.ty
  | _, _, _, .nil, e => by cases e; rfl
  | _, _, _, .cons (d := .ty b) r t, e => by
    obtain ⟨cs, e1, e2⟩ := Option.map_eq_some_iff.mp (show (tysOf _).map _ = some _ from e)
    subst e2
    rw [rep_ty r, tys_rep t e1]
    rfl
  | _, _, _, .cons (d := .non) r t, e => by cases e
  | _, _, _, .cons (d := .int _) r t, e => by cases e
  | _, _, _, .cons (d := .str _) r t, e => by cases e
  | _, _, _, .cons (d := .tup _) r t, e => by cases e
  | _, _, _, .cons (d := .lst _) r t, e => by cases e
  | _, _, _, .cons (d := .ro _) r t, e => by cases e
  | _, _, _, .cons (d := .dk _) r t, e => by cases e
  | _, _, _, .cons (d := .ins _ _) r t, e => by cases e
  | _, _, _, .cons (d := .loc _) r t, e => by cases e
  | _, _, _, .cons (d := .ref _) r t, e => by cases e
  | _, _, _, .cons (d := .bl _) r t, e => by cases e
theorem cls_all : ∀ ts : List String, Paired ClsV (ts.map V.ty) (ts.map Value.type)
  | [] => .nil
  | t :: ts => .cons (.ty t) (cls_all ts)
theorem kit_any {K : PySem.W.Frag} {t : String} (ht : t ∈ tyNames) : ∀ {ts : List String}, ts.all kitOk = true → PySem.W.kitAny K (.type t) (ts.map Value.type) = some (ts.any fun T => isT T t)
  | [], _ => rfl
  | T :: ts, h => by
    rw [List.all_cons, Bool.and_eq_true] at h
    have hk : kitB t T = some (isT T t) := beq_iff_eq.mp (List.all_eq_true.mp h.1 t ht)
    have ih := kit_any (K := K) ht h.2
    rw [List.map_cons, List.any_cons]
    cases e : isT T t with
    | true =>
      rw [e] at hk
      exact kitAny_cons (kit_ty hk) (fun z => nomatch z) fun _ => rfl
    | false =>
      rw [e] at hk
      rw [Bool.false_or]
      exact kitAny_cons (kit_ty hk) (fun _ => ih) fun z => nomatch z
def tyAny (ts : List String) (x : D) : Py D := fun M => match tyN M x with
  | some t => .ok (.bl (ts.any fun T => isT T t)) M
  | none => .bad
theorem tyAny_post {ts : List String} {x : D} {M : Store} {q : D → Store → Prop} {E : Exn → Store → Prop} (p : Post (tyAny ts x M) q E) : ∃ t, tyN M x = some t ∧ q (.bl (ts.any fun T => isT T t)) M := by
  unfold tyAny at p
  split at p
  · rename_i t h
    exact ⟨t, h, p⟩
  · exact p.elim
def isiTsK (Ts : List String) (x : D) : Option (List String) → Py D
  | some ts => Py.chk (ts.all Ts.contains = true) (tyAny ts x)
  | none => Py.bad
def isiTs (Ts : List String) (x y : D) : Py D := match y with
  | .tup ds => isiTsK Ts x (tysOf ds)
  | y => isiT Ts x y
theorem dc_isiA {Ts : List String} (hT : Ts.all kitOk = true := by decide +kernel) : DCl C (.builtin "isinstance") (twoD (isiTs Ts)) := by
  obtain ⟨r1, h1, k1⟩ := dc_isi (C := C) hT
  refine dcl_two (h1.or call_isiT) fun {g ρ M σ H v u d e} Q R r r' p => ?_
  have other : Post (isiT Ts d e M) (QV C g ρ σ Q) (C.We ρ) → r1 [v, u] H Q := fun p => k1 Q R (.cons r (.cons r' .nil)) p
  cases e with
  | tup ds =>
    right
    cases r' with
    | @tup tp vs ds s t =>
      have p' : Post (isiTsK Ts d (tysOf ds) M) (QV C g ρ σ Q) (C.We ρ) := p
      cases e1 : tysOf ds with
      | none => rw [e1] at p'; exact p'.elim
      | some ts =>
        rw [e1] at p'
        obtain ⟨hc, p2⟩ := post_chk.mp p'
        obtain ⟨t', e2, p3⟩ := tyAny_post p2
        obtain ⟨ty, hm⟩ := tyN_ok R.h r e2
        have hk : ts.all kitOk = true := List.all_eq_true.mpr fun T hT' => List.all_eq_true.mp hT T (by
          have := List.all_eq_true.mp hc T hT'
          simpa using this)
        have ev := tys_rep t e1
        subst ev
        exact ⟨v, tp, _, _, _, _, rfl, R.h.frz _ _ s, cls_all ts, ty, kit_any hm hk, QV.here p3 R (.bl _)⟩
  | _ => exact .inl (other p)
end
end L3
set_option Elab.async false
set_option linter.all false
set_option maxRecDepth 100000
set_option autoImplicit false
namespace L2
open PySem PySem.Spec PyProof.Rows HT
theorem rev_adjust (n : Nat) : Builtin.Slice.sliceAdjust none none (-1) (n : Int) = ((n : Int) - 1, -1) := by
  unfold Builtin.Slice.sliceAdjust
  simp
theorem rev_places (n : Nat) : Builtin.Slice.slicePlaces ((n : Int) - 1) (-1) (-1) = n := by
  unfold Builtin.Slice.slicePlaces
  simp
  omega
theorem fmap_some {α β : Type} {f : α → Option β} {g : α → β} : ∀ l : List α, (∀ m ∈ l, f m = some (g m)) → l.filterMap f = l.map g
  | [], _ => rfl
  | a :: l, h => by
    rw [List.filterMap_cons, h a (List.mem_cons_self ..), List.map_cons, fmap_some l fun m hm => h m (List.mem_cons_of_mem _ hm)]
theorem rev_pick (xs : Array Value) : ((List.range xs.size).filterMap fun (m : Nat) => xs[(((xs.size : Int) - 1) + (m : Int) * (-1)).toNat]?).toArray = xs.toList.reverse.toArray := by
  have h : ∀ m ∈ List.range xs.size, xs[(((xs.size : Int) - 1) + (m : Int) * (-1)).toNat]? = some ((xs.toList.reverse[m]?).getD .none) := fun m hm => by
    have hm' : m < xs.size := List.mem_range.mp hm
    have e1 : (((xs.size : Int) - 1) + (m : Int) * (-1)).toNat = xs.size - 1 - m := by omega
    rw [e1, List.getElem?_reverse (by simpa using hm'), Array.length_toList, Array.getElem?_toList]
    have : xs.size - 1 - m < xs.size := by omega
    rw [Array.getElem?_eq_getElem this]
    rfl
  rw [fmap_some _ h]
  congr 1
  refine List.ext_getElem? fun i => ?_
  rw [List.getElem?_map]
  by_cases hi : i < xs.size
  · rw [List.getElem?_range hi]
    have : i < xs.toList.reverse.length := by simpa using hi
    rw [List.getElem?_eq_getElem this]
    show some ((xs.toList.reverse[i]?).getD Value.none) = _
    rw [List.getElem?_eq_getElem this]
    rfl
  · rw [List.getElem?_eq_none (by simpa using hi), List.getElem?_eq_none (by simpa using hi)]
    rfl
section
variable {prog : Program} {w : World} {A : Around} {E : Value → Shared → Prop} {s : Shared}
theorem getItem_tuple_rev {t sl : Addr} {items : Array Value} {u : Tok} {Q : Value → Shared → Prop} (ht : IsTup s.heap t items) (hs : s.heap.IsSliceOf sl .none .none (.int (-1) u))
    (h : Q (.ref s.heap.objs.size) { s with heap := s.heap.push { cls := .type "tuple", data := .seq items.toList.reverse.toArray } }) (hsz : items.size ≤ sizeLine) : wpAny (model prog w) A (getItem (.ref t) (.ref sl)) Q E s := by
  obtain ⟨os, hos, hcs, hds⟩ := id hs
  have hTs : s.TypeIs (.ref sl) "slice" := ⟨os, hos, hcs⟩
  have htake : sizeOk (.seq items.toList.reverse.toArray) := by
    show items.toList.reverse.toArray.size ≤ sizeLine
    rw [List.size_toArray, List.length_reverse, Array.length_toList]
    exact hsz
  unfold getItem
  try with_reducible refine wpAny_holding ?_
  first | refine wpAny_bind (wpAny_pure ?_) | skip
  refine wpAny_bind (wpAny_sequenceKey ht.typeIs (by decide) ?_)
  refine wpAny_bind (wpAny_callSpecial?_slot (name := Str.ofString "__getitem__") ht.typeIs PyProof.Rows.slot_tuple_getitem
    (wpAny_call_entry PyProof.Rows.slot_tuple_getitem ht.typeIs entry_tuple_getitem ?_ (args_tuple_getitem _ _)))
  show wpAny _ _ (Builtin.Tuple.tupleItemsOf (.ref t) >>= _) _ _ s
  refine wpAny_bind (tupleItemsOf_ ht ?_)
  refine wpAny_bind (wpAny_typeOf hTs ?_)
  rw [if_pos (by decide)]
  have app : ∀ {Q : Int × Int × Nat → Shared → Prop}, Q ((items.size : Int) - 1, -1, items.size) s → wpAny (model prog w) A.in1 (Builtin.Slice.sliceApplied (.ref sl) (pure (items.size : Int))) Q E s := by
    intro Q q
    unfold Builtin.Slice.sliceApplied Builtin.Slice.sliceFields
    refine wpAny_bind (wpAny_bind (wpAny_field hos hds (x := .none) rfl (wpAny_bind (wpAny_field hos hds (x := .none) rfl (wpAny_bind (wpAny_field hos hds (x := .int (-1) u) rfl (wpAny_pure ?_)))))))
    refine wpAny_bind (slicePart_ (.int (-1) u) ?_)
    show wpAny _ _ (if ((-1 : Int) == 0) = true then _ else _) _ _ s
    rw [if_neg (by decide)]
    refine wpAny_bind (slicePart_ .none (wpAny_bind (slicePart_ .none (wpAny_bind (wpAny_pure ?_)))))
    show wpAny _ _ (match Builtin.Slice.sliceAdjust none none (-1) (items.size : Int) with | (lo, hi) => pure (lo, (-1 : Int), Builtin.Slice.slicePlaces lo hi (-1))) _ _ s
    rw [rev_adjust]
    show wpAny _ _ (pure ((items.size : Int) - 1, (-1 : Int), Builtin.Slice.slicePlaces ((items.size : Int) - 1) (-1) (-1))) _ _ s
    rw [rev_places]
    exact wpAny_pure q
  refine wpAny_bind (app ?_)
  have hno : ¬ ((((items.size : Int) - 1) == 0 && (-1 : Int) == 1 && items.size == items.size) = true) := by
    rw [show ((-1 : Int) == 1) = false from rfl, Bool.and_false, Bool.false_and]
    exact Bool.false_ne_true
  show wpAny _ _ (if (((items.size : Int) - 1) == 0 && (-1 : Int) == 1 && items.size == items.size) = true then _ else _) _ _ s
  rw [if_neg hno, rev_pick]
  first
    | exact wpAny_bind (m := Builtin.Tuple.tupleExact _) (wpAny_newObj_type (wpAny_pure ⟨_, rfl, wpAny_pure h⟩) htake)
    | exact wpAny_bind (m := Builtin.Tuple.tupleExact _) (wpAny_newObj_type (wpAny_bind (wpAny_pure (wpAny_pure ⟨_, rfl, wpAny_pure h⟩))) htake)
    | exact wpAny_bind (wpAny_bind (m := Builtin.Tuple.tupleExact _) (wpAny_newObj_type (wpAny_pure (wpAny_pure ⟨_, rfl, wpAny_pure h⟩)) htake))
    | exact wpAny_bind (wpAny_bind (m := Builtin.Tuple.tupleExact _) (wpAny_newObj_type (wpAny_pure ⟨_, rfl, wpAny_pure h⟩) htake))
end
end L2

namespace L2
open PySem PySem.Spec PyProof.Rows HT
def tRevT (K : PySem.W.Frag) (te : TE) : TE := fun σ H Q => te σ H fun x H1 => ∃ a xs, x = .ref a ∧ SqT K H1 a xs ∧ ∀ p, H1 p = none → Q (.ref p) (upd H1 p (.tup xs.reverse))
theorem pe_revT {X : Cx} {e : Expr} {te : TE} {k : Nat} {p1 p2 p3 pos : Pos} (he : PE X e te) : PE X (.Subscript e (.Slice none none (some (.UnaryOp .USub (.Constant (.int 1) k p1) p2)) p3) pos) (tRevT X.K te) := by
  refine ⟨fun pins s σ H Q I h => ?_⟩
  refine Subscript_ (thn (he.run pins s σ H _ I h) fun v s1 ⟨x, H1, I1, r1, q1⟩ => ?_)
  obtain ⟨a, xs, ex, hx, q⟩ := q1
  subst ex
  cases r1
  have hst : PO X (some (.UnaryOp .USub (.Constant (.int 1) k p1) p2)) (tPart (tUn (rU fun i => .int (-i)) (tC (.int 1)))) := po_some (pe_un un_neg pe_int)
  refine wpAny_Slice (thn (po_none.run pins s1 σ H1 (fun o H2 => o = none ∧ H2 = H1) I1 ⟨rfl, rfl⟩) fun vl s2 ⟨l, H2, I2, pl, el, e2⟩ => ?_)
  subst el e2
  refine thn (po_none.run pins s2 σ H2 (fun o H3 => o = none ∧ H3 = H2) I2 ⟨rfl, rfl⟩) fun vu s3 ⟨u, H3, I3, pu, eu, e3⟩ => ?_
  subst eu e3
  refine thn (hst.run pins s3 σ H3 (fun o H4 => o = some (-1) ∧ H4 = H3) I3 ⟨1, rfl, -1, rfl, rfl, rfl⟩) fun vs s4 ⟨o, H4, I4, ps, eo, e4⟩ => ?_
  subst eo e4
  have I5 : Inv X pins σ H4 { s4 with heap := s4.heap.push { cls := .type "slice", data := .fields #[vl, vu, vs] } } := I4.kept (t' := s4.toks) fun b ob q => Heap.get?_push_of_some _ q
  obtain ⟨its, r, ht, hz⟩ := I5.tuple hx
  have hlen := r.length
  cases pl
  cases pu
  cases ps with
  | int i t' =>
    show wpAny (model X.prog X.w) X.A (subscriptTail e (.Slice none none (some (.UnaryOp .USub (.Constant (.int 1) k p1) p2)) p3) (.ref a) (.ref s4.heap.objs.size)) (EP X pins σ Q) X.xe { s4 with heap := s4.heap.push { cls := .type "slice", data := .fields #[.none, .none, .int (-1) t'] } }
    refine tail_any (ops := [.ref a, .ref s4.heap.objs.size]) ht.typeIs (PyProof.Rows.slot_tuple_getitem.lookup) ?_ (by with_unfolding_all rfl)
    refine getItem_tuple_rev ht (Heap.IsSliceOf.new _ .none .none (.int (-1) t')) ?_ (by rw [List.size_toArray]; omega)
    refine ⟨.ref _, _, I5.laid (t' := s4.toks) (o := .tup xs.reverse) (fun b ob q => Heap.get?_push_of_some _ q) (Nat.le_refl _) ?_, rfl, q _ (I5.hok.fresh (Nat.le_refl _))⟩
    exact ⟨by rw [List.length_reverse]; exact hz, _, r.reverse, IsTup.new _ _⟩
end L2
namespace L3
open PySem PySem.Spec L2
open PyProof.Rows hiding St
theorem pe_orE {X : Cx} {e : Expr} {t u : TE} (h1 : PE X e t) (h2 : PE X e u) : PE X e (fun σ H Q => t σ H Q ∨ u σ H Q) := ⟨fun pins s σ H Q I h => h.elim (h1.run pins s σ H Q I) (h2.run pins s σ H Q I)⟩
section
variable {C : DX} {pos : Pos} {e : Expr} {f : DEnv → Py D}
/-- x[::-1] of a tuple or a list -/
def revD (d : D) : Py D := match d with
  | .tup xs => Py.ret (.tup xs.reverse)
  | d => Py.bnd (litems d) fun ds => Py.ret (.lst ds.reverse)
def eRev (f : DEnv → Py D) : DEnv → Py D := fun ρ => Py.bnd (f ρ) revD
theorem de_rev {k : Nat} {p1 p2 p3 : Pos} (h : DE C e f) : DE C (.Subscript e (.Slice none none (some (.UnaryOp .USub (.Constant (.int 1) k p1) p2)) p3) pos) (eRev f) := ⟨fun {g ρ M σ H} Q R p => by
  refine wpe (pe_orE (pe_revT self_e) (pe_revL self_e)) ?_
  have p' := (post_bnd.mp p : Post (f ρ M) _ _)
  cases hf : f ρ M with
  | bad => rw [hf] at p'; exact p'.elim
  | exc x M1 => rw [hf] at p'; exact .inl (h.exc R hf p')
  | ok d M1 =>
    rw [hf] at p'
    have p2 : Post (revD d M1) (QV C g ρ σ Q) (C.We ρ) := p'
    have lst : ∀ {d : D}, f ρ M = .ok d M1 → Post (Py.bnd (litems d) (fun ds => Py.ret (.lst ds.reverse)) M1) (QV C g ρ σ Q) (C.We ρ) → tRevL C.X.K (WPE C.X e) σ H Q := fun {d} hf p2 => h.det R hf fun v H1 g1 l1 R1 r1 => by
      obtain ⟨a, vs, ds, rfl, hs, t, q⟩ := litems_post R1.h r1 (post_bnd.mp p2)
      exact ⟨a, vs, rfl, hs, fun p hp => QV.lay (QV.later (g' := g1) q l1) R1 hp (rep_lst_new t.reverse (R1.h.fnone hp))⟩
    cases d with
    | tup xs =>
      refine .inl (h.det R hf fun v H1 g1 l1 R1 r1 => ?_)
      cases r1 with
      | @tup a vs ds s t => exact ⟨a, vs, rfl, .of (R1.h.frz _ _ s), fun p hp => QV.lay (QV.later (g' := g1) p2 l1) R1 hp (rep_tup_new t.reverse (R1.h.fnone hp))⟩
    | _ => exact .inr (lst hf p2)⟩
end

/-! ### dicts with keys that are ints or texts -/
def keyD : D → Option Key
  | .int i => some (.inl i)
  | .str x => some (.inr x)
  | _ => none
theorem key_rep {K : PySem.W.Frag} {g : G} {v : V} {d : D} {k : Key} (r : Rep K g v d) (e : keyD d = some k) : v = kV k := by
  cases r with
  | int i => cases e; rfl
  | str i => cases e; rfl
  | _ => cases e
inductive KR (K : PySem.W.Frag) (g : G) : List (Key × V) → List (Key × D) → Prop
  | nil : KR K g [] []
  | cons {k : Key} {v : V} {d : D} {vs : List (Key × V)} {fs : List (Key × D)} : Rep K g v d → KR K g vs fs → KR K g ((k, v) :: vs) ((k, d) :: fs)
theorem KR.of {K : PySem.W.Frag} {g : G} : ∀ {vs : List (Key × V)} {fs : List (Key × D)}, Reps K g (vs.map (·.2)) (fs.map (·.2)) → vs.map (·.1) = fs.map (·.1) → KR K g vs fs
  | [], [], _, _ => .nil
  | [], _ :: _, _, e => nomatch e
  | _ :: _, [], _, e => nomatch e
  | (k, v) :: vs, (k', d) :: fs, r, e => by
    injection e with e1 e2
    have e1' : k = k' := e1
    subst e1'
    cases r with
    | cons a b => exact .cons a (KR.of b e2)
theorem KR.reps {K : PySem.W.Frag} {g : G} : ∀ {vs : List (Key × V)} {fs : List (Key × D)}, KR K g vs fs → Reps K g (vs.map (·.2)) (fs.map (·.2)) ∧ vs.map (·.1) = fs.map (·.1)
  | _, _, .nil => ⟨.nil, rfl⟩
  | _, _, .cons r t => let ⟨a, b⟩ := t.reps; ⟨.cons r a, by rw [List.map_cons, List.map_cons, b]⟩
def valD (fs : List (Key × D)) (k : Key) : Option D := (fs.find? fun kv => decide (kv.1 = k)).map (·.2)
def putD (fs : List (Key × D)) (k : Key) (v : D) : List (Key × D) :=
  if (fs.any fun kv => decide (kv.1 = k)) = true then fs.map (fun kv => if kv.1 = k then (kv.1, v) else kv) else fs ++ [(k, v)]
def mergeD (fs more : List (Key × D)) : List (Key × D) := more.foldl (fun acc kv => putD acc kv.1 kv.2) fs
section
variable {K : PySem.W.Frag} {g g' : G}
theorem KR.any {k : Key} : ∀ {vs : List (Key × V)} {fs : List (Key × D)}, KR K g vs fs → (vs.any fun kv => decide (kv.1 = k)) = fs.any fun kv => decide (kv.1 = k)
  | _, _, .nil => rfl
  | _, _, .cons r t => by rw [List.any_cons, List.any_cons, KR.any t]
theorem KR.append {vs : List (Key × V)} {fs : List (Key × D)} {ws : List (Key × V)} {gs : List (Key × D)} (h : KR K g vs fs) (q : KR K g ws gs) : KR K g (vs ++ ws) (fs ++ gs) := by
  induction h with
  | nil => exact q
  | cons r t ih => exact .cons r ih
theorem KR.map {k : Key} {v : V} {d : D} (r : Rep K g v d) : ∀ {vs : List (Key × V)} {fs : List (Key × D)}, KR K g vs fs → KR K g (vs.map fun kv => if kv.1 = k then (kv.1, v) else kv) (fs.map fun kv => if kv.1 = k then (kv.1, d) else kv)
  | _, _, .nil => .nil
  | _, _, .cons (k := j) (v := x) (d := y) q t => by
    rw [List.map_cons, List.map_cons]
    by_cases h : j = k
    · rw [if_pos h, if_pos h]
      exact .cons r (KR.map r t)
    · rw [if_neg h, if_neg h]
      exact .cons q (KR.map r t)
theorem KR.put {k : Key} {v : V} {d : D} {vs : List (Key × V)} {fs : List (Key × D)} (h : KR K g vs fs) (r : Rep K g v d) : KR K g (putK vs k v) (putD fs k d) := by
  unfold putK putD
  rw [h.any]
  by_cases c : (fs.any fun kv => decide (kv.1 = k)) = true
  · rw [if_pos c, if_pos c]
    exact h.map r
  · rw [if_neg c, if_neg c]
    exact h.append (.cons r .nil)
theorem KR.merge {ws : List (Key × V)} {gs : List (Key × D)} {vs : List (Key × V)} {fs : List (Key × D)} (q : KR K g ws gs) (h : KR K g vs fs) : KR K g (mergeK vs ws) (mergeD fs gs) := by
  induction q generalizing vs fs with
  | nil => exact h
  | cons r t ih => exact ih (h.put r)
theorem KR.val {k : Key} : ∀ {vs : List (Key × V)} {fs : List (Key × D)}, KR K g vs fs → (valD fs k = none ∧ valV vs k = none) ∨ ∃ v d, valD fs k = some d ∧ valV vs k = some v ∧ Rep K g v d
  | _, _, .nil => .inl ⟨rfl, rfl⟩
  | _, _, .cons (k := j) (v := x) (d := y) q t => by
    by_cases h : j = k
    · exact .inr ⟨x, y, by simp [valD, List.find?_cons, h], by simp [valV, List.find?_cons, h], q⟩
    · rcases KR.val (k := k) t with ⟨a, b⟩ | ⟨v, d, a, b, c⟩
      · exact .inl ⟨by simp [valD, List.find?_cons, h] at a ⊢; exact a, by simp [valV, List.find?_cons, h] at b ⊢; exact b⟩
      · exact .inr ⟨v, d, by simp [valD, List.find?_cons, h] at a ⊢; exact a, by simp [valV, List.find?_cons, h] at b ⊢; exact b, c⟩
theorem KR.gro (S : g.sub g') : ∀ {vs : List (Key × V)} {fs : List (Key × D)}, KR K g vs fs → KR K g' vs fs
  | _, _, .nil => .nil
  | _, _, .cons r t => .cons (r.gro S) (KR.gro S t)
end
end L3
set_option Elab.async false
set_option linter.all false
set_option maxRecDepth 100000
set_option autoImplicit false
namespace L3
open PySem PySem.Spec L2
open PyProof.Rows hiding St
/-- the pairs of a display -/
structure DP (C : DX) (keys : List (Option Expr)) (values : List Expr) (trs : Cx → List (TE × TE)) (f : DEnv → Py (List (D × D))) : Prop where
  pp : ∀ pos, PPs C.X pos keys values (trs C.X)
  run : ∀ {g : G} {ρ : DEnv} {M : Store} {σ : St} {H : Hp} {α : Type} {k : List (D × D) → Py α} {q : α → Store → Prop} {Q : List (V × V) → Hp → Prop}, Rl C g ρ M σ H → Post (Py.bnd (f ρ) k M) q (C.We ρ) →
    (∀ (ps : List (V × V)) (ds : List (D × D)) (M' : Store) (H' : Hp) (g' : G), g.le g' → Rl C g' ρ M' σ H' → Reps C.X.K g' (ps.map (·.1)) (ds.map (·.1)) → Reps C.X.K g' (ps.map (·.2)) (ds.map (·.2)) → Post (k ds M') q (C.We ρ) → Q ps H') → tPairs (trs C.X) σ H Q
def pNil : DEnv → Py (List (D × D)) := fun _ => Py.ret []
def pCons (fk fv : DEnv → Py D) (r : DEnv → Py (List (D × D))) : DEnv → Py (List (D × D)) := fun ρ => Py.bnd (fk ρ) fun k => Py.bnd (fv ρ) fun v => Py.bnd (r ρ) fun ps => Py.ret ((k, v) :: ps)
section
variable {C : DX} {pos : Pos} {e a b : Expr} {f fa fb : DEnv → Py D}
theorem dp_nil : DP C [] [] (fun _ => []) pNil := ⟨fun _ => pps_nil, fun {g ρ M σ H α k q Q} R p go => go [] [] M H g (G.le.refl g) R .nil .nil p⟩
theorem dp_cons {k v : Expr} {ks : List (Option Expr)} {vs : List Expr} {trs : Cx → List (TE × TE)} {fk fv : DEnv → Py D} {r : DEnv → Py (List (D × D))} (hk : DE C k fk) (hv : DE C v fv) (hr : DP C ks vs trs r) :
    DP C (some k :: ks) (v :: vs) (fun X => (WPE X k, WPE X v) :: trs X) (pCons fk fv r) := ⟨fun pos => pps_cons self_e self_e (hr.pp pos), fun {g ρ M σ H α kk q Q} R p go => by
  have p0 : Post (Py.bnd (fk ρ) (fun k => Py.bnd (fv ρ) fun v => Py.bnd (r ρ) fun ps => kk ((k, v) :: ps)) M) q (C.We ρ) := by
    refine post_bnd.mpr ((post_bnd.mp (post_bnd.mp p)).imp fun x M1 p1 => ?_)
    refine post_bnd.mpr ((post_bnd.mp p1).imp fun y M2 p2 => ?_)
    exact post_bnd.mpr ((post_bnd.mp p2).imp fun ps M3 p3 => p3)
  refine hk.then_ R p0 fun x dx M1 H1 g1 l1 R1 r1 p1 => hv.then_ R1 p1 fun y dy M2 H2 g2 l2 R2 r2 p2 => ?_
  exact hr.run R2 p2 fun ps ds M3 H3 g3 l3 R3 ra rb p3 => go ((x, y) :: ps) ((dx, dy) :: ds) M3 H3 g3 ((l1.trans l2).trans l3) R3 (.cons (r1.mono (l2.trans l3)) ra) (.cons (r2.mono l3) rb) p3⟩
def keysD : List (D × D) → Option (List (Key × D))
  | [] => some []
  | (k, v) :: r => (keyD k).bind fun k' => (keysD r).map fun r' => (k', v) :: r'
theorem keys_rep {K : PySem.W.Frag} {g : G} : ∀ {ps : List (V × V)} {ds : List (D × D)} {fs : List (Key × D)}, Reps K g (ps.map (·.1)) (ds.map (·.1)) → Reps K g (ps.map (·.2)) (ds.map (·.2)) → keysD ds = some fs →
    ∃ kvs : List (Key × V), ps = kvs.map (fun kv => (kV kv.1, kv.2)) ∧ KR K g kvs fs ∧ kvs.length = ds.length
  | [], [], _, _, _, e => by cases e; exact ⟨[], rfl, .nil, rfl⟩
  | [], _ :: _, _, h, _, _ => nomatch h
  | _ :: _, [], _, h, _, _ => nomatch h
  | (x, y) :: ps, (k, v) :: ds, fs, h1, h2, e => by
    obtain ⟨k', e1, e2⟩ := Option.bind_eq_some_iff.mp (show (keyD k).bind _ = some _ from e)
    obtain ⟨fs', e3, e4⟩ := Option.map_eq_some_iff.mp e2
    subst e4
    cases h1 with
    | cons r1 t1 =>
      cases h2 with
      | cons r2 t2 =>
        obtain ⟨kvs, q1, q2, q3⟩ := keys_rep t1 t2 e3
        refine ⟨(k', y) :: kvs, ?_, .cons r2 q2, by rw [List.length_cons, List.length_cons, q3]⟩
        have : x = kV k' := key_rep r1 e1
        rw [List.map_cons, this, q1]
/-- {k: v, ..}: a dict that is never changed -/
def dkOf (ds : List (D × D)) : Option (List (Key × D)) → Py D
  | some fs => Py.chk (ds.length ≤ 15) (Py.ret (.dk (mergeD [] fs)))
  | none => Py.bad
def eDisp (fp : DEnv → Py (List (D × D))) : DEnv → Py D := fun ρ => Py.bnd (noX (fp ρ)) fun ds => dkOf ds (keysD ds)
abbrev DX.at_ (C : DX) (B : G) : DX := ⟨C.X, B, fun _ _ _ => False⟩
theorem dkOf_post {ds : List (D × D)} {o : Option (List (Key × D))} {M : Store} {q : D → Store → Prop} {E : Exn → Store → Prop} (p : Post (dkOf ds o M) q E) : ∃ fs, o = some fs ∧ ds.length ≤ 15 ∧ q (.dk (mergeD [] fs)) M := by
  cases o with
  | none => exact p.elim
  | some fs =>
    obtain ⟨h, q⟩ := post_chk.mp p
    exact ⟨fs, rfl, h, q⟩
theorem de_disp {keys : List (Option Expr)} {values : List Expr} {trs : Cx → List (TE × TE)} {fp : DEnv → Py (List (D × D))} (h : ∀ B, DP (C.at_ B) keys values trs fp) (hall : keys.all (·.isSome) = true := by rfl) (hl : keys.length = values.length := by rfl) (h0 : keys ≠ [] := by exact fun z => by cases z) (h15 : keys.length ≤ 15 := by decide) :
    DE C (.Dict keys values pos) (eDisp fp) := ⟨fun {g ρ M σ H} Q R p => by
  refine wpe (pe_disp ((h g).pp pos) hall hl h0 h15) fun D' hD => ?_
  -- the dict stands empty while its pairs are made
  have gP : g.P D' = none := R.h.pnone hD
  have gF : g.F D' = none := R.h.fnone hD
  have S0 : g.sub (g.bld D' (.dK [])) := ⟨⟨[], by simp [G.bld]⟩, fun _ _ q => q⟩
  have R0 : Rl (C.at_ (g.bld D' (.dK []))) (g.bld D' (.dK [])) ρ M σ (upd H D' (.dK [])) := ⟨G.le.refl _, R.h.build hD, R.e.gro S0⟩
  have p1 : Post (Py.bnd (fp ρ) Py.ret M) (fun ds M1 => Post (dkOf ds (keysD ds) M1) (QV C g ρ σ Q) (C.We ρ)) (fun _ _ => False) := by
    have p0 : Post (Py.bnd (noX (fp ρ)) (fun ds => dkOf ds (keysD ds)) M) (QV C g ρ σ Q) (C.We ρ) := p
    exact post_bnd.mpr ((noX_post (post_bnd.mp p0)).imp fun ds M1 z => z)
  refine (h (g.bld D' (.dK []))).run R0 p1 fun ps ds M1 H1 g1 l1 R1 ra rb p2 => ?_
  obtain ⟨fs, e1, hz, q⟩ := dkOf_post (show Post (dkOf ds (keysD ds) M1) _ _ from p2)
  obtain ⟨kvs, e2, kr, hk⟩ := keys_rep ra rb e1
  have hP : g1.P D' = some (.dK []) := by rw [l1.P]; exact upd_same
  have hPn : ∀ a, a ≠ D' → g.P a = g1.P a := fun a ha => by
    rw [l1.P]
    show g.P a = upd g.P D' _ a
    rw [upd_ne ha]
  refine ⟨(R1.h.prt _ _ hP).1, kvs, e2, by rw [hk]; exact hz, ?_⟩
  -- it is filled
  have R2 := R1.h.rebuild (o := .dK (mergeK [] kvs)) hP
  have fD : g1.F D' = none := (R1.h.prt _ _ hP).2
  have R3 := R2.built (p := D') (o := .dK (mergeK [] kvs)) (P0 := g.P) upd_same gP (fun a ha => by
    show g.P a = upd g1.P D' _ a
    rw [upd_ne ha]
    exact hPn a ha)
  have S1 : g.sub g1 := S0.trans l1.sub
  have S2 : g1.sub ((g1.bld D' (.dK (mergeK [] kvs))).unb g.P D' (.dK (mergeK [] kvs))) := ⟨⟨[], by simp [G.unb, G.bld]⟩, fun a o z => by
    show upd g1.F D' _ a = some o
    rw [upd_ne (ne_of_none z fD)]
    exact z⟩
  have L : g.le ((g1.bld D' (.dK (mergeK [] kvs))).unb g.P D' (.dK (mergeK [] kvs))) := ⟨(S1.trans S2).io, (S1.trans S2).F, rfl⟩
  have kr2 := (kr.merge (vs := []) (fs := []) .nil).gro S2
  exact q (.ref D') _ _ L (R.next L R3) (.dk upd_same kr2.reps.1 kr2.reps.2)⟩
/-- {} -/
theorem de_dict0 : DE C (.Dict [] [] pos) (eC (.dk [])) := ⟨fun {g ρ M σ H} Q R p =>
  wpe pe_dnewK fun D' hD => QV.lay (d := .dk []) p R hD (.dk upd_same .nil rfl)⟩
/-- {} that will change -/
theorem de_dict0N : DE C (.Dict [] [] pos) (fun _ => alloc (.dk [])) := ⟨fun {g ρ M σ H} Q R p =>
  wpe pe_dnewK fun D' hD => QV.make p R hD ⟨[], upd_same, .nil, rfl⟩⟩
/-- d[k] of such a dict, or an item of a sequence -/
def dkIx (fs : List (Key × D)) : Option Key → Py D
  | some k => match valD fs k with
    | some d => Py.ret d
    | none => Py.bad
  | none => Py.bad
theorem dkIx_post {fs : List (Key × D)} {o : Option Key} {M : Store} {q : D → Store → Prop} {E : Exn → Store → Prop} (p : Post (dkIx fs o M) q E) : ∃ k d, o = some k ∧ valD fs k = some d ∧ q d M := by
  cases o with
  | none => exact p.elim
  | some k =>
    have p' : Post ((match valD fs k with | some d => Py.ret d | none => Py.bad : Py D) M) q E := p
    cases h : valD fs k with
    | none => rw [h] at p'; exact p'.elim
    | some d => rw [h] at p'; exact ⟨k, d, rfl, h, p'⟩
def dixD (x y : D) : Py D := match x with
  | .dk fs => dkIx fs (keyD y)
  | _ => Py.bad
theorem de_dix (hu : C.X.A.units + 1 < cLine) (ha : DE C a fa) (hb : DE C b fb) (hs : NoSl b := by exact fun _ _ => rfl) : DE C (.Subscript a b pos) (eOp dixD fa fb) := ⟨fun {g ρ M σ H} Q R p => by
  refine wpe (pe_dget hu self_e self_e hs) (ha.then_ R p fun v d M1 H1 g1 l1 R1 r1 p1 => hb.then_ R1 p1 fun u e M2 H2 g2 l2 R2 r2 p2 => ?_)
  cases d with
  | dk fs =>
    have r3 := r1.mono l2
    cases r3 with
    | @dk a' vs fs s t z =>
      obtain ⟨k, d, e1, e2, q⟩ := dkIx_post p2
      have kr := KR.of t z
      rcases kr.val (k := k) with ⟨c1, c2⟩ | ⟨v', d', c1, c2, c3⟩
      · rw [e2] at c1; cases c1
      · rw [e2] at c1; cases c1
        refine ⟨a', v', rfl, ?_, QV.here (QV.later (g' := g2) q (l1.trans l2)) R2 c3⟩
        rw [key_rep r2 e1, ← c2]
        exact DGet.k (R2.h.frz _ _ s)
  | _ => exact p2.elim⟩
end
end L3
set_option Elab.async false
set_option linter.all false
set_option maxRecDepth 100000
set_option autoImplicit false
namespace L3
open PySem PySem.Spec L2
open PyProof.Rows hiding St
def allTs : List String := ["int", "bool", "str", "tuple", "list", "dict"]
theorem allTs_ok : allTs.all kitOk = true := by decide +kernel
def augAdd := addI
def augSub := subI
def augMul := mulI
section
variable {C : DX} {pos : Pos} {e : Expr} {f : DEnv → Py D}
theorem ds_augAdd {i : Nat} {x : Str} {pos' : Pos} (hN : C.X.N.Nodup) (he : DE C e f) (hi : C.X.N[i]? = some x := by rfl) (hx : Loc C.X.env.scope x := by first | exact Or.inl rfl | exact Or.inr rfl)
    (hf : C.X.fn x = true ∨ C.X.env.scope.names.lookup x = some .local := by first | exact .inl rfl | exact .inr rfl) : DS C (.AugAssign (.Name x pos') .Add e pos) (sAug i augAdd f) :=
  ds_aug hN he iop_add (fun {g ρ M σ H x y dx dy} Q R rx ry p => by
    obtain ⟨i, j, rfl, rfl, q⟩ := intOp_post p
    exact ⟨i, j, rep_int rx, rep_int ry, QV.here q R (.int _)⟩) hi hx hf
theorem ds_augSub {i : Nat} {x : Str} {pos' : Pos} (hN : C.X.N.Nodup) (he : DE C e f) (hi : C.X.N[i]? = some x := by rfl) (hx : Loc C.X.env.scope x := by first | exact Or.inl rfl | exact Or.inr rfl)
    (hf : C.X.fn x = true ∨ C.X.env.scope.names.lookup x = some .local := by first | exact .inl rfl | exact .inr rfl) : DS C (.AugAssign (.Name x pos') .Sub e pos) (sAug i augSub f) :=
  ds_aug hN he iop_sub (fun {g ρ M σ H x y dx dy} Q R rx ry p => by
    obtain ⟨i, j, rfl, rfl, q⟩ := intOp_post p
    exact ⟨i, j, rep_int rx, rep_int ry, QV.here q R (.int _)⟩) hi hx hf
theorem ds_augMul {i : Nat} {x : Str} {pos' : Pos} (hN : C.X.N.Nodup) (he : DE C e f) (hi : C.X.N[i]? = some x := by rfl) (hx : Loc C.X.env.scope x := by first | exact Or.inl rfl | exact Or.inr rfl)
    (hf : C.X.fn x = true ∨ C.X.env.scope.names.lookup x = some .local := by first | exact .inl rfl | exact .inr rfl) : DS C (.AugAssign (.Name x pos') .Mult e pos) (sAug i augMul f) :=
  ds_aug hN he iop_mul (fun {g ρ M σ H x y dx dy} Q R rx ry p => by
    obtain ⟨i, j, rfl, rfl, q⟩ := intOp_post p
    exact ⟨i, j, rep_int rx, rep_int ry, (post_chk.mp q).1, QV.here (post_chk.mp q).2 R (.int _)⟩) hi hx hf
/-- a, b, c = x, y, z -/
def parK3 (i j l : Nat) (ρ : DEnv) : List D → Py Fl
  | [d, e, h] => Py.ret (.nx (((ρ.set i (some d)).set j (some e)).set l (some h)))
  | _ => Py.bad
def sPar3 (i j l : Nat) (ff : DEnv → Py (List D)) : DEnv → Py Fl := fun ρ => Py.bnd (ff ρ) (parK3 i j l ρ)
theorem parK3_post {i j l : Nat} {ρ : DEnv} {ds : List D} {M : Store} {q : Fl → Store → Prop} {E : Exn → Store → Prop} (p : Post (parK3 i j l ρ ds M) q E) : ∃ d e h, ds = [d, e, h] ∧ q (.nx (((ρ.set i (some d)).set j (some e)).set l (some h))) M := by
  unfold parK3 at p
  split at p
  · exact ⟨_, _, _, rfl, p⟩
  · exact p.elim
theorem ds_par3 {i j l : Nat} {x y z : Str} {a b c : Expr} {ff : DEnv → Py (List D)} {px py pz pt : Pos} {kt k2 : Nat} {pt2 : Pos} (hc : C.X.calm = true) (hN : C.X.N.Nodup) (ha : DA C [a, b, c] ff) (hi : C.X.N[i]? = some x := by rfl) (hj : C.X.N[j]? = some y := by rfl) (hl : C.X.N[l]? = some z := by rfl) (hij : i ≠ j := by decide) (hil : i ≠ l := by decide) (hjl : j ≠ l := by decide)
    (hx : C.X.env.scope.names.lookup x = some .local := by rfl) (hy : C.X.env.scope.names.lookup y = some .local := by rfl) (hz : C.X.env.scope.names.lookup z = some .local := by rfl)
    (hw : swappedStores [.Tuple [.Name x px, .Name y py, .Name z pz] kt pt] (.Tuple [a, b, c] k2 pt2) C.X.env = pure (some [x, y, z]) := by rfl)
    (hs : swapsWithSole [.Tuple [.Name x px, .Name y py, .Name z pz] kt pt] (.Tuple [a, b, c] k2 pt2) pos.line C.X.env = pure false := by rfl) :
    DS C (.Assign [.Tuple [.Name x px, .Name y py, .Name z pz] kt pt] (.Tuple [a, b, c] k2 pt2) pos) (sPar3 i j l ff) := ⟨fun {g ρ M σ H} E R p =>
  wps (ps_par3 hc hN hi hj hl hij hil hjl hx hy hz self_a hw hs) (ha.then_ R p fun vs ds M1 H1 g1 l1 R1 r1 p1 => by
    obtain ⟨d, e, h, rfl, p2⟩ := parK3_post p1
    cases r1 with
    | cons ra t =>
      obtain ⟨v2, v3, rfl, rb, rc⟩ := t.two
      exact ⟨_, v2, v3, rfl, p2 _ _ g1 l1 (((R1.set i ra).set j rb).set l rc)⟩)⟩
/-- a chain as a test -/
theorem dt_chain {a b c : Expr} {fa fb fc : DEnv → Py D} {o o' : CmpOp} {op op' : D → D → Py D} (ho : DOp C (compareOp o) op) (ho' : DOp C (compareOp o') op') (ha : DE C a fa) (hb : DE C b fb) (hc : DE C c fc)
    (hm : lastMarks [o, o'] [b, c] = false := by with_unfolding_all rfl) : DT C (.Compare a [o, o'] [b, c] pos) (eTest (eChain op op' fa fb fc)) := ⟨fun {g ρ M σ H} Q R p0 pins s I => by
  have p := post_test p0
  refine isTrue_chain (thn ((ha.then_ (Q := fun v H1 => ∃ d M1 g1, g.le g1 ∧ Rl C g1 ρ M1 σ H1 ∧ Rep C.X.K g1 v d ∧ Post (Py.bnd (fb ρ) (fun y => Py.bnd (op d y) fun z => Py.bnd (truB z) fun k => if k then Py.bnd (fc ρ) fun w' => op' y w' else Py.ret (.bl false)) M1) (QV C g ρ σ fun x H1 => ∃ c, x = .bl c ∧ Q c H1) (C.We ρ)) R p
    fun v d M1 H1 g1 l1 R1 r1 p1 => ⟨d, M1, g1, l1, R1, r1, p1⟩) pins s I) fun v s1 ⟨x, H1, I1, rx, d, M1, g1, l1, R1, r1, p1⟩ => test_link ?_) hm
  refine thn ((hb.then_ (Q := fun v H2 => ∃ y M2 g2, g1.le g2 ∧ Rl C g2 ρ M2 σ H2 ∧ Rep C.X.K g2 v y ∧ Post (Py.bnd (op d y) (fun z => Py.bnd (truB z) fun k => if k then Py.bnd (fc ρ) fun w' => op' y w' else Py.ret (.bl false)) M2) (QV C g ρ σ fun x H1 => ∃ c, x = .bl c ∧ Q c H1) (C.We ρ)) R1 p1
    fun v d M1 H1 g1 l1 R1 r1 p1 => ⟨d, M1, g1, l1, R1, r1, p1⟩) pins s1 I1) fun u s2 ⟨x2, H2, I2, rx2, y, M2, g2, l2, R2, r2, p2⟩ => ?_
  have p3 := post_bnd.mp p2
  refine thn (ho (fun z H3 => ∃ k M3 g3, z = .bl k ∧ g2.le g3 ∧ Rl C g3 ρ M3 σ H3 ∧ Post ((if k then Py.bnd (fc ρ) fun w' => op' y w' else Py.ret (.bl false) : Py D) M3) (QV C g ρ σ fun x H1 => ∃ c, x = .bl c ∧ Q c H1) (C.We ρ)) R2 I2 rx rx2 (r1.mono l2) r2 (p3.imp fun z M3 q z' H3 g3 l3 R3 r3 => ?_)) fun d' s3 ⟨z, H3, I3, r3, k, M3, g3, e, l3, R3, p4⟩ => ?_
  · obtain ⟨k, rfl, q'⟩ := truB_post (C := C) (post_bnd.mp q)
    exact ⟨k, M3, g3, rep_bl r3, l3, R3, q'⟩
  · subst e
    cases r3
    refine wpAny_truthy_bool ?_
    cases k with
    | false =>
      obtain ⟨k', e', q'⟩ := QV.here (QV.later (g' := g3) p4 ((l1.trans l2).trans l3)) R3 (.bl false)
      cases e'
      exact ite_ff ⟨H3, I3, q'⟩
    | true =>
      refine ite_tt (test_last (thn ((hc.then_ (Q := fun v H4 => ∃ w' M4 g4, g3.le g4 ∧ Rl C g4 ρ M4 σ H4 ∧ Rep C.X.K g4 v w' ∧ Post (op' y w' M4) (QV C g ρ σ fun x H1 => ∃ c, x = .bl c ∧ Q c H1) (C.We ρ)) R3 p4 fun v d M1 H1 g1 l1 R1 r1 p1 => ⟨d, M1, g1, l1, R1, r1, p1⟩) pins s3 I3)
        fun w' s4 ⟨z', H4, I4, r4, d4, M4, g4, l4, R4, r5, p5⟩ => thn (ho' _ R4 I4 rx2 r4 (r2.mono (l3.trans l4)) r5 (p5.imp fun _ _ q => q.later (((l1.trans l2).trans l3).trans l4))) fun d' s5 ⟨z2, H5, I5, r5, k2, e2, q5⟩ => ?_))
      subst e2
      cases r5
      exact wpAny_truthy_bool ⟨H5, I5, q5⟩⟩
end
end L3
set_option Elab.async false
set_option linter.all false
set_option maxRecDepth 100000
set_option maxHeartbeats 4000000
set_option autoImplicit false
namespace L3
open PySem PySem.Spec L2
open PyProof.Rows hiding St
theorem reps_ints {K : PySem.W.Frag} {g : G} : ∀ ns : List Int, Reps K g (ns.map V.int) (ns.map D.int)
  | [] => .nil
  | n :: r => .cons (.int n) (reps_ints r)
theorem sp_start {K : PySem.W.Frag} {m : List D → Py D} {H : Hp} {a : Addr} {ns : List Int} (hS : SqL K H a (ns.map V.int)) (p : Post (m [.ro (ns.map D.int)] []) (fun d _ => d = .bl true) (fun _ _ => False)) :
    spD K 1 m [.ref a] H (fun v _ => v = .bl true) (fun _ _ _ => False) := by
  refine ⟨rfl, ⟨[], H, fun _ => none⟩, [], [.ro (ns.map D.int)], ⟨fun _ _ h => h, fun _ _ h => (nomatch (show (none : Option HO) = some _ from h)), rfl, fun n o e => by simp at e, fun n m a y y' e => by simp at e⟩, .cons (.ro hS (reps_ints ns)) .nil, p.mono (fun d M' e v H' g' _ _ r => ?_) fun _ _ z => z.elim⟩
  subst e
  cases r
  rfl
end L3
set_option Elab.async false
set_option linter.all false
set_option maxRecDepth 100000
set_option maxHeartbeats 4000000
set_option autoImplicit false
namespace L3
open PySem PySem.Spec L2
open PyProof.Rows hiding St
open PySem.SeqAt PySem.MeetsSeq
open AutoSeq1 (wpAny_loadPart')
theorem str_eq_declines_dict (b : Str) (u : Tok) (l : Addr) (c : Value) (es : Array DictEntry) (ep : Nat) (dd : Option Addr) (sl : Array (Option Value)) :
    Meets (Builtin.«str.__eq__» ⟨[.str b u, .ref l], []⟩) (fun _ R s => s.heap.get? l = some { cls := c, dict := dd, data := .dict es ep, slots := sl } ∧ R (.ok (.ret .notImplemented)) s) :=
  .of_wp fun prog w A R s h => by obtain ⟨hp, g, d, tk, os⟩ := s; obtain ⟨hl, h⟩ := h; wp_walk using wpAny_loadPart' hl, wpAny_load hl; exact ⟨_, rfl, h⟩
section
variable {A : Around} {s : Shared} {P : Program} {w : World}
theorem eqAt_str_dict {l : Addr} {cls : Value} {es : Array DictEntry} {ep : Nat} {dd : Option Addr} {sl : Array (Option Value)} (b : Str) (u : Tok) (ho : s.heap.get? l = some { cls := cls, dict := dd, data := .dict es ep, slots := sl }) (hT : s.TypeIs (.ref l) "dict") (hu : A.units < cLine) : EqAt A s (.str b u) (.ref l) false := fun prog w E Q h => by
  unfold eqBool
  refine wpAny_holding ?_
  refine wpAny_ite_split (fun hab => absurd (eq_of_beq hab) nofun) (fun _ => ?_)
  refine wpAny_bind ?_
  refine rc_eq_decline_or (k := false) (typeIs_str s b u) hT (by decide) F.sub_dict_str F.slot_str_eq F.slot_dict_eq_refl
    (fun _ hq => call_meets F.slot_str_eq (typeIs_str s b u) F.entry_str_eq (F.args_str_eq_2 _ _) (str_eq_declines_dict b u l cls es ep dd sl) ⟨ho, hq⟩)
    (fun _ hq => wpAny_call_entry F.slot_dict_eq_refl hT F.entry_dict_eq ?_ (F.args_dict_eq_2 _ _))
    (fun _ hq => wpAny_of_eq (rfl : isSame (.str b u) (.ref l) = pure false) hq) (.inr hu) (wpAny_truthy_bool h)
  show wpAny _ _ (Builtin.Dict.dictSlotArgs "__eq__" ⟨[.ref l, .str b u], []⟩ >>= _) _ _ s
  refine wpAny_bind ?_
  unfold Builtin.Dict.dictSlotArgs
  refine wpAny_bind (wpAny_notOrdered_dict hT ?_)
  show wpAny _ _ (pure (Value.ref l, Value.str b u)) _ _ s
  refine wpAny_pure ?_
  refine wpAny_bind (wpAny_isInstance (T := "str") (typeIs_str s b u) PySem.F.sub_str_dict ?_)
  simp only [Bool.not_false, if_true]
  refine wpAny_bind (wpAny_rule ?_)
  exact wpAny_pure ⟨_, rfl, hq⟩
/-- a text beside any datum -/
def strAt (x : V) (u : Value) : Bool := match x, u with
  | .str a, .str b _ => b == a
  | _, _ => false
/-- what may be held against texts -/
def PlainX (K : PySem.W.Frag) (H : Hp) (x : V) : Prop := flatV x = true ∨ ∃ a, x = .ref a ∧ ((∃ vs, SqL K H a vs) ∨ (∃ vs, SqT K H a vs) ∨ ∃ kvs, H a = some (.dK kvs))
theorem strAt_eq {X : Cx} {pins : List (Addr × Obj)} {σ : St} {H : Hp} {x : V} {v : Value} {b : Str} {t : Tok} {A : Around} (I : Inv X pins σ H s) (rx : RelV x v) (hx : PlainX X.K H x) (hu : A.units < cLine) : EqAt A s (.str b t) v (strAt x (.str b t)) := by
  rcases hx with fx | ⟨a, rfl, h⟩
  · cases x with
    | non => cases rx; exact EqAt.str_none b t
    | bl k => cases rx; exact EqAt.str_bool b t k
    | int k => obtain ⟨u, rfl⟩ := rx; exact EqAt.str_int b t k u
    | str k => obtain ⟨u, rfl⟩ := rx; exact EqAt.str_str b t k u
    | _ => exact absurd (show false = true from fx) Bool.false_ne_true
  · cases rx
    rcases h with ⟨vs, h⟩ | ⟨vs, h⟩ | ⟨kvs, h⟩
    · obtain ⟨its, r, pl, hz⟩ := I.list h
      exact EqAt.str_list b t pl.isList hu
    · obtain ⟨its, r, pl, hz⟩ := I.tuple h
      exact EqAt.str_tuple b t pl hu
    · obtain ⟨z, y, vs, r, hd⟩ := I.hok a _ h
      have hT := hd.typeIs (s := s)
      obtain ⟨⟨cls, dd, data, sl⟩, es, ep, ho, hc, hq, _⟩ := id hd
      simp only at hq
      subst hq
      exact eqAt_str_dict b t ho hT hu
end
def strIn (x : V) (zs : List Str) : Bool := zs.any fun z => strAt x (.str z default)
theorem any_strAt {x : V} : ∀ {zs : List Str} {us : List Value}, Vals (zs.map V.str) us → us.any (strAt x) = strIn x zs
  | [], _, .nil => rfl
  | z :: zs, u :: us, .cons r t => by
    obtain ⟨tk, rfl⟩ := r
    unfold strIn
    rw [List.any_cons, List.any_cons, any_strAt t]
    cases x <;> rfl
theorem mem_strAt {X : Cx} {pins : List (Addr × Obj)} {σ : St} {H : Hp} {s : Shared} {x : V} {v : Value} {A : Around} (I : Inv X pins σ H s) (rx : RelV x v) (hx : PlainX X.K H x) (hu : A.units < cLine) : ∀ {zs : List Str} {us : List Value}, Vals (zs.map V.str) us → ∀ u ∈ us, EqAt A s u v (strAt x u)
  | [], _, .nil => fun u hu => by cases hu
  | z :: zs, u :: us, .cons r t => fun u' hu' => by
    rcases List.mem_cons.mp hu' with rfl | hu'
    · obtain ⟨tk, rfl⟩ := r
      exact strAt_eq I rx hx hu
    · exact mem_strAt I rx hx hu t u' hu'
/-- x in texts -/
def rInT (K : PySem.W.Frag) (neg : Bool) : R2 := fun x y H Q => ∃ p zs, y = .ref p ∧ (SqL K H p (zs.map V.str) ∨ SqT K H p (zs.map V.str)) ∧ PlainX K H x ∧ Q (.bl (if neg then !strIn x zs else strIn x zs)) H
section
variable {X : Cx}
theorem op_inT (hu : X.A.units + 1 < cLine) : OpR X (compareOp .In) (rInT X.K false) := by
  intro pins s σ H x y v u Q I rx ry h
  obtain ⟨p, zs, rfl, hq, fx, q⟩ := h
  cases ry
  have hu1 : X.A.in1.units < cLine := hu
  rcases hq with hq | hq
  · obtain ⟨its, r, pl, hz⟩ := I.list hq
    refine SeqAt.in_listAt (strAt x) pl.isList (fun w hw => mem_strAt I rx fx hu1 r w (by simpa using hw)) ⟨.bl _, H, I, rfl, ?_⟩
    rw [show its.toArray.any (strAt x) = its.any (strAt x) by simp, any_strAt r]
    exact q
  · obtain ⟨its, r, pl, hz⟩ := I.tuple hq
    refine SeqAt.in_tupleAt (strAt x) pl (fun w hw => mem_strAt I rx fx hu1 r w (by simpa using hw)) ⟨.bl _, H, I, rfl, ?_⟩
    rw [show its.toArray.any (strAt x) = its.any (strAt x) by simp, any_strAt r]
    exact q
theorem op_notInT (hu : X.A.units + 1 < cLine) : OpR X (compareOp .NotIn) (rInT X.K true) := by
  intro pins s σ H x y v u Q I rx ry h
  obtain ⟨p, zs, rfl, hq, fx, q⟩ := h
  cases ry
  have hu1 : X.A.in1.units < cLine := hu
  rcases hq with hq | hq
  · obtain ⟨its, r, pl, hz⟩ := I.list hq
    refine SeqAt.notIn_listAt (strAt x) pl.isList (fun w hw => mem_strAt I rx fx hu1 r w (by simpa using hw)) ⟨.bl _, H, I, rfl, ?_⟩
    rw [show its.toArray.any (strAt x) = its.any (strAt x) by simp, any_strAt r]
    exact q
  · obtain ⟨its, r, pl, hz⟩ := I.tuple hq
    refine SeqAt.notIn_tupleAt (strAt x) pl (fun w hw => mem_strAt I rx fx hu1 r w (by simpa using hw)) ⟨.bl _, H, I, rfl, ?_⟩
    rw [show its.toArray.any (strAt x) = its.any (strAt x) by simp, any_strAt r]
    exact q
end
/-! ### on data -/
def plnD (M : Store) : D → Bool
  | .non => true
  | .bl _ => true
  | .int _ => true
  | .str _ => true
  | .tup _ => true
  | .lst _ => true
  | .ro _ => true
  | .dk _ => true
  | .loc n => match M[n]? with
    | some (some (.lst _)) => true
    | some (some (.dk _)) => true
    | _ => false
  | _ => false
def isS (x : D) (z : Str) : Bool := match x with
  | .str a => z == a
  | _ => false
def strsOf : List D → Option (List Str)
  | [] => some []
  | .str z :: r => (strsOf r).map fun zs => z :: zs
  | _ :: _ => none
theorem strsOf_rep {K : PySem.W.Frag} {g : G} : ∀ {vs : List V} {ds : List D} {zs : List Str}, Reps K g vs ds → strsOf ds = some zs → vs = zs.map V.str
  | _, _, _, .nil, e => by cases e; rfl
  | _, _, zs, .cons (d := d) (ds := r) h t, e => by
    cases d with
    | str z =>
      obtain ⟨zs', e2, e3⟩ := Option.map_eq_some_iff.mp (show (strsOf r).map _ = some zs from e)
      subst e3
      rw [List.map_cons, ← strsOf_rep t e2, rep_str h]
    | _ => cases e
theorem plain_rep {K : PySem.W.Frag} {g : G} {M : Store} {H : Hp} {v : V} {d : D} (R : RelH K g M H) (r : Rep K g v d) (h : plnD M d = true) : PlainX K H v := by
  cases r with
  | non => exact .inl rfl
  | bl b => exact .inl rfl
  | int b => exact .inl rfl
  | str b => exact .inl rfl
  | tup s t => exact .inr ⟨_, rfl, .inr (.inl ⟨_, .inl (.of (R.frz _ _ s))⟩)⟩
  | lst s t => exact .inr ⟨_, rfl, .inl ⟨_, .inl (.of (R.frz _ _ s))⟩⟩
  | ro s t => exact .inr ⟨_, rfl, .inl ⟨_, sqL_mono (R.frz) s⟩⟩
  | dk s t z => exact .inr ⟨_, rfl, .inr (.inr ⟨_, R.frz _ _ s⟩)⟩
  | @loc n a e =>
    have h' : (match M[n]? with | some (some (.lst _)) => true | some (some (.dk _)) => true | _ => false) = true := h
    split at h'
    · rename_i xs e2
      obtain ⟨b, e3, _, vs, e4, _⟩ := R.liv n _ e2
      rw [e] at e3; cases e3
      exact .inr ⟨_, rfl, .inl ⟨vs, .inl (.of e4)⟩⟩
    · rename_i xs e2
      obtain ⟨b, e3, _, vs, e4, _⟩ := R.liv n _ e2
      rw [e] at e3; cases e3
      exact .inr ⟨_, rfl, .inr (.inr ⟨vs, e4⟩)⟩
    · cases h'
  | _ => cases h
theorem strIn_rep {K : PySem.W.Frag} {g : G} {v : V} {d : D} (r : Rep K g v d) (zs : List Str) : strIn v zs = zs.any (isS d) := by
  unfold strIn
  congr 1
  funext z
  cases r <;> rfl
/-- x in (texts) -/
def inTD (neg : Bool) (x y : D) : Py D := Py.bnd (items y) fun ds => fun M => match strsOf ds with
  | some zs => if plnD M x = true then .ok (.bl (if neg then !zs.any (isS x) else zs.any (isS x))) M else .bad
  | none => .bad
theorem inTD_post {neg : Bool} {x : D} {ds : List D} {M : Store} {q : D → Store → Prop} {E : Exn → Store → Prop} (p : Post ((match strsOf ds with
  | some zs => if plnD M x = true then .ok (.bl (if neg then !zs.any (isS x) else zs.any (isS x))) M else .bad
  | none => .bad : Out D)) q E) : ∃ zs, strsOf ds = some zs ∧ plnD M x = true ∧ q (.bl (if neg then !zs.any (isS x) else zs.any (isS x))) M := by
  cases h : strsOf ds with
  | none => rw [h] at p; exact p.elim
  | some zs =>
    rw [h] at p
    dsimp only at p
    by_cases h2 : plnD M x = true
    · rw [if_pos h2] at p; exact ⟨zs, rfl, h2, p⟩
    · rw [if_neg h2] at p; exact p.elim
section
variable {C : DX}
theorem do_inT (hu : C.X.A.units + 1 < cLine) : DOp C (compareOp .In) (inTD false) := DOp.of (op_inT hu) fun {g ρ M σ H x y dx dy} Q R rx ry p => by
  obtain ⟨a, vs, ds, rfl, hs, t, p1⟩ := items_post R.h ry (post_bnd.mp p)
  obtain ⟨zs, e, hp, q⟩ := inTD_post p1
  have ez := strsOf_rep t e
  subst ez
  refine ⟨a, zs, rfl, hs, plain_rep R.h rx hp, ?_⟩
  rw [strIn_rep rx]
  exact QV.here q R (.bl _)
theorem do_notInT (hu : C.X.A.units + 1 < cLine) : DOp C (compareOp .NotIn) (inTD true) := DOp.of (op_notInT hu) fun {g ρ M σ H x y dx dy} Q R rx ry p => by
  obtain ⟨a, vs, ds, rfl, hs, t, p1⟩ := items_post R.h ry (post_bnd.mp p)
  obtain ⟨zs, e, hp, q⟩ := inTD_post p1
  have ez := strsOf_rep t e
  subst ez
  refine ⟨a, zs, rfl, hs, plain_rep R.h rx hp, ?_⟩
  rw [strIn_rep rx]
  exact QV.here q R (.bl _)
end
end L3
set_option Elab.async false
set_option linter.all false
set_option maxRecDepth 100000
set_option maxHeartbeats 4000000
set_option autoImplicit false
/-! the plain law's own tools: what a reading asks, step by step -/
namespace L3
open PySem PySem.Spec L2
open PyProof.Rows hiding St
theorem Post.use {α : Type} {o : Out α} {Q' Q : α → Store → Prop} {E : Exn → Store → Prop} (h : Post o Q' (fun _ _ => False)) (k : ∀ a M, Q' a M → Q a M) : Post o Q E := h.mono k fun _ _ z => z.elim
theorem post_congr {α : Type} {o : Out α} {Q Q' : α → Store → Prop} {E : Exn → Store → Prop} (h : ∀ a M, Q a M ↔ Q' a M) : Post o Q E ↔ Post o Q' E := by
  cases o with
  | ok a M => exact h a M
  | exc e M => exact Iff.rfl
  | bad => exact Iff.rfl
section
variable {Q : D → Store → Prop} {QB : Bool → Store → Prop} {QL : List D → Store → Prop} {QF : Fl → Store → Prop} {QR : DEnv → Store → Prop} {QW : Wk → Store → Prop} {QO : Option Int → Store → Prop} {E : Exn → Store → Prop} {M : Store} {ρ : DEnv}
variable {fa fb fc : DEnv → Py D} {ta tb : DEnv → Py Bool} {ff : DEnv → Py (List D)} {sa sb : DEnv → Py Fl} {d e : D} {i j : Int} {xs ys : List D}
theorem post_if {α : Type} {c : Prop} [Decidable c] {a b : Py α} {R : α → Store → Prop} : Post ((if c then a else b) M) R E ↔ if c then Post (a M) R E else Post (b M) R E := by split <;> exact Iff.rfl
@[simp] theorem p_eC : Post (eC d ρ M) Q E ↔ Q d M := Iff.rfl
@[simp] theorem p_eVar {n : Nat} : Post (eVar n ρ M) Q E ↔ Post (getV ρ[n]? M) Q E := Iff.rfl
@[simp] theorem p_getV : Post (getV (some (some d)) M) Q E ↔ Q d M := Iff.rfl
@[simp] theorem p_eOp {op : D → D → Py D} : Post (eOp op fa fb ρ M) Q E ↔ Post (fa ρ M) (fun x M1 => Post (fb ρ M1) (fun y M2 => Post (op x y M2) Q E) E) E := by
  unfold eOp; rw [post_bnd]; simp only [post_bnd]
@[simp] theorem p_eUn {op : D → Py D} : Post (eUn op fa ρ M) Q E ↔ Post (fa ρ M) (fun x M1 => Post (op x M1) Q E) E := by
  unfold eUn; rw [post_bnd]
@[simp] theorem p_truB {b : Bool} : Post (truB (.bl b) M) QB E ↔ QB b M := Iff.rfl
@[simp] theorem p_eTest : Post (eTest fa ρ M) QB E ↔ Post (fa ρ M) (fun x M1 => Post (truB x M1) QB E) E := by
  unfold eTest; rw [post_bnd]
@[simp] theorem p_tAnd : Post (tAndD ta tb ρ M) QB E ↔ Post (ta ρ M) (fun c M1 => if c = true then Post (tb ρ M1) QB E else QB false M1) E := by
  unfold tAndD; rw [post_bnd]; simp only [post_if]; exact Iff.rfl
@[simp] theorem p_tOr : Post (tOrD ta tb ρ M) QB E ↔ Post (ta ρ M) (fun c M1 => if c = true then QB true M1 else Post (tb ρ M1) QB E) E := by
  unfold tOrD; rw [post_bnd]; simp only [post_if]; exact Iff.rfl
@[simp] theorem p_tNot : Post (tNotD ta ρ M) QB E ↔ Post (ta ρ M) (fun c M1 => QB (!c) M1) E := by
  unfold tNotD; rw [post_bnd]; exact Iff.rfl
@[simp] theorem p_tYes : Post (tYesD ρ M) QB E ↔ QB true M := Iff.rfl
@[simp] theorem p_eAnd : Post (eAnd fa fb ρ M) Q E ↔ Post (fa ρ M) (fun x M1 => Post (truB x M1) (fun c M2 => if c = true then Post (fb ρ M2) Q E else Q (.bl false) M2) E) E := by
  unfold eAnd; rw [post_bnd]; simp only [post_bnd, post_if]; exact Iff.rfl
@[simp] theorem p_eOr : Post (eOr fa fb ρ M) Q E ↔ Post (fa ρ M) (fun x M1 => Post (truB x M1) (fun c M2 => if c = true then Q (.bl true) M2 else Post (fb ρ M2) Q E) E) E := by
  unfold eOr; rw [post_bnd]; simp only [post_bnd, post_if]; exact Iff.rfl
@[simp] theorem p_eNot : Post (eNot fa ρ M) Q E ↔ Post (fa ρ M) (fun x M1 => Post (truB x M1) (fun c M2 => Q (.bl (!c)) M2) E) E := by
  unfold eNot; rw [post_bnd]; simp only [post_bnd]; exact Iff.rfl
@[simp] theorem p_eIf : Post (eIf ta fa fb ρ M) Q E ↔ Post (ta ρ M) (fun c M1 => if c = true then Post (fa ρ M1) Q E else Post (fb ρ M1) Q E) E := by
  unfold eIf; rw [post_bnd]; simp only [post_if]
@[simp] theorem p_eChain {op op' : D → D → Py D} : Post (eChain op op' fa fb fc ρ M) Q E ↔ Post (fa ρ M) (fun x M1 => Post (fb ρ M1) (fun y M2 => Post (op x y M2) (fun z M3 => Post (truB z M3) (fun k M4 => if k = true then Post (fc ρ M4) (fun w M5 => Post (op' y w M5) Q E) E else Q (.bl false) M4) E) E) E) E := by
  unfold eChain; rw [post_bnd]; simp only [post_bnd, post_if]; exact Iff.rfl
@[simp] theorem p_aNil : Post (aNil ρ M) QL E ↔ QL [] M := Iff.rfl
@[simp] theorem p_aCons : Post (aCons fa ff ρ M) QL E ↔ Post (fa ρ M) (fun x M1 => Post (ff ρ M1) (fun xs M2 => QL (x :: xs) M2) E) E := by
  unfold aCons; rw [post_bnd]; simp only [post_bnd]; exact Iff.rfl
@[simp] theorem p_eTup : Post (eTup ff ρ M) Q E ↔ Post (ff ρ M) (fun ds M1 => ds.length ≤ sizeLine ∧ Q (.tup ds) M1) E := by
  unfold eTup; rw [post_bnd]; simp only [post_chk]; exact Iff.rfl
@[simp] theorem p_eLst : Post (eLst ff ρ M) Q E ↔ Post (ff ρ M) (fun ds M1 => ds.length ≤ sizeLine ∧ Q (.lst ds) M1) E := by
  unfold eLst; rw [post_bnd]; simp only [post_chk]; exact Iff.rfl
theorem p_alloc {o : MO} : Post (alloc o M) Q E ↔ Q (.loc M.length) (M ++ [some o]) := Iff.rfl
@[simp] theorem p_eNew : Post (eNew ff ρ M) Q E ↔ Post (ff ρ M) (fun ds M1 => ds.length ≤ sizeLine ∧ Q (.loc M1.length) (M1 ++ [some (.lst ds)])) E := by
  unfold eNew; rw [post_bnd]; simp only [post_chk, p_alloc]
@[simp] theorem p_eCall {op : List D → Py D} : Post (eCall op ff ρ M) Q E ↔ Post (ff ρ M) (fun ds M1 => Post (op ds M1) Q E) E := by
  unfold eCall; rw [post_bnd]
@[simp] theorem p_nargs {n : Nat} {m : List D → Py D} : Post (nargs n m xs M) Q E ↔ xs.length = n ∧ Post (m xs M) Q E := post_chk
@[simp] theorem p_one {f : D → Py D} : Post (one f [d] M) Q E ↔ Post (f d M) Q E := Iff.rfl
@[simp] theorem p_two {f : D → D → Py D} : Post (twoD f [d, e] M) Q E ↔ Post (f d e M) Q E := Iff.rfl
/-! statements -/
@[simp] theorem p_sSet {n : Nat} : Post (sSet n fa ρ M) QF E ↔ Post (fa ρ M) (fun d M1 => QF (.nx (ρ.set n (some d))) M1) E := by
  unfold sSet; rw [post_bnd]; exact Iff.rfl
@[simp] theorem p_sAsg {ft : D → DEnv → Py DEnv} : Post (sAsg fa ft ρ M) QF E ↔ Post (fa ρ M) (fun d M1 => Post (ft d ρ M1) (fun ρ' M2 => QF (.nx ρ') M2) E) E := by
  unfold sAsg; rw [post_bnd]; simp only [post_bnd]; exact Iff.rfl
@[simp] theorem p_sRet : Post (sRet fa ρ M) QF E ↔ Post (fa ρ M) (fun d M1 => QF (.rt d) M1) E := by
  unfold sRet; rw [post_bnd]; exact Iff.rfl
@[simp] theorem p_sRetN : Post (sRetN ρ M) QF E ↔ QF (.rt .non) M := Iff.rfl
@[simp] theorem p_sDrop : Post (sDrop fa ρ M) QF E ↔ Post (fa ρ M) (fun _ M1 => QF (.nx ρ) M1) E := by
  unfold sDrop; rw [post_bnd]; exact Iff.rfl
@[simp] theorem p_sIf : Post (sIf ta sa sb ρ M) QF E ↔ Post (ta ρ M) (fun c M1 => if c = true then Post (sa ρ M1) QF E else Post (sb ρ M1) QF E) E := by
  unfold sIf; rw [post_bnd]; simp only [post_if]
@[simp] theorem p_sNext : Post (sNext ρ M) QF E ↔ QF (.nx ρ) M := Iff.rfl
/-- what follows -/
def thenF (sb : DEnv → Py Fl) (QF : Fl → Store → Prop) (E : Exn → Store → Prop) : Fl → Store → Prop
  | .nx ρ, M => Post (sb ρ M) QF E
  | r, M => QF r M
@[simp] theorem thenF_nx : thenF sb QF E (.nx ρ) M ↔ Post (sb ρ M) QF E := Iff.rfl
@[simp] theorem thenF_rt : thenF sb QF E (.rt d) M ↔ QF (.rt d) M := Iff.rfl
@[simp] theorem thenF_bk : thenF sb QF E (.bk ρ) M ↔ QF (.bk ρ) M := Iff.rfl
@[simp] theorem thenF_ct : thenF sb QF E (.ct ρ) M ↔ QF (.ct ρ) M := Iff.rfl
@[simp] theorem p_sSeq : Post (sSeq sa sb ρ M) QF E ↔ Post (sa ρ M) (thenF sb QF E) E := by
  exact post_bnd.trans (post_congr fun a M' => by cases a <;> exact Iff.rfl)
@[simp] theorem p_sBk : Post (sBk ρ M) QF E ↔ QF (.bk ρ) M := Iff.rfl
@[simp] theorem p_sCt : Post (sCt ρ M) QF E ↔ QF (.ct ρ) M := Iff.rfl
@[simp] theorem p_parK {a b : Nat} : Post (parK a b ρ [d, e] M) QF E ↔ QF (.nx ((ρ.set a (some d)).set b (some e))) M := Iff.rfl
@[simp] theorem p_sPar {a b : Nat} : Post (sPar a b ff ρ M) QF E ↔ Post (ff ρ M) (fun ds M1 => Post (parK a b ρ ds M1) QF E) E := by
  unfold sPar; rw [post_bnd]
@[simp] theorem p_parK3 {a b c : Nat} {f : D} : Post (parK3 a b c ρ [d, e, f] M) QF E ↔ QF (.nx (((ρ.set a (some d)).set b (some e)).set c (some f))) M := Iff.rfl
@[simp] theorem p_sPar3 {a b c : Nat} : Post (sPar3 a b c ff ρ M) QF E ↔ Post (ff ρ M) (fun ds M1 => Post (parK3 a b c ρ ds M1) QF E) E := by
  unfold sPar3; rw [post_bnd]
@[simp] theorem p_sAug {n : Nat} {op : D → D → Py D} : Post (sAug n op fa ρ M) QF E ↔ Post (getV ρ[n]? M) (fun x M1 => Post (fa ρ M1) (fun y M2 => Post (op x y M2) (fun z M3 => QF (.nx (ρ.set n (some z))) M3) E) E) E := by
  unfold sAug; simp only [post_bnd]; exact Iff.rfl
@[simp] theorem p_sSub : Post (sSub fa fb fc ρ M) QF E ↔ Post (fc ρ M) (fun v M1 => Post (fa ρ M1) (fun o M2 => Post (fb ρ M2) (fun k M3 => Post (setD o k v M3) (fun _ M4 => QF (.nx ρ) M4) E) E) E) E := by
  unfold sSub; simp only [post_bnd]; exact Iff.rfl
/-- the end of a def -/
def endF (Q : D → Store → Prop) : Fl → Store → Prop
  | .nx _, M => Q .non M
  | .rt d, M => Q d M
  | _, _ => False
@[simp] theorem endF_nx : endF Q (.nx ρ) M ↔ Q .non M := Iff.rfl
@[simp] theorem endF_rt : endF Q (.rt d) M ↔ Q d M := Iff.rfl
@[simp] theorem endF_bk : endF Q (.bk ρ) M ↔ False := Iff.rfl
@[simp] theorem endF_ct : endF Q (.ct ρ) M ↔ False := Iff.rfl
theorem p_runD {n : Nat} : Post (runD n sa xs M) Q E ↔ Post (sa (xs.map some ++ List.replicate (n - xs.length) none) M) (endF Q) E := by
  exact post_bnd.trans (post_congr fun a M' => by cases a <;> exact Iff.rfl)
/-! whole numbers -/
@[simp] theorem p_addI : Post (addI (.int i) (.int j) M) Q E ↔ Q (.int (i + j)) M := Iff.rfl
@[simp] theorem p_subI : Post (subI (.int i) (.int j) M) Q E ↔ Q (.int (i - j)) M := Iff.rfl
@[simp] theorem p_mulI : Post (mulI (.int i) (.int j) M) Q E ↔ ((-(2 ^ 64) < i ∧ i < 2 ^ 64) ∨ (-(2 ^ 64) < j ∧ j < 2 ^ 64)) ∧ Q (.int (i * j)) M := post_chk
@[simp] theorem p_fdivI : Post (fdivI (.int i) (.int j) M) Q E ↔ (0 < j ∧ j < 1073741824) ∧ Q (.int (i / j)) M := post_chk
@[simp] theorem p_modI : Post (modI (.int i) (.int j) M) Q E ↔ 0 < j ∧ Q (.int (i % j)) M := post_chk
@[simp] theorem p_powI : Post (powI (.int i) (.int j) M) Q E ↔ (0 ≤ j ∧ j ≤ 1000000 ∧ i.natAbs < 2 ^ 64) ∧ Q (.int (i ^ j.toNat)) M := post_chk
@[simp] theorem p_ltI : Post (ltI (.int i) (.int j) M) Q E ↔ Q (.bl (decide (i < j))) M := Iff.rfl
@[simp] theorem p_leI : Post (leI (.int i) (.int j) M) Q E ↔ Q (.bl (decide (i ≤ j))) M := Iff.rfl
@[simp] theorem p_gtI : Post (gtI (.int i) (.int j) M) Q E ↔ Q (.bl (decide (j < i))) M := Iff.rfl
@[simp] theorem p_geI : Post (geI (.int i) (.int j) M) Q E ↔ Q (.bl (decide (j ≤ i))) M := Iff.rfl
@[simp] theorem p_negI : Post (negI (.int i) M) Q E ↔ Q (.int (-i)) M := Iff.rfl
@[simp] theorem p_maxI : Post (maxI (.int i) (.int j) M) Q E ↔ Q (.int (if j > i then j else i)) M := Iff.rfl
@[simp] theorem p_minI : Post (minI (.int i) (.int j) M) Q E ↔ Q (.int (if j < i then j else i)) M := Iff.rfl
@[simp] theorem p_absD : Post (absD (.int i) M) Q E ↔ Q (.int (if i < 0 then -i else i)) M := Iff.rfl
@[simp] theorem p_intD : Post (intD (.int i) M) Q E ↔ Q (.int i) M := Iff.rfl
@[simp] theorem p_addA_int : Post (addA (.int i) (.int j) M) Q E ↔ Q (.int (i + j)) M := Iff.rfl
@[simp] theorem p_mulA_int : Post (mulA (.int i) (.int j) M) Q E ↔ ((-(2 ^ 64) < i ∧ i < 2 ^ 64) ∨ (-(2 ^ 64) < j ∧ j < 2 ^ 64)) ∧ Q (.int (i * j)) M := post_chk
@[simp] theorem p_addA_tup : Post (addA (.tup xs) (.tup ys) M) Q E ↔ xs.length + ys.length ≤ sizeLine ∧ Q (.tup (xs ++ ys)) M := post_chk
@[simp] theorem p_addA_lst : Post (addA (.lst xs) (.lst ys) M) Q E ↔ xs.length + ys.length ≤ sizeLine ∧ Q (.lst (xs ++ ys)) M := post_chk
/-! items -/
@[simp] theorem p_items_tup : Post (items (.tup xs) M) QL E ↔ QL xs M := Iff.rfl
@[simp] theorem p_items_lst : Post (items (.lst xs) M) QL E ↔ QL xs M := Iff.rfl
@[simp] theorem p_items_ro : Post (items (.ro xs) M) QL E ↔ QL xs M := Iff.rfl
theorem p_items_loc {n : Nat} (h : M[n]? = some (some (.lst xs))) : Post (items (.loc n) M) QL E ↔ QL xs M := by
  unfold items
  simp only [h]
  exact Iff.rfl
@[simp] theorem p_len_tup : Post (lenD (.tup xs) M) Q E ↔ Q (.int xs.length) M := Iff.rfl
@[simp] theorem p_len_lst : Post (lenD (.lst xs) M) Q E ↔ Q (.int xs.length) M := Iff.rfl
@[simp] theorem p_len_ro : Post (lenD (.ro xs) M) Q E ↔ Q (.int xs.length) M := Iff.rfl
@[simp] theorem p_len_str {z : Str} : Post (lenD (.str z) M) Q E ↔ z.length ≤ sizeLine ∧ Q (.int z.length) M := post_chk
theorem p_len_loc {n : Nat} (h : M[n]? = some (some (.lst xs))) : Post (lenD (.loc n) M) Q E ↔ Q (.int xs.length) M := by
  unfold lenD
  simp only [post_bnd, p_items_loc h]
  exact Iff.rfl
/-- what stands at a place -/
def AtP (xs : List D) (i : Int) (P : D → Prop) : Prop := match atI xs i with
  | some d => P d
  | none => False
theorem atP_iff {P : D → Prop} : AtP xs i P ↔ ∃ d, atI xs i = some d ∧ P d := by
  unfold AtP
  cases atI xs i <;> simp
@[simp] theorem p_ix_tup : Post (ixD (.tup xs) (.int i) M) Q E ↔ AtP xs i fun d => Q d M := by
  unfold ixD AtP
  rw [post_bnd]
  simp only [p_items_tup]
  cases atI xs i <;> exact Iff.rfl
@[simp] theorem p_ix_lst : Post (ixD (.lst xs) (.int i) M) Q E ↔ AtP xs i fun d => Q d M := by
  unfold ixD AtP
  rw [post_bnd]
  simp only [p_items_lst]
  cases atI xs i <;> exact Iff.rfl
@[simp] theorem p_ix_ro : Post (ixD (.ro xs) (.int i) M) Q E ↔ AtP xs i fun d => Q d M := by
  unfold ixD AtP
  rw [post_bnd]
  simp only [p_items_ro]
  cases atI xs i <;> exact Iff.rfl
theorem p_ix_loc {n : Nat} (h : M[n]? = some (some (.lst xs))) : Post (ixD (.loc n) (.int i) M) Q E ↔ AtP xs i fun d => Q d M := by
  unfold ixD AtP
  rw [post_bnd]
  simp only [p_items_loc h]
  cases atI xs i <;> exact Iff.rfl
theorem ixN_nat {n k : Nat} (h : k < n) : ixN n (k : Int) = some k := by
  unfold ixN
  simp [h]
theorem atI_nat {k : Nat} (h : k < xs.length) : atI xs (k : Int) = xs[k]? := by
  unfold atI
  rw [ixN_nat h]
  rfl
theorem atP_nat {P : D → Prop} {k : Nat} (h : k < xs.length) : AtP xs (k : Int) P ↔ P xs[k] := by
  unfold AtP
  rw [atI_nat h, List.getElem?_eq_getElem h]
theorem atP_int {P : D → Prop} (h0 : 0 ≤ i) (h1 : i < xs.length) : AtP xs i P ↔ ∃ h : i.toNat < xs.length, P xs[i.toNat] := by
  obtain ⟨k, rfl⟩ := Int.eq_ofNat_of_zero_le h0
  have hk : k < xs.length := by omega
  rw [show ((k : Nat) : Int) = (k : Int) from rfl, atP_nat hk]
  simp [hk]
theorem atP_all {P : D → Prop} (h0 : 0 ≤ i) (h1 : i < xs.length) (h : ∀ d ∈ xs, P d) : AtP xs i P := by
  rw [atP_int h0 h1]
  have hk : i.toNat < xs.length := by omega
  exact ⟨hk, h _ (List.getElem_mem hk)⟩
end
end L3
set_option Elab.async false
set_option linter.all false
set_option maxRecDepth 100000
set_option maxHeartbeats 4000000
set_option autoImplicit false
/-! the plain law's own tools: things that change, walks, comprehensions -/
namespace L3
open PySem PySem.Spec L2
open PyProof.Rows hiding St
/-- the list at n -/
def LocL (M : Store) (n : Nat) (P : List D → Prop) : Prop := match M[n]? with
  | some (some (.lst xs)) => P xs
  | _ => False
section
variable {M : Store} {n m : Nat} {xs ys : List D} {P : List D → Prop}
theorem locL_of (h : M[n]? = some (some (.lst xs))) : LocL M n P ↔ P xs := by
  unfold LocL; rw [h]
@[simp] theorem locL_set : LocL (M.set n (some (.lst xs))) n P ↔ n < M.length ∧ P xs := by
  unfold LocL
  by_cases h : n < M.length
  · rw [List.getElem?_set_self h]; exact ⟨fun z => ⟨h, z⟩, fun z => z.2⟩
  · rw [List.getElem?_eq_none (by rw [List.length_set]; omega)]; exact ⟨fun z => z.elim, fun z => (h z.1).elim⟩
theorem locL_congr {P' : List D → Prop} (h : ∀ xs, P xs ↔ P' xs) : LocL M n P ↔ LocL M n P' := by
  unfold LocL; split
  · exact h _
  · exact Iff.rfl
theorem locL_set_ne {o : Option MO} (h : m ≠ n) : LocL (M.set m o) n P ↔ LocL M n P := by
  unfold LocL
  rw [List.getElem?_set_ne h]
theorem locL_iff : LocL M n P ↔ ∃ xs, M[n]? = some (some (.lst xs)) ∧ P xs := by
  unfold LocL
  split
  · rename_i xs h; exact ⟨fun z => ⟨xs, h, z⟩, fun ⟨ys, e, z⟩ => by rw [h] at e; cases e; exact z⟩
  · rename_i h
    constructor
    · intro z; exact z.elim
    · rintro ⟨xs, e, _⟩; exact absurd e (h xs)
end
section
variable {Q : D → Store → Prop} {QB : Bool → Store → Prop} {QL : List D → Store → Prop} {QF : Fl → Store → Prop} {QR : DEnv → Store → Prop} {QW : Wk → Store → Prop} {QO : Option Int → Store → Prop} {QU : Unit → Store → Prop} {E : Exn → Store → Prop} {M : Store} {ρ : DEnv}
variable {fa fb fc : DEnv → Py D} {ta tb : DEnv → Py Bool} {ff : DEnv → Py (List D)} {sa sb : DEnv → Py Fl} {d e v : D} {i j : Int} {xs ys : List D} {n : Nat}
theorem post_locM {α : Type} {R : α → Store → Prop} {f : List D → Out α} : Post (match M[n]? with | some (some (.lst xs)) => f xs | _ => Out.bad) R E ↔ LocL M n fun xs => Post (f xs) R E := by
  unfold LocL
  rcases M[n]? with _ | _ | (_ | _ | _) <;> exact Iff.rfl
@[simp] theorem p_items_l : Post (items (.loc n) M) QL E ↔ LocL M n fun xs => QL xs M := post_locM (f := fun xs => .ok xs M)
@[simp] theorem p_len_l : Post (lenD (.loc n) M) Q E ↔ LocL M n fun xs => Q (.int xs.length) M := by
  unfold lenD; simp only [post_bnd, p_items_l]; exact Iff.rfl
@[simp] theorem p_ix_l : Post (ixD (.loc n) (.int i) M) Q E ↔ LocL M n fun xs => AtP xs i fun d => Q d M := by
  exact post_bnd.trans (p_items_l.trans (locL_congr fun xs => p_ix_lst))
theorem p_locL {α : Type} {k : Nat → List D → Py α} {R : α → Store → Prop} : Post (locL (.loc n) k M) R E ↔ LocL M n fun xs => Post (k n xs M) R E := by
  exact post_locM (f := fun xs => k n xs M)
@[simp] theorem p_setD_l : Post (setD (.loc n) (.int i) v M) QU E ↔ LocL M n fun xs => ∃ k, ixN xs.length i = some k ∧ QU () (M.set n (some (.lst (xs.set k v)))) := by
  unfold setD
  rw [p_locL]
  have e : ∀ xs : List D, Post (setK n xs v (.int i) M) QU E ↔ ∃ k, ixN xs.length i = some k ∧ QU () (M.set n (some (.lst (xs.set k v)))) := fun xs => by
    cases h : ixN xs.length i with
    | none =>
      have e : setK n xs v (.int i) = Py.bad := by unfold setK; dsimp only; rw [h]
      rw [e]
      exact ⟨fun z => z.elim, fun ⟨k, e, _⟩ => nomatch e⟩
    | some k =>
      have e : setK n xs v (.int i) = fun M => .ok () (M.set n (some (.lst (xs.set k v)))) := by unfold setK; dsimp only; rw [h]
      rw [e]
      exact ⟨fun z => ⟨k, rfl, z⟩, fun ⟨k', e, z⟩ => by cases e; exact z⟩
  simp only [e]
@[simp] theorem p_append_l : Post (appendD (.loc n) [v] M) Q E ↔ LocL M n fun xs => xs.length < sizeLine ∧ Q .non (M.set n (some (.lst (xs ++ [v])))) := by
  unfold appendD
  rw [p_locL]
  have e : ∀ xs : List D, Post (Py.chk (xs.length < sizeLine) (putL n (xs ++ [v]) .non) M) Q E ↔ xs.length < sizeLine ∧ Q .non (M.set n (some (.lst (xs ++ [v])))) := fun xs => post_chk
  simp only [e]
@[simp] theorem p_tyChk_l : Post (tyChk "list" (.loc n) M) QU E ↔ LocL M n fun _ => QU () M := by
  unfold tyChk LocL
  dsimp only
  rcases M[n]? with _ | _ | (_ | _ | _) <;> first | exact Iff.rfl | (rw [if_pos rfl]; exact Iff.rfl) | (rw [if_neg (by decide)]; exact Iff.rfl)
@[simp] theorem p_eMt {T : String} {op : D → List D → Py D} : Post (eMt T op fa ff ρ M) Q E ↔ Post (fa ρ M) (fun o M1 => Post (tyChk T o M1) (fun _ M2 => Post (ff ρ M2) (fun ds M3 => Post (op o ds M3) Q E) E) E) E := by
  unfold eMt; simp only [post_bnd]
@[simp] theorem p_eMt0 {T : String} {op : D → List D → Py D} : Post (eMt0 T op fa ρ M) Q E ↔ Post (fa ρ M) (fun o M1 => Post (tyChk T o M1) (fun _ M2 => Post (op o [] M2) Q E) E) E := by
  unfold eMt0; simp only [post_bnd]
/-! same -/
@[simp] theorem p_eq_str {neg : Bool} {a b : Str} : Post (eqS neg (.str a) (.str b) M) Q E ↔ Q (.bl (if neg then !decide (a = b) else decide (a = b))) M := Iff.rfl
theorem p_eqP {neg : Bool} {x y : D} {p q : PyData} (hx : pyM M x = some p) (hy : pyM M y = some q) (sp : SeqAt.shaped p = true) (sq : SeqAt.shaped q = true) : Post (eqP neg x y M) Q E ↔ Q (.bl (if neg then !PyData.eqv p q else PyData.eqv p q)) M := by
  unfold eqP; rw [hx, hy]; dsimp only; rw [sp, sq]; exact Iff.rfl
@[simp] theorem p_eq_int {neg : Bool} : Post (eqS neg (.int i) (.int j) M) Q E ↔ Q (.bl (if neg then !decide (i = j) else decide (i = j))) M := by
  have e : PyData.eqv (.int i) (.int j) = decide (i = j) := by
    simp only [PyData.eqv]; rfl
  rw [← e]
  exact p_eqP (x := .int i) (y := .int j) rfl rfl rfl rfl
@[simp] theorem p_eq_bl {neg a b : Bool} : Post (eqS neg (.bl a) (.bl b) M) Q E ↔ Q (.bl (if neg then !decide (a = b) else decide (a = b))) M := by
  have e : PyData.eqv (.bool a) (.bool b) = decide (a = b) := by
    simp only [PyData.eqv]; cases a <;> cases b <;> rfl
  rw [← e]
  exact p_eqP (x := .bl a) (y := .bl b) rfl rfl rfl rfl
/-! kinds -/
def tyD : D → Option String
  | .non => some "NoneType"
  | .bl _ => some "bool"
  | .int _ => some "int"
  | .str _ => some "str"
  | .tup _ => some "tuple"
  | .lst _ => some "list"
  | .ro _ => some "list"
  | .dk _ => some "dict"
  | _ => none
theorem tyN_of {t : String} (h : tyD d = some t) : tyN M d = some t := by cases d <;> first | exact h | cases h
theorem p_isi {T t : String} (hT : allTs.contains T = true) (h : tyD d = some t) : Post (isiTs allTs d (.ty T) M) Q E ↔ Q (.bl (isT T t)) M := by
  have e : isiTs allTs d (.ty T) = isiD d (.ty T) := by
    show (if allTs.contains T = true then isiD d (.ty T) else Py.bad) = _
    rw [if_pos hT]
  have e2 : isiD d (.ty T) M = .ok (.bl (isT T t)) M := by
    unfold isiD
    rw [tyN_of h]
  rw [e, e2]
  exact Iff.rfl
theorem p_isiL {T : String} (hT : allTs.contains T = true) (h : M[n]? = some (some (.lst xs))) : Post (isiTs allTs (.loc n) (.ty T) M) Q E ↔ Q (.bl (isT T "list")) M := by
  have e : isiTs allTs (.loc n) (.ty T) = isiD (.loc n) (.ty T) := by
    show (if allTs.contains T = true then isiD (.loc n) (.ty T) else Py.bad) = _
    rw [if_pos hT]
  have e1 : tyN M (.loc n) = some "list" := by unfold tyN; simp only [h]
  have e2 : isiD (.loc n) (.ty T) M = .ok (.bl (isT T "list")) M := by
    unfold isiD
    rw [e1]
  rw [e, e2]
  exact Iff.rfl
/-! slices -/
@[simp] theorem p_oNone : Post (oNone ρ M) QO E ↔ QO none M := Iff.rfl
@[simp] theorem p_toI : Post (toI (.int i) M) QO E ↔ QO (some i) M := Iff.rfl
@[simp] theorem p_oSome : Post (oSome fa ρ M) QO E ↔ Post (fa ρ M) (fun d M1 => Post (toI d M1) QO E) E := by
  unfold oSome; rw [post_bnd]
@[simp] theorem p_eSl {fl fh : DEnv → Py (Option Int)} : Post (eSl fa fl fh ρ M) Q E ↔ Post (fa ρ M) (fun x M1 => Post (fl ρ M1) (fun lo M2 => Post (fh ρ M2) (fun hi M3 => Post (slD x lo hi M3) Q E) E) E) E := by
  unfold eSl; simp only [post_bnd]
@[simp] theorem p_sl_tup {lo hi : Option Int} : Post (slD (.tup xs) lo hi M) Q E ↔ Q (.tup (cutD xs lo hi)) M := Iff.rfl
@[simp] theorem p_sl_lst {lo hi : Option Int} : Post (slD (.lst xs) lo hi M) Q E ↔ Q (.lst (cutD xs lo hi)) M := Iff.rfl
@[simp] theorem p_sl_ro {lo hi : Option Int} : Post (slD (.ro xs) lo hi M) Q E ↔ Q (.lst (cutD xs lo hi)) M := Iff.rfl
@[simp] theorem p_tup_tup : Post (tupD (.tup xs) M) Q E ↔ Q (.tup xs) M := Iff.rfl
@[simp] theorem p_tup_lst : Post (tupD (.lst xs) M) Q E ↔ Q (.tup xs) M := Iff.rfl
@[simp] theorem p_tup_l : Post (tupD (.loc n) M) Q E ↔ LocL M n fun xs => Q (.tup xs) M := by
  unfold tupD litems; simp only [post_bnd, p_items_l]; exact Iff.rfl
@[simp] theorem p_lst_tup : Post (lstD (.tup xs) M) Q E ↔ Q (.lst xs) M := Iff.rfl
@[simp] theorem p_lst_lst : Post (lstD (.lst xs) M) Q E ↔ Q (.lst xs) M := Iff.rfl
@[simp] theorem p_eRev : Post (eRev fa ρ M) Q E ↔ Post (fa ρ M) (fun d M1 => Post (revD d M1) Q E) E := by
  unfold eRev; rw [post_bnd]
@[simp] theorem p_rev_tup : Post (revD (.tup xs) M) Q E ↔ Q (.tup xs.reverse) M := Iff.rfl
/-! flags of lists -/
theorem blsOf_map {α : Type} (f : α → D) (p : α → Bool) : ∀ l : List α, (∀ x ∈ l, f x = .bl (p x)) → blsOf (l.map f) = some (l.map p)
  | [], _ => rfl
  | x :: l, h => by
    rw [List.map_cons, h x (List.mem_cons_self ..)]
    show (blsOf (l.map f)).map _ = _
    rw [blsOf_map f p l fun y hy => h y (List.mem_cons_of_mem _ hy)]
    rfl
theorem p_bls {α : Type} {g : List Bool → Bool} {p : α → Bool} {l : List α} : Post (blsD g (.lst (l.map fun x => D.bl (p x))) M) Q E ↔ Q (.bl (g (l.map p))) M := by
  unfold blsD litems items
  dsimp only
  rw [post_bnd]
  show Post ((match blsOf (l.map fun x => D.bl (p x)) with | some bs => Py.ret (.bl (g bs)) | none => Py.bad : Py D) M) Q E ↔ _
  rw [blsOf_map (fun x => D.bl (p x)) p l fun _ _ => rfl]
  exact Iff.rfl
/-! targets -/
@[simp] theorem p_noX {α : Type} {m : Py α} {R : α → Store → Prop} : Post (noX m M) R E ↔ Post (m M) R (fun _ _ => False) := by
  unfold noX
  cases m M <;> exact Iff.rfl
@[simp] theorem p_gSet : Post (gSet n d ρ M) QR E ↔ QR (ρ.set n (some d)) M := Iff.rfl
@[simp] theorem p_gsNil : Post (gsNil [] ρ M) QR E ↔ QR ρ M := Iff.rfl
@[simp] theorem p_gsCons {f : D → DEnv → Py DEnv} {r : List D → DEnv → Py DEnv} : Post (gsCons f r (d :: xs) ρ M) QR E ↔ Post (f d ρ M) (fun ρ' M' => Post (r xs ρ' M') QR E) E := by
  unfold gsCons; dsimp only; rw [post_bnd]
@[simp] theorem p_gUnp {k : Nat} {f : List D → DEnv → Py DEnv} : Post (gUnp k f (.tup xs) ρ M) QR E ↔ xs.length = k ∧ Post (f xs ρ M) QR (fun _ _ => False) := by
  unfold gUnp; dsimp only; rw [post_chk, p_noX]
/-! what is walked -/
@[simp] theorem p_iSeq {wk : D → Py Wk} : Post (iSeq wk fa ρ M) QW E ↔ Post (fa ρ M) (fun d M1 => Post (wk d M1) QW E) E := by
  unfold iSeq; rw [post_bnd]
@[simp] theorem p_wkA_tup : Post (wkA (.tup xs) M) QW E ↔ QW ⟨xs, fun _ => True⟩ M := Iff.rfl
@[simp] theorem p_wkA_lst : Post (wkA (.lst xs) M) QW E ↔ QW ⟨xs, fun _ => True⟩ M := Iff.rfl
@[simp] theorem p_wkA_ro : Post (wkA (.ro xs) M) QW E ↔ QW ⟨xs, fun _ => True⟩ M := Iff.rfl
@[simp] theorem p_wkLT_tup : Post (wkLT (.tup xs) M) QW E ↔ QW ⟨xs, fun _ => True⟩ M := Iff.rfl
@[simp] theorem p_wkLT_lst : Post (wkLT (.lst xs) M) QW E ↔ QW ⟨xs, fun _ => True⟩ M := Iff.rfl
@[simp] theorem p_rng1 : Post (iRng1D ff ρ M) QW E ↔ Post (ff ρ M) (fun ds M1 => Post (rngW1 ds M1) QW E) E := by
  unfold iRng1D; rw [post_bnd]
@[simp] theorem p_rngW1 : Post (rngW1 [.int j] M) QW E ↔ (-(2 ^ 62) ≤ j ∧ j < 2 ^ 62) ∧ QW ⟨rngD 0 j, fun _ => True⟩ M := post_chk
@[simp] theorem p_rng2 : Post (iRng2D ff ρ M) QW E ↔ Post (ff ρ M) (fun ds M1 => Post (rngW2 ds M1) QW E) E := by
  unfold iRng2D; rw [post_bnd]
@[simp] theorem p_rngW2 : Post (rngW2 [.int i, .int j] M) QW E ↔ (-(2 ^ 62) ≤ i ∧ i < 2 ^ 62 ∧ -(2 ^ 62) ≤ j ∧ j < 2 ^ 62) ∧ QW ⟨rngD i j, fun _ => True⟩ M := post_chk
@[simp] theorem p_enum {wk : D → Py Wk} : Post (iEnumD wk ff ρ M) QW E ↔ Post (ff ρ M) (fun ds M1 => Post (wkEnum wk ds M1) QW E) E := by
  unfold iEnumD; rw [post_bnd]
@[simp] theorem p_wkEnum {wk : D → Py Wk} : Post (wkEnum wk [d] M) QW E ↔ Post (wk d M) (fun w M1 => QW ⟨enumD 0 w.ds, w.ok⟩ M1) E := by
  unfold wkEnum; dsimp only; rw [post_bnd]; exact Iff.rfl
theorem rngD_len : (rngD i j).length = (j - i).toNat := by unfold rngD; simp
theorem enumD_len : ∀ (k : Nat) (l : List D), (enumD k l).length = l.length
  | _, [] => rfl
  | k, d :: l => by show (enumD (k + 1) l).length + 1 = _; rw [enumD_len]; rfl
/-- a loop -/
@[simp] theorem p_sFor {it : DEnv → Py Wk} {tg : D → DEnv → Py DEnv} {body : DEnv → Py Fl} : Post (sFor it tg body ρ M) QF E ↔ Post (it ρ M) (fun w M1 => Post (forD w.ok tg body w.ds ρ M1) QF E) E := by
  unfold sFor; rw [post_bnd]
/-- one turn -/
def turnF (I : DEnv → Store → Prop) (QF : Fl → Store → Prop) : Fl → Store → Prop
  | .nx ρ, M => I ρ M
  | .ct ρ, M => I ρ M
  | .bk ρ, M => QF (.nx ρ) M
  | .rt v, M => QF (.rt v) M
@[simp] theorem turnF_nx {I : DEnv → Store → Prop} : turnF I QF (.nx ρ) M ↔ I ρ M := Iff.rfl
@[simp] theorem turnF_ct {I : DEnv → Store → Prop} : turnF I QF (.ct ρ) M ↔ I ρ M := Iff.rfl
@[simp] theorem turnF_bk {I : DEnv → Store → Prop} : turnF I QF (.bk ρ) M ↔ QF (.nx ρ) M := Iff.rfl
@[simp] theorem turnF_rt {I : DEnv → Store → Prop} : turnF I QF (.rt d) M ↔ QF (.rt d) M := Iff.rfl
theorem okM_true {α : Type} {ok : Store → Prop} {k : Py α} (h : ok M) : okM ok k M = k M := by unfold okM; rw [if_pos h]
theorem forD_from {ok : Store → Prop} {tg : D → DEnv → Py DEnv} {body : DEnv → Py Fl} {all : List D} (I : Nat → DEnv → Store → Prop) (hok : ∀ k ρ M, I k ρ M → ok M)
    (step : ∀ (k : Nat) (d : D) ρ M, all[k]? = some d → I k ρ M → Post (tg d ρ M) (fun ρ1 M1 => Post (body ρ1 M1) (turnF (I (k + 1)) QF) E) E)
    (done : ∀ ρ M, I all.length ρ M → QF (.nx ρ) M) : ∀ (l : List D) (k : Nat) (ρ : DEnv) (M : Store), k + l.length = all.length → all.drop k = l → I k ρ M → Post (forD ok tg body l ρ M) QF E
  | [], k, ρ, M, ek, e, h => by
    unfold forD
    rw [okM_true (hok _ _ _ h)]
    have hk : k = all.length := by simpa using ek
    subst hk
    exact done ρ M h
  | d :: l, k, ρ, M, ek, e, h => by
    unfold forD
    rw [okM_true (hok _ _ _ h)]
    have hd : all[k]? = some d := by
      have h0 : (all.drop k)[0]? = some d := by rw [e]; rfl
      rwa [List.getElem?_drop, Nat.add_zero] at h0
    have el : all.drop (k + 1) = l := by
      rw [← List.drop_drop, e]; rfl
    refine post_bnd.mpr ((step k d ρ M hd h).imp fun ρ1 M1 h1 => post_bnd.mpr (h1.imp fun r M2 h2 => ?_))
    have ek2 : k + 1 + l.length = all.length := by rw [← ek, List.length_cons]; omega
    cases r with
    | nx ρ' => exact forD_from I hok step done l (k + 1) ρ' M2 ek2 el h2
    | ct ρ' => exact forD_from I hok step done l (k + 1) ρ' M2 ek2 el h2
    | bk ρ' => exact h2
    | rt v => exact h2
/-- a loop by what stands ahead of each turn -/
theorem for_rule {ok : Store → Prop} {tg : D → DEnv → Py DEnv} {body : DEnv → Py Fl} {all : List D} (I : Nat → DEnv → Store → Prop) (hok : ∀ k ρ M, I k ρ M → ok M)
    (h : I 0 ρ M)
    (step : ∀ (k : Nat) (d : D) ρ M, all[k]? = some d → I k ρ M → Post (tg d ρ M) (fun ρ1 M1 => Post (body ρ1 M1) (turnF (I (k + 1)) QF) E) E)
    (done : ∀ ρ M, I all.length ρ M → QF (.nx ρ) M) : Post (forD ok tg body all ρ M) QF E := forD_from I hok step done all 0 ρ M (by omega) rfl h
/-- a comprehension by what stands ahead of each turn -/
theorem lc_from {ok : Store → Prop} {tg : D → DEnv → Py DEnv} {tt : DEnv → Py Bool} {fe : DEnv → Py D} {all : List D} (I : Nat → List D → Store → Prop) (hok : ∀ k acc M, I k acc M → ok M)
    (step : ∀ (k : Nat) (d : D) acc M, all[k]? = some d → I k acc M → Post (tg d ρ M) (fun ρ1 M1 => Post (tt ρ1 M1) (fun b M2 => if b = true then Post (fe ρ1 M2) (fun y M3 => acc.length < sizeLine ∧ I (k + 1) (acc ++ [y]) M3) E else I (k + 1) acc M2) E) E)
    (done : ∀ acc M, I all.length acc M → QL acc M) : ∀ (l : List D) (k : Nat) (acc : List D) (M : Store), k + l.length = all.length → all.drop k = l → I k acc M → Post (lcD ok tg tt fe ρ l acc M) QL E
  | [], k, acc, M, ek, e, h => by
    unfold lcD
    rw [okM_true (hok _ _ _ h)]
    have hk : k = all.length := by simpa using ek
    subst hk
    exact done acc M h
  | d :: l, k, acc, M, ek, e, h => by
    unfold lcD
    rw [okM_true (hok _ _ _ h)]
    have hd : all[k]? = some d := by
      have h0 : (all.drop k)[0]? = some d := by rw [e]; rfl
      rwa [List.getElem?_drop, Nat.add_zero] at h0
    have el : all.drop (k + 1) = l := by
      rw [← List.drop_drop, e]; rfl
    have ek2 : k + 1 + l.length = all.length := by rw [← ek, List.length_cons]; omega
    refine post_bnd.mpr ((step k d acc M hd h).imp fun ρ1 M1 h1 => post_bnd.mpr (h1.imp fun b M2 h2 => ?_))
    cases b with
    | false => exact lc_from I hok step done l (k + 1) acc M2 ek2 el h2
    | true => exact post_bnd.mpr (Post.imp h2 fun y M3 h3 => post_chk.mpr ⟨h3.1, lc_from I hok step done l (k + 1) (acc ++ [y]) M3 ek2 el h3.2⟩)
@[simp] theorem p_eLcA {fr : List D → Py D} {lc : DEnv → Py (List D)} : Post (eLcA fr lc ρ M) Q E ↔ Post (lc ρ M) (fun ds M1 => Post (fr ds M1) Q E) E := by
  unfold eLcA; rw [post_bnd]
@[simp] theorem p_frF : Post (frF xs M) Q E ↔ Q (.lst xs) M := Iff.rfl
@[simp] theorem p_frN : Post (frN xs M) Q E ↔ Q (.loc M.length) (M ++ [some (.lst xs)]) := Iff.rfl
@[simp] theorem p_sLc {fr : List D → Py D} {lc : DEnv → Py (List D)} : Post (sLc n fr lc ρ M) QF E ↔ Post (lc ρ M) (fun ds M1 => Post (fr ds M1) (fun d M2 => QF (.nx (ρ.set n (some d))) M2) E) E := by
  unfold sLc; simp only [post_bnd]; exact Iff.rfl
@[simp] theorem p_lcAll {vs : List Nat} {it : DEnv → Py Wk} {tg : D → DEnv → Py DEnv} {tt : DEnv → Py Bool} {fe : DEnv → Py D} : Post (lcAll vs it tg tt fe ρ M) QL E ↔ Post (it ρ M) (fun w M1 => Post (lcD w.ok tg tt fe (wipeD ρ vs) w.ds [] M1) QL (fun _ _ => False)) E := by
  unfold lcAll; rw [post_bnd]; simp only [p_noX]
/-- one that changes nothing -/
theorem lc_pure {ok : Store → Prop} {tg : D → DEnv → Py DEnv} {tt : DEnv → Py Bool} {fe : DEnv → Py D} {l : List D} (p : D → Bool) (f : D → D) (hok : ok M) (hz : l.length ≤ sizeLine)
    (h : ∀ d ∈ l, Post (tg d ρ M) (fun ρ1 M1 => Post (tt ρ1 M1) (fun b M2 => b = p d ∧ if p d = true then Post (fe ρ1 M2) (fun y M3 => M3 = M ∧ y = f d) E else M2 = M) E) E)
    (q : QL ((l.filter p).map f) M) : Post (lcD ok tg tt fe ρ l [] M) QL E := by
  refine lc_from (all := l) (fun k acc M' => M' = M ∧ acc = ((l.take k).filter p).map f) (fun k acc M' z => z.1 ▸ hok) (fun k d acc M' hd z => ?_) (fun acc M' z => ?_) l 0 [] M (by omega) rfl ⟨rfl, rfl⟩
  · obtain ⟨rfl, rfl⟩ := z
    have hk : k < l.length := (List.getElem?_eq_some_iff.mp hd).1
    have et : l.take (k + 1) = l.take k ++ [d] := by rw [List.take_succ, hd]; rfl
    refine (h d (List.mem_of_getElem? hd)).imp fun ρ1 M1 h1 => h1.imp fun b M2 h2 => ?_
    obtain ⟨rfl, h3⟩ := h2
    by_cases hp : p d = true
    · rw [if_pos hp] at h3 ⊢
      refine Post.imp h3 fun y M3 h4 => ?_
      obtain ⟨rfl, rfl⟩ := h4
      refine ⟨?_, rfl, ?_⟩
      · have h5 : (((l.take k).filter p).map f).length ≤ k := by
          rw [List.length_map]
          exact Nat.le_trans (List.length_filter_le ..) (by rw [List.length_take]; omega)
        omega
      · rw [et, List.filter_append, List.map_append, List.filter_cons_of_pos hp]; rfl
    · rw [if_neg hp] at h3 ⊢
      subst h3
      refine ⟨rfl, ?_⟩
      rw [et, List.filter_append, List.filter_cons_of_neg hp, List.filter_nil, List.append_nil]
  · obtain ⟨rfl, rfl⟩ := z
    rw [List.take_length]
    exact q
/-- .. without a test -/
theorem lc_map {ok : Store → Prop} {tg : D → DEnv → Py DEnv} {fe : DEnv → Py D} {l : List D} (f : D → D) (hok : ok M) (hz : l.length ≤ sizeLine)
    (h : ∀ d ∈ l, Post (tg d ρ M) (fun ρ1 M1 => Post (fe ρ1 M1) (fun y M3 => M3 = M ∧ y = f d) E) E)
    (q : QL (l.map f) M) : Post (lcD ok tg tYesD fe ρ l [] M) QL E := by
  refine lc_pure (fun _ => true) f hok hz (fun d hd => (h d hd).imp fun ρ1 M1 h1 => ?_) ?_
  · show Post (tYesD ρ1 M1) _ _
    rw [p_tYes]
    exact ⟨rfl, h1⟩
  · rw [List.filter_eq_self.mpr fun _ _ => rfl]
    exact q
/-- one that draws: each item by its place -/
theorem lc_draw {ok : Store → Prop} {tg : D → DEnv → Py DEnv} {fe : DEnv → Py D} {l : List D} (J : Store → Prop) (P : Nat → D → Prop) (hok : ∀ M, J M → ok M) (hz : l.length ≤ sizeLine) (hJ : J M)
    (h : ∀ (k : Nat) (d : D) M, l[k]? = some d → J M → Post (tg d ρ M) (fun ρ1 M1 => Post (fe ρ1 M1) (fun y M3 => J M3 ∧ P k y) E) E)
    (q : ∀ zs M', J M' → zs.length = l.length → (∀ (k : Nat) (y : D), zs[k]? = some y → P k y) → QL zs M') : Post (lcD ok tg tYesD fe ρ l [] M) QL E := by
  refine lc_from (all := l) (fun k acc M' => J M' ∧ acc.length = k ∧ ∀ (m : Nat) (y : D), acc[m]? = some y → P m y) (fun k acc M' z => hok _ z.1) (fun k d acc M' hd z => ?_) (fun acc M' z => q acc M' z.1 z.2.1 z.2.2) l 0 [] M (by omega) rfl ⟨hJ, rfl, fun m y e => by simp at e⟩
  obtain ⟨zJ, zl, zP⟩ := z
  have hk : k < l.length := (List.getElem?_eq_some_iff.mp hd).1
  refine (h k d M' hd zJ).imp fun ρ1 M1 h1 => ?_
  show Post (tYesD ρ1 M1) _ _
  rw [p_tYes, if_pos rfl]
  refine Post.imp h1 fun y M3 h4 => ⟨by omega, h4.1, by rw [List.length_append, zl]; rfl, fun m y' e => ?_⟩
  rcases getElem?_snoc acc y m y' e with e | ⟨e1, e2⟩
  · exact zP m y' e
  · subst e2; rw [e1, zl]; exact h4.2
end
end L3
set_option Elab.async false
set_option linter.all false
set_option maxRecDepth 100000
set_option maxHeartbeats 4000000
set_option autoImplicit false
namespace L3
open PySem PySem.Spec L2
open PyProof.Rows hiding St
@[simp] theorem atP_0 {a0 : D} {xs : List D} {P : D → Prop} : AtP (a0 :: xs) 0 P ↔ P a0 := by
  rw [show ((0 : Int)) = ((0 : Nat) : Int) from rfl, atP_nat (by simp only [List.length_cons]; omega)]
  exact Iff.rfl
@[simp] theorem ixN_0 {n : Nat} : ixN (n + 1) 0 = some 0 := by
  rw [show ((0 : Int)) = ((0 : Nat) : Int) from rfl, ixN_nat (by omega)]
@[simp] theorem atP_1 {a0 a1 : D} {xs : List D} {P : D → Prop} : AtP (a0 :: a1 :: xs) 1 P ↔ P a1 := by
  rw [show ((1 : Int)) = ((1 : Nat) : Int) from rfl, atP_nat (by simp only [List.length_cons]; omega)]
  exact Iff.rfl
@[simp] theorem ixN_1 {n : Nat} : ixN (n + 2) 1 = some 1 := by
  rw [show ((1 : Int)) = ((1 : Nat) : Int) from rfl, ixN_nat (by omega)]
@[simp] theorem atP_2 {a0 a1 a2 : D} {xs : List D} {P : D → Prop} : AtP (a0 :: a1 :: a2 :: xs) 2 P ↔ P a2 := by
  rw [show ((2 : Int)) = ((2 : Nat) : Int) from rfl, atP_nat (by simp only [List.length_cons]; omega)]
  exact Iff.rfl
@[simp] theorem ixN_2 {n : Nat} : ixN (n + 3) 2 = some 2 := by
  rw [show ((2 : Int)) = ((2 : Nat) : Int) from rfl, ixN_nat (by omega)]
@[simp] theorem atP_3 {a0 a1 a2 a3 : D} {xs : List D} {P : D → Prop} : AtP (a0 :: a1 :: a2 :: a3 :: xs) 3 P ↔ P a3 := by
  rw [show ((3 : Int)) = ((3 : Nat) : Int) from rfl, atP_nat (by simp only [List.length_cons]; omega)]
  exact Iff.rfl
@[simp] theorem ixN_3 {n : Nat} : ixN (n + 4) 3 = some 3 := by
  rw [show ((3 : Int)) = ((3 : Nat) : Int) from rfl, ixN_nat (by omega)]
@[simp] theorem atP_4 {a0 a1 a2 a3 a4 : D} {xs : List D} {P : D → Prop} : AtP (a0 :: a1 :: a2 :: a3 :: a4 :: xs) 4 P ↔ P a4 := by
  rw [show ((4 : Int)) = ((4 : Nat) : Int) from rfl, atP_nat (by simp only [List.length_cons]; omega)]
  exact Iff.rfl
@[simp] theorem ixN_4 {n : Nat} : ixN (n + 5) 4 = some 4 := by
  rw [show ((4 : Int)) = ((4 : Nat) : Int) from rfl, ixN_nat (by omega)]
@[simp] theorem atP_5 {a0 a1 a2 a3 a4 a5 : D} {xs : List D} {P : D → Prop} : AtP (a0 :: a1 :: a2 :: a3 :: a4 :: a5 :: xs) 5 P ↔ P a5 := by
  rw [show ((5 : Int)) = ((5 : Nat) : Int) from rfl, atP_nat (by simp only [List.length_cons]; omega)]
  exact Iff.rfl
@[simp] theorem ixN_5 {n : Nat} : ixN (n + 6) 5 = some 5 := by
  rw [show ((5 : Int)) = ((5 : Nat) : Int) from rfl, ixN_nat (by omega)]

@[simp] theorem sizeLine_eq : sizeLine = 16777216 := rfl
/-- what a draw leaves -/
def Pot (n : Nat) (M : Store) : Prop := ∃ (cs : List Int) (a b c d : Int), M[n]? = some (some (.lst [.lst (cs.map .int), .int a, .int b, .int c, .int d])) ∧ 0 ≤ a
theorem pot_set {n : Nat} {M : Store} {cs : List Int} {a b c d : Int} (hn : n < M.length) : Pot n (M.set n (some (.lst [.lst (cs.map .int), .int a, .int b, .int c, .int d]))) ↔ 0 ≤ a := by
  constructor
  · rintro ⟨cs', a', b', c', d', e, h⟩
    rw [List.getElem?_set_self hn] at e
    injection e with e; injection e with e; injection e with e
    simp at e
    obtain ⟨_, rfl, _⟩ := e
    exact h
  · intro h
    exact ⟨cs, a, b, c, d, by rw [List.getElem?_set_self hn], h⟩
theorem atP_ints {cs : List Int} {a : Int} (h0 : 0 ≤ a) (h1 : a < cs.length) : ∃ x : Int, ∀ P : D → Prop, AtP (cs.map D.int) a P ↔ P (.int x) := by
  have hk : a.toNat < cs.length := by omega
  refine ⟨cs[a.toNat], fun P => ?_⟩
  rw [atP_int h0 (by rw [List.length_map]; exact h1)]
  simp [hk]

section
variable {Q : D → Store → Prop} {E : Exn → Store → Prop} {M : Store} {T : String}
@[simp] theorem post_ok {α : Type} {a : α} {R : α → Store → Prop} : Post (.ok a M) R E ↔ R a M := Iff.rfl
theorem ok_of {α : Type} {o : Out α} {a : α} (h : Post o (fun r M' => r = a ∧ M' = M) fun _ _ => False) : o = .ok a M := by
  cases o with
  | ok b M' => obtain ⟨rfl, rfl⟩ := h; rfl
  | exc e M' => exact h.elim
  | bad => exact h.elim
/-- a type that is told -/
def isIn (T : String) : Prop := allTs.contains T = true
@[simp] theorem isIn_int : isIn "int" := (by decide : allTs.contains _ = true)
@[simp] theorem isIn_bool : isIn "bool" := (by decide : allTs.contains _ = true)
@[simp] theorem isIn_str : isIn "str" := (by decide : allTs.contains _ = true)
@[simp] theorem isIn_tuple : isIn "tuple" := (by decide : allTs.contains _ = true)
@[simp] theorem isIn_list : isIn "list" := (by decide : allTs.contains _ = true)
@[simp] theorem isIn_dict : isIn "dict" := (by decide : allTs.contains _ = true)
theorem isi_no {d : D} (h : ¬ allTs.contains T = true) : Post (isiTs allTs d (.ty T) M) Q E ↔ False := by
  have e : isiTs allTs d (.ty T) = Py.bad := by
    show (if allTs.contains T = true then isiD d (.ty T) else Py.bad) = _
    rw [if_neg h]
  rw [e]; exact Iff.rfl
theorem isi_iff {d : D} {t : String} (h : tyD d = some t) : Post (isiTs allTs d (.ty T) M) Q E ↔ isIn T ∧ Q (.bl (isT T t)) M := by
  by_cases hT : allTs.contains T = true
  · rw [p_isi hT h]; exact ⟨fun z => ⟨hT, z⟩, fun z => z.2⟩
  · rw [isi_no hT]; exact ⟨fun z => z.elim, fun z => hT z.1⟩
@[simp] theorem isi_non : Post (isiTs allTs .non (.ty T) M) Q E ↔ isIn T ∧ Q (.bl (isT T "NoneType")) M := isi_iff rfl
@[simp] theorem isi_bl {b : Bool} : Post (isiTs allTs (.bl b) (.ty T) M) Q E ↔ isIn T ∧ Q (.bl (isT T "bool")) M := isi_iff rfl
@[simp] theorem isi_int {i : Int} : Post (isiTs allTs (.int i) (.ty T) M) Q E ↔ isIn T ∧ Q (.bl (isT T "int")) M := isi_iff rfl
@[simp] theorem isi_str {z : Str} : Post (isiTs allTs (.str z) (.ty T) M) Q E ↔ isIn T ∧ Q (.bl (isT T "str")) M := isi_iff rfl
@[simp] theorem isi_tup {xs : List D} : Post (isiTs allTs (.tup xs) (.ty T) M) Q E ↔ isIn T ∧ Q (.bl (isT T "tuple")) M := isi_iff rfl
@[simp] theorem isi_lst {xs : List D} : Post (isiTs allTs (.lst xs) (.ty T) M) Q E ↔ isIn T ∧ Q (.bl (isT T "list")) M := isi_iff rfl
@[simp] theorem isi_dk {xs : List (Key × D)} : Post (isiTs allTs (.dk xs) (.ty T) M) Q E ↔ isIn T ∧ Q (.bl (isT T "dict")) M := isi_iff rfl
end
theorem ofString_inj {a b : String} : Str.ofString a = Str.ofString b ↔ a = b := by
  constructor
  · intro h
    rw [Str.ofString_eq_toList, Str.ofString_eq_toList] at h
    have h2 : (a.toList.map Char.toNat).toArray = (b.toList.map Char.toNat).toArray := congrArg Str.cps h
    have h3 : a.toList.map Char.toNat = b.toList.map Char.toNat := by simpa using congrArg Array.toList h2
    have h4 : a.toList = b.toList := List.map_inj_right (fun x y e => Char.toNat_inj.mp e) |>.mp h3
    exact String.toList_inj.mp h4
  · rintro rfl; rfl
theorem cutD_map {α : Type} {f : α → D} {ns : List α} {lo hi : Option Int} : cutD (ns.map f) lo hi = ((ns.drop (HT.sIx ns.length 0 lo)).take (HT.sIx ns.length ns.length hi - HT.sIx ns.length 0 lo)).map f := by
  unfold cutD
  rw [List.length_map, List.map_take, List.map_drop]
theorem cutD_mem {xs : List D} {lo hi : Option Int} {d : D} (h : d ∈ cutD xs lo hi) : d ∈ xs := List.mem_of_mem_drop (List.mem_of_mem_take h)
theorem cutD_len {xs : List D} {lo hi : Option Int} : (cutD xs lo hi).length ≤ xs.length := by
  unfold cutD
  rw [List.length_take, List.length_drop]
  omega
@[simp] theorem wipeD_nil {ρ : DEnv} : wipeD ρ [] = ρ := rfl
@[simp] theorem wipeD_cons {ρ : DEnv} {i : Nat} {r : List Nat} : wipeD ρ (i :: r) = (wipeD ρ r).set i none := rfl
def SomeP {α : Type} (o : Option α) (P : α → Prop) : Prop := match o with
  | some a => P a
  | none => False
@[simp] theorem someP_some {α : Type} {a : α} {P : α → Prop} : SomeP (some a) P ↔ P a := Iff.rfl
@[simp] theorem someP_none {α : Type} {P : α → Prop} : SomeP none P ↔ False := Iff.rfl
@[simp] theorem strsOf_nil : strsOf [] = some [] := rfl
@[simp] theorem strsOf_cons {z : Str} {r : List D} : strsOf (.str z :: r) = (strsOf r).map fun zs => z :: zs := rfl
section
variable {Q : D → Store → Prop} {E : Exn → Store → Prop} {M : Store} {x : D} {ys : List D} {neg : Bool}
theorem p_inT {M : Store} : Post ((match strsOf ys with
  | some zs => if plnD M x = true then .ok (.bl (if neg then !zs.any (isS x) else zs.any (isS x))) M else .bad
  | none => .bad : Out D)) Q E ↔ SomeP (strsOf ys) fun zs => plnD M x = true ∧ Q (.bl (if neg then !zs.any (isS x) else zs.any (isS x))) M := by
  cases strsOf ys with
  | none => exact Iff.rfl
  | some zs =>
    dsimp only
    by_cases h2 : plnD M x = true
    · rw [if_pos h2]; exact ⟨fun z => ⟨h2, z⟩, fun z => z.2⟩
    · rw [if_neg h2]; exact ⟨fun z => z.elim, fun z => h2 z.1⟩
@[simp] theorem p_inT_tup : Post (inTD neg x (.tup ys) M) Q E ↔ SomeP (strsOf ys) fun zs => plnD M x = true ∧ Q (.bl (if neg then !zs.any (isS x) else zs.any (isS x))) M := post_bnd.trans p_inT
@[simp] theorem p_inT_lst : Post (inTD neg x (.lst ys) M) Q E ↔ SomeP (strsOf ys) fun zs => plnD M x = true ∧ Q (.bl (if neg then !zs.any (isS x) else zs.any (isS x))) M := post_bnd.trans p_inT
@[simp] theorem pln_non : plnD M .non = true := rfl
@[simp] theorem pln_bl {b : Bool} : plnD M (.bl b) = true := rfl
@[simp] theorem pln_int {b : Int} : plnD M (.int b) = true := rfl
@[simp] theorem pln_str {b : Str} : plnD M (.str b) = true := rfl
@[simp] theorem pln_tup {b : List D} : plnD M (.tup b) = true := rfl
@[simp] theorem pln_lst {b : List D} : plnD M (.lst b) = true := rfl
@[simp] theorem pln_dk {b : List (Key × D)} : plnD M (.dk b) = true := rfl
@[simp] theorem isS_str {a z : Str} : isS (.str a) z = (z == a) := rfl
end
@[simp] theorem blsOf_nil : blsOf [] = some [] := rfl
@[simp] theorem blsOf_cons {b : Bool} {r : List D} : blsOf (.bl b :: r) = (blsOf r).map fun bs => b :: bs := rfl
@[simp] theorem blsOf_mapB {α : Type} {p : α → Bool} {l : List α} : blsOf (l.map fun x => D.bl (p x)) = some (l.map p) := blsOf_map _ p l fun _ _ => rfl
theorem p_blsK {g : List Bool → Bool} {Q : D → Store → Prop} {E : Exn → Store → Prop} {M : Store} {ds : List D} : Post ((match blsOf ds with | some bs => Py.ret (.bl (g bs)) | none => Py.bad : Py D) M) Q E ↔ SomeP (blsOf ds) fun bs => Q (.bl (g bs)) M := by
  cases blsOf ds <;> exact Iff.rfl
@[simp] theorem p_blsL {g : List Bool → Bool} {Q : D → Store → Prop} {E : Exn → Store → Prop} {M : Store} {ds : List D} : Post (blsD g (.lst ds) M) Q E ↔ SomeP (blsOf ds) fun bs => Q (.bl (g bs)) M := post_bnd.trans p_blsK
/-- the magnitude of a number -/
def absI : D → D
  | .int i => .int (if i < 0 then -i else i)
  | d => d
/-- data without things that change -/
inductive Dat (n : Nat) : D → Prop
  | non : Dat n .non
  | bl (b : Bool) : Dat n (.bl b)
  | int (i : Int) : Dat n (.int i)
  | str (z : Str) : Dat n (.str z)
  | tup {xs : List D} : xs.length ≤ n → (∀ d ∈ xs, Dat n d) → Dat n (.tup xs)
  | lst {xs : List D} : xs.length ≤ n → (∀ d ∈ xs, Dat n d) → Dat n (.lst xs)
  | dk : Dat n (.dk [])
theorem Dat.mono {n m : Nat} (h : n ≤ m) {d : D} (x : Dat n d) : Dat m d := by
  induction x with
  | non => exact .non
  | bl b => exact .bl b
  | int i => exact .int i
  | str z => exact .str z
  | tup l _ ih => exact .tup (Nat.le_trans l h) ih
  | lst l _ ih => exact .lst (Nat.le_trans l h) ih
  | dk => exact .dk
theorem Dat.pln {n : Nat} {d : D} {M : Store} (x : Dat n d) : plnD M d = true := by cases x <;> rfl
end L3
set_option Elab.async false
set_option linter.all false
set_option maxRecDepth 100000
set_option maxHeartbeats 4000000
set_option autoImplicit false
namespace Qk18
open PySem PySem.Spec L2 L3
open PyProof.Rows hiding St
noncomputable def b_is_integer : DEnv → Py Fl :=
  (sRet (eAnd (eCall (twoD (isiTs allTs)) (aCons (eVar 0) (aCons (eC (.ty "int")) aNil))) (eNot (eCall (twoD (isiTs allTs)) (aCons (eVar 0) (aCons (eC (.ty "bool")) aNil))))))
noncomputable def m_is_integer : List D → Py D := runD 1 b_is_integer
noncomputable def b_is_within : DEnv → Py Fl :=
  (sRet (eAnd (eCall (nargs 1 m_is_integer) (aCons (eVar 0) aNil)) (eChain leI leI (eVar 1) (eVar 0) (eVar 2))))
noncomputable def m_is_within : List D → Py D := runD 3 b_is_within
noncomputable def b_is_number : DEnv → Py Fl :=
  (sRet (eCall (nargs 3 m_is_within) (aCons (eVar 0) (aCons (eC (.int 0)) (aCons (eVar 1) aNil)))))
noncomputable def m_is_number : List D → Py D := runD 2 b_is_number
noncomputable def b_is_name : DEnv → Py Fl :=
  (sRet (eCall (nargs 2 m_is_number) (aCons (eVar 0) (aCons (eOp subI (eC (.int 4)) (eC (.int 1))) aNil))))
noncomputable def m_is_name : List D → Py D := runD 1 b_is_name
noncomputable def b_is_plain_line : DEnv → Py Fl :=
  (sSeq (sIf (eTest (eOp (eqS false) (eOp ixD (eVar 0) (eC (.int 0))) (eC (.str (PySem.Str.ofString "hue")))))
    (sRet (eAnd (eOp (eqS false) (eCall (one lenD) (aCons (eVar 0) aNil)) (eC (.int 3))) (eAnd (eCall (nargs 1 m_is_name) (aCons (eOp ixD (eVar 0) (eC (.int 1))) aNil)) (eCall (nargs 2 m_is_number) (aCons (eOp ixD (eVar 0) (eC (.int 2))) (aCons (eC (.int 9)) aNil))))))
    sNext)
  (sSeq (sIf (eTest (eOp (eqS false) (eOp ixD (eVar 0) (eC (.int 0))) (eC (.str (PySem.Str.ofString "same")))))
    (sRet (eAnd (eOp (eqS false) (eCall (one lenD) (aCons (eVar 0) aNil)) (eC (.int 3))) (eAnd (eCall (nargs 1 m_is_name) (aCons (eOp ixD (eVar 0) (eC (.int 1))) aNil)) (eCall (nargs 1 m_is_name) (aCons (eOp ixD (eVar 0) (eC (.int 2))) aNil)))))
    sNext)
  (sSeq (sIf (tOrD (eTest (eOp (eqS true) (eOp ixD (eVar 0) (eC (.int 0))) (eC (.str (PySem.Str.ofString "tie"))))) (tOrD (eTest (eOp (eqS true) (eCall (one lenD) (aCons (eVar 0) aNil)) (eC (.int 4)))) (tNotD (eTest (eCall (nargs 2 m_is_number) (aCons (eOp ixD (eVar 0) (eC (.int 1))) (aCons (eC (.int 3)) aNil)))))))
    (sRet (eC (.bl false)))
    sNext)
  (sRet (eAnd (eCall (nargs 1 m_is_name) (aCons (eOp ixD (eVar 0) (eC (.int 2))) aNil)) (eCall (nargs 1 m_is_name) (aCons (eOp ixD (eVar 0) (eC (.int 3))) aNil)))))))
noncomputable def m_is_plain_line : List D → Py D := runD 1 b_is_plain_line
noncomputable def b_is_line : DEnv → Py Fl :=
  (sSeq (sIf (tOrD (tNotD (eTest (eCall (twoD (isiTs allTs)) (aCons (eVar 0) (aCons (eC (.ty "tuple")) aNil))))) (tOrD (eTest (eOp ltI (eCall (one lenD) (aCons (eVar 0) aNil)) (eC (.int 2)))) (tNotD (eTest (eCall (twoD (isiTs allTs)) (aCons (eOp ixD (eVar 0) (eC (.int 0))) (aCons (eC (.ty "str")) aNil)))))))
    (sRet (eC (.bl false)))
    sNext)
  (sSeq (sIf (eTest (eOp (eqS false) (eOp ixD (eVar 0) (eC (.int 0))) (eC (.str (PySem.Str.ofString "not")))))
    (sRet (eAnd (eOp (eqS false) (eCall (one lenD) (aCons (eVar 0) aNil)) (eC (.int 2))) (eCall (nargs 2 m_is_number) (aCons (eOp ixD (eVar 0) (eC (.int 1))) (aCons (eOp subI (eVar 1) (eC (.int 1))) aNil)))))
    sNext)
  (sSeq (sIf (tOrD (eTest (eOp (eqS false) (eOp ixD (eVar 0) (eC (.int 0))) (eC (.str (PySem.Str.ofString "all"))))) (eTest (eOp (eqS false) (eOp ixD (eVar 0) (eC (.int 0))) (eC (.str (PySem.Str.ofString "some"))))))
    (sSeq (sIf (tOrD (eTest (eOp (eqS true) (eCall (one lenD) (aCons (eVar 0) aNil)) (eC (.int 2)))) (tNotD (eTest (eCall (twoD (isiTs allTs)) (aCons (eOp ixD (eVar 0) (eC (.int 1))) (aCons (eC (.ty "tuple")) aNil))))))
    (sRet (eC (.bl false)))
    sNext)
  (sRet (eCall (one (blsD fun bs => bs.all _root_.id)) (aCons (eLcA frF (lcAll [2] (iSeq wkA (eOp ixD (eVar 0) (eC (.int 1)))) (gSet 2) tYesD (eCall (nargs 2 m_is_number) (aCons (eVar 2) (aCons (eOp subI (eVar 1) (eC (.int 1))) aNil))))) aNil))))
    sNext)
  (sSeq (sIf (eTest (eOp (eqS false) (eOp ixD (eVar 0) (eC (.int 0))) (eC (.str (PySem.Str.ofString "many")))))
    (sSeq (sIf (tOrD (eTest (eOp (eqS true) (eCall (one lenD) (aCons (eVar 0) aNil)) (eC (.int 4)))) (tOrD (tNotD (eTest (eCall (nargs 1 m_is_name) (aCons (eOp ixD (eVar 0) (eC (.int 1))) aNil)))) (tNotD (eTest (eCall (nargs 3 m_is_within) (aCons (eOp ixD (eVar 0) (eC (.int 2))) (aCons (eC (.int 1)) (aCons (eC (.int 40)) aNil))))))))
    (sRet (eC (.bl false)))
    sNext)
  (sRet (eCall (nargs 2 m_is_number) (aCons (eOp ixD (eVar 0) (eC (.int 3))) (aCons (eOp subI (eVar 1) (eC (.int 1))) aNil)))))
    sNext)
  (sRet (eCall (nargs 1 m_is_plain_line) (aCons (eVar 0) aNil)))))))
noncomputable def m_is_line : List D → Py D := runD 3 b_is_line
noncomputable def b_is_saying : DEnv → Py Fl :=
  (sSeq (sIf (tOrD (tNotD (eTest (eCall (twoD (isiTs allTs)) (aCons (eVar 0) (aCons (eC (.ty "tuple")) aNil))))) (eTest (eOp (eqS false) (eCall (one lenD) (aCons (eVar 0) aNil)) (eC (.int 0)))))
    (sRet (eC (.bl false)))
    sNext)
  (sRet (eCall (one (blsD fun bs => bs.all _root_.id)) (aCons (eLcA frF (lcAll [1, 2] (iEnumD wkLT (aCons (eVar 0) aNil)) (gUnp 2 (gsCons (gSet 1) (gsCons (gSet 2) gsNil))) tYesD (eCall (nargs 2 m_is_line) (aCons (eVar 2) (aCons (eVar 1) aNil))))) aNil))))
noncomputable def m_is_saying : List D → Py D := runD 3 b_is_saying
noncomputable def b__law_pot : DEnv → Py Fl :=
  (sSeq (sLc 1 frF (lcAll [2] (iSeq wkA (eSl (eVar 0) oNone (oSome (eC (.int 63))))) (gSet 2) tYesD (eCall (one absD) (aCons (eCall (one intD) (aCons (eVar 2) aNil)) aNil))))
  (sRet (eNew (aCons (eVar 1) (aCons (eC (.int 0)) (aCons (eC (.int 0)) (aCons (eOp addA (eC (.int 1)) (eCall (one lenD) (aCons (eVar 1) aNil))) (aCons (eC (.int 0)) aNil))))))))
noncomputable def m__law_pot : List D → Py D := runD 3 b__law_pot
noncomputable def b__law_draw : DEnv → Py Fl :=
  (sSeq (sIf (tAndD (eTest (eOp (eqS false) (eOp ixD (eVar 0) (eC (.int 2))) (eC (.int 0)))) (eTest (eOp ltI (eOp ixD (eVar 0) (eC (.int 1))) (eCall (one lenD) (aCons (eOp ixD (eVar 0) (eC (.int 0))) aNil)))))
    (sSeq (sSet 2 (eOp ixD (eOp ixD (eVar 0) (eC (.int 0))) (eOp ixD (eVar 0) (eC (.int 1)))))
  (sSeq (sSub (eVar 0) (eC (.int 1)) (eOp addA (eOp ixD (eVar 0) (eC (.int 1))) (eC (.int 1))))
  (sSeq (sSub (eVar 0) (eC (.int 3)) (eOp modI (eCall (one intD) (aCons (eOp addA (eOp addA (eOp mulA (eOp ixD (eVar 0) (eC (.int 3))) (eC (.int 69621))) (eVar 2)) (eC (.int 11))) aNil)) (eC (.int 2147483629))))
  (sIf (eTest (eOp geI (eVar 2) (eOp powI (eC (.int 10)) (eC (.int 18)))))
    (sSub (eVar 0) (eC (.int 2)) (eVar 2))
    sNext))))
    sNext)
  (sSeq (sIf (eTest (eOp gtI (eOp ixD (eVar 0) (eC (.int 2))) (eC (.int 0))))
    (sSeq (sSet 3 (eOp modI (eCall (one intD) (aCons (eOp ixD (eVar 0) (eC (.int 2))) aNil)) (eVar 1)))
  (sSeq (sSub (eVar 0) (eC (.int 2)) (eOp fdivI (eOp ixD (eVar 0) (eC (.int 2))) (eVar 1)))
  (sRet (eVar 3))))
    sNext)
  (sSeq (sSub (eVar 0) (eC (.int 4)) (eOp addA (eOp ixD (eVar 0) (eC (.int 4))) (eC (.int 1))))
  (sSeq (sSet 4 (eOp modI (eCall (one intD) (aCons (eOp mulA (eCall (one intD) (aCons (eOp addA (eOp ixD (eVar 0) (eC (.int 3))) (eOp mulA (eC (.int 7919)) (eOp ixD (eVar 0) (eC (.int 4))))) aNil)) (eC (.int 48271))) aNil)) (eC (.int 2147483647))))
  (sSeq (sSet 4 (eOp modI (eCall (one intD) (aCons (eOp mulA (eVar 4) (eOp addA (eOp fdivI (eVar 4) (eC (.int 1009))) (eC (.int 69621)))) aNil)) (eC (.int 2147483647))))
  (sSeq (sSet 4 (eOp modI (eCall (one intD) (aCons (eOp mulA (eVar 4) (eOp addA (eOp fdivI (eVar 4) (eC (.int 2003))) (eC (.int 40692)))) aNil)) (eC (.int 2147483399))))
  (sRet (eOp modI (eCall (one intD) (aCons (eOp fdivI (eVar 4) (eC (.int 16))) aNil)) (eVar 1)))))))))
noncomputable def m__law_draw : List D → Py D := runD 5 b__law_draw
noncomputable def b__law_any : DEnv → Py Fl :=
  (sRet (eOp ixD (eVar 1) (eCall (nargs 2 m__law_draw) (aCons (eVar 0) (aCons (eCall (one lenD) (aCons (eVar 1) aNil)) aNil)))))
noncomputable def m__law_any : List D → Py D := runD 2 b__law_any
noncomputable def b__law_line_of : DEnv → Py Fl :=
  (sSeq (sPar3 4 5 6 (aCons (eCall (nargs 2 m__law_draw) (aCons (eVar 0) (aCons (eVar 2) aNil))) (aCons (eCall (nargs 2 m__law_draw) (aCons (eVar 0) (aCons (eVar 2) aNil))) (aCons (eCall (nargs 2 m__law_draw) (aCons (eVar 0) (aCons (eC (.int 10)) aNil))) aNil))))
  (sSeq (sIf (tOrD (eTest (eOp (eqS false) (eVar 1) (eC (.int 0)))) (eTest (eOp geI (eCall (nargs 2 m__law_draw) (aCons (eVar 0) (aCons (eC (.int 9)) aNil))) (eVar 3))))
    (sSeq (sIf (eTest (eOp ltI (eVar 6) (eC (.int 4))))
    (sRet (eTup (aCons (eC (.str (PySem.Str.ofString "hue"))) (aCons (eVar 4) (aCons (eCall (nargs 2 m__law_any) (aCons (eVar 0) (aCons (eLst (aCons (eC (.int 0)) (aCons (eC (.int 0)) (aCons (eC (.int 1)) (aCons (eC (.int 1)) (aCons (eCall (nargs 2 m__law_draw) (aCons (eVar 0) (aCons (eC (.int 10)) aNil))) aNil)))))) aNil))) aNil)))))
    sNext)
  (sRet (eIf (eTest (eOp ltI (eVar 6) (eC (.int 6)))) (eTup (aCons (eC (.str (PySem.Str.ofString "same"))) (aCons (eVar 4) (aCons (eVar 5) aNil)))) (eTup (aCons (eC (.str (PySem.Str.ofString "tie"))) (aCons (eCall (nargs 2 m__law_any) (aCons (eVar 0) (aCons (eLst (aCons (eC (.int 0)) (aCons (eC (.int 0)) (aCons (eC (.int 0)) (aCons (eC (.int 1)) (aCons (eCall (nargs 2 m__law_draw) (aCons (eVar 0) (aCons (eC (.int 4)) aNil))) aNil)))))) aNil))) (aCons (eVar 4) (aCons (eVar 5) aNil))))))))
    sNext)
  (sSeq (sSet 7 (eCall (twoD maxI) (aCons (eC (.int 0)) (aCons (eOp subI (eOp subI (eVar 1) (eC (.int 1))) (eCall (nargs 2 m__law_draw) (aCons (eVar 0) (aCons (eC (.int 5)) aNil)))) aNil))))
  (sSeq (sIf (eTest (eOp ltI (eVar 6) (eC (.int 2))))
    (sRet (eTup (aCons (eC (.str (PySem.Str.ofString "not"))) (aCons (eVar 7) aNil))))
    sNext)
  (sSeq (sIf (eTest (eOp ltI (eVar 6) (eC (.int 6))))
    (sSeq (sLc 8 frF (lcAll [9] (iRng1D (aCons (eCall (nargs 2 m__law_any) (aCons (eVar 0) (aCons (eLst (aCons (eC (.int 0)) (aCons (eC (.int 1)) (aCons (eC (.int 2)) (aCons (eC (.int 2)) (aCons (eC (.int 2)) (aCons (eC (.int 3)) aNil))))))) aNil))) aNil)) (gSet 9) tYesD (eCall (twoD maxI) (aCons (eC (.int 0)) (aCons (eOp subI (eOp subI (eVar 1) (eC (.int 1))) (eCall (nargs 2 m__law_draw) (aCons (eVar 0) (aCons (eC (.int 6)) aNil)))) aNil)))))
  (sRet (eTup (aCons (eCall (nargs 2 m__law_any) (aCons (eVar 0) (aCons (eLst (aCons (eC (.str (PySem.Str.ofString "all"))) (aCons (eC (.str (PySem.Str.ofString "some"))) aNil))) aNil))) (aCons (eCall (one tupD) (aCons (eVar 8) aNil)) aNil)))))
    sNext)
  (sRet (eTup (aCons (eC (.str (PySem.Str.ofString "many"))) (aCons (eVar 4) (aCons (eCall (nargs 2 m__law_any) (aCons (eVar 0) (aCons (eLst (aCons (eC (.int 1)) (aCons (eC (.int 1)) (aCons (eC (.int 2)) (aCons (eC (.int 2)) (aCons (eC (.int 3)) (aCons (eOp addA (eC (.int 1)) (eCall (nargs 2 m__law_draw) (aCons (eVar 0) (aCons (eC (.int 40)) aNil)))) aNil))))))) aNil))) (aCons (eVar 7) aNil)))))))))))
noncomputable def m__law_line_of : List D → Py D := runD 10 b__law_line_of
noncomputable def b__law_saying : DEnv → Py Fl :=
  (sRet (eCall (one tupD) (aCons (eLcA frF (lcAll [4] (iRng1D (aCons (eVar 1) aNil)) (gSet 4) tYesD (eCall (nargs 4 m__law_line_of) (aCons (eVar 0) (aCons (eVar 4) (aCons (eVar 2) (aCons (eVar 3) aNil))))))) aNil)))
noncomputable def m__law_saying : List D → Py D := runD 5 b__law_saying
noncomputable def b__law_deep : DEnv → Py Fl :=
  (sSeq (sSet 1 (eCall (nargs 2 m__law_any) (aCons (eVar 0) (aCons (eLst (aCons (eC .non) (aCons (eC (.int 0)) (aCons (eTup aNil) (aCons (eC (.str (PySem.Str.ofString "a"))) aNil))))) aNil))))
  (sSeq (sFor (iRng1D (aCons (eOp addA (eC (.int 20)) (eCall (nargs 2 m__law_draw) (aCons (eVar 0) (aCons (eC (.int 15)) aNil)))) aNil)) (gSet 2)
    (sSet 1 (eIf (eTest (eOp gtI (eCall (nargs 2 m__law_draw) (aCons (eVar 0) (aCons (eC (.int 3)) aNil))) (eC (.int 0)))) (eTup (aCons (eVar 1) aNil)) (eLst (aCons (eVar 1) aNil)))))
  (sRet (eVar 1))))
noncomputable def m__law_deep : List D → Py D := runD 3 b__law_deep
noncomputable def b__law_is_number : DEnv → Py Fl :=
  (sRet (eAnd (eCall (twoD (isiTs allTs)) (aCons (eVar 0) (aCons (eC (.ty "int")) aNil))) (eAnd (eNot (eCall (twoD (isiTs allTs)) (aCons (eVar 0) (aCons (eC (.ty "bool")) aNil)))) (eChain leI leI (eVar 1) (eVar 0) (eVar 2)))))
noncomputable def m__law_is_number : List D → Py D := runD 3 b__law_is_number
noncomputable def b__law_are_lines : DEnv → Py Fl :=
  (sRet (eAnd (eCall (twoD (isiTs allTs)) (aCons (eVar 0) (aCons (eC (.ty "tuple")) aNil))) (eCall (one (blsD fun bs => bs.all _root_.id)) (aCons (eLcA frF (lcAll [2] (iSeq wkA (eVar 0)) (gSet 2) tYesD (eCall (nargs 3 m__law_is_number) (aCons (eVar 2) (aCons (eC (.int 0)) (aCons (eOp subI (eVar 1) (eC (.int 1))) aNil)))))) aNil))))
noncomputable def m__law_are_lines : List D → Py D := runD 3 b__law_are_lines
noncomputable def b__law_is_line : DEnv → Py Fl :=
  (sSeq (sIf (tOrD (tNotD (eTest (eCall (twoD (isiTs allTs)) (aCons (eVar 0) (aCons (eC (.ty "tuple")) aNil))))) (tOrD (eTest (eOp ltI (eCall (one lenD) (aCons (eVar 0) aNil)) (eC (.int 2)))) (tNotD (eTest (eCall (twoD (isiTs allTs)) (aCons (eOp ixD (eVar 0) (eC (.int 0))) (aCons (eC (.ty "str")) aNil)))))))
    (sRet (eC (.bl false)))
    sNext)
  (sSeq (sPar 2 3 (aCons (eOp ixD (eVar 0) (eC (.int 0))) (aCons (eCall (one lenD) (aCons (eVar 0) aNil)) aNil)))
  (sSeq (sIf (eTest (eOp (eqS false) (eVar 2) (eC (.str (PySem.Str.ofString "hue")))))
    (sRet (eAnd (eOp (eqS false) (eVar 3) (eC (.int 3))) (eAnd (eCall (nargs 3 m__law_is_number) (aCons (eOp ixD (eVar 0) (eC (.int 1))) (aCons (eC (.int 0)) (aCons (eC (.int 3)) aNil)))) (eCall (nargs 3 m__law_is_number) (aCons (eOp ixD (eVar 0) (eC (.int 2))) (aCons (eC (.int 0)) (aCons (eC (.int 9)) aNil)))))))
    sNext)
  (sSeq (sIf (eTest (eOp (eqS false) (eVar 2) (eC (.str (PySem.Str.ofString "same")))))
    (sRet (eAnd (eOp (eqS false) (eVar 3) (eC (.int 3))) (eAnd (eCall (nargs 3 m__law_is_number) (aCons (eOp ixD (eVar 0) (eC (.int 1))) (aCons (eC (.int 0)) (aCons (eC (.int 3)) aNil)))) (eCall (nargs 3 m__law_is_number) (aCons (eOp ixD (eVar 0) (eC (.int 2))) (aCons (eC (.int 0)) (aCons (eC (.int 3)) aNil)))))))
    sNext)
  (sSeq (sIf (eTest (eOp (eqS false) (eVar 2) (eC (.str (PySem.Str.ofString "tie")))))
    (sRet (eAnd (eOp (eqS false) (eVar 3) (eC (.int 4))) (eCall (one (blsD fun bs => bs.all _root_.id)) (aCons (eLcA frF (lcAll [4] (iSeq wkA (eSl (eVar 0) (oSome (eC (.int 1))) oNone)) (gSet 4) tYesD (eCall (nargs 3 m__law_is_number) (aCons (eVar 4) (aCons (eC (.int 0)) (aCons (eC (.int 3)) aNil)))))) aNil))))
    sNext)
  (sSeq (sIf (eTest (eOp (eqS false) (eVar 2) (eC (.str (PySem.Str.ofString "not")))))
    (sRet (eAnd (eOp (eqS false) (eVar 3) (eC (.int 2))) (eCall (nargs 3 m__law_is_number) (aCons (eOp ixD (eVar 0) (eC (.int 1))) (aCons (eC (.int 0)) (aCons (eOp subI (eVar 1) (eC (.int 1))) aNil))))))
    sNext)
  (sSeq (sIf (eTest (eOp (inTD false) (eVar 2) (eTup (aCons (eC (.str (PySem.Str.ofString "all"))) (aCons (eC (.str (PySem.Str.ofString "some"))) aNil)))))
    (sRet (eAnd (eOp (eqS false) (eVar 3) (eC (.int 2))) (eCall (nargs 2 m__law_are_lines) (aCons (eOp ixD (eVar 0) (eC (.int 1))) (aCons (eVar 1) aNil)))))
    sNext)
  (sSeq (sIf (tOrD (eTest (eOp (eqS true) (eVar 2) (eC (.str (PySem.Str.ofString "many"))))) (tOrD (eTest (eOp (eqS true) (eVar 3) (eC (.int 4)))) (tNotD (eTest (eCall (nargs 3 m__law_is_number) (aCons (eOp ixD (eVar 0) (eC (.int 1))) (aCons (eC (.int 0)) (aCons (eC (.int 3)) aNil))))))))
    (sRet (eC (.bl false)))
    sNext)
  (sRet (eAnd (eCall (nargs 3 m__law_is_number) (aCons (eOp ixD (eVar 0) (eC (.int 2))) (aCons (eC (.int 1)) (aCons (eC (.int 40)) aNil)))) (eCall (nargs 3 m__law_is_number) (aCons (eOp ixD (eVar 0) (eC (.int 3))) (aCons (eC (.int 0)) (aCons (eOp subI (eVar 1) (eC (.int 1))) aNil))))))))))))))
noncomputable def m__law_is_line : List D → Py D := runD 5 b__law_is_line
noncomputable def b__law_is_saying : DEnv → Py Fl :=
  (sSeq (sIf (tOrD (tNotD (eTest (eCall (twoD (isiTs allTs)) (aCons (eVar 0) (aCons (eC (.ty "tuple")) aNil))))) (eTest (eOp (eqS false) (eCall (one lenD) (aCons (eVar 0) aNil)) (eC (.int 0)))))
    (sRet (eC (.bl false)))
    sNext)
  (sRet (eCall (one (blsD fun bs => bs.all _root_.id)) (aCons (eLcA frF (lcAll [1, 2] (iEnumD wkLT (aCons (eVar 0) aNil)) (gUnp 2 (gsCons (gSet 1) (gsCons (gSet 2) gsNil))) tYesD (eCall (nargs 2 m__law_is_line) (aCons (eVar 2) (aCons (eVar 1) aNil))))) aNil))))
noncomputable def m__law_is_saying : List D → Py D := runD 3 b__law_is_saying
noncomputable def b__law_odd : DEnv → Py Fl :=
  (sSeq (sSet 2 (eLst (aCons (eC (.int 4)) (aCons (eUn negI (eC (.int 1))) (aCons (eC (.int 41)) (aCons (eC (.int 10)) (aCons (eC (.int 0)) (aCons (eC (.int 1)) (aCons (eC (.bl true)) (aCons (eC (.bl false)) (aCons (eC .non) (aCons (eC (.str (PySem.Str.ofString "0"))) (aCons (eC (.str (PySem.Str.ofString ""))) (aCons (eTup (aCons (eC (.int 0)) aNil)) (aCons (eLst (aCons (eC (.int 0)) aNil)) (aCons (eTup aNil) (aCons (eC (.dk [])) (aCons (eOp powI (eC (.int 10)) (eC (.int 29))) (aCons (eVar 1) (aCons (eOp addA (eVar 1) (eC (.int 1))) (aCons (eCall (twoD maxI) (aCons (eC (.int 0)) (aCons (eOp subI (eVar 1) (eC (.int 1))) aNil))) aNil)))))))))))))))))))))
  (sRet (eCall (nargs 2 m__law_any) (aCons (eVar 0) (aCons (eOp addA (eVar 2) (eLst (aCons (eCall (nargs 1 m__law_deep) (aCons (eVar 0) aNil)) aNil))) aNil)))))
noncomputable def m__law_odd : List D → Py D := runD 3 b__law_odd
noncomputable def b__law_bent_line : DEnv → Py Fl :=
  (sSeq (sSet 3 (eCall (nargs 2 m__law_draw) (aCons (eVar 0) (aCons (eC (.int 6)) aNil))))
  (sSeq (sIf (tAndD (eTest (eOp (inTD false) (eOp ixD (eVar 1) (eC (.int 0))) (eTup (aCons (eC (.str (PySem.Str.ofString "hue"))) (aCons (eC (.str (PySem.Str.ofString "many"))) (aCons (eC (.str (PySem.Str.ofString "tie"))) aNil)))))) (tAndD (eTest (eOp gtI (eCall (one lenD) (aCons (eVar 1) aNil)) (eC (.int 2)))) (eTest (eOp (eqS false) (eCall (nargs 2 m__law_draw) (aCons (eVar 0) (aCons (eC (.int 3)) aNil))) (eC (.int 0))))))
    (sSeq (sAsg (eOp dixD (eDisp (pCons (eC (.str (PySem.Str.ofString "hue"))) (eTup (aCons (eC (.int 2)) (aCons (eLst (aCons (eC (.int 10)) (aCons (eC (.int 9)) aNil))) aNil))) (pCons (eC (.str (PySem.Str.ofString "many"))) (eTup (aCons (eC (.int 2)) (aCons (eLst (aCons (eC (.int 0)) (aCons (eC (.int 41)) (aCons (eC (.int 40)) (aCons (eC (.int 1)) aNil))))) aNil))) (pCons (eC (.str (PySem.Str.ofString "tie"))) (eTup (aCons (eC (.int 1)) (aCons (eLst (aCons (eC (.int 4)) (aCons (eC (.int 3)) aNil))) aNil))) pNil)))) (eOp ixD (eVar 1) (eC (.int 0)))) (gUnp 2 (gsCons (gSet 4) (gsCons (gSet 5) gsNil))))
  (sRet (eOp addA (eOp addA (eSl (eVar 1) oNone (oSome (eVar 4))) (eTup (aCons (eCall (nargs 2 m__law_any) (aCons (eVar 0) (aCons (eVar 5) aNil))) aNil))) (eSl (eVar 1) (oSome (eOp addA (eVar 4) (eC (.int 1)))) oNone))))
    sNext)
  (sSeq (sIf (eTest (eOp (eqS false) (eVar 3) (eC (.int 0))))
    (sSeq (sSet 5 (eLst (aCons (eC (.str (PySem.Str.ofString "Hue"))) (aCons (eC (.str (PySem.Str.ofString ""))) (aCons (eC .non) (aCons (eC (.int 5)) (aCons (eC (.str (PySem.Str.ofString "hues"))) (aCons (eC (.str (PySem.Str.ofString "all"))) (aCons (eC (.str (PySem.Str.ofString "some"))) (aCons (eC (.str (PySem.Str.ofString "same"))) (aCons (eC (.str (PySem.Str.ofString "not"))) (aCons (eC (.str (PySem.Str.ofString "many"))) (aCons (eC (.str (PySem.Str.ofString "tie"))) (aCons (eTup (aCons (eC (.str (PySem.Str.ofString "not"))) aNil)) (aCons (eC (.bl true)) aNil)))))))))))))))
  (sRet (eOp addA (eTup (aCons (eCall (nargs 2 m__law_any) (aCons (eVar 0) (aCons (eVar 5) aNil))) aNil)) (eSl (eVar 1) (oSome (eC (.int 1))) oNone))))
    sNext)
  (sSeq (sIf (eTest (eOp (eqS false) (eVar 3) (eC (.int 1))))
    (sRet (eCall (nargs 2 m__law_any) (aCons (eVar 0) (aCons (eLst (aCons (eOp addA (eVar 1) (eTup (aCons (eC (.int 0)) aNil))) (aCons (eSl (eVar 1) oNone (oSome (eUn negI (eC (.int 1))))) (aCons (eSl (eVar 1) oNone (oSome (eC (.int 1)))) (aCons (eCall (one lstD) (aCons (eVar 1) aNil)) (aCons (eSl (eVar 1) (oSome (eC (.int 1))) oNone) (aCons (eOp addA (eVar 1) (eSl (eVar 1) oNone (oSome (eC (.int 1))))) aNil))))))) aNil))))
    sNext)
  (sSeq (sIf (tAndD (eTest (eOp (eqS false) (eVar 3) (eC (.int 2)))) (tAndD (eTest (eOp (inTD false) (eOp ixD (eVar 1) (eC (.int 0))) (eTup (aCons (eC (.str (PySem.Str.ofString "all"))) (aCons (eC (.str (PySem.Str.ofString "some"))) aNil))))) (eTest (eCall (twoD (isiTs allTs)) (aCons (eOp ixD (eVar 1) (eC (.int 1))) (aCons (eC (.ty "tuple")) aNil))))))
    (sSeq (sSet 5 (eLst (aCons (eCall (one lstD) (aCons (eOp ixD (eVar 1) (eC (.int 1))) aNil)) (aCons (eOp addA (eOp ixD (eVar 1) (eC (.int 1))) (eTup (aCons (eCall (nargs 2 m__law_odd) (aCons (eVar 0) (aCons (eVar 2) aNil))) aNil))) (aCons (eOp addA (eTup (aCons (eCall (nargs 2 m__law_odd) (aCons (eVar 0) (aCons (eVar 2) aNil))) aNil)) (eOp ixD (eVar 1) (eC (.int 1)))) (aCons (eC .non) (aCons (eVar 2) (aCons (eTup (aCons (eOp ixD (eVar 1) (eC (.int 1))) aNil)) aNil))))))))
  (sRet (eTup (aCons (eOp ixD (eVar 1) (eC (.int 0))) (aCons (eCall (nargs 2 m__law_any) (aCons (eVar 0) (aCons (eVar 5) aNil))) aNil)))))
    sNext)
  (sSeq (sIf (eTest (eOp (eqS false) (eVar 3) (eC (.int 3))))
    (sRet (eCall (nargs 2 m__law_odd) (aCons (eVar 0) (aCons (eVar 2) aNil))))
    sNext)
  (sSeq (sSet 4 (eOp addA (eC (.int 1)) (eCall (nargs 2 m__law_draw) (aCons (eVar 0) (aCons (eOp subI (eCall (one lenD) (aCons (eVar 1) aNil)) (eC (.int 1))) aNil)))))
  (sRet (eOp addA (eOp addA (eSl (eVar 1) oNone (oSome (eVar 4))) (eTup (aCons (eCall (nargs 2 m__law_odd) (aCons (eVar 0) (aCons (eVar 2) aNil))) aNil))) (eSl (eVar 1) (oSome (eOp addA (eVar 4) (eC (.int 1)))) oNone))))))))))
noncomputable def m__law_bent_line : List D → Py D := runD 6 b__law_bent_line
noncomputable def b__law_just_out : DEnv → Py Fl :=
  (sSeq (sSet 3 (eOp ixD (eVar 1) (eC (.int 0))))
  (sSeq (sLc 4 frF (lcAll [5] (iRng2D (aCons (eC (.int 1)) (aCons (eCall (one lenD) (aCons (eVar 1) aNil)) aNil))) (gSet 5) (eTest (eOp (eqS false) (eOp ixD (eVar 1) (eVar 5)) (eC (.int 1)))) (eVar 5)))
  (sSeq (sIf (tAndD (eTest (eOp gtI (eCall (one lenD) (aCons (eVar 4) aNil)) (eC (.int 0)))) (eTest (eOp (eqS false) (eCall (nargs 2 m__law_draw) (aCons (eVar 0) (aCons (eC (.int 4)) aNil))) (eC (.int 0)))))
    (sRet (eOp addA (eOp addA (eSl (eVar 1) oNone (oSome (eOp ixD (eVar 4) (eC (.int 0))))) (eTup (aCons (eC (.bl true)) aNil))) (eSl (eVar 1) (oSome (eOp addA (eOp ixD (eVar 4) (eC (.int 0))) (eC (.int 1)))) oNone)))
    sNext)
  (sSeq (sIf (eTest (eOp (eqS false) (eVar 3) (eC (.str (PySem.Str.ofString "hue")))))
    (sRet (eCall (nargs 2 m__law_any) (aCons (eVar 0) (aCons (eLst (aCons (eTup (aCons (eC (.str (PySem.Str.ofString "hue"))) (aCons (eC (.int 4)) (aCons (eOp ixD (eVar 1) (eC (.int 2))) aNil)))) (aCons (eTup (aCons (eC (.str (PySem.Str.ofString "hue"))) (aCons (eOp ixD (eVar 1) (eC (.int 1))) (aCons (eC (.int 10)) aNil)))) (aCons (eTup (aCons (eC (.str (PySem.Str.ofString "hue"))) (aCons (eOp ixD (eVar 1) (eC (.int 1))) (aCons (eUn negI (eC (.int 1))) aNil)))) aNil)))) aNil))))
    sNext)
  (sSeq (sIf (eTest (eOp (eqS false) (eVar 3) (eC (.str (PySem.Str.ofString "same")))))
    (sRet (eCall (nargs 2 m__law_any) (aCons (eVar 0) (aCons (eLst (aCons (eTup (aCons (eC (.str (PySem.Str.ofString "same"))) (aCons (eOp ixD (eVar 1) (eC (.int 1))) (aCons (eC (.int 4)) aNil)))) (aCons (eTup (aCons (eC (.str (PySem.Str.ofString "same"))) (aCons (eC (.int 4)) (aCons (eOp ixD (eVar 1) (eC (.int 2))) aNil)))) aNil))) aNil))))
    sNext)
  (sSeq (sIf (eTest (eOp (eqS false) (eVar 3) (eC (.str (PySem.Str.ofString "tie")))))
    (sRet (eCall (nargs 2 m__law_any) (aCons (eVar 0) (aCons (eLst (aCons (eOp addA (eTup (aCons (eC (.str (PySem.Str.ofString "tie"))) (aCons (eC (.int 4)) aNil))) (eSl (eVar 1) (oSome (eC (.int 2))) oNone)) (aCons (eOp addA (eSl (eVar 1) oNone (oSome (eC (.int 2)))) (eTup (aCons (eC (.int 4)) (aCons (eOp ixD (eVar 1) (eC (.int 3))) aNil)))) (aCons (eOp addA (eSl (eVar 1) oNone (oSome (eC (.int 3)))) (eTup (aCons (eC (.int 4)) aNil))) aNil)))) aNil))))
    sNext)
  (sSeq (sIf (eTest (eOp (eqS false) (eVar 3) (eC (.str (PySem.Str.ofString "not")))))
    (sRet (eCall (nargs 2 m__law_any) (aCons (eVar 0) (aCons (eLst (aCons (eTup (aCons (eC (.str (PySem.Str.ofString "not"))) (aCons (eVar 2) aNil))) (aCons (eTup (aCons (eC (.str (PySem.Str.ofString "not"))) (aCons (eUn negI (eC (.int 1))) aNil))) aNil))) aNil))))
    sNext)
  (sSeq (sIf (eTest (eOp (eqS false) (eVar 3) (eC (.str (PySem.Str.ofString "many")))))
    (sSeq (sSet 6 (eLst (aCons (eOp addA (eTup (aCons (eC (.str (PySem.Str.ofString "many"))) (aCons (eC (.int 4)) aNil))) (eSl (eVar 1) (oSome (eC (.int 2))) oNone)) (aCons (eOp addA (eSl (eVar 1) oNone (oSome (eC (.int 2)))) (eTup (aCons (eC (.int 0)) (aCons (eOp ixD (eVar 1) (eC (.int 3))) aNil)))) (aCons (eOp addA (eSl (eVar 1) oNone (oSome (eC (.int 2)))) (eTup (aCons (eC (.int 41)) (aCons (eOp ixD (eVar 1) (eC (.int 3))) aNil)))) (aCons (eOp addA (eSl (eVar 1) oNone (oSome (eC (.int 3)))) (eTup (aCons (eVar 2) aNil))) aNil))))))
  (sRet (eCall (nargs 2 m__law_any) (aCons (eVar 0) (aCons (eOp addA (eVar 6) (eLst (aCons (eOp addA (eSl (eVar 1) oNone (oSome (eC (.int 3)))) (eTup (aCons (eUn negI (eC (.int 1))) aNil))) aNil))) aNil)))))
    sNext)
  (sRet (eTup (aCons (eVar 3) (aCons (eCall (nargs 2 m__law_any) (aCons (eVar 0) (aCons (eLst (aCons (eOp addA (eOp ixD (eVar 1) (eC (.int 1))) (eTup (aCons (eVar 2) aNil))) (aCons (eOp addA (eTup (aCons (eVar 2) aNil)) (eOp ixD (eVar 1) (eC (.int 1)))) (aCons (eOp addA (eOp ixD (eVar 1) (eC (.int 1))) (eTup (aCons (eUn negI (eC (.int 1))) aNil))) (aCons (eCall (one lstD) (aCons (eOp ixD (eVar 1) (eC (.int 1))) aNil)) aNil))))) aNil))) aNil))))))))))))
noncomputable def m__law_just_out : List D → Py D := runD 7 b__law_just_out
noncomputable def b__law_bent : DEnv → Py Fl :=
  (sSeq (sIf (eTest (eOp (eqS false) (eCall (nargs 2 m__law_draw) (aCons (eVar 0) (aCons (eC (.int 6)) aNil))) (eC (.int 0))))
    (sSeq (sSet 2 (eLst (aCons (eCall (one lstD) (aCons (eVar 1) aNil)) (aCons (eTup aNil) (aCons (eC .non) (aCons (eOp ixD (eVar 1) (eC (.int 0))) (aCons (eOp addA (eVar 1) (eTup (aCons (eC .non) aNil))) (aCons (eSl (eVar 1) (oSome (eC (.int 1))) oNone) (aCons (eTup (aCons (eVar 1) aNil)) (aCons (eRev (eVar 1)) (aCons (eC (.bl true)) (aCons (eC (.str (PySem.Str.ofString "hue"))) aNil))))))))))))
  (sRet (eCall (nargs 2 m__law_any) (aCons (eVar 0) (aCons (eOp addA (eVar 2) (eLst (aCons (eC (.dk [])) (aCons (eC (.int 0)) (aCons (eCall (nargs 1 m__law_deep) (aCons (eVar 0) aNil)) (aCons (eOp addA (eVar 1) (eVar 1)) aNil)))))) aNil)))))
    sNext)
  (sSeq (sSet 3 (eCall (nargs 2 m__law_draw) (aCons (eVar 0) (aCons (eCall (one lenD) (aCons (eVar 1) aNil)) aNil))))
  (sSeq (sSet 4 (eOp ixD (eVar 1) (eVar 3)))
  (sSeq (sIf (tOrD (tNotD (eTest (eCall (twoD (isiTs allTs)) (aCons (eVar 4) (aCons (eC (.ty "tuple")) aNil))))) (eTest (eOp ltI (eCall (one lenD) (aCons (eVar 4) aNil)) (eC (.int 2)))))
    (sRet (eVar 1))
    sNext)
  (sRet (eOp addA (eOp addA (eSl (eVar 1) oNone (oSome (eVar 3))) (eTup (aCons (eCall (nargs 3 m__law_bent_line) (aCons (eVar 0) (aCons (eVar 4) (aCons (eVar 3) aNil)))) aNil))) (eSl (eVar 1) (oSome (eOp addA (eVar 3) (eC (.int 1)))) oNone)))))))
noncomputable def m__law_bent : List D → Py D := runD 5 b__law_bent
noncomputable def b__law_flag : DEnv → Py Fl :=
  (sRet (eAnd (eCall (twoD (isiTs allTs)) (aCons (eVar 0) (aCons (eC (.ty "bool")) aNil))) (eOp (eqS false) (eVar 0) (eVar 1))))
noncomputable def m__law_flag : List D → Py D := runD 2 b__law_flag
noncomputable def b__law_long_right : DEnv → Py Fl :=
  (sSeq (sSet 1 (eCall (nargs 4 m__law_saying) (aCons (eVar 0) (aCons (eOp addA (eC (.int 1000)) (eCall (nargs 2 m__law_draw) (aCons (eVar 0) (aCons (eC (.int 3000)) aNil)))) (aCons (eC (.int 4)) (aCons (eC (.int 8)) aNil))))))
  (sSeq (sIf (tNotD (eTest (eCall (nargs 2 m__law_flag) (aCons (eCall (nargs 1 m_is_saying) (aCons (eVar 1) aNil)) (aCons (eC (.bl true)) aNil)))))
    (sRet (eC (.bl false)))
    sNext)
  (sSeq (sSet 2 (eOp subI (eOp subI (eCall (one lenD) (aCons (eVar 1) aNil)) (eC (.int 1))) (eCall (nargs 2 m__law_draw) (aCons (eVar 0) (aCons (eC (.int 20)) aNil)))))
  (sSeq (sSet 3 (eOp addA (eOp addA (eSl (eVar 1) oNone (oSome (eVar 2))) (eTup (aCons (eCall (nargs 3 m__law_bent_line) (aCons (eVar 0) (aCons (eOp ixD (eVar 1) (eVar 2)) (aCons (eVar 2) aNil)))) aNil))) (eSl (eVar 1) (oSome (eOp addA (eVar 2) (eC (.int 1)))) oNone)))
  (sRet (eCall (nargs 2 m__law_flag) (aCons (eCall (nargs 1 m_is_saying) (aCons (eVar 3) aNil)) (aCons (eCall (nargs 1 m__law_is_saying) (aCons (eVar 3) aNil)) aNil))))))))
noncomputable def m__law_long_right : List D → Py D := runD 4 b__law_long_right
noncomputable def b_law : DEnv → Py Fl :=
  (sSeq (sSet 1 (eCall (nargs 1 m__law_pot) (aCons (eVar 0) aNil)))
  (sSeq (sIf (tAndD (eTest (eOp (eqS false) (eCall (nargs 2 m__law_draw) (aCons (eVar 1) (aCons (eC (.int 10)) aNil))) (eC (.int 0)))) (tNotD (eTest (eCall (nargs 1 m__law_long_right) (aCons (eVar 1) aNil)))))
    (sRet (eC (.bl false)))
    sNext)
  (sSeq (sFor (iRng1D (aCons (eC (.int 8)) aNil)) (gSet 2)
    (sSeq (sSet 3 (eCall (nargs 4 m__law_saying) (aCons (eVar 1) (aCons (eOp addA (eC (.int 1)) (eCall (nargs 2 m__law_draw) (aCons (eVar 1) (aCons (eC (.int 12)) aNil)))) (aCons (eOp addA (eC (.int 1)) (eCall (nargs 2 m__law_draw) (aCons (eVar 1) (aCons (eC (.int 4)) aNil)))) (aCons (eCall (nargs 2 m__law_any) (aCons (eVar 1) (aCons (eLst (aCons (eC (.int 2)) (aCons (eC (.int 5)) (aCons (eC (.int 8)) (aCons (eC (.int 9)) aNil))))) aNil))) aNil))))))
  (sSeq (sIf (tOrD (tNotD (eTest (eCall (nargs 2 m__law_flag) (aCons (eCall (nargs 1 m_is_saying) (aCons (eVar 3) aNil)) (aCons (eC (.bl true)) aNil))))) (tNotD (eTest (eCall (nargs 1 m__law_is_saying) (aCons (eVar 3) aNil)))))
    (sRet (eC (.bl false)))
    sNext)
  (sSeq (sFor (iEnumD wkLT (aCons (eVar 3) aNil)) (gUnp 2 (gsCons (gSet 4) (gsCons (gSet 5) gsNil)))
    (sIf (tNotD (eTest (eCall (nargs 2 m__law_flag) (aCons (eCall (nargs 1 m_is_saying) (aCons (eOp addA (eOp addA (eSl (eVar 3) oNone (oSome (eVar 4))) (eTup (aCons (eCall (nargs 3 m__law_just_out) (aCons (eVar 1) (aCons (eVar 5) (aCons (eVar 4) aNil)))) aNil))) (eSl (eVar 3) (oSome (eOp addA (eVar 4) (eC (.int 1)))) oNone)) aNil)) (aCons (eC (.bl false)) aNil)))))
    (sRet (eC (.bl false)))
    sNext))
  (sSeq (sSet 6 (eVar 3))
  (sFor (iRng1D (aCons (eOp addA (eC (.int 1)) (eCall (nargs 2 m__law_draw) (aCons (eVar 1) (aCons (eC (.int 3)) aNil)))) aNil)) (gSet 7)
    (sSeq (sSet 6 (eIf (tAndD (eTest (eCall (twoD (isiTs allTs)) (aCons (eVar 6) (aCons (eC (.ty "tuple")) aNil)))) (eTest (eOp gtI (eCall (one lenD) (aCons (eVar 6) aNil)) (eC (.int 0))))) (eCall (nargs 2 m__law_bent) (aCons (eVar 1) (aCons (eVar 6) aNil))) (eVar 6)))
  (sIf (tNotD (eTest (eCall (nargs 2 m__law_flag) (aCons (eCall (nargs 1 m_is_saying) (aCons (eVar 6) aNil)) (aCons (eCall (nargs 1 m__law_is_saying) (aCons (eVar 6) aNil)) aNil)))))
    (sRet (eC (.bl false)))
    sNext))))))))
  (sRet (eCall (nargs 2 m__law_flag) (aCons (eCall (nargs 1 m_is_saying) (aCons (eCall (nargs 2 m__law_odd) (aCons (eVar 1) (aCons (eC (.int 0)) aNil))) aNil)) (aCons (eC (.bl false)) aNil)))))))
noncomputable def m_law : List D → Py D := runD 8 b_law
end Qk18
set_option Elab.async false
set_option linter.all false
set_option maxRecDepth 100000
set_option maxHeartbeats 4000000
set_option autoImplicit false
namespace Qk18
open PySem PySem.Spec L2 L3
open PyProof.Rows hiding St
def top (i : Nat) : Stmt := PySem.Challenge.pw_levelkin_k18_whole_sayings_judged.main.body.getD i (.Pass ⟨0, 0, 0, 0⟩)
abbrev s_is_integer : Stmt := top 1
abbrev N_is_integer : List Str := ["thing"]
theorem sc_is_integer : FnScope N_is_integer ["thing"] (defScope s_is_integer) := ⟨rfl, rfl, rfl, by decide +kernel, rfl, by decide +kernel, by decide +kernel⟩
abbrev s_is_within : Stmt := top 2
abbrev N_is_within : List Str := ["thing", "least", "most"]
theorem sc_is_within : FnScope N_is_within ["thing", "least", "most"] (defScope s_is_within) := ⟨rfl, rfl, rfl, by decide +kernel, rfl, by decide +kernel, by decide +kernel⟩
abbrev s_is_number : Stmt := top 3
abbrev N_is_number : List Str := ["thing", "most"]
theorem sc_is_number : FnScope N_is_number ["thing", "most"] (defScope s_is_number) := ⟨rfl, rfl, rfl, by decide +kernel, rfl, by decide +kernel, by decide +kernel⟩
abbrev s_is_name : Stmt := top 16
abbrev N_is_name : List Str := ["thing"]
theorem sc_is_name : FnScope N_is_name ["thing"] (defScope s_is_name) := ⟨rfl, rfl, rfl, by decide +kernel, rfl, by decide +kernel, by decide +kernel⟩
abbrev s_is_plain_line : Stmt := top 17
abbrev N_is_plain_line : List Str := ["thing"]
theorem sc_is_plain_line : FnScope N_is_plain_line ["thing"] (defScope s_is_plain_line) := ⟨rfl, rfl, rfl, by decide +kernel, rfl, by decide +kernel, by decide +kernel⟩
abbrev s_is_line : Stmt := top 18
abbrev N_is_line : List Str := ["thing", "number", "line"]
theorem sc_is_line : FnScope N_is_line ["thing", "number"] (defScope s_is_line) := ⟨rfl, rfl, rfl, by decide +kernel, rfl, by decide +kernel, by decide +kernel⟩
abbrev s_is_saying : Stmt := top 19
abbrev N_is_saying : List Str := ["thing", "number", "line"]
theorem sc_is_saying : FnScope N_is_saying ["thing"] (defScope s_is_saying) := ⟨rfl, rfl, rfl, by decide +kernel, rfl, by decide +kernel, by decide +kernel⟩
abbrev s__law_pot : Stmt := top 21
abbrev N__law_pot : List Str := ["script", "cells", "cell"]
theorem sc__law_pot : FnScope N__law_pot ["script"] (defScope s__law_pot) := ⟨rfl, rfl, rfl, by decide +kernel, rfl, by decide +kernel, by decide +kernel⟩
abbrev s__law_draw : Stmt := top 22
abbrev N__law_draw : List Str := ["pot", "many", "cell", "digit", "number"]
theorem sc__law_draw : FnScope N__law_draw ["pot", "many"] (defScope s__law_draw) := ⟨rfl, rfl, rfl, by decide +kernel, rfl, by decide +kernel, by decide +kernel⟩
abbrev s__law_any : Stmt := top 23
abbrev N__law_any : List Str := ["pot", "things"]
theorem sc__law_any : FnScope N__law_any ["pot", "things"] (defScope s__law_any) := ⟨rfl, rfl, rfl, by decide +kernel, rfl, by decide +kernel, by decide +kernel⟩
abbrev s__law_line_of : Stmt := top 24
abbrev N__law_line_of : List Str := ["pot", "at", "most", "deeper", "i", "j", "kind", "near", "some", "turn"]
theorem sc__law_line_of : FnScope N__law_line_of ["pot", "at", "most", "deeper"] (defScope s__law_line_of) := ⟨rfl, rfl, rfl, by decide +kernel, rfl, by decide +kernel, by decide +kernel⟩
abbrev s__law_saying : Stmt := top 25
abbrev N__law_saying : List Str := ["pot", "lines", "most", "deeper", "at"]
theorem sc__law_saying : FnScope N__law_saying ["pot", "lines", "most", "deeper"] (defScope s__law_saying) := ⟨rfl, rfl, rfl, by decide +kernel, rfl, by decide +kernel, by decide +kernel⟩
abbrev s__law_deep : Stmt := top 26
abbrev N__law_deep : List Str := ["pot", "thing", "turn"]
theorem sc__law_deep : FnScope N__law_deep ["pot"] (defScope s__law_deep) := ⟨rfl, rfl, rfl, by decide +kernel, rfl, by decide +kernel, by decide +kernel⟩
abbrev s__law_is_number : Stmt := top 27
abbrev N__law_is_number : List Str := ["thing", "least", "most"]
theorem sc__law_is_number : FnScope N__law_is_number ["thing", "least", "most"] (defScope s__law_is_number) := ⟨rfl, rfl, rfl, by decide +kernel, rfl, by decide +kernel, by decide +kernel⟩
abbrev s__law_are_lines : Stmt := top 28
abbrev N__law_are_lines : List Str := ["thing", "at", "one"]
theorem sc__law_are_lines : FnScope N__law_are_lines ["thing", "at"] (defScope s__law_are_lines) := ⟨rfl, rfl, rfl, by decide +kernel, rfl, by decide +kernel, by decide +kernel⟩
abbrev s__law_is_line : Stmt := top 29
abbrev N__law_is_line : List Str := ["thing", "at", "word", "size", "one"]
theorem sc__law_is_line : FnScope N__law_is_line ["thing", "at"] (defScope s__law_is_line) := ⟨rfl, rfl, rfl, by decide +kernel, rfl, by decide +kernel, by decide +kernel⟩
abbrev s__law_is_saying : Stmt := top 30
abbrev N__law_is_saying : List Str := ["thing", "at", "line"]
theorem sc__law_is_saying : FnScope N__law_is_saying ["thing"] (defScope s__law_is_saying) := ⟨rfl, rfl, rfl, by decide +kernel, rfl, by decide +kernel, by decide +kernel⟩
abbrev s__law_odd : Stmt := top 31
abbrev N__law_odd : List Str := ["pot", "at", "some"]
theorem sc__law_odd : FnScope N__law_odd ["pot", "at"] (defScope s__law_odd) := ⟨rfl, rfl, rfl, by decide +kernel, rfl, by decide +kernel, by decide +kernel⟩
abbrev s__law_bent_line : Stmt := top 32
abbrev N__law_bent_line : List Str := ["pot", "line", "at", "kind", "place", "some"]
theorem sc__law_bent_line : FnScope N__law_bent_line ["pot", "line", "at"] (defScope s__law_bent_line) := ⟨rfl, rfl, rfl, by decide +kernel, rfl, by decide +kernel, by decide +kernel⟩
abbrev s__law_just_out : Stmt := top 33
abbrev N__law_just_out : List Str := ["pot", "line", "at", "word", "ones", "k", "some"]
theorem sc__law_just_out : FnScope N__law_just_out ["pot", "line", "at"] (defScope s__law_just_out) := ⟨rfl, rfl, rfl, by decide +kernel, rfl, by decide +kernel, by decide +kernel⟩
abbrev s__law_bent : Stmt := top 34
abbrev N__law_bent : List Str := ["pot", "saying", "some", "at", "line"]
theorem sc__law_bent : FnScope N__law_bent ["pot", "saying"] (defScope s__law_bent) := ⟨rfl, rfl, rfl, by decide +kernel, rfl, by decide +kernel, by decide +kernel⟩
abbrev s__law_flag : Stmt := top 35
abbrev N__law_flag : List Str := ["told", "due"]
theorem sc__law_flag : FnScope N__law_flag ["told", "due"] (defScope s__law_flag) := ⟨rfl, rfl, rfl, by decide +kernel, rfl, by decide +kernel, by decide +kernel⟩
abbrev s__law_long_right : Stmt := top 36
abbrev N__law_long_right : List Str := ["pot", "saying", "at", "thing"]
theorem sc__law_long_right : FnScope N__law_long_right ["pot"] (defScope s__law_long_right) := ⟨rfl, rfl, rfl, by decide +kernel, rfl, by decide +kernel, by decide +kernel⟩
abbrev s_law : Stmt := top 37
abbrev N_law : List Str := ["script", "pot", "turn", "saying", "at", "line", "thing", "again"]
theorem sc_law : FnScope N_law ["script"] (defScope s_law) := ⟨rfl, rfl, rfl, by decide +kernel, rfl, by decide +kernel, by decide +kernel⟩
/-- what stands in the module -/
structure Tx (mg : Str → Option Value) : Prop where
  b_abs : mg "abs" = none
  b_all : mg "all" = none
  b_bool : mg "bool" = none
  b_enumerate : mg "enumerate" = none
  b_int : mg "int" = none
  b_isinstance : mg "isinstance" = none
  b_len : mg "len" = none
  b_list : mg "list" = none
  b_max : mg "max" = none
  b_range : mg "range" = none
  b_str : mg "str" = none
  b_tuple : mg "tuple" = none
  c_ALL : ∃ t, mg "ALL" = some (.str (PySem.Str.ofString "all") t)
  c_HUE : ∃ t, mg "HUE" = some (.str (PySem.Str.ofString "hue") t)
  c_MANY : ∃ t, mg "MANY" = some (.str (PySem.Str.ofString "many") t)
  c_MOST_COUNT : ∃ t, mg "MOST_COUNT" = some (.int 40 t)
  c_MOST_HUE : ∃ t, mg "MOST_HUE" = some (.int 9 t)
  c_MOST_KIND : ∃ t, mg "MOST_KIND" = some (.int 3 t)
  c_NAMES : ∃ t, mg "NAMES" = some (.int 4 t)
  c_NOT : ∃ t, mg "NOT" = some (.str (PySem.Str.ofString "not") t)
  c_SAME : ∃ t, mg "SAME" = some (.str (PySem.Str.ofString "same") t)
  c_SOME : ∃ t, mg "SOME" = some (.str (PySem.Str.ofString "some") t)
  c_TIE : ∃ t, mg "TIE" = some (.str (PySem.Str.ofString "tie") t)
section
variable {P : Program} {w : World} {K : PySem.W.Frag} {mg : Str → Option Value} {base : Heap} {f : Addr} {fd : FuncData}
theorem ok_is_integer (T : Tx mg)  (F : FunD K "is_integer" "is_integer" (defArgs s_is_integer) (defBody s_is_integer) (defScope s_is_integer) [] [] f fd) (G : mg "is_integer" = some (.ref f)) : Dfn P w K mg base CX0 1 "is_integer" 1 m_is_integer := by
  refine ⟨⟨f, fd, ["thing"], fn_d F sc_is_integer rfl (fun cdv A outer s H E g hr => ?_), G, F.kp, F.bindsN fun _ _ _ _ _ _ us hl => match us, hl with | [_], _ => rfl⟩⟩
  have nd := sc_is_integer.nd
  have ev := body_even (CX := CX0) (P := P) (w := w) (K := K) (mg := mg) (base := base) (N := N_is_integer) (qual := "is_integer") (scope := defScope s_is_integer) (f := f) (cd := cdv) (A := A) (outer := outer) (s := s) (H := H) (E := E) (g := g)
  unfold b_is_integer
  exact (dss_one (ds_ret (de_and (de_callB (dc_isiA allTs_ok) T.b_isinstance (da_cons (de_var (i := 0)) (da_cons (de_ty T.b_int (by decide +kernel)) da_nil))) (de_one (de_not (de_callB (dc_isiA allTs_ok) T.b_isinstance (da_cons (de_var (i := 0)) (da_cons (de_ty T.b_bool (by decide +kernel)) da_nil))))))))
theorem ok_is_within (T : Tx mg) (D_is_integer : Dfn P w K mg base CX0 1 "is_integer" 1 m_is_integer) (F : FunD K "is_within" "is_within" (defArgs s_is_within) (defBody s_is_within) (defScope s_is_within) [] [] f fd) (G : mg "is_within" = some (.ref f)) : Dfn P w K mg base CX0 2 "is_within" 3 m_is_within := by
  refine ⟨⟨f, fd, ["thing", "least", "most"], fn_d F sc_is_within rfl (fun cdv A outer s H E g hr => ?_), G, F.kp, F.bindsN fun _ _ _ _ _ _ us hl => match us, hl with | [_, _, _], _ => rfl⟩⟩
  have nd := sc_is_within.nd
  have ev := body_even (CX := CX0) (P := P) (w := w) (K := K) (mg := mg) (base := base) (N := N_is_within) (qual := "is_within") (scope := defScope s_is_within) (f := f) (cd := cdv) (A := A) (outer := outer) (s := s) (H := H) (E := E) (g := g)
  unfold b_is_within
  exact (dss_one (ds_ret (de_and (de_call D_is_integer (hr.mono (by decide)) tk0 (da_cons (de_var (i := 0)) da_nil)) (de_one (de_chain do_leI do_leI (de_var (i := 1)) (de_var (i := 0)) (de_var (i := 2)))))))
theorem ok_is_number (T : Tx mg) (D_is_within : Dfn P w K mg base CX0 2 "is_within" 3 m_is_within) (F : FunD K "is_number" "is_number" (defArgs s_is_number) (defBody s_is_number) (defScope s_is_number) [] [] f fd) (G : mg "is_number" = some (.ref f)) : Dfn P w K mg base CX0 3 "is_number" 2 m_is_number := by
  refine ⟨⟨f, fd, ["thing", "most"], fn_d F sc_is_number rfl (fun cdv A outer s H E g hr => ?_), G, F.kp, F.bindsN fun _ _ _ _ _ _ us hl => match us, hl with | [_, _], _ => rfl⟩⟩
  have nd := sc_is_number.nd
  have ev := body_even (CX := CX0) (P := P) (w := w) (K := K) (mg := mg) (base := base) (N := N_is_number) (qual := "is_number") (scope := defScope s_is_number) (f := f) (cd := cdv) (A := A) (outer := outer) (s := s) (H := H) (E := E) (g := g)
  unfold b_is_number
  exact (dss_one (ds_ret (de_call D_is_within (hr.mono (by decide)) tk0 (da_cons (de_var (i := 0)) (da_cons de_int (da_cons (de_var (i := 1)) da_nil))))))
theorem ok_is_name (T : Tx mg) (D_is_number : Dfn P w K mg base CX0 3 "is_number" 2 m_is_number) (F : FunD K "is_name" "is_name" (defArgs s_is_name) (defBody s_is_name) (defScope s_is_name) [] [] f fd) (G : mg "is_name" = some (.ref f)) : Dfn P w K mg base CX0 4 "is_name" 1 m_is_name := by
  refine ⟨⟨f, fd, ["thing"], fn_d F sc_is_name rfl (fun cdv A outer s H E g hr => ?_), G, F.kp, F.bindsN fun _ _ _ _ _ _ us hl => match us, hl with | [_], _ => rfl⟩⟩
  have nd := sc_is_name.nd
  have ev := body_even (CX := CX0) (P := P) (w := w) (K := K) (mg := mg) (base := base) (N := N_is_name) (qual := "is_name") (scope := defScope s_is_name) (f := f) (cd := cdv) (A := A) (outer := outer) (s := s) (H := H) (E := E) (g := g)
  unfold b_is_name
  exact (dss_one (ds_ret (de_call D_is_number (hr.mono (by decide)) tk0 (da_cons (de_var (i := 0)) (da_cons (de_op do_subI (de_gint T.c_NAMES.choose_spec) de_int) da_nil)))))
theorem ok_is_plain_line (T : Tx mg) (D_is_name : Dfn P w K mg base CX0 4 "is_name" 1 m_is_name) (D_is_number : Dfn P w K mg base CX0 3 "is_number" 2 m_is_number) (F : FunD K "is_plain_line" "is_plain_line" (defArgs s_is_plain_line) (defBody s_is_plain_line) (defScope s_is_plain_line) [] [] f fd) (G : mg "is_plain_line" = some (.ref f)) : Dfn P w K mg base CX0 5 "is_plain_line" 1 m_is_plain_line := by
  refine ⟨⟨f, fd, ["thing"], fn_d F sc_is_plain_line rfl (fun cdv A outer s H E g hr => ?_), G, F.kp, F.bindsN fun _ _ _ _ _ _ us hl => match us, hl with | [_], _ => rfl⟩⟩
  have nd := sc_is_plain_line.nd
  have ev := body_even (CX := CX0) (P := P) (w := w) (K := K) (mg := mg) (base := base) (N := N_is_plain_line) (qual := "is_plain_line") (scope := defScope s_is_plain_line) (f := f) (cd := cdv) (A := A) (outer := outer) (s := s) (H := H) (E := E) (g := g)
  unfold b_is_plain_line
  exact (dss_cons ev (ds_if (dt_cmp (do_eq hr.units) (de_ix (de_var (i := 0)) de_int) (de_gstr T.c_HUE.choose_spec))
    (dss_one (ds_ret (de_and (de_cmp (do_eq hr.units) (de_callB dc_len T.b_len (da_cons (de_var (i := 0)) da_nil)) de_int) (de_and (de_call D_is_name (hr.mono (by decide)) tk0 (da_cons (de_ix (de_var (i := 0)) de_int) da_nil)) (de_one (de_call D_is_number (hr.mono (by decide)) tk0 (da_cons (de_ix (de_var (i := 0)) de_int) (da_cons (de_gint T.c_MOST_HUE.choose_spec) da_nil))))))))
    dss_nil)
  (dss_cons ev (ds_if (dt_cmp (do_eq hr.units) (de_ix (de_var (i := 0)) de_int) (de_gstr T.c_SAME.choose_spec))
    (dss_one (ds_ret (de_and (de_cmp (do_eq hr.units) (de_callB dc_len T.b_len (da_cons (de_var (i := 0)) da_nil)) de_int) (de_and (de_call D_is_name (hr.mono (by decide)) tk0 (da_cons (de_ix (de_var (i := 0)) de_int) da_nil)) (de_one (de_call D_is_name (hr.mono (by decide)) tk0 (da_cons (de_ix (de_var (i := 0)) de_int) da_nil)))))))
    dss_nil)
  (dss_cons ev (ds_if (dw_pt (dw_or (dt_cmp (do_ne hr.units) (de_ix (de_var (i := 0)) de_int) (de_gstr T.c_TIE.choose_spec)) (dw_or (dt_cmp (do_ne hr.units) (de_callB dc_len T.b_len (da_cons (de_var (i := 0)) da_nil)) de_int) (dw_or1 (dt_not (dt_val (de_call D_is_number (hr.mono (by decide)) tk0 (da_cons (de_ix (de_var (i := 0)) de_int) (da_cons (de_gint T.c_MOST_KIND.choose_spec) da_nil)))))))))
    (dss_one (ds_ret de_bl))
    dss_nil)
  (dss_one (ds_ret (de_and (de_call D_is_name (hr.mono (by decide)) tk0 (da_cons (de_ix (de_var (i := 0)) de_int) da_nil)) (de_one (de_call D_is_name (hr.mono (by decide)) tk0 (da_cons (de_ix (de_var (i := 0)) de_int) da_nil)))))))))
theorem ok_is_line (T : Tx mg) (D_is_name : Dfn P w K mg base CX0 4 "is_name" 1 m_is_name) (D_is_number : Dfn P w K mg base CX0 3 "is_number" 2 m_is_number) (D_is_plain_line : Dfn P w K mg base CX0 5 "is_plain_line" 1 m_is_plain_line) (D_is_within : Dfn P w K mg base CX0 2 "is_within" 3 m_is_within) (F : FunD K "is_line" "is_line" (defArgs s_is_line) (defBody s_is_line) (defScope s_is_line) [] [] f fd) (G : mg "is_line" = some (.ref f)) : Dfn P w K mg base CX0 6 "is_line" 2 m_is_line := by
  refine ⟨⟨f, fd, ["thing", "number"], fn_d F sc_is_line rfl (fun cdv A outer s H E g hr => ?_), G, F.kp, F.bindsN fun _ _ _ _ _ _ us hl => match us, hl with | [_, _], _ => rfl⟩⟩
  have nd := sc_is_line.nd
  have ev := body_even (CX := CX0) (P := P) (w := w) (K := K) (mg := mg) (base := base) (N := N_is_line) (qual := "is_line") (scope := defScope s_is_line) (f := f) (cd := cdv) (A := A) (outer := outer) (s := s) (H := H) (E := E) (g := g)
  unfold b_is_line
  exact (dss_cons ev (ds_if (dw_pt (dw_or (dt_not (dt_val (de_callB (dc_isiA allTs_ok) T.b_isinstance (da_cons (de_var (i := 0)) (da_cons (de_ty T.b_tuple (by decide +kernel)) da_nil))))) (dw_or (dt_cmp do_ltI (de_callB dc_len T.b_len (da_cons (de_var (i := 0)) da_nil)) de_int) (dw_or1 (dt_not (dt_val (de_callB (dc_isiA allTs_ok) T.b_isinstance (da_cons (de_ix (de_var (i := 0)) de_int) (da_cons (de_ty T.b_str (by decide +kernel)) da_nil)))))))))
    (dss_one (ds_ret de_bl))
    dss_nil)
  (dss_cons ev (ds_if (dt_cmp (do_eq hr.units) (de_ix (de_var (i := 0)) de_int) (de_gstr T.c_NOT.choose_spec))
    (dss_one (ds_ret (de_and (de_cmp (do_eq hr.units) (de_callB dc_len T.b_len (da_cons (de_var (i := 0)) da_nil)) de_int) (de_one (de_call D_is_number (hr.mono (by decide)) tk0 (da_cons (de_ix (de_var (i := 0)) de_int) (da_cons (de_op do_subI (de_var (i := 1)) de_int) da_nil)))))))
    dss_nil)
  (dss_cons ev (ds_if (dw_pt (dw_or (dt_cmp (do_eq hr.units) (de_ix (de_var (i := 0)) de_int) (de_gstr T.c_ALL.choose_spec)) (dw_or1 (dt_cmp (do_eq hr.units) (de_ix (de_var (i := 0)) de_int) (de_gstr T.c_SOME.choose_spec)))))
    (dss_cons ev (ds_if (dw_pt (dw_or (dt_cmp (do_ne hr.units) (de_callB dc_len T.b_len (da_cons (de_var (i := 0)) da_nil)) de_int) (dw_or1 (dt_not (dt_val (de_callB (dc_isiA allTs_ok) T.b_isinstance (da_cons (de_ix (de_var (i := 0)) de_int) (da_cons (de_ty T.b_tuple (by decide +kernel)) da_nil))))))))
    (dss_one (ds_ret de_bl))
    dss_nil)
  (dss_one (ds_ret (de_callB (dc_all rfl) T.b_all (da_cons (de_lcA fr_f rfl nd (di_seq (de_ix (de_var (i := 0)) de_int)) (blkOk_by (own := [("line", 2)]) (N := N_is_line) (sc := defScope s_is_line) (by decide +kernel)) (fun B _ _ _ _ _ => (dg_name (i := 2) nd)) dtu_nil (fun B _ _ _ _ _ => (de_call D_is_number (hr.mono (by decide)) tk0 (da_cons (de_var (i := 2)) (da_cons (de_op do_subI (de_var (i := 1)) de_int) da_nil))))) da_nil)))))
    dss_nil)
  (dss_cons ev (ds_if (dt_cmp (do_eq hr.units) (de_ix (de_var (i := 0)) de_int) (de_gstr T.c_MANY.choose_spec))
    (dss_cons ev (ds_if (dw_pt (dw_or (dt_cmp (do_ne hr.units) (de_callB dc_len T.b_len (da_cons (de_var (i := 0)) da_nil)) de_int) (dw_or (dt_not (dt_val (de_call D_is_name (hr.mono (by decide)) tk0 (da_cons (de_ix (de_var (i := 0)) de_int) da_nil)))) (dw_or1 (dt_not (dt_val (de_call D_is_within (hr.mono (by decide)) tk0 (da_cons (de_ix (de_var (i := 0)) de_int) (da_cons de_int (da_cons (de_gint T.c_MOST_COUNT.choose_spec) da_nil))))))))))
    (dss_one (ds_ret de_bl))
    dss_nil)
  (dss_one (ds_ret (de_call D_is_number (hr.mono (by decide)) tk0 (da_cons (de_ix (de_var (i := 0)) de_int) (da_cons (de_op do_subI (de_var (i := 1)) de_int) da_nil))))))
    dss_nil)
  (dss_one (ds_ret (de_call D_is_plain_line (hr.mono (by decide)) tk0 (da_cons (de_var (i := 0)) da_nil))))))))
theorem ok_is_saying (T : Tx mg) (D_is_line : Dfn P w K mg base CX0 6 "is_line" 2 m_is_line) (F : FunD K "is_saying" "is_saying" (defArgs s_is_saying) (defBody s_is_saying) (defScope s_is_saying) [] [] f fd) (G : mg "is_saying" = some (.ref f)) : Dfn P w K mg base CX0 7 "is_saying" 1 m_is_saying := by
  refine ⟨⟨f, fd, ["thing"], fn_d F sc_is_saying rfl (fun cdv A outer s H E g hr => ?_), G, F.kp, F.bindsN fun _ _ _ _ _ _ us hl => match us, hl with | [_], _ => rfl⟩⟩
  have nd := sc_is_saying.nd
  have ev := body_even (CX := CX0) (P := P) (w := w) (K := K) (mg := mg) (base := base) (N := N_is_saying) (qual := "is_saying") (scope := defScope s_is_saying) (f := f) (cd := cdv) (A := A) (outer := outer) (s := s) (H := H) (E := E) (g := g)
  unfold b_is_saying
  exact (dss_cons ev (ds_if (dw_pt (dw_or (dt_not (dt_val (de_callB (dc_isiA allTs_ok) T.b_isinstance (da_cons (de_var (i := 0)) (da_cons (de_ty T.b_tuple (by decide +kernel)) da_nil))))) (dw_or1 (dt_cmp (do_eq hr.units) (de_callB dc_len T.b_len (da_cons (de_var (i := 0)) da_nil)) de_int))))
    (dss_one (ds_ret de_bl))
    dss_nil)
  (dss_one (ds_ret (de_callB (dc_all rfl) T.b_all (da_cons (de_lcA fr_f rfl nd (di_enumA T.b_enumerate (da_cons (de_var (i := 0)) da_nil)) (blkOk_by (own := [("number", 1), ("line", 2)]) (N := N_is_saying) (sc := defScope s_is_saying) (by decide +kernel)) (fun B _ _ _ _ _ => (dg_tup (n := 2) rfl (dgs_cons (dg_name (i := 1) nd) (dgs_cons (dg_name (i := 2) nd) dgs_nil)))) dtu_nil (fun B _ _ _ _ _ => (de_call D_is_line (hr.mono (by decide)) tk0 (da_cons (de_var (i := 2)) (da_cons (de_var (i := 1)) da_nil))))) da_nil)))))
theorem ok__law_pot (T : Tx mg)  (F : FunD K "_law_pot" "_law_pot" (defArgs s__law_pot) (defBody s__law_pot) (defScope s__law_pot) [] [] f fd) (G : mg "_law_pot" = some (.ref f)) : Dfn P w K mg base CX0 1 "_law_pot" 1 m__law_pot := by
  refine ⟨⟨f, fd, ["script"], fn_d F sc__law_pot rfl (fun cdv A outer s H E g hr => ?_), G, F.kp, F.bindsN fun _ _ _ _ _ _ us hl => match us, hl with | [_], _ => rfl⟩⟩
  have nd := sc__law_pot.nd
  have ev := body_even (CX := CX0) (P := P) (w := w) (K := K) (mg := mg) (base := base) (N := N__law_pot) (qual := "_law_pot") (scope := defScope s__law_pot) (f := f) (cd := cdv) (A := A) (outer := outer) (s := s) (H := H) (E := E) (g := g)
  unfold b__law_pot
  exact (dss_cons ev (ds_setLcA fr_f (i := 1) rfl nd rfl rfl (sw_true rfl rfl rfl (by decide +kernel)) (di_seq (de_sl (de_var (i := 0)) do_none (do_some de_int))) (blkOk_by (own := [("cell", 2)]) (N := N__law_pot) (sc := defScope s__law_pot) (by decide +kernel)) (fun B _ _ _ _ _ => (dg_name (i := 2) nd)) dtu_nil (fun B _ _ _ _ _ => (de_callB dc_abs T.b_abs (da_cons (de_callTy dc_int T.b_int (da_cons (de_var (i := 2)) da_nil)) da_nil))))
  (dss_one (ds_ret (de_new (da_cons (de_var (i := 1)) (da_cons de_int (da_cons de_int (da_cons (de_op do_addA de_int (de_callB dc_len T.b_len (da_cons (de_var (i := 1)) da_nil))) (da_cons de_int da_nil)))))))))
theorem ok__law_draw (T : Tx mg)  (F : FunD K "_law_draw" "_law_draw" (defArgs s__law_draw) (defBody s__law_draw) (defScope s__law_draw) [] [] f fd) (G : mg "_law_draw" = some (.ref f)) : Dfn P w K mg base CX0 1 "_law_draw" 2 m__law_draw := by
  refine ⟨⟨f, fd, ["pot", "many"], fn_d F sc__law_draw rfl (fun cdv A outer s H E g hr => ?_), G, F.kp, F.bindsN fun _ _ _ _ _ _ us hl => match us, hl with | [_, _], _ => rfl⟩⟩
  have nd := sc__law_draw.nd
  have ev := body_even (CX := CX0) (P := P) (w := w) (K := K) (mg := mg) (base := base) (N := N__law_draw) (qual := "_law_draw") (scope := defScope s__law_draw) (f := f) (cd := cdv) (A := A) (outer := outer) (s := s) (H := H) (E := E) (g := g)
  unfold b__law_draw
  exact (dss_cons ev (ds_if (dw_pt (dw_and (dt_cmp (do_eq hr.units) (de_ix (de_var (i := 0)) de_int) de_int) (dw_and1 (dt_cmp do_ltI (de_ix (de_var (i := 0)) de_int) (de_callB dc_len T.b_len (da_cons (de_ix (de_var (i := 0)) de_int) da_nil))))))
    (dss_cons ev (ds_set (i := 2) nd (de_ix (de_ix (de_var (i := 0)) de_int) (de_ix (de_var (i := 0)) de_int)))
  (dss_cons ev (ds_sub (de_var (i := 0)) de_int (de_op do_addA (de_ix (de_var (i := 0)) de_int) de_int))
  (dss_cons ev (ds_sub (de_var (i := 0)) de_int (de_op do_modI (de_callTy dc_int T.b_int (da_cons (de_op do_addA (de_op do_addA (de_op do_mulA (de_ix (de_var (i := 0)) de_int) de_int) (de_var (i := 2))) de_int) da_nil)) de_int))
  (dss_one (ds_if (dt_cmp do_geI (de_var (i := 2)) (de_op do_powI de_int de_int))
    (dss_one (ds_sub (de_var (i := 0)) de_int (de_var (i := 2))))
    dss_nil)))))
    dss_nil)
  (dss_cons ev (ds_if (dt_cmp do_gtI (de_ix (de_var (i := 0)) de_int) de_int)
    (dss_cons ev (ds_set (i := 3) nd (de_op do_modI (de_callTy dc_int T.b_int (da_cons (de_ix (de_var (i := 0)) de_int) da_nil)) (de_var (i := 1))))
  (dss_cons ev (ds_sub (de_var (i := 0)) de_int (de_op do_fdivI (de_ix (de_var (i := 0)) de_int) (de_var (i := 1))))
  (dss_one (ds_ret (de_var (i := 3))))))
    dss_nil)
  (dss_cons ev (ds_sub (de_var (i := 0)) de_int (de_op do_addA (de_ix (de_var (i := 0)) de_int) de_int))
  (dss_cons ev (ds_set (i := 4) nd (de_op do_modI (de_callTy dc_int T.b_int (da_cons (de_op do_mulA (de_callTy dc_int T.b_int (da_cons (de_op do_addA (de_ix (de_var (i := 0)) de_int) (de_op do_mulA de_int (de_ix (de_var (i := 0)) de_int))) da_nil)) de_int) da_nil)) de_int))
  (dss_cons ev (ds_set (i := 4) nd (de_op do_modI (de_callTy dc_int T.b_int (da_cons (de_op do_mulA (de_var (i := 4)) (de_op do_addA (de_op do_fdivI (de_var (i := 4)) de_int) de_int)) da_nil)) de_int))
  (dss_cons ev (ds_set (i := 4) nd (de_op do_modI (de_callTy dc_int T.b_int (da_cons (de_op do_mulA (de_var (i := 4)) (de_op do_addA (de_op do_fdivI (de_var (i := 4)) de_int) de_int)) da_nil)) de_int))
  (dss_one (ds_ret (de_op do_modI (de_callTy dc_int T.b_int (da_cons (de_op do_fdivI (de_var (i := 4)) de_int) da_nil)) (de_var (i := 1)))))))))))
theorem ok__law_any (T : Tx mg) (D__law_draw : Dfn P w K mg base CX0 1 "_law_draw" 2 m__law_draw) (F : FunD K "_law_any" "_law_any" (defArgs s__law_any) (defBody s__law_any) (defScope s__law_any) [] [] f fd) (G : mg "_law_any" = some (.ref f)) : Dfn P w K mg base CX0 2 "_law_any" 2 m__law_any := by
  refine ⟨⟨f, fd, ["pot", "things"], fn_d F sc__law_any rfl (fun cdv A outer s H E g hr => ?_), G, F.kp, F.bindsN fun _ _ _ _ _ _ us hl => match us, hl with | [_, _], _ => rfl⟩⟩
  have nd := sc__law_any.nd
  have ev := body_even (CX := CX0) (P := P) (w := w) (K := K) (mg := mg) (base := base) (N := N__law_any) (qual := "_law_any") (scope := defScope s__law_any) (f := f) (cd := cdv) (A := A) (outer := outer) (s := s) (H := H) (E := E) (g := g)
  unfold b__law_any
  exact (dss_one (ds_ret (de_ix (de_var (i := 1)) (de_call D__law_draw (hr.mono (by decide)) tk0 (da_cons (de_var (i := 0)) (da_cons (de_callB dc_len T.b_len (da_cons (de_var (i := 1)) da_nil)) da_nil))))))
theorem ok__law_line_of (T : Tx mg) (D__law_any : Dfn P w K mg base CX0 2 "_law_any" 2 m__law_any) (D__law_draw : Dfn P w K mg base CX0 1 "_law_draw" 2 m__law_draw) (F : FunD K "_law_line_of" "_law_line_of" (defArgs s__law_line_of) (defBody s__law_line_of) (defScope s__law_line_of) [] [] f fd) (G : mg "_law_line_of" = some (.ref f)) : Dfn P w K mg base CX0 3 "_law_line_of" 4 m__law_line_of := by
  refine ⟨⟨f, fd, ["pot", "at", "most", "deeper"], fn_d F sc__law_line_of rfl (fun cdv A outer s H E g hr => ?_), G, F.kp, F.bindsN fun _ _ _ _ _ _ us hl => match us, hl with | [_, _, _, _], _ => rfl⟩⟩
  have nd := sc__law_line_of.nd
  have ev := body_even (CX := CX0) (P := P) (w := w) (K := K) (mg := mg) (base := base) (N := N__law_line_of) (qual := "_law_line_of") (scope := defScope s__law_line_of) (f := f) (cd := cdv) (A := A) (outer := outer) (s := s) (H := H) (E := E) (g := g)
  unfold b__law_line_of
  exact (dss_cons ev (ds_par3 (i := 4) (j := 5) (l := 6) rfl nd (da_cons (de_call D__law_draw (hr.mono (by decide)) tk0 (da_cons (de_var (i := 0)) (da_cons (de_var (i := 2)) da_nil))) (da_cons (de_call D__law_draw (hr.mono (by decide)) tk0 (da_cons (de_var (i := 0)) (da_cons (de_var (i := 2)) da_nil))) (da_cons (de_call D__law_draw (hr.mono (by decide)) tk0 (da_cons (de_var (i := 0)) (da_cons de_int da_nil))) da_nil))))
  (dss_cons ev (ds_if (dw_pt (dw_or (dt_cmp (do_eq hr.units) (de_var (i := 1)) de_int) (dw_or1 (dt_cmp do_geI (de_call D__law_draw (hr.mono (by decide)) tk0 (da_cons (de_var (i := 0)) (da_cons de_int da_nil))) (de_var (i := 3))))))
    (dss_cons ev (ds_if (dt_cmp do_ltI (de_var (i := 6)) de_int)
    (dss_one (ds_ret (de_tup (da_cons de_str (da_cons (de_var (i := 4)) (da_cons (de_call D__law_any (hr.mono (by decide)) tk0 (da_cons (de_var (i := 0)) (da_cons (de_lst (da_cons de_int (da_cons de_int (da_cons de_int (da_cons de_int (da_cons (de_call D__law_draw (hr.mono (by decide)) tk0 (da_cons (de_var (i := 0)) (da_cons de_int da_nil))) da_nil)))))) da_nil))) da_nil))))))
    dss_nil)
  (dss_one (ds_ret (de_if (dt_cmp do_ltI (de_var (i := 6)) de_int) (de_tup (da_cons de_str (da_cons (de_var (i := 4)) (da_cons (de_var (i := 5)) da_nil)))) (de_tup (da_cons de_str (da_cons (de_call D__law_any (hr.mono (by decide)) tk0 (da_cons (de_var (i := 0)) (da_cons (de_lst (da_cons de_int (da_cons de_int (da_cons de_int (da_cons de_int (da_cons (de_call D__law_draw (hr.mono (by decide)) tk0 (da_cons (de_var (i := 0)) (da_cons de_int da_nil))) da_nil)))))) da_nil))) (da_cons (de_var (i := 4)) (da_cons (de_var (i := 5)) da_nil)))))))))
    dss_nil)
  (dss_cons ev (ds_set (i := 7) nd (de_callB (dc_max2 rfl) T.b_max (da_cons de_int (da_cons (de_op do_subI (de_op do_subI (de_var (i := 1)) de_int) (de_call D__law_draw (hr.mono (by decide)) tk0 (da_cons (de_var (i := 0)) (da_cons de_int da_nil)))) da_nil))))
  (dss_cons ev (ds_if (dt_cmp do_ltI (de_var (i := 6)) de_int)
    (dss_one (ds_ret (de_tup (da_cons de_str (da_cons (de_var (i := 7)) da_nil)))))
    dss_nil)
  (dss_cons ev (ds_if (dt_cmp do_ltI (de_var (i := 6)) de_int)
    (dss_cons ev (ds_setLcA fr_f (i := 8) rfl nd rfl rfl (sw_true rfl rfl rfl (by decide +kernel)) (di_rng1 T.b_range (da_cons (de_call D__law_any (hr.mono (by decide)) tk0 (da_cons (de_var (i := 0)) (da_cons (de_lst (da_cons de_int (da_cons de_int (da_cons de_int (da_cons de_int (da_cons de_int (da_cons de_int da_nil))))))) da_nil))) da_nil)) (blkOk_by (own := [("turn", 9)]) (N := N__law_line_of) (sc := defScope s__law_line_of) (by decide +kernel)) (fun B _ _ _ _ _ => (dg_name (i := 9) nd)) dtu_nil (fun B _ _ _ _ _ => (de_callB (dc_max2 rfl) T.b_max (da_cons de_int (da_cons (de_op do_subI (de_op do_subI (de_var (i := 1)) de_int) (de_call D__law_draw (hr.mono (by decide)) tk0 (da_cons (de_var (i := 0)) (da_cons de_int da_nil)))) da_nil)))))
  (dss_one (ds_ret (de_tup (da_cons (de_call D__law_any (hr.mono (by decide)) tk0 (da_cons (de_var (i := 0)) (da_cons (de_lst (da_cons de_str (da_cons de_str da_nil))) da_nil))) (da_cons (de_callTy dc_tup T.b_tuple (da_cons (de_var (i := 8)) da_nil)) da_nil))))))
    dss_nil)
  (dss_one (ds_ret (de_tup (da_cons de_str (da_cons (de_var (i := 4)) (da_cons (de_call D__law_any (hr.mono (by decide)) tk0 (da_cons (de_var (i := 0)) (da_cons (de_lst (da_cons de_int (da_cons de_int (da_cons de_int (da_cons de_int (da_cons de_int (da_cons (de_op do_addA de_int (de_call D__law_draw (hr.mono (by decide)) tk0 (da_cons (de_var (i := 0)) (da_cons de_int da_nil)))) da_nil))))))) da_nil))) (da_cons (de_var (i := 7)) da_nil))))))))))))
theorem ok__law_saying (T : Tx mg) (D__law_line_of : Dfn P w K mg base CX0 3 "_law_line_of" 4 m__law_line_of) (F : FunD K "_law_saying" "_law_saying" (defArgs s__law_saying) (defBody s__law_saying) (defScope s__law_saying) [] [] f fd) (G : mg "_law_saying" = some (.ref f)) : Dfn P w K mg base CX0 4 "_law_saying" 4 m__law_saying := by
  refine ⟨⟨f, fd, ["pot", "lines", "most", "deeper"], fn_d F sc__law_saying rfl (fun cdv A outer s H E g hr => ?_), G, F.kp, F.bindsN fun _ _ _ _ _ _ us hl => match us, hl with | [_, _, _, _], _ => rfl⟩⟩
  have nd := sc__law_saying.nd
  have ev := body_even (CX := CX0) (P := P) (w := w) (K := K) (mg := mg) (base := base) (N := N__law_saying) (qual := "_law_saying") (scope := defScope s__law_saying) (f := f) (cd := cdv) (A := A) (outer := outer) (s := s) (H := H) (E := E) (g := g)
  unfold b__law_saying
  exact (dss_one (ds_ret (de_callTy dc_tup T.b_tuple (da_cons (de_lcA fr_f rfl nd (di_rng1 T.b_range (da_cons (de_var (i := 1)) da_nil)) (blkOk_by (own := [("at", 4)]) (N := N__law_saying) (sc := defScope s__law_saying) (by decide +kernel)) (fun B _ _ _ _ _ => (dg_name (i := 4) nd)) dtu_nil (fun B _ _ _ _ _ => (de_call D__law_line_of (hr.mono (by decide)) tk0 (da_cons (de_var (i := 0)) (da_cons (de_var (i := 4)) (da_cons (de_var (i := 2)) (da_cons (de_var (i := 3)) da_nil))))))) da_nil))))
theorem ok__law_deep (T : Tx mg) (D__law_any : Dfn P w K mg base CX0 2 "_law_any" 2 m__law_any) (D__law_draw : Dfn P w K mg base CX0 1 "_law_draw" 2 m__law_draw) (F : FunD K "_law_deep" "_law_deep" (defArgs s__law_deep) (defBody s__law_deep) (defScope s__law_deep) [] [] f fd) (G : mg "_law_deep" = some (.ref f)) : Dfn P w K mg base CX0 3 "_law_deep" 1 m__law_deep := by
  refine ⟨⟨f, fd, ["pot"], fn_d F sc__law_deep rfl (fun cdv A outer s H E g hr => ?_), G, F.kp, F.bindsN fun _ _ _ _ _ _ us hl => match us, hl with | [_], _ => rfl⟩⟩
  have nd := sc__law_deep.nd
  have ev := body_even (CX := CX0) (P := P) (w := w) (K := K) (mg := mg) (base := base) (N := N__law_deep) (qual := "_law_deep") (scope := defScope s__law_deep) (f := f) (cd := cdv) (A := A) (outer := outer) (s := s) (H := H) (E := E) (g := g)
  unfold b__law_deep
  exact (dss_cons ev (ds_set (i := 1) nd (de_call D__law_any (hr.mono (by decide)) tk0 (da_cons (de_var (i := 0)) (da_cons (de_lst (da_cons de_non (da_cons de_int (da_cons (de_tup da_nil) (da_cons de_str da_nil))))) da_nil))))
  (dss_cons ev (ds_for (vs := [2]) (passes_of rfl) rfl ev (di_rng1 T.b_range (da_cons (de_op do_addA de_int (de_call D__law_draw (hr.mono (by decide)) tk0 (da_cons (de_var (i := 0)) (da_cons de_int da_nil)))) da_nil)) (dg_name (i := 2) nd)
    (dss_one (ds_set (i := 1) nd (de_if (dt_cmp do_gtI (de_call D__law_draw (hr.mono (by decide)) tk0 (da_cons (de_var (i := 0)) (da_cons de_int da_nil))) de_int) (de_tup (da_cons (de_var (i := 1)) da_nil)) (de_lst (da_cons (de_var (i := 1)) da_nil))))))
  (dss_one (ds_ret (de_var (i := 1))))))
theorem ok__law_is_number (T : Tx mg)  (F : FunD K "_law_is_number" "_law_is_number" (defArgs s__law_is_number) (defBody s__law_is_number) (defScope s__law_is_number) [] [] f fd) (G : mg "_law_is_number" = some (.ref f)) : Dfn P w K mg base CX0 1 "_law_is_number" 3 m__law_is_number := by
  refine ⟨⟨f, fd, ["thing", "least", "most"], fn_d F sc__law_is_number rfl (fun cdv A outer s H E g hr => ?_), G, F.kp, F.bindsN fun _ _ _ _ _ _ us hl => match us, hl with | [_, _, _], _ => rfl⟩⟩
  have nd := sc__law_is_number.nd
  have ev := body_even (CX := CX0) (P := P) (w := w) (K := K) (mg := mg) (base := base) (N := N__law_is_number) (qual := "_law_is_number") (scope := defScope s__law_is_number) (f := f) (cd := cdv) (A := A) (outer := outer) (s := s) (H := H) (E := E) (g := g)
  unfold b__law_is_number
  exact (dss_one (ds_ret (de_and (de_callB (dc_isiA allTs_ok) T.b_isinstance (da_cons (de_var (i := 0)) (da_cons (de_ty T.b_int (by decide +kernel)) da_nil))) (de_and (de_not (de_callB (dc_isiA allTs_ok) T.b_isinstance (da_cons (de_var (i := 0)) (da_cons (de_ty T.b_bool (by decide +kernel)) da_nil)))) (de_one (de_chain do_leI do_leI (de_var (i := 1)) (de_var (i := 0)) (de_var (i := 2))))))))
theorem ok__law_are_lines (T : Tx mg) (D__law_is_number : Dfn P w K mg base CX0 1 "_law_is_number" 3 m__law_is_number) (F : FunD K "_law_are_lines" "_law_are_lines" (defArgs s__law_are_lines) (defBody s__law_are_lines) (defScope s__law_are_lines) [] [] f fd) (G : mg "_law_are_lines" = some (.ref f)) : Dfn P w K mg base CX0 2 "_law_are_lines" 2 m__law_are_lines := by
  refine ⟨⟨f, fd, ["thing", "at"], fn_d F sc__law_are_lines rfl (fun cdv A outer s H E g hr => ?_), G, F.kp, F.bindsN fun _ _ _ _ _ _ us hl => match us, hl with | [_, _], _ => rfl⟩⟩
  have nd := sc__law_are_lines.nd
  have ev := body_even (CX := CX0) (P := P) (w := w) (K := K) (mg := mg) (base := base) (N := N__law_are_lines) (qual := "_law_are_lines") (scope := defScope s__law_are_lines) (f := f) (cd := cdv) (A := A) (outer := outer) (s := s) (H := H) (E := E) (g := g)
  unfold b__law_are_lines
  exact (dss_one (ds_ret (de_and (de_callB (dc_isiA allTs_ok) T.b_isinstance (da_cons (de_var (i := 0)) (da_cons (de_ty T.b_tuple (by decide +kernel)) da_nil))) (de_one (de_callB (dc_all rfl) T.b_all (da_cons (de_lcA fr_f rfl nd (di_seq (de_var (i := 0))) (blkOk_by (own := [("one", 2)]) (N := N__law_are_lines) (sc := defScope s__law_are_lines) (by decide +kernel)) (fun B _ _ _ _ _ => (dg_name (i := 2) nd)) dtu_nil (fun B _ _ _ _ _ => (de_call D__law_is_number (hr.mono (by decide)) tk0 (da_cons (de_var (i := 2)) (da_cons de_int (da_cons (de_op do_subI (de_var (i := 1)) de_int) da_nil)))))) da_nil))))))
theorem ok__law_is_line (T : Tx mg) (D__law_are_lines : Dfn P w K mg base CX0 2 "_law_are_lines" 2 m__law_are_lines) (D__law_is_number : Dfn P w K mg base CX0 1 "_law_is_number" 3 m__law_is_number) (F : FunD K "_law_is_line" "_law_is_line" (defArgs s__law_is_line) (defBody s__law_is_line) (defScope s__law_is_line) [] [] f fd) (G : mg "_law_is_line" = some (.ref f)) : Dfn P w K mg base CX0 3 "_law_is_line" 2 m__law_is_line := by
  refine ⟨⟨f, fd, ["thing", "at"], fn_d F sc__law_is_line rfl (fun cdv A outer s H E g hr => ?_), G, F.kp, F.bindsN fun _ _ _ _ _ _ us hl => match us, hl with | [_, _], _ => rfl⟩⟩
  have nd := sc__law_is_line.nd
  have ev := body_even (CX := CX0) (P := P) (w := w) (K := K) (mg := mg) (base := base) (N := N__law_is_line) (qual := "_law_is_line") (scope := defScope s__law_is_line) (f := f) (cd := cdv) (A := A) (outer := outer) (s := s) (H := H) (E := E) (g := g)
  unfold b__law_is_line
  exact (dss_cons ev (ds_if (dw_pt (dw_or (dt_not (dt_val (de_callB (dc_isiA allTs_ok) T.b_isinstance (da_cons (de_var (i := 0)) (da_cons (de_ty T.b_tuple (by decide +kernel)) da_nil))))) (dw_or (dt_cmp do_ltI (de_callB dc_len T.b_len (da_cons (de_var (i := 0)) da_nil)) de_int) (dw_or1 (dt_not (dt_val (de_callB (dc_isiA allTs_ok) T.b_isinstance (da_cons (de_ix (de_var (i := 0)) de_int) (da_cons (de_ty T.b_str (by decide +kernel)) da_nil)))))))))
    (dss_one (ds_ret de_bl))
    dss_nil)
  (dss_cons ev (ds_par (i := 2) (j := 3) rfl nd (da_cons (de_ix (de_var (i := 0)) de_int) (da_cons (de_callB dc_len T.b_len (da_cons (de_var (i := 0)) da_nil)) da_nil)))
  (dss_cons ev (ds_if (dt_cmp (do_eq hr.units) (de_var (i := 2)) de_str)
    (dss_one (ds_ret (de_and (de_cmp (do_eq hr.units) (de_var (i := 3)) de_int) (de_and (de_call D__law_is_number (hr.mono (by decide)) tk0 (da_cons (de_ix (de_var (i := 0)) de_int) (da_cons de_int (da_cons de_int da_nil)))) (de_one (de_call D__law_is_number (hr.mono (by decide)) tk0 (da_cons (de_ix (de_var (i := 0)) de_int) (da_cons de_int (da_cons de_int da_nil)))))))))
    dss_nil)
  (dss_cons ev (ds_if (dt_cmp (do_eq hr.units) (de_var (i := 2)) de_str)
    (dss_one (ds_ret (de_and (de_cmp (do_eq hr.units) (de_var (i := 3)) de_int) (de_and (de_call D__law_is_number (hr.mono (by decide)) tk0 (da_cons (de_ix (de_var (i := 0)) de_int) (da_cons de_int (da_cons de_int da_nil)))) (de_one (de_call D__law_is_number (hr.mono (by decide)) tk0 (da_cons (de_ix (de_var (i := 0)) de_int) (da_cons de_int (da_cons de_int da_nil)))))))))
    dss_nil)
  (dss_cons ev (ds_if (dt_cmp (do_eq hr.units) (de_var (i := 2)) de_str)
    (dss_one (ds_ret (de_and (de_cmp (do_eq hr.units) (de_var (i := 3)) de_int) (de_one (de_callB (dc_all rfl) T.b_all (da_cons (de_lcA fr_f rfl nd (di_seq (de_sl (de_var (i := 0)) (do_some de_int) do_none)) (blkOk_by (own := [("one", 4)]) (N := N__law_is_line) (sc := defScope s__law_is_line) (by decide +kernel)) (fun B _ _ _ _ _ => (dg_name (i := 4) nd)) dtu_nil (fun B _ _ _ _ _ => (de_call D__law_is_number (hr.mono (by decide)) tk0 (da_cons (de_var (i := 4)) (da_cons de_int (da_cons de_int da_nil)))))) da_nil))))))
    dss_nil)
  (dss_cons ev (ds_if (dt_cmp (do_eq hr.units) (de_var (i := 2)) de_str)
    (dss_one (ds_ret (de_and (de_cmp (do_eq hr.units) (de_var (i := 3)) de_int) (de_one (de_call D__law_is_number (hr.mono (by decide)) tk0 (da_cons (de_ix (de_var (i := 0)) de_int) (da_cons de_int (da_cons (de_op do_subI (de_var (i := 1)) de_int) da_nil))))))))
    dss_nil)
  (dss_cons ev (ds_if (dt_cmp (do_inT (hu_of hr)) (de_var (i := 2)) (de_tup (da_cons de_str (da_cons de_str da_nil))))
    (dss_one (ds_ret (de_and (de_cmp (do_eq hr.units) (de_var (i := 3)) de_int) (de_one (de_call D__law_are_lines (hr.mono (by decide)) tk0 (da_cons (de_ix (de_var (i := 0)) de_int) (da_cons (de_var (i := 1)) da_nil)))))))
    dss_nil)
  (dss_cons ev (ds_if (dw_pt (dw_or (dt_cmp (do_ne hr.units) (de_var (i := 2)) de_str) (dw_or (dt_cmp (do_ne hr.units) (de_var (i := 3)) de_int) (dw_or1 (dt_not (dt_val (de_call D__law_is_number (hr.mono (by decide)) tk0 (da_cons (de_ix (de_var (i := 0)) de_int) (da_cons de_int (da_cons de_int da_nil))))))))))
    (dss_one (ds_ret de_bl))
    dss_nil)
  (dss_one (ds_ret (de_and (de_call D__law_is_number (hr.mono (by decide)) tk0 (da_cons (de_ix (de_var (i := 0)) de_int) (da_cons de_int (da_cons de_int da_nil)))) (de_one (de_call D__law_is_number (hr.mono (by decide)) tk0 (da_cons (de_ix (de_var (i := 0)) de_int) (da_cons de_int (da_cons (de_op do_subI (de_var (i := 1)) de_int) da_nil))))))))))))))))
theorem ok__law_is_saying (T : Tx mg) (D__law_is_line : Dfn P w K mg base CX0 3 "_law_is_line" 2 m__law_is_line) (F : FunD K "_law_is_saying" "_law_is_saying" (defArgs s__law_is_saying) (defBody s__law_is_saying) (defScope s__law_is_saying) [] [] f fd) (G : mg "_law_is_saying" = some (.ref f)) : Dfn P w K mg base CX0 4 "_law_is_saying" 1 m__law_is_saying := by
  refine ⟨⟨f, fd, ["thing"], fn_d F sc__law_is_saying rfl (fun cdv A outer s H E g hr => ?_), G, F.kp, F.bindsN fun _ _ _ _ _ _ us hl => match us, hl with | [_], _ => rfl⟩⟩
  have nd := sc__law_is_saying.nd
  have ev := body_even (CX := CX0) (P := P) (w := w) (K := K) (mg := mg) (base := base) (N := N__law_is_saying) (qual := "_law_is_saying") (scope := defScope s__law_is_saying) (f := f) (cd := cdv) (A := A) (outer := outer) (s := s) (H := H) (E := E) (g := g)
  unfold b__law_is_saying
  exact (dss_cons ev (ds_if (dw_pt (dw_or (dt_not (dt_val (de_callB (dc_isiA allTs_ok) T.b_isinstance (da_cons (de_var (i := 0)) (da_cons (de_ty T.b_tuple (by decide +kernel)) da_nil))))) (dw_or1 (dt_cmp (do_eq hr.units) (de_callB dc_len T.b_len (da_cons (de_var (i := 0)) da_nil)) de_int))))
    (dss_one (ds_ret de_bl))
    dss_nil)
  (dss_one (ds_ret (de_callB (dc_all rfl) T.b_all (da_cons (de_lcA fr_f rfl nd (di_enumA T.b_enumerate (da_cons (de_var (i := 0)) da_nil)) (blkOk_by (own := [("at", 1), ("line", 2)]) (N := N__law_is_saying) (sc := defScope s__law_is_saying) (by decide +kernel)) (fun B _ _ _ _ _ => (dg_tup (n := 2) rfl (dgs_cons (dg_name (i := 1) nd) (dgs_cons (dg_name (i := 2) nd) dgs_nil)))) dtu_nil (fun B _ _ _ _ _ => (de_call D__law_is_line (hr.mono (by decide)) tk0 (da_cons (de_var (i := 2)) (da_cons (de_var (i := 1)) da_nil))))) da_nil)))))
theorem ok__law_odd (T : Tx mg) (D__law_any : Dfn P w K mg base CX0 2 "_law_any" 2 m__law_any) (D__law_deep : Dfn P w K mg base CX0 3 "_law_deep" 1 m__law_deep) (F : FunD K "_law_odd" "_law_odd" (defArgs s__law_odd) (defBody s__law_odd) (defScope s__law_odd) [] [] f fd) (G : mg "_law_odd" = some (.ref f)) : Dfn P w K mg base CX0 4 "_law_odd" 2 m__law_odd := by
  refine ⟨⟨f, fd, ["pot", "at"], fn_d F sc__law_odd rfl (fun cdv A outer s H E g hr => ?_), G, F.kp, F.bindsN fun _ _ _ _ _ _ us hl => match us, hl with | [_, _], _ => rfl⟩⟩
  have nd := sc__law_odd.nd
  have ev := body_even (CX := CX0) (P := P) (w := w) (K := K) (mg := mg) (base := base) (N := N__law_odd) (qual := "_law_odd") (scope := defScope s__law_odd) (f := f) (cd := cdv) (A := A) (outer := outer) (s := s) (H := H) (E := E) (g := g)
  unfold b__law_odd
  exact (dss_cons ev (ds_set (i := 2) nd (de_lst (da_cons de_int (da_cons (de_un do_negI de_int) (da_cons de_int (da_cons de_int (da_cons de_int (da_cons de_int (da_cons de_bl (da_cons de_bl (da_cons de_non (da_cons de_str (da_cons de_str (da_cons (de_tup (da_cons de_int da_nil)) (da_cons (de_lst (da_cons de_int da_nil)) (da_cons (de_tup da_nil) (da_cons de_dict0 (da_cons (de_op do_powI de_int de_int) (da_cons (de_var (i := 1)) (da_cons (de_op do_addA (de_var (i := 1)) de_int) (da_cons (de_callB (dc_max2 rfl) T.b_max (da_cons de_int (da_cons (de_op do_subI (de_var (i := 1)) de_int) da_nil))) da_nil)))))))))))))))))))))
  (dss_one (ds_ret (de_call D__law_any (hr.mono (by decide)) tk0 (da_cons (de_var (i := 0)) (da_cons (de_op do_addA (de_var (i := 2)) (de_lst (da_cons (de_call D__law_deep (hr.mono (by decide)) tk0 (da_cons (de_var (i := 0)) da_nil)) da_nil))) da_nil))))))
theorem ok__law_bent_line (T : Tx mg) (D__law_any : Dfn P w K mg base CX0 2 "_law_any" 2 m__law_any) (D__law_draw : Dfn P w K mg base CX0 1 "_law_draw" 2 m__law_draw) (D__law_odd : Dfn P w K mg base CX0 4 "_law_odd" 2 m__law_odd) (F : FunD K "_law_bent_line" "_law_bent_line" (defArgs s__law_bent_line) (defBody s__law_bent_line) (defScope s__law_bent_line) [] [] f fd) (G : mg "_law_bent_line" = some (.ref f)) : Dfn P w K mg base CX0 5 "_law_bent_line" 3 m__law_bent_line := by
  refine ⟨⟨f, fd, ["pot", "line", "at"], fn_d F sc__law_bent_line rfl (fun cdv A outer s H E g hr => ?_), G, F.kp, F.bindsN fun _ _ _ _ _ _ us hl => match us, hl with | [_, _, _], _ => rfl⟩⟩
  have nd := sc__law_bent_line.nd
  have ev := body_even (CX := CX0) (P := P) (w := w) (K := K) (mg := mg) (base := base) (N := N__law_bent_line) (qual := "_law_bent_line") (scope := defScope s__law_bent_line) (f := f) (cd := cdv) (A := A) (outer := outer) (s := s) (H := H) (E := E) (g := g)
  unfold b__law_bent_line
  exact (dss_cons ev (ds_set (i := 3) nd (de_call D__law_draw (hr.mono (by decide)) tk0 (da_cons (de_var (i := 0)) (da_cons de_int da_nil))))
  (dss_cons ev (ds_if (dw_pt (dw_and (dt_cmp (do_inT (hu_of hr)) (de_ix (de_var (i := 1)) de_int) (de_tup (da_cons de_str (da_cons de_str (da_cons de_str da_nil))))) (dw_and (dt_cmp do_gtI (de_callB dc_len T.b_len (da_cons (de_var (i := 1)) da_nil)) de_int) (dw_and1 (dt_cmp (do_eq hr.units) (de_call D__law_draw (hr.mono (by decide)) tk0 (da_cons (de_var (i := 0)) (da_cons de_int da_nil))) de_int)))))
    (dss_cons ev (ds_asg (vs := [4, 5]) (de_dix (hu_of hr) (de_disp fun B => (dp_cons de_str (de_tup (da_cons de_int (da_cons (de_lst (da_cons de_int (da_cons de_int da_nil))) da_nil))) (dp_cons de_str (de_tup (da_cons de_int (da_cons (de_lst (da_cons de_int (da_cons de_int (da_cons de_int (da_cons de_int da_nil))))) da_nil))) (dp_cons de_str (de_tup (da_cons de_int (da_cons (de_lst (da_cons de_int (da_cons de_int da_nil))) da_nil))) dp_nil)))) (de_ix (de_var (i := 1)) de_int)) (dg_tup (n := 2) rfl (dgs_cons (dg_name (i := 4) nd) (dgs_cons (dg_name (i := 5) nd) dgs_nil))))
  (dss_one (ds_ret (de_op do_addA (de_op do_addA (de_sl (de_var (i := 1)) do_none (do_some (de_var (i := 4)))) (de_tup (da_cons (de_call D__law_any (hr.mono (by decide)) tk0 (da_cons (de_var (i := 0)) (da_cons (de_var (i := 5)) da_nil))) da_nil))) (de_sl (de_var (i := 1)) (do_some (de_op do_addA (de_var (i := 4)) de_int)) do_none)))))
    dss_nil)
  (dss_cons ev (ds_if (dt_cmp (do_eq hr.units) (de_var (i := 3)) de_int)
    (dss_cons ev (ds_set (i := 5) nd (de_lst (da_cons de_str (da_cons de_str (da_cons de_non (da_cons de_int (da_cons de_str (da_cons de_str (da_cons de_str (da_cons de_str (da_cons de_str (da_cons de_str (da_cons de_str (da_cons (de_tup (da_cons de_str da_nil)) (da_cons de_bl da_nil)))))))))))))))
  (dss_one (ds_ret (de_op do_addA (de_tup (da_cons (de_call D__law_any (hr.mono (by decide)) tk0 (da_cons (de_var (i := 0)) (da_cons (de_var (i := 5)) da_nil))) da_nil)) (de_sl (de_var (i := 1)) (do_some de_int) do_none)))))
    dss_nil)
  (dss_cons ev (ds_if (dt_cmp (do_eq hr.units) (de_var (i := 3)) de_int)
    (dss_one (ds_ret (de_call D__law_any (hr.mono (by decide)) tk0 (da_cons (de_var (i := 0)) (da_cons (de_lst (da_cons (de_op do_addA (de_var (i := 1)) (de_tup (da_cons de_int da_nil))) (da_cons (de_sl (de_var (i := 1)) do_none (do_some (de_un do_negI de_int))) (da_cons (de_sl (de_var (i := 1)) do_none (do_some de_int)) (da_cons (de_callTy dc_lst T.b_list (da_cons (de_var (i := 1)) da_nil)) (da_cons (de_sl (de_var (i := 1)) (do_some de_int) do_none) (da_cons (de_op do_addA (de_var (i := 1)) (de_sl (de_var (i := 1)) do_none (do_some de_int))) da_nil))))))) da_nil)))))
    dss_nil)
  (dss_cons ev (ds_if (dw_pt (dw_and (dt_cmp (do_eq hr.units) (de_var (i := 3)) de_int) (dw_and (dt_cmp (do_inT (hu_of hr)) (de_ix (de_var (i := 1)) de_int) (de_tup (da_cons de_str (da_cons de_str da_nil)))) (dw_and1 (dt_val (de_callB (dc_isiA allTs_ok) T.b_isinstance (da_cons (de_ix (de_var (i := 1)) de_int) (da_cons (de_ty T.b_tuple (by decide +kernel)) da_nil))))))))
    (dss_cons ev (ds_set (i := 5) nd (de_lst (da_cons (de_callTy dc_lst T.b_list (da_cons (de_ix (de_var (i := 1)) de_int) da_nil)) (da_cons (de_op do_addA (de_ix (de_var (i := 1)) de_int) (de_tup (da_cons (de_call D__law_odd (hr.mono (by decide)) tk0 (da_cons (de_var (i := 0)) (da_cons (de_var (i := 2)) da_nil))) da_nil))) (da_cons (de_op do_addA (de_tup (da_cons (de_call D__law_odd (hr.mono (by decide)) tk0 (da_cons (de_var (i := 0)) (da_cons (de_var (i := 2)) da_nil))) da_nil)) (de_ix (de_var (i := 1)) de_int)) (da_cons de_non (da_cons (de_var (i := 2)) (da_cons (de_tup (da_cons (de_ix (de_var (i := 1)) de_int) da_nil)) da_nil))))))))
  (dss_one (ds_ret (de_tup (da_cons (de_ix (de_var (i := 1)) de_int) (da_cons (de_call D__law_any (hr.mono (by decide)) tk0 (da_cons (de_var (i := 0)) (da_cons (de_var (i := 5)) da_nil))) da_nil))))))
    dss_nil)
  (dss_cons ev (ds_if (dt_cmp (do_eq hr.units) (de_var (i := 3)) de_int)
    (dss_one (ds_ret (de_call D__law_odd (hr.mono (by decide)) tk0 (da_cons (de_var (i := 0)) (da_cons (de_var (i := 2)) da_nil)))))
    dss_nil)
  (dss_cons ev (ds_set (i := 4) nd (de_op do_addA de_int (de_call D__law_draw (hr.mono (by decide)) tk0 (da_cons (de_var (i := 0)) (da_cons (de_op do_subI (de_callB dc_len T.b_len (da_cons (de_var (i := 1)) da_nil)) de_int) da_nil)))))
  (dss_one (ds_ret (de_op do_addA (de_op do_addA (de_sl (de_var (i := 1)) do_none (do_some (de_var (i := 4)))) (de_tup (da_cons (de_call D__law_odd (hr.mono (by decide)) tk0 (da_cons (de_var (i := 0)) (da_cons (de_var (i := 2)) da_nil))) da_nil))) (de_sl (de_var (i := 1)) (do_some (de_op do_addA (de_var (i := 4)) de_int)) do_none)))))))))))
theorem ok__law_just_out (T : Tx mg) (D__law_any : Dfn P w K mg base CX0 2 "_law_any" 2 m__law_any) (D__law_draw : Dfn P w K mg base CX0 1 "_law_draw" 2 m__law_draw) (F : FunD K "_law_just_out" "_law_just_out" (defArgs s__law_just_out) (defBody s__law_just_out) (defScope s__law_just_out) [] [] f fd) (G : mg "_law_just_out" = some (.ref f)) : Dfn P w K mg base CX0 3 "_law_just_out" 3 m__law_just_out := by
  refine ⟨⟨f, fd, ["pot", "line", "at"], fn_d F sc__law_just_out rfl (fun cdv A outer s H E g hr => ?_), G, F.kp, F.bindsN fun _ _ _ _ _ _ us hl => match us, hl with | [_, _, _], _ => rfl⟩⟩
  have nd := sc__law_just_out.nd
  have ev := body_even (CX := CX0) (P := P) (w := w) (K := K) (mg := mg) (base := base) (N := N__law_just_out) (qual := "_law_just_out") (scope := defScope s__law_just_out) (f := f) (cd := cdv) (A := A) (outer := outer) (s := s) (H := H) (E := E) (g := g)
  unfold b__law_just_out
  exact (dss_cons ev (ds_set (i := 3) nd (de_ix (de_var (i := 1)) de_int))
  (dss_cons ev (ds_setLcA fr_f (i := 4) rfl nd rfl rfl (sw_true rfl rfl rfl (by decide +kernel)) (di_rng2 T.b_range (da_cons de_int (da_cons (de_callB dc_len T.b_len (da_cons (de_var (i := 1)) da_nil)) da_nil))) (blkOk_by (own := [("k", 5)]) (N := N__law_just_out) (sc := defScope s__law_just_out) (by decide +kernel)) (fun B _ _ _ _ _ => (dg_name (i := 5) nd)) (dtu_one fun B _ _ _ _ _ => (dt_cmp (do_eq hr.units) (de_ix (de_var (i := 1)) (de_var (i := 5))) de_int)) (fun B _ _ _ _ _ => (de_var (i := 5))))
  (dss_cons ev (ds_if (dw_pt (dw_and (dt_cmp do_gtI (de_callB dc_len T.b_len (da_cons (de_var (i := 4)) da_nil)) de_int) (dw_and1 (dt_cmp (do_eq hr.units) (de_call D__law_draw (hr.mono (by decide)) tk0 (da_cons (de_var (i := 0)) (da_cons de_int da_nil))) de_int))))
    (dss_one (ds_ret (de_op do_addA (de_op do_addA (de_sl (de_var (i := 1)) do_none (do_some (de_ix (de_var (i := 4)) de_int))) (de_tup (da_cons de_bl da_nil))) (de_sl (de_var (i := 1)) (do_some (de_op do_addA (de_ix (de_var (i := 4)) de_int) de_int)) do_none))))
    dss_nil)
  (dss_cons ev (ds_if (dt_cmp (do_eq hr.units) (de_var (i := 3)) de_str)
    (dss_one (ds_ret (de_call D__law_any (hr.mono (by decide)) tk0 (da_cons (de_var (i := 0)) (da_cons (de_lst (da_cons (de_tup (da_cons de_str (da_cons de_int (da_cons (de_ix (de_var (i := 1)) de_int) da_nil)))) (da_cons (de_tup (da_cons de_str (da_cons (de_ix (de_var (i := 1)) de_int) (da_cons de_int da_nil)))) (da_cons (de_tup (da_cons de_str (da_cons (de_ix (de_var (i := 1)) de_int) (da_cons (de_un do_negI de_int) da_nil)))) da_nil)))) da_nil)))))
    dss_nil)
  (dss_cons ev (ds_if (dt_cmp (do_eq hr.units) (de_var (i := 3)) de_str)
    (dss_one (ds_ret (de_call D__law_any (hr.mono (by decide)) tk0 (da_cons (de_var (i := 0)) (da_cons (de_lst (da_cons (de_tup (da_cons de_str (da_cons (de_ix (de_var (i := 1)) de_int) (da_cons de_int da_nil)))) (da_cons (de_tup (da_cons de_str (da_cons de_int (da_cons (de_ix (de_var (i := 1)) de_int) da_nil)))) da_nil))) da_nil)))))
    dss_nil)
  (dss_cons ev (ds_if (dt_cmp (do_eq hr.units) (de_var (i := 3)) de_str)
    (dss_one (ds_ret (de_call D__law_any (hr.mono (by decide)) tk0 (da_cons (de_var (i := 0)) (da_cons (de_lst (da_cons (de_op do_addA (de_tup (da_cons de_str (da_cons de_int da_nil))) (de_sl (de_var (i := 1)) (do_some de_int) do_none)) (da_cons (de_op do_addA (de_sl (de_var (i := 1)) do_none (do_some de_int)) (de_tup (da_cons de_int (da_cons (de_ix (de_var (i := 1)) de_int) da_nil)))) (da_cons (de_op do_addA (de_sl (de_var (i := 1)) do_none (do_some de_int)) (de_tup (da_cons de_int da_nil))) da_nil)))) da_nil)))))
    dss_nil)
  (dss_cons ev (ds_if (dt_cmp (do_eq hr.units) (de_var (i := 3)) de_str)
    (dss_one (ds_ret (de_call D__law_any (hr.mono (by decide)) tk0 (da_cons (de_var (i := 0)) (da_cons (de_lst (da_cons (de_tup (da_cons de_str (da_cons (de_var (i := 2)) da_nil))) (da_cons (de_tup (da_cons de_str (da_cons (de_un do_negI de_int) da_nil))) da_nil))) da_nil)))))
    dss_nil)
  (dss_cons ev (ds_if (dt_cmp (do_eq hr.units) (de_var (i := 3)) de_str)
    (dss_cons ev (ds_set (i := 6) nd (de_lst (da_cons (de_op do_addA (de_tup (da_cons de_str (da_cons de_int da_nil))) (de_sl (de_var (i := 1)) (do_some de_int) do_none)) (da_cons (de_op do_addA (de_sl (de_var (i := 1)) do_none (do_some de_int)) (de_tup (da_cons de_int (da_cons (de_ix (de_var (i := 1)) de_int) da_nil)))) (da_cons (de_op do_addA (de_sl (de_var (i := 1)) do_none (do_some de_int)) (de_tup (da_cons de_int (da_cons (de_ix (de_var (i := 1)) de_int) da_nil)))) (da_cons (de_op do_addA (de_sl (de_var (i := 1)) do_none (do_some de_int)) (de_tup (da_cons (de_var (i := 2)) da_nil))) da_nil))))))
  (dss_one (ds_ret (de_call D__law_any (hr.mono (by decide)) tk0 (da_cons (de_var (i := 0)) (da_cons (de_op do_addA (de_var (i := 6)) (de_lst (da_cons (de_op do_addA (de_sl (de_var (i := 1)) do_none (do_some de_int)) (de_tup (da_cons (de_un do_negI de_int) da_nil))) da_nil))) da_nil))))))
    dss_nil)
  (dss_one (ds_ret (de_tup (da_cons (de_var (i := 3)) (da_cons (de_call D__law_any (hr.mono (by decide)) tk0 (da_cons (de_var (i := 0)) (da_cons (de_lst (da_cons (de_op do_addA (de_ix (de_var (i := 1)) de_int) (de_tup (da_cons (de_var (i := 2)) da_nil))) (da_cons (de_op do_addA (de_tup (da_cons (de_var (i := 2)) da_nil)) (de_ix (de_var (i := 1)) de_int)) (da_cons (de_op do_addA (de_ix (de_var (i := 1)) de_int) (de_tup (da_cons (de_un do_negI de_int) da_nil))) (da_cons (de_callTy dc_lst T.b_list (da_cons (de_ix (de_var (i := 1)) de_int) da_nil)) da_nil))))) da_nil))) da_nil)))))))))))))
theorem ok__law_bent (T : Tx mg) (D__law_any : Dfn P w K mg base CX0 2 "_law_any" 2 m__law_any) (D__law_bent_line : Dfn P w K mg base CX0 5 "_law_bent_line" 3 m__law_bent_line) (D__law_deep : Dfn P w K mg base CX0 3 "_law_deep" 1 m__law_deep) (D__law_draw : Dfn P w K mg base CX0 1 "_law_draw" 2 m__law_draw) (F : FunD K "_law_bent" "_law_bent" (defArgs s__law_bent) (defBody s__law_bent) (defScope s__law_bent) [] [] f fd) (G : mg "_law_bent" = some (.ref f)) : Dfn P w K mg base CX0 6 "_law_bent" 2 m__law_bent := by
  refine ⟨⟨f, fd, ["pot", "saying"], fn_d F sc__law_bent rfl (fun cdv A outer s H E g hr => ?_), G, F.kp, F.bindsN fun _ _ _ _ _ _ us hl => match us, hl with | [_, _], _ => rfl⟩⟩
  have nd := sc__law_bent.nd
  have ev := body_even (CX := CX0) (P := P) (w := w) (K := K) (mg := mg) (base := base) (N := N__law_bent) (qual := "_law_bent") (scope := defScope s__law_bent) (f := f) (cd := cdv) (A := A) (outer := outer) (s := s) (H := H) (E := E) (g := g)
  unfold b__law_bent
  exact (dss_cons ev (ds_if (dt_cmp (do_eq hr.units) (de_call D__law_draw (hr.mono (by decide)) tk0 (da_cons (de_var (i := 0)) (da_cons de_int da_nil))) de_int)
    (dss_cons ev (ds_set (i := 2) nd (de_lst (da_cons (de_callTy dc_lst T.b_list (da_cons (de_var (i := 1)) da_nil)) (da_cons (de_tup da_nil) (da_cons de_non (da_cons (de_ix (de_var (i := 1)) de_int) (da_cons (de_op do_addA (de_var (i := 1)) (de_tup (da_cons de_non da_nil))) (da_cons (de_sl (de_var (i := 1)) (do_some de_int) do_none) (da_cons (de_tup (da_cons (de_var (i := 1)) da_nil)) (da_cons (de_rev (de_var (i := 1))) (da_cons de_bl (da_cons de_str da_nil))))))))))))
  (dss_one (ds_ret (de_call D__law_any (hr.mono (by decide)) tk0 (da_cons (de_var (i := 0)) (da_cons (de_op do_addA (de_var (i := 2)) (de_lst (da_cons de_dict0 (da_cons de_int (da_cons (de_call D__law_deep (hr.mono (by decide)) tk0 (da_cons (de_var (i := 0)) da_nil)) (da_cons (de_op do_addA (de_var (i := 1)) (de_var (i := 1))) da_nil)))))) da_nil))))))
    dss_nil)
  (dss_cons ev (ds_set (i := 3) nd (de_call D__law_draw (hr.mono (by decide)) tk0 (da_cons (de_var (i := 0)) (da_cons (de_callB dc_len T.b_len (da_cons (de_var (i := 1)) da_nil)) da_nil))))
  (dss_cons ev (ds_set (i := 4) nd (de_ix (de_var (i := 1)) (de_var (i := 3))))
  (dss_cons ev (ds_if (dw_pt (dw_or (dt_not (dt_val (de_callB (dc_isiA allTs_ok) T.b_isinstance (da_cons (de_var (i := 4)) (da_cons (de_ty T.b_tuple (by decide +kernel)) da_nil))))) (dw_or1 (dt_cmp do_ltI (de_callB dc_len T.b_len (da_cons (de_var (i := 4)) da_nil)) de_int))))
    (dss_one (ds_ret (de_var (i := 1))))
    dss_nil)
  (dss_one (ds_ret (de_op do_addA (de_op do_addA (de_sl (de_var (i := 1)) do_none (do_some (de_var (i := 3)))) (de_tup (da_cons (de_call D__law_bent_line (hr.mono (by decide)) tk0 (da_cons (de_var (i := 0)) (da_cons (de_var (i := 4)) (da_cons (de_var (i := 3)) da_nil)))) da_nil))) (de_sl (de_var (i := 1)) (do_some (de_op do_addA (de_var (i := 3)) de_int)) do_none))))))))
theorem ok__law_flag (T : Tx mg)  (F : FunD K "_law_flag" "_law_flag" (defArgs s__law_flag) (defBody s__law_flag) (defScope s__law_flag) [] [] f fd) (G : mg "_law_flag" = some (.ref f)) : Dfn P w K mg base CX0 1 "_law_flag" 2 m__law_flag := by
  refine ⟨⟨f, fd, ["told", "due"], fn_d F sc__law_flag rfl (fun cdv A outer s H E g hr => ?_), G, F.kp, F.bindsN fun _ _ _ _ _ _ us hl => match us, hl with | [_, _], _ => rfl⟩⟩
  have nd := sc__law_flag.nd
  have ev := body_even (CX := CX0) (P := P) (w := w) (K := K) (mg := mg) (base := base) (N := N__law_flag) (qual := "_law_flag") (scope := defScope s__law_flag) (f := f) (cd := cdv) (A := A) (outer := outer) (s := s) (H := H) (E := E) (g := g)
  unfold b__law_flag
  exact (dss_one (ds_ret (de_and (de_callB (dc_isiA allTs_ok) T.b_isinstance (da_cons (de_var (i := 0)) (da_cons (de_ty T.b_bool (by decide +kernel)) da_nil))) (de_one (de_cmp (do_eq hr.units) (de_var (i := 0)) (de_var (i := 1)))))))
theorem ok__law_long_right (T : Tx mg) (D__law_bent_line : Dfn P w K mg base CX0 5 "_law_bent_line" 3 m__law_bent_line) (D__law_draw : Dfn P w K mg base CX0 1 "_law_draw" 2 m__law_draw) (D__law_flag : Dfn P w K mg base CX0 1 "_law_flag" 2 m__law_flag) (D__law_is_saying : Dfn P w K mg base CX0 4 "_law_is_saying" 1 m__law_is_saying) (D__law_saying : Dfn P w K mg base CX0 4 "_law_saying" 4 m__law_saying) (D_is_saying : Dfn P w K mg base CX0 7 "is_saying" 1 m_is_saying) (F : FunD K "_law_long_right" "_law_long_right" (defArgs s__law_long_right) (defBody s__law_long_right) (defScope s__law_long_right) [] [] f fd) (G : mg "_law_long_right" = some (.ref f)) : Dfn P w K mg base CX0 8 "_law_long_right" 1 m__law_long_right := by
  refine ⟨⟨f, fd, ["pot"], fn_d F sc__law_long_right rfl (fun cdv A outer s H E g hr => ?_), G, F.kp, F.bindsN fun _ _ _ _ _ _ us hl => match us, hl with | [_], _ => rfl⟩⟩
  have nd := sc__law_long_right.nd
  have ev := body_even (CX := CX0) (P := P) (w := w) (K := K) (mg := mg) (base := base) (N := N__law_long_right) (qual := "_law_long_right") (scope := defScope s__law_long_right) (f := f) (cd := cdv) (A := A) (outer := outer) (s := s) (H := H) (E := E) (g := g)
  unfold b__law_long_right
  exact (dss_cons ev (ds_set (i := 1) nd (de_call D__law_saying (hr.mono (by decide)) tk0 (da_cons (de_var (i := 0)) (da_cons (de_op do_addA de_int (de_call D__law_draw (hr.mono (by decide)) tk0 (da_cons (de_var (i := 0)) (da_cons de_int da_nil)))) (da_cons de_int (da_cons de_int da_nil))))))
  (dss_cons ev (ds_if (dt_not (dt_val (de_call D__law_flag (hr.mono (by decide)) tk0 (da_cons (de_call D_is_saying (hr.mono (by decide)) tk0 (da_cons (de_var (i := 1)) da_nil)) (da_cons de_bl da_nil)))))
    (dss_one (ds_ret de_bl))
    dss_nil)
  (dss_cons ev (ds_set (i := 2) nd (de_op do_subI (de_op do_subI (de_callB dc_len T.b_len (da_cons (de_var (i := 1)) da_nil)) de_int) (de_call D__law_draw (hr.mono (by decide)) tk0 (da_cons (de_var (i := 0)) (da_cons de_int da_nil)))))
  (dss_cons ev (ds_set (i := 3) nd (de_op do_addA (de_op do_addA (de_sl (de_var (i := 1)) do_none (do_some (de_var (i := 2)))) (de_tup (da_cons (de_call D__law_bent_line (hr.mono (by decide)) tk0 (da_cons (de_var (i := 0)) (da_cons (de_ix (de_var (i := 1)) (de_var (i := 2))) (da_cons (de_var (i := 2)) da_nil)))) da_nil))) (de_sl (de_var (i := 1)) (do_some (de_op do_addA (de_var (i := 2)) de_int)) do_none)))
  (dss_one (ds_ret (de_call D__law_flag (hr.mono (by decide)) tk0 (da_cons (de_call D_is_saying (hr.mono (by decide)) tk0 (da_cons (de_var (i := 3)) da_nil)) (da_cons (de_call D__law_is_saying (hr.mono (by decide)) tk0 (da_cons (de_var (i := 3)) da_nil)) da_nil)))))))))
theorem ok_law (T : Tx mg) (D__law_any : Dfn P w K mg base CX0 2 "_law_any" 2 m__law_any) (D__law_bent : Dfn P w K mg base CX0 6 "_law_bent" 2 m__law_bent) (D__law_draw : Dfn P w K mg base CX0 1 "_law_draw" 2 m__law_draw) (D__law_flag : Dfn P w K mg base CX0 1 "_law_flag" 2 m__law_flag) (D__law_is_saying : Dfn P w K mg base CX0 4 "_law_is_saying" 1 m__law_is_saying) (D__law_just_out : Dfn P w K mg base CX0 3 "_law_just_out" 3 m__law_just_out) (D__law_long_right : Dfn P w K mg base CX0 8 "_law_long_right" 1 m__law_long_right) (D__law_odd : Dfn P w K mg base CX0 4 "_law_odd" 2 m__law_odd) (D__law_pot : Dfn P w K mg base CX0 1 "_law_pot" 1 m__law_pot) (D__law_saying : Dfn P w K mg base CX0 4 "_law_saying" 4 m__law_saying) (D_is_saying : Dfn P w K mg base CX0 7 "is_saying" 1 m_is_saying) (F : FunD K "law" "law" (defArgs s_law) (defBody s_law) (defScope s_law) [] [] f fd) : FnOk P w K mg base CX0 9 f fd ["script"] (spD K 1 m_law) := by
  refine fn_d F sc_law rfl (fun cdv A outer s H E g hr => ?_)
  have nd := sc_law.nd
  have ev := body_even (CX := CX0) (P := P) (w := w) (K := K) (mg := mg) (base := base) (N := N_law) (qual := "law") (scope := defScope s_law) (f := f) (cd := cdv) (A := A) (outer := outer) (s := s) (H := H) (E := E) (g := g)
  unfold b_law
  exact (dss_cons ev (ds_set (i := 1) nd (de_call D__law_pot (hr.mono (by decide)) tk0 (da_cons (de_var (i := 0)) da_nil)))
  (dss_cons ev (ds_if (dw_pt (dw_and (dt_cmp (do_eq hr.units) (de_call D__law_draw (hr.mono (by decide)) tk0 (da_cons (de_var (i := 1)) (da_cons de_int da_nil))) de_int) (dw_and1 (dt_not (dt_val (de_call D__law_long_right (hr.mono (by decide)) tk0 (da_cons (de_var (i := 1)) da_nil)))))))
    (dss_one (ds_ret de_bl))
    dss_nil)
  (dss_cons ev (ds_for (vs := [2]) (passes_of rfl) rfl ev (di_rng1 T.b_range (da_cons de_int da_nil)) (dg_name (i := 2) nd)
    (dss_cons ev (ds_set (i := 3) nd (de_call D__law_saying (hr.mono (by decide)) tk0 (da_cons (de_var (i := 1)) (da_cons (de_op do_addA de_int (de_call D__law_draw (hr.mono (by decide)) tk0 (da_cons (de_var (i := 1)) (da_cons de_int da_nil)))) (da_cons (de_op do_addA de_int (de_call D__law_draw (hr.mono (by decide)) tk0 (da_cons (de_var (i := 1)) (da_cons de_int da_nil)))) (da_cons (de_call D__law_any (hr.mono (by decide)) tk0 (da_cons (de_var (i := 1)) (da_cons (de_lst (da_cons de_int (da_cons de_int (da_cons de_int (da_cons de_int da_nil))))) da_nil))) da_nil))))))
  (dss_cons ev (ds_if (dw_pt (dw_or (dt_not (dt_val (de_call D__law_flag (hr.mono (by decide)) tk0 (da_cons (de_call D_is_saying (hr.mono (by decide)) tk0 (da_cons (de_var (i := 3)) da_nil)) (da_cons de_bl da_nil))))) (dw_or1 (dt_not (dt_val (de_call D__law_is_saying (hr.mono (by decide)) tk0 (da_cons (de_var (i := 3)) da_nil)))))))
    (dss_one (ds_ret de_bl))
    dss_nil)
  (dss_cons ev (ds_for (vs := [4, 5]) (passes_of rfl) rfl ev (di_enumA T.b_enumerate (da_cons (de_var (i := 3)) da_nil)) (dg_tup (n := 2) rfl (dgs_cons (dg_name (i := 4) nd) (dgs_cons (dg_name (i := 5) nd) dgs_nil)))
    (dss_one (ds_if (dt_not (dt_val (de_call D__law_flag (hr.mono (by decide)) tk0 (da_cons (de_call D_is_saying (hr.mono (by decide)) tk0 (da_cons (de_op do_addA (de_op do_addA (de_sl (de_var (i := 3)) do_none (do_some (de_var (i := 4)))) (de_tup (da_cons (de_call D__law_just_out (hr.mono (by decide)) tk0 (da_cons (de_var (i := 1)) (da_cons (de_var (i := 5)) (da_cons (de_var (i := 4)) da_nil)))) da_nil))) (de_sl (de_var (i := 3)) (do_some (de_op do_addA (de_var (i := 4)) de_int)) do_none)) da_nil)) (da_cons de_bl da_nil)))))
    (dss_one (ds_ret de_bl))
    dss_nil)))
  (dss_cons ev (ds_set (i := 6) nd (de_var (i := 3)))
  (dss_one (ds_for (vs := [7]) (passes_of rfl) rfl ev (di_rng1 T.b_range (da_cons (de_op do_addA de_int (de_call D__law_draw (hr.mono (by decide)) tk0 (da_cons (de_var (i := 1)) (da_cons de_int da_nil)))) da_nil)) (dg_name (i := 7) nd)
    (dss_cons ev (ds_set (i := 6) nd (de_if (dw_pt (dw_and (dt_val (de_callB (dc_isiA allTs_ok) T.b_isinstance (da_cons (de_var (i := 6)) (da_cons (de_ty T.b_tuple (by decide +kernel)) da_nil)))) (dw_and1 (dt_cmp do_gtI (de_callB dc_len T.b_len (da_cons (de_var (i := 6)) da_nil)) de_int)))) (de_call D__law_bent (hr.mono (by decide)) tk0 (da_cons (de_var (i := 1)) (da_cons (de_var (i := 6)) da_nil))) (de_var (i := 6))))
  (dss_one (ds_if (dt_not (dt_val (de_call D__law_flag (hr.mono (by decide)) tk0 (da_cons (de_call D_is_saying (hr.mono (by decide)) tk0 (da_cons (de_var (i := 6)) da_nil)) (da_cons (de_call D__law_is_saying (hr.mono (by decide)) tk0 (da_cons (de_var (i := 6)) da_nil)) da_nil)))))
    (dss_one (ds_ret de_bl))
    dss_nil))))))))))
  (dss_one (ds_ret (de_call D__law_flag (hr.mono (by decide)) tk0 (da_cons (de_call D_is_saying (hr.mono (by decide)) tk0 (da_cons (de_call D__law_odd (hr.mono (by decide)) tk0 (da_cons (de_var (i := 1)) (da_cons de_int da_nil))) da_nil)) (da_cons de_bl da_nil))))))))
end
end Qk18
set_option Elab.async false
set_option linter.all false
set_option maxRecDepth 100000
set_option maxHeartbeats 0
set_option autoImplicit false
namespace Qk18
open PySem PySem.Spec L2 L3
open PyProof.Rows hiding St
def d_is_integer : He.DefD := ⟨("is_integer", none), "is_integer", "is_integer", defArgs s_is_integer, defBody s_is_integer, defScope s_is_integer, [], []⟩
def d_is_within : He.DefD := ⟨("is_within", none), "is_within", "is_within", defArgs s_is_within, defBody s_is_within, defScope s_is_within, [], []⟩
def d_is_number : He.DefD := ⟨("is_number", none), "is_number", "is_number", defArgs s_is_number, defBody s_is_number, defScope s_is_number, [], []⟩
def d_is_name : He.DefD := ⟨("is_name", none), "is_name", "is_name", defArgs s_is_name, defBody s_is_name, defScope s_is_name, [], []⟩
def d_is_plain_line : He.DefD := ⟨("is_plain_line", none), "is_plain_line", "is_plain_line", defArgs s_is_plain_line, defBody s_is_plain_line, defScope s_is_plain_line, [], []⟩
def d_is_line : He.DefD := ⟨("is_line", none), "is_line", "is_line", defArgs s_is_line, defBody s_is_line, defScope s_is_line, [], []⟩
def d_is_saying : He.DefD := ⟨("is_saying", none), "is_saying", "is_saying", defArgs s_is_saying, defBody s_is_saying, defScope s_is_saying, [], []⟩
def d__law_pot : He.DefD := ⟨("_law_pot", none), "_law_pot", "_law_pot", defArgs s__law_pot, defBody s__law_pot, defScope s__law_pot, [], []⟩
def d__law_draw : He.DefD := ⟨("_law_draw", none), "_law_draw", "_law_draw", defArgs s__law_draw, defBody s__law_draw, defScope s__law_draw, [], []⟩
def d__law_any : He.DefD := ⟨("_law_any", none), "_law_any", "_law_any", defArgs s__law_any, defBody s__law_any, defScope s__law_any, [], []⟩
def d__law_line_of : He.DefD := ⟨("_law_line_of", none), "_law_line_of", "_law_line_of", defArgs s__law_line_of, defBody s__law_line_of, defScope s__law_line_of, [], []⟩
def d__law_saying : He.DefD := ⟨("_law_saying", none), "_law_saying", "_law_saying", defArgs s__law_saying, defBody s__law_saying, defScope s__law_saying, [], []⟩
def d__law_deep : He.DefD := ⟨("_law_deep", none), "_law_deep", "_law_deep", defArgs s__law_deep, defBody s__law_deep, defScope s__law_deep, [], []⟩
def d__law_is_number : He.DefD := ⟨("_law_is_number", none), "_law_is_number", "_law_is_number", defArgs s__law_is_number, defBody s__law_is_number, defScope s__law_is_number, [], []⟩
def d__law_are_lines : He.DefD := ⟨("_law_are_lines", none), "_law_are_lines", "_law_are_lines", defArgs s__law_are_lines, defBody s__law_are_lines, defScope s__law_are_lines, [], []⟩
def d__law_is_line : He.DefD := ⟨("_law_is_line", none), "_law_is_line", "_law_is_line", defArgs s__law_is_line, defBody s__law_is_line, defScope s__law_is_line, [], []⟩
def d__law_is_saying : He.DefD := ⟨("_law_is_saying", none), "_law_is_saying", "_law_is_saying", defArgs s__law_is_saying, defBody s__law_is_saying, defScope s__law_is_saying, [], []⟩
def d__law_odd : He.DefD := ⟨("_law_odd", none), "_law_odd", "_law_odd", defArgs s__law_odd, defBody s__law_odd, defScope s__law_odd, [], []⟩
def d__law_bent_line : He.DefD := ⟨("_law_bent_line", none), "_law_bent_line", "_law_bent_line", defArgs s__law_bent_line, defBody s__law_bent_line, defScope s__law_bent_line, [], []⟩
def d__law_just_out : He.DefD := ⟨("_law_just_out", none), "_law_just_out", "_law_just_out", defArgs s__law_just_out, defBody s__law_just_out, defScope s__law_just_out, [], []⟩
def d__law_bent : He.DefD := ⟨("_law_bent", none), "_law_bent", "_law_bent", defArgs s__law_bent, defBody s__law_bent, defScope s__law_bent, [], []⟩
def d__law_flag : He.DefD := ⟨("_law_flag", none), "_law_flag", "_law_flag", defArgs s__law_flag, defBody s__law_flag, defScope s__law_flag, [], []⟩
def d__law_long_right : He.DefD := ⟨("_law_long_right", none), "_law_long_right", "_law_long_right", defArgs s__law_long_right, defBody s__law_long_right, defScope s__law_long_right, [], []⟩
def d_law : He.DefD := ⟨("law", none), "law", "law", defArgs s_law, defBody s_law, defScope s_law, [], []⟩
def fnl0 : List He.DefD := [d_is_integer, d_is_within, d_is_number, d_is_name, d_is_plain_line, d_is_line, d_is_saying, d__law_pot, d__law_draw, d__law_any, d__law_line_of, d__law_saying, d__law_deep, d__law_is_number, d__law_are_lines, d__law_is_line, d__law_is_saying, d__law_odd, d__law_bent_line, d__law_just_out, d__law_bent, d__law_flag, d__law_long_right, d_law]
abbrev fnl : List He.DefD := fnl0
def fal0 : List He.Fa := [.glo "is_integer", .glo "is_within", .glo "is_number", .glo "is_name", .glo "is_plain_line", .glo "is_line", .glo "is_saying", .glo "_law_pot", .glo "_law_draw", .glo "_law_any", .glo "_law_line_of", .glo "_law_saying", .glo "_law_deep", .glo "_law_is_number", .glo "_law_are_lines", .glo "_law_is_line", .glo "_law_is_saying", .glo "_law_odd", .glo "_law_bent_line", .glo "_law_just_out", .glo "_law_bent", .glo "_law_flag", .glo "_law_long_right", .glo "law", .free "abs", .free "all", .free "bool", .free "enumerate", .free "int", .free "isinstance"]
def fal1 : List He.Fa := [.free "len", .free "list", .free "max", .free "range", .free "str", .free "tuple", .str "ALL" (PySem.Str.ofString "all"), .str "HUE" (PySem.Str.ofString "hue"), .str "MANY" (PySem.Str.ofString "many"), .int "MOST_COUNT" (40), .int "MOST_HUE" (9), .int "MOST_KIND" (3), .int "NAMES" (4), .str "NOT" (PySem.Str.ofString "not"), .str "SAME" (PySem.Str.ofString "same"), .str "SOME" (PySem.Str.ofString "some"), .str "TIE" (PySem.Str.ofString "tie")]
abbrev fal : List He.Fa := fal0 ++ fal1
def loo0 : List Str := ["is_integer", "is_within", "is_number", "NAMES", "MOST_HUE", "MOST_KIND", "MOST_COUNT", "HUE", "SAME", "TIE", "NOT", "ALL", "SOME", "MANY", "is_name", "is_plain_line", "is_line", "is_saying", "_law_pot", "_law_draw", "_law_any", "_law_line_of", "_law_saying", "_law_deep", "_law_is_number", "_law_are_lines", "_law_is_line", "_law_is_saying", "_law_odd", "_law_bent_line"]
def loo1 : List Str := ["_law_just_out", "_law_bent", "_law_flag", "_law_long_right"]
abbrev loo : List Str := loo0 ++ loo1
abbrev R : PySem.W.OpenRow := PySem.W.OpenLaw.row PySem.Challenge.rw_levelkin_k18_whole_sayings_judged
abbrev hk : PySem.W.Hook := He.hookD 4 fal fnl
def ob (s : PySem.W.SharedT) : He.AlD := He.obsDG 4 fal fnl (HandSHeadRun.getT s)
theorem ob_eq (s : PySem.W.SharedT) : ob s = hk.obs s.abs := He.obsDG_eq (HandSHeadRun.getT_eq s)
theorem run (w : World) : HandSHeadRun.RunEq R (PySem.W.view R.prog [37]) hk ob 3000 loo w := by
  intro os
  kernel_rfl
theorem facts {P : Program} {w : World} {K : PySem.W.Frag} {h : Heap} {mg : Str → Option Value} {f : Addr} (X : K.In h) (G : h.Ns mainGlobals mg) (hfa : mg ("law" : Str) = some (.ref f)) (c : He.SaysD fal fnl K) :
    ∃ fd : FuncData, (∀ (s : Shared) (v : Value), BindsTo s fd ⟨[v], []⟩ [("script", v)]) ∧ ∀ base : Heap, K.In base → base.Ns mainGlobals mg → FnOk P w K mg base CX0 9 f fd ["script"] (spD K 1 m_law) := by
  obtain ⟨fd_is_integer, F_is_integer⟩ := c.def_ 0 (d := d_is_integer) rfl
  have G_is_integer := He.glo_ok X G (c.fact 0 (f := .glo "is_integer") rfl)
  obtain ⟨fd_is_within, F_is_within⟩ := c.def_ 1 (d := d_is_within) rfl
  have G_is_within := He.glo_ok X G (c.fact 1 (f := .glo "is_within") rfl)
  obtain ⟨fd_is_number, F_is_number⟩ := c.def_ 2 (d := d_is_number) rfl
  have G_is_number := He.glo_ok X G (c.fact 2 (f := .glo "is_number") rfl)
  obtain ⟨fd_is_name, F_is_name⟩ := c.def_ 3 (d := d_is_name) rfl
  have G_is_name := He.glo_ok X G (c.fact 3 (f := .glo "is_name") rfl)
  obtain ⟨fd_is_plain_line, F_is_plain_line⟩ := c.def_ 4 (d := d_is_plain_line) rfl
  have G_is_plain_line := He.glo_ok X G (c.fact 4 (f := .glo "is_plain_line") rfl)
  obtain ⟨fd_is_line, F_is_line⟩ := c.def_ 5 (d := d_is_line) rfl
  have G_is_line := He.glo_ok X G (c.fact 5 (f := .glo "is_line") rfl)
  obtain ⟨fd_is_saying, F_is_saying⟩ := c.def_ 6 (d := d_is_saying) rfl
  have G_is_saying := He.glo_ok X G (c.fact 6 (f := .glo "is_saying") rfl)
  obtain ⟨fd__law_pot, F__law_pot⟩ := c.def_ 7 (d := d__law_pot) rfl
  have G__law_pot := He.glo_ok X G (c.fact 7 (f := .glo "_law_pot") rfl)
  obtain ⟨fd__law_draw, F__law_draw⟩ := c.def_ 8 (d := d__law_draw) rfl
  have G__law_draw := He.glo_ok X G (c.fact 8 (f := .glo "_law_draw") rfl)
  obtain ⟨fd__law_any, F__law_any⟩ := c.def_ 9 (d := d__law_any) rfl
  have G__law_any := He.glo_ok X G (c.fact 9 (f := .glo "_law_any") rfl)
  obtain ⟨fd__law_line_of, F__law_line_of⟩ := c.def_ 10 (d := d__law_line_of) rfl
  have G__law_line_of := He.glo_ok X G (c.fact 10 (f := .glo "_law_line_of") rfl)
  obtain ⟨fd__law_saying, F__law_saying⟩ := c.def_ 11 (d := d__law_saying) rfl
  have G__law_saying := He.glo_ok X G (c.fact 11 (f := .glo "_law_saying") rfl)
  obtain ⟨fd__law_deep, F__law_deep⟩ := c.def_ 12 (d := d__law_deep) rfl
  have G__law_deep := He.glo_ok X G (c.fact 12 (f := .glo "_law_deep") rfl)
  obtain ⟨fd__law_is_number, F__law_is_number⟩ := c.def_ 13 (d := d__law_is_number) rfl
  have G__law_is_number := He.glo_ok X G (c.fact 13 (f := .glo "_law_is_number") rfl)
  obtain ⟨fd__law_are_lines, F__law_are_lines⟩ := c.def_ 14 (d := d__law_are_lines) rfl
  have G__law_are_lines := He.glo_ok X G (c.fact 14 (f := .glo "_law_are_lines") rfl)
  obtain ⟨fd__law_is_line, F__law_is_line⟩ := c.def_ 15 (d := d__law_is_line) rfl
  have G__law_is_line := He.glo_ok X G (c.fact 15 (f := .glo "_law_is_line") rfl)
  obtain ⟨fd__law_is_saying, F__law_is_saying⟩ := c.def_ 16 (d := d__law_is_saying) rfl
  have G__law_is_saying := He.glo_ok X G (c.fact 16 (f := .glo "_law_is_saying") rfl)
  obtain ⟨fd__law_odd, F__law_odd⟩ := c.def_ 17 (d := d__law_odd) rfl
  have G__law_odd := He.glo_ok X G (c.fact 17 (f := .glo "_law_odd") rfl)
  obtain ⟨fd__law_bent_line, F__law_bent_line⟩ := c.def_ 18 (d := d__law_bent_line) rfl
  have G__law_bent_line := He.glo_ok X G (c.fact 18 (f := .glo "_law_bent_line") rfl)
  obtain ⟨fd__law_just_out, F__law_just_out⟩ := c.def_ 19 (d := d__law_just_out) rfl
  have G__law_just_out := He.glo_ok X G (c.fact 19 (f := .glo "_law_just_out") rfl)
  obtain ⟨fd__law_bent, F__law_bent⟩ := c.def_ 20 (d := d__law_bent) rfl
  have G__law_bent := He.glo_ok X G (c.fact 20 (f := .glo "_law_bent") rfl)
  obtain ⟨fd__law_flag, F__law_flag⟩ := c.def_ 21 (d := d__law_flag) rfl
  have G__law_flag := He.glo_ok X G (c.fact 21 (f := .glo "_law_flag") rfl)
  obtain ⟨fd__law_long_right, F__law_long_right⟩ := c.def_ 22 (d := d__law_long_right) rfl
  have G__law_long_right := He.glo_ok X G (c.fact 22 (f := .glo "_law_long_right") rfl)
  obtain ⟨fd_law, F_law⟩ := c.def_ 23 (d := d_law) rfl
  have G_law := He.glo_ok X G (c.fact 23 (f := .glo "law") rfl)
  have T : Tx mg := { b_abs := He.free_ok X G (c.fact 24 (f := .free "abs") rfl), b_all := He.free_ok X G (c.fact 25 (f := .free "all") rfl), b_bool := He.free_ok X G (c.fact 26 (f := .free "bool") rfl), b_enumerate := He.free_ok X G (c.fact 27 (f := .free "enumerate") rfl), b_int := He.free_ok X G (c.fact 28 (f := .free "int") rfl), b_isinstance := He.free_ok X G (c.fact 29 (f := .free "isinstance") rfl), b_len := He.free_ok X G (c.fact 30 (f := .free "len") rfl), b_list := He.free_ok X G (c.fact 31 (f := .free "list") rfl), b_max := He.free_ok X G (c.fact 32 (f := .free "max") rfl), b_range := He.free_ok X G (c.fact 33 (f := .free "range") rfl), b_str := He.free_ok X G (c.fact 34 (f := .free "str") rfl), b_tuple := He.free_ok X G (c.fact 35 (f := .free "tuple") rfl), c_ALL := He.str_ok X G (c.fact 36 (f := .str "ALL" (PySem.Str.ofString "all")) rfl), c_HUE := He.str_ok X G (c.fact 37 (f := .str "HUE" (PySem.Str.ofString "hue")) rfl), c_MANY := He.str_ok X G (c.fact 38 (f := .str "MANY" (PySem.Str.ofString "many")) rfl), c_MOST_COUNT := He.int_ok X G (c.fact 39 (f := .int "MOST_COUNT" (40)) rfl), c_MOST_HUE := He.int_ok X G (c.fact 40 (f := .int "MOST_HUE" (9)) rfl), c_MOST_KIND := He.int_ok X G (c.fact 41 (f := .int "MOST_KIND" (3)) rfl), c_NAMES := He.int_ok X G (c.fact 42 (f := .int "NAMES" (4)) rfl), c_NOT := He.str_ok X G (c.fact 43 (f := .str "NOT" (PySem.Str.ofString "not")) rfl), c_SAME := He.str_ok X G (c.fact 44 (f := .str "SAME" (PySem.Str.ofString "same")) rfl), c_SOME := He.str_ok X G (c.fact 45 (f := .str "SOME" (PySem.Str.ofString "some")) rfl), c_TIE := He.str_ok X G (c.fact 46 (f := .str "TIE" (PySem.Str.ofString "tie")) rfl) }
  have e := hfa.symm.trans G_law
  cases e
  have b := FunD.bindsA (ps := ["script"]) F_law fun _ _ _ _ _ _ us hl => match us, hl with | [_], _ => rfl
  refine ⟨fd_law, fun s v => b s [v] rfl, fun base _ _ => ?_⟩
  have D_is_integer : Dfn P w K mg base CX0 1 "is_integer" 1 m_is_integer := ok_is_integer T  F_is_integer G_is_integer
  have D_is_within : Dfn P w K mg base CX0 2 "is_within" 3 m_is_within := ok_is_within T D_is_integer F_is_within G_is_within
  have D_is_number : Dfn P w K mg base CX0 3 "is_number" 2 m_is_number := ok_is_number T D_is_within F_is_number G_is_number
  have D_is_name : Dfn P w K mg base CX0 4 "is_name" 1 m_is_name := ok_is_name T D_is_number F_is_name G_is_name
  have D_is_plain_line : Dfn P w K mg base CX0 5 "is_plain_line" 1 m_is_plain_line := ok_is_plain_line T D_is_name D_is_number F_is_plain_line G_is_plain_line
  have D_is_line : Dfn P w K mg base CX0 6 "is_line" 2 m_is_line := ok_is_line T D_is_name D_is_number D_is_plain_line D_is_within F_is_line G_is_line
  have D_is_saying : Dfn P w K mg base CX0 7 "is_saying" 1 m_is_saying := ok_is_saying T D_is_line F_is_saying G_is_saying
  have D__law_pot : Dfn P w K mg base CX0 1 "_law_pot" 1 m__law_pot := ok__law_pot T  F__law_pot G__law_pot
  have D__law_draw : Dfn P w K mg base CX0 1 "_law_draw" 2 m__law_draw := ok__law_draw T  F__law_draw G__law_draw
  have D__law_any : Dfn P w K mg base CX0 2 "_law_any" 2 m__law_any := ok__law_any T D__law_draw F__law_any G__law_any
  have D__law_line_of : Dfn P w K mg base CX0 3 "_law_line_of" 4 m__law_line_of := ok__law_line_of T D__law_any D__law_draw F__law_line_of G__law_line_of
  have D__law_saying : Dfn P w K mg base CX0 4 "_law_saying" 4 m__law_saying := ok__law_saying T D__law_line_of F__law_saying G__law_saying
  have D__law_deep : Dfn P w K mg base CX0 3 "_law_deep" 1 m__law_deep := ok__law_deep T D__law_any D__law_draw F__law_deep G__law_deep
  have D__law_is_number : Dfn P w K mg base CX0 1 "_law_is_number" 3 m__law_is_number := ok__law_is_number T  F__law_is_number G__law_is_number
  have D__law_are_lines : Dfn P w K mg base CX0 2 "_law_are_lines" 2 m__law_are_lines := ok__law_are_lines T D__law_is_number F__law_are_lines G__law_are_lines
  have D__law_is_line : Dfn P w K mg base CX0 3 "_law_is_line" 2 m__law_is_line := ok__law_is_line T D__law_are_lines D__law_is_number F__law_is_line G__law_is_line
  have D__law_is_saying : Dfn P w K mg base CX0 4 "_law_is_saying" 1 m__law_is_saying := ok__law_is_saying T D__law_is_line F__law_is_saying G__law_is_saying
  have D__law_odd : Dfn P w K mg base CX0 4 "_law_odd" 2 m__law_odd := ok__law_odd T D__law_any D__law_deep F__law_odd G__law_odd
  have D__law_bent_line : Dfn P w K mg base CX0 5 "_law_bent_line" 3 m__law_bent_line := ok__law_bent_line T D__law_any D__law_draw D__law_odd F__law_bent_line G__law_bent_line
  have D__law_just_out : Dfn P w K mg base CX0 3 "_law_just_out" 3 m__law_just_out := ok__law_just_out T D__law_any D__law_draw F__law_just_out G__law_just_out
  have D__law_bent : Dfn P w K mg base CX0 6 "_law_bent" 2 m__law_bent := ok__law_bent T D__law_any D__law_bent_line D__law_deep D__law_draw F__law_bent G__law_bent
  have D__law_flag : Dfn P w K mg base CX0 1 "_law_flag" 2 m__law_flag := ok__law_flag T  F__law_flag G__law_flag
  have D__law_long_right : Dfn P w K mg base CX0 8 "_law_long_right" 1 m__law_long_right := ok__law_long_right T D__law_bent_line D__law_draw D__law_flag D__law_is_saying D__law_saying D_is_saying F__law_long_right G__law_long_right
  exact ok_law T D__law_any D__law_bent D__law_draw D__law_flag D__law_is_saying D__law_just_out D__law_long_right D__law_odd D__law_pot D__law_saying D_is_saying F_law
end Qk18
set_option Elab.async false
set_option linter.all false
set_option maxRecDepth 100000
set_option maxHeartbeats 4000000
set_option autoImplicit false
namespace Qk18
open PySem PySem.Spec L2 L3
open PyProof.Rows hiding St
theorem draw_spec {n : Nat} {k : Int} {M : Store} (h : Pot n M) (h0 : 0 < k) (h1 : k < 1073741824) : Post (m__law_draw [.loc n, .int k] M) (fun d M' => Pot n M' ∧ ∃ j : Int, d = .int j ∧ 0 ≤ j ∧ j < k) (fun _ _ => False) := by
  obtain ⟨cs, a, b, c, d, e, ha⟩ := h
  have hn : n < M.length := (List.getElem?_eq_some_iff.mp e).1
  unfold m__law_draw b__law_draw
  have hk0 := fun x : Int => Int.emod_nonneg x (show k ≠ 0 by omega)
  have hk1 := fun x : Int => Int.emod_lt_of_pos x h0
  by_cases hb : b = 0
  · subst hb
    by_cases hb2 : a < cs.length
    · obtain ⟨x, hx⟩ := atP_ints ha hb2
      simp [p_runD, locL_of e, hn, hx, hb2, pot_set hn, h0, h1, hk0, hk1]
      (repeat' split) <;> omega
    · simp [p_runD, locL_of e, hn, hb2, pot_set hn, h0, h1, hk0, hk1]
      omega
  · simp [p_runD, locL_of e, hn, hb, pot_set hn, h0, h1, hk0, hk1]
    (repeat' split) <;> omega
theorem any_spec {n : Nat} {xs : List D} {M : Store} (h : Pot n M) (h0 : xs ≠ []) (h1 : xs.length < 1073741824) : Post (m__law_any [.loc n, .lst xs] M) (fun d M' => Pot n M' ∧ d ∈ xs) (fun _ _ => False) := by
  have hp : 0 < xs.length := List.length_pos_iff.mpr h0
  unfold m__law_any b__law_any
  simp [p_runD]
  refine (draw_spec h (by omega) (by omega)).use ?_
  rintro d M1 ⟨h2, j, rfl, h3, h4⟩
  simp
  exact atP_all h3 h4 fun d hd => ⟨h2, hd⟩
theorem pot_spec {ns : List Int} (hl : ns.length ≤ 63) : Post (m__law_pot [.ro (ns.map .int)] []) (fun d M' => d = .loc 0 ∧ Pot 0 M') (fun _ _ => False) := by
  unfold m__law_pot b__law_pot
  simp [p_runD]
  rw [cutD_map]
  refine lc_map absI trivial ?_ ?_ ?_
  · rw [List.length_map, List.length_take, List.length_drop]; simp; omega
  · intro d hd
    obtain ⟨i, _, rfl⟩ := List.mem_map.mp hd
    simp [absI]
  · simp
    have e : ns.map (absI ∘ D.int) = (ns.map fun i : Int => if i < 0 then -i else i).map D.int := by rw [List.map_map]; rfl
    rw [e, ← List.map_drop, ← List.map_take]
    exact ⟨_, _, _, _, _, rfl, Int.le_refl 0⟩
/-! the judges -/
def isNum (d : D) (a b : Int) : Bool := match d with
  | .int i => decide (a ≤ i) && decide (i ≤ b)
  | _ => false
section
variable {Q : D → Store → Prop} {E : Exn → Store → Prop} {M : Store} {n : Nat} {d : D} {a b : Int}
theorem is_within_eq (h : Dat n d) : m_is_within [d, .int a, .int b] M = .ok (.bl (isNum d a b)) M := by
  refine ok_of ?_
  unfold m_is_within b_is_within m_is_integer b_is_integer
  cases h <;> simp [p_runD, isT, isNum]
  split <;> simp_all
  omega
theorem is_number_eq (h : Dat n d) : m_is_number [d, .int b] M = .ok (.bl (isNum d 0 b)) M := by
  refine ok_of ?_
  unfold m_is_number b_is_number
  simp [p_runD, is_within_eq h]
theorem is_name_eq (h : Dat n d) : m_is_name [d] M = .ok (.bl (isNum d 0 3)) M := by
  refine ok_of ?_
  unfold m_is_name b_is_name
  simp [p_runD, is_number_eq h]
theorem law_is_number_eq (h : Dat n d) : m__law_is_number [d, .int a, .int b] M = .ok (.bl (isNum d a b)) M := by
  refine ok_of ?_
  unfold m__law_is_number b__law_is_number
  cases h <;> simp [p_runD, isT, isNum]
  split <;> simp_all
  omega
/-- a row of numbers -/
def areNums (d : D) (b : Int) : Bool := match d with
  | .tup xs => xs.all fun x => isNum x 0 b
  | _ => false
/-- a line at a place -/
def lineOk (d : D) (k : Int) : Bool := match d with
  | .tup (.str w :: r) =>
    if w = Str.ofString "hue" then match r with
      | [a, b] => isNum a 0 3 && isNum b 0 9
      | _ => false
    else if w = Str.ofString "same" then match r with
      | [a, b] => isNum a 0 3 && isNum b 0 3
      | _ => false
    else if w = Str.ofString "tie" then match r with
      | [a, b, c] => isNum a 0 3 && isNum b 0 3 && isNum c 0 3
      | _ => false
    else if w = Str.ofString "not" then match r with
      | [a] => isNum a 0 (k - 1)
      | _ => false
    else if w = Str.ofString "all" ∨ w = Str.ofString "some" then match r with
      | [a] => areNums a (k - 1)
      | _ => false
    else if w = Str.ofString "many" then match r with
      | [a, b, c] => isNum a 0 3 && isNum b 1 40 && isNum c 0 (k - 1)
      | _ => false
    else false
  | _ => false
theorem lc_nums {ys : List D} {x : D} (hn : n ≤ 16777216) (hl : ys.length ≤ n) (h : ∀ d ∈ ys, Dat n d) : lcD (fun _ => True) (gSet 2) tYesD (eCall (nargs 2 m_is_number) (aCons (eVar 2) (aCons (eOp subI (eVar 1) (eC (.int 1))) aNil))) [some x, some (.int a), none] ys [] M = .ok (ys.map fun d => .bl (isNum d 0 (a - 1))) M := by
  refine ok_of (lc_map (fun d => .bl (isNum d 0 (a - 1))) trivial (Nat.le_trans hl hn) (fun d hd => ?_) ⟨rfl, rfl⟩)
  simp [is_number_eq (h d hd)]
theorem word_cases (w : Str) : w = Str.ofString "hue" ∨ w = Str.ofString "same" ∨ w = Str.ofString "tie" ∨ w = Str.ofString "not" ∨ w = Str.ofString "all" ∨ w = Str.ofString "some" ∨ w = Str.ofString "many" ∨ (w ≠ Str.ofString "hue" ∧ w ≠ Str.ofString "same" ∧ w ≠ Str.ofString "tie" ∧ w ≠ Str.ofString "not" ∧ w ≠ Str.ofString "all" ∧ w ≠ Str.ofString "some" ∧ w ≠ Str.ofString "many") := by
  by_cases h0 : w = Str.ofString "hue"
  · simp [h0]
  by_cases h1 : w = Str.ofString "same"
  · simp [h1]
  by_cases h2 : w = Str.ofString "tie"
  · simp [h2]
  by_cases h3 : w = Str.ofString "not"
  · simp [h3]
  by_cases h4 : w = Str.ofString "all"
  · simp [h4]
  by_cases h5 : w = Str.ofString "some"
  · simp [h5]
  by_cases h6 : w = Str.ofString "many"
  · simp [h6]
  simp [h0, h1, h2, h3, h4, h5, h6]
theorem is_line_eq (hn : n ≤ 16777216) (h : Dat n d) : m_is_line [d, .int a] M = .ok (.bl (lineOk d a)) M := by
  refine ok_of ?_
  unfold m_is_line b_is_line m_is_plain_line b_is_plain_line
  cases h with
  | @tup xs hl hx =>
    rcases xs with _ | ⟨x, _ | ⟨y, r⟩⟩
    · simp [p_runD, isT, lineOk]
    · simp [p_runD, isT]
      cases x <;> simp [lineOk]
    · have dx := hx x (by simp)
      have dy := hx y (by simp)
      cases dx with
      | str w =>
        rcases r with _ | ⟨z, _ | ⟨u, _ | ⟨v, r⟩⟩⟩
        · have dy2 := hx y (by simp)
          cases dy with
          | @tup ys hl2 hy =>
            rcases word_cases w with rfl | rfl | rfl | rfl | rfl | rfl | rfl | ⟨h0, h1, h2, h3, h4, h5, h6⟩ <;> simp [*, p_runD, isT, lineOk, areNums, ofString_inj, is_number_eq (.tup hl2 hy), is_name_eq (.tup hl2 hy), is_within_eq (.tup hl2 hy), lc_nums hn hl2 hy]
          | _ =>
            rcases word_cases w with rfl | rfl | rfl | rfl | rfl | rfl | rfl | ⟨h0, h1, h2, h3, h4, h5, h6⟩ <;> simp [*, p_runD, isT, lineOk, areNums, ofString_inj, is_number_eq dy2, is_name_eq dy2, is_within_eq dy2]
        · have dz := hx z (by simp)
          rcases word_cases w with rfl | rfl | rfl | rfl | rfl | rfl | rfl | ⟨h0, h1, h2, h3, h4, h5, h6⟩ <;> simp [*, p_runD, isT, lineOk, areNums, ofString_inj, is_number_eq dy, is_name_eq dy, is_within_eq dy, is_number_eq dz, is_name_eq dz, is_within_eq dz] <;> (try split) <;> simp_all
        · have dz := hx z (by simp)
          have du := hx u (by simp)
          rcases word_cases w with rfl | rfl | rfl | rfl | rfl | rfl | rfl | ⟨h0, h1, h2, h3, h4, h5, h6⟩ <;> simp [*, p_runD, isT, lineOk, areNums, ofString_inj, is_number_eq dy, is_name_eq dy, is_within_eq dy, is_number_eq dz, is_name_eq dz, is_within_eq dz, is_number_eq du, is_name_eq du, is_within_eq du] <;> (try split) <;> (try split) <;> simp_all
        · rcases word_cases w with rfl | rfl | rfl | rfl | rfl | rfl | rfl | ⟨h0, h1, h2, h3, h4, h5, h6⟩ <;> simp [*, p_runD, isT, lineOk, areNums, ofString_inj] <;> (intros; omega)
      | _ => simp [p_runD, isT, lineOk]
  | _ => simp [p_runD, isT, lineOk]
theorem lc_law_nums {ys : List D} {x : D} (hn : n ≤ 16777216) (hl : ys.length ≤ n) (h : ∀ d ∈ ys, Dat n d) : lcD (fun _ => True) (gSet 2) tYesD (eCall (nargs 3 m__law_is_number) (aCons (eVar 2) (aCons (eC (.int 0)) (aCons (eOp subI (eVar 1) (eC (.int 1))) aNil)))) [some x, some (.int a), none] ys [] M = .ok (ys.map fun d => .bl (isNum d 0 (a - 1))) M := by
  refine ok_of (lc_map (fun d => .bl (isNum d 0 (a - 1))) trivial (Nat.le_trans hl hn) (fun d hd => ?_) ⟨rfl, rfl⟩)
  simp [law_is_number_eq (h d hd)]
theorem law_are_lines_eq (hn : n ≤ 16777216) (h : Dat n d) : m__law_are_lines [d, .int a] M = .ok (.bl (areNums d (a - 1))) M := by
  refine ok_of ?_
  unfold m__law_are_lines b__law_are_lines
  cases h with
  | @tup xs hl hx => simp [p_runD, isT, areNums, lc_law_nums hn hl hx]
  | _ => simp [p_runD, isT, areNums]
theorem lc_law_tie {ys : List D} {x y z u : D} (hn : n ≤ 16777216) (hl : ys.length ≤ n) (h : ∀ d ∈ ys, Dat n d) : lcD (fun _ => True) (gSet 4) tYesD (eCall (nargs 3 m__law_is_number) (aCons (eVar 4) (aCons (eC (.int 0)) (aCons (eC (.int 3)) aNil)))) [some x, some y, some z, some u, none] ys [] M = .ok (ys.map fun d => .bl (isNum d 0 3)) M := by
  refine ok_of (lc_map (fun d => .bl (isNum d 0 3)) trivial (Nat.le_trans hl hn) (fun d hd => ?_) ⟨rfl, rfl⟩)
  simp [law_is_number_eq (h d hd)]
theorem cut_tie {x y z u : D} : cutD [x, y, z, u] (some 1) none = [y, z, u] := rfl
theorem law_is_line_eq (hn : n ≤ 16777216) (h : Dat n d) : m__law_is_line [d, .int a] M = .ok (.bl (lineOk d a)) M := by
  refine ok_of ?_
  unfold m__law_is_line b__law_is_line
  cases h with
  | @tup xs hl hx =>
    rcases xs with _ | ⟨x, _ | ⟨y, r⟩⟩
    · simp [p_runD, isT, lineOk]
    · simp [p_runD, isT]
      cases x <;> simp [lineOk]
    · have dx := hx x (by simp)
      have dy := hx y (by simp)
      cases dx with
      | str w =>
        rcases r with _ | ⟨z, _ | ⟨u, _ | ⟨v, r⟩⟩⟩
        · rcases word_cases w with rfl | rfl | rfl | rfl | rfl | rfl | rfl | ⟨h0, h1, h2, h3, h4, h5, h6⟩ <;> simp [*, p_runD, isT, lineOk, ofString_inj, law_is_number_eq dy, law_are_lines_eq hn dy, Ne.symm]
        · have dz := hx z (by simp)
          rcases word_cases w with rfl | rfl | rfl | rfl | rfl | rfl | rfl | ⟨h0, h1, h2, h3, h4, h5, h6⟩ <;> simp [*, p_runD, isT, lineOk, ofString_inj, law_is_number_eq dy, law_are_lines_eq hn dy, law_is_number_eq dz, Ne.symm] <;> (try split) <;> simp_all
        · have dz := hx z (by simp)
          have du := hx u (by simp)
          rcases word_cases w with rfl | rfl | rfl | rfl | rfl | rfl | rfl | ⟨h0, h1, h2, h3, h4, h5, h6⟩ <;> simp [*, p_runD, isT, lineOk, ofString_inj, law_is_number_eq dy, law_are_lines_eq hn dy, law_is_number_eq dz, law_is_number_eq du, cut_tie, lc_law_tie hn (ys := [y, z, u]) (Nat.le_of_succ_le hl) (fun d hd => hx d (List.mem_cons_of_mem _ hd)), Ne.symm, Bool.and_assoc] <;> (try split) <;> (try split) <;> simp_all
        · rcases word_cases w with rfl | rfl | rfl | rfl | rfl | rfl | rfl | ⟨h0, h1, h2, h3, h4, h5, h6⟩ <;> simp [*, p_runD, isT, lineOk, ofString_inj, Ne.symm] <;> (intros; omega)
      | _ => simp [p_runD, isT, lineOk]
  | _ => simp [p_runD, isT, lineOk]
/-- a saying -/
def itemOk (d : D) : Bool := match d with
  | .tup [.int k, l] => lineOk l k
  | _ => false
def sayOk (d : D) : Bool := match d with
  | .tup (x :: xs) => (enumD 0 (x :: xs)).all itemOk
  | _ => false
theorem enum_mem {xs : List D} {k : Nat} {d : D} (h : d ∈ enumD k xs) : ∃ m x, x ∈ xs ∧ d = .tup [.int (m : Nat), x] := by
  induction xs generalizing k with
  | nil => cases h
  | cons y ys ih =>
    rcases List.mem_cons.mp h with rfl | h
    · exact ⟨k, y, List.mem_cons_self .., rfl⟩
    · obtain ⟨m, x, h1, h2⟩ := ih h
      exact ⟨m, x, List.mem_cons_of_mem _ h1, h2⟩
theorem lc_lines {ys : List D} {m : List D → Py D} {x : D} (hn : n ≤ 16777216) (hl : ys.length ≤ n) (h : ∀ d ∈ ys, Dat n d) (hm : ∀ (d : D) (a : Int), Dat n d → m [d, .int a] M = .ok (.bl (lineOk d a)) M) :
    lcD (fun _ => True) (gUnp 2 (gsCons (gSet 1) (gsCons (gSet 2) gsNil))) tYesD (eCall (nargs 2 m) (aCons (eVar 2) (aCons (eVar 1) aNil))) [some x, none, none] (enumD 0 ys) [] M = .ok ((enumD 0 ys).map fun d => .bl (itemOk d)) M := by
  refine ok_of (lc_map (fun d => .bl (itemOk d)) trivial (by rw [enumD_len]; exact Nat.le_trans hl hn) (fun d hd => ?_) ⟨rfl, rfl⟩)
  obtain ⟨k, l, h1, rfl⟩ := enum_mem hd
  simp [hm l k (h l h1), itemOk]
theorem is_saying_eq (hn : n ≤ 16777216) (h : Dat n d) : m_is_saying [d] M = .ok (.bl (sayOk d)) M := by
  refine ok_of ?_
  unfold m_is_saying b_is_saying
  cases h with
  | @tup xs hl hx =>
    rcases xs with _ | ⟨x, xs⟩
    · simp [p_runD, isT, sayOk]
    · simp [p_runD, isT, sayOk, lc_lines hn hl hx (fun d a h => is_line_eq hn h)]
      intro; omega
  | _ => simp [p_runD, isT, sayOk]
theorem law_is_saying_eq (hn : n ≤ 16777216) (h : Dat n d) : m__law_is_saying [d] M = .ok (.bl (sayOk d)) M := by
  refine ok_of ?_
  unfold m__law_is_saying b__law_is_saying
  cases h with
  | @tup xs hl hx =>
    rcases xs with _ | ⟨x, xs⟩
    · simp [p_runD, isT, sayOk]
    · simp [p_runD, isT, sayOk, lc_lines hn hl hx (fun d a h => law_is_line_eq hn h)]
      intro; omega
  | _ => simp [p_runD, isT, sayOk]
theorem law_flag_eq {p q : Bool} : m__law_flag [.bl p, .bl q] M = .ok (.bl (p == q)) M := by
  refine ok_of ?_
  unfold m__law_flag b__law_flag
  simp [p_runD, isT]
  cases p <;> cases q <;> rfl
end
end Qk18
set_option Elab.async false
set_option linter.all false
set_option maxRecDepth 100000
set_option maxHeartbeats 4000000
set_option autoImplicit false
namespace Qk18
open PySem PySem.Spec L2 L3
open PyProof.Rows hiding St
section
variable {M : Store} {n : Nat}
theorem any_all {xs : List D} (P : D → Prop) (h : Pot n M) (h0 : xs ≠ []) (h1 : xs.length < 1073741824) (hP : ∀ d ∈ xs, P d) : Post (m__law_any [.loc n, .lst xs] M) (fun d M' => Pot n M' ∧ P d) (fun _ _ => False) :=
  (any_spec h h0 h1).use fun d M' z => ⟨z.1, hP d z.2⟩
def IntB (a b : Int) (d : D) : Prop := ∃ i, d = .int i ∧ a ≤ i ∧ i ≤ b
@[simp] theorem intB_int {a b i : Int} : IntB a b (.int i) ↔ a ≤ i ∧ i ≤ b := ⟨fun ⟨j, e, h⟩ => by cases e; exact h, fun h => ⟨i, rfl, h⟩⟩
@[simp] theorem dat_non : Dat n .non := .non
@[simp] theorem dat_bl {b : Bool} : Dat n (.bl b) := .bl b
@[simp] theorem dat_int {b : Int} : Dat n (.int b) := .int b
@[simp] theorem dat_str {b : Str} : Dat n (.str b) := .str b
@[simp] theorem dat_dk : Dat n (.dk []) := .dk
@[simp] theorem dat_tup {xs : List D} : Dat n (.tup xs) ↔ xs.length ≤ n ∧ ∀ d ∈ xs, Dat n d := ⟨fun h => by cases h with | tup a b => exact ⟨a, b⟩, fun h => .tup h.1 h.2⟩
@[simp] theorem dat_lst {xs : List D} : Dat n (.lst xs) ↔ xs.length ≤ n ∧ ∀ d ∈ xs, Dat n d := ⟨fun h => by cases h with | lst a b => exact ⟨a, b⟩, fun h => .lst h.1 h.2⟩
theorem line_of_spec {at_ most deeper : Int} (h : Pot n M) (h0 : 0 ≤ at_) (h1 : 0 < most) (h2 : most ≤ 4) : Post (m__law_line_of [.loc n, .int at_, .int most, .int deeper] M) (fun d M' => Pot n M' ∧ lineOk d at_ = true ∧ Dat 12 d) (fun _ _ => False) := by
  unfold m__law_line_of b__law_line_of
  simp [p_runD]
  refine (draw_spec (by assumption) (by omega) (by omega)).use ?_
  rintro _ M1 ⟨p1, i, rfl, _, _⟩
  simp
  refine (draw_spec (by assumption) (by omega) (by omega)).use ?_
  rintro _ M2 ⟨p2, j, rfl, _, _⟩
  simp
  refine (draw_spec (by assumption) (by omega) (by omega)).use ?_
  rintro _ M3 ⟨p3, kind, rfl, _, _⟩
  simp
  have plain : ∀ M4, Pot n M4 → (if kind < 4 then
      Post (m__law_draw [D.loc n, D.int 10] M4)
        (fun x M1 =>
          Post (m__law_any [D.loc n, D.lst [D.int 0, D.int 0, D.int 1, D.int 1, x]] M1)
            (fun x M1 => Pot n M1 ∧ lineOk (D.tup [D.str (Str.ofString "hue"), D.int i, x]) at_ = true ∧ Dat 12 x)
            fun x x_1 => False)
        fun x x_1 => False
    else
      if kind < 6 then Pot n M4 ∧ lineOk (D.tup [D.str (Str.ofString "same"), D.int i, D.int j]) at_ = true
      else
        Post (m__law_draw [D.loc n, D.int 4] M4)
          (fun x M1 =>
            Post (m__law_any [D.loc n, D.lst [D.int 0, D.int 0, D.int 0, D.int 1, x]] M1)
              (fun x M1 =>
                Pot n M1 ∧ lineOk (D.tup [D.str (Str.ofString "tie"), x, D.int i, D.int j]) at_ = true ∧ Dat 12 x)
              fun x x_1 => False)
          fun x x_1 => False) := by
    intro M4 p4
    split
    · refine (draw_spec (by assumption) (by omega) (by omega)).use ?_
      rintro _ M5 ⟨p5, u, rfl, _, _⟩
      refine (any_all (IntB 0 9) (by assumption) (by simp) (by simp) (by simp; omega)).use ?_
      rintro _ M6 ⟨p6, v, rfl, _, _⟩
      simp [lineOk, isNum, p6]
      omega
    split
    · simp [lineOk, isNum, p4, ofString_inj]
      omega
    · refine (draw_spec (by assumption) (by omega) (by omega)).use ?_
      rintro _ M5 ⟨p5, u, rfl, _, _⟩
      refine (any_all (IntB 0 3) (by assumption) (by simp) (by simp) (by simp; omega)).use ?_
      rintro _ M6 ⟨p6, v, rfl, _, _⟩
      simp [lineOk, isNum, p6, ofString_inj]
      omega
  split
  · exact plain M3 p3
  refine (draw_spec (by assumption) (by omega) (by omega)).use ?_
  rintro _ M4 ⟨p4, u, rfl, _, _⟩
  simp
  split
  · exact plain M4 p4
  refine (draw_spec (by assumption) (by omega) (by omega)).use ?_
  rintro _ M5 ⟨p5, v, rfl, _, _⟩
  simp
  have near : ∃ w : Int, (if 0 < at_ - 1 - v then at_ - 1 - v else 0) = w ∧ 0 ≤ w ∧ w ≤ at_ - 1 := ⟨_, rfl, by split <;> omega, by split <;> omega⟩
  obtain ⟨w, hw, _, _⟩ := near
  try rw [hw]
  split
  · simp [lineOk, isNum, p5, ofString_inj]
    trace_state
    omega
  split
  · refine (any_all (IntB 0 3) (by assumption) (by simp) (by simp) (by simp)).use ?_
    rintro _ M6 ⟨p6, t, rfl, _, _⟩
    simp
    refine ⟨by omega, ?_⟩
    refine lc_draw (Pot n) (fun _ d => IntB 0 (at_ - 1) d) (fun _ _ => trivial) (by rw [rngD_len]; simp; omega) p6 (fun k d M hd hM => ?_) ?_
    · obtain ⟨i2, rfl⟩ : ∃ i2, d = .int i2 := by
        have := List.mem_of_getElem? hd
        unfold rngD at this
        obtain ⟨q, _, rfl⟩ := List.mem_map.mp this
        exact ⟨_, rfl⟩
      simp
      refine (draw_spec (by assumption) (by omega) (by omega)).use ?_
      rintro _ M7 ⟨p7, t2, rfl, _, _⟩
      simp [p7]
      split <;> omega
    · intro zs M7 p7 hl hz
      rw [rngD_len] at hl
      have hz2 : ∀ d ∈ zs, IntB 0 (at_ - 1) d := fun d hd => by
        obtain ⟨k, hk⟩ := List.getElem?_of_mem hd
        exact hz k d hk
      refine (any_all (fun d => d = .str (Str.ofString "all") ∨ d = .str (Str.ofString "some")) (by assumption) (by simp) (by simp) (by simp)).use ?_
      have h3 : areNums (.tup zs) (at_ - 1) = true := by
        simp only [areNums, List.all_eq_true]
        intro d hd
        obtain ⟨q, rfl, _, _⟩ := hz2 d hd
        simp [isNum]
        omega
      have h4 : ∀ d ∈ zs, Dat 12 d := fun d hd => by
        obtain ⟨q, rfl, _, _⟩ := hz2 d hd
        exact .int q
      rintro d M8 ⟨p8, rfl | rfl⟩
      · refine ⟨p8, ?_, .str _, by omega, h4⟩
        simp [lineOk, ofString_inj, h3]
      · refine ⟨p8, ?_, .str _, by omega, h4⟩
        simp [lineOk, ofString_inj, h3]
  · refine (draw_spec (by assumption) (by omega) (by omega)).use ?_
    rintro _ M6 ⟨p6, t, rfl, _, _⟩
    simp
    refine (any_all (IntB 1 40) (by assumption) (by simp) (by simp) (by simp; omega)).use ?_
    rintro _ M7 ⟨p7, t2, rfl, _, _⟩
    simp [lineOk, isNum, p7, ofString_inj]
    omega
end
end Qk18
set_option Elab.async false
set_option linter.all false
set_option maxRecDepth 100000
set_option maxHeartbeats 4000000
set_option autoImplicit false
namespace L3
open PySem PySem.Spec L2
open PyProof.Rows hiding St
section
variable {QL : List D → Store → Prop} {E : Exn → Store → Prop} {M : Store} {ρ : DEnv} {ok : Store → Prop} {tg : D → DEnv → Py DEnv} {tt : DEnv → Py Bool} {fe : DEnv → Py D} {d : D} {ds acc : List D}
theorem okM_iff {α : Type} {k : Py α} {R : α → Store → Prop} : Post (okM ok k M) R E ↔ ok M ∧ Post (k M) R E := by
  unfold okM
  by_cases h : ok M
  · rw [if_pos h]; exact ⟨fun z => ⟨h, z⟩, fun z => z.2⟩
  · rw [if_neg h]; exact ⟨fun z => z.elim, fun z => h z.1⟩
theorem lcD_nil : Post (lcD ok tg tt fe ρ [] acc M) QL E ↔ ok M ∧ QL acc M := by
  unfold lcD; exact okM_iff
theorem lcD_cons : Post (lcD ok tg tt fe ρ (d :: ds) acc M) QL E ↔ ok M ∧ Post (tg d ρ M) (fun ρ1 M1 => Post (tt ρ1 M1) (fun b M2 => if b = true then Post (fe ρ1 M2) (fun y M3 => acc.length < sizeLine ∧ Post (lcD ok tg tt fe ρ ds (acc ++ [y]) M3) QL E) E else Post (lcD ok tg tt fe ρ ds acc M2) QL E) E) E := by
  conv => lhs; unfold lcD
  rw [okM_iff]
  simp only [post_bnd, post_if, post_chk]
@[simp] theorem p_pNil {R : List (D × D) → Store → Prop} : Post (pNil ρ M) R E ↔ R [] M := Iff.rfl
@[simp] theorem p_pCons {fk fv : DEnv → Py D} {r : DEnv → Py (List (D × D))} {R : List (D × D) → Store → Prop} : Post (pCons fk fv r ρ M) R E ↔ Post (fk ρ M) (fun k M1 => Post (fv ρ M1) (fun v M2 => Post (r ρ M2) (fun ps M3 => R ((k, v) :: ps) M3) E) E) E := by
  unfold pCons; simp only [post_bnd]; exact Iff.rfl
theorem p_dkOf {ds : List (D × D)} {o : Option (List (Key × D))} {Q : D → Store → Prop} : Post (dkOf ds o M) Q E ↔ SomeP o fun fs => ds.length ≤ 15 ∧ Q (.dk (mergeD [] fs)) M := by
  cases o with
  | none => exact Iff.rfl
  | some fs => exact post_chk
@[simp] theorem p_eDisp {fp : DEnv → Py (List (D × D))} {Q : D → Store → Prop} : Post (eDisp fp ρ M) Q E ↔ Post (fp ρ M) (fun ds M1 => SomeP (keysD ds) fun fs => ds.length ≤ 15 ∧ Q (.dk (mergeD [] fs)) M1) (fun _ _ => False) := by
  unfold eDisp
  rw [post_bnd]
  simp only [p_noX, p_dkOf]
@[simp] theorem keysD_nil : keysD [] = some [] := rfl
@[simp] theorem keysD_str {z : Str} {v : D} {r : List (D × D)} : keysD ((.str z, v) :: r) = (keysD r).map fun r' => (.inr z, v) :: r' := rfl
@[simp] theorem keysD_int {z : Int} {v : D} {r : List (D × D)} : keysD ((.int z, v) :: r) = (keysD r).map fun r' => (.inl z, v) :: r' := rfl
theorem p_dkIx {fs : List (Key × D)} {k : Key} {Q : D → Store → Prop} : Post (dkIx fs (some k) M) Q E ↔ SomeP (valD fs k) fun d => Q d M := by
  cases h : valD fs k with
  | none =>
    have e : dkIx fs (some k) = Py.bad := by unfold dkIx; dsimp only; rw [h]
    rw [e]; exact Iff.rfl
  | some d =>
    have e : dkIx fs (some k) = Py.ret d := by unfold dkIx; dsimp only; rw [h]
    rw [e]; exact Iff.rfl
@[simp] theorem p_dix_str {fs : List (Key × D)} {z : Str} {Q : D → Store → Prop} : Post (dixD (.dk fs) (.str z) M) Q E ↔ SomeP (valD fs (.inr z)) fun d => Q d M := p_dkIx
@[simp] theorem p_dix_int {fs : List (Key × D)} {z : Int} {Q : D → Store → Prop} : Post (dixD (.dk fs) (.int z) M) Q E ↔ SomeP (valD fs (.inl z)) fun d => Q d M := p_dkIx
theorem isS_iff {x : D} {z : Str} : isS x z = true ↔ x = .str z := by
  cases x with
  | str a =>
    simp
    constructor <;> intro h <;> exact h.symm
  | _ => simp [isS]
theorem patch_len {xs : List D} {lo hi : Option Int} {m : Nat} (h : xs.length ≤ m) : (cutD xs none hi).length ≤ m ∧ (cutD xs lo none).length ≤ m := ⟨Nat.le_trans cutD_len h, Nat.le_trans cutD_len h⟩
/-- between two steps -/
def midF (I : DEnv → Store → Prop) (QF : Fl → Store → Prop) : Fl → Store → Prop
  | .nx ρ, M => I ρ M
  | r, M => QF r M
section
variable {I : DEnv → Store → Prop} {QF : Fl → Store → Prop}
@[simp] theorem midF_nx : midF I QF (.nx ρ) M ↔ I ρ M := Iff.rfl
@[simp] theorem midF_rt : midF I QF (.rt d) M ↔ QF (.rt d) M := Iff.rfl
@[simp] theorem midF_bk : midF I QF (.bk ρ) M ↔ QF (.bk ρ) M := Iff.rfl
@[simp] theorem midF_ct : midF I QF (.ct ρ) M ↔ QF (.ct ρ) M := Iff.rfl
theorem seq_mid {sa sb : DEnv → Py Fl} (I : DEnv → Store → Prop) (h1 : Post (sa ρ M) (midF I QF) E) (h2 : ∀ ρ M, I ρ M → Post (sb ρ M) QF E) : Post (sSeq sa sb ρ M) QF E := by
  rw [p_sSeq]
  refine h1.imp fun r M1 z => ?_
  cases r with
  | nx ρ1 => exact h2 ρ1 M1 z
  | _ => exact z
end
theorem set_split {xs : List D} {k : Nat} {x : D} (h : k < xs.length) : cutD xs none (some (k : Int)) ++ [x] ++ cutD xs (some ((k : Int) + 1)) none = xs.set k x := by
  unfold cutD HT.sIx
  have h1 : ¬ ((k : Int) < 0) := by omega
  have h2 : ¬ ((k : Int) + 1 < 0) := by omega
  simp [h1, h2]
  rw [Nat.min_eq_left (Nat.le_of_lt h), Nat.min_eq_left (show k + 1 ≤ xs.length from h), List.take_of_length_le (l := List.drop (k + 1) xs) (by rw [List.length_drop]; omega), List.set_eq_take_append_cons_drop, if_pos h]
end
end L3
namespace Qk18
open PySem PySem.Spec L2 L3
open PyProof.Rows hiding St
section
variable {M : Store} {n : Nat}
def GoodS (zs : List D) : Prop := ∀ (k : Nat) (y : D), zs[k]? = some y → lineOk y (k : Nat) = true ∧ Dat 12 y
theorem enum_at {zs : List D} {d : D} (h : d ∈ enumD 0 zs) : ∃ (k : Nat) (y : D), zs[k]? = some y ∧ d = .tup [.int (k : Nat), y] := by
  obtain ⟨k, hk⟩ := List.getElem?_of_mem h
  have hl : k < zs.length := by rw [← enumD_len 0]; exact (List.getElem?_eq_some_iff.mp hk).1
  have := enumD_get zs 0 k _ (List.getElem?_eq_getElem hl)
  rw [this] at hk
  cases hk
  exact ⟨k, _, List.getElem?_eq_getElem hl, by rw [Nat.zero_add]⟩
theorem sayOk_of {zs : List D} (h : GoodS zs) (h0 : zs ≠ []) : sayOk (.tup zs) = true := by
  cases zs with
  | nil => exact absurd rfl h0
  | cons z zs =>
    show (enumD 0 (z :: zs)).all itemOk = true
    rw [List.all_eq_true]
    intro d hd
    obtain ⟨k, y, h1, rfl⟩ := enum_at hd
    exact (h k y h1).1
theorem sayOk_set {zs : List D} {k : Nat} {x : D} (hk : k < zs.length) (h : lineOk x (k : Nat) = false) : sayOk (.tup (zs.set k x)) = false := by
  cases hz : zs.set k x with
  | nil => rfl
  | cons y ys =>
    show (enumD 0 (y :: ys)).all itemOk = false
    rw [List.all_eq_false, ← hz]
    have e : (zs.set k x)[k]? = some x := List.getElem?_set_self hk
    refine ⟨_, List.mem_of_getElem? (enumD_get _ 0 k _ e), ?_⟩
    rw [Nat.zero_add]
    simp [itemOk, h]
theorem GoodS.dat {zs : List D} (h : GoodS zs) {m : Nat} (h1 : zs.length ≤ m) (h2 : 12 ≤ m) : Dat m (.tup zs) := by
  refine .tup h1 fun d hd => ?_
  obtain ⟨k, hk⟩ := List.getElem?_of_mem hd
  exact (h k d hk).2.mono h2
theorem saying_spec {lines most deeper : Int} (h : Pot n M) (h0 : 0 ≤ lines) (h3 : lines ≤ 16777216) (h1 : 0 < most) (h2 : most ≤ 4) : Post (m__law_saying [.loc n, .int lines, .int most, .int deeper] M) (fun d M' => Pot n M' ∧ ∃ zs, d = .tup zs ∧ zs.length = lines.toNat ∧ GoodS zs) (fun _ _ => False) := by
  unfold m__law_saying b__law_saying
  simp [p_runD]
  refine ⟨by omega, ?_⟩
  refine lc_draw (Pot n) (fun k d => lineOk d (k : Nat) = true ∧ Dat 12 d) (fun _ _ => trivial) (by rw [rngD_len]; simp; omega) h (fun k d M hd hM => ?_) ?_
  · have hk : k < (lines - 0).toNat := by rw [← rngD_len]; exact (List.getElem?_eq_some_iff.mp hd).1
    rw [rngD_get hk] at hd
    cases hd
    simp
    exact (line_of_spec hM (by omega) h1 h2).use fun d M1 z => z
  · intro zs M7 p7 hl hz
    rw [rngD_len] at hl
    exact ⟨p7, by rw [hl]; simp, hz⟩
theorem lineOk_one {x : D} {a : Int} : lineOk (.tup [x]) a = false := by cases x <;> simp [lineOk]
/-- what is no line and no saying -/
structure Odd (d : D) : Prop where
  dat : Dat 12 d
  ln : ∀ a, lineOk d a = false
  say : sayOk d = false
theorem odd_one {d : D} (h : Odd d) : Odd (.tup [d]) := ⟨.tup (by simp) (by simpa using h.dat), fun a => lineOk_one, by simp [sayOk, enumD, itemOk, h.ln]⟩
theorem odd_lst {d : D} (h : Odd d) : Odd (.lst [d]) := ⟨.lst (by simp) (by simpa using h.dat), fun a => rfl, rfl⟩
theorem deep_spec (h : Pot n M) : Post (m__law_deep [.loc n] M) (fun d M' => Pot n M' ∧ Odd d) (fun _ _ => False) := by
  unfold m__law_deep b__law_deep
  simp [p_runD]
  refine (any_all Odd (by assumption) (by simp) (by simp) ?_).use ?_
  · intro d hd
    simp at hd
    rcases hd with rfl | rfl | rfl | rfl <;> refine ⟨by simp, fun a => rfl, rfl⟩
  rintro d M1 ⟨p1, hd⟩
  refine (draw_spec (by assumption) (by omega) (by omega)).use ?_
  rintro _ M2 ⟨p2, j, rfl, _, _⟩
  simp
  refine ⟨by omega, ?_⟩
  refine for_rule (fun _ ρ M => ∃ d o, ρ = [some (.loc n), some d, o] ∧ Pot n M ∧ Odd d) (fun _ _ _ _ => trivial) ⟨d, none, rfl, p2, hd⟩ ?_ ?_
  · rintro k t ρ M3 _ ⟨d, o, rfl, p3, hd⟩
    simp
    refine (draw_spec (by assumption) (by omega) (by omega)).use ?_
    rintro _ M4 ⟨p4, j, rfl, _, _⟩
    simp
    split
    · exact ⟨p4, odd_one hd⟩
    · exact ⟨p4, odd_lst hd⟩
  · rintro ρ M3 ⟨d, o, rfl, p3, hd⟩
    simp
    exact ⟨p3, hd⟩
theorem odd_int {i : Int} : Odd (.int i) := ⟨.int i, fun _ => rfl, rfl⟩
theorem odd_spec {a : Int} (h : Pot n M) : Post (m__law_odd [.loc n, .int a] M) (fun d M' => Pot n M' ∧ Odd d) (fun _ _ => False) := by
  unfold m__law_odd b__law_odd
  simp [p_runD]
  refine (deep_spec h).use ?_
  rintro d M1 ⟨p1, hd⟩
  refine (any_all Odd (by assumption) (by simp) (by simp) ?_).use fun d M z => z
  simp [odd_int, hd]
  exact ⟨⟨.bl _, fun _ => rfl, rfl⟩, ⟨.bl _, fun _ => rfl, rfl⟩, ⟨.non, fun _ => rfl, rfl⟩, ⟨.str _, fun _ => rfl, rfl⟩, ⟨.str _, fun _ => rfl, rfl⟩, odd_one odd_int, odd_lst odd_int, ⟨by simp, fun _ => rfl, rfl⟩, ⟨.dk, fun _ => rfl, rfl⟩⟩
theorem dat_cut {m : Nat} {xs : List D} {lo hi : Option Int} (h : Dat m (.tup xs)) : Dat m (.tup (cutD xs lo hi)) := by
  rw [dat_tup] at h ⊢
  exact ⟨Nat.le_trans cutD_len h.1, fun d hd => h.2 d (cutD_mem hd)⟩
theorem patch_ok {m : Nat} {xs : List D} {x : D} (lo hi : Option Int) (h : Dat m (.tup xs)) (hm2 : 2 * m + 2 ≤ 16777216) (hd : Dat (2 * m + 2) x) :
    (cutD xs none hi).length ≤ 16777215 ∧ (cutD xs none hi).length + 1 + (cutD xs lo none).length ≤ 16777216 ∧ Dat (2 * m + 2) (.tup (cutD xs none hi ++ x :: cutD xs lo none)) := by
  have h' := dat_tup.mp h
  obtain ⟨q1, q2⟩ := patch_len (lo := lo) (hi := hi) h'.1
  refine ⟨by omega, by omega, .tup (by rw [List.length_append, List.length_cons]; omega) fun d hd' => ?_⟩
  rcases List.mem_append.mp hd' with hd' | hd'
  · exact (h'.2 d (cutD_mem hd')).mono (by omega)
  · rcases List.mem_cons.mp hd' with rfl | hd'
    · exact hd
    · exact (h'.2 d (cutD_mem hd')).mono (by omega)
theorem bent_line_spec {a : Int} {x0 x1 : D} {r : List D} {m : Nat} (h : Pot n M) (hm : 12 ≤ m) (hm2 : 2 * m + 2 ≤ 16777216) (hd : Dat m (.tup (x0 :: x1 :: r))) : Post (m__law_bent_line [.loc n, .tup (x0 :: x1 :: r), .int a] M) (fun d M' => Pot n M' ∧ Dat (2 * m + 2) d) (fun _ _ => False) := by
  have hl : r.length + 2 ≤ m := (dat_tup.mp hd).1
  have hx : ∀ d ∈ x0 :: x1 :: r, Dat m d := (dat_tup.mp hd).2
  have dx0 := hx x0 (by simp)
  have dx1 := hx x1 (by simp)
  have c1 : 2 ≤ 2 * m + 2 := by omega
  unfold m__law_bent_line b__law_bent_line
  rw [p_runD]
  let I : DEnv → Store → Prop := fun ρ M => Pot n M ∧ ∃ kind : Int, ρ = [some (.loc n), some (.tup (x0 :: x1 :: r)), some (.int a), some (.int kind), none, none]
  refine seq_mid I ?_ ?_
  · simp
    refine (draw_spec (by assumption) (by omega) (by omega)).use ?_
    rintro _ M1 ⟨p1, kind, rfl, _, _⟩
    exact ⟨p1, kind, rfl⟩
  rintro _ M1 ⟨p1, kind, rfl⟩
  refine seq_mid I ?_ ?_
  · simp [-dat_tup, dx0.pln]
    split
    · split
      · refine (draw_spec (by assumption) (by omega) (by omega)).use ?_
        rintro _ M2 ⟨p2, j, rfl, _, _⟩
        try simp [-dat_tup]
        split
        · rename_i hw _ _ _ _
          rcases hw with hw | hw | hw <;> rw [isS_iff] at hw <;> subst hw <;> simp [-dat_tup, mergeD, putD, valD, ofString_inj] <;>
          · refine (any_all (Dat m) (by assumption) (by simp) (by simp) (by simp)).use ?_
            rintro x M3 ⟨p3, hx3⟩
            obtain ⟨q1, q2, q3⟩ := patch_ok (some 3) (some 2) hd hm2 (hx3.mono (by omega))
            obtain ⟨q4, q5, q6⟩ := patch_ok (some 2) (some 1) hd hm2 (hx3.mono (by omega))
            try simp [-dat_tup]
            first | exact ⟨q1, q2, p3, q3⟩ | exact ⟨q4, q5, p3, q6⟩
        · exact ⟨p2, kind, rfl⟩
      · exact ⟨p1, kind, rfl⟩
    · exact ⟨p1, kind, rfl⟩
  rintro _ M2 ⟨p2, kind, rfl⟩
  refine seq_mid I ?_ ?_
  · simp [-dat_tup]
    split
    · refine (any_all (Dat m) (by assumption) (by simp) (by simp) (by simp [-dat_tup]; exact .tup (by simp; omega) (by simp))).use ?_
      rintro x M3 ⟨p3, hx3⟩
      have q1 : (cutD (x0 :: x1 :: r) (some 1) none).length ≤ m := Nat.le_trans cutD_len hl
      try simp [-dat_tup]
      refine ⟨by omega, p3, .tup (by simp; omega) fun d hd' => ?_⟩
      rcases List.mem_cons.mp hd' with rfl | hd'
      · exact hx3.mono (by omega)
      · exact (hx d (cutD_mem hd')).mono (by omega)
    · exact ⟨p2, kind, rfl⟩
  rintro _ M3 ⟨p3, kind, rfl⟩
  refine seq_mid I ?_ ?_
  · simp [-dat_tup]
    split
    · have q1 : (cutD (x0 :: x1 :: r) none (some 1)).length ≤ m := Nat.le_trans cutD_len hl
      refine ⟨by omega, by omega, ?_⟩
      refine (any_all (Dat (2 * m + 2)) (by assumption) (by simp) (by simp) ?_).use fun d M z => z
      have hx2 : ∀ d ∈ x0 :: x1 :: r, Dat (2 * m + 2) d := fun d h => (hx d h).mono (by omega)
      intro d hd'
      simp at hd'
      rcases hd' with rfl | rfl | rfl | rfl | rfl | rfl
      · refine .tup (by simp; omega) fun d h => ?_
        rw [show x0 :: x1 :: (r ++ [D.int 0]) = (x0 :: x1 :: r) ++ [D.int 0] from rfl] at h
        rcases List.mem_append.mp h with h | h
        · exact hx2 d h
        · simp at h; subst h; exact .int 0
      · exact (dat_cut hd).mono (by omega)
      · exact (dat_cut hd).mono (by omega)
      · exact .lst (by simp; omega) hx2
      · exact (dat_cut hd).mono (by omega)
      · refine .tup (by simp; omega) fun d h => ?_
        rw [show x0 :: x1 :: (r ++ cutD (x0 :: x1 :: r) none (some 1)) = (x0 :: x1 :: r) ++ cutD (x0 :: x1 :: r) none (some 1) from rfl] at h
        rcases List.mem_append.mp h with h | h
        · exact hx2 d h
        · exact hx2 d (cutD_mem h)
    · exact ⟨p3, kind, rfl⟩
  rintro _ M4 ⟨p4, kind, rfl⟩
  refine seq_mid I ?_ ?_
  · simp [-dat_tup, dx0.pln]
    split
    · split
      · cases dx1 with
        | @tup ys hl2 hy =>
          simp [-dat_tup, isT]
          refine (odd_spec p4).use ?_
          rintro d1 M5 ⟨p5, hd1⟩
          try simp [-dat_tup]
          refine ⟨by omega, ?_⟩
          refine (odd_spec p5).use ?_
          rintro d2 M6 ⟨p6, hd2⟩
          try simp [-dat_tup]
          refine ⟨by omega, ?_⟩
          have hy2 : ∀ d ∈ ys, Dat (2 * m + 2) d := fun d h => (hy d h).mono (by omega)
          refine (any_all (Dat (2 * m + 2)) (by assumption) (by simp) (by simp) ?_).use ?_
          · intro d hd'
            simp at hd'
            rcases hd' with rfl | rfl | rfl | rfl | rfl | rfl
            · exact .lst (by omega) hy2
            · refine .tup (by simp; omega) fun d h => ?_
              rcases List.mem_append.mp h with h | h
              · exact hy2 d h
              · simp at h; subst h; exact hd1.dat.mono (by omega)
            · refine .tup (by simp; omega) fun d h => ?_
              rcases List.mem_cons.mp h with rfl | h
              · exact hd2.dat.mono (by omega)
              · exact hy2 d h
            · exact .non
            · exact .int _
            · exact .tup (by simp) (by simp [-dat_tup]; exact .tup (by omega) hy2)
          · rintro d M7 ⟨p7, hd7⟩
            refine ⟨p7, .tup (by simp) ?_⟩
            try simp [-dat_tup]
            exact ⟨dx0.mono (by omega), hd7⟩
        | _ =>
          simp [-dat_tup, isT]
          exact ⟨p4, kind, rfl⟩
      · exact ⟨p4, kind, rfl⟩
    · exact ⟨p4, kind, rfl⟩
  rintro _ M5 ⟨p5, kind, rfl⟩
  refine seq_mid I ?_ ?_
  · simp [-dat_tup]
    split
    · refine (odd_spec p5).use fun d M6 z => ⟨z.1, z.2.dat.mono (by omega)⟩
    · exact ⟨p5, kind, rfl⟩
  rintro _ M6 ⟨p6, kind, rfl⟩
  try simp [-dat_tup]
  refine (draw_spec (by assumption) (by omega) (by omega)).use ?_
  rintro _ M7 ⟨p7, j, rfl, _, _⟩
  try simp [-dat_tup]
  refine (odd_spec p7).use ?_
  rintro d M8 ⟨p8, hd8⟩
  obtain ⟨q1, q2, q3⟩ := patch_ok (some (1 + j + 1)) (some (1 + j)) hd hm2 (hd8.dat.mono (by omega))
  try simp [-dat_tup]
  exact ⟨q1, q2, p8, q3⟩
end
end Qk18
set_option Elab.async false
set_option linter.all false
set_option maxRecDepth 100000
set_option maxHeartbeats 4000000
set_option autoImplicit false
namespace L3
open PySem PySem.Spec L2
open PyProof.Rows hiding St
theorem pyL_ints : ∀ ns : List Int, pyL (ns.map D.int) = some (ns.map PyData.int)
  | [] => by simp [pyL]
  | n :: r => by simp [pyL, pyD, pyL_ints r]
theorem lay_ints : ∀ ns : List Int, PyData.canLayAll0 (ns.map PyData.int) = true
  | [] => by simp [PyData.canLayAll0]
  | n :: r => by simp [PyData.canLayAll0, PyData.canLay0, lay_ints r]
theorem depth_ints : ∀ ns : List Int, PyData.depthAll (ns.map PyData.int) = 0
  | [] => by simp [PyData.depthAll]
  | n :: r => by simp [PyData.depthAll, PyData.depth, depth_ints r]
theorem p_eq_ints {ns : List Int} {j : Int} {M : Store} {Q : D → Store → Prop} {E : Exn → Store → Prop} {neg : Bool} : Post (eqS neg (.tup (ns.map D.int)) (.int j) M) Q E ↔ Q (.bl neg) M := by
  have e : pyM M (.tup (ns.map D.int)) = some (.tuple (ns.map PyData.int)) := by
    show pyD (.tup (ns.map D.int)) = _
    simp [pyD, pyL_ints]
  have sh : SeqAt.shaped (.tuple (ns.map PyData.int)) = true := by
    simp [SeqAt.shaped, PyData.canLay0, lay_ints, PyData.depth, depth_ints]
  refine (p_eqP (neg := neg) e (y := .int j) rfl sh rfl).trans ?_
  have e2 : PyData.eqv (.tuple (ns.map PyData.int)) (.int j) = false := by simp [PyData.eqv]
  rw [e2]
  cases neg <;> exact Iff.rfl
end L3
namespace Qk18
open PySem PySem.Spec L2 L3
open PyProof.Rows hiding St
section
variable {M : Store} {n : Nat}
theorem isNum_iff {d : D} {a b : Int} : isNum d a b = true ↔ ∃ i, d = .int i ∧ a ≤ i ∧ i ≤ b := by
  cases d with
  | int i => simp [isNum]
  | _ => simp [isNum]
theorem areNums_iff {d : D} {b : Int} : areNums d b = true ↔ ∃ ns : List Int, d = .tup (ns.map D.int) ∧ ∀ i ∈ ns, 0 ≤ i ∧ i ≤ b := by
  constructor
  · intro h
    cases d with
    | tup xs =>
      simp only [areNums, List.all_eq_true] at h
      induction xs with
      | nil => exact ⟨[], rfl, by simp⟩
      | cons x xs ih =>
        obtain ⟨i, rfl, h1, h2⟩ := isNum_iff.mp (h x (by simp))
        obtain ⟨ns, e, h3⟩ := ih (fun y hy => h y (List.mem_cons_of_mem _ hy))
        cases e
        refine ⟨i :: ns, rfl, fun j hj => ?_⟩
        rcases List.mem_cons.mp hj with rfl | hj
        · exact ⟨h1, h2⟩
        · exact h3 j hj
    | _ => cases h
  · rintro ⟨ns, rfl, h⟩
    simp only [areNums, List.all_eq_true]
    intro d hd
    obtain ⟨i, hi, rfl⟩ := List.mem_map.mp hd
    exact isNum_iff.mpr ⟨i, rfl, h i hi⟩
/-- a right line -/
inductive GL (a : Int) : D → Prop
  | hue (i h : Int) : GL a (.tup [.str (Str.ofString "hue"), .int i, .int h])
  | same (i h : Int) : GL a (.tup [.str (Str.ofString "same"), .int i, .int h])
  | tie (t i h : Int) : GL a (.tup [.str (Str.ofString "tie"), .int t, .int i, .int h])
  | neg (i : Int) : GL a (.tup [.str (Str.ofString "not"), .int i])
  | row (w : Str) (ns : List Int) : w = Str.ofString "all" ∨ w = Str.ofString "some" → ns.length ≤ 12 → GL a (.tup [.str w, .tup (ns.map D.int)])
  | many (i h k : Int) : GL a (.tup [.str (Str.ofString "many"), .int i, .int h, .int k])
theorem gl_of {d : D} {a : Int} (h : lineOk d a = true) (hd : Dat 12 d) : GL a d := by
  cases hd with
  | @tup xs hl hx =>
    rcases xs with _ | ⟨x, r⟩
    · cases h
    · have dx := hx x (by simp)
      cases dx with
      | str w =>
        rcases r with _ | ⟨y, _ | ⟨z, _ | ⟨u, _ | ⟨v, r⟩⟩⟩⟩ <;> rcases word_cases w with rfl | rfl | rfl | rfl | rfl | rfl | rfl | ⟨h0, h1, h2, h3, h4, h5, h6⟩ <;> simp [*, lineOk, ofString_inj, isNum_iff, areNums_iff] at h
        all_goals (first
          | (obtain ⟨⟨i, rfl, _⟩, j, rfl, _⟩ := h; first | exact .hue i j | exact .same i j)
          | (obtain ⟨i, rfl, _⟩ := h; exact .neg i)
          | (obtain ⟨ns, rfl, _⟩ := h; refine .row _ ns (by simp) ?_; have := hx _ (List.mem_cons_of_mem _ (List.mem_cons_self ..)); simpa using (dat_tup.mp this).1)
          | (obtain ⟨⟨⟨i, rfl, _⟩, j, rfl, _⟩, k, rfl, _⟩ := h; first | exact .tie i j k | exact .many i j k)
          | trace_state)
      | _ => cases h
  | _ => cases h
theorem set_split2 {xs : List D} {k : Nat} {x : D} (h : k < xs.length) : cutD xs none (some (k : Int)) ++ x :: cutD xs (some ((k : Int) + 1)) none = xs.set k x := by
  rw [← set_split h, List.append_assoc]; rfl
theorem gl_true {a : Int} {xs : List D} {q : Nat} (g : GL a (.tup xs)) (h1 : 1 ≤ q) (h2 : xs[q]? = some (.int 1)) : lineOk (.tup (xs.set q (.bl true))) a = false ∧ Dat 14 (.tup (xs.set q (.bl true))) := by
  have h3 : q < xs.length := (List.getElem?_eq_some_iff.mp h2).1
  have h4 : xs.length ≤ 4 := by cases g <;> simp
  have h5 : q = 1 ∨ q = 2 ∨ q = 3 := by omega
  cases g with
  | row w ns hw hl =>
    rcases h5 with rfl | rfl | rfl <;> simp at h2
  | _ => rcases h5 with rfl | rfl | rfl <;> first | (simp at h2; done) | simp [lineOk, isNum, ofString_inj]
/-- an item that may be held against a number -/
def isOne (d : D) : Bool := match d with
  | .int i => decide (i = 1)
  | _ => false
theorem isOne_iff {d : D} : isOne d = true ↔ d = .int 1 := by
  cases d with
  | int i => simp [isOne]
  | _ => simp [isOne]
theorem gl_item {a : Int} {xs : List D} {q : Nat} {d : D} {Q : D → Store → Prop} {E : Exn → Store → Prop} (g : GL a (.tup xs)) (h1 : 1 ≤ q) (h2 : xs[q]? = some d) : Post (eqS false d (.int 1) M) Q E ↔ Q (.bl (isOne d)) M := by
  have h3 : q < xs.length := (List.getElem?_eq_some_iff.mp h2).1
  have h4 : xs.length ≤ 4 := by cases g <;> simp
  have h5 : q = 1 ∨ q = 2 ∨ q = 3 := by omega
  cases g with
  | row w ns hw hl =>
    rcases h5 with rfl | rfl | rfl <;> simp at h2
    subst h2
    exact p_eq_ints
  | _ => rcases h5 with rfl | rfl | rfl <;> simp at h2 <;> subst h2 <;> exact p_eq_int
def OnesOk (xs ks : List D) : Prop := ks.length ≤ 4 ∧ ∀ k ∈ ks, ∃ q : Nat, k = .int (q : Nat) ∧ 1 ≤ q ∧ xs[q]? = some (.int 1)
theorem just_out_spec {a : Int} {d : D} (h : Pot n M) (hd : Dat 12 d) (ho : lineOk d a = true) : Post (m__law_just_out [.loc n, d, .int a] M) (fun x M' => Pot n M' ∧ Dat 14 x ∧ lineOk x a = false) (fun _ _ => False) := by
  have g := gl_of ho hd
  obtain ⟨w, r, rfl⟩ : ∃ w r, d = .tup (.str w :: r) := by cases g <;> exact ⟨_, _, rfl⟩
  have hz : (D.str w :: r).length ≤ 4 := by cases g <;> simp
  unfold m__law_just_out b__law_just_out
  rw [p_runD]
  refine seq_mid (fun ρ M => Pot n M ∧ ρ = [some (.loc n), some (.tup (.str w :: r)), some (.int a), some (.str w), none, none, none]) ?_ ?_
  · simp
    exact h
  rintro _ M1 ⟨p1, rfl⟩
  let I : DEnv → Store → Prop := fun ρ M => Pot n M ∧ ∃ ks : List D, ρ = [some (.loc n), some (.tup (.str w :: r)), some (.int a), some (.str w), some (.lst ks), none, none] ∧ OnesOk (.str w :: r) ks
  generalize hA : sLc 4 frF _ = A
  generalize hB : sSeq (sIf _ _ _) _ = B
  refine seq_mid I ?_ ?_
  · subst hA
    simp
    refine ⟨by simp at hz; omega, ?_⟩
    refine lc_pure (fun d => match d with | .int k => (match atI (D.str w :: r) k with | some d => isOne d | none => false) | _ => false) id trivial (by rw [rngD_len]; simp at hz ⊢; omega) (fun d hd => ?_) ?_
    · obtain ⟨k, hk⟩ := List.getElem?_of_mem hd
      have hkl := (List.getElem?_eq_some_iff.mp hk).1
      rw [rngD_len] at hkl
      rw [rngD_get hkl] at hk
      have hk := Option.some.inj hk
      subst hk
      have e1 : (1 : Int) + (k : Nat) = ((k + 1 : Nat) : Int) := by omega
      have e2 : k + 1 < (D.str w :: r).length := by simp at hkl ⊢; omega
      rw [e1]
      have e4 : 1 ≤ k + 1 := by omega
      generalize k + 1 = q at e1 e2 e4 ⊢
      have e3 := List.getElem?_eq_getElem e2
      simp
      rw [atP_nat e2, gl_item g e4 e3]
      rw [atI_nat e2, e3]
      simp
    · simp
      refine ⟨p1, _, rfl, ?_, ?_⟩
      · refine Nat.le_trans (List.length_filter_le ..) ?_
        rw [rngD_len]; simp at hz; omega
      · intro k hk
        obtain ⟨h1, h2⟩ := List.mem_filter.mp hk
        obtain ⟨q, hq⟩ := List.getElem?_of_mem h1
        have hkl := (List.getElem?_eq_some_iff.mp hq).1
        rw [rngD_len] at hkl
        rw [rngD_get hkl] at hq
        have hq := Option.some.inj hq
        subst hq
        have e1 : (1 : Int) + (q : Nat) = ((q + 1 : Nat) : Int) := by omega
        have e2 : q + 1 < (D.str w :: r).length := by simp at hkl ⊢; omega
        refine ⟨q + 1, by rw [e1], by omega, ?_⟩
        have h3 : (match atI (D.str w :: r) (1 + (q : Nat)) with | some d => isOne d | none => false) = true := h2
        rw [e1, atI_nat e2, List.getElem?_eq_getElem e2] at h3
        rw [List.getElem?_eq_getElem e2, isOne_iff.mp h3]
  rintro _ M2 ⟨p2, ks, rfl, hkl, hks⟩
  subst hB
  refine seq_mid (fun ρ M => Pot n M ∧ ρ = [some (.loc n), some (.tup (.str w :: r)), some (.int a), some (.str w), some (.lst ks), none, none]) ?_ ?_
  · rcases ks with _ | ⟨k, ks⟩
    · simp
      exact p2
    · simp [-dat_tup]
      refine (draw_spec (by assumption) (by omega) (by omega)).use ?_
      rintro _ M3 ⟨p3, j, rfl, _, _⟩
      simp [-dat_tup]
      split
      · obtain ⟨q, rfl, h1, h2⟩ := hks k (by simp)
        have h3 : q < (D.str w :: r).length := (List.getElem?_eq_some_iff.mp h2).1
        obtain ⟨l1, l2⟩ := gl_true g h1 h2
        have l3 := patch_len (xs := D.str w :: r) (lo := some ((q : Int) + 1)) (hi := some (q : Int)) hz
        simp [-dat_tup]
        rw [set_split2 h3]
        exact ⟨by omega, by omega, p3, l2, l1⟩
      · exact p3
  rintro _ M3 ⟨p3, rfl⟩
  have c1 : ∀ xs : List D, xs.length ≤ 14 → (∀ d ∈ xs, Dat 14 d) → Dat 14 (.tup xs) := fun xs => .tup
  have fin : ∀ (M4 : Store) (xs : List D), Pot n M4 → xs ≠ [] → xs.length < 1073741824 → (∀ x ∈ xs, Dat 14 x ∧ lineOk x a = false) → Post (m__law_any [.loc n, .lst xs] M4) (fun x M' => Pot n M' ∧ Dat 14 x ∧ lineOk x a = false) (fun _ _ => False) := fun M4 xs p4 h0 h1 hx => (any_all _ p4 h0 h1 hx).use fun _ _ z => z
  cases g with
  | hue i k =>
    simp [ofString_inj, -dat_tup]
    exact fin M3 _ p3 (by simp) (by simp) (by simp [lineOk, isNum, ofString_inj])
  | same i k =>
    simp [ofString_inj, -dat_tup]
    exact fin M3 _ p3 (by simp) (by simp) (by simp [lineOk, isNum, ofString_inj])
  | tie t i k =>
    simp [ofString_inj, -dat_tup, L3.cutD, HT.sIx]
    exact fin M3 _ p3 (by simp) (by simp) (by simp [lineOk, isNum, ofString_inj])
  | neg i =>
    simp [ofString_inj, -dat_tup]
    exact fin M3 _ p3 (by simp) (by simp) (by simp [lineOk, isNum, ofString_inj]; omega)
  | row _ ns hw hl =>
    have c2 : ∀ d ∈ ns.map D.int, Dat 14 d := fun d hd => by obtain ⟨i, _, rfl⟩ := List.mem_map.mp hd; exact .int i
    have bad : ∀ (xs : List D) (y : D), y ∈ xs → isNum y 0 (a - 1) = false → areNums (.tup xs) (a - 1) = false := fun xs y hy hn => by
      simp only [areNums]
      rw [List.all_eq_false]
      exact ⟨y, hy, by simp [hn]⟩
    have c3 : ∀ (x : D), (∀ v, v = Str.ofString "all" ∨ v = Str.ofString "some" → Dat 14 (.tup [.str v, x]) ∧ lineOk (.tup [.str v, x]) a = false) ↔ (Dat 14 x ∧ areNums x (a - 1) = false) := fun x => by
      constructor
      · intro h
        obtain ⟨h1, h2⟩ := h _ (.inl rfl)
        simp [lineOk, ofString_inj] at h2
        exact ⟨(dat_tup.mp h1).2 x (by simp), h2⟩
      · rintro ⟨h1, h2⟩ v (rfl | rfl) <;> exact ⟨.tup (by simp) (by simp [-dat_tup, h1]), by simp [lineOk, ofString_inj, h2]⟩
    have fin2 : ∀ (xs : List D), xs ≠ [] → xs.length < 1073741824 → (∀ x ∈ xs, Dat 14 x ∧ areNums x (a - 1) = false) → Post (m__law_any [.loc n, .lst xs] M3) (fun x M' => Pot n M' ∧ (Dat 14 x ∧ areNums x (a - 1) = false)) (fun _ _ => False) := fun xs h0 h1 hx => (any_all _ p3 h0 h1 hx).use fun _ _ z => z
    have l1 := c1 (ns.map D.int ++ [.int a]) (by simp; omega) (fun d hd => by rcases List.mem_append.mp hd with h | h; exact c2 d h; simp at h; subst h; exact .int _)
    have l2 := c1 (.int a :: ns.map D.int) (by simp; omega) (fun d hd => by rcases List.mem_cons.mp hd with h | h; subst h; exact .int _; exact c2 d h)
    have l3 := c1 (ns.map D.int ++ [.int (-1)]) (by simp; omega) (fun d hd => by rcases List.mem_append.mp hd with h | h; exact c2 d h; simp at h; subst h; exact .int _)
    have l4 : Dat 14 (.lst (ns.map D.int)) := .lst (by simp; omega) c2
    have b1 := bad (ns.map D.int ++ [.int a]) (.int a) (by simp) (by simp [isNum]; try omega)
    have b2 := bad (.int a :: ns.map D.int) (.int a) (by simp) (by simp [isNum]; try omega)
    have b3 := bad (ns.map D.int ++ [.int (-1)]) (.int (-1)) (by simp) (by simp [isNum])
    have hall : ∀ x ∈ [D.tup (ns.map D.int ++ [.int a]), .tup (.int a :: ns.map D.int), .tup (ns.map D.int ++ [.int (-1)]), .lst (ns.map D.int)], Dat 14 x ∧ areNums x (a - 1) = false := by
      intro x hx
      simp only [List.mem_cons, List.not_mem_nil, or_false] at hx
      rcases hx with rfl | rfl | rfl | rfl
      · exact ⟨l1, b1⟩
      · exact ⟨l2, b2⟩
      · exact ⟨l3, b3⟩
      · exact ⟨l4, rfl⟩
    rcases hw with rfl | rfl <;> simp [ofString_inj, -dat_tup]
    · refine ⟨by omega, by omega, by omega, ?_⟩
      refine (fin2 _ (by simp) (by simp) hall).use ?_
      rintro x M4 ⟨p4, hx⟩
      exact ⟨p4, (c3 x).mpr hx _ (.inl rfl)⟩
    · refine ⟨by omega, by omega, by omega, ?_⟩
      refine (fin2 _ (by simp) (by simp) hall).use ?_
      rintro x M4 ⟨p4, hx⟩
      exact ⟨p4, (c3 x).mpr hx _ (.inr rfl)⟩
  | many i t k =>
    simp [ofString_inj, -dat_tup, L3.cutD, HT.sIx]
    exact fin M3 _ p3 (by simp) (by simp) (by simp [lineOk, isNum, ofString_inj]; omega)
end
end Qk18
set_option Elab.async false
set_option linter.all false
set_option maxRecDepth 100000
set_option maxHeartbeats 4000000
set_option autoImplicit false
namespace Qk18
open PySem PySem.Spec L2 L3
open PyProof.Rows hiding St
section
variable {M : Store} {n : Nat}
theorem atI_get {xs : List D} {i : Int} (h0 : 0 ≤ i) (h1 : i < xs.length) {P : D → Prop} : ∃ (q : Nat) (y : D), i = (q : Nat) ∧ xs[q]? = some y ∧ y ∈ xs ∧ (AtP xs i P ↔ P y) := by
  obtain ⟨q, rfl⟩ := Int.eq_ofNat_of_zero_le h0
  have hq : q < xs.length := by omega
  exact ⟨q, xs[q], rfl, List.getElem?_eq_getElem hq, List.getElem_mem hq, atP_nat hq⟩
theorem bent_spec {x : D} {xs : List D} {m : Nat} (h : Pot n M) (hm : 12 ≤ m) (hm2 : 2 * m + 2 ≤ 16777216) (hd : Dat m (.tup (x :: xs))) : Post (m__law_bent [.loc n, .tup (x :: xs)] M) (fun d M' => Pot n M' ∧ Dat (2 * m + 2) d) (fun _ _ => False) := by
  have hx := (dat_tup.mp hd).2
  have hl : xs.length + 1 ≤ m := (dat_tup.mp hd).1
  have hx2 : ∀ d ∈ x :: xs, Dat (2 * m + 2) d := fun d h => (hx d h).mono (by omega)
  unfold m__law_bent b__law_bent
  rw [p_runD]
  refine seq_mid (fun ρ M => Pot n M ∧ ρ = [some (.loc n), some (.tup (x :: xs)), none, none, none]) ?_ ?_
  · simp [-dat_tup]
    refine (draw_spec (by assumption) (by omega) (by omega)).use ?_
    rintro _ M1 ⟨p1, j, rfl, _, _⟩
    simp [-dat_tup]
    split
    · refine ⟨by omega, ?_⟩
      refine (deep_spec p1).use ?_
      rintro d M2 ⟨p2, hd2⟩
      try simp [-dat_tup]
      refine ⟨by omega, ?_⟩
      refine (any_all (Dat (2 * m + 2)) (by assumption) (by simp) (by simp) ?_).use fun d M z => z
      have hd3 : Dat (2 * m + 2) (.tup (x :: xs)) := hd.mono (by omega)
      intro d hd'
      simp at hd'
      rcases hd' with rfl | rfl | rfl | rfl | rfl | rfl | rfl | rfl | rfl | rfl | rfl | rfl | rfl | rfl
      · exact .lst (by simp; omega) hx2
      · exact .tup (by simp) (by simp)
      · exact .non
      · exact hx2 _ (by simp)
      · refine .tup (by simp; omega) fun d h => ?_
        rw [show x :: (xs ++ [D.non]) = (x :: xs) ++ [D.non] from rfl] at h
        rcases List.mem_append.mp h with h | h
        · exact hx2 d h
        · simp at h; subst h; exact .non
      · exact (dat_cut hd).mono (by omega)
      · exact .tup (by simp) (by simp [-dat_tup]; exact hd3)
      · refine .tup (by simp; omega) fun d h => ?_
        simp at h
        rcases h with h | rfl
        · exact hx2 d (by simp [h])
        · exact hx2 _ (by simp)
      · exact .bl _
      · exact .str _
      · exact .dk
      · exact .int _
      · exact hd2.dat.mono (by omega)
      · refine .tup (by simp; omega) fun d h => ?_
        rw [show x :: (xs ++ x :: xs) = (x :: xs) ++ (x :: xs) from rfl] at h
        rcases List.mem_append.mp h with h | h <;> exact hx2 d h
    · exact p1
  rintro _ M1 ⟨p1, rfl⟩
  simp [-dat_tup]
  refine (draw_spec (by assumption) (by omega) (by omega)).use ?_
  rintro _ M2 ⟨p2, j, rfl, h1, h2⟩
  simp [-dat_tup]
  rw [atP_iff]
  obtain ⟨q, y, rfl, hy, hy2, -⟩ := atI_get (xs := x :: xs) (P := fun _ => True) h1 (by simpa using h2)
  have hq : q < (x :: xs).length := (List.getElem?_eq_some_iff.mp hy).1
  refine ⟨y, by rw [atI_nat hq, hy], ?_⟩
  have same : Dat (2 * m + 2) (.tup (x :: xs)) := hd.mono (by omega)
  cases hx y hy2 with
  | @tup ys hl2 hyy =>
    rcases ys with _ | ⟨y0, _ | ⟨y1, r⟩⟩
    · simp [-dat_tup, isT]
      exact ⟨p2, same⟩
    · simp [-dat_tup, isT]
      exact ⟨p2, same⟩
    · simp [-dat_tup, isT]
      split
      · exact ⟨p2, same⟩
      · refine (bent_line_spec p2 hm hm2 (.tup hl2 hyy)).use ?_
        rintro d M3 ⟨p3, hd3⟩
        obtain ⟨q1, q2, q3⟩ := patch_ok (some ((q : Int) + 1)) (some (q : Int)) hd hm2 hd3
        try simp [-dat_tup]
        exact ⟨q1, q2, p3, q3⟩
  | _ =>
    simp [-dat_tup, isT]
    exact ⟨p2, same⟩
theorem long_spec (h : Pot n M) : Post (m__law_long_right [.loc n] M) (fun d M' => Pot n M' ∧ d = .bl true) (fun _ _ => False) := by
  unfold m__law_long_right b__law_long_right
  simp [p_runD, -dat_tup]
  refine (draw_spec (by assumption) (by omega) (by omega)).use ?_
  rintro _ M2 ⟨p2, j, rfl, h1, h2⟩
  simp [-dat_tup]
  refine (saying_spec p2 (by omega) (by omega) (by omega) (by omega)).use ?_
  rintro _ M3 ⟨p3, zs, rfl, hz, hg⟩
  have h0 : zs ≠ [] := by intro z; subst z; simp at hz; omega
  have hl : zs.length ≤ 4000 := by omega
  have hl2 : 1000 ≤ zs.length := by omega
  have hdz : Dat 4000 (.tup zs) := hg.dat hl (by omega)
  simp [-dat_tup, is_saying_eq (by omega) hdz, sayOk_of hg h0, law_flag_eq]
  refine (draw_spec (by assumption) (by omega) (by omega)).use ?_
  rintro _ M4 ⟨p4, k, rfl, h3, h4⟩
  simp [-dat_tup]
  obtain ⟨q, y, e, hy, hy2, -⟩ := atI_get (xs := zs) (i := zs.length - 1 - k) (P := fun _ => True) (by omega) (by omega)
  rw [e, atP_iff]
  have hq : q < zs.length := (List.getElem?_eq_some_iff.mp hy).1
  refine ⟨y, by rw [atI_nat hq, hy], ?_⟩
  obtain ⟨g1, g2⟩ := hg q y hy
  have g3 := gl_of g1 g2
  obtain ⟨y0, y1, r, rfl⟩ : ∃ y0 y1 r, y = .tup (y0 :: y1 :: r) := by cases g3 <;> exact ⟨_, _, _, rfl⟩
  refine (bent_line_spec (m := 4000) p4 (by omega) (by omega) (g2.mono (by omega))).use ?_
  rintro d M5 ⟨p5, hd5⟩
  obtain ⟨q1, q2, q3⟩ := patch_ok (some ((q : Int) + 1)) (some (q : Int)) hdz (by omega) hd5
  try simp [-dat_tup]
  refine ⟨q1, q2, ?_⟩
  have e1 := is_saying_eq (M := M5) (n := 2 * 4000 + 2) (by omega) q3
  have e2 := law_is_saying_eq (M := M5) (n := 2 * 4000 + 2) (by omega) q3
  rw [e1]
  simp [-dat_tup, e2, law_flag_eq]
  exact p5
theorem main (ns : List Int) (hl : ns.length ≤ 63) : Post (m_law [.ro (ns.map D.int)] []) (fun d _ => d = .bl true) (fun _ _ => False) := by
  unfold m_law b_law
  rw [p_runD]
  refine seq_mid (fun ρ M => Pot 0 M ∧ ρ = [some (.ro (ns.map D.int)), some (.loc 0), none, none, none, none, none, none]) ?_ ?_
  · simp
    refine (pot_spec hl).use ?_
    rintro _ M1 ⟨rfl, p1⟩
    simp [p1]
  rintro _ M1 ⟨p1, rfl⟩
  refine seq_mid (fun ρ M => Pot 0 M ∧ ρ = [some (.ro (ns.map D.int)), some (.loc 0), none, none, none, none, none, none]) ?_ ?_
  · simp
    refine (draw_spec (by assumption) (by omega) (by omega)).use ?_
    rintro _ M2 ⟨p2, j, rfl, h1, h2⟩
    simp
    split
    · refine (long_spec p2).use ?_
      rintro _ M3 ⟨p3, rfl⟩
      simp [p3]
    · exact p2
  rintro _ M2 ⟨p2, rfl⟩
  refine seq_mid (fun ρ M => Pot 0 M ∧ ∃ o2 o3 o4 o5 o6 o7, ρ = [some (.ro (ns.map D.int)), some (.loc 0), o2, o3, o4, o5, o6, o7]) ?_ ?_
  · simp
    refine for_rule (fun _ ρ M => Pot 0 M ∧ ∃ o2 o3 o4 o5 o6 o7, ρ = [some (.ro (ns.map D.int)), some (.loc 0), o2, o3, o4, o5, o6, o7]) (fun _ _ _ _ => trivial) ⟨p2, none, none, none, none, none, none, rfl⟩ ?_ ?_
    · rintro k t ρ M3 - ⟨p3, o2, o3, o4, o5, o6, o7, rfl⟩
      rw [p_gSet]
      refine seq_mid (fun ρ M => Pot 0 M ∧ ∃ o2 o4 o5 o6 o7 zs, ρ = [some (.ro (ns.map D.int)), some (.loc 0), o2, some (.tup zs), o4, o5, o6, o7] ∧ GoodS zs ∧ 1 ≤ zs.length ∧ zs.length ≤ 12) ?_ ?_
      · simp
        refine (draw_spec (by assumption) (by omega) (by omega)).use ?_
        rintro _ M4 ⟨p4, j, rfl, _, _⟩
        simp
        refine (draw_spec (by assumption) (by omega) (by omega)).use ?_
        rintro _ M5 ⟨p5, j2, rfl, _, _⟩
        simp
        refine (any_all (IntB 0 9) (by assumption) (by simp) (by simp) (by simp)).use ?_
        rintro _ M6 ⟨p6, v, rfl, _, _⟩
        try simp
        refine (saying_spec p6 (by omega) (by omega) (by omega) (by omega)).use ?_
        rintro _ M7 ⟨p7, zs, rfl, hz, hg⟩
        exact ⟨p7, _, _, _, _, _, zs, ⟨rfl, rfl, rfl, rfl, rfl, rfl⟩, hg, by omega, by omega⟩
      rintro _ M4 ⟨p4, o2, o4, o5, o6, o7, zs, rfl, hg, hl1, hl2⟩
      have h0 : zs ≠ [] := by intro z; subst z; simp at hl1
      have hdz : Dat 12 (.tup zs) := hg.dat hl2 (by omega)
      have hok := sayOk_of hg h0
      refine seq_mid (fun ρ M => Pot 0 M ∧ ρ = [some (.ro (ns.map D.int)), some (.loc 0), o2, some (.tup zs), o4, o5, o6, o7]) ?_ ?_
      · simp [-dat_tup, is_saying_eq (by omega) hdz, law_is_saying_eq (by omega) hdz, hok, law_flag_eq]
        exact p4
      rintro _ M5 ⟨p5, rfl⟩
      refine seq_mid (fun ρ M => Pot 0 M ∧ ∃ o4 o5, ρ = [some (.ro (ns.map D.int)), some (.loc 0), o2, some (.tup zs), o4, o5, o6, o7]) ?_ ?_
      · simp only [p_sFor, p_enum, p_aCons, p_aNil, p_eVar, p_wkEnum]
        simp only [List.getElem?_cons_succ, List.getElem?_cons_zero, p_getV, p_wkLT_tup]
        refine for_rule (fun _ ρ M => Pot 0 M ∧ ∃ o4 o5, ρ = [some (.ro (ns.map D.int)), some (.loc 0), o2, some (.tup zs), o4, o5, o6, o7]) (fun _ _ _ _ => trivial) ⟨p5, _, _, rfl⟩ ?_ ?_
        · rintro k e ρ M6 he ⟨p6, o4, o5, rfl⟩
          have hk : k < zs.length := by rw [← enumD_len 0]; exact (List.getElem?_eq_some_iff.mp he).1
          have hy := List.getElem?_eq_getElem hk
          rw [enumD_get zs 0 k _ hy, Nat.zero_add] at he
          have he := Option.some.inj he
          subst he
          obtain ⟨g1, g2⟩ := hg k _ hy
          generalize zs[k] = y at *
          simp [-dat_tup]
          refine (just_out_spec p6 g2 g1).use ?_
          rintro x M7 ⟨p7, hx1, hx2⟩
          have l3 := patch_len (xs := zs) (lo := some ((k : Int) + 1)) (hi := some (k : Int)) hl2
          have hd2 : Dat 14 (.tup (zs.set k x)) := .tup (by rw [List.length_set]; omega) fun d hd => by
            rcases List.mem_or_eq_of_mem_set hd with h | rfl
            · exact ((dat_tup.mp hdz).2 d h).mono (by omega)
            · exact hx1
          have e1 := is_saying_eq (M := M7) (by omega) hd2
          try simp [-dat_tup]
          rw [set_split2 hk]
          refine ⟨by omega, by omega, ?_⟩
          rw [e1]
          simp [sayOk_set hk hx2, law_flag_eq]
          exact p7
        · rintro ρ M6 h6
          exact h6
      rintro _ M6 ⟨p6, o4, o5, rfl⟩
      refine seq_mid (fun ρ M => Pot 0 M ∧ ρ = [some (.ro (ns.map D.int)), some (.loc 0), o2, some (.tup zs), o4, o5, some (.tup zs), o7]) ?_ ?_
      · simp
        exact p6
      rintro _ M7 ⟨p7, rfl⟩
      simp [-dat_tup]
      refine (draw_spec (by assumption) (by omega) (by omega)).use ?_
      rintro _ M8 ⟨p8, j, rfl, _, _⟩
      simp [-dat_tup]
      refine ⟨by omega, ?_⟩
      have hlen : (rngD 0 (1 + j)).length ≤ 3 := by rw [rngD_len]; omega
      refine for_rule (fun k ρ M => Pot 0 M ∧ ∃ d o7, ρ = [some (.ro (ns.map D.int)), some (.loc 0), o2, some (.tup zs), o4, o5, some d, o7] ∧ Dat (12 * 4 ^ k) d) (fun _ _ _ _ => trivial) ⟨p8, _, _, rfl, hdz⟩ ?_ ?_
      · rintro i t ρ M9 he ⟨p9, d, o7, rfl, hd⟩
        have hi : i < 3 := by have := (List.getElem?_eq_some_iff.mp he).1; omega
        have hb : 12 * 4 ^ i ≤ 192 := by
          have : i = 0 ∨ i = 1 ∨ i = 2 := by omega
          rcases this with rfl | rfl | rfl <;> decide
        have hb2 : 2 * (12 * 4 ^ i) + 2 ≤ 12 * 4 ^ (i + 1) := by rw [Nat.pow_succ]; have := Nat.one_le_two_pow (n := 2 * i); have : 1 ≤ 4 ^ i := Nat.one_le_pow _ _ (by omega); omega
        have hb3 : 12 * 4 ^ (i + 1) ≤ 16777216 := by rw [Nat.pow_succ]; omega
        have hb4 : 12 ≤ 12 * 4 ^ i := by have : 1 ≤ 4 ^ i := Nat.one_le_pow _ _ (by omega); omega
        rw [p_gSet]
        refine seq_mid (fun ρ M => Pot 0 M ∧ ∃ d o7, ρ = [some (.ro (ns.map D.int)), some (.loc 0), o2, some (.tup zs), o4, o5, some d, o7] ∧ Dat (12 * 4 ^ (i + 1)) d) ?_ ?_
        · have hd1 : Dat (12 * 4 ^ (i + 1)) d := hd.mono (by omega)
          cases hd with
          | @tup ys hl2 hyy =>
            rcases ys with _ | ⟨y0, ys⟩
            · simp [-dat_tup, isT]
              exact ⟨p9, hd1⟩
            · simp [-dat_tup, isT]
              refine (bent_spec p9 hb4 (by omega) (.tup hl2 hyy)).use ?_
              rintro d M10 ⟨p10, hd10⟩
              exact ⟨p10, hd10.mono hb2⟩
          | _ =>
            simp [-dat_tup, -dat_lst, isT]
            first | exact ⟨p9, hd1⟩ | exact p9
        rintro _ M10 ⟨p10, d, o7, rfl, hd⟩
        simp [-dat_tup, is_saying_eq hb3 hd, law_is_saying_eq hb3 hd, law_flag_eq]
        exact ⟨p10, hd⟩
      · rintro ρ M9 ⟨p9, d, o7, rfl, hd⟩
        exact ⟨p9, _, _, _, _, _, _, rfl⟩
    · rintro ρ M3 h3
      exact h3
  rintro _ M3 ⟨p3, o2, o3, o4, o5, o6, o7, rfl⟩
  simp
  refine (odd_spec p3).use ?_
  rintro d M4 ⟨p4, hd⟩
  have e1 := is_saying_eq (M := M4) (n := 12) (by omega) hd.dat
  rw [e1]
  simp [hd.say, law_flag_eq]
end
end Qk18
set_option Elab.async false
set_option linter.all false
set_option maxRecDepth 100000
set_option maxHeartbeats 0
set_option autoImplicit false
open PySem PySem.W PySem.Calls PyProof.Rows
theorem PySem.Challenge.cw_levelkin_k18_whole_sayings_judged_holds : PySem.Challenge.rw_levelkin_k18_whole_sayings_judged.Holds := by
  w_on; o_law
  refine HandSHeadRun.head_any (r := OpenLaw.row PySem.Challenge.rw_levelkin_k18_whole_sayings_judged) (q := view (OpenLaw.row PySem.Challenge.rw_levelkin_k18_whole_sayings_judged).prog [37]) (H := Qk18.hk) (ob := Qk18.ob) (M := 3000) (loose := Qk18.loo) (d := HandSHeadRun.topDef (OpenLaw.row PySem.Challenge.rw_levelkin_k18_whole_sayings_judged).prog 37) (kwd := []) Qk18.ob_eq
    (by kernel_rfl) (fun s => by kernel_rfl) Qk18.run (by kernel_rfl) (by kernel_rfl) (by kernel_rfl) (by rfl) (by first | assumption | decide +kernel) (by decide +kernel) ⟨rfl, rfl, rfl, rfl, rfl, by decide +kernel⟩ ?hw ?hc
  case hw => w_witness2
  case hc =>
    refine L2.walk_ofE (l := PySem.Challenge.rw_levelkin_k18_whole_sayings_judged) (n := 63) (k := 9) (x := "script") (CX := L2.CX0) rfl (by decide) (by kernel_rfl) ⟨rfl, by decide, by decide⟩ ?F (fun _ _ _ _ z => z)
    intro w mg fa h Y G hmg0
    obtain ⟨K, KX, c⟩ := Y
    have hmg : mg ("law" : PySem.Str) = some (.ref fa) := by
      have e : (HandSHeadRun.topDef (OpenLaw.row PySem.Challenge.rw_levelkin_k18_whole_sayings_judged).prog 37).name = ("law" : PySem.Str) := by kernel_rfl
      rw [← e]
      exact hmg0
    obtain ⟨fd, hb, hF⟩ := Qk18.facts (P := (PySem.Challenge.rw_levelkin_k18_whole_sayings_judged).prog) (w := w) KX G hmg c
    exact ⟨K, fd, L3.spD K 1 Qk18.m_law, KX, hb, fun H a ns hl _ hS => L3.sp_start hS (Qk18.main ns hl), hF⟩
