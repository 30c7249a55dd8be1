import PyProof.Rows.All
import Wide.All
import OpenK.AllK
import Wide.FinOn
import HandS.ForMost
import HandS.HeadHook1
import KE.KDictKeyed
import HandS.Exc
import HandS.ExcOwn
import HandS.WordsExc
import HandS.CallSlots
import HandS.IsInst
import HandS.Walk
import HandS.TupAny
import HandS.Deep
import HandS.Style
import HandS.Defaults
import HandS.HeadEnd
import KE.GoesEnum
import HandS.ListEq
import HandS.DictEq
import HandS.SetKeys
import HandS.DictComp
import HandS.Conv
import HandS.SortInts
import HandS.Strs
import HandS.More
import HandS.SortKw
import HandS.Iter
import HandS.OwnEq
import HandS.HeadHook2
import HandS.RaiseMore
import HandS.Zip
import PyProof.ReprRoads
import HandS.Set
import HandS.SetFor
import KE.SortData
import KE.KDictCopyH
import KE.DataCmp
import HandS.TupSets
import KE.KExcSuper
import HandS.ExcInit
import HandS.TryMany
import HandS.ExcField
import HandS.ExcIs
import KE.KExcIs
import HandS.Small
import KE.KIntText
import KE.KxLen
import KE.KxText
import PyProof.Rows.StrItems
import PyProof.StrLawsTight
import PyProof.StrLawsChain
import KE.KDictSum
import HandS.TupMul
import PySem.Challenge.RW_levelkin_k01_whole_webs_judged
import HandS.Base
import HandS.Head0
import HandS.Head1
import HandS.Head2
import KE.KStateDown
import Lean
set_option Elab.async false
set_option linter.all false
set_option maxRecDepth 100000
set_option autoImplicit false
/-! The data layer: immutable things are plain data D, what changes stands in a store; a def is a function of data. -/
namespace L3
open PySem PySem.Spec L2
open PyProof.Rows hiding St

inductive D where
  | non | bl (b : Bool) | int (i : Int) | str (x : Str)
  | tup (xs : List D) | lst (xs : List D)
  /-- a list that is only read: the script, a list of the module -/
  | ro (xs : List D)
  /-- a dict with keys that are ints or texts -/
  | dk (kvs : List (Key × D))
  /-- a dict with keys that are tuples -/
  | dkt (kvs : List (D × D))
  | ins (C : Str) (fs : List (Str × D))
  | loc (n : Nat)
  | ref (a : Addr)
  | ty (n : String)

/-- a thing that changes -/
inductive MO where
  | lst (xs : List D)
  | dk (kvs : List (Key × D))
  /-- a dict with keys that are tuples -/
  | dkt (kvs : List (D × D))
  | ins (C : Str) (fs : List (Str × D))
abbrev Store := List (Option MO)
structure Exn where
  cls : Str
  fs : List (Str × D)
inductive Out (α : Type) where
  | ok (a : α) (M : Store)
  | exc (e : Exn) (M : Store)
  | bad
def Py (α : Type) := Store → Out α
namespace Py
variable {α β : Type}
def ret (a : α) : Py α := fun M => .ok a M
def bnd (m : Py α) (k : α → Py β) : Py β := fun M => match m M with
  | .ok a M' => k a M'
  | .exc e M' => .exc e M'
  | .bad => .bad
def bad : Py α := fun _ => .bad
def raise (e : Exn) : Py α := fun M => .exc e M
/-- a guard -/
@[irreducible] def chk (p : Prop) [Decidable p] (k : Py α) : Py α := fun M => if p then k M else .bad
end Py
def Post {α : Type} (o : Out α) (Q : α → Store → Prop) (E : Exn → Store → Prop) : Prop := match o with
  | .ok a M => Q a M
  | .exc e M => E e M
  | .bad => False
section
variable {α β : Type} {Q : α → Store → Prop} {R : β → Store → Prop} {E : Exn → Store → Prop} {M : Store}
theorem post_ret {a : α} : Post (Py.ret a M) Q E ↔ Q a M := Iff.rfl
theorem post_bnd {m : Py α} {k : α → Py β} : Post (Py.bnd m k M) R E ↔ Post (m M) (fun a M' => Post (k a M') R E) E := by
  unfold Py.bnd
  cases m M <;> exact Iff.rfl
theorem post_bad : Post (Py.bad M : Out α) Q E ↔ False := Iff.rfl
theorem post_raise {e : Exn} : Post (Py.raise e M : Out α) Q E ↔ E e M := Iff.rfl
theorem post_chk {p : Prop} [Decidable p] {k : Py α} : Post (Py.chk p k M) Q E ↔ p ∧ Post (k M) Q E := by
  unfold Py.chk
  by_cases h : p
  · rw [if_pos h]; exact ⟨fun q => ⟨h, q⟩, fun q => q.2⟩
  · rw [if_neg h]; exact ⟨fun q => q.elim, fun q => absurd q.1 h⟩
theorem Post.mono {o : Out α} {Q' : α → Store → Prop} {E' : Exn → Store → Prop} (h : Post o Q E) (hq : ∀ a M, Q a M → Q' a M) (he : ∀ e M, E e M → E' e M) : Post o Q' E' := by
  cases o with
  | ok a M => exact hq _ _ h
  | exc e M => exact he _ _ h
  | bad => exact h
theorem Post.imp {o : Out α} {Q' : α → Store → Prop} (h : Post o Q E) (hq : ∀ a M, Q a M → Q' a M) : Post o Q' E := h.mono hq fun _ _ z => z
end

/-! ### what stands for what -/
/-- the ground: where the locations lie; what is never changed any more -/
structure G where
  io : List Addr
  F : Hp
  /-- what a rule builds meanwhile -/
  P : Hp
  w : World
structure G.le (g g' : G) : Prop where
  io : ∃ r, g'.io = g.io ++ r
  F : ∀ a o, g.F a = some o → g'.F a = some o
  P : g'.P = g.P
  w : g'.w = g.w
theorem G.le.refl (g : G) : g.le g := ⟨⟨[], by simp⟩, fun _ _ h => h, rfl, rfl⟩
theorem G.le.trans {a b c : G} (h : a.le b) (k : b.le c) : a.le c := by
  obtain ⟨⟨r, e⟩, f, p, w⟩ := h
  obtain ⟨⟨r', e'⟩, f', p', w'⟩ := k
  exact ⟨⟨r ++ r', by rw [e', e, List.append_assoc]⟩, fun a o q => f' _ _ (f _ _ q), p'.trans p, w'.trans w⟩
/-- what Rep leans on -/
structure G.sub (g g' : G) : Prop where
  io : ∃ r, g'.io = g.io ++ r
  F : ∀ a o, g.F a = some o → g'.F a = some o
  w : g'.w = g.w
theorem G.le_w {g : G} {w : World} (h : g.w = w) : ({ g with w := w } : G).le g := ⟨⟨[], by simp⟩, fun _ _ q => q, rfl, h⟩
theorem G.le.sub {g g' : G} (h : g.le g') : g.sub g' := ⟨h.io, h.F, h.w⟩
theorem G.sub.refl (g : G) : g.sub g := ⟨⟨[], by simp⟩, fun _ _ h => h, rfl⟩
theorem G.sub.trans {a b c : G} (h : a.sub b) (k : b.sub c) : a.sub c := by
  obtain ⟨⟨r, e⟩, f, w⟩ := h
  obtain ⟨⟨r', e'⟩, f', w'⟩ := k
  exact ⟨⟨r ++ r', by rw [e', e, List.append_assoc]⟩, fun a o q => f' _ _ (f _ _ q), w'.trans w⟩

/-! a dict whose keys are tuples -/
mutual
def nkD : D → Option NestedKey
  | .non => some .none
  | .bl b => some (.num (if b then 1 else 0))
  | .int i => some (.num i)
  | .str x => some (.text x)
  | .tup xs => (nkL xs).map NestedKey.tup
  | .lst _ => none
  | .ro _ => none
  | .dk _ => none
  | .dkt _ => none
  | .ins _ _ => none
  | .loc _ => none
  | .ref _ => none
  | .ty _ => none
def nkL : List D → Option (List NestedKey)
  | [] => some []
  | x :: xs => (nkD x).bind fun k => (nkL xs).map fun ks => k :: ks
end
/-- a key's number, where its tuple stands, its value -/
abbrev NE := NestedKey × Addr × V
def NEs : List NE → List (NestedKey × Addr × Value) → Prop := Paired fun p q => p.1 = q.1 ∧ p.2.1 = q.2.1 ∧ RelV p.2.2 q.2.2
def dnP (w : World) (a : Addr) (xs : List NE) (h : Heap) : Prop := xs.length ≤ sizeLine ∧ (a == sysModules) = false ∧ ∃ ws, NEs xs ws ∧ (ws.map (·.1)).Nodup ∧
  ∃ o es ep, h.get? a = some o ∧ o.ExactDict ∧ o.data = .dict es ep ∧ es.toList = ws.map fun x => (⟨x.1.hash w, .ref x.2.1, x.2.2⟩ : DictEntry)
/-- what stands at a: a dict with these keys -/
def dnO (w : World) (a : Addr) (xs : List NE) : HO := .ext (dnP w a xs)
mutual
inductive Rep (K : PySem.W.Frag) (g : G) : V → D → Prop
  | non : Rep K g .non .non
  | bl (b : Bool) : Rep K g (.bl b) (.bl b)
  | int (i : Int) : Rep K g (.int i) (.int i)
  | str (x : Str) : Rep K g (.str x) (.str x)
  | tup {a : Addr} {vs : List V} {ds : List D} : g.F a = some (.tup vs) → Reps K g vs ds → Rep K g (.ref a) (.tup ds)
  | lst {a : Addr} {vs : List V} {ds : List D} : g.F a = some (.lst vs) → Reps K g vs ds → Rep K g (.ref a) (.lst ds)
  | ro {a : Addr} {vs : List V} {ds : List D} : SqL K g.F a vs → Reps K g vs ds → Rep K g (.ref a) (.ro ds)
  | dk {a : Addr} {vs : List (Key × V)} {fs : List (Key × D)} : g.F a = some (.dK vs) → Reps K g (vs.map (·.2)) (fs.map (·.2)) → vs.map (·.1) = fs.map (·.1) → Rep K g (.ref a) (.dk fs)
  | dkt {a : Addr} {xs : List NE} {fs : List (D × D)} : g.F a = some (dnO g.w a xs) → Reps K g (xs.map fun x => V.ref x.2.1) (fs.map (·.1)) → Reps K g (xs.map (·.2.2)) (fs.map (·.2)) → (∀ x ∈ xs, x.1.depth ≤ 8) → fs.map (fun f => nkD f.1) = xs.map (fun x => some x.1) → Rep K g (.ref a) (.dkt fs)
  | ins {a dx : Addr} {C : Str} {vs : List (Str × V)} {fs : List (Str × D)} : g.F a = some (.ins (He.ga K C) dx vs) → Reps K g (vs.map (·.2)) (fs.map (·.2)) → vs.map (·.1) = fs.map (·.1) → Rep K g (.ref a) (.ins C fs)
  | loc {n : Nat} {a : Addr} : g.io[n]? = some a → Rep K g (.ref a) (.loc n)
  | ref (a : Addr) : Rep K g (.ref a) (.ref a)
  | ty (n : String) : Rep K g (.ty n) (.ty n)
inductive Reps (K : PySem.W.Frag) (g : G) : List V → List D → Prop
  | nil : Reps K g [] []
  | cons {v : V} {vs : List V} {d : D} {ds : List D} : Rep K g v d → Reps K g vs ds → Reps K g (v :: vs) (d :: ds)
end
section
variable {K : PySem.W.Frag} {g g' : G}
theorem Rd.mono {F F' : Hp} {a : Addr} {u : HO} (h : ∀ a o, F a = some o → F' a = some o) (r : Rd F a u) : Rd F' a u := by
  rcases r with r | ⟨o, r⟩
  · exact .inl (h _ _ r)
  · exact .inr ⟨o, h _ _ r⟩
theorem sqT_mono {F F' : Hp} {a : Addr} {xs : List V} (h : ∀ a o, F a = some o → F' a = some o) (r : SqT K F a xs) : SqT K F' a xs := by
  rcases r with r | r
  · exact .inl (Rd.mono h r)
  · exact .inr r
theorem sqL_mono {F F' : Hp} {a : Addr} {xs : List V} (h : ∀ a o, F a = some o → F' a = some o) (r : SqL K F a xs) : SqL K F' a xs := by
  rcases r with r | r
  · exact .inl (Rd.mono h r)
  · exact .inr r
mutual
theorem Rep.gro (h : g.sub g') : ∀ {v : V} {d : D}, Rep K g v d → Rep K g' v d
  | _, _, .non => .non
  | _, _, .bl b => .bl b
  | _, _, .int i => .int i
  | _, _, .str x => .str x
  | _, _, .tup s r => .tup (h.F _ _ s) (Reps.gro h r)
  | _, _, .lst s r => .lst (h.F _ _ s) (Reps.gro h r)
  | _, _, .ro s r => .ro (sqL_mono h.F s) (Reps.gro h r)
  | _, _, .dk s r e => .dk (h.F _ _ s) (Reps.gro h r) e
  | _, _, .dkt s r t d e => .dkt (by rw [h.w]; exact h.F _ _ s) (Reps.gro h r) (Reps.gro h t) d e
  | _, _, .ins s r e => .ins (h.F _ _ s) (Reps.gro h r) e
  | _, _, .loc e => .loc (by
      obtain ⟨r, q⟩ := h.io
      rw [q, List.getElem?_append_left (List.getElem?_eq_some_iff.mp e).1]
      exact e)
  | _, _, .ref a => .ref a
  | _, _, .ty n => .ty n
theorem Reps.gro (h : g.sub g') : ∀ {vs : List V} {ds : List D}, Reps K g vs ds → Reps K g' vs ds
  | _, _, .nil => .nil
  | _, _, .cons r t => .cons (Rep.gro h r) (Reps.gro h t)
end
theorem Rep.mono (h : g.le g') {v : V} {d : D} (r : Rep K g v d) : Rep K g' v d := r.gro h.sub
theorem Reps.mono (h : g.le g') {vs : List V} {ds : List D} (r : Reps K g vs ds) : Reps K g' vs ds := r.gro h.sub
theorem Reps.length : ∀ {vs : List V} {ds : List D}, Reps K g vs ds → vs.length = ds.length
  | _, _, .nil => rfl
  | _, _, .cons _ t => congrArg (· + 1) (Reps.length t)
theorem Reps.get : ∀ {vs : List V} {ds : List D} {i : Nat} {d : D}, Reps K g vs ds → ds[i]? = some d → ∃ v, vs[i]? = some v ∧ Rep K g v d
  | _, _, _, _, .nil, e => by simp at e
  | _, _, 0, _, .cons r _, e => by simp at e; subst e; exact ⟨_, rfl, r⟩
  | _, _, i + 1, _, .cons _ t, e => by
    obtain ⟨v, h1, h2⟩ := Reps.get t (by simpa using e)
    exact ⟨v, by simpa using h1, h2⟩
theorem Reps.getV : ∀ {vs : List V} {ds : List D} {i : Nat} {v : V}, Reps K g vs ds → vs[i]? = some v → ∃ d, ds[i]? = some d ∧ Rep K g v d
  | _, _, _, _, .nil, e => by simp at e
  | _, _, 0, _, .cons r _, e => by simp at e; subst e; exact ⟨_, rfl, r⟩
  | _, _, i + 1, _, .cons _ t, e => by
    obtain ⟨v, h1, h2⟩ := Reps.getV t (by simpa using e)
    exact ⟨v, by simpa using h1, h2⟩
theorem Reps.append : ∀ {vs ws : List V} {ds es : List D}, Reps K g vs ds → Reps K g ws es → Reps K g (vs ++ ws) (ds ++ es)
  | _, _, _, _, .nil, s => s
  | _, _, _, _, .cons r t, s => .cons r (Reps.append t s)
theorem Reps.set {v : V} {d : D} (r : Rep K g v d) : ∀ {vs : List V} {ds : List D} (i : Nat), Reps K g vs ds → Reps K g (vs.set i v) (ds.set i d)
  | _, _, _, .nil => .nil
  | _, _, 0, .cons _ t => .cons r t
  | _, _, i + 1, .cons q t => .cons q (Reps.set r i t)
theorem Reps.take : ∀ {vs : List V} {ds : List D} (n : Nat), Reps K g vs ds → Reps K g (vs.take n) (ds.take n)
  | _, _, 0, _ => .nil
  | _, _, _ + 1, .nil => .nil
  | _, _, n + 1, .cons r t => .cons r (Reps.take n t)
theorem Reps.drop : ∀ {vs : List V} {ds : List D} (n : Nat), Reps K g vs ds → Reps K g (vs.drop n) (ds.drop n)
  | _, _, 0, r => r
  | _, _, _ + 1, .nil => .nil
  | _, _, n + 1, .cons _ t => Reps.drop n t
theorem Reps.dropLast : ∀ {vs : List V} {ds : List D}, Reps K g vs ds → Reps K g vs.dropLast ds.dropLast
  | _, _, .nil => .nil
  | _, _, .cons _ .nil => .nil
  | _, _, .cons r (.cons q t) => .cons r (Reps.dropLast (.cons q t))
theorem Reps.reverse {vs : List V} {ds : List D} (h : Reps K g vs ds) : Reps K g vs.reverse ds.reverse := by
  induction vs generalizing ds with
  | nil => cases h; exact .nil
  | cons v vs ih =>
    cases h with
    | cons r t =>
      rw [List.reverse_cons, List.reverse_cons]
      exact Reps.append (ih t) (.cons r .nil)
theorem Reps.one {vs : List V} {d : D} (h : Reps K g vs [d]) : ∃ v, vs = [v] ∧ Rep K g v d := by
  cases h with
  | cons r t => cases t; exact ⟨_, rfl, r⟩
theorem Reps.two {vs : List V} {d e : D} (h : Reps K g vs [d, e]) : ∃ v w, vs = [v, w] ∧ Rep K g v d ∧ Rep K g w e := by
  cases h with
  | cons r t =>
    obtain ⟨w, rfl, q⟩ := Reps.one t
    exact ⟨_, w, rfl, r, q⟩
end

def ObjRep (K : PySem.W.Frag) (g : G) (H : Hp) (a : Addr) : MO → Prop
  | .lst ds => ∃ vs, H a = some (.lst vs) ∧ Reps K g vs ds
  | .dk fs => ∃ vs, H a = some (.dK vs) ∧ Reps K g (vs.map (·.2)) (fs.map (·.2)) ∧ vs.map (·.1) = fs.map (·.1)
  | .dkt fs => ∃ xs : List NE, H a = some (dnO g.w a xs) ∧ Reps K g (xs.map fun x => V.ref x.2.1) (fs.map (·.1)) ∧ Reps K g (xs.map (·.2.2)) (fs.map (·.2)) ∧ (∀ x ∈ xs, x.1.depth ≤ 8) ∧ fs.map (fun f => nkD f.1) = xs.map (fun x => some x.1)
  | .ins C fs => ∃ dx vs, H a = some (.ins (He.ga K C) dx vs) ∧ Reps K g (vs.map (·.2)) (fs.map (·.2)) ∧ vs.map (·.1) = fs.map (·.1)
/-- the heap bears the store -/
structure RelH (K : PySem.W.Frag) (g : G) (M : Store) (H : Hp) : Prop where
  frz : ∀ a o, g.F a = some o → H a = some o
  prt : ∀ a o, g.P a = some o → H a = some o ∧ g.F a = none
  len : g.io.length = M.length
  liv : ∀ (n : Nat) (o : MO), M[n]? = some (some o) → ∃ a, g.io[n]? = some a ∧ (g.F a = none ∧ g.P a = none) ∧ ObjRep K g H a o
  inj : ∀ (n m : Nat) (a : Addr) (o o' : MO), M[n]? = some (some o) → M[m]? = some (some o') → g.io[n]? = some a → g.io[m]? = some a → n = m
theorem ObjRep.mono {K : PySem.W.Frag} {g g' : G} {H H' : Hp} {a : Addr} {o : MO} (x : ObjRep K g H a o) (h : g.sub g') (e : H' a = H a) : ObjRep K g' H' a o := by
  cases o with
  | lst ds => obtain ⟨vs, q, r⟩ := x; exact ⟨vs, by rw [e]; exact q, r.gro h⟩
  | dk fs => obtain ⟨vs, q, r, z⟩ := x; exact ⟨vs, by rw [e]; exact q, r.gro h, z⟩
  | dkt fs => obtain ⟨xs, q, r, t, z⟩ := x; exact ⟨xs, by rw [e, h.w]; exact q, r.gro h, t.gro h, z⟩
  | ins C fs => obtain ⟨dx, vs, q, r, z⟩ := x; exact ⟨dx, vs, by rw [e]; exact q, r.gro h, z⟩
theorem ObjRep.there {K : PySem.W.Frag} {g : G} {H : Hp} {a : Addr} {o : MO} (x : ObjRep K g H a o) : ∃ u, H a = some u := by
  cases o with
  | lst ds => obtain ⟨vs, q, _⟩ := x; exact ⟨_, q⟩
  | dk fs => obtain ⟨vs, q, _⟩ := x; exact ⟨_, q⟩
  | dkt fs => obtain ⟨vs, q, _⟩ := x; exact ⟨_, q⟩
  | ins C fs => obtain ⟨dx, vs, q, _⟩ := x; exact ⟨_, q⟩
section
variable {K : PySem.W.Frag} {g : G} {M : Store} {H : Hp}
theorem RelH.fnone (R : RelH K g M H) {p : Addr} (h : H p = none) : g.F p = none := by
  cases q : g.F p with
  | none => rfl
  | some o => rw [R.frz _ _ q] at h; cases h
theorem RelH.pnone (R : RelH K g M H) {p : Addr} (h : H p = none) : g.P p = none := by
  cases q : g.P p with
  | none => rfl
  | some o => rw [(R.prt _ _ q).1] at h; cases h
/-- the new ground: one more thing that never changes -/
def G.add (g : G) (p : Addr) (o : HO) : G := { g with F := upd g.F p o }
theorem G.le_add {p : Addr} {o : HO} (h : g.F p = none) : g.le (g.add p o) := ⟨⟨[], by simp [G.add]⟩, fun a u q => by
  show upd g.F p o a = some u
  rw [upd_ne (ne_of_none q h)]
  exact q, rfl, rfl⟩
/-- a new object is laid that never changes -/
theorem RelH.laid (R : RelH K g M H) {p : Addr} {o : HO} (h : H p = none) : RelH K (g.add p o) M (upd H p o) := by
  have L : g.le (g.add p o) := G.le_add (R.fnone h)
  refine ⟨fun a u q => ?_, fun a u q => ?_, R.len, fun n x e => ?_, R.inj⟩
  · have q' : upd g.F p o a = some u := q
    by_cases e : a = p
    · subst e
      rw [upd_same] at q' ⊢
      exact q'
    · rw [upd_ne e] at q' ⊢
      exact R.frz _ _ q'
  · obtain ⟨q1, q2⟩ := R.prt a u q
    have ne : a ≠ p := ne_of_none q1 h
    refine ⟨by rw [upd_ne ne]; exact q1, ?_⟩
    show upd g.F p o a = none
    rw [upd_ne ne]
    exact q2
  · obtain ⟨a, e1, ⟨e2, e4⟩, e3⟩ := R.liv n x e
    obtain ⟨u, eu⟩ := e3.there
    have ne : a ≠ p := ne_of_none eu h
    refine ⟨a, e1, ⟨?_, e4⟩, e3.mono L.sub (upd_ne ne)⟩
    show upd g.F p o a = none
    rw [upd_ne ne]
    exact e2
/-- a new object that changes -/
def G.more (g : G) (p : Addr) : G := { g with io := g.io ++ [p] }
theorem G.le_more {p : Addr} : g.le (g.more p) := ⟨⟨[p], rfl⟩, fun _ _ q => q, rfl, rfl⟩
theorem getElem?_snoc {α : Type} (l : List α) (a : α) (n : Nat) (b : α) (h : (l ++ [a])[n]? = some b) : (l[n]? = some b) ∨ (n = l.length ∧ b = a) := by
  by_cases e : n < l.length
  · rw [List.getElem?_append_left e] at h
    exact .inl h
  · have e2 : n = l.length := by
      have h2 := (List.getElem?_eq_some_iff.mp h).1
      rw [List.length_append, List.length_singleton] at h2
      omega
    subst e2
    rw [List.getElem?_concat_length] at h
    exact .inr ⟨rfl, (Option.some.inj h).symm⟩
theorem RelH.made (R : RelH K g M H) {p : Addr} {u : HO} {o : MO} (h : H p = none) (x : ObjRep K (g.more p) (upd H p u) p o) : RelH K (g.more p) (M ++ [some o]) (upd H p u) := by
  have L : g.le (g.more p) := G.le_more
  refine ⟨fun a u q => ?_, fun a u q => ?_, ?_, fun n y e => ?_, fun n m a y y' e e' i i' => ?_⟩
  · rw [upd_ne (ne_of_none (R.frz _ _ q) h)]
    exact R.frz _ _ q
  · obtain ⟨q1, q2⟩ := R.prt a u q
    exact ⟨by rw [upd_ne (ne_of_none q1 h)]; exact q1, q2⟩
  · show (g.io ++ [p]).length = _
    rw [List.length_append, List.length_append, R.len]
    rfl
  · rcases getElem?_snoc _ _ _ _ e with e | ⟨rfl, e8⟩
    · obtain ⟨a, e1, e2, e3⟩ := R.liv n y e
      obtain ⟨z, ez⟩ := e3.there
      refine ⟨a, ?_, e2, e3.mono L.sub (upd_ne (ne_of_none ez h))⟩
      show (g.io ++ [p])[n]? = some a
      rw [List.getElem?_append_left (List.getElem?_eq_some_iff.mp e1).1]
      exact e1
    · have e9 : y = o := Option.some.inj e8
      subst e9
      refine ⟨p, ?_, ⟨R.fnone h, R.pnone h⟩, x⟩
      show (g.io ++ [p])[M.length]? = some p
      rw [← R.len, List.getElem?_concat_length]
  · have key : ∀ (n : Nat) (y : MO), (M ++ [some o])[n]? = some (some y) → (g.io ++ [p])[n]? = some a → (M[n]? = some (some y) ∧ g.io[n]? = some a ∧ a ≠ p) ∨ (n = M.length ∧ a = p) := by
      intro n y e i
      rcases getElem?_snoc _ _ _ _ e with e | ⟨rfl, e⟩
      · have hn : n < g.io.length := by rw [R.len]; exact (List.getElem?_eq_some_iff.mp e).1
        rw [List.getElem?_append_left hn] at i
        obtain ⟨b, e1, e2, e3⟩ := R.liv n y e
        rw [i] at e1
        cases e1
        obtain ⟨z, ez⟩ := e3.there
        exact .inl ⟨e, i, ne_of_none ez h⟩
      · rw [← R.len, List.getElem?_concat_length] at i
        exact .inr ⟨rfl, (Option.some.inj i).symm⟩
    rcases key n y e i with ⟨a1, a2, a3⟩ | ⟨a1, a2⟩
    · rcases key m y' e' i' with ⟨b1, b2, b3⟩ | ⟨b1, b2⟩
      · exact R.inj n m a y y' a1 b1 a2 b2
      · exact absurd b2 a3
    · rcases key m y' e' i' with ⟨b1, b2, b3⟩ | ⟨b1, b2⟩
      · exact absurd a2 b3
      · rw [a1, b1]
/-- what changes is changed -/
theorem RelH.put (R : RelH K g M H) {n : Nat} {p : Addr} {o o' : MO} {u : HO} (e : M[n]? = some (some o)) (ep : g.io[n]? = some p) (x : ObjRep K g (upd H p u) p o') : RelH K g (M.set n (some o')) (upd H p u) := by
  obtain ⟨p', ep', ⟨fp, pp⟩, x0⟩ := R.liv n o e
  rw [ep] at ep'
  cases ep'
  have hn : n < M.length := (List.getElem?_eq_some_iff.mp e).1
  refine ⟨fun a v q => ?_, fun a v q => ?_, by rw [List.length_set]; exact R.len, fun m y q => ?_, fun m k a y y' q q' i i' => ?_⟩
  · rw [upd_ne (ne_of_none q fp)]
    exact R.frz _ _ q
  · obtain ⟨q1, q2⟩ := R.prt a v q
    exact ⟨by rw [upd_ne (ne_of_none q pp)]; exact q1, q2⟩
  · by_cases hm : m = n
    · subst hm
      rw [List.getElem?_set_self hn] at q
      cases q
      exact ⟨p, ep, ⟨fp, pp⟩, x⟩
    · rw [List.getElem?_set_ne (Ne.symm hm)] at q
      obtain ⟨a, e1, e2, e3⟩ := R.liv m y q
      refine ⟨a, e1, e2, e3.mono (G.sub.refl g) (upd_ne fun z => ?_)⟩
      subst z
      exact hm (R.inj m n a y o q e e1 ep)
  · have key : ∀ (m : Nat) (y : MO), (M.set n (some o'))[m]? = some (some y) → ∃ z, M[m]? = some (some z) := by
      intro m y q
      by_cases hm : m = n
      · subst hm; exact ⟨o, e⟩
      · rw [List.getElem?_set_ne (Ne.symm hm)] at q
        exact ⟨y, q⟩
    obtain ⟨z, hz⟩ := key m y q
    obtain ⟨z', hz'⟩ := key k y' q'
    exact R.inj m k a z z' hz hz' i i'
/-- what changed is changed no more -/
theorem RelH.freeze (R : RelH K g M H) {n : Nat} {p : Addr} {o : MO} {u : HO} (e : M[n]? = some (some o)) (ep : g.io[n]? = some p) (hu : H p = some u) :
    g.le (g.add p u) ∧ RelH K (g.add p u) (M.set n none) H := by
  obtain ⟨p', ep', ⟨fp, pp⟩, x0⟩ := R.liv n o e
  rw [ep] at ep'
  cases ep'
  have L : g.le (g.add p u) := G.le_add fp
  have key : ∀ (m : Nat) (y : MO), (M.set n none)[m]? = some (some y) → m ≠ n ∧ M[m]? = some (some y) := by
    intro m y q
    by_cases hm : m = n
    · subst hm
      rw [List.getElem?_set_self (List.getElem?_eq_some_iff.mp e).1] at q
      cases q
    · rw [List.getElem?_set_ne (Ne.symm hm)] at q
      exact ⟨hm, q⟩
  refine ⟨L, fun a v q => ?_, fun a v q => ?_, by rw [List.length_set]; exact R.len, fun m y q => ?_, fun m k a y y' q q' i i' => R.inj m k a y y' (key m y q).2 (key k y' q').2 i i'⟩
  · have q' : upd g.F p u a = some v := q
    by_cases z : a = p
    · subst z
      rw [upd_same] at q'
      cases q'
      exact hu
    · rw [upd_ne z] at q'
      exact R.frz _ _ q'
  · obtain ⟨q1, q2⟩ := R.prt a v q
    refine ⟨q1, ?_⟩
    show upd g.F p u a = none
    rw [upd_ne (ne_of_none q pp)]
    exact q2
  · obtain ⟨hm, q⟩ := key m y q
    obtain ⟨a, e1, ⟨e2, e4⟩, e3⟩ := R.liv m y q
    refine ⟨a, e1, ⟨?_, e4⟩, e3.mono L.sub rfl⟩
    show upd g.F p u a = none
    rw [upd_ne fun z => ?_]
    · exact e2
    · subst z
      exact hm (R.inj m n a y o q e e1 ep)
/-- something is built at p -/
def G.bld (g : G) (p : Addr) (o : HO) : G := { g with P := upd g.P p o }
/-- .. is built no more -/
def G.unb (g : G) (P0 : Hp) (p : Addr) (o : HO) : G := { io := g.io, F := upd g.F p o, P := P0, w := g.w }
theorem RelH.build (R : RelH K g M H) {p : Addr} {o : HO} (h : H p = none) : RelH K (g.bld p o) M (upd H p o) := by
  refine ⟨fun a u q => ?_, fun a u q => ?_, R.len, fun n x e => ?_, R.inj⟩
  · rw [upd_ne (ne_of_none (R.frz _ _ q) h)]
    exact R.frz _ _ q
  · have q' : upd g.P p o a = some u := q
    by_cases e : a = p
    · subst e
      rw [upd_same] at q' ⊢
      exact ⟨q', R.fnone h⟩
    · rw [upd_ne e] at q' ⊢
      exact R.prt _ _ q'
  · obtain ⟨a, e1, ⟨e2, e4⟩, e3⟩ := R.liv n x e
    obtain ⟨u, eu⟩ := e3.there
    have ne : a ≠ p := ne_of_none eu h
    refine ⟨a, e1, ⟨e2, ?_⟩, e3.mono ⟨⟨[], by simp [G.bld]⟩, fun _ _ q => q, rfl⟩ (upd_ne ne)⟩
    show upd g.P p o a = none
    rw [upd_ne ne]
    exact e4
/-- one step more is built -/
theorem RelH.rebuild (R : RelH K g M H) {p : Addr} {o u : HO} (hp : g.P p = some u) : RelH K (g.bld p o) M (upd H p o) := by
  have fp := (R.prt _ _ hp).2
  refine ⟨fun a u q => ?_, fun a u q => ?_, R.len, fun n x e => ?_, R.inj⟩
  · rw [upd_ne (ne_of_none q fp)]
    exact R.frz _ _ q
  · have q' : upd g.P p o a = some u := q
    by_cases e : a = p
    · subst e
      rw [upd_same] at q' ⊢
      exact ⟨q', fp⟩
    · rw [upd_ne e] at q' ⊢
      exact R.prt _ _ q'
  · obtain ⟨a, e1, ⟨e2, e4⟩, e3⟩ := R.liv n x e
    have ne : a ≠ p := (ne_of_none hp e4).symm
    refine ⟨a, e1, ⟨e2, ?_⟩, e3.mono ⟨⟨[], by simp [G.bld]⟩, fun _ _ q => q, rfl⟩ (upd_ne ne)⟩
    show upd g.P p o a = none
    rw [upd_ne ne]
    exact e4
/-- it is whole: it never changes any more -/
theorem RelH.built (R : RelH K g M H) {p : Addr} {o : HO} {P0 : Hp} (hp : g.P p = some o) (h0 : P0 p = none) (he : ∀ a, a ≠ p → P0 a = g.P a) : RelH K (g.unb P0 p o) M H := by
  obtain ⟨hH, fp⟩ := R.prt _ _ hp
  refine ⟨fun a u q => ?_, fun a u q => ?_, R.len, fun n x e => ?_, R.inj⟩
  · have q' : upd g.F p o a = some u := q
    by_cases e : a = p
    · subst e
      rw [upd_same] at q'
      cases q'
      exact hH
    · rw [upd_ne e] at q'
      exact R.frz _ _ q'
  · have q' : P0 a = some u := q
    have ne : a ≠ p := ne_of_none q' h0
    rw [he a ne] at q'
    obtain ⟨q1, q2⟩ := R.prt a u q'
    refine ⟨q1, ?_⟩
    show upd g.F p o a = none
    rw [upd_ne ne]
    exact q2
  · obtain ⟨a, e1, ⟨e2, e4⟩, e3⟩ := R.liv n x e
    have ne : a ≠ p := (ne_of_none hp e4).symm
    refine ⟨a, e1, ⟨?_, ?_⟩, e3.mono ⟨⟨[], by simp [G.unb]⟩, fun b v q => ?_, rfl⟩ rfl⟩
    · show upd g.F p o a = none
      rw [upd_ne ne]
      exact e2
    · show P0 a = none
      rw [he a ne]
      exact e4
    · show upd g.F p o b = some v
      rw [upd_ne (ne_of_none q fp)]
      exact q
/-- it is whole: it changes from now on by its location -/
def G.unbL (g : G) (P0 : Hp) (p : Addr) : G := { io := g.io ++ [p], F := g.F, P := P0, w := g.w }
theorem RelH.builtL (R : RelH K g M H) {p : Addr} {u : HO} {o : MO} {P0 : Hp} (hp : g.P p = some u) (h0 : P0 p = none) (he : ∀ a, a ≠ p → P0 a = g.P a) (x : ObjRep K g H p o) : RelH K (g.unbL P0 p) (M ++ [some o]) H := by
  obtain ⟨hH, fp⟩ := R.prt _ _ hp
  have S : g.sub (g.unbL P0 p) := ⟨⟨[p], rfl⟩, fun _ _ q => q, rfl⟩
  refine ⟨R.frz, fun a u q => ?_, ?_, fun n y e => ?_, fun n m a y y' e e' i i' => ?_⟩
  · have q' : P0 a = some u := q
    have ne : a ≠ p := ne_of_none q' h0
    rw [he a ne] at q'
    exact R.prt a u q'
  · show (g.io ++ [p]).length = _
    rw [List.length_append, List.length_append, R.len]
    rfl
  · rcases getElem?_snoc _ _ _ _ e with e | ⟨rfl, e8⟩
    · obtain ⟨a, e1, ⟨e2, e4⟩, e3⟩ := R.liv n y e
      have ne : a ≠ p := (ne_of_none hp e4).symm
      refine ⟨a, ?_, ⟨e2, ?_⟩, e3.mono S rfl⟩
      · show (g.io ++ [p])[n]? = some a
        rw [List.getElem?_append_left (List.getElem?_eq_some_iff.mp e1).1]
        exact e1
      · show P0 a = none
        rw [he a ne]
        exact e4
    · have e9 : y = o := Option.some.inj e8
      subst e9
      refine ⟨p, ?_, ⟨fp, h0⟩, x.mono S rfl⟩
      show (g.io ++ [p])[M.length]? = some p
      rw [← R.len, List.getElem?_concat_length]
  · have key : ∀ (n : Nat) (y : MO), (M ++ [some o])[n]? = some (some y) → (g.io ++ [p])[n]? = some a → (M[n]? = some (some y) ∧ g.io[n]? = some a ∧ a ≠ p) ∨ (n = M.length ∧ a = p) := by
      intro n y e i
      rcases getElem?_snoc _ _ _ _ e with e | ⟨rfl, e⟩
      · have hn : n < g.io.length := by rw [R.len]; exact (List.getElem?_eq_some_iff.mp e).1
        rw [List.getElem?_append_left hn] at i
        obtain ⟨b, e1, ⟨e2, e4⟩, e3⟩ := R.liv n y e
        rw [i] at e1
        cases e1
        exact .inl ⟨e, i, (ne_of_none hp e4).symm⟩
      · rw [← R.len, List.getElem?_concat_length] at i
        exact .inr ⟨rfl, (Option.some.inj i).symm⟩
    rcases key n y e i with ⟨a1, a2, a3⟩ | ⟨a1, a2⟩
    · rcases key m y' e' i' with ⟨b1, b2, b3⟩ | ⟨b1, b2⟩
      · exact R.inj n m a y y' a1 b1 a2 b2
      · exact absurd b2 a3
    · rcases key m y' e' i' with ⟨b1, b2, b3⟩ | ⟨b1, b2⟩
      · exact absurd a2 b3
      · rw [a1, b1]
end

/-! ### names -/
abbrev DEnv := List (Option D)
structure RelE (K : PySem.W.Frag) (g : G) (σ : St) (ρ : DEnv) : Prop where
  len : σ.length = ρ.length
  at_ : ∀ (i : Nat) (d : D), ρ[i]? = some (some d) → ∃ v, σ[i]? = some (some v) ∧ Rep K g v d
theorem RelE.gro {K : PySem.W.Frag} {g g' : G} {σ : St} {ρ : DEnv} (x : RelE K g σ ρ) (h : g.sub g') : RelE K g' σ ρ :=
  ⟨x.len, fun i d e => let ⟨v, q, r⟩ := x.at_ i d e; ⟨v, q, r.gro h⟩⟩
theorem RelE.mono {K : PySem.W.Frag} {g g' : G} {σ : St} {ρ : DEnv} (x : RelE K g σ ρ) (h : g.le g') : RelE K g' σ ρ := x.gro h.sub
theorem RelE.set {K : PySem.W.Frag} {g : G} {σ : St} {ρ : DEnv} (x : RelE K g σ ρ) (i : Nat) {v : V} {d : D} (r : Rep K g v d) : RelE K g (σ.set i (some v)) (ρ.set i (some d)) := by
  refine ⟨by rw [List.length_set, List.length_set]; exact x.len, fun j e q => ?_⟩
  by_cases h : j = i
  · subst h
    have hl : j < ρ.length := by
      have := (List.getElem?_eq_some_iff.mp q).1
      rwa [List.length_set] at this
    rw [List.getElem?_set_self hl] at q
    cases q
    exact ⟨v, List.getElem?_set_self (by rw [x.len]; exact hl), r⟩
  · rw [List.getElem?_set_ne (Ne.symm h)] at q ⊢
    exact x.at_ j e q
def wipeD (ρ : DEnv) : List Nat → DEnv
  | [] => ρ
  | i :: r => (wipeD ρ r).set i none
theorem RelE.wipe {K : PySem.W.Frag} {g : G} {σ : St} {ρ : DEnv} (x : RelE K g σ ρ) : ∀ l : List Nat, RelE K g (L2.wipe σ l) (wipeD ρ l)
  | [] => x
  | n :: l => by
    have y := RelE.wipe x l
    show RelE K g ((L2.wipe σ l).set n none) ((wipeD ρ l).set n none)
    refine ⟨by rw [List.length_set, List.length_set]; exact y.len, fun j e q => ?_⟩
    by_cases h : j = n
    · subst h
      have hl : j < (wipeD ρ l).length := by
        have := (List.getElem?_eq_some_iff.mp q).1
        rwa [List.length_set] at this
      rw [List.getElem?_set_self hl] at q
      cases q
    · rw [List.getElem?_set_ne (Ne.symm h)] at q ⊢
      exact y.at_ j e q
theorem wipe_getD (ρ : DEnv) : ∀ l : List Nat, (wipeD ρ l).length = ρ.length
  | [] => rfl
  | n :: l => by
    show ((wipeD ρ l).set n none).length = _
    rw [List.length_set]
    exact wipe_getD ρ l
theorem wipe_at (σ : St) (j : Nat) : ∀ l : List Nat, (L2.wipe σ l)[j]? = if j ∈ l then (σ[j]?).map (fun _ => none) else σ[j]?
  | [] => by simp [L2.wipe]
  | n :: l => by
    have ih := wipe_at σ j l
    show ((L2.wipe σ l).set n none)[j]? = _
    by_cases h : n = j
    · subst h
      rw [if_pos (List.mem_cons_self ..)]
      by_cases hl : n < σ.length
      · rw [List.getElem?_set_self (by rw [wipe_length]; exact hl), List.getElem?_eq_getElem hl]
        rfl
      · rw [List.getElem?_eq_none (by rw [List.length_set, wipe_length]; omega), List.getElem?_eq_none (by omega)]
        rfl
    · rw [List.getElem?_set_ne h, ih]
      by_cases hm : j ∈ l
      · rw [if_pos hm, if_pos (List.mem_cons_of_mem _ hm)]
      · rw [if_neg hm, if_neg (fun z => (List.mem_cons.mp z).elim (fun e => h e.symm) hm)]
theorem wipe_set {σ : St} {i : Nat} {x : Option V} {l : List Nat} (h : i ∈ l) : L2.wipe (σ.set i x) l = L2.wipe σ l := by
  refine List.ext_getElem? fun j => ?_
  rw [wipe_at, wipe_at]
  by_cases hj : j ∈ l
  · rw [if_pos hj, if_pos hj]
    by_cases e : i = j
    · subst e
      by_cases hl : i < σ.length
      · rw [List.getElem?_set_self hl, List.getElem?_eq_getElem hl]; rfl
      · rw [List.getElem?_eq_none (by rw [List.length_set]; omega), List.getElem?_eq_none (by omega)]
    · rw [List.getElem?_set_ne e]
  · rw [if_neg hj, if_neg hj, List.getElem?_set_ne (fun e : i = j => hj (e ▸ h))]
theorem RelE.start {K : PySem.W.Frag} {g : G} {N : List Str} {vs : List V} {ds : List D} (r : Reps K g vs ds) : RelE K g (start N vs) (ds.map some ++ List.replicate (N.length - ds.length) none) := by
  have hl := r.length
  refine ⟨by unfold L2.start; simp [hl], fun i d e => ?_⟩
  have hi : i < ds.length := by
    by_cases hi : i < ds.length
    · exact hi
    · rw [List.getElem?_append_right (by simpa using hi), List.getElem?_replicate] at e
      split at e <;> cases e
  rw [List.getElem?_append_left (by simpa using hi), List.getElem?_map] at e
  cases q : ds[i]? with
  | none => rw [q] at e; cases e
  | some d' =>
    rw [q] at e
    cases e
    obtain ⟨v, h1, h2⟩ := r.get q
    refine ⟨v, ?_, h2⟩
    unfold L2.start
    rw [List.getElem?_append_left (by rw [List.length_map, hl]; exact hi), List.getElem?_map, h1]
    rfl
end L3
set_option Elab.async false
set_option linter.all false
set_option maxRecDepth 100000
set_option autoImplicit false
namespace L3
open PySem PySem.Spec L2
open PyProof.Rows hiding St

/-- where one stands: the context of the layer below, the ground at the entry, what is wanted of an exception -/
structure DX where
  X : Cx
  B : G
  W : Exn → DEnv → Store → Prop
  pw : B.w = X.w
abbrev DX.K (C : DX) : PySem.W.Frag := C.X.K

structure Rl (C : DX) (g : G) (ρ : DEnv) (M : Store) (σ : St) (H : Hp) : Prop where
  b : C.B.le g
  h : RelH C.X.K g M H
  e : RelE C.X.K g σ ρ
theorem Rl.w {C : DX} {g : G} {ρ : DEnv} {M : Store} {σ : St} {H : Hp} (R : Rl C g ρ M σ H) : g.w = C.X.w := R.b.w.trans C.pw
theorem Rl.next {C : DX} {g g' : G} {ρ : DEnv} {M M' : Store} {σ : St} {H H' : Hp} (R : Rl C g ρ M σ H) (l : g.le g') (h : RelH C.X.K g' M' H') : Rl C g' ρ M' σ H' := ⟨R.b.trans l, h, R.e.mono l⟩

/-- what is wanted of values -/
def QV (C : DX) (g : G) (ρ : DEnv) (σ : St) (Q : VK) : D → Store → Prop := fun d M' => ∀ v H' g', g.le g' → Rl C g' ρ M' σ H' → Rep C.X.K g' v d → Q v H'
def QT (C : DX) (g : G) (ρ : DEnv) (σ : St) (Q : Bool → Hp → Prop) : Bool → Store → Prop := fun d M' => ∀ H' g', g.le g' → Rl C g' ρ M' σ H' → Q d H'
def QA (C : DX) (g : G) (ρ : DEnv) (σ : St) (Q : List V → Hp → Prop) : List D → Store → Prop := fun ds M' => ∀ vs H' g', g.le g' → Rl C g' ρ M' σ H' → Reps C.X.K g' vs ds → Q vs H'
abbrev DX.We (C : DX) (ρ : DEnv) : Exn → Store → Prop := fun e M => C.W e ρ M

def WPE (X : Cx) (e : Expr) (σ : St) (H : Hp) (Q : VK) : Prop := ∀ (pins : List (Addr × Obj)) (s : Shared), Inv X pins σ H s → wpAny (model X.prog X.w) X.A (eval e X.env) (EP X pins σ Q) X.xe s
def WPT (X : Cx) (e : Expr) (σ : St) (H : Hp) (Q : Bool → Hp → Prop) : Prop := ∀ (pins : List (Addr × Obj)) (s : Shared), Inv X pins σ H s → wpAny (model X.prog X.w) X.A (isTrue e X.env (eval e X.env)) (TP X pins σ Q) X.xe s
def WPW (X : Cx) (e : Expr) (σ : St) (H : Hp) (Q : Bool → Hp → Prop) : Prop := ∀ (whole : Sem Value) (pins : List (Addr × Obj)) (s : Shared), Inv X pins σ H s → wpAny (model X.prog X.w) X.A (isTrue e X.env whole) (TP X pins σ Q) X.xe s
def WPA (X : Cx) (es : List Expr) (σ : St) (H : Hp) (Q : List V → Hp → Prop) : Prop := ∀ (pos : Pos) (pins : List (Addr × Obj)) (s : Shared), Inv X pins σ H s → wpAny (model X.prog X.w) X.A (spliced (backTo pos (starEach es X.env))) (AP X pins σ Q) X.xe s
def WPS (X : Cx) (st : Stmt) (D : Ends) (σ : St) (H : Hp) : Prop := ∀ (pins : List (Addr × Obj)) (s : Shared), Inv X pins σ H s → wpAny (model X.prog X.w) X.A (exec st X.env) (SP X pins D) X.xe s
def WPSs (X : Cx) (st : List Stmt) (D : Ends) (σ : St) (H : Hp) : Prop := ∀ (pins : List (Addr × Obj)) (s : Shared), Inv X pins σ H s → wpAny (model X.prog X.w) X.A (execs st X.env) (SP X pins D) X.xe s
section
variable {X : Cx} {e : Expr} {es : List Expr} {st : Stmt} {sts : List Stmt} {σ : St} {H : Hp}
theorem self_e : PE X e (WPE X e) := ⟨fun pins s _ _ _ I h => h pins s I⟩
theorem self_t : PT X e (WPT X e) := ⟨fun pins s _ _ _ I h => h pins s I⟩
theorem self_w : PW X e (WPW X e) := ⟨fun wh pins s _ _ _ I h => h wh pins s I⟩
theorem self_a : PA X es (WPA X es) := ⟨fun pos pins s _ _ _ I h => h pos pins s I⟩
theorem self_s : PS X st (fun D σ H => WPS X st D σ H) := ⟨fun pins s _ _ _ I h => h pins s I⟩
theorem self_ss : PSs X sts (fun D σ H => WPSs X sts D σ H) := ⟨fun pins s _ _ _ I h => h pins s I⟩
theorem wpe {t : TE} (p : PE X e t) {Q : VK} (h : t σ H Q) : WPE X e σ H Q := fun pins s I => p.run pins s σ H Q I h
theorem wpt {t : TT} (p : PT X e t) {Q : Bool → Hp → Prop} (h : t σ H Q) : WPT X e σ H Q := fun pins s I => p.run pins s σ H Q I h
theorem wpw {t : TT} (p : PW X e t) {Q : Bool → Hp → Prop} (h : t σ H Q) : WPW X e σ H Q := fun wh pins s I => p.run wh pins s σ H Q I h
theorem wpa {t : TA} (p : PA X es t) {Q : List V → Hp → Prop} (h : t σ H Q) : WPA X es σ H Q := fun pos pins s I => p.run pos pins s σ H Q I h
theorem wps {t : TS} (p : PS X st t) {D : Ends} (h : t D σ H) : WPS X st D σ H := fun pins s I => p.run pins s σ H D I h
theorem wpss {t : TS} (p : PSs X sts t) {D : Ends} (h : t D σ H) : WPSs X sts D σ H := fun pins s I => p.run pins s σ H D I h
end

/-- an expression's meaning; a test's; an argument list's -/
structure DE (C : DX) (e : Expr) (f : DEnv → Py D) : Prop where
  run : ∀ {g : G} {ρ : DEnv} {M : Store} {σ : St} {H : Hp} (Q : VK), Rl C g ρ M σ H → Post (f ρ M) (QV C g ρ σ Q) (C.We ρ) → WPE C.X e σ H Q
structure DT (C : DX) (e : Expr) (f : DEnv → Py Bool) : Prop where
  run : ∀ {g : G} {ρ : DEnv} {M : Store} {σ : St} {H : Hp} (Q : Bool → Hp → Prop), Rl C g ρ M σ H → Post (f ρ M) (QT C g ρ σ Q) (C.We ρ) → WPT C.X e σ H Q
structure DW (C : DX) (e : Expr) (f : DEnv → Py Bool) : Prop where
  run : ∀ {g : G} {ρ : DEnv} {M : Store} {σ : St} {H : Hp} (Q : Bool → Hp → Prop), Rl C g ρ M σ H → Post (f ρ M) (QT C g ρ σ Q) (C.We ρ) → WPW C.X e σ H Q
structure DA (C : DX) (es : List Expr) (f : DEnv → Py (List D)) : Prop where
  run : ∀ {g : G} {ρ : DEnv} {M : Store} {σ : St} {H : Hp} (Q : List V → Hp → Prop), Rl C g ρ M σ H → Post (f ρ M) (QA C g ρ σ Q) (C.We ρ) → WPA C.X es σ H Q
/-- how a statement ends -/
inductive Fl where
  | nx (ρ : DEnv) | bk (ρ : DEnv) | ct (ρ : DEnv) | rt (d : D)
def QS (C : DX) (g : G) (E : Ends) : Fl → Store → Prop
  | .nx ρ', M' => ∀ σ' H' g', g.le g' → Rl C g' ρ' M' σ' H' → E.nx σ' H'
  | .bk ρ', M' => ∀ σ' H' g', g.le g' → Rl C g' ρ' M' σ' H' → E.bk σ' H'
  | .ct ρ', M' => ∀ σ' H' g', g.le g' → Rl C g' ρ' M' σ' H' → E.ct σ' H'
  | .rt d, M' => ∀ v H' g', g.le g' → C.B.le g' → RelH C.X.K g' M' H' → Rep C.X.K g' v d → E.rt v H'
/-- a wish about exceptions that does not lean on the names -/
def DX.Even (C : DX) : Prop := ∀ e ρ ρ' M, C.W e ρ M → C.W e ρ' M
structure DS (C : DX) (st : Stmt) (f : DEnv → Py Fl) : Prop where
  run : ∀ {g : G} {ρ : DEnv} {M : Store} {σ : St} {H : Hp} (E : Ends), Rl C g ρ M σ H → Post (f ρ M) (QS C g E) (C.We ρ) → WPS C.X st E σ H
structure DSs (C : DX) (st : List Stmt) (f : DEnv → Py Fl) : Prop where
  run : ∀ {g : G} {ρ : DEnv} {M : Store} {σ : St} {H : Hp} (E : Ends), Rl C g ρ M σ H → Post (f ρ M) (QS C g E) (C.We ρ) → WPSs C.X st E σ H
/-- a binary operation, by values -/
def DOp (C : DX) (f : Value → Value → Sem Value) (op : D → D → Py D) : Prop :=
  ∀ {g : G} {ρ : DEnv} {M : Store} {σ : St} {H : Hp} {x y : V} {dx dy : D} {v u : Value} {pins : List (Addr × Obj)} {s : Shared} (Q : VK), Rl C g ρ M σ H → Inv C.X pins σ H s → RelV x v → RelV y u → Rep C.X.K g x dx → Rep C.X.K g y dy →
    Post (op dx dy M) (QV C g ρ σ Q) (C.We ρ) → wpAny (model C.X.prog C.X.w) C.X.A (f v u) (EP C.X pins σ Q) C.X.xe s
def DUn (C : DX) (f : Value → Sem Value) (op : D → Py D) : Prop :=
  ∀ {g : G} {ρ : DEnv} {M : Store} {σ : St} {H : Hp} {x : V} {dx : D} {v : Value} {pins : List (Addr × Obj)} {s : Shared} (Q : VK), Rl C g ρ M σ H → Inv C.X pins σ H s → RelV x v → Rep C.X.K g x dx →
    Post (op dx M) (QV C g ρ σ Q) (C.We ρ) → wpAny (model C.X.prog C.X.w) C.X.A (f v) (EP C.X pins σ Q) C.X.xe s
/-- a call of the value f, by values -/
def DCall (C : DX) (f : Value) (op : List D → Py D) : Prop :=
  ∀ {g : G} {ρ : DEnv} {M : Store} {σ : St} {H : Hp} {xs : List V} {ds : List D} {us : List Value} {pins : List (Addr × Obj)} {s : Shared} (Q : VK), Rl C g ρ M σ H → Inv C.X pins σ H s → Vals xs us → Reps C.X.K g xs ds →
    Post (op ds M) (QV C g ρ σ Q) (C.We ρ) → wpAny (model C.X.prog C.X.w) C.X.A (call f us) (EP C.X pins σ Q) C.X.xe s
/-- such an operation, by what the layer below asks -/
theorem DOp.of {C : DX} {f : Value → Value → Sem Value} {r : R2} {op : D → D → Py D} (ho : OpR C.X f r)
    (h : ∀ {g : G} {ρ : DEnv} {M : Store} {σ : St} {H : Hp} {x y : V} {dx dy : D} (Q : VK), Rl C g ρ M σ H → Rep C.X.K g x dx → Rep C.X.K g y dy → Post (op dx dy M) (QV C g ρ σ Q) (C.We ρ) → r x y H Q) : DOp C f op := by
  intro g ρ M σ H x y dx dy v u pins s Q R I rx ry dx' dy' p
  exact ho pins s σ H x y v u Q I rx ry (h Q R dx' dy' p)
theorem DUn.of {C : DX} {f : Value → Sem Value} {r : V → Hp → VK → Prop} {op : D → Py D} (ho : UnR C.X f r)
    (h : ∀ {g : G} {ρ : DEnv} {M : Store} {σ : St} {H : Hp} {x : V} {dx : D} (Q : VK), Rl C g ρ M σ H → Rep C.X.K g x dx → Post (op dx M) (QV C g ρ σ Q) (C.We ρ) → r x H Q) : DUn C f op := by
  intro g ρ M σ H x dx v pins s Q R I rx dx' p
  exact ho pins s σ H x v Q I rx (h Q R dx' p)
theorem DCall.of {C : DX} {f : Value} {r : List V → Hp → VK → Prop} {op : List D → Py D} (ho : CallR C.X f r)
    (h : ∀ {g : G} {ρ : DEnv} {M : Store} {σ : St} {H : Hp} {xs : List V} {ds : List D} (Q : VK), Rl C g ρ M σ H → Reps C.X.K g xs ds → Post (op ds M) (QV C g ρ σ Q) (C.We ρ) → r xs H Q) : DCall C f op := by
  intro g ρ M σ H xs ds us pins s Q R I rx dx' p
  exact ho pins s σ H xs us Q I rx (h Q R dx' p)

theorem QV.here {C : DX} {g : G} {ρ : DEnv} {σ : St} {Q : VK} {d : D} {M : Store} {H : Hp} {v : V} (h : QV C g ρ σ Q d M) (R : Rl C g ρ M σ H) (r : Rep C.X.K g v d) : Q v H := h v H g (G.le.refl g) R r
/-- a later ground -/
theorem QV.later {C : DX} {g g' : G} {ρ : DEnv} {σ : St} {Q : VK} {d : D} {M : Store} (h : QV C g ρ σ Q d M) (l : g.le g') : QV C g' ρ σ Q d M := fun v H' g'' l' => h v H' g'' (l.trans l')
theorem QT.later {C : DX} {g g' : G} {ρ : DEnv} {σ : St} {Q : Bool → Hp → Prop} {d : Bool} {M : Store} (h : QT C g ρ σ Q d M) (l : g.le g') : QT C g' ρ σ Q d M := fun H' g'' l' => h H' g'' (l.trans l')
theorem QA.later {C : DX} {g g' : G} {ρ : DEnv} {σ : St} {Q : List V → Hp → Prop} {d : List D} {M : Store} (h : QA C g ρ σ Q d M) (l : g.le g') : QA C g' ρ σ Q d M := fun v H' g'' l' => h v H' g'' (l.trans l')
theorem QS.later {C : DX} {g g' : G} {E : Ends} {d : Fl} {M : Store} (h : QS C g E d M) (l : g.le g') : QS C g' E d M := by
  cases d with
  | nx ρ => exact fun σ' H' g'' l' => h σ' H' g'' (l.trans l')
  | bk ρ => exact fun σ' H' g'' l' => h σ' H' g'' (l.trans l')
  | ct ρ => exact fun σ' H' g'' l' => h σ' H' g'' (l.trans l')
  | rt d => exact fun σ' H' g'' l' => h σ' H' g'' (l.trans l')

section
variable {C : DX} {e a b : Expr} {es rest : List Expr} {f fa fb : DEnv → Py D} {ff : DEnv → Py (List D)} {pos : Pos}
/-- run a part, then go on from what it gives -/
theorem DE.then_ (h : DE C e f) {g : G} {ρ : DEnv} {M : Store} {σ : St} {H : Hp} {α : Type} {k : D → Py α} {q : α → Store → Prop} {Q : VK} (R : Rl C g ρ M σ H) (p : Post (Py.bnd (f ρ) k M) q (C.We ρ))
    (go : ∀ (v : V) (d : D) (M' : Store) (H' : Hp) (g' : G), g.le g' → Rl C g' ρ M' σ H' → Rep C.X.K g' v d → Post (k d M') q (C.We ρ) → Q v H') : WPE C.X e σ H Q :=
  h.run Q R ((post_bnd.mp p).imp fun d M' p' v H' g' l R' r => go v d M' H' g' l R' r p')
theorem DT.then_ {f : DEnv → Py Bool} (h : DT C e f) {g : G} {ρ : DEnv} {M : Store} {σ : St} {H : Hp} {α : Type} {k : Bool → Py α} {q : α → Store → Prop} {Q : Bool → Hp → Prop} (R : Rl C g ρ M σ H) (p : Post (Py.bnd (f ρ) k M) q (C.We ρ))
    (go : ∀ (c : Bool) (M' : Store) (H' : Hp) (g' : G), g.le g' → Rl C g' ρ M' σ H' → Post (k c M') q (C.We ρ) → Q c H') : WPT C.X e σ H Q :=
  h.run Q R ((post_bnd.mp p).imp fun d M' p' H' g' l R' => go d M' H' g' l R' p')
theorem DA.then_ (h : DA C es ff) {g : G} {ρ : DEnv} {M : Store} {σ : St} {H : Hp} {α : Type} {k : List D → Py α} {q : α → Store → Prop} {Q : List V → Hp → Prop} (R : Rl C g ρ M σ H) (p : Post (Py.bnd (ff ρ) k M) q (C.We ρ))
    (go : ∀ (vs : List V) (ds : List D) (M' : Store) (H' : Hp) (g' : G), g.le g' → Rl C g' ρ M' σ H' → Reps C.X.K g' vs ds → Post (k ds M') q (C.We ρ) → Q vs H') : WPA C.X es σ H Q :=
  h.run Q R ((post_bnd.mp p).imp fun d M' p' v H' g' l R' r => go v d M' H' g' l R' r p')

/-! ### names, constants -/
def getV (o : Option (Option D)) : Py D := match o with
  | some (some d) => Py.ret d
  | _ => Py.bad
def eVar (i : Nat) : DEnv → Py D := fun ρ => getV ρ[i]?
def eC (d : D) : DEnv → Py D := fun _ => Py.ret d
theorem de_var {i : Nat} {x : Str} (hN : C.X.N[i]? = some x := by rfl) (hv : Vis C.X.env.scope x := by first | exact Or.inl rfl | exact Or.inr (Or.inl rfl) | exact Or.inr (Or.inr rfl)) (hd : (x == ("__debug__" : Str)) = false := by decide)
    (hcd : (x == ("__classdict__" : Str)) = false := by decide) : DE C (.Name x pos) (eVar i) := ⟨fun {g ρ M σ H} Q R p => by
  refine wpe (pe_var hN hv hd hcd) ?_
  have p' : Post (getV ρ[i]? M) (QV C g ρ σ Q) (C.We ρ) := p
  cases e : ρ[i]? with
  | none => rw [e] at p'; exact p'.elim
  | some o =>
    cases o with
    | none => rw [e] at p'; exact p'.elim
    | some d =>
      rw [e] at p'
      obtain ⟨v, q, r⟩ := R.e.at_ i d e
      exact ⟨v, q, QV.here p' R r⟩⟩
theorem de_pe {d : D} {v : V} (h : PE C.X e (tC v)) (r : ∀ g, Rep C.X.K g v d) : DE C e (eC d) := ⟨fun {g ρ M σ H} Q R p => wpe h (show Q v H from QV.here p R (r g))⟩
theorem de_int {i : Int} {j : Nat} : DE C (.Constant (.int i) j pos) (eC (.int i)) := de_pe pe_int fun _ => .int i
theorem de_bl {i : Bool} {j : Nat} : DE C (.Constant (.bool i) j pos) (eC (.bl i)) := de_pe pe_bl fun _ => .bl i
theorem de_non {j : Nat} : DE C (.Constant .none j pos) (eC .non) := de_pe pe_non fun _ => .non
theorem de_str {i : Str} {j : Nat} : DE C (.Constant (.str i) j pos) (eC (.str i)) := de_pe pe_str fun _ => .str i
/-- a module's constant -/
theorem de_gint {x : Str} {i : Int} {t : Tok} (hm : C.X.mg x = some (.int i t)) (hg : Gl C.X x := by rfl) (hd : (x == ("__debug__" : Str)) = false := by decide) : DE C (.Name x pos) (eC (.int i)) :=
  de_pe (pe_glob hg hm (show RelV (.int i) _ from ⟨t, rfl⟩) hd) fun _ => .int i
theorem de_gstr {x : Str} {i : Str} {t : Tok} (hm : C.X.mg x = some (.str i t)) (hg : Gl C.X x := by rfl) (hd : (x == ("__debug__" : Str)) = false := by decide) : DE C (.Name x pos) (eC (.str i)) :=
  de_pe (pe_glob hg hm (show RelV (.str i) _ from ⟨t, rfl⟩) hd) fun _ => .str i
theorem de_gref {x : Str} {i : Addr} (hm : C.X.mg x = some (.ref i)) (hg : Gl C.X x := by rfl) (hd : (x == ("__debug__" : Str)) = false := by decide) : DE C (.Name x pos) (eC (.ref i)) :=
  de_pe (pe_glob hg hm (show RelV (.ref i) _ from rfl) hd) fun _ => .ref i
/-- a built-in type -/
theorem de_ty {x : Str} {T : String} (hm : C.X.mg x = none) (hv : bootBuiltins x = some (.type T)) (hg : Gl C.X x := by rfl) (hn : x ≠ "__name__" := by decide) (hd : (x == ("__debug__" : Str)) = false := by decide) : DE C (.Name x pos) (eC (.ty T)) :=
  de_pe (pe_bltn hg hm hv (show RelV (.ty T) _ from rfl) hn hd) fun _ => .ty T

/-! ### operators -/
def eOp (op : D → D → Py D) (fa fb : DEnv → Py D) : DEnv → Py D := fun ρ => Py.bnd (fa ρ) fun x => Py.bnd (fb ρ) fun y => op x y
def eUn (op : D → Py D) (fa : DEnv → Py D) : DEnv → Py D := fun ρ => Py.bnd (fa ρ) fun x => op x
/-- two expressions in a row -/
theorem two {op : D → D → Py D} {fv : Value → Value → Sem Value} (ho : DOp C fv op) (ha : DE C a fa) (hb : DE C b fb) {g : G} {ρ : DEnv} {M : Store} {σ : St} {H : Hp} {Q : VK} (R : Rl C g ρ M σ H) (p : Post (eOp op fa fb ρ M) (QV C g ρ σ Q) (C.We ρ))
    {pins : List (Addr × Obj)} {s : Shared} (I : Inv C.X pins σ H s) :
    wpAny (model C.X.prog C.X.w) C.X.A (eval a C.X.env) (fun v s₁ => wpAny (model C.X.prog C.X.w) C.X.A (eval b C.X.env) (fun u s₂ => wpAny (model C.X.prog C.X.w) C.X.A (fv v u) (EP C.X pins σ Q) C.X.xe s₂) C.X.xe s₁) C.X.xe s := by
  refine bin (R := fun x y H2 => ∀ v u pins s, Inv C.X pins σ H2 s → RelV x v → RelV y u → wpAny (model C.X.prog C.X.w) C.X.A (fv v u) (EP C.X pins σ Q) C.X.xe s) self_e self_e I ?_ fun v u s2 x y H2 I2 rx ry h => h v u pins s2 I2 rx ry
  refine ha.then_ R p fun v d M1 H1 g1 l1 R1 r1 p1 => ?_
  refine hb.then_ R1 p1 fun u d2 M2 H2 g2 l2 R2 r2 p2 => ?_
  intro vv uu pins s I2 rx ry
  exact ho Q R2 I2 rx ry (r1.mono l2) r2 (p2.imp fun _ _ z => z.later (l1.trans l2))
theorem de_op {o : Operator} {op : D → D → Py D} (ho : DOp C (binaryOp o) op) (ha : DE C a fa) (hb : DE C b fb) : DE C (.BinOp a o b pos) (eOp op fa fb) :=
  ⟨fun Q R p pins s I => wpAny_BinOp (two ho ha hb R p I)⟩
theorem de_un {o : UnaryOp} {op : D → Py D} (ho : DUn C (unaryOp o) op) (ha : DE C a fa) : DE C (.UnaryOp o a pos) (eUn op fa) := ⟨fun {g ρ M σ H} Q R p pins s I => by
  refine UnaryOp_ (thn ((ha.then_ (Q := fun v H1 => ∃ d M1 g1, g.le g1 ∧ Rl C g1 ρ M1 σ H1 ∧ Rep C.X.K g1 v d ∧ Post (op d M1) (QV C g ρ σ Q) (C.We ρ)) R p fun v d M1 H1 g1 l1 R1 r1 p1 => ⟨d, M1, g1, l1, R1, r1, p1⟩) pins s I) fun v s1 ⟨x, H1, I1, rx, d, M1, g1, l1, R1, r1, p1⟩ => ?_)
  exact ho Q R1 I1 rx r1 (p1.imp fun _ _ z => z.later l1)⟩
theorem de_cmp {o : CmpOp} {op : D → D → Py D} (ho : DOp C (compareOp o) op) (ha : DE C a fa) (hb : DE C b fb) (hm : behindInMarks o b = false := by first | exact nobehind _ (by decide) (by decide) | rfl) : DE C (.Compare a [o] [b] pos) (eOp op fa fb) :=
  ⟨fun Q R p pins s I => wpAny_Compare1 (two ho ha hb R p I) hm⟩
/-- the truth of a bool -/
def truB : D → Py Bool
  | .bl b => Py.ret b
  | _ => Py.bad
def eTest (f : DEnv → Py D) : DEnv → Py Bool := fun ρ => Py.bnd (f ρ) truB
theorem truB_post {C : DX} {d : D} {M : Store} {q : Bool → Store → Prop} {E : Exn → Store → Prop} (h : Post (truB d M) q E) : ∃ b, d = .bl b ∧ q b M := by
  cases d with
  | bl b => exact ⟨b, rfl, h⟩
  | _ => exact h.elim
theorem rep_bl {K : PySem.W.Frag} {g : G} {v : V} {b : Bool} (r : Rep K g v (.bl b)) : v = .bl b := by cases r; rfl
theorem rep_int {K : PySem.W.Frag} {g : G} {v : V} {b : Int} (r : Rep K g v (.int b)) : v = .int b := by cases r; rfl
theorem rep_str {K : PySem.W.Frag} {g : G} {v : V} {b : Str} (r : Rep K g v (.str b)) : v = .str b := by cases r; rfl
theorem rep_non {K : PySem.W.Frag} {g : G} {v : V} (r : Rep K g v .non) : v = .non := by cases r; rfl
theorem post_test {f : DEnv → Py D} {g : G} {ρ : DEnv} {M : Store} {σ : St} {Q : Bool → Hp → Prop} (p : Post (eTest f ρ M) (QT C g ρ σ Q) (C.We ρ)) : Post (f ρ M) (QV C g ρ σ fun x H1 => ∃ c, x = .bl c ∧ Q c H1) (C.We ρ) := by
  refine (post_bnd.mp p).imp fun d M' p' => ?_
  obtain ⟨b, rfl, q⟩ := truB_post (C := C) p'
  intro v H' g' l R' r
  exact ⟨b, rep_bl r, q H' g' l R'⟩
/-- an expression whose value is a bool, as a test -/
theorem dt_val (h : DE C e f) (he : ∀ whole, isTrue e C.X.env whole = (do let v ← whole; standAt e.pos; holding [v] (truthy v)) := by intro _; rfl) : DT C e (eTest f) := ⟨fun {g ρ M σ H} Q R p =>
  wpt (pt_val self_e he) (h.run _ R (post_test p))⟩
theorem dt_cmp {o : CmpOp} {op : D → D → Py D} (ho : DOp C (compareOp o) op) (ha : DE C a fa) (hb : DE C b fb) (hm : behindInMarks o b = false := by first | exact nobehind _ (by decide) (by decide) | rfl) : DT C (.Compare a [o] [b] pos) (eTest (eOp op fa fb)) := ⟨fun {g ρ M σ H} Q R p pins s I => by
  refine wpAny_isTrue_Compare1 (thn (two ho ha hb R (post_test p) I) fun v s1 h1 => thn h1 fun u s2 h2 => thn h2 fun c s3 ⟨z, H3, I3, r3, k, e, q3⟩ => ?_) hm
  subst e
  cases r3
  exact wpAny_truthy_bool ⟨H3, I3, q3⟩⟩

/-! ### chains -/
def eChain (op op' : D → D → Py D) (fa fb fc : DEnv → Py D) : DEnv → Py D := fun ρ => Py.bnd (fa ρ) fun x => Py.bnd (fb ρ) fun y => Py.bnd (op x y) fun z => Py.bnd (truB z) fun k => if k then Py.bnd (fc ρ) fun w' => op' y w' else Py.ret (.bl false)
theorem de_chain {c : Expr} {fc : DEnv → Py D} {o o' : CmpOp} {op op' : D → D → Py D} (ho : DOp C (compareOp o) op) (ho' : DOp C (compareOp o') op') (ha : DE C a fa) (hb : DE C b fb) (hc : DE C c fc)
    (hm : lastMarks [o, o'] [b, c] = false := by with_unfolding_all rfl) : DE C (.Compare a [o, o'] [b, c] pos) (eChain op op' fa fb fc) := ⟨fun {g ρ M σ H} Q R p pins s I => by
  refine Compare_chain (thn ((ha.then_ (Q := fun v H1 => ∃ d M1 g1, g.le g1 ∧ Rl C g1 ρ M1 σ H1 ∧ Rep C.X.K g1 v d ∧ Post (Py.bnd (fb ρ) (fun y => Py.bnd (op d y) fun z => Py.bnd (truB z) fun k => if k then Py.bnd (fc ρ) fun w' => op' y w' else Py.ret (.bl false)) M1) (QV C g ρ σ Q) (C.We ρ)) R p
    fun v d M1 H1 g1 l1 R1 r1 p1 => ⟨d, M1, g1, l1, R1, r1, p1⟩) pins s I) fun v s1 ⟨x, H1, I1, rx, d, M1, g1, l1, R1, r1, p1⟩ => chain_link ?_) hm
  refine thn ((hb.then_ (Q := fun v H2 => ∃ y M2 g2, g1.le g2 ∧ Rl C g2 ρ M2 σ H2 ∧ Rep C.X.K g2 v y ∧ Post (Py.bnd (op d y) (fun z => Py.bnd (truB z) fun k => if k then Py.bnd (fc ρ) fun w' => op' y w' else Py.ret (.bl false)) M2) (QV C g ρ σ Q) (C.We ρ)) R1 p1
    fun v d M1 H1 g1 l1 R1 r1 p1 => ⟨d, M1, g1, l1, R1, r1, p1⟩) pins s1 I1) fun u s2 ⟨x2, H2, I2, rx2, y, M2, g2, l2, R2, r2, p2⟩ => ?_
  have p3 := post_bnd.mp p2
  refine thn (ho (fun z H3 => ∃ k M3 g3, z = .bl k ∧ g2.le g3 ∧ Rl C g3 ρ M3 σ H3 ∧ Post ((if k then Py.bnd (fc ρ) fun w' => op' y w' else Py.ret (.bl false) : Py D) M3) (QV C g ρ σ Q) (C.We ρ)) R2 I2 rx rx2 (r1.mono l2) r2 (p3.imp fun z M3 q z' H3 g3 l3 R3 r3 => ?_)) fun d' s3 ⟨z, H3, I3, r3, k, M3, g3, e, l3, R3, p4⟩ => ?_
  · obtain ⟨k, rfl, q'⟩ := truB_post (C := C) (post_bnd.mp q)
    exact ⟨k, M3, g3, rep_bl r3, l3, R3, q'⟩
  · subst e
    cases r3
    refine wpAny_truthy_bool ?_
    cases k with
    | false => exact ite_ff ⟨.bl false, H3, I3, rfl, QV.here (QV.later (g' := g3) p4 ((l1.trans l2).trans l3)) R3 (.bl false)⟩
    | true =>
      refine ite_tt (chain_last (thn ((hc.then_ (Q := fun v H4 => ∃ w' M4 g4, g3.le g4 ∧ Rl C g4 ρ M4 σ H4 ∧ Rep C.X.K g4 v w' ∧ Post (op' y w' M4) (QV C g ρ σ Q) (C.We ρ)) R3 p4 fun v d M1 H1 g1 l1 R1 r1 p1 => ⟨d, M1, g1, l1, R1, r1, p1⟩) pins s3 I3)
        fun w' s4 ⟨z', H4, I4, r4, d4, M4, g4, l4, R4, r5, p5⟩ => ho' Q R4 I4 rx2 r4 (r2.mono (l3.trans l4)) r5 (p5.imp fun _ _ q => q.later (((l1.trans l2).trans l3).trans l4))))⟩
theorem isTrue_chain_val (ops : List CmpOp) (rest : List Expr) : True := trivial

/-! ### and, or, not, if -/
def tAndD (fa fb : DEnv → Py Bool) : DEnv → Py Bool := fun ρ => Py.bnd (fa ρ) fun c => if c then fb ρ else Py.ret false
def tOrD (fa fb : DEnv → Py Bool) : DEnv → Py Bool := fun ρ => Py.bnd (fa ρ) fun c => if c then Py.ret true else fb ρ
def tNotD (fa : DEnv → Py Bool) : DEnv → Py Bool := fun ρ => Py.bnd (fa ρ) fun c => Py.ret (!c)
variable {ta tb : DEnv → Py Bool}
theorem dw_pt (h : DW C e ta) : DT C e ta := ⟨fun Q R p pins s I => h.run Q R p _ pins s I⟩
theorem dw_and1 (ha : DT C a ta) : DW C (.BoolOp .And [a] pos) ta := ⟨fun Q R p => wpw (pw_and1 self_t) (ha.run Q R p)⟩
theorem dw_or1 (ha : DT C a ta) : DW C (.BoolOp .Or [a] pos) ta := ⟨fun Q R p => wpw (pw_or1 self_t) (ha.run Q R p)⟩
theorem dw_and (ha : DT C a ta) (hb : DW C (.BoolOp .And (b :: rest) pos) tb) : DW C (.BoolOp .And (a :: b :: rest) pos) (tAndD ta tb) := ⟨fun {g ρ M σ H} Q R p => by
  refine wpw (pw_and self_t self_w) (ha.then_ R p fun c M1 H1 g1 l1 R1 p1 => ?_)
  cases c with
  | true => exact hb.run Q R1 (p1.imp fun _ _ q => q.later l1)
  | false => exact p1 H1 g1 l1 R1⟩
theorem dw_or (ha : DT C a ta) (hb : DW C (.BoolOp .Or (b :: rest) pos) tb) : DW C (.BoolOp .Or (a :: b :: rest) pos) (tOrD ta tb) := ⟨fun {g ρ M σ H} Q R p => by
  refine wpw (pw_or self_t self_w) (ha.then_ R p fun c M1 H1 g1 l1 R1 p1 => ?_)
  cases c with
  | false => exact hb.run Q R1 (p1.imp fun _ _ q => q.later l1)
  | true => exact p1 H1 g1 l1 R1⟩
theorem dt_not (ha : DT C a ta) : DT C (.UnaryOp .Not a pos) (tNotD ta) := ⟨fun {g ρ M σ H} Q R p => wpt (pt_not self_t) (ha.then_ R p fun c M1 H1 g1 l1 R1 p1 => p1 H1 g1 l1 R1)⟩
/-- as values -/
def eAnd (fa fb : DEnv → Py D) : DEnv → Py D := fun ρ => Py.bnd (fa ρ) fun d => Py.bnd (truB d) fun c => if c then fb ρ else Py.ret (.bl false)
def eOr (fa fb : DEnv → Py D) : DEnv → Py D := fun ρ => Py.bnd (fa ρ) fun d => Py.bnd (truB d) fun c => if c then Py.ret (.bl true) else fb ρ
def eNot (fa : DEnv → Py D) : DEnv → Py D := fun ρ => Py.bnd (fa ρ) fun d => Py.bnd (truB d) fun c => Py.ret (.bl (!c))
theorem de_one {o : BoolOp} (h : DE C a fa) : DE C (.BoolOp o [a] pos) fa := ⟨fun Q R p => wpe (pe_one self_e) (h.run Q R p)⟩
theorem de_and (ha : DE C a fa) (hb : DE C (.BoolOp .And (b :: rest) pos) fb) : DE C (.BoolOp .And (a :: b :: rest) pos) (eAnd fa fb) := ⟨fun {g ρ M σ H} Q R p => by
  refine wpe (pe_and self_e self_e) (ha.then_ R p fun v d M1 H1 g1 l1 R1 r1 p1 => ?_)
  obtain ⟨c, rfl, p2⟩ := truB_post (C := C) (post_bnd.mp p1)
  refine ⟨c, rep_bl r1, ?_⟩
  cases c with
  | true => rw [if_pos rfl]; exact hb.run Q R1 (Post.imp (show Post (fb ρ M1) _ _ from p2) fun _ _ q => q.later l1)
  | false => rw [if_neg Bool.false_ne_true]; exact QV.here (QV.later (g' := g1) p2 l1) R1 (.bl false)⟩
theorem de_or (ha : DE C a fa) (hb : DE C (.BoolOp .Or (b :: rest) pos) fb) : DE C (.BoolOp .Or (a :: b :: rest) pos) (eOr fa fb) := ⟨fun {g ρ M σ H} Q R p => by
  refine wpe (pe_or self_e self_e) (ha.then_ R p fun v d M1 H1 g1 l1 R1 r1 p1 => ?_)
  obtain ⟨c, rfl, p2⟩ := truB_post (C := C) (post_bnd.mp p1)
  refine ⟨c, rep_bl r1, ?_⟩
  cases c with
  | false => rw [if_neg Bool.false_ne_true]; exact hb.run Q R1 (Post.imp (show Post (fb ρ M1) _ _ from p2) fun _ _ q => q.later l1)
  | true => rw [if_pos rfl]; exact QV.here (QV.later (g' := g1) p2 l1) R1 (.bl true)⟩
theorem de_not (ha : DE C a fa) : DE C (.UnaryOp .Not a pos) (eNot fa) := ⟨fun {g ρ M σ H} Q R p => by
  refine wpe (pe_not self_e) (ha.then_ R p fun v d M1 H1 g1 l1 R1 r1 p1 => ?_)
  obtain ⟨c, rfl, p2⟩ := truB_post (C := C) (post_bnd.mp p1)
  exact ⟨c, rep_bl r1, QV.here (QV.later (g' := g1) p2 l1) R1 (.bl _)⟩⟩
def eIf (t : DEnv → Py Bool) (fa fb : DEnv → Py D) : DEnv → Py D := fun ρ => Py.bnd (t ρ) fun c => if c then fa ρ else fb ρ
theorem de_if {c : Expr} (hc : DT C c ta) (ha : DE C a fa) (hb : DE C b fb) : DE C (.IfExp c a b pos) (eIf ta fa fb) := ⟨fun {g ρ M σ H} Q R p => by
  refine wpe (pe_ifExp self_t self_e self_e) (hc.then_ R p fun c M1 H1 g1 l1 R1 p1 => ?_)
  cases c with
  | true => rw [if_pos rfl]; exact ha.run Q R1 (Post.imp (show Post (fa ρ M1) _ _ from p1) fun _ _ q => q.later l1)
  | false => rw [if_neg Bool.false_ne_true]; exact hb.run Q R1 (Post.imp (show Post (fb ρ M1) _ _ from p1) fun _ _ q => q.later l1)⟩

/-! ### lists of expressions, displays -/
def aNil : DEnv → Py (List D) := fun _ => Py.ret []
def aCons (f : DEnv → Py D) (r : DEnv → Py (List D)) : DEnv → Py (List D) := fun ρ => Py.bnd (f ρ) fun x => Py.bnd (r ρ) fun xs => Py.ret (x :: xs)
theorem da_nil : DA C [] aNil := ⟨fun {g ρ M σ H} Q R p => wpa pa_nil (show Q [] H from p [] H g (G.le.refl g) R .nil)⟩
theorem da_cons (ha : DE C e f) (hr : DA C es ff) (hs : starEach (e :: es) C.X.env = (false, eval e C.X.env) :: starEach es C.X.env := by rfl) : DA C (e :: es) (aCons f ff) := ⟨fun {g ρ M σ H} Q R p => by
  refine wpa (pa_cons self_e self_a hs) (ha.then_ R p fun v d M1 H1 g1 l1 R1 r1 p1 => ?_)
  refine hr.then_ R1 p1 fun vs ds M2 H2 g2 l2 R2 r2 p2 => ?_
  exact p2 _ H2 g2 (l1.trans l2) R2 (.cons (r1.mono l2) r2)⟩
/-- a new thing that never changes -/
theorem QV.lay {g : G} {ρ : DEnv} {M : Store} {σ : St} {H : Hp} {Q : VK} {d : D} (q : QV C g ρ σ Q d M) (R : Rl C g ρ M σ H) {p : Addr} {o : HO} (h : H p = none) (r : Rep C.X.K (g.add p o) (.ref p) d) : Q (.ref p) (upd H p o) :=
  q (.ref p) _ (g.add p o) (G.le_add (R.h.fnone h)) (R.next (G.le_add (R.h.fnone h)) (R.h.laid h)) r
theorem rep_tup_new {K : PySem.W.Frag} {g : G} {p : Addr} {vs : List V} {ds : List D} (r : Reps K g vs ds) (h : g.F p = none) : Rep K (g.add p (.tup vs)) (.ref p) (.tup ds) := .tup upd_same (r.mono (G.le_add h))
theorem rep_lst_new {K : PySem.W.Frag} {g : G} {p : Addr} {vs : List V} {ds : List D} (r : Reps K g vs ds) (h : g.F p = none) : Rep K (g.add p (.lst vs)) (.ref p) (.lst ds) := .lst upd_same (r.mono (G.le_add h))
def eTup (ff : DEnv → Py (List D)) : DEnv → Py D := fun ρ => Py.bnd (ff ρ) fun ds => Py.chk (ds.length ≤ sizeLine) (Py.ret (.tup ds))
/-- a list that is never changed -/
def eLst (ff : DEnv → Py (List D)) : DEnv → Py D := fun ρ => Py.bnd (ff ρ) fun ds => Py.chk (ds.length ≤ sizeLine) (Py.ret (.lst ds))
theorem de_tup {x1 : Nat} (h : DA C es ff) : DE C (.Tuple es x1 pos) (eTup ff) := ⟨fun {g ρ M σ H} Q R p => by
  refine wpe (pe_tup self_a) (h.then_ R p fun vs ds M1 H1 g1 l1 R1 r1 p1 => ?_)
  obtain ⟨hz, q⟩ := post_chk.mp p1
  exact ⟨by rw [r1.length]; exact hz, fun p hp => QV.lay (QV.later (g' := g1) q l1) R1 hp (rep_tup_new r1 (R1.h.fnone hp))⟩⟩
theorem de_lst (h : DA C es ff) : DE C (.List es pos) (eLst ff) := ⟨fun {g ρ M σ H} Q R p => by
  refine wpe (pe_lst self_a) (h.then_ R p fun vs ds M1 H1 g1 l1 R1 r1 p1 => ?_)
  obtain ⟨hz, q⟩ := post_chk.mp p1
  exact ⟨by rw [r1.length]; exact hz, fun p hp => QV.lay (QV.later (g' := g1) q l1) R1 hp (rep_lst_new r1 (R1.h.fnone hp))⟩⟩
/-- a list that will change -/
def alloc (o : MO) : Py D := fun M => .ok (.loc M.length) (M ++ [some o])
def eNew (ff : DEnv → Py (List D)) : DEnv → Py D := fun ρ => Py.bnd (ff ρ) fun ds => Py.chk (ds.length ≤ sizeLine) (alloc (.lst ds))
theorem QV.make {g : G} {ρ : DEnv} {M : Store} {σ : St} {H : Hp} {Q : VK} {mo : MO} {E : Exn → Store → Prop} (q : Post (alloc mo M) (QV C g ρ σ Q) E) (R : Rl C g ρ M σ H) {p : Addr} {o : HO} (h : H p = none) (r : ObjRep C.X.K (g.more p) (upd H p o) p mo) : Q (.ref p) (upd H p o) := by
  refine q (.ref p) _ (g.more p) G.le_more (R.next G.le_more (R.h.made h r)) (.loc ?_)
  show (g.io ++ [p])[M.length]? = some p
  rw [← R.h.len, List.getElem?_concat_length]
theorem de_new (h : DA C es ff) : DE C (.List es pos) (eNew ff) := ⟨fun {g ρ M σ H} Q R p => by
  refine wpe (pe_lst self_a) (h.then_ R p fun vs ds M1 H1 g1 l1 R1 r1 p1 => ?_)
  obtain ⟨hz, q⟩ := post_chk.mp p1
  exact ⟨by rw [r1.length]; exact hz, fun p hp => QV.make (q.imp fun _ _ z => QV.later (g' := g1) z l1) R1 hp ⟨vs, upd_same, r1.mono G.le_more⟩⟩⟩
end
end L3
set_option Elab.async false
set_option linter.all false
set_option maxRecDepth 100000
set_option autoImplicit false
namespace L3
open PySem PySem.Spec L2
open PyProof.Rows hiding St

/-! ### sequences -/
/-- the items of a tuple or a list -/
def items (d : D) : Py (List D) := match d with
  | .tup xs => Py.ret xs
  | .lst xs => Py.ret xs
  | .ro xs => Py.ret xs
  | .loc n => fun M => match M[n]? with
    | some (some (.lst xs)) => .ok xs M
    | _ => .bad
  | _ => Py.bad
/-- of a list -/
def litems (d : D) : Py (List D) := match d with
  | .tup _ => Py.bad
  | d => items d
/-- of a list that is no script -/
def xitems (d : D) : Py (List D) := match d with
  | .ro _ => Py.bad
  | d => litems d
section
variable {K : PySem.W.Frag} {g : G} {M : Store} {H : Hp} {v : V} {d : D} {q : List D → Store → Prop} {E : Exn → Store → Prop}
theorem loc_lst {n : Nat} {xs : List D} (R : RelH K g M H) (r : Rep K g v (.loc n)) (e : M[n]? = some (some (.lst xs))) : ∃ a vs, v = .ref a ∧ g.io[n]? = some a ∧ H a = some (.lst vs) ∧ Reps K g vs xs := by
  cases r with
  | loc e1 =>
    obtain ⟨a, e2, e3, vs, e4, e5⟩ := R.liv n _ e
    rw [e1] at e2
    cases e2
    exact ⟨_, vs, rfl, e1, e4, e5⟩
theorem items_post (R : RelH K g M H) (r : Rep K g v d) (p : Post (items d M) q E) : ∃ a vs ds, v = .ref a ∧ (SqL K H a vs ∨ SqT K H a vs) ∧ Reps K g vs ds ∧ q ds M := by
  cases r with
  | tup s t => exact ⟨_, _, _, rfl, .inr (.of (R.frz _ _ s)), t, p⟩
  | lst s t => exact ⟨_, _, _, rfl, .inl (.of (R.frz _ _ s)), t, p⟩
  | ro s t => exact ⟨_, _, _, rfl, .inl (sqL_mono R.frz s), t, p⟩
  | @loc n a e1 =>
    have p' : Post ((match M[n]? with | some (some (.lst xs)) => .ok xs M | _ => .bad) : Out (List D)) q E := p
    split at p'
    · rename_i xs e
      obtain ⟨a', vs, ea, e2, e4, e5⟩ := loc_lst R (.loc e1) e
      exact ⟨a', vs, xs, ea, .inl (.of e4), e5, p'⟩
    · exact p'.elim
  | _ => exact p.elim
theorem litems_post (R : RelH K g M H) (r : Rep K g v d) (p : Post (litems d M) q E) : ∃ a vs ds, v = .ref a ∧ SqL K H a vs ∧ Reps K g vs ds ∧ q ds M := by
  cases r with
  | tup s t => exact p.elim
  | lst s t => exact ⟨_, _, _, rfl, .of (R.frz _ _ s), t, p⟩
  | ro s t => exact ⟨_, _, _, rfl, sqL_mono R.frz s, t, p⟩
  | @loc n a e1 =>
    have p' : Post ((match M[n]? with | some (some (.lst xs)) => .ok xs M | _ => .bad) : Out (List D)) q E := p
    split at p'
    · rename_i xs e
      obtain ⟨a', vs, ea, e2, e4, e5⟩ := loc_lst R (.loc e1) e
      exact ⟨a', vs, xs, ea, .of e4, e5, p'⟩
    · exact p'.elim
  | _ => exact p.elim
theorem xitems_post (R : RelH K g M H) (r : Rep K g v d) (p : Post (xitems d M) q E) : ∃ a vs ds, v = .ref a ∧ H a = some (.lst vs) ∧ Reps K g vs ds ∧ q ds M := by
  cases r with
  | lst s t => exact ⟨_, _, _, rfl, R.frz _ _ s, t, p⟩
  | @loc n a e1 =>
    have p' : Post ((match M[n]? with | some (some (.lst xs)) => .ok xs M | _ => .bad) : Out (List D)) q E := p
    split at p'
    · rename_i xs e
      obtain ⟨a', vs, ea, e2, e4, e5⟩ := loc_lst R (.loc e1) e
      exact ⟨a', vs, xs, ea, e4, e5, p'⟩
    · exact p'.elim
  | _ => exact p.elim
end

/-! ### arithmetic -/
def intOp (f : Int → Int → Py D) : D → D → Py D
  | .int i, .int j => f i j
  | _, _ => Py.bad
theorem intOp_post {f : Int → Int → Py D} {dx dy : D} {M : Store} {q : D → Store → Prop} {E : Exn → Store → Prop} (p : Post (intOp f dx dy M) q E) : ∃ i j, dx = .int i ∧ dy = .int j ∧ Post (f i j M) q E := by
  cases dx with
  | int i =>
    cases dy with
    | int j => exact ⟨i, j, rfl, rfl, p⟩
    | _ => exact p.elim
  | _ => exact p.elim
section
variable {C : DX}
theorem dop_int {fv : Value → Value → Sem Value} {c : Int → Int → Prop} {w : Int → Int → V} {f : Int → Int → Py D} (ho : OpR C.X fv (rI c w))
    (h : ∀ {g : G} {ρ : DEnv} {M : Store} {σ : St} {H : Hp} {i j : Int} (Q : VK), Rl C g ρ M σ H → Post (f i j M) (QV C g ρ σ Q) (C.We ρ) → c i j ∧ Q (w i j) H) : DOp C fv (intOp f) := DOp.of ho fun Q R rx ry p => by
  obtain ⟨i, j, rfl, rfl, q⟩ := intOp_post p
  exact ⟨i, j, rep_int rx, rep_int ry, h Q R q⟩
theorem dop_int0 {fv : Value → Value → Sem Value} {w : Int → Int → V} {f : Int → Int → Py D} (ho : OpR C.X fv (rI0 w))
    (h : ∀ {g : G} {ρ : DEnv} {M : Store} {σ : St} {H : Hp} {i j : Int} (Q : VK), Rl C g ρ M σ H → Post (f i j M) (QV C g ρ σ Q) (C.We ρ) → Q (w i j) H) : DOp C fv (intOp f) := DOp.of ho fun Q R rx ry p => by
  obtain ⟨i, j, rfl, rfl, q⟩ := intOp_post p
  exact ⟨i, j, rep_int rx, rep_int ry, h Q R q⟩
def addI := intOp fun i j => Py.ret (.int (i + j))
def subI := intOp fun i j => Py.ret (.int (i - j))
def mulI := intOp fun i j => Py.chk ((-(2 ^ 64) < i ∧ i < 2 ^ 64) ∨ (-(2 ^ 64) < j ∧ j < 2 ^ 64)) (Py.ret (.int (i * j)))
def fdivI := intOp fun i j => Py.chk (0 < j ∧ j < 1073741824) (Py.ret (.int (i / j)))
def modI := intOp fun i j => Py.chk (0 < j) (Py.ret (.int (i % j)))
def powI := intOp fun i j => Py.chk (0 ≤ j ∧ j ≤ 1000000 ∧ i.natAbs < 2 ^ 64) (Py.ret (.int (i ^ j.toNat)))
def ltI := intOp fun i j => Py.ret (.bl (decide (i < j)))
def leI := intOp fun i j => Py.ret (.bl (decide (i ≤ j)))
def gtI := intOp fun i j => Py.ret (.bl (decide (j < i)))
def geI := intOp fun i j => Py.ret (.bl (decide (j ≤ i)))
theorem do_addI : DOp C (binaryOp .Add) addI := by
  refine dop_int0 op_add fun Q R p => ?_
  exact QV.here p R (.int _)
theorem do_subI : DOp C (binaryOp .Sub) subI := by
  refine dop_int0 op_sub fun Q R p => ?_
  exact QV.here p R (.int _)
theorem do_mulI : DOp C (binaryOp .Mult) mulI := by
  refine dop_int op_mul fun Q R p => ?_
  exact ⟨(post_chk.mp p).1, QV.here (post_chk.mp p).2 R (.int _)⟩
theorem do_fdivI : DOp C (binaryOp .FloorDiv) fdivI := by
  refine dop_int op_fdiv fun Q R p => ?_
  exact ⟨(post_chk.mp p).1, QV.here (post_chk.mp p).2 R (.int _)⟩
theorem do_modI : DOp C (binaryOp .Mod) modI := by
  refine dop_int op_mod fun Q R p => ?_
  exact ⟨(post_chk.mp p).1, QV.here (post_chk.mp p).2 R (.int _)⟩
theorem do_powI : DOp C (binaryOp .Pow) powI := by
  refine dop_int op_pow fun Q R p => ?_
  exact ⟨(post_chk.mp p).1, QV.here (post_chk.mp p).2 R (.int _)⟩
theorem do_ltI : DOp C (compareOp .Lt) ltI := by
  refine dop_int0 op_lt fun Q R p => ?_
  exact QV.here p R (.bl _)
theorem do_leI : DOp C (compareOp .LtE) leI := by
  refine dop_int0 op_le fun Q R p => ?_
  exact QV.here p R (.bl _)
theorem do_gtI : DOp C (compareOp .Gt) gtI := by
  refine dop_int0 op_gt fun Q R p => ?_
  exact QV.here p R (.bl _)
theorem do_geI : DOp C (compareOp .GtE) geI := by
  refine dop_int0 op_ge fun Q R p => ?_
  exact QV.here p R (.bl _)
def negI : D → Py D
  | .int i => Py.ret (.int (-i))
  | _ => Py.bad
theorem do_negI : DUn C (unaryOp .USub) negI := DUn.of un_neg fun {g ρ M σ H x dx} Q R rx p => by
  cases dx with
  | int i => exact ⟨i, rep_int rx, QV.here p R (.int _)⟩
  | _ => exact p.elim

/-! ### + of texts, tuples, lists -/
def addS : D → D → Py D
  | .str a, .str b => Py.chk (a.length + b.length ≤ sizeLine) (Py.ret (.str (a ++ b)))
  | _, _ => Py.bad
theorem do_addS : DOp C (binaryOp .Add) addS := DOp.of op_add_str fun {g ρ M σ H x y dx dy} Q R rx ry p => by
  cases dx with
  | str a =>
    cases dy with
    | str b => exact ⟨a, b, rep_str rx, rep_str ry, (post_chk.mp p).1, QV.here (post_chk.mp p).2 R (.str _)⟩
    | _ => exact p.elim
  | _ => exact p.elim
def addT : D → D → Py D
  | .tup xs, .tup ys => Py.chk (xs.length + ys.length ≤ sizeLine) (Py.ret (.tup (xs ++ ys)))
  | _, _ => Py.bad
theorem do_addT : DOp C (binaryOp .Add) addT := DOp.of op_catA fun {g ρ M σ H x y dx dy} Q R rx ry p => by
  cases rx with
  | tup s1 t1 =>
    cases ry with
    | tup s2 t2 =>
      obtain ⟨hz, q⟩ := post_chk.mp p
      refine ⟨_, _, _, _, rfl, rfl, .of (R.h.frz _ _ s1), .of (R.h.frz _ _ s2), by rw [t1.length, t2.length]; exact hz, fun e => ?_, fun e e2 => ?_, fun e e2 p hp => ?_⟩
      · subst e
        cases t1
        exact QV.here q R (.tup s2 t2)
      · subst e2
        cases t2
        rw [List.append_nil] at q
        exact QV.here q R (.tup s1 t1)
      · exact QV.lay q R hp (rep_tup_new (t1.append t2) (R.h.fnone hp))
    | _ => exact p.elim
  | _ => exact p.elim
/-- a new list that is never changed -/
def addL (x y : D) : Py D := Py.bnd (xitems x) fun xs => Py.bnd (xitems y) fun ys => Py.chk (xs.length + ys.length ≤ sizeLine) (Py.ret (.lst (xs ++ ys)))
theorem do_addL : DOp C (binaryOp .Add) addL := DOp.of op_cat fun {g ρ M σ H x y dx dy} Q R rx ry p => by
  obtain ⟨a, vs, xs, rfl, h1, t1, p1⟩ := xitems_post R.h rx (post_bnd.mp p)
  obtain ⟨b, ws, ys, rfl, h2, t2, p2⟩ := xitems_post R.h ry (post_bnd.mp p1)
  obtain ⟨hz, q⟩ := post_chk.mp p2
  exact ⟨a, b, vs, ws, rfl, rfl, h1, h2, by rw [t1.length, t2.length]; exact hz, fun p hp => QV.lay q R hp (rep_lst_new (t1.append t2) (R.h.fnone hp))⟩
/-- a new list that changes -/
def addLn (x y : D) : Py D := Py.bnd (xitems x) fun xs => Py.bnd (xitems y) fun ys => Py.chk (xs.length + ys.length ≤ sizeLine) (alloc (.lst (xs ++ ys)))
theorem do_addLn : DOp C (binaryOp .Add) addLn := DOp.of op_cat fun {g ρ M σ H x y dx dy} Q R rx ry p => by
  obtain ⟨a, vs, xs, rfl, h1, t1, p1⟩ := xitems_post R.h rx (post_bnd.mp p)
  obtain ⟨b, ws, ys, rfl, h2, t2, p2⟩ := xitems_post R.h ry (post_bnd.mp p1)
  obtain ⟨hz, q⟩ := post_chk.mp p2
  exact ⟨a, b, vs, ws, rfl, rfl, h1, h2, by rw [t1.length, t2.length]; exact hz, fun p hp => QV.make q R hp ⟨_, upd_same, (t1.append t2).mono G.le_more⟩⟩
def mulL : D → D → Py D := fun x y => Py.bnd (xitems x) fun xs => match y with
  | .int k => Py.chk (-(2 ^ 63) ≤ k ∧ k < 2 ^ 63 ∧ xs.length * k.toNat ≤ sizeLine) (Py.ret (.lst (List.replicate k.toNat xs).flatten))
  | _ => Py.bad
theorem Reps.rep {K : PySem.W.Frag} {g : G} {vs : List V} {ds : List D} (h : Reps K g vs ds) : ∀ k : Nat, Reps K g (List.replicate k vs).flatten (List.replicate k ds).flatten
  | 0 => .nil
  | k + 1 => by
    rw [List.replicate_succ, List.replicate_succ, List.flatten_cons, List.flatten_cons]
    exact h.append (Reps.rep h k)
theorem do_mulL : DOp C (binaryOp .Mult) mulL := DOp.of op_rep fun {g ρ M σ H x y dx dy} Q R rx ry p => by
  obtain ⟨a, vs, xs, rfl, h1, t1, p1⟩ := xitems_post R.h rx (post_bnd.mp p)
  cases dy with
  | int k =>
    obtain ⟨⟨b1, b2, hz⟩, q⟩ := post_chk.mp p1
    exact ⟨a, k, vs, rfl, rep_int ry, h1, b1, b2, by rw [t1.length]; exact hz, fun p hp => QV.lay q R hp (rep_lst_new (t1.rep _) (R.h.fnone hp))⟩
  | _ => exact p1.elim
def mulLn : D → D → Py D := fun x y => Py.bnd (xitems x) fun xs => match y with
  | .int k => Py.chk (-(2 ^ 63) ≤ k ∧ k < 2 ^ 63 ∧ xs.length * k.toNat ≤ sizeLine) (alloc (.lst (List.replicate k.toNat xs).flatten))
  | _ => Py.bad
theorem do_mulLn : DOp C (binaryOp .Mult) mulLn := DOp.of op_rep fun {g ρ M σ H x y dx dy} Q R rx ry p => by
  obtain ⟨a, vs, xs, rfl, h1, t1, p1⟩ := xitems_post R.h rx (post_bnd.mp p)
  cases dy with
  | int k =>
    obtain ⟨⟨b1, b2, hz⟩, q⟩ := post_chk.mp p1
    exact ⟨a, k, vs, rfl, rep_int ry, h1, b1, b2, by rw [t1.length]; exact hz, fun p hp => QV.make q R hp ⟨_, upd_same, (t1.rep _).mono G.le_more⟩⟩
  | _ => exact p1.elim

/-! ### == and != of data -/
mutual
def pyD : D → Option PyData
  | .non => some .none
  | .bl b => some (.bool b)
  | .int i => some (.int i)
  | .str x => some (.str x)
  | .tup xs => (pyL xs).map PyData.tuple
  | .lst xs => (pyL xs).map PyData.list
  | .ro xs => (pyL xs).map PyData.list
  | .dk _ => none
  | .dkt _ => none
  | .ins _ _ => none
  | .loc _ => none
  | .ref _ => none
  | .ty _ => none
def pyL : List D → Option (List PyData)
  | [] => some []
  | x :: xs => (pyD x).bind fun p => (pyL xs).map fun ps => p :: ps
end
def pyM (M : Store) : D → Option PyData
  | .loc n => match M[n]? with
    | some (some (.lst xs)) => (pyL xs).map PyData.list
    | _ => none
  | d => pyD d
mutual
theorem dp_of {K : PySem.W.Frag} {g : G} {H : Hp} (hf : ∀ a o, g.F a = some o → H a = some o) : ∀ {v : V} {d : D} {p : PyData}, Rep K g v d → pyD d = some p → Dp K H v p
  | _, _, _, .non, e => by cases e; exact .non
  | _, _, _, .bl b, e => by cases e; exact .bl b
  | _, _, _, .int b, e => by cases e; exact .int b
  | _, _, _, .str b, e => by cases e; exact .str b
  | _, _, _, .tup s r, e => by
    obtain ⟨ps, e1, e2⟩ := Option.map_eq_some_iff.mp (show (pyL _).map PyData.tuple = some _ from e)
    subst e2
    exact .tup (.of (hf _ _ s)) (dps_of hf r e1)
  | _, _, _, .lst s r, e => by
    obtain ⟨ps, e1, e2⟩ := Option.map_eq_some_iff.mp (show (pyL _).map PyData.list = some _ from e)
    subst e2
    exact .lst (.of (hf _ _ s)) (dps_of hf r e1)
  | _, _, _, .ro s r, e => by
    obtain ⟨ps, e1, e2⟩ := Option.map_eq_some_iff.mp (show (pyL _).map PyData.list = some _ from e)
    subst e2
    exact .lst (sqL_mono hf s) (dps_of hf r e1)
  | _, _, _, .dk _ _ _, e => by cases e
  | _, _, _, .dkt _ _ _ _ _, e => by cases e
  | _, _, _, .ins _ _ _, e => by cases e
  | _, _, _, .loc _, e => by cases e
  | _, _, _, .ref _, e => by cases e
  | _, _, _, .ty _, e => by cases e
theorem dps_of {K : PySem.W.Frag} {g : G} {H : Hp} (hf : ∀ a o, g.F a = some o → H a = some o) : ∀ {vs : List V} {ds : List D} {ps : List PyData}, Reps K g vs ds → pyL ds = some ps → DpAll K H vs ps
  | _, _, _, .nil, e => by cases e; exact .nil
  | _, _, _, .cons r t, e => by
    obtain ⟨p, e1, e2⟩ := Option.bind_eq_some_iff.mp (show (pyD _).bind _ = some _ from e)
    obtain ⟨qs, e3, e4⟩ := Option.map_eq_some_iff.mp e2
    subst e4
    exact .cons (dp_of hf r e1) (dps_of hf t e3)
end
theorem dpm_of {K : PySem.W.Frag} {g : G} {M : Store} {H : Hp} (R : RelH K g M H) {v : V} {d : D} {p : PyData} (r : Rep K g v d) (e : pyM M d = some p) : Dp K H v p := by
  cases r with
  | @loc n a e1 =>
    have e' : (match M[n]? with | some (some (.lst xs)) => (pyL xs).map PyData.list | _ => none) = some p := e
    split at e'
    · rename_i xs h
      obtain ⟨a', vs, ea, e2, e4, e5⟩ := loc_lst R (.loc e1) h
      obtain ⟨ps, e6, e7⟩ := Option.map_eq_some_iff.mp e'
      subst e7
      rw [ea]
      exact .lst (.of e4) (dps_of R.frz e5 e6)
    · cases e'
  | non => exact dp_of R.frz .non e
  | bl b => exact dp_of R.frz (.bl b) e
  | int b => exact dp_of R.frz (.int b) e
  | str b => exact dp_of R.frz (.str b) e
  | tup s t => exact dp_of R.frz (.tup s t) e
  | lst s t => exact dp_of R.frz (.lst s t) e
  | ro s t => exact dp_of R.frz (.ro s t) e
  | dk s t z => cases e
  | dkt s t u z y => cases e
  | ins s t z => cases e
  | ref a => cases e
  | ty a => cases e
def eqP (neg : Bool) (x y : D) : Py D := fun M => match pyM M x, pyM M y with
  | some p, some q => if SeqAt.shaped p && SeqAt.shaped q then .ok (.bl (if neg then !PyData.eqv p q else PyData.eqv p q)) M else .bad
  | _, _ => .bad
def eqS (neg : Bool) (x y : D) : Py D := match x, y with
  | .str a, .str b => Py.ret (.bl (if neg then !decide (a = b) else decide (a = b)))
  | x, y => eqP neg x y
theorem eqP_post {neg : Bool} {x y : D} {M : Store} {q : D → Store → Prop} {E : Exn → Store → Prop} (p : Post (eqP neg x y M) q E) :
    ∃ a b, pyM M x = some a ∧ pyM M y = some b ∧ SeqAt.shaped a = true ∧ SeqAt.shaped b = true ∧ q (.bl (if neg then !PyData.eqv a b else PyData.eqv a b)) M := by
  unfold eqP at p
  split at p
  · rename_i a b h1 h2
    split at p
    · rename_i h
      rw [Bool.and_eq_true] at h
      exact ⟨a, b, h1, h2, h.1, h.2, p⟩
    · exact p.elim
  · exact p.elim
theorem eqS_cases {neg : Bool} {x y : D} {M : Store} {q : D → Store → Prop} {E : Exn → Store → Prop} (p : Post (eqS neg x y M) q E) :
    (∃ a b, x = .str a ∧ y = .str b ∧ q (.bl (if neg then !decide (a = b) else decide (a = b))) M) ∨ Post (eqP neg x y M) q E := by
  cases x with
  | str a =>
    cases y with
    | str b => exact .inl ⟨a, b, rfl, rfl, p⟩
    | _ => exact .inr p
  | _ => exact .inr p
theorem scal_str {a b : Str} : scal (.str a) (.str b) = true := rfl
theorem dec_strV {a b : Str} : decide (V.str a = V.str b) = decide (a = b) := by
  by_cases h : a = b
  · subst h; rw [decide_eq_true rfl, decide_eq_true rfl]
  · rw [decide_eq_false h, decide_eq_false fun e => h (V.str.inj e)]
theorem do_eq (hu : C.X.A.units + 64 < cLine) : DOp C (compareOp .Eq) (eqS false) := DOp.of (op_eq.or (op_eqD hu)) fun {g ρ M σ H x y dx dy} Q R rx ry p => by
  rcases eqS_cases p with ⟨a, b, rfl, rfl, q⟩ | p
  · left
    rw [rep_str rx, rep_str ry]
    exact ⟨scal_str, by rw [dec_strV]; exact QV.here q R (.bl _)⟩
  · right
    obtain ⟨a, b, e1, e2, s1, s2, q⟩ := eqP_post p
    exact ⟨a, b, dpm_of R.h rx e1, dpm_of R.h ry e2, s1, s2, QV.here q R (.bl _)⟩
theorem do_ne (hu : C.X.A.units + 64 < cLine) : DOp C (compareOp .NotEq) (eqS true) := DOp.of (op_ne.or (op_neD hu)) fun {g ρ M σ H x y dx dy} Q R rx ry p => by
  rcases eqS_cases p with ⟨a, b, rfl, rfl, q⟩ | p
  · left
    rw [rep_str rx, rep_str ry]
    exact ⟨scal_str, by rw [dec_strV]; exact QV.here q R (.bl _)⟩
  · right
    obtain ⟨a, b, e1, e2, s1, s2, q⟩ := eqP_post p
    exact ⟨a, b, dpm_of R.h rx e1, dpm_of R.h ry e2, s1, s2, QV.here q R (.bl _)⟩

/-! ### is None -/
def isNon : D → Bool
  | .non => true
  | _ => false
def isN (neg : Bool) : D → D → Py D := fun x y => match y with
  | .non => Py.ret (.bl (if neg then !isNon x else isNon x))
  | _ => Py.bad
theorem dec_non {K : PySem.W.Frag} {g : G} {v : V} {d : D} (r : Rep K g v d) : decide (v = V.non) = isNon d := by cases r <;> rfl
theorem do_isN : DOp C (compareOp .Is) (isN false) := DOp.of op_isN fun {g ρ M σ H x y dx dy} Q R rx ry p => by
  cases dy with
  | non =>
    refine ⟨rep_non ry, ?_⟩
    rw [dec_non rx]
    exact QV.here p R (.bl _)
  | _ => exact p.elim
theorem do_notN : DOp C (compareOp .IsNot) (isN true) := DOp.of op_notN fun {g ρ M σ H x y dx dy} Q R rx ry p => by
  cases dy with
  | non =>
    refine ⟨rep_non ry, ?_⟩
    rw [dec_non rx]
    exact QV.here p R (.bl _)
  | _ => exact p.elim

/-! ### in -/
def flatD : D → Bool
  | .non => true
  | .bl _ => true
  | .int _ => true
  | .str _ => true
  | _ => false
def eqF : D → D → Bool
  | .non, .non => true
  | .bl a, .bl b => a == b
  | .bl a, .int b => (if a then 1 else 0) == b
  | .int a, .bl b => a == (if b then 1 else 0)
  | .int a, .int b => a == b
  | .str a, .str b => a == b
  | _, _ => false
theorem flat_rep {K : PySem.W.Frag} {g : G} {v : V} {d : D} (r : Rep K g v d) (f : flatD d = true) : flatV v = true := by cases r <;> first | rfl | exact f
theorem eqF_rep {K : PySem.W.Frag} {g : G} {v w : V} {d e : D} (r : Rep K g v d) (q : Rep K g w e) (f : flatD d = true) (h : flatD e = true) : eqV v w = eqF d e := by
  cases r <;> first | exact absurd f Bool.false_ne_true | skip
  all_goals (cases q <;> first | exact absurd h Bool.false_ne_true | rfl)
theorem flat_reps {K : PySem.W.Frag} {g : G} : ∀ {vs : List V} {ds : List D}, Reps K g vs ds → ds.all flatD = true → vs.all flatV = true
  | _, _, .nil, _ => rfl
  | _, _, .cons r t, f => by
    rw [List.all_cons, Bool.and_eq_true] at f ⊢
    exact ⟨flat_rep r f.1, flat_reps t f.2⟩
theorem inV_reps {K : PySem.W.Frag} {g : G} {x : V} {d : D} (r : Rep K g x d) (f : flatD d = true) : ∀ {vs : List V} {ds : List D}, Reps K g vs ds → ds.all flatD = true → inV x vs = ds.any fun e => eqF e d
  | _, _, .nil, _ => rfl
  | _, _, .cons q t, h => by
    rw [List.all_cons, Bool.and_eq_true] at h
    have ih := inV_reps r f t h.2
    unfold inV at ih ⊢
    rw [List.any_cons, List.any_cons, ih, eqF_rep q r h.1 f]
def inF (neg : Bool) (x y : D) : Py D := Py.bnd (items y) fun ds => Py.chk (flatD x = true ∧ ds.all flatD = true) (Py.ret (.bl (if neg then !(ds.any fun e => eqF e x) else ds.any fun e => eqF e x)))
theorem do_inF : DOp C (compareOp .In) (inF false) := DOp.of op_in_seq fun {g ρ M σ H x y dx dy} Q R rx ry p => by
  obtain ⟨a, vs, ds, rfl, hs, t, p1⟩ := items_post R.h ry (post_bnd.mp p)
  obtain ⟨⟨f1, f2⟩, q⟩ := post_chk.mp p1
  refine ⟨a, vs, rfl, hs, flat_rep rx f1, flat_reps t f2, ?_⟩
  rw [inV_reps rx f1 t f2]
  exact QV.here q R (.bl _)
theorem do_notInF : DOp C (compareOp .NotIn) (inF true) := DOp.of op_notIn_seq fun {g ρ M σ H x y dx dy} Q R rx ry p => by
  obtain ⟨a, vs, ds, rfl, hs, t, p1⟩ := items_post R.h ry (post_bnd.mp p)
  obtain ⟨⟨f1, f2⟩, q⟩ := post_chk.mp p1
  refine ⟨a, vs, rfl, hs, flat_rep rx f1, flat_reps t f2, ?_⟩
  rw [inV_reps rx f1 t f2]
  exact QV.here q R (.bl _)

/-! ### items, slices -/
def ixD (x y : D) : Py D := match x, y with
  | .str z, .int i => Py.chk (z.length ≤ sizeLine) (match atI z.cps.toList i with | some c => Py.ret (.str ⟨#[c]⟩) | none => Py.bad)
  | x, .int i => Py.bnd (items x) fun ds => match atI ds i with | some d => Py.ret d | none => Py.bad
  | _, _ => Py.bad
theorem atI_reps {K : PySem.W.Frag} {g : G} {vs : List V} {ds : List D} {i : Int} {d : D} (t : Reps K g vs ds) (e : atI ds i = some d) : ∃ v, atI vs i = some v ∧ Rep K g v d := by
  unfold atI at e ⊢
  rw [t.length]
  obtain ⟨j, h1, h2⟩ := Option.bind_eq_some_iff.mp e
  obtain ⟨v, h3, h4⟩ := t.get h2
  exact ⟨v, by rw [h1]; exact h3, h4⟩
theorem ixD_cases {x y : D} {M : Store} {q : D → Store → Prop} {E : Exn → Store → Prop} (p : Post (ixD x y M) q E) :
    (∃ z i c, x = .str z ∧ y = .int i ∧ z.length ≤ sizeLine ∧ atI z.cps.toList i = some c ∧ q (.str ⟨#[c]⟩) M) ∨ ∃ i, y = .int i ∧ Post (items x M) (fun ds M' => ∃ d, atI ds i = some d ∧ q d M') E := by
  have gen : ∀ {x : D} {i : Int}, Post (Py.bnd (items x) (fun ds => match atI ds i with | some d => Py.ret d | none => Py.bad) M) q E → Post (items x M) (fun ds M' => ∃ d, atI ds i = some d ∧ q d M') E := by
    intro x i p
    refine (post_bnd.mp p).imp fun ds M' p' => ?_
    cases e : atI ds i with
    | none => rw [e] at p'; exact p'.elim
    | some d => rw [e] at p'; exact ⟨d, rfl, p'⟩
  cases y with
  | int i =>
    cases x with
    | str z =>
      obtain ⟨h1, p1⟩ := post_chk.mp p
      left
      cases e : atI z.cps.toList i with
      | none => rw [e] at p1; exact p1.elim
      | some c => rw [e] at p1; exact ⟨z, i, c, rfl, rfl, h1, e, p1⟩
    | _ => exact .inr ⟨i, rfl, gen p⟩
  | _ => cases x <;> exact p.elim
variable {a b : Expr} {fa fb : DEnv → Py D} {pos : Pos}
theorem de_ix (ha : DE C a fa) (hb : DE C b fb) (hs : PlainIx b := by exact fun _ _ => rfl) : DE C (.Subscript a b pos) (eOp ixD fa fb) := ⟨fun {g ρ M σ H} Q R p => by
  refine wpe (pe_ix ix_seq self_e self_e hs) (ha.then_ R p fun v d M1 H1 g1 l1 R1 r1 p1 => hb.then_ R1 p1 fun u e M2 H2 g2 l2 R2 r2 p2 => ?_)
  rcases ixD_cases p2 with ⟨z, i, c, rfl, rfl, hz, e, q⟩ | ⟨i, rfl, p3⟩
  · exact .inr (.inr ⟨z, i, c, rep_str (r1.mono l2), rep_int r2, hz, e, QV.here (QV.later (g' := g2) q (l1.trans l2)) R2 (.str _)⟩)
  · obtain ⟨a', vs, ds, ea, hs, t, d', e, q⟩ := items_post R2.h (r1.mono l2) p3
    obtain ⟨w', e1, e2⟩ := atI_reps t e
    rcases hs with hs | hs
    · exact .inl ⟨a', vs, i, w', ea, rep_int r2, hs, e1, QV.here (QV.later (g' := g2) q (l1.trans l2)) R2 e2⟩
    · exact .inr (.inl ⟨a', vs, i, w', ea, rep_int r2, hs, e1, QV.here (QV.later (g' := g2) q (l1.trans l2)) R2 e2⟩)⟩

/-- a part of a slice -/
structure DO (C : DX) (e : Option Expr) (f : DEnv → Py (Option Int)) : Prop where
  run : ∀ {g : G} {ρ : DEnv} {M : Store} {σ : St} {H : Hp}, Rl C g ρ M σ H → ∀ (q : Option Int → Store → Prop), Post (f ρ M) q (C.We ρ) → ∃ t : TO, PO C.X e t ∧ ∀ Q : Option Int → Hp → Prop, (∀ o M' H' g', g.le g' → Rl C g' ρ M' σ H' → q o M' → Q o H') → t σ H Q
def oNone : DEnv → Py (Option Int) := fun _ => Py.ret none
def toI : D → Py (Option Int)
  | .int i => Py.ret (some i)
  | _ => Py.bad
def oSome (f : DEnv → Py D) : DEnv → Py (Option Int) := fun ρ => Py.bnd (f ρ) toI
/-- by the reading -/
structure DOp2 (C : DX) (e : Option Expr) (f : DEnv → Py (Option Int)) (t : TO) : Prop where
  po : PO C.X e t
  run : ∀ {g : G} {ρ : DEnv} {M : Store} {σ : St} {H : Hp} {α : Type} {k : Option Int → Py α} {q : α → Store → Prop} {Q : Option Int → Hp → Prop}, Rl C g ρ M σ H → Post (Py.bnd (f ρ) k M) q (C.We ρ) →
    (∀ (o : Option Int) (M' : Store) (H' : Hp) (g' : G), g.le g' → Rl C g' ρ M' σ H' → Post (k o M') q (C.We ρ) → Q o H') → t σ H Q
theorem do_none : DOp2 C none oNone tNoPart := ⟨po_none, fun {g ρ M σ H α k q Q} R p go => go none M H g (G.le.refl g) R p⟩
theorem do_some {e : Expr} {f : DEnv → Py D} (h : DE C e f) : DOp2 C (some e) (oSome f) (tPart (WPE C.X e)) := ⟨po_some self_e, fun {g ρ M σ H α k q Q} R p go => by
  refine h.run _ R (Post.imp (post_bnd.mp (post_bnd.mp p)) fun d M' p' => ?_)
  intro v H' g' l R' r
  cases d with
  | int i => exact ⟨i, rep_int r, go (some i) M' H' g' l R' p'⟩
  | _ => exact p'.elim⟩
def cutD (xs : List D) (lo hi : Option Int) : List D := (xs.drop (HT.sIx xs.length 0 lo)).take (HT.sIx xs.length xs.length hi - HT.sIx xs.length 0 lo)
theorem Reps.cut {K : PySem.W.Frag} {g : G} {vs : List V} {ds : List D} (h : Reps K g vs ds) (lo hi : Option Int) : Reps K g (cutV vs lo hi) (cutD ds lo hi) := by
  unfold cutV cutD
  rw [h.length]
  exact (h.drop _).take _
def cutS' (z : Str) (lo hi : Option Int) : Str := cutS z lo hi
def slD (x : D) (lo hi : Option Int) : Py D := match x with
  | .tup xs => Py.ret (.tup (cutD xs lo hi))
  | .str z => Py.chk (z.length ≤ sizeLine) (Py.ret (.str (cutS z lo hi)))
  | x => Py.bnd (litems x) fun xs => Py.ret (.lst (cutD xs lo hi))
def eSl (fa : DEnv → Py D) (fl fh : DEnv → Py (Option Int)) : DEnv → Py D := fun ρ => Py.bnd (fa ρ) fun x => Py.bnd (fl ρ) fun lo => Py.bnd (fh ρ) fun hi => slD x lo hi
theorem cutV_whole {vs : List V} {lo hi : Option Int} (h : HT.sIx vs.length 0 lo = 0 ∧ HT.sIx vs.length vs.length hi = vs.length) : cutV vs lo hi = vs := by
  unfold cutV
  rw [h.1, h.2, List.drop_zero, Nat.sub_zero, List.take_length]
theorem cutD_whole {vs : List D} {lo hi : Option Int} (h : HT.sIx vs.length 0 lo = 0 ∧ HT.sIx vs.length vs.length hi = vs.length) : cutD vs lo hi = vs := by
  unfold cutD
  rw [h.1, h.2, List.drop_zero, Nat.sub_zero, List.take_length]
theorem de_sl {e : Expr} {f : DEnv → Py D} {lo hi : Option Expr} {fl fh : DEnv → Py (Option Int)} {tl th : TO} {p2 : Pos} (he : DE C e f) (hl : DOp2 C lo fl tl) (hh : DOp2 C hi fh th) : DE C (.Subscript e (.Slice lo hi none p2) pos) (eSl f fl fh) := ⟨fun {g ρ M σ H} Q R p => by
  refine wpe (pe_slice (sl_list.or (sl_tupA.or sl_str)) self_e hl.po hh.po) (he.then_ R p fun v d M1 H1 g1 l1 R1 r1 p1 => hl.run R1 p1 fun o M2 H2 g2 l2 R2 p2 => hh.run R2 p2 fun u M3 H3 g3 l3 R3 p3 => ?_)
  have r3 := r1.mono (l2.trans l3)
  have L := (l1.trans l2).trans l3
  have lst : ∀ {d : D}, Rep C.X.K g3 v d → Post (Py.bnd (litems d) (fun xs => Py.ret (.lst (cutD xs o u))) M3) (QV C g ρ σ Q) (C.We ρ) → rSlL C.X.K v o u H3 Q := by
    intro d r3 p3
    obtain ⟨a', vs, ds, ea, hs, t, q⟩ := litems_post R3.h r3 (post_bnd.mp p3)
    exact ⟨a', vs, ea, hs, fun p hp => QV.lay (QV.later (g' := g3) q L) R3 hp (rep_lst_new (t.cut o u) (R3.h.fnone hp))⟩
  cases d with
  | tup xs =>
    right; left
    cases r3 with
    | tup s t =>
      refine ⟨_, _, rfl, .of (R3.h.frz _ _ s), fun w' => ?_, fun w' p hp => ?_⟩
      · refine QV.here (QV.later (g' := g3) p3 L) R3 ?_
        rw [t.length] at w'
        rw [cutD_whole w']
        exact .tup s t
      · exact QV.lay (QV.later (g' := g3) p3 L) R3 hp (rep_tup_new (t.cut o u) (R3.h.fnone hp))
  | str z =>
    right; right
    obtain ⟨hz, q⟩ := post_chk.mp p3
    exact ⟨z, rep_str r3, hz, QV.here (QV.later (g' := g3) q L) R3 (.str _)⟩
  | lst xs => exact .inl (lst r3 p3)
  | ro xs => exact .inl (lst r3 p3)
  | loc n => exact .inl (lst r3 p3)
  | _ => exact p3.elim⟩
end
end L3
set_option Elab.async false
set_option linter.all false
set_option maxRecDepth 100000
set_option autoImplicit false
namespace L3
open PySem PySem.Spec L2
open PyProof.Rows hiding St

/-- what may not raise -/
def noX {α : Type} (m : Py α) : Py α := fun M => match m M with
  | .exc _ _ => .bad
  | o => o
theorem noX_post {α : Type} {m : Py α} {M : Store} {q : α → Store → Prop} {E : Exn → Store → Prop} (p : Post (noX m M) q E) : Post (m M) q fun _ _ => False := by
  unfold noX at p
  cases h : m M with
  | ok a M' => rw [h] at p; exact p
  | exc e M' => rw [h] at p; exact p.elim
  | bad => rw [h] at p; exact p.elim
/-! ### targets -/
/-- t: what the layer below asks; vs: the places that it writes -/
structure DG (C : DX) (vs : List Nat) (tg : Expr) (f : D → DEnv → Py DEnv) (t : TG) : Prop where
  pg : PG C.X tg t
  run : ∀ {g : G} {ρ : DEnv} {M : Store} {σ : St} {H : Hp} {v : V} {d : D} (Q : St → Hp → Prop), Rl C g ρ M σ H → Rep C.X.K g v d →
    Post (f d ρ M) (fun ρ' M' => ∀ σ' H' g', g.le g' → Rl C g' ρ' M' σ' H' → L2.wipe σ' vs = L2.wipe σ vs → Q σ' H') (C.We ρ) → t v σ H Q
structure DGs (C : DX) (vs : List Nat) (tgs : List Expr) (f : List D → DEnv → Py DEnv) (t : TGs) : Prop where
  pg : PGs C.X tgs t
  run : ∀ {g : G} {ρ : DEnv} {M : Store} {σ : St} {H : Hp} {xs : List V} {ds : List D} (Q : St → Hp → Prop), Rl C g ρ M σ H → Reps C.X.K g xs ds →
    Post (f ds ρ M) (fun ρ' M' => ∀ σ' H' g', g.le g' → Rl C g' ρ' M' σ' H' → L2.wipe σ' vs = L2.wipe σ vs → Q σ' H') (fun _ _ => False) → t xs σ H Q
def gSet (i : Nat) : D → DEnv → Py DEnv := fun d ρ => Py.ret (ρ.set i (some d))
def gsNil : List D → DEnv → Py DEnv := fun ds ρ => match ds with
  | [] => Py.ret ρ
  | _ => Py.bad
def gsCons (f : D → DEnv → Py DEnv) (r : List D → DEnv → Py DEnv) : List D → DEnv → Py DEnv := fun ds ρ => match ds with
  | [] => Py.bad
  | d :: ds => Py.bnd (f d ρ) fun ρ' => r ds ρ'
def gUnp (n : Nat) (f : List D → DEnv → Py DEnv) : D → DEnv → Py DEnv := fun d ρ => match d with
  | .tup xs => Py.chk (xs.length = n) (noX (f xs ρ))
  | _ => Py.bad
section
variable {C : DX} {pos : Pos}
theorem Rl.set {g : G} {ρ : DEnv} {M : Store} {σ : St} {H : Hp} (R : Rl C g ρ M σ H) (i : Nat) {v : V} {d : D} (r : Rep C.X.K g v d) : Rl C g (ρ.set i (some d)) M (σ.set i (some v)) H := ⟨R.b, R.h, R.e.set i r⟩
variable {vs : List Nat}
theorem dg_name {i : Nat} {x : Str} (hN : C.X.N.Nodup) (hi : C.X.N[i]? = some x := by rfl) (hx : Loc C.X.env.scope x := by first | exact Or.inl rfl | exact Or.inr rfl) (hf : C.X.fn x = true ∨ C.X.env.scope.names.lookup x = some .local := by first | exact .inl rfl | exact .inr rfl) (hv : i ∈ vs := by decide) : DG C vs (.Name x pos) (gSet i) (gName i) :=
  ⟨pg_name hN hi hx hf, fun {g ρ M σ H v d} Q R r p => p _ _ g (G.le.refl g) (R.set i r) (wipe_set hv)⟩
theorem dgs_nil : DGs C vs [] gsNil gNil := ⟨pgs_nil, fun {g ρ M σ H xs ds} Q R r p => by
  cases r with
  | nil => exact ⟨rfl, p _ _ g (G.le.refl g) R rfl⟩
  | cons a b => exact p.elim⟩
theorem dgs_cons {e : Expr} {es : List Expr} {f : D → DEnv → Py DEnv} {r : List D → DEnv → Py DEnv} {t : TG} {u : TGs} (h1 : DG C vs e f t) (h2 : DGs C vs es r u)
    (hs : (assignEach (e :: es) C.X.env).map (·.2) = assign e C.X.env :: (assignEach es C.X.env).map (·.2) := by rfl) : DGs C vs (e :: es) (gsCons f r) (gCons t u) :=
  ⟨pgs_cons h1.pg h2.pg hs, fun {g ρ M σ H xs ds} Q R rr p => by
    cases rr with
    | nil => exact p.elim
    | cons a b =>
      refine ⟨_, _, rfl, h1.run _ R a ((post_bnd.mp p).mono (fun ρ' M' p' σ' H' g' l R' w => h2.run _ R' (b.mono l) (p'.imp fun ρ'' M'' q σ'' H'' g'' l' R'' w' => q σ'' H'' g'' (l.trans l') R'' (w'.trans w))) fun _ _ z => z.elim)⟩⟩
theorem dg_tup {es : List Expr} {K : PySem.W.Frag} {k n : Nat} {f : List D → DEnv → Py DEnv} {t : TGs} (hc : C.X.calm = true) (h : DGs C vs es f t) (hn : (assignEach es C.X.env).length = n := by rfl) (hst : (assignEach es C.X.env).findIdx? (·.1) = none := by rfl) (hK : C.X.K = K := by rfl) : DG C vs (.Tuple es k pos) (gUnp n f) (gTup K n t) := hK ▸
  ⟨pg_tup hc h.pg hn hst, fun {g ρ M σ H v d} Q R r p => by
    cases r with
    | @tup a xs ds s q =>
      obtain ⟨hl, p'⟩ := post_chk.mp p
      exact ⟨a, xs, rfl, .of (R.h.frz _ _ s), by rw [q.length]; exact hl, h.run Q R q (noX_post p')⟩
    | _ => exact p.elim⟩
end

/-! ### what is walked -/
structure Wk where
  ds : List D
  /-- what must stand while it is walked -/
  ok : Store → Prop
structure WalkD (K : PySem.W.Frag) (g : G) (w : Wk) (J : It) (Gd : Hp → Prop) (Y : Nat → Hp → V → Hp → Prop) : Prop where
  wk : Walk J w.ds.length Gd Y
  ok : ∀ {g' : G} {M : Store} {H : Hp}, g.sub g' → RelH K g' M H → w.ok M → Gd H
  it : ∀ {g' : G} {M : Store} {H H' : Hp} {i : Nat} {x : V}, g.sub g' → RelH K g' M H → w.ok M → Y i H x H' → ∃ d g'', w.ds[i]? = some d ∧ g'.le g'' ∧ RelH K g'' M H' ∧ Rep K g'' x d
structure DI (C : DX) (tg iter : Expr) (f : DEnv → Py Wk) : Prop where
  run : ∃ wi : TI, PI C.X tg iter wi ∧ ∀ {g : G} {ρ : DEnv} {M : Store} {σ : St} {H : Hp} (R : It → Hp → Prop), Rl C g ρ M σ H →
    Post (f ρ M) (fun w M' => ∀ J H' g' Gd Y, g.le g' → Rl C g' ρ M' σ H' → WalkD C.X.K g' w J Gd Y → R J H') (C.We ρ) → wi σ H R
/-- the items of a list or a tuple; a list that changes must stand as it is -/
def wkOf (d : D) : Py Wk := match d with
  | .loc n => fun M => match M[n]? with
    | some (some (.lst xs)) => .ok ⟨xs, fun M' => M'[n]? = some (some (.lst xs))⟩ M
    | _ => .bad
  | d => Py.bnd (items d) fun xs => Py.ret ⟨xs, fun _ => True⟩
def wkL (d : D) : Py Wk := match d with
  | .tup _ => Py.bad
  | d => wkOf d
def wkT (d : D) : Py Wk := match d with
  | .tup xs => Py.ret ⟨xs, fun _ => True⟩
  | _ => Py.bad
def iSeq (wk : D → Py Wk) (f : DEnv → Py D) : DEnv → Py Wk := fun ρ => Py.bnd (f ρ) wk
theorem wkL_post {K : PySem.W.Frag} {g : G} {M : Store} {H : Hp} {v : V} {d : D} {q : Wk → Store → Prop} {E : Exn → Store → Prop} (R : RelH K g M H) (r : Rep K g v d) (p : Post (wkL d M) q E) :
    ∃ a vs w, v = .ref a ∧ SqL K H a vs ∧ Reps K g vs w.ds ∧ q w M ∧ ∀ {g' : G} {M' : Store} {H' : Hp}, g.sub g' → RelH K g' M' H' → w.ok M' → ∃ vs', SqL K H' a vs' ∧ Reps K g' vs' w.ds := by
  cases r with
  | tup s t => exact p.elim
  | lst s t => exact ⟨_, _, _, rfl, .of (R.frz _ _ s), t, p, fun l R' _ => ⟨_, .of (R'.frz _ _ (l.F _ _ s)), t.gro l⟩⟩
  | ro s t => exact ⟨_, _, _, rfl, sqL_mono R.frz s, t, p, fun l R' _ => ⟨_, sqL_mono R'.frz (sqL_mono l.F s), t.gro l⟩⟩
  | @loc n a e1 =>
    have p' : Post ((match M[n]? with | some (some (.lst xs)) => .ok ⟨xs, fun M' => M'[n]? = some (some (.lst xs))⟩ M | _ => .bad) : Out Wk) q E := p
    split at p'
    · rename_i xs e
      obtain ⟨a', vs, ea, e2, e4, e5⟩ := loc_lst R (.loc e1) e
      refine ⟨a', vs, _, ea, .of e4, e5, p', fun {g' M' H'} l R' ok => ?_⟩
      obtain ⟨r, hr⟩ := l.io
      have e6 : g'.io[n]? = some a' := by
        rw [hr, List.getElem?_append_left (List.getElem?_eq_some_iff.mp e2).1]
        exact e2
      have ok' : M'[n]? = some (some (.lst xs)) := ok
      obtain ⟨a2, vs2, ea2, e7, e8, e9⟩ := loc_lst R' (.loc e6) ok'
      cases ea2
      exact ⟨vs2, .of e8, e9⟩
    · exact p'.elim
  | _ => exact p.elim
/-- over a list, as it stands at each turn -/
theorem walkD_list {K : PySem.W.Frag} {g : G} {w : Wk} {a : Addr} (h : ∀ {g' : G} {M' : Store} {H' : Hp}, g.sub g' → RelH K g' M' H' → w.ok M' → ∃ vs', SqL K H' a vs' ∧ Reps K g' vs' w.ds) :
    WalkD K g w (Itl K a) (fun H => ∃ vs, SqL K H a vs ∧ vs.length = w.ds.length) (fun i H x H' => H' = H ∧ ∀ vs, SqL K H a vs → vs[i]? = some x) where
  wk := ⟨fun i H hi ⟨vs, q, e⟩ => ⟨vs, vs[i]'(by omega), q, by simp⟩, fun H ⟨vs, q, e⟩ => ⟨vs, q, by omega⟩, fun i H x H' hi _ y => y⟩
  ok := fun l R o => let ⟨vs, q, r⟩ := h l R o; ⟨vs, q, r.length⟩
  it := fun {g' M H H' i x} l R o y => by
    obtain ⟨vs, q, r⟩ := h l R o
    obtain ⟨rfl, y⟩ := y
    obtain ⟨d, e1, e2⟩ := r.getV (y vs q)
    exact ⟨d, g', e1, G.le.refl g', R, e2⟩
theorem walkD_tup {K : PySem.W.Frag} {g : G} {a : Addr} {vs : List V} {ds : List D} {ok : Store → Prop} (s : g.F a = some (.tup vs)) (t : Reps K g vs ds) :
    WalkD K g ⟨ds, ok⟩ (Itt K a) (fun H => SqT K H a vs) (YAt vs) where
  wk := by
    show Walk _ ds.length _ _
    rw [← t.length]
    exact walk_tup
  ok := fun l R _ => .of (R.frz _ _ (l.F _ _ s))
  it := fun {g' M H H' i x} l R o y => by
    obtain ⟨rfl, y⟩ := y
    obtain ⟨d, e1, e2⟩ := (t.gro l).getV y
    exact ⟨d, g', e1, G.le.refl g', R, e2⟩
section
variable {C : DX} {pos : Pos} {tg e : Expr} {f : DEnv → Py D}
theorem di_list (h : DE C e f) : DI C tg e (iSeq wkL f) := ⟨_, pi_list self_e, fun {g ρ M σ H} R Rr p => by
  refine h.then_ Rr p fun v d M1 H1 g1 l1 R1 r1 p1 => ?_
  obtain ⟨a, vs, w, rfl, q1, q2, q3, q4⟩ := wkL_post R1.h r1 p1
  exact ⟨a, rfl, ⟨vs, q1⟩, q3 _ H1 g1 _ _ l1 R1 (walkD_list q4)⟩⟩
theorem di_tup (h : DE C e f) : DI C tg e (iSeq wkT f) := ⟨_, pi_tup self_e, fun {g ρ M σ H} R Rr p => by
  refine h.then_ Rr p fun v d M1 H1 g1 l1 R1 r1 p1 => ?_
  cases r1 with
  | @tup a vs ds s t => exact ⟨a, rfl, ⟨vs, .of (R1.h.frz _ _ s)⟩, Post.imp (Q := _) (E := C.We ρ) (o := Out.ok (⟨ds, fun _ => True⟩ : Wk) M1) p1 (fun _ _ z => z) _ H1 g1 _ _ l1 R1 (walkD_tup s t)⟩
  | _ => exact p1.elim⟩
def rngD (lo hi : Int) : List D := (List.range (hi - lo).toNat).map fun i => .int (lo + (i : Nat))
theorem rngD_get {lo hi : Int} {i : Nat} (h : i < (hi - lo).toNat) : (rngD lo hi)[i]? = some (.int (lo + (i : Nat))) := by
  unfold rngD
  rw [List.getElem?_map, List.getElem?_range h]
  rfl
theorem rngD_length {lo hi : Int} : (rngD lo hi).length = (hi - lo).toNat := by
  unfold rngD
  rw [List.length_map, List.length_range]
theorem walkD_range {K : PySem.W.Frag} {g : G} {lo hi : Int} {ok : Store → Prop} : WalkD K g ⟨rngD lo hi, ok⟩ (Itr lo (hi - lo).toNat) (fun _ => True) (fun i H x H' => i < (hi - lo).toNat ∧ H' = H ∧ x = .int (lo + i)) where
  wk := by
    show Walk _ (rngD lo hi).length _ _
    rw [rngD_length]
    exact ⟨fun _ _ hi _ => hi, fun _ _ => Nat.le_refl _, fun _ _ _ _ hi _ y => ⟨hi, y⟩⟩
  ok := fun _ _ _ => trivial
  it := fun {g' M H H' i x} l R o y => by
    obtain ⟨hi, rfl, rfl⟩ := y
    exact ⟨_, g', rngD_get hi, G.le.refl g', R, .int _⟩
def rngW1 : List D → Py Wk
  | [.int j] => Py.chk (-(2 ^ 62) ≤ j ∧ j < 2 ^ 62) (Py.ret ⟨rngD 0 j, fun _ => True⟩)
  | _ => Py.bad
def rngW2 : List D → Py Wk
  | [.int i, .int j] => Py.chk (-(2 ^ 62) ≤ i ∧ i < 2 ^ 62 ∧ -(2 ^ 62) ≤ j ∧ j < 2 ^ 62) (Py.ret ⟨rngD i j, fun _ => True⟩)
  | _ => Py.bad
theorem rngW1_post {ds : List D} {M : Store} {q : Wk → Store → Prop} {E : Exn → Store → Prop} (p : Post (rngW1 ds M) q E) : ∃ j, ds = [.int j] ∧ (-(2 ^ 62) ≤ j ∧ j < 2 ^ 62) ∧ q ⟨rngD 0 j, fun _ => True⟩ M := by
  unfold rngW1 at p
  split at p
  · obtain ⟨h, q⟩ := post_chk.mp p
    exact ⟨_, rfl, h, q⟩
  · exact p.elim
theorem rngW2_post {ds : List D} {M : Store} {q : Wk → Store → Prop} {E : Exn → Store → Prop} (p : Post (rngW2 ds M) q E) : ∃ i j, ds = [.int i, .int j] ∧ (-(2 ^ 62) ≤ i ∧ i < 2 ^ 62 ∧ -(2 ^ 62) ≤ j ∧ j < 2 ^ 62) ∧ q ⟨rngD i j, fun _ => True⟩ M := by
  unfold rngW2 at p
  split at p
  · obtain ⟨h, q⟩ := post_chk.mp p
    exact ⟨_, _, rfl, h, q⟩
  · exact p.elim
def iRng1D (ff : DEnv → Py (List D)) : DEnv → Py Wk := fun ρ => Py.bnd (ff ρ) rngW1
def iRng2D (ff : DEnv → Py (List D)) : DEnv → Py Wk := fun ρ => Py.bnd (ff ρ) rngW2
variable {a b : Expr} {ff : DEnv → Py (List D)} {p : Pos}
theorem di_rng1 (hm : C.X.mg "range" = none) (ha : DA C [a] ff) (hg : Gl C.X "range" := by rfl) (hs : starEach [a] C.X.env = [(false, eval a C.X.env)] := by rfl) : DI C tg (.Call (.Name "range" p) [a] [] pos) (iRng1D ff) :=
  ⟨_, pi_range1 hg hm self_a hs, fun {g ρ M σ H} R Rr p => by
    refine ha.then_ Rr p fun vs ds M1 H1 g1 l1 R1 r1 p1 => ?_
    obtain ⟨j, rfl, ⟨b1, b2⟩, q⟩ := rngW1_post p1
    obtain ⟨v, rfl, r⟩ := r1.one
    have W := walkD_range (K := C.X.K) (g := g1) (lo := 0) (hi := j) (ok := fun _ => True)
    rw [Int.sub_zero] at W
    exact ⟨j, by rw [rep_int r], b1, b2, q _ H1 g1 _ _ l1 R1 W⟩⟩
theorem di_rng2 (hm : C.X.mg "range" = none) (ha : DA C [a, b] ff) (hg : Gl C.X "range" := by rfl) (hs : starEach [a, b] C.X.env = [(false, eval a C.X.env), (false, eval b C.X.env)] := by rfl) (hs2 : starEach [b] C.X.env = [(false, eval b C.X.env)] := by rfl) : DI C tg (.Call (.Name "range" p) [a, b] [] pos) (iRng2D ff) :=
  ⟨_, pi_range2 hg hm self_a hs hs2, fun {g ρ M σ H} R Rr p => by
    refine ha.then_ Rr p fun vs ds M1 H1 g1 l1 R1 r1 p1 => ?_
    obtain ⟨i, j, rfl, ⟨b1, b2, b3, b4⟩, q⟩ := rngW2_post p1
    obtain ⟨v, w', rfl, r, r'⟩ := r1.two
    exact ⟨i, j, by rw [rep_int r, rep_int r'], ⟨b1, b2, b3, b4⟩, q _ H1 g1 _ _ l1 R1 walkD_range⟩⟩
/-- pairs: enumerate, zip -/
theorem walkD_pairs {K : PySem.W.Frag} {g : G} {w : Wk} {J : It} {Gd : Hp → Prop} {Y : Nat → Hp → V → Hp → Prop} (wk : Walk J w.ds.length Gd Y) (ok : ∀ {g' : G} {M : Store} {H : Hp}, g.sub g' → RelH K g' M H → w.ok M → Gd H)
    (it : ∀ {g' : G} {M : Store} {H H' : Hp} {i : Nat} {x : V}, g.sub g' → RelH K g' M H → w.ok M → Y i H x H' → ∃ T v u a b, x = .ref T ∧ H T = none ∧ H' = upd H T (.tup [v, u]) ∧ w.ds[i]? = some (.tup [a, b]) ∧ Rep K g' v a ∧ Rep K g' u b) : WalkD K g w J Gd Y where
  wk := wk
  ok := ok
  it := fun {g' M H H' i x} l R o y => by
    obtain ⟨T, v, u, a, b, rfl, hT, rfl, e, r1, r2⟩ := it l R o y
    exact ⟨_, g'.add T (.tup [v, u]), e, G.le_add (R.fnone hT), R.laid hT, rep_tup_new (.cons r1 (.cons r2 .nil)) (R.fnone hT)⟩
def enumD (n : Nat) : List D → List D
  | [] => []
  | d :: ds => .tup [.int n, d] :: enumD (n + 1) ds
theorem enumD_length : ∀ (ds : List D) (n : Nat), (enumD n ds).length = ds.length
  | [], _ => rfl
  | _ :: ds, n => congrArg (· + 1) (enumD_length ds (n + 1))
theorem enumD_get : ∀ (ds : List D) (n i : Nat) (d : D), ds[i]? = some d → (enumD n ds)[i]? = some (.tup [.int ((n + i : Nat) : Int), d])
  | [], _, _, _, h => by simp at h
  | e :: ds, n, 0, d, h => by
    have h' : some e = some d := by simpa using h
    cases h'
    rfl
  | e :: ds, n, i + 1, d, h => by
    have h' : ds[i]? = some d := by simpa using h
    have := enumD_get ds (n + 1) i d h'
    show (enumD (n + 1) ds)[i]? = _
    rw [this]
    congr 3
    have : n + 1 + i = n + (i + 1) := by omega
    rw [this]
def wkEnum (wk : D → Py Wk) : List D → Py Wk
  | [d] => Py.bnd (wk d) fun w => Py.ret ⟨enumD 0 w.ds, w.ok⟩
  | _ => Py.bad
theorem wkEnum_post {wk : D → Py Wk} {ds : List D} {M : Store} {q : Wk → Store → Prop} {E : Exn → Store → Prop} (p : Post (wkEnum wk ds M) q E) : ∃ d, ds = [d] ∧ Post (wk d M) (fun w M' => q ⟨enumD 0 w.ds, w.ok⟩ M') E := by
  unfold wkEnum at p
  split at p
  · exact ⟨_, rfl, post_bnd.mp p⟩
  · exact p.elim
def iEnumD (wk : D → Py Wk) (ff : DEnv → Py (List D)) : DEnv → Py Wk := fun ρ => Py.bnd (ff ρ) (wkEnum wk)
theorem di_enum {tpos : Pos} {elts : List Expr} {kk : Nat} (hm : C.X.mg "enumerate" = none) (ha : DA C [a] ff) (hg : Gl C.X "enumerate" := by rfl) (hs : starEach [a] C.X.env = [(false, eval a C.X.env)] := by rfl) : DI C (.Tuple elts kk tpos) (.Call (.Name "enumerate" p) [a] [] pos) (iEnumD wkL ff) :=
  ⟨_, pi_enum hg hm self_a hs, fun {g ρ M σ H} R Rr p => by
    refine ha.then_ Rr p fun vs ds M1 H1 g1 l1 R1 r1 p1 => ?_
    obtain ⟨d, rfl, p2⟩ := wkEnum_post p1
    obtain ⟨v, rfl, r⟩ := r1.one
    obtain ⟨a', us, w, rfl, q1, q2, q3, q4⟩ := wkL_post R1.h r p2
    refine ⟨a', us, rfl, q1, q3 _ H1 g1 (fun H => ∃ vs, SqL C.X.K H a' vs ∧ vs.length = w.ds.length) (fun i H v H' => ∃ T x, v = .ref T ∧ H T = none ∧ H' = upd H T (.tup [.int (i : Nat), x]) ∧ ∀ xs, SqL C.X.K H a' xs → xs[i]? = some x) l1 R1 (walkD_pairs ?_ ?_ ?_)⟩
    · show Walk _ (enumD 0 w.ds).length _ _
      rw [enumD_length]
      exact ⟨fun i H hi ⟨vs, q, e⟩ => ⟨vs, vs[i]'(by omega), q, by simp⟩, fun H ⟨vs, q, e⟩ => ⟨vs, q, by omega⟩, fun i H x H' hi _ y => y⟩
    · intro g' M H l R o
      obtain ⟨vs, q, r⟩ := q4 l R o
      exact ⟨vs, q, r.length⟩
    · intro g' M H H' i x l R o y
      obtain ⟨T, x', rfl, hT, rfl, h⟩ := y
      obtain ⟨vs, q, r⟩ := q4 l R o
      obtain ⟨d', e1, e2⟩ := r.getV (h vs q)
      have e3 := enumD_get w.ds 0 i d' e1
      rw [Nat.zero_add] at e3
      exact ⟨T, _, x', .int (i : Nat), d', rfl, hT, rfl, e3, .int _, e2⟩⟩
end

/-! ### for -/
open Classical in
noncomputable def okM {α : Type} (ok : Store → Prop) (k : Py α) : Py α := fun M => if ok M then k M else .bad
theorem okM_post {α : Type} {ok : Store → Prop} {k : Py α} {M : Store} {q : α → Store → Prop} {E : Exn → Store → Prop} (p : Post (okM ok k M) q E) : ok M ∧ Post (k M) q E := by
  unfold okM at p
  split at p
  · rename_i h; exact ⟨h, p⟩
  · exact p.elim
/-- a loop's turns -/
noncomputable def forD (ok : Store → Prop) (tg : D → DEnv → Py DEnv) (body : DEnv → Py Fl) : List D → DEnv → Py Fl
  | [], ρ => okM ok (Py.ret (.nx ρ))
  | d :: ds, ρ => okM ok (Py.bnd (tg d ρ) fun ρ1 => Py.bnd (body ρ1) fun r => match r with
    | .nx ρ' => forD ok tg body ds ρ'
    | .ct ρ' => forD ok tg body ds ρ'
    | .bk ρ' => Py.ret (.nx ρ')
    | .rt v => Py.ret (.rt v))
noncomputable def sFor (it : DEnv → Py Wk) (tg : D → DEnv → Py DEnv) (body : DEnv → Py Fl) : DEnv → Py Fl := fun ρ => Py.bnd (it ρ) fun w => forD w.ok tg body w.ds ρ
section
variable {C : DX} {pos : Pos} {tg iter : Expr} {body : List Stmt} {it : DEnv → Py Wk} {ft : D → DEnv → Py DEnv} {fb : DEnv → Py Fl}
theorem ds_for (hp : PassesOwn (model C.X.prog C.X.w) C.X.A C.X.env C.X.xe) (hc : C.X.calm = true) (ev : C.Even) {vs : List Nat} {t : TG} (hi : DI C tg iter it) (hg : DG C vs tg ft t) (hb : DSs C body fb)
    (hs : ∀ x, foldedSetIterable iter C.X.env x = pure x := by intro _; rfl) : DS C (.For tg iter body [] pos) (sFor it ft fb) := by
  obtain ⟨wi, pi, hwi⟩ := hi.run
  refine ⟨fun {g ρ M σ H} E R p => wps (ps_for hp hc pi hg.pg self_ss hs) ?_⟩
  refine hwi _ R ((post_bnd.mp p).imp fun w M1 p1 J H1 g1 Gd Y l1 R1 WD => ?_)
  refine for_it WD.wk (fun i σ' H' => ∃ g' ρ' M', g1.le g' ∧ Rl C g' ρ' M' σ' H' ∧ Post (forD w.ok ft fb (w.ds.drop i) ρ' M') (QS C g E) (C.We ρ)) ⟨g1, ρ, M1, G.le.refl g1, R1, by rw [List.drop_zero]; exact p1⟩ ?_ ?_ ?_
  · rintro i σ' H' hi ⟨g', ρ', M', l', R', p'⟩
    have : w.ok M' := by
      cases e : w.ds.drop i with
      | nil => rw [e] at p'; exact (okM_post p').1
      | cons d ds => rw [e] at p'; exact (okM_post p').1
    exact WD.ok l'.sub R'.h this
  · rintro i x σ' H' H2 hi ⟨g', ρ', M', l', R', p'⟩ y
    have e : w.ds.drop i = w.ds[i] :: w.ds.drop (i + 1) := List.drop_eq_getElem_cons hi
    rw [e] at p'
    obtain ⟨ok, p2⟩ := okM_post p'
    obtain ⟨d, g2, e1, l2, R2, r⟩ := WD.it l'.sub R'.h ok y
    rw [List.getElem?_eq_getElem hi] at e1
    cases e1
    have Rl2 : Rl C g2 ρ' M' σ' H2 := R'.next l2 R2
    have L2 : g.le g2 := (l1.trans l').trans l2
    refine hg.run _ Rl2 r (((post_bnd.mp p2).mono (fun ρ3 M3 p3 σ3 H3 g3 l3 R3 _ => ?_) fun e' M'' z => ev _ _ _ _ z))
    refine hb.run _ R3 ((post_bnd.mp p3).mono (fun r M4 p4 => ?_) fun e' M'' z => ev _ _ _ _ z)
    cases r with
    | nx ρ4 => exact fun σ4 H4 g4 l4 R4 => ⟨g4, ρ4, M4, ((l'.trans l2).trans l3).trans l4, R4, p4⟩
    | ct ρ4 => exact fun σ4 H4 g4 l4 R4 => ⟨g4, ρ4, M4, ((l'.trans l2).trans l3).trans l4, R4, p4⟩
    | bk ρ4 => exact fun σ4 H4 g4 l4 R4 => p4 σ4 H4 g4 ((L2.trans l3).trans l4) R4
    | rt v => exact fun v4 H4 g4 l4 b4 R4 r4 => p4 v4 H4 g4 ((L2.trans l3).trans l4) b4 R4 r4
  · rintro σ' H' ⟨g', ρ', M', l', R', p'⟩
    rw [List.drop_length] at p'
    obtain ⟨_, p2⟩ := okM_post p'
    exact p2 σ' H' g' (l1.trans l') R'
end
end L3
set_option Elab.async false
set_option linter.all false
set_option maxRecDepth 100000
set_option autoImplicit false
namespace L3
open PySem PySem.Spec L2
open PyProof.Rows hiding St

/-! ### comprehensions -/
noncomputable def lcD (ok : Store → Prop) (tg : D → DEnv → Py DEnv) (tt : DEnv → Py Bool) (fe : DEnv → Py D) (ρ : DEnv) : List D → List D → Py (List D)
  | [], acc => okM ok (Py.ret acc)
  | d :: ds, acc => okM ok (Py.bnd (tg d ρ) fun ρ1 => Py.bnd (tt ρ1) fun b => if b then Py.bnd (fe ρ1) fun y => Py.chk (acc.length < sizeLine) (lcD ok tg tt fe ρ ds (acc ++ [y])) else lcD ok tg tt fe ρ ds acc)
noncomputable def lcAll (vs : List Nat) (it : DEnv → Py Wk) (tg : D → DEnv → Py DEnv) (tt : DEnv → Py Bool) (fe : DEnv → Py D) : DEnv → Py (List D) := fun ρ => Py.bnd (it ρ) fun w => noX (lcD w.ok tg tt fe (wipeD ρ vs) w.ds [])
/-- a new list that is never changed -/
noncomputable def eLc (vs : List Nat) (it : DEnv → Py Wk) (tg : D → DEnv → Py DEnv) (tt : DEnv → Py Bool) (fe : DEnv → Py D) : DEnv → Py D := fun ρ => Py.bnd (lcAll vs it tg tt fe ρ) fun ds => Py.ret (.lst ds)
/-- one that changes -/
noncomputable def eLcN (vs : List Nat) (it : DEnv → Py Wk) (tg : D → DEnv → Py DEnv) (tt : DEnv → Py Bool) (fe : DEnv → Py D) : DEnv → Py D := fun ρ => Py.bnd (lcAll vs it tg tt fe ρ) fun ds => alloc (.lst ds)
def tYesD : DEnv → Py Bool := fun _ => Py.ret true
theorem wipe_wipe {σ : St} {l : List Nat} : L2.wipe (L2.wipe σ l) l = L2.wipe σ l := by
  refine List.ext_getElem? fun j => ?_
  rw [wipe_at, wipe_at]
  by_cases hj : j ∈ l
  · rw [if_pos hj, if_pos hj]
    cases σ[j]? <;> rfl
  · rw [if_neg hj, if_neg hj]
/-- the block's context -/
abbrev DX.blk (C : DX) (scope : Scope) (B : G) (s : Shared) (H : Hp) (c : Addr) (cl : List (Str × Addr)) (fp : List Addr) : DX := ⟨C.X.blk s H scope (compEnvC scope cl c C.X.env) fp, { B with w := C.X.w }, fun _ _ _ => False, rfl⟩
theorem blk_even {C : DX} {scope : Scope} {B : G} {s : Shared} {H : Hp} {c : Addr} {cl : List (Str × Addr)} {fp : List Addr} : (C.blk scope B s H c cl fp).Even := fun _ _ _ _ z => z
/-- the tests of a block -/
structure DTU (C : DX) (scope : Scope) (ifs : List Expr) (tt : DEnv → Py Bool) (u : TT) : Prop where
  pt : ∀ s H c cl fp, PTs (C.X.blk s H scope (compEnvC scope cl c C.X.env) fp) ifs u
  run : ∀ {g : G} {ρ : DEnv} {M : Store} {σ : St} {H : Hp} (Q : Bool → Hp → Prop), (∀ s H0 c cl fp, Rl (C.blk scope g s H0 c cl fp) g ρ M σ H) → Post (tt ρ M) (fun d M' => ∀ H' g', g.le g' → RelH C.X.K g' M' H' → Q d H') (fun _ _ => False) → u σ H Q
section
variable {C : DX} {pos : Pos} {elt tg iter : Expr} {ifs : List Expr} {scope : Scope} {own : List (Str × Nat)} {it : DEnv → Py Wk} {ft : D → DEnv → Py DEnv} {tt : DEnv → Py Bool} {fe : DEnv → Py D} {t : TG} {u : TT}
theorem dtu_nil : DTU C scope [] tYesD tYes := ⟨fun _ _ _ _ _ => pts_nil, fun {g ρ M σ H} Q R p => p H g (G.le.refl g) (R C.X.s_0 H 0 [] []).h⟩
/-- what the elements ask, in every block -/
def eltT (X : Cx) (scope : Scope) (elt : Expr) : TE := fun σ H Q => ∀ s H0 c cl fp, WPE (X.blk s H0 scope (compEnvC scope cl c X.env) fp) elt σ H Q
def ifT (X : Cx) (scope : Scope) (c : Expr) : TT := fun σ H Q => ∀ s H0 c' cl fp, WPT (X.blk s H0 scope (compEnvC scope cl c' X.env) fp) c σ H Q
theorem dtu_one {c : Expr} {tc : DEnv → Py Bool} (h : ∀ B s H c' cl fp, DT (C.blk scope B s H c' cl fp) c tc) : DTU C scope [c] tc (ifT C.X scope c) :=
  ⟨fun s H c' cl fp => pts_one ⟨fun pins s' σ' H' Q' I h => h s H c' cl fp pins s' I⟩, fun {g ρ M σ H} Q R p s H0 c' cl fp => (h g s H0 c' cl fp).run Q (R s H0 c' cl fp) (p.mono (fun d M' q H' g' l R' => q H' g' l R'.h) fun _ _ z => z)⟩
/-- the core: what tLc asks -/
theorem lc_run (hi : DI C tg iter it) (hg : ∀ B s H c cl fp, DG (C.blk scope B s H c cl fp) (own.map (·.2)) tg ft t)
    (ht : DTU C scope ifs tt u) (he : ∀ B s H c cl fp, DE (C.blk scope B s H c cl fp) elt fe) {wi : TI}
    (hwi : ∀ {g : G} {ρ : DEnv} {M : Store} {σ : St} {H : Hp} (R : It → Hp → Prop), Rl C g ρ M σ H → Post (it ρ M) (fun w M' => ∀ J H' g' Gd Y, g.le g' → Rl C g' ρ M' σ H' → WalkD C.X.K g' w J Gd Y → R J H') (C.We ρ) → wi σ H R)
    {g : G} {ρ : DEnv} {M : Store} {σ : St} {H : Hp} {Q : VK} (R : Rl C g ρ M σ H)
    (p : Post (lcAll (own.map (·.2)) it ft tt fe ρ M) (fun ds M' => ∀ D H' g1 g' vs, g.le g1 → RelE C.X.K g1 σ ρ → C.B.le g1 → g1.sub g' → g'.P D = some (.lst vs) → g1.P D = none → (g1.F D = none) → (∀ a, a ≠ D → g1.P a = g'.P a) → RelH C.X.K g' M' H' → Reps C.X.K g' vs ds → Q (.ref D) H') (C.We ρ)) :
    tLc wi t u (eltT C.X scope elt) (own.map (·.2)) σ H Q := by
  refine hwi _ R ((post_bnd.mp p).imp fun w M1 p1 J H1 g1 Gd Y l1 R1 WD => ?_)
  intro D hD
  have gP : g1.P D = none := R1.h.pnone hD
  have gF : g1.F D = none := R1.h.fnone hD
  have eW : RelE C.X.K g1 (L2.wipe σ (own.map (·.2))) (wipeD ρ (own.map (·.2))) := R1.e.wipe _
  refine lc_it WD.wk (fun i H' => ∃ g' M' acc vs, g1.sub g' ∧ g'.P D = some (.lst vs) ∧ (∀ a, a ≠ D → g1.P a = g'.P a) ∧ RelH C.X.K g' M' H' ∧ Reps C.X.K g' vs acc ∧
    Post (lcD w.ok ft tt fe (wipeD ρ (own.map (·.2))) (w.ds.drop i) acc M') (fun ds M' => ∀ D H' g1 g' vs, g.le g1 → RelE C.X.K g1 σ ρ → C.B.le g1 → g1.sub g' → g'.P D = some (.lst vs) → g1.P D = none → (g1.F D = none) → (∀ a, a ≠ D → g1.P a = g'.P a) → RelH C.X.K g' M' H' → Reps C.X.K g' vs ds → Q (.ref D) H') (fun _ _ => False)) ?_ ?_ ?_ ?_
  · refine ⟨g1.bld D (.lst []), M1, [], [], ⟨⟨[], by simp [G.bld]⟩, fun _ _ q => q, rfl⟩, upd_same, fun a ha => ?_, R1.h.build hD, .nil, ?_⟩
    · show g1.P a = upd g1.P D _ a
      rw [upd_ne ha]
    · rw [List.drop_zero]
      exact noX_post p1
  · rintro i H' hi ⟨g', M', acc, vs, S, hP, hPn, Rh, rp, p'⟩
    have : w.ok M' := by
      cases e : w.ds.drop i with
      | nil => rw [e] at p'; exact (okM_post p').1
      | cons d ds => rw [e] at p'; exact (okM_post p').1
    exact WD.ok S Rh this
  · rintro i x H' H2 hi ⟨g', M', acc, vs, S, hP, hPn, Rh, rp, p'⟩ y
    have e : w.ds.drop i = w.ds[i] :: w.ds.drop (i + 1) := List.drop_eq_getElem_cons hi
    rw [e] at p'
    obtain ⟨ok, p2⟩ := okM_post p'
    obtain ⟨d, g2, e1, l2, R2, r⟩ := WD.it S Rh ok y
    rw [List.getElem?_eq_getElem hi] at e1
    cases e1
    have L12 : g1.sub g2 := S.trans l2.sub
    have Rb : ∀ s H0 c cl fp, Rl (C.blk scope g2 s H0 c cl fp) g2 (wipeD ρ (own.map (·.2))) M' (L2.wipe σ (own.map (·.2))) H2 := fun _ _ _ _ _ => ⟨G.le_w ((L12.w).trans R1.w), R2, eW.gro L12⟩
    refine (hg g2 C.X.s_0 H 0 [] []).run _ (Rb _ _ _ _ _) r ((post_bnd.mp p2).imp fun ρ1 M3 p3 σ3 H3 g3 l3 R3 hw => ⟨hw.trans wipe_wipe, ?_⟩)
    refine ht.run _ (fun _ _ _ _ _ => ⟨G.le_w R3.w, R3.h, R3.e⟩) ((post_bnd.mp p3).imp fun b M4 p4 H4 g4 l4 R4 => ?_)
    have P4 : g4.P D = some (.lst vs) := by rw [l4.P, l3.P, l2.P]; exact hP
    have P4n : ∀ a, a ≠ D → g1.P a = g4.P a := fun a ha => by rw [l4.P, l3.P, l2.P]; exact hPn a ha
    have S4 : g'.le g4 := (l2.trans l3).trans l4
    cases b with
    | false =>
      rw [if_neg Bool.false_ne_true] at p4 ⊢
      exact ⟨g4, M4, acc, vs, S.trans S4.sub, P4, P4n, R4, rp.mono S4, p4⟩
    | true =>
      rw [if_pos rfl] at p4 ⊢
      intro s H0 c cl fp
      refine (he g4 s H0 c cl fp).run _ ⟨G.le_w (l4.w.trans R3.w), R4, R3.e.mono l4⟩ ((post_bnd.mp p4).imp fun y M5 p5 v H5 g5 l5 R5 r5 => ?_)
      have P5 : g5.P D = some (.lst vs) := by rw [l5.P]; exact P4
      have r6 := rp.mono (S4.trans l5)
      obtain ⟨hz, p6⟩ := post_chk.mp p5
      have B5 : g5.sub (g5.bld D (.lst (vs ++ [v]))) := ⟨⟨[], by simp [G.bld]⟩, fun _ _ q => q, rfl⟩
      refine ⟨vs, (R5.h.prt _ _ P5).1, by rw [rp.length]; exact hz, g5.bld D (.lst (vs ++ [v])), M5, acc ++ [y], vs ++ [v], (S.trans (S4.trans l5).sub).trans B5, upd_same, fun a ha => ?_, R5.h.rebuild P5, (r6.append (.cons r5 .nil)).gro B5, p6⟩
      show g1.P a = upd g5.P D _ a
      rw [upd_ne ha, l5.P]
      exact P4n a ha
  · rintro H' ⟨g', M', acc, vs, S, hP, hPn, Rh, rp, p'⟩
    rw [List.drop_length] at p'
    obtain ⟨_, p2⟩ := okM_post p'
    exact p2 D H' g1 g' vs l1 R1.e R1.b S hP gP gF hPn Rh rp
theorem end_frz {g g1 g' : G} {ρ : DEnv} {M' : Store} {σ : St} {H' : Hp} {vs : List V} {ds : List D} {D : Addr} (l1 : g.le g1) (e1 : RelE C.X.K g1 σ ρ) (b1 : C.B.le g1) (S : g1.sub g') (hP : g'.P D = some (.lst vs)) (gP : g1.P D = none) (gF : g1.F D = none) (hPn : ∀ a, a ≠ D → g1.P a = g'.P a)
    (Rh : RelH C.X.K g' M' H') (rp : Reps C.X.K g' vs ds) : ∃ g2, g.le g2 ∧ Rl C g2 ρ M' σ H' ∧ Rep C.X.K g2 (.ref D) (.lst ds) := by
  have fD : g'.F D = none := (Rh.prt _ _ hP).2
  have S2 : g'.sub (g'.unb g1.P D (.lst vs)) := ⟨⟨[], by simp [G.unb]⟩, fun a o q => by
    show upd g'.F D _ a = some o
    rw [upd_ne (ne_of_none q fD)]
    exact q, rfl⟩
  have L : g1.le (g'.unb g1.P D (.lst vs)) := ⟨S.io, fun a o q => S2.F _ _ (S.F _ _ q), rfl, S.w⟩
  exact ⟨_, l1.trans L, ⟨b1.trans L, Rh.built hP gP hPn, e1.mono L⟩, .lst upd_same (rp.gro S2)⟩
theorem end_new {g g1 g' : G} {ρ : DEnv} {M' : Store} {σ : St} {H' : Hp} {vs : List V} {ds : List D} {D : Addr} (l1 : g.le g1) (e1 : RelE C.X.K g1 σ ρ) (b1 : C.B.le g1) (S : g1.sub g') (hP : g'.P D = some (.lst vs)) (gP : g1.P D = none) (gF : g1.F D = none) (hPn : ∀ a, a ≠ D → g1.P a = g'.P a)
    (Rh : RelH C.X.K g' M' H') (rp : Reps C.X.K g' vs ds) : ∃ g2, g.le g2 ∧ Rl C g2 ρ (M' ++ [some (.lst ds)]) σ H' ∧ Rep C.X.K g2 (.ref D) (.loc M'.length) := by
  have S2 : g'.sub (g'.unbL g1.P D) := ⟨⟨[D], rfl⟩, fun a o q => q, rfl⟩
  have L : g1.le (g'.unbL g1.P D) := ⟨(S.trans S2).io, fun a o q => S.F _ _ q, rfl, S.w⟩
  refine ⟨_, l1.trans L, ⟨b1.trans L, Rh.builtL hP gP hPn ⟨vs, (Rh.prt _ _ hP).1, rp⟩, e1.mono L⟩, .loc ?_⟩
  show (g'.io ++ [D])[M'.length]? = some D
  rw [← Rh.len, List.getElem?_concat_length]
structure FrOk (C : DX) (fr : List D → Py D) : Prop where
  run : ∀ {g g1 g' : G} {ρ : DEnv} {M' : Store} {σ : St} {H' : Hp} {vs : List V} {ds : List D} {D : Addr} {Q : VK} (l1 : g.le g1) (e1 : RelE C.X.K g1 σ ρ) (b1 : C.B.le g1) (S : g1.sub g') (hP : g'.P D = some (.lst vs)) (gP : g1.P D = none) (gF : g1.F D = none) (hPn : ∀ a, a ≠ D → g1.P a = g'.P a)
    (Rh : RelH C.X.K g' M' H') (rp : Reps C.X.K g' vs ds), Post (fr ds M') (QV C g ρ σ Q) (C.We ρ) → Q (.ref D) H'
theorem lc_any {fr : List D → Py D} (hfr : FrOk C fr) (hi : DI C tg iter it) (hg : ∀ B s H c cl fp, DG (C.blk scope B s H c cl fp) (own.map (·.2)) tg ft t) (ht : DTU C scope ifs tt u) (he : ∀ B s H c cl fp, DE (C.blk scope B s H c cl fp) elt fe) :
    ∃ (wi : TI) (te : TE), PI C.X tg iter wi ∧ (∀ s H c cl fp, PE (C.X.blk s H scope (compEnvC scope cl c C.X.env) fp) elt te) ∧ ∀ {Q : VK} {g : G} {ρ : DEnv} {M : Store} {σ : St} {H : Hp}, Rl C g ρ M σ H → Post (Py.bnd (lcAll (own.map (·.2)) it ft tt fe ρ) fr M) (QV C g ρ σ Q) (C.We ρ) → tLc wi t u te (own.map (·.2)) σ H Q := by
  obtain ⟨wi, pi, hwi⟩ := hi.run
  refine ⟨wi, eltT C.X scope elt, pi, fun s H c cl fp => ⟨fun pins s' σ' H' Q' I h => h s H c cl fp pins s' I⟩, fun {Q g ρ M σ H} R p => ?_⟩
  exact lc_run hi hg ht he hwi R ((post_bnd.mp p).imp fun ds M' q D H' g1 g' vs l1 e1 b1 S hP gP gF hPn Rh rp => hfr.run l1 e1 b1 S hP gP gF hPn Rh rp q)
def frF : List D → Py D := fun ds => Py.ret (.lst ds)
def frN : List D → Py D := fun ds => alloc (.lst ds)
theorem fr_f : FrOk C frF := by
  constructor
  intro g g1 g' ρ M' σ H' vs ds D Q l1 e1 b1 S hP gP gF hPn Rh rp p
  obtain ⟨g2, l2, R2, r2⟩ := end_frz l1 e1 b1 S hP gP gF hPn Rh rp
  exact p _ H' g2 l2 R2 r2
theorem fr_n : FrOk C frN := by
  constructor
  intro g g1 g' ρ M' σ H' vs ds D Q l1 e1 b1 S hP gP gF hPn Rh rp p
  obtain ⟨g2, l2, R2, r2⟩ := end_new l1 e1 b1 S hP gP gF hPn Rh rp
  exact p _ H' g2 l2 R2 r2
def sLc (i : Nat) (fr : List D → Py D) (lc : DEnv → Py (List D)) : DEnv → Py Fl := fun ρ => Py.bnd (Py.bnd (lc ρ) fr) fun d => Py.ret (.nx (ρ.set i (some d)))
def eLcA (fr : List D → Py D) (lc : DEnv → Py (List D)) : DEnv → Py D := fun ρ => Py.bnd (lc ρ) fr
theorem de_lcA {fr : List D → Py D} {vs : List Nat} (hfr : FrOk C fr) (hc : C.X.calm = true) (hN : C.X.N.Nodup) (hi : DI C tg iter it) (ok : BlkOk C.X.N C.X.env.scope scope own) (hg : ∀ B s H c cl fp, DG (C.blk scope B s H c cl fp) vs tg ft t)
    (ht : DTU C scope ifs tt u) (he : ∀ B s H c cl fp, DE (C.blk scope B s H c cl fp) elt fe) (hvs : own.map (·.2) = vs := by rfl) (hs : ∀ x, foldedSetIterable iter C.X.env x = pure x := by intro _; rfl) :
    DE C (.ListComp elt [⟨tg, iter, ifs, 0⟩] scope pos) (eLcA fr (lcAll vs it ft tt fe)) := by
  subst hvs
  obtain ⟨wi, te, pi, pe, q⟩ := lc_any hfr hi hg ht he
  exact ⟨fun {g ρ M σ H} Q R p => wpe (pe_lc hc hN pi ok (fun s H c cl fp => (hg g s H c cl fp).pg) ht.pt pe hs) (q R p)⟩
/-- y = [..] -/
theorem ds_setLcA {fr : List D → Py D} {vs : List Nat} (hfr : FrOk C fr) {i : Nat} {y : Str} {py spos : Pos} (hc : C.X.calm = true) (hN : C.X.N.Nodup) (hy : C.X.N[i]? = some y) (hyl : C.X.env.scope.names.lookup y = some .local)
    (hsw : swapsWith (.ListComp elt [⟨tg, iter, ifs, 0⟩] scope pos) (some (.Name y py)) spos.line C.X.env = pure true) (hi : DI C tg iter it) (ok : BlkOk C.X.N C.X.env.scope scope own) (hg : ∀ B s H c cl fp, DG (C.blk scope B s H c cl fp) vs tg ft t)
    (ht : DTU C scope ifs tt u) (he : ∀ B s H c cl fp, DE (C.blk scope B s H c cl fp) elt fe) (hvs : own.map (·.2) = vs := by rfl) (hs : ∀ x, foldedSetIterable iter C.X.env x = pure x := by intro _; rfl) :
    DS C (.Assign [.Name y py] (.ListComp elt [⟨tg, iter, ifs, 0⟩] scope pos) spos) (sLc i fr (lcAll vs it ft tt fe)) := by
  subst hvs
  obtain ⟨wi, te, pi, pe, q⟩ := lc_any hfr hi hg ht he
  refine ⟨fun {g ρ M σ H} E R p => wps (ps_setLc hc hN hy hyl hsw pi ok (fun s H c cl fp => (hg g s H c cl fp).pg) ht.pt pe hs) ?_⟩
  exact q R ((post_bnd.mp p).imp fun d M' p' v H' g' l R' r => p' _ H' g' l (R'.set i r))
end
end L3
set_option Elab.async false
set_option linter.all false
set_option maxRecDepth 100000
set_option autoImplicit false
namespace L3
open PySem PySem.Spec L2
open PyProof.Rows hiding St

/-! ### built-in functions -/
def DCl (C : DX) (f : Value) (op : List D → Py D) : Prop := ∃ r, CallR C.X f r ∧
  ∀ {g : G} {ρ : DEnv} {M : Store} {σ : St} {H : Hp} {xs : List V} {ds : List D} (Q : VK), Rl C g ρ M σ H → Reps C.X.K g xs ds → Post (op ds M) (QV C g ρ σ Q) (C.We ρ) → r xs H Q
def eCall (op : List D → Py D) (ff : DEnv → Py (List D)) : DEnv → Py D := fun ρ => Py.bnd (ff ρ) op
section
variable {C : DX} {x : Str} {p pos : Pos} {e : Expr} {es : List Expr} {ff : DEnv → Py (List D)} {op : List D → Py D} {id T : String}
theorem de_callB (hc : DCl C (.builtin id) op) (hm : C.X.mg x = none) (ha : DA C (e :: es) ff) (hv : bootBuiltins x = some (.builtin id) := by decide +kernel) (hg : Gl C.X x := by rfl) (hn : x ≠ "__name__" := by decide) (hdb : (x == ("__debug__" : Str)) = false := by decide)
    (he : starEach (e :: es) C.X.env = (false, eval e C.X.env) :: starEach es C.X.env := by rfl) (hpl : (backTo pos (starEach es C.X.env)).any (·.1) = false := by rfl) : DE C (.Call (.Name x p) (e :: es) [] pos) (eCall op ff) := by
  obtain ⟨r, hr, h⟩ := hc
  exact ⟨fun {g ρ M σ H} Q R p => wpe (pe_callB hr hg hm hv self_a hn hdb he hpl) (ha.then_ R p fun vs ds M1 H1 g1 l1 R1 r1 p1 => h Q R1 r1 (p1.imp fun _ _ q => q.later l1))⟩
theorem de_callTy (hc : DCl C (.type T) op) (hm : C.X.mg x = none) (ha : DA C (e :: es) ff) (hv : bootBuiltins x = some (.type T) := by decide +kernel) (hg : Gl C.X x := by rfl) (hn : x ≠ "__name__" := by decide) (hdb : (x == ("__debug__" : Str)) = false := by decide)
    (he : starEach (e :: es) C.X.env = (false, eval e C.X.env) :: starEach es C.X.env := by rfl) (hpl : (backTo pos (starEach es C.X.env)).any (·.1) = false := by rfl) : DE C (.Call (.Name x p) (e :: es) [] pos) (eCall op ff) := by
  obtain ⟨r, hr, h⟩ := hc
  exact ⟨fun {g ρ M σ H} Q R p => wpe (pe_callTy hr hg hm hv self_a hn hdb he hpl) (ha.then_ R p fun vs ds M1 H1 g1 l1 R1 r1 p1 => h Q R1 r1 (p1.imp fun _ _ q => q.later l1))⟩
def one (f : D → Py D) : List D → Py D
  | [d] => f d
  | _ => Py.bad
def twoD (f : D → D → Py D) : List D → Py D
  | [d, e] => f d e
  | _ => Py.bad
theorem one_post {f : D → Py D} {ds : List D} {M : Store} {q : D → Store → Prop} {E : Exn → Store → Prop} (p : Post (one f ds M) q E) : ∃ d, ds = [d] ∧ Post (f d M) q E := by
  unfold one at p
  split at p
  · exact ⟨_, rfl, p⟩
  · exact p.elim
theorem twoD_post {f : D → D → Py D} {ds : List D} {M : Store} {q : D → Store → Prop} {E : Exn → Store → Prop} (p : Post (twoD f ds M) q E) : ∃ d e, ds = [d, e] ∧ Post (f d e M) q E := by
  unfold twoD at p
  split at p
  · exact ⟨_, _, rfl, p⟩
  · exact p.elim
theorem dcl_one {f : Value} {g1 : D → Py D} {r : List V → Hp → VK → Prop} (hr : CallR C.X f r)
    (h : ∀ {g : G} {ρ : DEnv} {M : Store} {σ : St} {H : Hp} {v : V} {d : D} (Q : VK), Rl C g ρ M σ H → Rep C.X.K g v d → Post (g1 d M) (QV C g ρ σ Q) (C.We ρ) → r [v] H Q) : DCl C f (one g1) :=
  ⟨r, hr, fun {g ρ M σ H xs ds} Q R rr p => by
    obtain ⟨d, rfl, q⟩ := one_post p
    obtain ⟨v, rfl, r1⟩ := rr.one
    exact h Q R r1 q⟩
theorem dcl_two {f : Value} {g1 : D → D → Py D} {r : List V → Hp → VK → Prop} (hr : CallR C.X f r)
    (h : ∀ {g : G} {ρ : DEnv} {M : Store} {σ : St} {H : Hp} {v u : V} {d e : D} (Q : VK), Rl C g ρ M σ H → Rep C.X.K g v d → Rep C.X.K g u e → Post (g1 d e M) (QV C g ρ σ Q) (C.We ρ) → r [v, u] H Q) : DCl C f (twoD g1) :=
  ⟨r, hr, fun {g ρ M σ H xs ds} Q R rr p => by
    obtain ⟨d, e, rfl, q⟩ := twoD_post p
    obtain ⟨v, u, rfl, r1, r2⟩ := rr.two
    exact h Q R r1 r2 q⟩
/-- len -/
def lenD : D → Py D
  | .str z => Py.chk (z.length ≤ sizeLine) (Py.ret (.int z.length))
  | d => Py.bnd (items d) fun ds => Py.ret (.int ds.length)
theorem dc_len : DCl C (.builtin "len") (one lenD) := dcl_one (call_len_seq.or call_len_str) fun {g ρ M σ H v d} Q R r p => by
  have seq : Post (Py.bnd (items d) (fun ds => Py.ret (.int ds.length)) M) (QV C g ρ σ Q) (C.We ρ) → ∃ p ys, [v] = [.ref p] ∧ (SqL C.X.K H p ys ∨ SqT C.X.K H p ys) ∧ Q (.int ys.length) H := fun p => by
    obtain ⟨a, vs, ds, rfl, hs, t, q⟩ := items_post R.h r (post_bnd.mp p)
    refine ⟨a, vs, rfl, hs, ?_⟩
    rw [t.length]
    exact QV.here q R (.int _)
  cases d with
  | str z =>
    obtain ⟨hz, q⟩ := post_chk.mp p
    exact .inr ⟨z, by rw [rep_str r], hz, QV.here q R (.int _)⟩
  | _ => exact .inl (seq p)
def absD : D → Py D
  | .int i => Py.ret (.int (if i < 0 then -i else i))
  | _ => Py.bad
theorem dc_abs : DCl C (.builtin "abs") (one absD) := dcl_one call_abs fun {g ρ M σ H v d} Q R r p => by
  cases d with
  | int i => exact ⟨i, by rw [rep_int r], QV.here p R (.int _)⟩
  | _ => exact p.elim
def intD : D → Py D
  | .int i => Py.ret (.int i)
  | .bl k => Py.ret (.int (if k then 1 else 0))
  | _ => Py.bad
theorem dc_int : DCl C (.type "int") (one intD) := dcl_one call_int1 fun {g ρ M σ H v d} Q R r p => by
  cases d with
  | int i => exact .inl ⟨i, by rw [rep_int r], QV.here p R (.int _)⟩
  | bl i => exact .inr ⟨i, by rw [rep_bl r], QV.here p R (.int _)⟩
  | _ => exact p.elim
def strD : D → Py D
  | .int i => Py.chk (i.natAbs.log2 < 1920) (Py.ret (.str (toString i)))
  | _ => Py.bad
theorem dc_strI : DCl C (.type "str") (one strD) := dcl_one call_str_int fun {g ρ M σ H v d} Q R r p => by
  cases d with
  | int i => exact ⟨i, by rw [rep_int r], (post_chk.mp p).1, QV.here (post_chk.mp p).2 R (.str _)⟩
  | _ => exact p.elim
def maxI : D → D → Py D := intOp fun i j => Py.ret (.int (if j > i then j else i))
def minI : D → D → Py D := intOp fun i j => Py.ret (.int (if j < i then j else i))
theorem dc_max2 (hc : C.X.calm = true) : DCl C (.builtin "max") (twoD maxI) := dcl_two (call_max2 hc) fun {g ρ M σ H v u d e} Q R r r' p => by
  obtain ⟨i, j, rfl, rfl, q⟩ := intOp_post p
  exact ⟨i, j, by rw [rep_int r, rep_int r'], QV.here q R (.int _)⟩
theorem dc_min2 (hc : C.X.calm = true) : DCl C (.builtin "min") (twoD minI) := dcl_two (call_min2 hc) fun {g ρ M σ H v u d e} Q R r r' p => by
  obtain ⟨i, j, rfl, rfl, q⟩ := intOp_post p
  exact ⟨i, j, by rw [rep_int r, rep_int r'], QV.here q R (.int _)⟩
/-- tuple(x), list(x) -/
def tupD : D → Py D
  | .tup xs => Py.ret (.tup xs)
  | d => Py.bnd (litems d) fun ds => Py.ret (.tup ds)
theorem dc_tup : DCl C (.type "tuple") (one tupD) := dcl_one call_tuple_of fun {g ρ M σ H v d} Q R r p => by
  have lst : ∀ {d : D}, Rep C.X.K g v d → Post (Py.bnd (litems d) (fun ds => Py.ret (.tup ds)) M) (QV C g ρ σ Q) (C.We ρ) → ∃ p ys, [v] = [.ref p] ∧ ((SqL C.X.K H p ys ∧ ∀ l, H l = none → Q (.ref l) (upd H l (.tup ys))) ∨ (SqT C.X.K H p ys ∧ Q (.ref p) H)) := fun r p => by
    obtain ⟨a, vs, ds, rfl, hs, t, q⟩ := litems_post R.h r (post_bnd.mp p)
    exact ⟨a, vs, rfl, .inl ⟨hs, fun l hl => QV.lay q R hl (rep_tup_new t (R.h.fnone hl))⟩⟩
  cases d with
  | tup xs =>
    cases r with
    | tup s t => exact ⟨_, _, rfl, .inr ⟨.of (R.h.frz _ _ s), QV.here p R (.tup s t)⟩⟩
  | _ => exact lst r p
def lstD (d : D) : Py D := Py.bnd (items d) fun ds => Py.ret (.lst ds)
def lstN (d : D) : Py D := Py.bnd (items d) fun ds => alloc (.lst ds)
theorem dc_lst : DCl C (.type "list") (one lstD) := dcl_one call_list_of fun {g ρ M σ H v d} Q R r p => by
  obtain ⟨a, vs, ds, rfl, hs, t, q⟩ := items_post R.h r (post_bnd.mp p)
  exact ⟨a, vs, rfl, hs, fun l hl => QV.lay q R hl (rep_lst_new t (R.h.fnone hl))⟩
theorem dc_lstN : DCl C (.type "list") (one lstN) := dcl_one call_list_of fun {g ρ M σ H v d} Q R r p => by
  obtain ⟨a, vs, ds, rfl, hs, t, q⟩ := items_post R.h r (post_bnd.mp p)
  exact ⟨a, vs, rfl, hs, fun l hl => QV.make q R hl ⟨vs, upd_same, t.mono G.le_more⟩⟩
/-- all, any -/
def blsOf : List D → Option (List Bool)
  | [] => some []
  | .bl b :: r => (blsOf r).map fun bs => b :: bs
  | _ :: _ => none
theorem bls_rep {K : PySem.W.Frag} {g : G} : ∀ {vs : List V} {ds : List D} {bs : List Bool}, Reps K g vs ds → blsOf ds = some bs → vs = bs.map V.bl
  | _, _, _, .nil, e => by cases e; rfl
  | _, _, _, .cons (d := .bl b) r t, e => by
    obtain ⟨cs, e1, e2⟩ := Option.map_eq_some_iff.mp (show (blsOf _).map _ = some _ from e)
    subst e2
    rw [rep_bl r, bls_rep t e1]
    rfl
  | _, _, _, .cons (d := .non) r t, e => by cases e
  | _, _, _, .cons (d := .int _) r t, e => by cases e
  | _, _, _, .cons (d := .str _) r t, e => by cases e
  | _, _, _, .cons (d := .tup _) r t, e => by cases e
  | _, _, _, .cons (d := .lst _) r t, e => by cases e
  | _, _, _, .cons (d := .ro _) r t, e => by cases e
  | _, _, _, .cons (d := .dk _) r t, e => by cases e
  | _, _, _, .cons (d := .dkt _) r t, e => by cases e
  | _, _, _, .cons (d := .ins _ _) r t, e => by cases e
  | _, _, _, .cons (d := .loc _) r t, e => by cases e
  | _, _, _, .cons (d := .ref _) r t, e => by cases e
  | _, _, _, .cons (d := .ty _) r t, e => by cases e
def blsD (f : List Bool → Bool) (d : D) : Py D := Py.bnd (litems d) fun ds => match blsOf ds with
  | some bs => Py.ret (.bl (f bs))
  | none => Py.bad
theorem blsD_post {K : PySem.W.Frag} {g : G} {M : Store} {H : Hp} {f : List Bool → Bool} {v : V} {d : D} {q : D → Store → Prop} {E : Exn → Store → Prop} (R : RelH K g M H) (r : Rep K g v d) (p : Post (blsD f d M) q E) : ∃ a bs, v = .ref a ∧ SqL K H a (bs.map V.bl) ∧ q (.bl (f bs)) M := by
  obtain ⟨a, vs, ds, rfl, hs, t, q⟩ := litems_post R r (post_bnd.mp p)
  cases e : blsOf ds with
  | none => rw [e] at q; exact q.elim
  | some bs =>
    rw [e] at q
    have := bls_rep t e
    subst this
    exact ⟨a, bs, rfl, hs, q⟩
theorem dc_all (hc : C.X.calm = true) : DCl C (.builtin "all") (one (blsD fun bs => bs.all _root_.id)) := dcl_one (cr_all hc) fun {g ρ M σ H v d} Q R r p => by
  obtain ⟨a, bs, rfl, hs, q⟩ := blsD_post R.h r p
  exact ⟨a, bs, rfl, hs, QV.here q R (.bl _)⟩
theorem dc_any (hc : C.X.calm = true) : DCl C (.builtin "any") (one (blsD fun bs => bs.any _root_.id)) := dcl_one (cr_any hc) fun {g ρ M σ H v d} Q R r p => by
  obtain ⟨a, bs, rfl, hs, q⟩ := blsD_post R.h r p
  exact ⟨a, bs, rfl, hs, QV.here q R (.bl _)⟩
/-- isinstance with built-in types -/
def tyN (M : Store) : D → Option String
  | .non => some "NoneType"
  | .bl _ => some "bool"
  | .int _ => some "int"
  | .str _ => some "str"
  | .tup _ => some "tuple"
  | .lst _ => some "list"
  | .ro _ => some "list"
  | .dk _ => some "dict"
  | .loc n => match M[n]? with
    | some (some (.lst _)) => some "list"
    | some (some (.dk _)) => some "dict"
    | _ => none
  | _ => none
def tyNames : List String := ["NoneType", "bool", "int", "str", "tuple", "list", "dict"]
def isT (T t : String) : Bool := t == T || (T == "int" && t == "bool")
theorem tyN_ok {K : PySem.W.Frag} {g : G} {M : Store} {H : Hp} {v : V} {d : D} {t : String} (R : RelH K g M H) (r : Rep K g v d) (e : tyN M d = some t) : TyX K H v (.type t) ∧ t ∈ tyNames := by
  cases r with
  | non => cases e; exact ⟨.base .non, by decide⟩
  | bl b => cases e; exact ⟨.base (.bl b), by decide⟩
  | int b => cases e; exact ⟨.base (.int b), by decide⟩
  | str b => cases e; exact ⟨.base (.str b), by decide⟩
  | tup s t => cases e; exact ⟨.base (.tup (R.frz _ _ s)), by decide⟩
  | lst s t => cases e; exact ⟨.base (.lst (R.frz _ _ s)), by decide⟩
  | ro s t =>
    cases e
    rcases sqL_mono R.frz s with (h | ⟨o, h⟩) | ⟨o, its, n, h1, h2, _⟩
    · exact ⟨.base (.lst h), by decide⟩
    · exact ⟨.base (.frz h), by decide⟩
    · exact ⟨.kList h1 h2, by decide⟩
  | dk s t z => cases e; exact ⟨.base (.dK (R.frz _ _ s)), by decide⟩
  | @loc n a e1 =>
    have e' : (match M[n]? with | some (some (.lst _)) => some "list" | some (some (.dk _)) => some "dict" | _ => none) = some t := e
    split at e'
    · rename_i xs h
      cases e'
      obtain ⟨a', vs, ea, e2, e4, e5⟩ := loc_lst R (.loc e1) h
      rw [ea]
      exact ⟨.base (.lst e4), by decide⟩
    · rename_i xs h
      cases e'
      obtain ⟨a', e2, _, vs, e4, _⟩ := R.liv n _ h
      rw [e1] at e2
      cases e2
      exact ⟨.base (.dK e4), by decide⟩
    · cases e'
  | _ => cases e
def isiD (x y : D) : Py D := fun M => match tyN M x, y with
  | some t, .ty T => .ok (.bl (isT T t)) M
  | _, _ => .bad
theorem isiD_post {x y : D} {M : Store} {q : D → Store → Prop} {E : Exn → Store → Prop} (p : Post (isiD x y M) q E) : ∃ t T, tyN M x = some t ∧ y = .ty T ∧ q (.bl (isT T t)) M := by
  unfold isiD at p
  split at p
  · rename_i t T h1
    exact ⟨t, T, h1, rfl, p⟩
  · exact p.elim
/-- the types that may be asked for -/
def kitOk (T : String) : Bool := tyNames.all fun t => kitB t T == some (isT T t)
def isiT (Ts : List String) (x y : D) : Py D := match y with
  | .ty T => if Ts.contains T then isiD x y else Py.bad
  | _ => Py.bad
theorem rep_ty {K : PySem.W.Frag} {g : G} {v : V} {n : String} (r : Rep K g v (.ty n)) : v = .ty n := by cases r; rfl
theorem dc_isi {Ts : List String} (hT : Ts.all kitOk = true := by decide +kernel) : DCl C (.builtin "isinstance") (twoD (isiT Ts)) := dcl_two call_isi fun {g ρ M σ H v u d e} Q R r r' p => by
  cases e with
  | ty T =>
    have p' : Post ((if Ts.contains T then isiD d (.ty T) else Py.bad : Py D) M) (QV C g ρ σ Q) (C.We ρ) := p
    by_cases hc : Ts.contains T = true
    · rw [if_pos hc] at p'
      obtain ⟨t, T', h1, h2, q⟩ := isiD_post p'
      cases h2
      obtain ⟨ty, hm⟩ := tyN_ok R.h r h1
      have hk : kitB t T = some (isT T t) := by
        have h3 := List.all_eq_true.mp hT T (by simpa using hc)
        exact beq_iff_eq.mp (List.all_eq_true.mp h3 t hm)
      exact ⟨v, .ty T, .type t, .type T, _, by rw [rep_ty r'], .ty T, ty, kit_ty hk, QV.here q R (.bl _)⟩
    · rw [if_neg hc] at p'; exact p'.elim
  | _ => exact p.elim

/-! ### methods of built-in types -/
/-- the value is of that type -/
def tyChk (T : String) (d : D) : Py Unit := match d with
  | .str _ => Py.chk (T = "str") (Py.ret ())
  | .dk _ => Py.chk (T = "dict") (Py.ret ())
  | .loc n => fun M => match M[n]? with
    | some (some (.lst _)) => if T = "list" then .ok () M else .bad
    | some (some (.dk _)) => if T = "dict" then .ok () M else .bad
    | _ => .bad
  | .lst _ => Py.chk (T = "list") (Py.ret ())
  | .ro _ => Py.chk (T = "list") (Py.ret ())
  | _ => Py.bad
theorem tyChk_post {K : PySem.W.Frag} {g : G} {M : Store} {H : Hp} {v : V} {d : D} {T : String} {q : Unit → Store → Prop} {E : Exn → Store → Prop} (R : RelH K g M H) (r : Rep K g v d) (p : Post (tyChk T d M) q E) : tyV K T v H ∧ q () M := by
  cases r with
  | str z => obtain ⟨h, q⟩ := post_chk.mp p; exact ⟨h, q⟩
  | dk s t z => obtain ⟨h, q⟩ := post_chk.mp p; exact ⟨.inr (.inr (.inl ⟨h, .inl ⟨_, R.frz _ _ s⟩⟩)), q⟩
  | lst s t => obtain ⟨h, q⟩ := post_chk.mp p; exact ⟨.inl ⟨h, _, .of (R.frz _ _ s)⟩, q⟩
  | ro s t => obtain ⟨h, q⟩ := post_chk.mp p; exact ⟨.inl ⟨h, _, sqL_mono R.frz s⟩, q⟩
  | @loc n a e1 =>
    have p' : Post ((match M[n]? with | some (some (.lst _)) => if T = "list" then .ok () M else .bad | some (some (.dk _)) => if T = "dict" then .ok () M else .bad | _ => .bad) : Out Unit) q E := p
    split at p'
    · rename_i xs h
      obtain ⟨a', vs, ea, e2, e4, e5⟩ := loc_lst R (.loc e1) h
      by_cases hT : T = "list"
      · rw [if_pos hT] at p'
        rw [ea]
        exact ⟨.inl ⟨hT, _, .of e4⟩, p'⟩
      · rw [if_neg hT] at p'; exact p'.elim
    · rename_i xs h
      obtain ⟨a', e2, _, vs, e4, _⟩ := R.liv n _ h
      rw [e1] at e2
      cases e2
      by_cases hT : T = "dict"
      · rw [if_pos hT] at p'
        exact ⟨.inr (.inr (.inl ⟨hT, .inl ⟨_, e4⟩⟩)), p'⟩
      · rw [if_neg hT] at p'; exact p'.elim
    · exact p'.elim
  | _ => exact p.elim
def DMt (C : DX) (id : String) (op : D → List D → Py D) : Prop := ∃ r, MtR C.X id r ∧
  ∀ {g : G} {ρ : DEnv} {M : Store} {σ : St} {H : Hp} {x : V} {dx : D} {xs : List V} {ds : List D} (Q : VK), Rl C g ρ M σ H → Rep C.X.K g x dx → Reps C.X.K g xs ds → Post (op dx ds M) (QV C g ρ σ Q) (C.We ρ) → r x xs H Q
def eMt (T : String) (op : D → List D → Py D) (fo : DEnv → Py D) (ff : DEnv → Py (List D)) : DEnv → Py D := fun ρ => Py.bnd (fo ρ) fun o => Py.bnd (tyChk T o) fun _ => Py.bnd (ff ρ) fun ds => op o ds
def eMt0 (T : String) (op : D → List D → Py D) (fo : DEnv → Py D) : DEnv → Py D := fun ρ => Py.bnd (fo ρ) fun o => Py.bnd (tyChk T o) fun _ => op o []
variable {o : Expr} {fo : DEnv → Py D} {name : Str} {apos cpos : Pos} {mop : D → List D → Py D}
theorem de_bm (pa : PlainAttrs T) (slot : Slot T name id) (hty : typeOf (.builtin id) = pure (.type "method_descriptor")) (hm : DMt C id mop) (ho : DE C o fo) (ha : DA C (e :: es) ff)
    (hbase : attributeBase o name C.X.env (eval o C.X.env) = eval o C.X.env := by rfl)
    (hfew : ((backTo cpos (starEach (e :: es) C.X.env)).all (fun x => !x.1) && (backToKw cpos (keywordEach [] C.X.env)).all (fun x => x.1.isSome)
      && decide ((e :: es).length + ([] : List Keyword).length + (if ([] : List Keyword).isEmpty then 0 else 1) < 30)) = true := by rfl)
    (hline : (apos.endLine == cpos.line) = true := by rfl) (hs : starEach (e :: es) C.X.env = (false, eval e C.X.env) :: starEach es C.X.env := by rfl) (hplain : (backTo cpos (starEach es C.X.env)).any (·.1) = false := by rfl) :
    DE C (.Call (.Attribute o name apos) (e :: es) [] cpos) (eMt T mop fo ff) := by
  obtain ⟨r, hr, h⟩ := hm
  refine ⟨fun {g ρ M σ H} Q R p => wpe (pe_bm pa slot hty hr self_e self_a hbase hfew hline hs hplain) (ho.then_ R p fun v d M1 H1 g1 l1 R1 r1 p1 => ?_)⟩
  obtain ⟨ty, p2⟩ := tyChk_post R1.h r1 (post_bnd.mp p1)
  exact ⟨ty, ha.then_ R1 p2 fun vs ds M2 H2 g2 l2 R2 r2 p3 => h Q R2 (r1.mono l2) r2 (p3.imp fun _ _ q => q.later (l1.trans l2))⟩
theorem de_bm0 (pa : PlainAttrs T) (slot : Slot T name id) (hty : typeOf (.builtin id) = pure (.type "method_descriptor")) (hm : DMt C id mop) (ho : DE C o fo)
    (hbase : attributeBase o name C.X.env (eval o C.X.env) = eval o C.X.env := by rfl) (hline : (apos.endLine == cpos.line) = true := by rfl) : DE C (.Call (.Attribute o name apos) [] [] cpos) (eMt0 T mop fo) := by
  obtain ⟨r, hr, h⟩ := hm
  refine ⟨fun {g ρ M σ H} Q R p => wpe (pe_bm0 pa slot hty hr self_e hbase hline) (ho.then_ R p fun v d M1 H1 g1 l1 R1 r1 p1 => ?_)⟩
  obtain ⟨ty, p2⟩ := tyChk_post R1.h r1 (post_bnd.mp p1)
  exact ⟨ty, h Q R1 r1 .nil (p2.imp fun _ _ q => q.later l1)⟩
/-- what a list at a location becomes -/
def putL (n : Nat) (xs : List D) (d : D) : Py D := fun M => .ok d (M.set n (some (.lst xs)))
/-- the list at a location -/
def locL {α : Type} (d : D) (k : Nat → List D → Py α) : Py α := match d with
  | .loc n => fun M => match M[n]? with
    | some (some (.lst xs)) => k n xs M
    | _ => .bad
  | _ => Py.bad
theorem locL_post {α : Type} {K : PySem.W.Frag} {g : G} {M : Store} {H : Hp} {v : V} {d : D} {k : Nat → List D → Py α} {q : α → Store → Prop} {E : Exn → Store → Prop} (R : RelH K g M H) (r : Rep K g v d) (p : Post (locL d k M) q E) :
    ∃ n xs a vs, d = .loc n ∧ v = .ref a ∧ M[n]? = some (some (.lst xs)) ∧ g.io[n]? = some a ∧ H a = some (.lst vs) ∧ Reps K g vs xs ∧ Post (k n xs M) q E := by
  cases r with
  | @loc n a e1 =>
    have p' : Post ((match M[n]? with | some (some (.lst xs)) => k n xs M | _ => .bad) : Out α) q E := p
    split at p'
    · rename_i xs e
      obtain ⟨a', vs, ea, e2, e4, e5⟩ := loc_lst R (.loc e1) e
      cases ea
      exact ⟨n, xs, _, vs, rfl, rfl, e, e2, e4, e5, p'⟩
    · exact p'.elim
  | _ => exact p.elim
theorem QV.put {g : G} {ρ : DEnv} {M : Store} {σ : St} {H : Hp} {Q : VK} {n : Nat} {xs ys : List D} {a : Addr} {ws : List V} {d : D} {v : V} {E : Exn → Store → Prop} (R : Rl C g ρ M σ H) (e : M[n]? = some (some (.lst xs))) (ei : g.io[n]? = some a) (t : Reps C.X.K g ws ys) (r : Rep C.X.K g v d)
    (p : Post (putL n ys d M) (QV C g ρ σ Q) E) : Q v (upd H a (.lst ws)) := p v _ g (G.le.refl g) (R.next (G.le.refl g) (R.h.put e ei ⟨ws, upd_same, t⟩)) r
def appendD (o : D) (ds : List D) : Py D := match ds with
  | [y] => locL o fun n xs => Py.chk (xs.length < sizeLine) (putL n (xs ++ [y]) .non)
  | _ => Py.bad
theorem dm_append : DMt C "list.append" appendD := ⟨_, mt_append, fun {g ρ M σ H x dx xs ds} Q R r rr p => by
  unfold appendD at p
  split at p
  · rename_i y
    obtain ⟨v, rfl, r1⟩ := rr.one
    obtain ⟨n, xs, a, vs, rfl, rfl, e, ei, hH, t, p1⟩ := locL_post R.h r p
    obtain ⟨hz, p2⟩ := post_chk.mp p1
    exact ⟨a, vs, v, rfl, rfl, hH, by rw [t.length]; exact hz, QV.put R e ei (t.append (.cons r1 .nil)) .non p2⟩
  · exact p.elim⟩
theorem extend_list_tup {prog : Program} {w : World} {A : Around} {E : Value → Shared → Prop} {s : Shared} {l b : Addr} {items items2 : Array Value} {n : Nat} {Q : Value → Shared → Prop} (hl : s.heap.get? l = some { cls := .type "list", dict := none, data := .seq items n, slots := #[] }) (hb : IsTup s.heap b items2)
    (hs0 : ¬(!items.isEmpty && Builtin.List.listTooLong (items.size + items2.size)) = true) (hs1 : items.size ≤ sizeLine) (hs2 : items.size + items2.size ≤ sizeLine + 1)
    (q : Q .none { s with heap := s.heap.update l (Obj.mapSeq fun x => x ++ items2), toks := s.toks }) : wpAny (model prog w) A (call (.builtin "list.extend") [.ref l, .ref b]) Q E s := by
  obtain ⟨⟨c, dct, dat, sl⟩, hb1, hb2, n2, hb3⟩ := hb
  dsimp only at hb2 hb3
  subst hb2 hb3
  have rule : Meets (Builtin.«list.extend» ⟨[.ref l, .ref b], []⟩) (fun _ R s => s.heap.get? l = some { cls := .type "list", dict := none, data := .seq items n, slots := #[] } ∧ s.heap.get? b = some { cls := .type "tuple", dict := dct, data := .seq items2 n2, slots := sl } ∧ R (.ok (.ret Value.none)) { s with heap := s.heap.update l (Obj.mapSeq fun x => x ++ items2), toks := s.toks }) :=
    .of_wp fun prog w A R s h => by
      obtain ⟨hp, g, d, tk, os⟩ := s; obtain ⟨hl, hb, h⟩ := h; have f1 := AutoSeq1.idx_int; have f2 := AutoSeq1.sub_tuple_tuple; have f3 := AutoSeq1.sub_list_list; have f4 := AutoSeq1.sub_tuple_list; have f5 := AutoSeq1.sub_list_tuple
      have hz' : (items ++ items2).size ≤ sizeLine + 1 := by rw [Array.size_append]; exact hs2
      wp_walk using (wpAny_updateSeq hl rfl (hz := hs1) (_hz' := hz')), wpAny_loadPart' hl, wpAny_loadPart' hb; exact ⟨_, rfl, h⟩
  exact call_meets F.slot_list_extend ⟨_, hl, rfl⟩ F.entry_list_extend (F.args_list_extend_2 _ _) rule ⟨hl, hb1, q⟩
def rExtendT (K : PySem.W.Frag) : V → List V → Hp → VK → Prop := fun x vs H Q => ∃ l b xs zs, x = .ref l ∧ vs = [.ref b] ∧ H l = some (.lst xs) ∧ SqT K H b zs ∧ xs.length + zs.length ≤ sizeLine ∧ Q .non (upd H l (.lst (xs ++ zs)))
theorem mt_extendT {X : Cx} : MtR X "list.extend" (rExtendT X.K) := by
  intro pins s σ H x vs v us Q I rx rv h
  obtain ⟨l, b, xs, zs, rfl, rfl, hH, hB, hz, q⟩ := h
  cases rx
  obtain ⟨u, rfl, ru⟩ := rv.one
  cases ru
  obtain ⟨z, its, n, r, hl, e⟩ := I.lstM hH
  obtain ⟨its2, r2, p2, hl2⟩ := I.tuple hB
  have len2 : zs.length = its2.length := r2.length
  have hsz : its.toArray.size + its2.toArray.size ≤ sizeLine := by rw [List.size_toArray, List.size_toArray]; omega
  have hlong : ¬ (!its.toArray.isEmpty && Builtin.List.listTooLong (its.toArray.size + its2.toArray.size)) = true := by
    rw [notLongL hsz, Bool.and_false]
    exact Bool.false_ne_true
  refine extend_list_tup e p2 hlong (by rw [List.size_toArray]; omega) (by omega) ?_
  refine ⟨.non, _, I.lset (its' := its ++ its2) hH e (by simp) (r.append r2) ?_, rfl, q⟩
  rw [List.length_append]
  omega
/-- the items that a list is made longer by -/
def exItems (y : D) : Py (List D) := match y with
  | .tup xs => Py.ret xs
  | y => xitems y
theorem exItems_post {K : PySem.W.Frag} {g : G} {M : Store} {H : Hp} {v : V} {d : D} {q : List D → Store → Prop} {E : Exn → Store → Prop} (R : RelH K g M H) (r : Rep K g v d) (p : Post (exItems d M) q E) :
    ∃ a vs ds, v = .ref a ∧ (H a = some (.lst vs) ∨ SqT K H a vs) ∧ Reps K g vs ds ∧ q ds M := by
  cases r with
  | tup s t => exact ⟨_, _, _, rfl, .inr (.of (R.frz _ _ s)), t, p⟩
  | lst s t => obtain ⟨a, vs, ds, e, h, t, q⟩ := xitems_post R (.lst s t) p; exact ⟨a, vs, ds, e, .inl h, t, q⟩
  | loc e1 => obtain ⟨a, vs, ds, e, h, t, q⟩ := xitems_post R (.loc e1) p; exact ⟨a, vs, ds, e, .inl h, t, q⟩
  | _ => exact p.elim
def extendD (o : D) (ds : List D) : Py D := match ds with
  | [y] => locL o fun n xs => Py.bnd (exItems y) fun ys => Py.chk (xs.length + ys.length ≤ sizeLine) (putL n (xs ++ ys) .non)
  | _ => Py.bad
theorem dm_extend : DMt C "list.extend" extendD := ⟨_, MtR.or mt_extend mt_extendT, fun {g ρ M σ H x dx xs ds} Q R r rr p => by
  unfold extendD at p
  split at p
  · rename_i y
    obtain ⟨v, rfl, r1⟩ := rr.one
    obtain ⟨n, xs, a, vs, rfl, rfl, e, ei, hH, t, p1⟩ := locL_post R.h r p
    obtain ⟨b, ws, ys, rfl, h2, t2, p2⟩ := exItems_post R.h r1 (post_bnd.mp p1)
    obtain ⟨hz, p3⟩ := post_chk.mp p2
    rcases h2 with h2 | h2
    · exact .inl ⟨a, b, vs, ws, rfl, rfl, hH, h2, by rw [t.length, t2.length]; exact hz, QV.put R e ei (t.append t2) .non p3⟩
    · exact .inr ⟨a, b, vs, ws, rfl, rfl, hH, h2, by rw [t.length, t2.length]; exact hz, QV.put R e ei (t.append t2) .non p3⟩
  · exact p.elim⟩
def popD (o : D) (ds : List D) : Py D := match ds with
  | [] => locL o fun n xs => match xs[xs.length - 1]? with
    | some y => putL n xs.dropLast y
    | none => Py.bad
  | _ => Py.bad
theorem dm_pop : DMt C "list.pop" popD := ⟨_, mt_pop, fun {g ρ M σ H x dx xs ds} Q R r rr p => by
  unfold popD at p
  split at p
  · cases rr
    obtain ⟨n, xs, a, vs, rfl, rfl, e, ei, hH, t, p1⟩ := locL_post R.h r p
    cases h : xs[xs.length - 1]? with
    | none => rw [h] at p1; exact p1.elim
    | some y =>
      rw [h] at p1
      obtain ⟨v, h1, r1⟩ := t.get h
      exact ⟨a, vs, v, rfl, rfl, hH, by rw [t.length]; exact h1, QV.put R e ei t.dropLast r1 p1⟩
  · exact p.elim⟩
theorem Reps.eraseIdx {K : PySem.W.Frag} {g : G} : ∀ {vs : List V} {ds : List D} (i : Nat), Reps K g vs ds → Reps K g (vs.eraseIdx i) (ds.eraseIdx i)
  | _, _, _, .nil => .nil
  | _, _, 0, .cons _ t => t
  | _, _, i + 1, .cons r t => .cons r (Reps.eraseIdx i t)
def popAtD (o : D) (ds : List D) : Py D := match ds with
  | [.int i] => locL o fun n xs => match seqIndex? i xs.length with
    | some k => match xs[k]? with
      | some y => Py.chk (-(2 ^ 63) ≤ i ∧ i < 2 ^ 63) (putL n (xs.eraseIdx k) y)
      | none => Py.bad
    | none => Py.bad
  | _ => Py.bad
theorem dm_popAt : DMt C "list.pop" popAtD := ⟨_, mt_popAt, fun {g ρ M σ H x dx xs ds} Q R r rr p => by
  unfold popAtD at p
  split at p
  · rename_i i
    obtain ⟨v, rfl, r1⟩ := rr.one
    obtain ⟨n, xs, a, vs, rfl, rfl, e, ei, hH, t, p1⟩ := locL_post R.h r p
    cases hk : seqIndex? i xs.length with
    | none => rw [hk] at p1; exact p1.elim
    | some k =>
      rw [hk] at p1
      cases h : xs[k]? with
      | none =>
        have p2 : Post ((match xs[k]? with | some y => Py.chk (-(2 ^ 63) ≤ i ∧ i < 2 ^ 63) (putL n (xs.eraseIdx k) y) | none => Py.bad : Py D) M) (QV C g ρ σ Q) (C.We ρ) := p1
        rw [h] at p2; exact p2.elim
      | some y =>
        have p2 : Post ((match xs[k]? with | some y => Py.chk (-(2 ^ 63) ≤ i ∧ i < 2 ^ 63) (putL n (xs.eraseIdx k) y) | none => Py.bad : Py D) M) (QV C g ρ σ Q) (C.We ρ) := p1
        rw [h] at p2
        obtain ⟨⟨b1, b2⟩, p3⟩ := post_chk.mp p2
        obtain ⟨w', h1, r2⟩ := t.get h
        exact ⟨a, vs, i, k, w', rfl, by rw [rep_int r1], hH, b1, b2, by rw [t.length]; exact hk, h1, QV.put R e ei (t.eraseIdx k) r2 p3⟩
  · exact p.elim⟩
end
end L3
set_option Elab.async false
set_option linter.all false
set_option maxRecDepth 100000
set_option maxHeartbeats 4000000
set_option autoImplicit false
/-! defs that run where no guard stands (for repr of data within data) -/
namespace L3
open PySem PySem.Spec L2
open PyProof.Rows hiding St
/-- room, and no guard -/
structure RoomG (k : Nat) (A : Around) : Prop where
  room : Room k A
  gd : A.guards = some []
theorem RoomG.mono {j k : Nat} {A : Around} (r : RoomG k A) (h : j ≤ k) : RoomG j A := ⟨r.room.mono h, r.gd⟩
theorem RoomG.deeper {k : Nat} {A : Around} (r : RoomG (k + 1) A) (env : PySem.Env) : RoomG k (A.deeper env) := ⟨r.room.deeper env, r.gd⟩
theorem RoomG.in1 {k : Nat} {A : Around} (r : RoomG (k + 1) A) : RoomG k A.in1 := ⟨r.room.in1, r.gd⟩
theorem RoomG.make {k : Nat} {A : Around} (r : RoomG (k + 1) A) (C : Addr) (us : List Value) (kw : List (Str × Value)) : RoomG k (A.under (.builtin "type.__call__" ⟨.ref C :: us, kw⟩)) :=
  ⟨r.room.make C us kw, by
    have gd := r.gd
    simp [Around.under, Code.guards, Code.isGuard, guardIds, pushGuards, gd]⟩
theorem RoomG.units {k : Nat} {A : Around} (r : RoomG k A) : A.units + 64 < cLine := r.room.units
theorem RoomG.caller {k : Nat} (r : Room k callerA) : RoomG k callerA := ⟨r, rfl⟩
/-- a def's promise where no guard stands -/
structure FnG (P : Program) (w : World) (K : PySem.W.Frag) (mg : Str → Option Value) (base : Heap) (CX : CXT) (k : Nat) (f : Addr) (fd : FuncData) (ps : List Str) (sp : Sp) : Prop where
  many : ∀ xs H Q E, sp xs H Q E → xs.length = ps.length
  go : ∀ (A : Around) (out : List PySem.Env) (s : Shared) (H : Hp) (args : Args) (us : List Value) (xs : List V) (Q : VK) (E : XK), RoomG k A → Env0 P w K mg base A out s H → BindsTo s fd args (ps.zip us) → Vals xs us → sp xs H Q E → codeAny (model P w) A (.call (.ref f) args) (CR CX out P w H s Q E) s
section
variable {P : Program} {w : World} {K : PySem.W.Frag} {mg : Str → Option Value} {base : Heap} {CX : CXT} {k : Nat} {f : Addr} {fd : FuncData} {ps : List Str} {sp : Sp}
theorem FnG.of (F : FnOk P w K mg base CX k f fd ps sp) : FnG P w K mg base CX k f fd ps sp := ⟨F.len, fun A out s H args us xs Q E r => F.run A out s H args us xs Q E r.room⟩
theorem FnG.mono {j : Nat} (F : FnG P w K mg base CX j f fd ps sp) (h : j ≤ k) : FnG P w K mg base CX k f fd ps sp := ⟨F.many, fun A out s H args us xs Q E r => F.go A out s H args us xs Q E (r.mono h)⟩
/-- from a body -/
theorem fnG_of {name qual : Str} {params : Arguments} {body : List Stmt} {scope : Scope} {dV kV doc pm cdv ct oc : Value} {an od : Option Addr} {osl : Array (Option Value)} {N : List Str}
    (known : K.lookup f = some ⟨oc, od, .func (PySem.W.fnOf name qual params body scope dV kV doc pm an cdv ct), osl⟩) (code : PySem.W.codeIn K cdv qual = true) (S : FnScope N ps scope) (many : ∀ xs H Q E, sp xs H Q E → xs.length = ps.length)
    (reads : ∀ (A : Around) (out : List PySem.Env) (s : Shared) (H : Hp) (xs : List V) (Q : VK) (E : XK), RoomG k (A.deeper (envOfC qual scope s.heap.objs.size f cdv)) → sp xs H Q E →
      ∃ t, PSs (cxOf CX P w K mg base N qual scope f cdv A out s H E) body t ∧ t { nx := fun _ H' => Q .non H', rt := Q } (start N xs) H) : FnG P w K mg base CX (k + 1) f (PySem.W.fnOf name qual params body scope dV kV doc pm an cdv ct) ps sp := by
  refine ⟨many, fun A out s H args us xs Q E room env bound vals says => ?_⟩
  have inK : K.In s.heap := env.mod.kin.keeps fun b o z => (env.bs b o z).1
  have free : s.heap.NoLimit := env.mod.nolimit.keeps fun b o z => (env.bs b o z).1
  have kinds : ∀ y ∈ ps.zip us, scope.names.lookup y.1 = some .local ∨ (scope.names.lookup y.1 = some .cell ∧ ((cellsFrom (s.heap.objs.size + 1) scope.names []).lookup y.1).isSome = true) := by
    rintro ⟨n, v⟩ mem
    exact (S.par n (List.of_mem_zip mem).1).imp id fun q => ⟨q, PySem.W.cellsFrom_some _ _ _ (.inl q)⟩
  refine codeAny_call_function room.room.depth (inK _ _ known) rfl S.co S.gen rfl (PySem.W.codeRec_of inK code) (bound _ _ _ _ ?_)
  refine wpAny_newFunctionEnv_cells S.kind kinds fun e he s1 call => ?_
  subst he
  refine ⟨free.keeps call.toInCall.keep, codeAny_func ?_⟩
  obtain ⟨t, ht, q⟩ := reads A out s H xs Q E (room.deeper _) says
  have J := inv_start (CX := CX) (E := E) S room.room.hd env (many _ _ _ _ says) vals call
  refine wpAny_mono (ht.run [] s1 (start N xs) H _ J q) (fun fl s2 hs => ?_) fun _ _ z => z
  cases fl with
  | ret u => obtain ⟨v, σ2, H2, I, rv, q2⟩ := hs; exact ⟨v, H2, I.os, I.bare, I.base, I.hok, rv, q2⟩
  | next => obtain ⟨σ2, H2, I, q2⟩ := hs; exact ⟨V.non, H2, I.os, I.bare, I.base, I.hok, rfl, q2⟩
  | brk => exact hs.elim fun _ z => z.elim fun _ z => z.2.elim
  | cont => exact hs.elim fun _ z => z.elim fun _ z => z.2.elim
theorem okG {x qual : Str} {params : Arguments} {body : List Stmt} {scope : Scope} {dvs : List V} {kws : List (Str × V)} {N : List Str} (F : FunD K x qual params body scope dvs kws f fd) (S : FnScope N ps scope) (many : ∀ xs H Q E, sp xs H Q E → xs.length = ps.length)
    (reads : ∀ (cdv : Value) (A : Around) (out : List PySem.Env) (s : Shared) (H : Hp) (xs : List V) (Q : VK) (E : XK), RoomG k (A.deeper (envOfC qual scope s.heap.objs.size f cdv)) → sp xs H Q E →
      ∃ t, PSs (cxOf CX P w K mg base N qual scope f cdv A out s H E) body t ∧ t { nx := fun _ H' => Q .non H', rt := Q } (start N xs) H) : FnG P w K mg base CX (k + 1) f fd ps sp := by
  obtain ⟨_, _, _, _, _, _, _, cdv, _, _, rfl, a, b, _, _⟩ := F.ex
  exact fnG_of a b S many (reads cdv)
end
section
variable {X : Cx} {CX : CXT} {k : Nat} {f : Addr} {fd : FuncData} {ps : List Str} {sp : Sp} {E : St → XK} {x : Str} {p pos : Pos} {e : Expr} {es : List Expr} {t : TA}
theorem runG {pins : List (Addr × Obj)} {σ : St} {H : Hp} {s : Shared} {Q : VK} {us : List Value} {xs : List V} (F : FnG X.prog X.w X.K X.mg X.base CX k f fd ps sp) (room : RoomG k X.A) (bind_ : Binds X.K fd ps []) (pass : PassesAt CX X σ (E σ)) (J : Inv X pins σ H s) (r : Vals xs us) (says : sp xs H Q (E σ)) : wpAny (model X.prog X.w) X.A (call (.ref f) us) (EP X pins σ Q) X.xe s := by
  have many : us.length = ps.length := r.length.symm.trans (F.many _ _ _ _ says)
  have bound := bind_ s us J.kIn (by simpa using many)
  rw [List.append_nil] at bound
  refine wpAny_call (codeAny_mono (F.go X.A X.stack s H ⟨us, []⟩ us xs Q (E σ) room J.env0 bound r says) fun r2 s2 z => ?_)
  match r2, z with
  | .error e, z => exact pass pins H s e s2 J z
  | .ok (.ret u), z => exact J.after z
theorem pe_callG (F : FnG X.prog X.w X.K X.mg X.base CX k f fd ps sp) (room : RoomG k X.A) (hg : Gl X x) (hm : X.mg x = some (.ref f)) (kept : PySem.W.keepIn X.K (.ref f) = true) (bind_ : Binds X.K fd ps []) (pass : ∀ σ, PassesAt CX X σ (E σ)) (ha : PA X (e :: es) t) (nd : (x == ("__debug__" : Str)) = false := by decide)
    (st : starEach (e :: es) X.env = (false, eval e X.env) :: starEach es X.env := by rfl) (pl : (backTo pos (starEach es X.env)).any (·.1) = false := by rfl) : PE X (.Call (.Name x p) (e :: es) [] pos) (tCallS sp E t) :=
  ⟨fun pins s σ H Q I z => wpAny_Call_Name_kw (ld_glob I hg hm (PySem.W.callWith_K (h₀ := X.base) I.ok.mod.kin kept (thn (ha.run pos pins s σ H _ I z) fun us s1 ⟨xs, H1, J, r, q⟩ => ⟨J.kIn, runG F room bind_ (pass σ) J r q⟩) st pl) nd)⟩
theorem pe_callG0 (F : FnG X.prog X.w X.K X.mg X.base CX k f fd ps sp) (room : RoomG k X.A) (hg : Gl X x) (hm : X.mg x = some (.ref f)) (kept : PySem.W.keepIn X.K (.ref f) = true) (bind_ : Binds X.K fd ps []) (pass : ∀ σ, PassesAt CX X σ (E σ)) (nd : (x == ("__debug__" : Str)) = false := by decide) : PE X (.Call (.Name x p) [] [] pos) (tCallS sp E tNil) :=
  ⟨fun pins s σ H Q I z => wpAny_Call_Name_kw (ld_glob I hg hm (PySem.W.callWith_K0 I.kIn kept (runG (us := []) F room bind_ (pass σ) I .nil z)) nd)⟩
end
end L3
set_option Elab.async false
set_option linter.all false
set_option maxRecDepth 100000
set_option maxHeartbeats 4000000
set_option autoImplicit false
/-! the law's call where no guard stands -/
namespace L3
open PySem PySem.Spec L2
open PyProof.Rows hiding St
/-- what the law's call answers -/
abbrev Yes (s₁ : Shared) : Result → Shared → Prop := fun r s' => r = .ok (.ret (.bool true)) ∧ OldK s₁.heap s'.heap ∧ s'.os = s₁.os ∧ AllBare s'.gens
section
variable {P : Program} {w : World} {K : PySem.W.Frag} {mg mb : Str → Option Value} {CX : CXT} {k : Nat} {fa a : Addr} {fd : FuncData} {x : Str} {sp : Sp} {s₁ : Shared} {vs : List Value} {ns : List Int}
/-- from an abstract heap that holds at most the script -/
theorem lawG_core (KX : K.In s₁.heap) (hg0 : s₁.heap.Ns mainGlobals mg) (hb0 : s₁.heap.Ns builtinsNs mb) (names : ∀ x : Str, x ≠ "__name__" → mb x = bootBuiltins x) (free : s₁.heap.NoLimit) (still : s₁.gens = #[])
    (script : s₁.heap.get? a = some { cls := .type "list", data := .seq vs.toArray }) (room : Room k callerA)
    (F : ∀ base : Heap, K.In base → base.Ns mainGlobals mg → FnG P w K mg base CX k fa fd [x] sp) (bound : ∀ (s : Shared) (u : Value), BindsTo s fd ⟨[u], []⟩ [(x, u)])
    (says : ∀ H : Hp, Only H → SqL K H a (ns.map V.int) → sp [.ref a] H (fun v _ => v = .bl true) fun _ _ _ => False) (none_ : ∀ H e s', CX [] H s₁ (fun _ _ _ => False) e s' → False)
    (H : Hp) (only : Only H) (seq : SqL K H a (ns.map V.int)) (ok : HOk P w H s₁.heap) (alone : ∀ b u, H b = some u → b = a) (own : ∀ u, H a = some u → K.lookup a = none) : codeAny (model P w) callerA (.call (.ref fa) ⟨[.ref a], []⟩) (Yes s₁) s₁ := by
  have plain : ∀ {b : Addr} {m : Str → Option Value}, s₁.heap.Ns b m → (hidT s₁.heap H).Ns b m := by
    rintro b m ⟨o, es, ep, e, d, r⟩
    refine ⟨o, es, ep, hidT_get e ?_, d, r⟩
    cases q : H b with
    | none => rfl
    | some u =>
      cases alone b u q
      rw [script] at e
      cases e
      cases (show Data.seq vs.toArray _ = Data.dict es ep from d)
  have KB : K.In (hidT s₁.heap H) := fun b o e => by
    refine hidT_get (KX b o e) ?_
    cases q : H b with
    | none => rfl
    | some u =>
      cases alone b u q
      cases (own u q).symm.trans e
  obtain ⟨mc, l1, l2⟩ := free
  have env : Env0 P w K mg (hidT s₁.heap H) callerA [] s₁ H := ⟨rfl, ⟨KB, plain hg0, ⟨mb, plain hb0, names⟩, ⟨mc, plain l1, l2⟩⟩, fun b o e => of_hidT e, Nat.le_of_eq (hidT_size s₁.heap H), trivial, fun b z => (List.not_mem_nil z).elim, ok, .of_eq still⟩
  refine codeAny_mono ((F _ KB (plain hg0)).go callerA [] s₁ H _ [.ref a] [.ref a] _ _ (.caller room) env (bound s₁ _) (.cons rfl .nil) (says H only seq)) fun r s2 z => ?_
  match r, z with
  | .error e, z => exact (none_ H e s2 z).elim
  | .ok (.ret u), ⟨v, H2, os, bare, un, ok2, rv, q⟩ =>
    cases (show v = V.bl true from q)
    cases (show u = Value.bool true from rv)
    refine ⟨rfl, OldK.of_keep fun b o e => ?_, os, bare⟩
    rcases only b with n | ⟨ob, xs, n⟩
    · exact un.keep b o e n (fun z => (List.not_mem_nil z).elim) List.not_mem_nil
    · have e1 := (ok b _ n).1
      have same : o = ob := Option.some.inj (e.symm.trans e1)
      rw [same]
      exact (ok2 b _ (un.frzs b ob _ n)).1
theorem lawG (KX : K.In s₁.heap) (hg0 : s₁.heap.Ns mainGlobals mg) (hb0 : s₁.heap.Ns builtinsNs mb) (names : ∀ x : Str, x ≠ "__name__" → mb x = bootBuiltins x) (free : s₁.heap.NoLimit) (still : s₁.gens = #[])
    (script : s₁.heap.get? a = some { cls := .type "list", data := .seq vs.toArray }) (hi : IntsAre vs ns) (fits : ns.length ≤ sizeLine) (room : Room k callerA)
    (F : ∀ base : Heap, K.In base → base.Ns mainGlobals mg → FnG P w K mg base CX k fa fd [x] sp) (bound : ∀ (s : Shared) (u : Value), BindsTo s fd ⟨[u], []⟩ [(x, u)])
    (says : ∀ H : Hp, Only H → SqL K H a (ns.map V.int) → sp [.ref a] H (fun v _ => v = .bl true) fun _ _ _ => False) (none_ : ∀ H e s', CX [] H s₁ (fun _ _ _ => False) e s' → False) : codeAny (model P w) callerA (.call (.ref fa) ⟨[.ref a], []⟩) (Yes s₁) s₁ := by
  have rv := vals_ints hi
  have core := lawG_core KX hg0 hb0 names free still script room F bound says none_
  by_cases hk : K.lookup a = none
  · refine core (fun b => if b = a then some (.frz { cls := .type "list", data := .seq vs.toArray } (.lst (ns.map V.int))) else none) (fun b => ?_) (.inl (.inr ⟨_, if_pos rfl⟩)) (fun b u z => ?_) (fun b u z => ?_) fun _ _ => hk
    · by_cases e : b = a
      · exact .inr ⟨_, _, if_pos e⟩
      · exact .inl (if_neg e)
    · by_cases e : b = a
      · subst e
        cases (if_pos rfl).symm.trans z
        exact ⟨script, by rw [List.length_map]; exact fits, vs, _, rv, script⟩
      · cases (if_neg e).symm.trans z
    · by_cases e : b = a
      · exact e
      · cases (if_neg e).symm.trans z
  · obtain ⟨o, hk⟩ := Option.ne_none_iff_exists'.mp hk
    have e := KX a o hk
    rw [script] at e
    cases e
    refine core (fun _ => none) (fun _ => .inl rfl) (.inr ⟨_, vs.toArray, _, hk, rfl, rfl, rfl, by rw [List.size_toArray, hi.length]; exact fits, by simpa using rv⟩) (fun _ _ z => nomatch z) (fun _ _ z => nomatch z) fun _ z => nomatch z
end
theorem walkG {l : PySem.W.OpenLaw} {n k : Nat} {q : Program} {loose : List Str} {XP : (Str → Option Value) → Heap → Prop} {YP : World → Heap → Prop} {d : DefRec} {CX : World → CXT} {x : Str} (most : l.most = some n) (small : n ≤ sizeLine) (nodef : d.params.defaults = []) (room : Room k callerA)
    (F : ∀ (w : World) (mg : Str → Option Value) (fa : Addr) (h : Heap), YP w h → h.Ns mainGlobals mg → mg d.name = some (.ref fa) → ∃ (K : PySem.W.Frag) (fd : FuncData) (sp : Sp), K.In h ∧ (∀ (s : Shared) (u : Value), BindsTo s fd ⟨[u], []⟩ [(x, u)]) ∧
      (∀ (H : Hp) (a : Addr) (ns : List Int), ns.length ≤ n → Only H → SqL K H a (ns.map V.int) → sp [.ref a] H (fun v _ => v = .bl true) fun _ _ _ => False) ∧ ∀ base : Heap, K.In base → base.Ns mainGlobals mg → FnG l.prog w K mg base (CX w) k fa fd [x] sp)
    (none_ : ∀ (w : World) (H : Hp) (s : Shared) (e : Value) (s' : Shared), CX w [] H s (fun _ _ _ => False) e s' → False) : PySem.W.WalkO q loose XP YP l.row.toRowW d [] (fun f vs => PySem.call f vs) := by
  refine Att.attach_call most nodef fun w s₀ s₁ mg mb fa o pm cd doc a vs ns G Y ho hd hcd named script are many still => ?_
  obtain ⟨K, fd, sp, KX, bound, says, go⟩ := F w mg fa _ Y G.T.g named
  exact lawG KX G.T.g G.T.b G.T.builtins G.T.nolimit still script are (Nat.le_trans many small) room go bound (fun H only seq => says H a ns many only seq) fun H e => none_ w H s₁ e
end L3
set_option Elab.async false
set_option linter.all false
set_option maxRecDepth 100000
set_option autoImplicit false
namespace L3
open PySem PySem.Spec L2
open PyProof.Rows hiding St

/-! ### statements -/
def sSet (i : Nat) (f : DEnv → Py D) : DEnv → Py Fl := fun ρ => Py.bnd (f ρ) fun d => Py.ret (.nx (ρ.set i (some d)))
def sAsg (f : DEnv → Py D) (ft : D → DEnv → Py DEnv) : DEnv → Py Fl := fun ρ => Py.bnd (f ρ) fun d => Py.bnd (ft d ρ) fun ρ' => Py.ret (.nx ρ')
def sRet (f : DEnv → Py D) : DEnv → Py Fl := fun ρ => Py.bnd (f ρ) fun d => Py.ret (.rt d)
def sRetN : DEnv → Py Fl := fun _ => Py.ret (.rt .non)
def sDrop (f : DEnv → Py D) : DEnv → Py Fl := fun ρ => Py.bnd (f ρ) fun _ => Py.ret (.nx ρ)
def sIf (t : DEnv → Py Bool) (a b : DEnv → Py Fl) : DEnv → Py Fl := fun ρ => Py.bnd (t ρ) fun c => if c then a ρ else b ρ
def sNext : DEnv → Py Fl := fun ρ => Py.ret (.nx ρ)
def sSeq (a b : DEnv → Py Fl) : DEnv → Py Fl := fun ρ => Py.bnd (a ρ) fun r => match r with
  | .nx ρ' => b ρ'
  | r => Py.ret r
def sBad : DEnv → Py Fl := fun _ => Py.bad
def sBk : DEnv → Py Fl := fun ρ => Py.ret (.bk ρ)
def sCt : DEnv → Py Fl := fun ρ => Py.ret (.ct ρ)
section
variable {C : DX} {pos : Pos} {e : Expr} {st : Stmt} {sts rest : List Stmt} {f : DEnv → Py D} {a b : DEnv → Py Fl} {t : DEnv → Py Bool}
theorem ds_set {i : Nat} {x : Str} {pos' : Pos} (hN : C.X.N.Nodup) (he : DE C e f) (hi : C.X.N[i]? = some x := by rfl) (hx : Loc C.X.env.scope x := by first | exact Or.inl rfl | exact Or.inr rfl) (hs : swapsWith e (some (.Name x pos')) pos.line C.X.env = pure false := by rfl)
    (hf : C.X.fn x = true ∨ C.X.env.scope.names.lookup x = some .local := by first | exact .inl rfl | exact .inr rfl) : DS C (.Assign [.Name x pos'] e pos) (sSet i f) := ⟨fun {g ρ M σ H} E R p =>
  wps (ps_set hN hi hx self_e hs hf) (he.then_ R p fun v d M1 H1 g1 l1 R1 r1 p1 => p1 _ _ g1 l1 (R1.set i r1))⟩
theorem ds_asg {tg : Expr} {ft : D → DEnv → Py DEnv} {vs : List Nat} {tt : TG} (he : DE C e f) (hg : DG C vs tg ft tt) (hs : swapsWithSole [tg] e pos.line C.X.env = pure false := by rfl) (hw : swappedStores [tg] e C.X.env = pure none := by rfl)
    (h1 : (assignEach [tg] C.X.env).map (·.2) = [assign tg C.X.env] := by rfl) : DS C (.Assign [tg] e pos) (sAsg f ft) := ⟨fun {g ρ M σ H} E R p =>
  wps (ps_asg self_e hg.pg hs hw h1) (he.then_ R p fun v d M1 H1 g1 l1 R1 r1 p1 => hg.run _ R1 r1 ((post_bnd.mp p1).imp fun ρ' M2 p2 σ' H' g' l' R' _ => p2 σ' H' g' (l1.trans l') R'))⟩
/-- a, b = x, y -/
def parK (i j : Nat) (ρ : DEnv) : List D → Py Fl
  | [d, e] => Py.ret (.nx ((ρ.set i (some d)).set j (some e)))
  | _ => Py.bad
def sPar (i j : Nat) (ff : DEnv → Py (List D)) : DEnv → Py Fl := fun ρ => Py.bnd (ff ρ) (parK i j ρ)
theorem parK_post {i j : Nat} {ρ : DEnv} {ds : List D} {M : Store} {q : Fl → Store → Prop} {E : Exn → Store → Prop} (p : Post (parK i j ρ ds M) q E) : ∃ d e, ds = [d, e] ∧ q (.nx ((ρ.set i (some d)).set j (some e))) M := by
  unfold parK at p
  split at p
  · exact ⟨_, _, rfl, p⟩
  · exact p.elim
theorem ds_par {i j : Nat} {x y : Str} {a b : Expr} {ff : DEnv → Py (List D)} {px py pt : Pos} {kt k2 : Nat} {pt2 : Pos} (hc : C.X.calm = true) (hN : C.X.N.Nodup) (ha : DA C [a, b] ff) (hi : C.X.N[i]? = some x := by rfl) (hj : C.X.N[j]? = some y := by rfl) (hij : i ≠ j := by decide)
    (hx : C.X.env.scope.names.lookup x = some .local := by rfl) (hy : C.X.env.scope.names.lookup y = some .local := by rfl)
    (hw : swappedStores [.Tuple [.Name x px, .Name y py] kt pt] (.Tuple [a, b] k2 pt2) C.X.env = pure (some [x, y]) := by rfl)
    (hs : swapsWithSole [.Tuple [.Name x px, .Name y py] kt pt] (.Tuple [a, b] k2 pt2) pos.line C.X.env = pure false := by rfl) :
    DS C (.Assign [.Tuple [.Name x px, .Name y py] kt pt] (.Tuple [a, b] k2 pt2) pos) (sPar i j ff) := ⟨fun {g ρ M σ H} E R p =>
  wps (ps_par hc hN hi hj hij hx hy self_a hw hs) (ha.then_ R p fun vs ds M1 H1 g1 l1 R1 r1 p1 => by
    obtain ⟨d, e, rfl, p2⟩ := parK_post p1
    obtain ⟨v, w', rfl, ra, rb⟩ := r1.two
    exact ⟨v, w', rfl, p2 _ _ g1 l1 ((R1.set i ra).set j rb)⟩)⟩
theorem ds_ret (he : DE C e f) : DS C (.Return (some e) pos) (sRet f) := ⟨fun {g ρ M σ H} E R p =>
  wps (ps_ret self_e) (he.then_ R p fun v d M1 H1 g1 l1 R1 r1 p1 => p1 v H1 g1 l1 R1.b R1.h r1)⟩
theorem ds_retN : DS C (.Return none pos) sRetN := ⟨fun {g ρ M σ H} E R p => wps ps_retN (show E.rt .non H from p .non H g (G.le.refl g) R.b R.h .non)⟩
theorem ds_expr (he : DE C e f) (hs : swapsWith e none pos.line C.X.env = pure false := by rfl) : DS C (.Expr e pos) (sDrop f) := ⟨fun {g ρ M σ H} E R p =>
  wps (ps_expr self_e hs) (he.then_ R p fun v d M1 H1 g1 l1 R1 r1 p1 => p1 _ _ g1 l1 R1)⟩
theorem ds_if {c : Expr} {xs ys : List Stmt} (hc : DT C c t) (ha : DSs C xs a) (hb : DSs C ys b) : DS C (.If c xs ys pos) (sIf t a b) := ⟨fun {g ρ M σ H} E R p =>
  wps (ps_if self_t self_ss self_ss) (hc.then_ R p fun c M1 H1 g1 l1 R1 p1 => by
    cases c with
    | true => rw [if_pos rfl]; exact ha.run E R1 (Post.imp (show Post (a ρ M1) _ _ from p1) fun _ _ q => q.later l1)
    | false => rw [if_neg Bool.false_ne_true]; exact hb.run E R1 (Post.imp (show Post (b ρ M1) _ _ from p1) fun _ _ q => q.later l1))⟩
theorem ds_pass : DS C (.Pass pos) sNext := ⟨fun {g ρ M σ H} E R p => wps ps_pass (show E.nx σ H from p σ H g (G.le.refl g) R)⟩
theorem ds_doc {x : Str} {j : Nat} {pos' : Pos} : DS C (.Expr (.Constant (.str x) j pos) pos') sNext := ⟨fun {g ρ M σ H} E R p => wps ps_doc (show E.nx σ H from p σ H g (G.le.refl g) R)⟩
theorem ds_break : DS C (.Break pos) sBk := ⟨fun {g ρ M σ H} E R p => wps ps_break (show E.bk σ H from p σ H g (G.le.refl g) R)⟩
theorem ds_continue : DS C (.Continue pos) sCt := ⟨fun {g ρ M σ H} E R p => wps ps_continue (show E.ct σ H from p σ H g (G.le.refl g) R)⟩
/-- what is never reached -/
theorem ds_never : DS C st sBad := ⟨fun {g ρ M σ H} E R p => False.elim p⟩
theorem dss_never : DSs C sts sBad := ⟨fun {g ρ M σ H} E R p => False.elim p⟩
theorem dss_nil : DSs C [] sNext := ⟨fun {g ρ M σ H} E R p => wpss pss_nil (show E.nx σ H from p σ H g (G.le.refl g) R)⟩
theorem dss_one (h : DS C st a) : DSs C [st] a := ⟨fun {g ρ M σ H} E R p => wpss (pss_one self_s) (h.run E R p)⟩
theorem dss_cons (ev : C.Even) (h : DS C st a) (hr : DSs C rest b) : DSs C (st :: rest) (sSeq a b) := ⟨fun {g ρ M σ H} E R p => by
  refine wpss (pss_cons self_s self_ss) (h.run _ R ((post_bnd.mp p).imp fun r M1 p1 => ?_))
  cases r with
  | nx ρ' => exact fun σ' H' g' l' R' => hr.run E R' (p1.mono (fun _ _ q => q.later l') fun _ _ z => ev _ _ _ _ z)
  | bk ρ' => exact p1
  | ct ρ' => exact p1
  | rt d => exact p1⟩
/-- a list at the location in slot i is changed no more: it is data from here on -/
def fzL (i : Nat) (b : DEnv → Py Fl) : DEnv → Py Fl := fun ρ => Py.bnd (getV ρ[i]?) fun d => locL d fun n xs => fun M => b (ρ.set i (some (.lst xs))) (M.set n none)
theorem getV_post {o : Option (Option D)} {M : Store} {q : D → Store → Prop} {E : Exn → Store → Prop} (p : Post (getV o M) q E) : ∃ d, o = some (some d) ∧ q d M := by
  cases o with
  | none => exact p.elim
  | some o =>
    cases o with
    | none => exact p.elim
    | some d => exact ⟨d, rfl, p⟩
theorem dss_fz (i : Nat) (ev : C.Even) (h : DSs C sts b) : DSs C sts (fzL i b) := ⟨fun {g ρ M σ H} E R p => by
  obtain ⟨d, e, p1⟩ := getV_post (post_bnd.mp p)
  obtain ⟨v, e1, r⟩ := R.e.at_ i _ e
  obtain ⟨n, xs, a, vs, rfl, rfl, em, e2, e3, t, p2⟩ := locL_post R.h r p1
  obtain ⟨L, R2⟩ := R.h.freeze em e2 e3
  have r2 : Rep C.X.K (g.add a (.lst vs)) (.ref a) (.lst xs) := .lst upd_same (t.mono L)
  have hs : σ.set i (some (.ref a)) = σ := by
    refine List.ext_getElem? fun j => ?_
    by_cases hj : i = j
    · subst hj
      rw [List.getElem?_set_self (List.getElem?_eq_some_iff.mp e1).1]
      exact e1.symm
    · rw [List.getElem?_set_ne hj]
  have R3 : RelE C.X.K (g.add a (.lst vs)) σ (ρ.set i (some (.lst xs))) := by
    have := (R.e.mono L).set i r2
    rw [hs] at this
    exact this
  exact h.run E ⟨R.b.trans L, R2, R3⟩ (Post.mono (show Post (b _ _) _ _ from p2) (fun _ _ q => q.later L) fun _ _ z => ev _ _ _ _ z)⟩
/-- o[i] = e -/
def setK (n : Nat) (xs : List D) (v : D) : D → Py Unit
  | .int k => match ixN xs.length k with
    | some j => fun M => .ok () (M.set n (some (.lst (xs.set j v))))
    | none => Py.bad
  | _ => Py.bad
def setD (o i v : D) : Py Unit := locL o fun n xs => setK n xs v i
theorem setK_post {n : Nat} {xs : List D} {v i : D} {M : Store} {q : Unit → Store → Prop} {E : Exn → Store → Prop} (p : Post (setK n xs v i M) q E) : ∃ k j, i = .int k ∧ ixN xs.length k = some j ∧ q () (M.set n (some (.lst (xs.set j v)))) := by
  cases i with
  | int k =>
    have p' : Post ((match ixN xs.length k with | some j => fun M => .ok () (M.set n (some (.lst (xs.set j v)))) | none => Py.bad : Py Unit) M) q E := p
    cases h : ixN xs.length k with
    | none => rw [h] at p'; exact p'.elim
    | some j => rw [h] at p'; exact ⟨k, j, rfl, h, p'⟩
  | _ => exact p.elim
def sSub (fo fi fv : DEnv → Py D) : DEnv → Py Fl := fun ρ => Py.bnd (fv ρ) fun v => Py.bnd (fo ρ) fun o => Py.bnd (fi ρ) fun i => Py.bnd (setD o i v) fun _ => Py.ret (.nx ρ)
theorem setD_post {K : PySem.W.Frag} {g : G} {M : Store} {H : Hp} {o i v : D} {x y z : V} {q : Unit → Store → Prop} {E : Exn → Store → Prop} (R : RelH K g M H) (rx : Rep K g x o) (ry : Rep K g y i) (rz : Rep K g z v) (p : Post (setD o i v M) q E) :
    ∃ a vs k j M', x = .ref a ∧ y = .int k ∧ H a = some (.lst vs) ∧ ixN vs.length k = some j ∧ q () M' ∧ RelH K g M' (upd H a (.lst (vs.set j z))) := by
  obtain ⟨n, xs, a, vs, rfl, rfl, e, e1, e2, t, p1⟩ := locL_post R rx p
  obtain ⟨k, j, rfl, ej, q⟩ := setK_post p1
  exact ⟨a, vs, k, j, _, rfl, rep_int ry, e2, by rw [t.length]; exact ej, q, R.put e e1 ⟨_, upd_same, t.set rz j⟩⟩
theorem ds_sub {o i : Expr} {fo fi : DEnv → Py D} {tpos : Pos} (ho : DE C o fo) (hi : DE C i fi) (hv : DE C e f)
    (ha : ∀ v, assign (.Subscript o i tpos) C.X.env v = (do
      let ov ← holding [v] (eval o C.X.env)
      let iv ← holding [v, ov] (eval i C.X.env)
      standAt tpos
      holding [v, ov, iv] (setItem ov iv v)
      release [v, ov, iv] []) := by intro _; rfl)
    (hs : swapsWithSole [.Subscript o i tpos] e pos.line C.X.env = pure false := by rfl) (hw : swappedStores [.Subscript o i tpos] e C.X.env = pure none := by rfl)
    (h1 : (assignEach [.Subscript o i tpos] C.X.env).map (·.2) = [assign (.Subscript o i tpos) C.X.env] := by rfl) : DS C (.Assign [.Subscript o i tpos] e pos) (sSub fo fi f) := ⟨fun {g ρ M σ H} E R p =>
  wps (ps_asg self_e (pg_sub self_e self_e set_list ha) hs hw h1) (hv.then_ R p fun v d M1 H1 g1 l1 R1 r1 p1 => ho.then_ R1 p1 fun x o' M2 H2 g2 l2 R2 r2 p2 => hi.then_ R2 p2 fun y i' M3 H3 g3 l3 R3 r3 p3 => by
    obtain ⟨a, vs, k, j, M', rfl, rfl, e1, e2, q, R'⟩ := setD_post R3.h (r2.mono l3) r3 (r1.mono (l2.trans l3)) (post_bnd.mp p3)
    exact ⟨a, vs, k, j, rfl, rfl, e1, e2, q _ _ g3 ((l1.trans l2).trans l3) (R3.next (G.le.refl g3) R')⟩)⟩
/-- name op= e -/
def sAug (i : Nat) (op : D → D → Py D) (f : DEnv → Py D) : DEnv → Py Fl := fun ρ => Py.bnd (getV ρ[i]?) fun x => Py.bnd (f ρ) fun y => Py.bnd (op x y) fun z => Py.ret (.nx (ρ.set i (some z)))
theorem ds_aug {i : Nat} {x : Str} {pos' : Pos} {o : Operator} {op : D → D → Py D} {r : R2} (hN : C.X.N.Nodup) (he : DE C e f) (ho : OpR C.X (inplaceOp o) r)
    (hop : ∀ {g : G} {ρ : DEnv} {M : Store} {σ : St} {H : Hp} {x y : V} {dx dy : D} (Q : VK), Rl C g ρ M σ H → Rep C.X.K g x dx → Rep C.X.K g y dy → Post (op dx dy M) (QV C g ρ σ Q) (C.We ρ) → r x y H Q) (hi : C.X.N[i]? = some x := by rfl) (hx : Loc C.X.env.scope x := by first | exact Or.inl rfl | exact Or.inr rfl)
    (hf : C.X.fn x = true ∨ C.X.env.scope.names.lookup x = some .local := by first | exact .inl rfl | exact .inr rfl) : DS C (.AugAssign (.Name x pos') o e pos) (sAug i op f) := ⟨fun {g ρ M σ H} E R p => by
  obtain ⟨d, e1, p1⟩ := getV_post (post_bnd.mp p)
  obtain ⟨v, e2, r2⟩ := R.e.at_ i d e1
  refine wps (ps_aug hN hi hx self_e (show PIp C.X o r from ho) hf) ⟨v, e2, he.then_ R p1 fun u y M1 H1 g1 l1 R1 r1 p2 => ?_⟩
  exact hop _ R1 (r2.mono l1) r1 ((post_bnd.mp p2).imp fun z M2 q w' H' g' l' R' r' => q _ _ g' (l1.trans l') (R'.set i r'))⟩
/-- while -/
def whD (t : DEnv → Py Bool) (body : DEnv → Py Fl) : Nat → DEnv → Py Fl
  | 0, _ => Py.bad
  | n + 1, ρ => Py.bnd (t ρ) fun c => if c then Py.bnd (body ρ) fun r => match r with
      | .nx ρ' => whD t body n ρ'
      | .ct ρ' => whD t body n ρ'
      | .bk ρ' => Py.ret (.nx ρ')
      | .rt v => Py.ret (.rt v)
    else Py.ret (.nx ρ)
theorem ds_while (n : Nat) {c : Expr} {body : List Stmt} (hp : PassesOwn (model C.X.prog C.X.w) C.X.A C.X.env C.X.xe) (ev : C.Even) (hc : DT C c t) (hb : DSs C body b) : DS C (.While c body [] pos) (whD t b n) := ⟨fun {g ρ M σ H} E R p => by
  refine wps (ps_while hp self_t self_ss) ⟨fun m σ' H' => ∃ g' ρ' M', g.le g' ∧ Rl C g' ρ' M' σ' H' ∧ Post (whD t b m ρ' M') (QS C g E) (C.We ρ), ⟨n, g, ρ, M, G.le.refl g, R, p⟩, ?_⟩
  rintro m σ' H' ⟨g', ρ', M', l', R', p'⟩
  cases m with
  | zero => exact p'.elim
  | succ m =>
    have p2 : Post (Py.bnd (t ρ') (fun c => if c then Py.bnd (b ρ') fun r => match r with
      | .nx ρ' => whD t b m ρ'
      | .ct ρ' => whD t b m ρ'
      | .bk ρ' => Py.ret (.nx ρ')
      | .rt v => Py.ret (.rt v)
    else Py.ret (.nx ρ')) M') (QS C g E) (C.We ρ') := p'.mono (fun _ _ z => z) fun _ _ z => ev _ _ _ _ z
    refine hc.then_ R' p2 fun c M1 H1 g1 l1 R1 p3 => ?_
    cases c with
    | false =>
      rw [if_neg Bool.false_ne_true]
      exact p3 σ' H1 g1 (l'.trans l1) R1
    | true =>
      rw [if_pos rfl]
      refine ⟨fun σ2 H2 => ∃ g2 ρ2 M2, g.le g2 ∧ Rl C g2 ρ2 M2 σ2 H2 ∧ Post (whD t b m ρ2 M2) (QS C g E) (C.We ρ), fun σ2 H2 h => ⟨m, Nat.lt_succ_self m, h⟩, ?_⟩
      refine hb.run _ R1 ((post_bnd.mp p3).imp fun r M4 p4 => ?_)
      have L := l'.trans l1
      cases r with
      | nx ρ4 => exact fun σ4 H4 g4 l4 R4 => ⟨g4, ρ4, M4, L.trans l4, R4, p4.mono (fun _ _ z => z) fun _ _ z => ev _ _ _ _ z⟩
      | ct ρ4 => exact fun σ4 H4 g4 l4 R4 => ⟨g4, ρ4, M4, L.trans l4, R4, p4.mono (fun _ _ z => z) fun _ _ z => ev _ _ _ _ z⟩
      | bk ρ4 => exact fun σ4 H4 g4 l4 R4 => p4 σ4 H4 g4 (L.trans l4) R4
      | rt v => exact fun v4 H4 g4 l4 b4 R4 r4 => p4 v4 H4 g4 (L.trans l4) b4 R4 r4⟩
end

/-! ### defs -/
/-- how an exception stands for one of data -/
def ExnRep (K : PySem.W.Frag) (g : G) (c : Value) (d : Option Addr) (e : Exn) : Prop :=
  c = .ref (He.ga K e.cls) ∧ match d with
    | none => e.fs = []
    | some a => ∃ vs, g.F a = some (.xd vs) ∧ Reps K g (vs.map (·.2)) (e.fs.map (·.2)) ∧ vs.map (·.1) = e.fs.map (·.1)
/-- a def's promise: it gives what m gives -/
def spD (K : PySem.W.Frag) (w : World) (n : Nat) (m : List D → Py D) : Sp := fun vs H Q E => vs.length = n ∧ ∃ g M ds, g.w = w ∧ RelH K g M H ∧ Reps K g vs ds ∧
  Post (m ds M) (fun d M' => ∀ v H' g', g.le g' → RelH K g' M' H' → Rep K g' v d → Q v H') (fun e M' => ∀ c dx H' g', g.le g' → RelH K g' M' H' → ExnRep K g' c dx e → E c dx H')
/-- what a body gives -/
@[irreducible] def runD (n : Nat) (body : DEnv → Py Fl) : List D → Py D := fun ds => Py.bnd (body (ds.map some ++ List.replicate (n - ds.length) none)) fun r => match r with
  | .nx _ => Py.ret .non
  | .rt d => Py.ret d
  | _ => Py.bad
/-- the def named x keeps to m -/
structure Dfn (P : Program) (w : World) (K : PySem.W.Frag) (mg : Str → Option Value) (base : Heap) (CX : CXT) (k : Nat) (x : Str) (n : Nat) (m : List D → Py D) : Prop where
  ex : ∃ f fd ps, FnG P w K mg base CX k f fd ps (spD K w n m) ∧ mg x = some (.ref f) ∧ PySem.W.keepIn K (.ref f) = true ∧ Binds K fd ps []
/-- exceptions of a callee are taken here -/
def TkD (C : DX) (CX : CXT) : Prop := ∀ σ, PassesAt CX C.X σ (fun c dx H' => ∃ e ρ M' g', C.B.le g' ∧ RelH C.X.K g' M' H' ∧ RelE C.X.K g' σ ρ ∧ ExnRep C.X.K g' c dx e ∧ C.W e ρ M')
section
variable {C : DX} {CX : CXT} {k n : Nat} {x : Str} {p pos : Pos} {e : Expr} {es : List Expr} {ff : DEnv → Py (List D)} {m : List D → Py D}
theorem sp_run {g : G} {ρ : DEnv} {M : Store} {σ : St} {H : Hp} {vs : List V} {ds : List D} {Q : VK} {q : D → Store → Prop} (R : Rl C g ρ M σ H) (r : Reps C.X.K g vs ds) (hl : vs.length = n) (p : Post (m ds M) q (C.We ρ)) (h : ∀ d M', q d M' → QV C g ρ σ Q d M') :
    spD C.X.K C.X.w n m vs H Q (fun c dx H' => ∃ e ρ M' g', C.B.le g' ∧ RelH C.X.K g' M' H' ∧ RelE C.X.K g' σ ρ ∧ ExnRep C.X.K g' c dx e ∧ C.W e ρ M') :=
  ⟨hl, g, M, ds, R.w, R.h, r, p.mono (fun d M' z v H' g' l R' r' => h d M' z v H' g' l (R.next l R') r') fun e M' z c dx H' g' l R' x => ⟨e, ρ, M', g', R.b.trans l, R', R.e.mono l, x, z⟩⟩
/-- the number of the arguments -/
def nargs (n : Nat) (m : List D → Py D) : List D → Py D := fun ds => Py.chk (ds.length = n) (m ds)
theorem de_call (D' : Dfn C.X.prog C.X.w C.X.K C.X.mg C.X.base CX k x n m) (hr : RoomG k C.X.A) (tk : TkD C CX) (ha : DA C (e :: es) ff) (hg : Gl C.X x := by rfl) (hdb : (x == ("__debug__" : Str)) = false := by decide)
    (he : starEach (e :: es) C.X.env = (false, eval e C.X.env) :: starEach es C.X.env := by rfl) (hpl : (backTo pos (starEach es C.X.env)).any (·.1) = false := by rfl) : DE C (.Call (.Name x p) (e :: es) [] pos) (eCall (nargs n m) ff) := by
  obtain ⟨f, fd, ps, F, hm, hk, hb⟩ := D'.ex
  refine ⟨fun {g ρ M σ H} Q R p => wpe (pe_callG F hr hg hm hk hb tk self_a hdb he hpl) (ha.then_ R p fun vs ds M1 H1 g1 l1 R1 r1 p1 => ?_)⟩
  obtain ⟨hl, p2⟩ := post_chk.mp p1
  exact sp_run R1 r1 (by rw [r1.length]; exact hl) p2 fun _ _ q => q.later l1
theorem de_call0 (D' : Dfn C.X.prog C.X.w C.X.K C.X.mg C.X.base CX k x 0 m) (hr : RoomG k C.X.A) (tk : TkD C CX) (hg : Gl C.X x := by rfl) (hdb : (x == ("__debug__" : Str)) = false := by decide) : DE C (.Call (.Name x p) [] [] pos) (eCall (nargs 0 m) aNil) := by
  obtain ⟨f, fd, ps, F, hm, hk, hb⟩ := D'.ex
  refine ⟨fun {g ρ M σ H} Q R p => wpe (pe_callG0 F hr hg hm hk hb tk hdb) ?_⟩
  have p1 := (post_bnd.mp p : Post (Py.chk (([] : List D).length = 0) (m []) M) (QV C g ρ σ Q) (C.We ρ))
  obtain ⟨hl, p2⟩ := post_chk.mp p1
  exact sp_run R .nil rfl p2 fun _ _ q => q
end
/-- no exception leaves -/
theorem tk0 {C : DX} : TkD C L2.CX0 := fun _ _ _ _ _ _ _ h => h.elim
/-- the context of a body -/
abbrev bodyC (CX : CXT) (P : Program) (w : World) (K : PySem.W.Frag) (mg : Str → Option Value) (base : Heap) (N : List Str) (qual : Str) (scope : Scope) (f : Addr) (cd : Value) (A : Around) (outer : List PySem.Env) (s : Shared) (H : Hp) (E : XK) (g : G) : DX :=
  ⟨cxOf CX P w K mg base N qual scope f cd A outer s H E, { g with w := w }, fun e _ M' => ∀ c dx H' g', ({ g with w := w } : G).le g' → RelH K g' M' H' → ExnRep K g' c dx e → E c dx H', rfl⟩
theorem body_even {CX : CXT} {P : Program} {w : World} {K : PySem.W.Frag} {mg : Str → Option Value} {base : Heap} {N : List Str} {qual : Str} {scope : Scope} {f : Addr} {cd : Value} {A : Around} {outer : List PySem.Env} {s : Shared} {H : Hp} {E : XK} {g : G} :
    (bodyC CX P w K mg base N qual scope f cd A outer s H E g).Even := fun _ _ _ _ z => z
section
variable {P : Program} {w : World} {K : PySem.W.Frag} {mg : Str → Option Value} {base : Heap} {CX : CXT} {x qual : Str} {params : Arguments} {body : List Stmt} {scope : Scope} {f : Addr} {fd : FuncData} {N ps : List Str} {k n : Nat} {b : DEnv → Py Fl}
/-- THE RULE for a def -/
theorem fn_d (F : FunD K x qual params body scope [] [] f fd) (S : FnScope N ps scope) (hn : ps.length = n)
    (hb : ∀ (cdv : Value) (A : Around) (outer : List PySem.Env) (s : Shared) (H : Hp) (E : XK) (g : G), RoomG k (A.deeper (envOfC qual scope s.heap.objs.size f cdv)) → DSs (bodyC CX P w K mg base N qual scope f cdv A outer s H E g) body b) :
    FnG P w K mg base CX (k + 1) f fd ps (spD K w n (runD N.length b)) := by
  refine okG F S (fun vs H Q E h => by rw [h.1, hn]) (fun cdv A outer s H vs Q E hr h => ?_)
  obtain ⟨hl, g, M, ds, gw, R, r, p⟩ := h
  subst gw
  unfold runD at p
  refine ⟨_, self_ss, (hb cdv A outer s H E g hr).run _ ⟨G.le_w rfl, R, RelE.start r⟩ ((post_bnd.mp p).imp fun fl M' q => ?_)⟩
  cases fl with
  | nx ρ => exact fun σ' H' g' l' R' => q .non H' g' l' R'.h .non
  | rt d => exact fun v H' g' l' _ R' r' => q v H' g' l' R' r'
  | bk ρ => exact q.elim
  | ct ρ => exact q.elim
end
end L3
set_option Elab.async false
set_option linter.all false
set_option maxRecDepth 100000
set_option autoImplicit false

namespace PySem
/-! ### enumerate over a tuple -/
set_option maxHeartbeats 1000000 in
theorem meets_enumerate_newB1 {v : Value} {o : Obj} {H : Heap → Prop} (B : Begins v o H) :
    Meets (Builtin.«enumerate.__new__» ⟨[.type "enumerate", v], []⟩) (fun _ R s => H s.heap ∧
      R (.ok (.ret (.ref (s.heap.push o).objs.size))) { s with heap := (s.heap.push o).push { cls := .type "enumerate", data := .fields #[.none, .bool false, .ref s.heap.objs.size, rawInt 0, .none, .none] } }) :=
  .of_wp fun prog w A R s h => by
    obtain ⟨hp, g, d, tk, os⟩ := s; obtain ⟨h1, h⟩ := h
    have hsub := sub_enumerate
    have q1 : ∀ {A' : Around} {E : Value → Shared → Prop} {Q : Value → Shared → Prop}, Q (.ref hp.objs.size) ⟨hp.push o, g, d, tk, os⟩ → wpAny (model prog w) A' (pyIter v) Q E ⟨hp, g, d, tk, os⟩ :=
      fun q => B.iter prog w _ _ ⟨hp, g, d, tk, os⟩ _ h1 q
    wp_walk using q1
    refine wpAny_stack_any fun st => wpAny_pure ?_
    split
    · rename_i c _ _ _ _ _
      cases (c == Value.type "enumerate")
      · wp_walk using q1
        exact ⟨_, rfl, h⟩
      · wp_walk using q1
        exact ⟨_, rfl, h⟩
    · wp_walk using q1
      exact ⟨_, rfl, h⟩
section
variable {prog : Program} {w : World} {A : Around} {E : Value → Shared → Prop} {s : Shared}
theorem call_enumerate_B1 {v : Value} {o : Obj} {H : Heap → Prop} {Q : Value → Shared → Prop} (B : Begins v o H) (h1 : H s.heap)
    (h : ∀ h', IsEnum h' (s.heap.objs.size + 1) s.heap.objs.size 0 .none → h'.get? s.heap.objs.size = some o → h'.objs.size = s.heap.objs.size + 2 →
      (∀ b o, s.heap.get? b = some o → h'.get? b = some o) → Q (.ref (s.heap.objs.size + 1)) { s with heap := h' }) :
    wpAny (model prog w) A (call (.type "enumerate") [v]) Q E s := by
  refine callType_new F.called_enumerate (by decide) (F.typeCall_enumerate_1 _) (F.newCall_enumerate_1 _) (fun obj => F.args_object_init_2 obj _) F.entry_enumerate_new
    (meets_enumerate_newB1 B) ⟨h1, ?_⟩
  have hz : (s.heap.push o).objs.size = s.heap.objs.size + 1 := Heap.size_push ..
  show _ ∧ _
  rw [hz]
  have he : IsEnum ((s.heap.push o).push
      { cls := .type "enumerate", data := .fields #[.none, .bool false, .ref s.heap.objs.size, rawInt 0, .none, .none] }) (s.heap.objs.size + 1) s.heap.objs.size 0 .none := by
    have := Heap.get?_push_size (s.heap.push o)
      (o := { cls := .type "enumerate", data := .fields #[.none, .bool false, .ref s.heap.objs.size, rawInt 0, .none, .none] }) rfl
    rw [hz] at this; exact this
  exact ⟨⟨_, he, rfl⟩, h _ he (Heap.get?_push_of_some _ (Heap.get?_push_size _ B.free)) (by rw [Heap.size_push, hz]) fun b o x => Heap.get?_push_of_some _ (Heap.get?_push_of_some _ x)⟩
theorem pyNext_enumT_end {e it l : Addr} {i : Nat} {items : Array Value} {old : Value} {Q : Option Value → Shared → Prop} (hh : A.handled = none)
    (he : IsEnum s.heap e it i old) (hit : s.heap.IsTupleIter it l i) (hl : s.heap.IsTuple l items) (hx : items[i]? = none)
    (hQ : ∀ h', Heap.ExtBut it s.heap h' → Q none { s with heap := h' }) : wpAny (model prog w) A (pyNext (.ref e)) Q E s := by
  have hT : s.TypeIs (.ref e) "enumerate" := ⟨_, he, rfl⟩
  unfold pyNext
  refine wpAny_bind (wpAny_attempt (wpAny_callSpecial?_slot (name := Str.ofString "__next__") hT F.slot_enumerate_next
    (wpAny_call_entry F.slot_enumerate_next hT F.entry_enumerate_next ?_ (F.args_enumerate_next_1 _))))
  show wpAny _ _ (field (.ref e) 2 >>= _) _ _ _
  refine wpAny_bind (wpAny_field he rfl (x := .ref it) rfl ?_)
  refine wpAny_bind (wpAny_nextOf_tuple_end hh hit hl hx fun h' x he' hx' => ?_)
  obtain ⟨o, ho, hc⟩ := hx'
  refine wpAny_bind (wpAny_isInstance (T := "StopIteration") (b := true) ⟨o, ho, hc⟩ isSubtype_stop ?_)
  exact wpAny_pure (hQ _ he')
end
end PySem
namespace L2
open PySem PySem.Spec PyProof.Rows
/-- the tuple at a, each item in a new pair -/
def IteT (K : PySem.W.Frag) (a : Addr) : It :=
  ⟨fun i H => ∃ (xs : List V) (x : V), SqT K H a xs ∧ xs[i]? = some x, fun i H v H' => ∃ T x, v = .ref T ∧ H T = none ∧ H' = upd H T (.tup [.int (i : Nat), x]) ∧ ∀ xs, SqT K H a xs → xs[i]? = some x, fun i H => ∃ xs : List V, SqT K H a xs ∧ xs.length ≤ i⟩
theorem tupIter_ne {h : Heap} {it a : Addr} {i : Nat} {its : Array Value} (x : h.IsTupleIter it a i) (t : IsTup h a its) : a ≠ it := by
  intro z
  subst z
  obtain ⟨o, h1, h2, _⟩ := x
  obtain ⟨o', h1', h2', _⟩ := t
  rw [h1] at h1'
  cases h1'
  rw [h2] at h2'
  exact absurd h2' (by decide)
theorem enum_ne {h : Heap} {e it a : Addr} {i : Int} {old : Value} {its : Array Value} (x : IsEnum h e it i old) (t : IsTup h a its) : a ≠ e := by
  intro z
  subst z
  obtain ⟨o', h1', h2', _⟩ := t
  have x' : h.get? a = some _ := x
  rw [x'] at h1'
  cases h1'
  have h3 : Value.type "enumerate" = Value.type "tuple" := h2'
  exact absurd h3 (by decide)
theorem turn_enumT {P : Program} {w : World} {K : PySem.W.Frag} {elts : List Expr} {kk : Nat} {tpos : Pos} (a e it : Addr) :
    Turn P w K (.Tuple elts kk tpos) (IteT K a) [e, it] e (fun i h => (∃ old, IsEnum h e it ((i : Nat) : Int) old) ∧ h.IsTupleIter it a i ∧ e ≠ it) where
  mem := by simp
  obj := fun i h st b hb => by
    obtain ⟨⟨old, he⟩, ⟨o, ho, hc, hd⟩, _⟩ := st
    have e' : b = e ∨ b = it := by simpa using hb
    rcases e' with z | z
    · rw [z]; exact ⟨_, he, fun v q => nomatch q⟩
    · rw [z]; exact ⟨o, ho, fun v q => by rw [hd] at q; cases q⟩
  keep := fun i h h' st k => let ⟨⟨old, he⟩, hi, hne⟩ := st; ⟨⟨old, k e (by simp) _ he⟩, hi.at fun o q => k it (by simp) o q, hne⟩
  item := by
    intro X hP hw hK hc i pins s σ H E I hf st hg
    subst hP hw hK
    obtain ⟨⟨old, he⟩, hit, hne⟩ := st
    obtain ⟨xs, x, hq, hx⟩ := hg
    obtain ⟨its, rv, p, hz⟩ := I.tuple hq
    obtain ⟨u, hu, ru⟩ := rv.get hx
    have hel : e < s.heap.objs.size := Heap.lt_size he
    have hil : it < s.heap.objs.size := by obtain ⟨_, q, _⟩ := hit; exact Heap.lt_size q
    have ha1 : a ≠ it := tupIter_ne hit p
    have ha2 : a ≠ e := enum_ne he p
    have hlt : i < its.toArray.size := by
      have := (List.getElem?_eq_some_iff.mp hu).1
      simpa using this
    refine wpAny_pyNext_enum_itemD (Draws.tuple (prog := X.prog) (w := X.w) (A := X.A.in1) (show X.A.in1.handled = none from I.ok.hd hc) it a ha1 its.toArray) he ⟨hit, p⟩ hlt hne (by simp; exact ⟨hne, Ne.symm ha2⟩) fun x' h' tk hPx ho hst' hT hsz hk => ?_
    have ex : x' = u := by
      have h1 : its.toArray[i]? = some x' := hPx
      have h2 : its.toArray[i]? = some u := by simpa using hu
      exact Option.some.inj (h1.symm.trans h2)
    subst ex
    obtain ⟨hit', _⟩ := hst'
    refine ⟨_, rfl, wpAny_letOwnedTupleGo_enum (s := { s with heap := h', toks := tk + 1 }) ho fun h'' he' sb => ?_⟩
    have hT2 : h''.get? s.heap.objs.size = some { cls := .type "tuple", data := .seq #[.int i tk, x'] } := (sb.2 _ (Nat.ne_of_gt hel)).trans hT
    have new : ObjOk X.prog X.w (upd H s.heap.objs.size (.tup [.int (i : Nat), x])) h'' s.heap.objs.size (.tup [.int (i : Nat), x]) :=
      ⟨by show 2 ≤ sizeLine; decide, [.int i tk, x'], .cons ⟨_, rfl⟩ (.cons ru .nil), ⟨_, hT2, rfl, _, rfl⟩⟩
    have I1 : Inv X pins σ (upd H s.heap.objs.size (.tup [.int (i : Nat), x])) { s with heap := h'', toks := tk + 1 } :=
      I.turnedNew (ch := [e, it]) (fun b ob hb q => (sb.2 b (fun z => hb (by simp [z]))).trans (hk b ob (fun z => hb (by simp [z])) (fun z => hb (by simp [z])) q)) hf (Nat.le_refl _) new
    refine ⟨.ref s.heap.objs.size, _, I1, rfl, ⟨_, x, rfl, I.hok.fresh (Nat.le_refl _), rfl, fun ys hy => by rw [I.tuple_inj hy hq]; exact hx⟩, ⟨⟨x', ?_⟩, hit'.at fun o q => (sb.2 it (Ne.symm hne)).trans q, hne⟩, fun b hb => ?_⟩
    · have e1 : ((i + 1 : Nat) : Int) = (i : Int) + 1 := by omega
      rw [e1]; exact he'
    · have hb' : b < s.heap.objs.size := by
        have e' : b = e ∨ b = it := by simpa using hb
        rcases e' with z | z
        · rw [z]; exact hel
        · rw [z]; exact hil
      rw [upd_ne (Nat.ne_of_lt hb')]
      exact (hf b hb).1
  done := by
    intro X hP hw hK hc i pins s σ H E I hf st hg
    subst hP hw hK
    obtain ⟨⟨old, he⟩, hit, hne⟩ := st
    obtain ⟨xs, hq, hx⟩ := hg
    obtain ⟨its, rv, p, hz⟩ := I.tuple hq
    obtain ⟨f0, f1, f2, f3, f4, f5⟩ := hf it (by simp)
    have hl := rv.length
    have ha1 : a ≠ it := tupIter_ne hit p
    exact pyNext_enumT_end (I.ok.hd hc) he hit p (by simp; omega) fun h' eb => ⟨rfl, I.turned (t' := s.toks) (fun b o hb q => eb b o hb q) f0 f1 f3 f4 f5⟩
  self := fun A i s Q E st h => let ⟨⟨_, he⟩, _⟩ := st; wpAny_pyIter_enum he h
def iEnumT (K : PySem.W.Frag) (ta : TA) : TI := fun σ H R => ta σ H fun vs H1 => ∃ a xs, vs = [.ref a] ∧ SqT K H1 a xs ∧ R (IteT K a) H1
theorem pi_enumT {X : Cx} {e : Expr} {ta : TA} {p pos tpos : Pos} {elts : List Expr} {kk : Nat} (hg : Gl X "enumerate") (hm : X.mg "enumerate" = none) (ha : PA X [e] ta) (hs : starEach [e] X.env = [(false, eval e X.env)] := by rfl) :
    PI X (.Tuple elts kk tpos) (.Call (.Name "enumerate" p) [e] [] pos) (iEnumT X.K ta) := by
  refine ⟨fun pins s σ H R I h => ?_⟩
  refine Call_ (ld_blt I hg hm boot_enumerate (PyProof.Rows.callWith_type1 (thn (ha.run pos pins s σ H _ I h) fun us s1 ⟨vs, H1, I1, r1, q1⟩ => ?_) hs rfl))
  obtain ⟨a, xs, ex, hq, q⟩ := q1
  subst ex
  cases r1 with
  | cons r rr =>
    cases rr
    cases r
    obtain ⟨its, rv, p', hz⟩ := I1.tuple hq
    refine call_enumerate_B1 (begins_tuple a its.toArray) p' fun h' he hit hsz hk => wpAny_pyIter_enum he ?_
    have I2 : Inv X pins σ H1 { s1 with heap := h' } := I1.kept (t' := s1.toks) hk
    refine ⟨s1.heap.objs.size + 1, [s1.heap.objs.size + 1, s1.heap.objs.size], _, _, H1, rfl, I2, turn_enumT a (s1.heap.objs.size + 1) s1.heap.objs.size, ⟨⟨.none, he⟩, ⟨_, hit, rfl, rfl⟩, Nat.succ_ne_self _⟩, fun b hb => ?_, q⟩
    have e' : b = s1.heap.objs.size + 1 ∨ b = s1.heap.objs.size := by simpa using hb
    have hle : s1.heap.objs.size ≤ b := by
      rcases e' with z | z
      · rw [z]; exact Nat.le_add_right _ _
      · rw [z]; exact Nat.le_refl _
    exact I1.fpOk hle (I1.hok.fresh hle)
end L2
set_option Elab.async false
set_option linter.all false
set_option maxRecDepth 100000
set_option autoImplicit false
namespace L3
open PySem PySem.Spec L2
open PyProof.Rows hiding St

theorem pi_or {X : Cx} {tg e : Expr} {w1 w2 : TI} (h1 : PI X tg e w1) (h2 : PI X tg e w2) : PI X tg e (fun σ H R => w1 σ H R ∨ w2 σ H R) :=
  ⟨fun pins s σ H R I h => h.elim (h1.run pins s σ H R I) (h2.run pins s σ H R I)⟩
section
variable {C : DX} {pos : Pos} {tg e : Expr} {f : DEnv → Py D}
/-- what it gives is known -/
theorem DE.det (h : DE C e f) {g : G} {ρ : DEnv} {M M1 : Store} {σ : St} {H : Hp} {d : D} {Q : VK} (R : Rl C g ρ M σ H) (hf : f ρ M = .ok d M1) (go : ∀ (v : V) (H' : Hp) (g' : G), g.le g' → Rl C g' ρ M1 σ H' → Rep C.X.K g' v d → Q v H') : WPE C.X e σ H Q :=
  h.run Q R (by rw [hf]; exact go)
theorem DE.exc (h : DE C e f) {g : G} {ρ : DEnv} {M M1 : Store} {σ : St} {H : Hp} {x : Exn} {Q : VK} (R : Rl C g ρ M σ H) (hf : f ρ M = .exc x M1) (hw : C.W x ρ M1) : WPE C.X e σ H Q :=
  h.run Q R (by rw [hf]; exact hw)
/-- a text's signs -/
def chars (z : Str) : List D := z.cps.toList.map fun c => .str ⟨#[c]⟩
theorem walkD_str {K : PySem.W.Frag} {g : G} {z : Str} {ok : Store → Prop} : WalkD K g ⟨chars z, ok⟩ (Its z) (fun _ => True) (fun i H v H' => H' = H ∧ ∃ c, z.cps[i]? = some c ∧ v = .str ⟨#[c]⟩) where
  wk := by
    show Walk _ (chars z).length _ _
    have : (chars z).length = z.cps.size := by unfold chars; rw [List.length_map, Array.length_toList]
    rw [this]
    exact walk_str
  ok := fun _ _ _ => trivial
  it := fun {g' M H H' i x} l R o y => by
    obtain ⟨rfl, c, e, rfl⟩ := y
    refine ⟨.str ⟨#[c]⟩, g', ?_, G.le.refl g', R, .str _⟩
    show (chars z)[i]? = _
    unfold chars
    rw [List.getElem?_map, Array.getElem?_toList, e]
    rfl
/-- a tuple, a list, a text -/
def wkA (d : D) : Py Wk := match d with
  | .tup xs => Py.ret ⟨xs, fun _ => True⟩
  | .str z => Py.ret ⟨chars z, fun _ => True⟩
  | d => wkL d
theorem di_seq (h : DE C e f) : DI C tg e (iSeq wkA f) := ⟨_, pi_or (pi_tup self_e) (pi_or (pi_list self_e) (pi_str self_e)), fun {g ρ M σ H} R Rr p => by
  have p' := (post_bnd.mp p : Post (f ρ M) _ _)
  cases hf : f ρ M with
  | bad => rw [hf] at p'; exact p'.elim
  | exc x M1 =>
    rw [hf] at p'
    exact .inl (h.exc Rr hf p')
  | ok d M1 =>
    rw [hf] at p'
    have p2 : Post (wkA d M1) (fun w M' => ∀ J H' g' Gd Y, g.le g' → Rl C g' ρ M' σ H' → WalkD C.X.K g' w J Gd Y → R J H') (C.We ρ) := p'
    cases d with
    | tup xs =>
      refine .inl (h.det Rr hf fun v H1 g1 l1 R1 r1 => ?_)
      cases r1 with
      | @tup a vs ds s t => exact ⟨a, rfl, ⟨vs, .of (R1.h.frz _ _ s)⟩, p2 _ H1 g1 _ _ l1 R1 (walkD_tup s t)⟩
    | str z =>
      refine .inr (.inr (h.det Rr hf fun v H1 g1 l1 R1 r1 => ?_))
      exact ⟨z, rep_str r1, p2 _ H1 g1 _ _ l1 R1 walkD_str⟩
    | _ =>
      refine .inr (.inl (h.det Rr hf fun v H1 g1 l1 R1 r1 => ?_))
      obtain ⟨a, vs, w, rfl, q1, q2, q3, q4⟩ := wkL_post R1.h r1 p2
      exact ⟨a, rfl, ⟨vs, q1⟩, q3 _ H1 g1 _ _ l1 R1 (walkD_list q4)⟩⟩
/-! enumerate -/
variable {a : Expr} {ff : DEnv → Py (List D)} {p : Pos}
theorem DA.det (h : DA C [a] ff) {g : G} {ρ : DEnv} {M M1 : Store} {σ : St} {H : Hp} {d : List D} {Q : List V → Hp → Prop} (R : Rl C g ρ M σ H) (hf : ff ρ M = .ok d M1) (go : ∀ (v : List V) (H' : Hp) (g' : G), g.le g' → Rl C g' ρ M1 σ H' → Reps C.X.K g' v d → Q v H') : WPA C.X [a] σ H Q :=
  h.run Q R (by rw [hf]; exact go)
def wkLT (d : D) : Py Wk := match d with
  | .tup xs => Py.ret ⟨xs, fun _ => True⟩
  | d => wkL d
theorem di_enumA {tpos : Pos} {elts : List Expr} {kk : Nat} (hm : C.X.mg "enumerate" = none) (ha : DA C [a] ff) (hg : Gl C.X "enumerate" := by rfl) (hs : starEach [a] C.X.env = [(false, eval a C.X.env)] := by rfl) : DI C (.Tuple elts kk tpos) (.Call (.Name "enumerate" p) [a] [] pos) (iEnumD wkLT ff) :=
  ⟨_, pi_or (pi_enum hg hm self_a hs) (pi_enumT hg hm self_a hs), fun {g ρ M σ H} R Rr p => by
    have p' := (post_bnd.mp p : Post (ff ρ M) _ _)
    cases hf : ff ρ M with
    | bad => rw [hf] at p'; exact p'.elim
    | exc x M1 =>
      rw [hf] at p'
      exact .inl (ha.run _ Rr (by rw [hf]; exact p'))
    | ok ds M1 =>
      rw [hf] at p'
      obtain ⟨d, rfl, p2⟩ := wkEnum_post (show Post (wkEnum wkLT ds M1) _ _ from p')
      by_cases hd : ∃ xs, d = .tup xs
      · obtain ⟨xs, rfl⟩ := hd
        refine .inr (ha.det Rr hf fun v H1 g1 l1 R1 r1 => ?_)
        obtain ⟨v, rfl, r⟩ := r1.one
        cases r with
        | @tup a' us ds s t =>
          refine ⟨a', us, rfl, .of (R1.h.frz _ _ s), p2 _ H1 g1 (fun H => SqT C.X.K H a' us) (fun i H v H' => ∃ T x, v = .ref T ∧ H T = none ∧ H' = upd H T (.tup [.int (i : Nat), x]) ∧ ∀ xs, SqT C.X.K H a' xs → xs[i]? = some x) l1 R1 (walkD_pairs ?_ ?_ ?_)⟩
          · show Walk _ (enumD 0 xs).length _ _
            rw [enumD_length, ← t.length]
            exact ⟨fun i H hi q => ⟨us, us[i], q, by simp⟩, fun H q => ⟨us, q, Nat.le_refl _⟩, fun i H x H' hi _ y => y⟩
          · intro g' M H l R o
            exact .of (R.frz _ _ (l.F _ _ s))
          · intro g' M H H' i x l R o y
            obtain ⟨T, x', rfl, hT, rfl, h⟩ := y
            obtain ⟨d', e1, e2⟩ := (t.gro l).getV (h us (.of (R.frz _ _ (l.F _ _ s))))
            have e3 := enumD_get xs 0 i d' e1
            rw [Nat.zero_add] at e3
            exact ⟨T, _, x', .int (i : Nat), d', rfl, hT, rfl, e3, .int _, e2⟩
      · have p3 : Post (wkL d M1) (fun w M' => ∀ J H' g' Gd Y, g.le g' → Rl C g' ρ M' σ H' → WalkD C.X.K g' ⟨enumD 0 w.ds, w.ok⟩ J Gd Y → R J H') (C.We ρ) := by
          cases d with
          | tup xs => exact absurd ⟨xs, rfl⟩ hd
          | _ => exact p2
        refine .inl (ha.det Rr hf fun v H1 g1 l1 R1 r1 => ?_)
        obtain ⟨v, rfl, r⟩ := r1.one
        obtain ⟨a', us, w, rfl, q1, q2, q3, q4⟩ := wkL_post R1.h r p3
        refine ⟨a', us, rfl, q1, q3 _ H1 g1 (fun H => ∃ vs, SqL C.X.K H a' vs ∧ vs.length = w.ds.length) (fun i H v H' => ∃ T x, v = .ref T ∧ H T = none ∧ H' = upd H T (.tup [.int (i : Nat), x]) ∧ ∀ xs, SqL C.X.K H a' xs → xs[i]? = some x) l1 R1 (walkD_pairs ?_ ?_ ?_)⟩
        · show Walk _ (enumD 0 w.ds).length _ _
          rw [enumD_length]
          exact ⟨fun i H hi ⟨vs, q, e⟩ => ⟨vs, vs[i]'(by omega), q, by simp⟩, fun H ⟨vs, q, e⟩ => ⟨vs, q, by omega⟩, fun i H x H' hi _ y => y⟩
        · intro g' M H l R o
          obtain ⟨vs, q, r⟩ := q4 l R o
          exact ⟨vs, q, r.length⟩
        · intro g' M H H' i x l R o y
          obtain ⟨T, x', rfl, hT, rfl, h⟩ := y
          obtain ⟨vs, q, r⟩ := q4 l R o
          obtain ⟨d', e1, e2⟩ := r.getV (h vs q)
          have e3 := enumD_get w.ds 0 i d' e1
          rw [Nat.zero_add] at e3
          exact ⟨T, _, x', .int (i : Nat), d', rfl, hT, rfl, e3, .int _, e2⟩⟩

/-! ### + of anything -/
def addA (x y : D) : Py D := match x with
  | .int _ => addI x y
  | .str _ => addS x y
  | .tup _ => addT x y
  | _ => addL x y
theorem do_addA : DOp C (binaryOp .Add) addA := by
  intro g ρ M σ H x y dx dy v u pins s Q R I rx ry r1 r2 p
  cases dx with
  | int i => exact do_addI Q R I rx ry r1 r2 p
  | str i => exact do_addS Q R I rx ry r1 r2 p
  | tup i => exact do_addT Q R I rx ry r1 r2 p
  | _ => exact do_addL Q R I rx ry r1 r2 p
/-- * of an int or a list -/
def mulA (x y : D) : Py D := match x with
  | .int _ => mulI x y
  | _ => mulL x y
theorem do_mulA : DOp C (binaryOp .Mult) mulA := by
  intro g ρ M σ H x y dx dy v u pins s Q R I rx ry r1 r2 p
  cases dx with
  | int i => exact do_mulI Q R I rx ry r1 r2 p
  | _ => exact do_mulL Q R I rx ry r1 r2 p

/-! ### isinstance with a tuple of types -/
def tysOf : List D → Option (List String)
  | [] => some []
  | .ty T :: r => (tysOf r).map fun ts => T :: ts
  | _ :: _ => none
theorem tys_rep {K : PySem.W.Frag} {g : G} : ∀ {vs : List V} {ds : List D} {ts : List String}, Reps K g vs ds → tysOf ds = some ts → vs = ts.map V.ty
  | _, _, _, .nil, e => by cases e; rfl
  | _, _, _, .cons (d := .ty b) r t, e => by
    obtain ⟨cs, e1, e2⟩ := Option.map_eq_some_iff.mp (show (tysOf _).map _ = some _ from e)
    subst e2
    rw [rep_ty r, tys_rep t e1]
    rfl
  | _, _, _, .cons (d := .non) r t, e => by cases e
  | _, _, _, .cons (d := .int _) r t, e => by cases e
  | _, _, _, .cons (d := .str _) r t, e => by cases e
  | _, _, _, .cons (d := .tup _) r t, e => by cases e
  | _, _, _, .cons (d := .lst _) r t, e => by cases e
  | _, _, _, .cons (d := .ro _) r t, e => by cases e
  | _, _, _, .cons (d := .dk _) r t, e => by cases e
  | _, _, _, .cons (d := .dkt _) r t, e => by cases e
  | _, _, _, .cons (d := .ins _ _) r t, e => by cases e
  | _, _, _, .cons (d := .loc _) r t, e => by cases e
  | _, _, _, .cons (d := .ref _) r t, e => by cases e
  | _, _, _, .cons (d := .bl _) r t, e => by cases e
theorem cls_all : ∀ ts : List String, Paired ClsV (ts.map V.ty) (ts.map Value.type)
  | [] => .nil
  | t :: ts => .cons (.ty t) (cls_all ts)
theorem kit_any {K : PySem.W.Frag} {t : String} (ht : t ∈ tyNames) : ∀ {ts : List String}, ts.all kitOk = true → PySem.W.kitAny K (.type t) (ts.map Value.type) = some (ts.any fun T => isT T t)
  | [], _ => rfl
  | T :: ts, h => by
    rw [List.all_cons, Bool.and_eq_true] at h
    have hk : kitB t T = some (isT T t) := beq_iff_eq.mp (List.all_eq_true.mp h.1 t ht)
    have ih := kit_any (K := K) ht h.2
    rw [List.map_cons, List.any_cons]
    cases e : isT T t with
    | true =>
      rw [e] at hk
      exact kitAny_cons (kit_ty hk) (fun z => nomatch z) fun _ => rfl
    | false =>
      rw [e] at hk
      rw [Bool.false_or]
      exact kitAny_cons (kit_ty hk) (fun _ => ih) fun z => nomatch z
def tyAny (ts : List String) (x : D) : Py D := fun M => match tyN M x with
  | some t => .ok (.bl (ts.any fun T => isT T t)) M
  | none => .bad
theorem tyAny_post {ts : List String} {x : D} {M : Store} {q : D → Store → Prop} {E : Exn → Store → Prop} (p : Post (tyAny ts x M) q E) : ∃ t, tyN M x = some t ∧ q (.bl (ts.any fun T => isT T t)) M := by
  unfold tyAny at p
  split at p
  · rename_i t h
    exact ⟨t, h, p⟩
  · exact p.elim
def isiTsK (Ts : List String) (x : D) : Option (List String) → Py D
  | some ts => Py.chk (ts.all Ts.contains = true) (tyAny ts x)
  | none => Py.bad
def isiTs (Ts : List String) (x y : D) : Py D := match y with
  | .tup ds => isiTsK Ts x (tysOf ds)
  | y => isiT Ts x y
theorem dc_isiA {Ts : List String} (hT : Ts.all kitOk = true := by decide +kernel) : DCl C (.builtin "isinstance") (twoD (isiTs Ts)) := by
  obtain ⟨r1, h1, k1⟩ := dc_isi (C := C) hT
  refine dcl_two (h1.or call_isiT) fun {g ρ M σ H v u d e} Q R r r' p => ?_
  have other : Post (isiT Ts d e M) (QV C g ρ σ Q) (C.We ρ) → r1 [v, u] H Q := fun p => k1 Q R (.cons r (.cons r' .nil)) p
  cases e with
  | tup ds =>
    right
    cases r' with
    | @tup tp vs ds s t =>
      have p' : Post (isiTsK Ts d (tysOf ds) M) (QV C g ρ σ Q) (C.We ρ) := p
      cases e1 : tysOf ds with
      | none => rw [e1] at p'; exact p'.elim
      | some ts =>
        rw [e1] at p'
        obtain ⟨hc, p2⟩ := post_chk.mp p'
        obtain ⟨t', e2, p3⟩ := tyAny_post p2
        obtain ⟨ty, hm⟩ := tyN_ok R.h r e2
        have hk : ts.all kitOk = true := List.all_eq_true.mpr fun T hT' => List.all_eq_true.mp hT T (by
          have := List.all_eq_true.mp hc T hT'
          simpa using this)
        have ev := tys_rep t e1
        subst ev
        exact ⟨v, tp, _, _, _, _, rfl, R.h.frz _ _ s, cls_all ts, ty, kit_any hm hk, QV.here p3 R (.bl _)⟩
  | _ => exact .inl (other p)
end
end L3
set_option Elab.async false
set_option linter.all false
set_option maxRecDepth 100000
set_option autoImplicit false
namespace L2
open PySem PySem.Spec PyProof.Rows HT
theorem rev_adjust (n : Nat) : Builtin.Slice.sliceAdjust none none (-1) (n : Int) = ((n : Int) - 1, -1) := by
  unfold Builtin.Slice.sliceAdjust
  simp
theorem rev_places (n : Nat) : Builtin.Slice.slicePlaces ((n : Int) - 1) (-1) (-1) = n := by
  unfold Builtin.Slice.slicePlaces
  simp
  omega
theorem fmap_some {α β : Type} {f : α → Option β} {g : α → β} : ∀ l : List α, (∀ m ∈ l, f m = some (g m)) → l.filterMap f = l.map g
  | [], _ => rfl
  | a :: l, h => by
    rw [List.filterMap_cons, h a (List.mem_cons_self ..), List.map_cons, fmap_some l fun m hm => h m (List.mem_cons_of_mem _ hm)]
theorem rev_pick (xs : Array Value) : ((List.range xs.size).filterMap fun (m : Nat) => xs[(((xs.size : Int) - 1) + (m : Int) * (-1)).toNat]?).toArray = xs.toList.reverse.toArray := by
  have h : ∀ m ∈ List.range xs.size, xs[(((xs.size : Int) - 1) + (m : Int) * (-1)).toNat]? = some ((xs.toList.reverse[m]?).getD .none) := fun m hm => by
    have hm' : m < xs.size := List.mem_range.mp hm
    have e1 : (((xs.size : Int) - 1) + (m : Int) * (-1)).toNat = xs.size - 1 - m := by omega
    rw [e1, List.getElem?_reverse (by simpa using hm'), Array.length_toList, Array.getElem?_toList]
    have : xs.size - 1 - m < xs.size := by omega
    rw [Array.getElem?_eq_getElem this]
    rfl
  rw [fmap_some _ h]
  congr 1
  refine List.ext_getElem? fun i => ?_
  rw [List.getElem?_map]
  by_cases hi : i < xs.size
  · rw [List.getElem?_range hi]
    have : i < xs.toList.reverse.length := by simpa using hi
    rw [List.getElem?_eq_getElem this]
    show some ((xs.toList.reverse[i]?).getD Value.none) = _
    rw [List.getElem?_eq_getElem this]
    rfl
  · rw [List.getElem?_eq_none (by simpa using hi), List.getElem?_eq_none (by simpa using hi)]
    rfl
section
variable {prog : Program} {w : World} {A : Around} {E : Value → Shared → Prop} {s : Shared}
theorem getItem_tuple_rev {t sl : Addr} {items : Array Value} {u : Tok} {Q : Value → Shared → Prop} (ht : IsTup s.heap t items) (hs : s.heap.IsSliceOf sl .none .none (.int (-1) u))
    (h : Q (.ref s.heap.objs.size) { s with heap := s.heap.push { cls := .type "tuple", data := .seq items.toList.reverse.toArray } }) (hsz : items.size ≤ sizeLine) : wpAny (model prog w) A (getItem (.ref t) (.ref sl)) Q E s := by
  obtain ⟨os, hos, hcs, hds⟩ := id hs
  have hTs : s.TypeIs (.ref sl) "slice" := ⟨os, hos, hcs⟩
  have htake : sizeOk (.seq items.toList.reverse.toArray) := by
    show items.toList.reverse.toArray.size ≤ sizeLine
    rw [List.size_toArray, List.length_reverse, Array.length_toList]
    exact hsz
  unfold getItem
  try with_reducible refine wpAny_holding ?_
  first | refine wpAny_bind (wpAny_pure ?_) | skip
  refine wpAny_bind (wpAny_sequenceKey ht.typeIs (by decide) ?_)
  refine wpAny_bind (wpAny_callSpecial?_slot (name := Str.ofString "__getitem__") ht.typeIs PyProof.Rows.slot_tuple_getitem
    (wpAny_call_entry PyProof.Rows.slot_tuple_getitem ht.typeIs entry_tuple_getitem ?_ (args_tuple_getitem _ _)))
  show wpAny _ _ (Builtin.Tuple.tupleItemsOf (.ref t) >>= _) _ _ s
  refine wpAny_bind (tupleItemsOf_ ht ?_)
  refine wpAny_bind (wpAny_typeOf hTs ?_)
  rw [if_pos (by decide)]
  have app : ∀ {Q : Int × Int × Nat → Shared → Prop}, Q ((items.size : Int) - 1, -1, items.size) s → wpAny (model prog w) A.in1 (Builtin.Slice.sliceApplied (.ref sl) (pure (items.size : Int))) Q E s := by
    intro Q q
    unfold Builtin.Slice.sliceApplied Builtin.Slice.sliceFields
    refine wpAny_bind (wpAny_bind (wpAny_field hos hds (x := .none) rfl (wpAny_bind (wpAny_field hos hds (x := .none) rfl (wpAny_bind (wpAny_field hos hds (x := .int (-1) u) rfl (wpAny_pure ?_)))))))
    refine wpAny_bind (slicePart_ (.int (-1) u) ?_)
    show wpAny _ _ (if ((-1 : Int) == 0) = true then _ else _) _ _ s
    rw [if_neg (by decide)]
    refine wpAny_bind (slicePart_ .none (wpAny_bind (slicePart_ .none (wpAny_bind (wpAny_pure ?_)))))
    show wpAny _ _ (match Builtin.Slice.sliceAdjust none none (-1) (items.size : Int) with | (lo, hi) => pure (lo, (-1 : Int), Builtin.Slice.slicePlaces lo hi (-1))) _ _ s
    rw [rev_adjust]
    show wpAny _ _ (pure ((items.size : Int) - 1, (-1 : Int), Builtin.Slice.slicePlaces ((items.size : Int) - 1) (-1) (-1))) _ _ s
    rw [rev_places]
    exact wpAny_pure q
  refine wpAny_bind (app ?_)
  have hno : ¬ ((((items.size : Int) - 1) == 0 && (-1 : Int) == 1 && items.size == items.size) = true) := by
    rw [show ((-1 : Int) == 1) = false from rfl, Bool.and_false, Bool.false_and]
    exact Bool.false_ne_true
  show wpAny _ _ (if (((items.size : Int) - 1) == 0 && (-1 : Int) == 1 && items.size == items.size) = true then _ else _) _ _ s
  rw [if_neg hno, rev_pick]
  first
    | exact wpAny_bind (m := Builtin.Tuple.tupleExact _) (wpAny_newObj_type (wpAny_pure ⟨_, rfl, wpAny_pure h⟩) htake)
    | exact wpAny_bind (m := Builtin.Tuple.tupleExact _) (wpAny_newObj_type (wpAny_bind (wpAny_pure (wpAny_pure ⟨_, rfl, wpAny_pure h⟩))) htake)
    | exact wpAny_bind (wpAny_bind (m := Builtin.Tuple.tupleExact _) (wpAny_newObj_type (wpAny_pure (wpAny_pure ⟨_, rfl, wpAny_pure h⟩)) htake))
    | exact wpAny_bind (wpAny_bind (m := Builtin.Tuple.tupleExact _) (wpAny_newObj_type (wpAny_pure ⟨_, rfl, wpAny_pure h⟩) htake))
end
end L2

namespace L2
open PySem PySem.Spec PyProof.Rows HT
def tRevT (K : PySem.W.Frag) (te : TE) : TE := fun σ H Q => te σ H fun x H1 => ∃ a xs, x = .ref a ∧ SqT K H1 a xs ∧ ∀ p, H1 p = none → Q (.ref p) (upd H1 p (.tup xs.reverse))
theorem pe_revT {X : Cx} {e : Expr} {te : TE} {k : Nat} {p1 p2 p3 pos : Pos} (he : PE X e te) : PE X (.Subscript e (.Slice none none (some (.UnaryOp .USub (.Constant (.int 1) k p1) p2)) p3) pos) (tRevT X.K te) := by
  refine ⟨fun pins s σ H Q I h => ?_⟩
  refine Subscript_ (thn (he.run pins s σ H _ I h) fun v s1 ⟨x, H1, I1, r1, q1⟩ => ?_)
  obtain ⟨a, xs, ex, hx, q⟩ := q1
  subst ex
  cases r1
  have hst : PO X (some (.UnaryOp .USub (.Constant (.int 1) k p1) p2)) (tPart (tUn (rU fun i => .int (-i)) (tC (.int 1)))) := po_some (pe_un un_neg pe_int)
  refine wpAny_Slice (thn (po_none.run pins s1 σ H1 (fun o H2 => o = none ∧ H2 = H1) I1 ⟨rfl, rfl⟩) fun vl s2 ⟨l, H2, I2, pl, el, e2⟩ => ?_)
  subst el e2
  refine thn (po_none.run pins s2 σ H2 (fun o H3 => o = none ∧ H3 = H2) I2 ⟨rfl, rfl⟩) fun vu s3 ⟨u, H3, I3, pu, eu, e3⟩ => ?_
  subst eu e3
  refine thn (hst.run pins s3 σ H3 (fun o H4 => o = some (-1) ∧ H4 = H3) I3 ⟨1, rfl, -1, rfl, rfl, rfl⟩) fun vs s4 ⟨o, H4, I4, ps, eo, e4⟩ => ?_
  subst eo e4
  have I5 : Inv X pins σ H4 { s4 with heap := s4.heap.push { cls := .type "slice", data := .fields #[vl, vu, vs] } } := I4.kept (t' := s4.toks) fun b ob q => Heap.get?_push_of_some _ q
  obtain ⟨its, r, ht, hz⟩ := I5.tuple hx
  have hlen := r.length
  cases pl
  cases pu
  cases ps with
  | int i t' =>
    show wpAny (model X.prog X.w) X.A (subscriptTail e (.Slice none none (some (.UnaryOp .USub (.Constant (.int 1) k p1) p2)) p3) (.ref a) (.ref s4.heap.objs.size)) (EP X pins σ Q) X.xe { s4 with heap := s4.heap.push { cls := .type "slice", data := .fields #[.none, .none, .int (-1) t'] } }
    refine tail_any (ops := [.ref a, .ref s4.heap.objs.size]) ht.typeIs (PyProof.Rows.slot_tuple_getitem.lookup) ?_ (by with_unfolding_all rfl)
    refine getItem_tuple_rev ht (Heap.IsSliceOf.new _ .none .none (.int (-1) t')) ?_ (by rw [List.size_toArray]; omega)
    refine ⟨.ref _, _, I5.laid (t' := s4.toks) (o := .tup xs.reverse) (fun b ob q => Heap.get?_push_of_some _ q) (Nat.le_refl _) ?_, rfl, q _ (I5.hok.fresh (Nat.le_refl _))⟩
    exact ⟨by rw [List.length_reverse]; exact hz, _, r.reverse, IsTup.new _ _⟩
end L2
namespace L3
open PySem PySem.Spec L2
open PyProof.Rows hiding St
theorem pe_orE {X : Cx} {e : Expr} {t u : TE} (h1 : PE X e t) (h2 : PE X e u) : PE X e (fun σ H Q => t σ H Q ∨ u σ H Q) := ⟨fun pins s σ H Q I h => h.elim (h1.run pins s σ H Q I) (h2.run pins s σ H Q I)⟩
section
variable {C : DX} {pos : Pos} {e : Expr} {f : DEnv → Py D}
/-- x[::-1] of a tuple or a list -/
def revD (d : D) : Py D := match d with
  | .tup xs => Py.ret (.tup xs.reverse)
  | d => Py.bnd (litems d) fun ds => Py.ret (.lst ds.reverse)
def eRev (f : DEnv → Py D) : DEnv → Py D := fun ρ => Py.bnd (f ρ) revD
theorem de_rev {k : Nat} {p1 p2 p3 : Pos} (h : DE C e f) : DE C (.Subscript e (.Slice none none (some (.UnaryOp .USub (.Constant (.int 1) k p1) p2)) p3) pos) (eRev f) := ⟨fun {g ρ M σ H} Q R p => by
  refine wpe (pe_orE (pe_revT self_e) (pe_revL self_e)) ?_
  have p' := (post_bnd.mp p : Post (f ρ M) _ _)
  cases hf : f ρ M with
  | bad => rw [hf] at p'; exact p'.elim
  | exc x M1 => rw [hf] at p'; exact .inl (h.exc R hf p')
  | ok d M1 =>
    rw [hf] at p'
    have p2 : Post (revD d M1) (QV C g ρ σ Q) (C.We ρ) := p'
    have lst : ∀ {d : D}, f ρ M = .ok d M1 → Post (Py.bnd (litems d) (fun ds => Py.ret (.lst ds.reverse)) M1) (QV C g ρ σ Q) (C.We ρ) → tRevL C.X.K (WPE C.X e) σ H Q := fun {d} hf p2 => h.det R hf fun v H1 g1 l1 R1 r1 => by
      obtain ⟨a, vs, ds, rfl, hs, t, q⟩ := litems_post R1.h r1 (post_bnd.mp p2)
      exact ⟨a, vs, rfl, hs, fun p hp => QV.lay (QV.later (g' := g1) q l1) R1 hp (rep_lst_new t.reverse (R1.h.fnone hp))⟩
    cases d with
    | tup xs =>
      refine .inl (h.det R hf fun v H1 g1 l1 R1 r1 => ?_)
      cases r1 with
      | @tup a vs ds s t => exact ⟨a, vs, rfl, .of (R1.h.frz _ _ s), fun p hp => QV.lay (QV.later (g' := g1) p2 l1) R1 hp (rep_tup_new t.reverse (R1.h.fnone hp))⟩
    | _ => exact .inr (lst hf p2)⟩
end

/-! ### dicts with keys that are ints or texts -/
def keyD : D → Option Key
  | .int i => some (.inl i)
  | .str x => some (.inr x)
  | _ => none
theorem key_rep {K : PySem.W.Frag} {g : G} {v : V} {d : D} {k : Key} (r : Rep K g v d) (e : keyD d = some k) : v = kV k := by
  cases r with
  | int i => cases e; rfl
  | str i => cases e; rfl
  | _ => cases e
inductive KR (K : PySem.W.Frag) (g : G) : List (Key × V) → List (Key × D) → Prop
  | nil : KR K g [] []
  | cons {k : Key} {v : V} {d : D} {vs : List (Key × V)} {fs : List (Key × D)} : Rep K g v d → KR K g vs fs → KR K g ((k, v) :: vs) ((k, d) :: fs)
theorem KR.of {K : PySem.W.Frag} {g : G} : ∀ {vs : List (Key × V)} {fs : List (Key × D)}, Reps K g (vs.map (·.2)) (fs.map (·.2)) → vs.map (·.1) = fs.map (·.1) → KR K g vs fs
  | [], [], _, _ => .nil
  | [], _ :: _, _, e => nomatch e
  | _ :: _, [], _, e => nomatch e
  | (k, v) :: vs, (k', d) :: fs, r, e => by
    injection e with e1 e2
    have e1' : k = k' := e1
    subst e1'
    cases r with
    | cons a b => exact .cons a (KR.of b e2)
theorem KR.reps {K : PySem.W.Frag} {g : G} : ∀ {vs : List (Key × V)} {fs : List (Key × D)}, KR K g vs fs → Reps K g (vs.map (·.2)) (fs.map (·.2)) ∧ vs.map (·.1) = fs.map (·.1)
  | _, _, .nil => ⟨.nil, rfl⟩
  | _, _, .cons r t => let ⟨a, b⟩ := t.reps; ⟨.cons r a, by rw [List.map_cons, List.map_cons, b]⟩
def valD (fs : List (Key × D)) (k : Key) : Option D := (fs.find? fun kv => decide (kv.1 = k)).map (·.2)
def putD (fs : List (Key × D)) (k : Key) (v : D) : List (Key × D) :=
  if (fs.any fun kv => decide (kv.1 = k)) = true then fs.map (fun kv => if kv.1 = k then (kv.1, v) else kv) else fs ++ [(k, v)]
def mergeD (fs more : List (Key × D)) : List (Key × D) := more.foldl (fun acc kv => putD acc kv.1 kv.2) fs
section
variable {K : PySem.W.Frag} {g g' : G}
theorem KR.any {k : Key} : ∀ {vs : List (Key × V)} {fs : List (Key × D)}, KR K g vs fs → (vs.any fun kv => decide (kv.1 = k)) = fs.any fun kv => decide (kv.1 = k)
  | _, _, .nil => rfl
  | _, _, .cons r t => by rw [List.any_cons, List.any_cons, KR.any t]
theorem KR.append {vs : List (Key × V)} {fs : List (Key × D)} {ws : List (Key × V)} {gs : List (Key × D)} (h : KR K g vs fs) (q : KR K g ws gs) : KR K g (vs ++ ws) (fs ++ gs) := by
  induction h with
  | nil => exact q
  | cons r t ih => exact .cons r ih
theorem KR.map {k : Key} {v : V} {d : D} (r : Rep K g v d) : ∀ {vs : List (Key × V)} {fs : List (Key × D)}, KR K g vs fs → KR K g (vs.map fun kv => if kv.1 = k then (kv.1, v) else kv) (fs.map fun kv => if kv.1 = k then (kv.1, d) else kv)
  | _, _, .nil => .nil
  | _, _, .cons (k := j) (v := x) (d := y) q t => by
    rw [List.map_cons, List.map_cons]
    by_cases h : j = k
    · rw [if_pos h, if_pos h]
      exact .cons r (KR.map r t)
    · rw [if_neg h, if_neg h]
      exact .cons q (KR.map r t)
theorem KR.put {k : Key} {v : V} {d : D} {vs : List (Key × V)} {fs : List (Key × D)} (h : KR K g vs fs) (r : Rep K g v d) : KR K g (putK vs k v) (putD fs k d) := by
  unfold putK putD
  rw [h.any]
  by_cases c : (fs.any fun kv => decide (kv.1 = k)) = true
  · rw [if_pos c, if_pos c]
    exact h.map r
  · rw [if_neg c, if_neg c]
    exact h.append (.cons r .nil)
theorem KR.merge {ws : List (Key × V)} {gs : List (Key × D)} {vs : List (Key × V)} {fs : List (Key × D)} (q : KR K g ws gs) (h : KR K g vs fs) : KR K g (mergeK vs ws) (mergeD fs gs) := by
  induction q generalizing vs fs with
  | nil => exact h
  | cons r t ih => exact ih (h.put r)
theorem KR.val {k : Key} : ∀ {vs : List (Key × V)} {fs : List (Key × D)}, KR K g vs fs → (valD fs k = none ∧ valV vs k = none) ∨ ∃ v d, valD fs k = some d ∧ valV vs k = some v ∧ Rep K g v d
  | _, _, .nil => .inl ⟨rfl, rfl⟩
  | _, _, .cons (k := j) (v := x) (d := y) q t => by
    by_cases h : j = k
    · exact .inr ⟨x, y, by simp [valD, List.find?_cons, h], by simp [valV, List.find?_cons, h], q⟩
    · rcases KR.val (k := k) t with ⟨a, b⟩ | ⟨v, d, a, b, c⟩
      · exact .inl ⟨by simp [valD, List.find?_cons, h] at a ⊢; exact a, by simp [valV, List.find?_cons, h] at b ⊢; exact b⟩
      · exact .inr ⟨v, d, by simp [valD, List.find?_cons, h] at a ⊢; exact a, by simp [valV, List.find?_cons, h] at b ⊢; exact b, c⟩
theorem KR.gro (S : g.sub g') : ∀ {vs : List (Key × V)} {fs : List (Key × D)}, KR K g vs fs → KR K g' vs fs
  | _, _, .nil => .nil
  | _, _, .cons r t => .cons (r.gro S) (KR.gro S t)
end
end L3
set_option Elab.async false
set_option linter.all false
set_option maxRecDepth 100000
set_option autoImplicit false
namespace L3
open PySem PySem.Spec L2
open PyProof.Rows hiding St
/-- the pairs of a display -/
structure DP (C : DX) (keys : List (Option Expr)) (values : List Expr) (trs : Cx → List (TE × TE)) (f : DEnv → Py (List (D × D))) : Prop where
  pp : ∀ pos, PPs C.X pos keys values (trs C.X)
  run : ∀ {g : G} {ρ : DEnv} {M : Store} {σ : St} {H : Hp} {α : Type} {k : List (D × D) → Py α} {q : α → Store → Prop} {Q : List (V × V) → Hp → Prop}, Rl C g ρ M σ H → Post (Py.bnd (f ρ) k M) q (C.We ρ) →
    (∀ (ps : List (V × V)) (ds : List (D × D)) (M' : Store) (H' : Hp) (g' : G), g.le g' → Rl C g' ρ M' σ H' → Reps C.X.K g' (ps.map (·.1)) (ds.map (·.1)) → Reps C.X.K g' (ps.map (·.2)) (ds.map (·.2)) → Post (k ds M') q (C.We ρ) → Q ps H') → tPairs (trs C.X) σ H Q
def pNil : DEnv → Py (List (D × D)) := fun _ => Py.ret []
def pCons (fk fv : DEnv → Py D) (r : DEnv → Py (List (D × D))) : DEnv → Py (List (D × D)) := fun ρ => Py.bnd (fk ρ) fun k => Py.bnd (fv ρ) fun v => Py.bnd (r ρ) fun ps => Py.ret ((k, v) :: ps)
section
variable {C : DX} {pos : Pos} {e a b : Expr} {f fa fb : DEnv → Py D}
theorem dp_nil : DP C [] [] (fun _ => []) pNil := ⟨fun _ => pps_nil, fun {g ρ M σ H α k q Q} R p go => go [] [] M H g (G.le.refl g) R .nil .nil p⟩
theorem dp_cons {k v : Expr} {ks : List (Option Expr)} {vs : List Expr} {trs : Cx → List (TE × TE)} {fk fv : DEnv → Py D} {r : DEnv → Py (List (D × D))} (hk : DE C k fk) (hv : DE C v fv) (hr : DP C ks vs trs r) :
    DP C (some k :: ks) (v :: vs) (fun X => (WPE X k, WPE X v) :: trs X) (pCons fk fv r) := ⟨fun pos => pps_cons self_e self_e (hr.pp pos), fun {g ρ M σ H α kk q Q} R p go => by
  have p0 : Post (Py.bnd (fk ρ) (fun k => Py.bnd (fv ρ) fun v => Py.bnd (r ρ) fun ps => kk ((k, v) :: ps)) M) q (C.We ρ) := by
    refine post_bnd.mpr ((post_bnd.mp (post_bnd.mp p)).imp fun x M1 p1 => ?_)
    refine post_bnd.mpr ((post_bnd.mp p1).imp fun y M2 p2 => ?_)
    exact post_bnd.mpr ((post_bnd.mp p2).imp fun ps M3 p3 => p3)
  refine hk.then_ R p0 fun x dx M1 H1 g1 l1 R1 r1 p1 => hv.then_ R1 p1 fun y dy M2 H2 g2 l2 R2 r2 p2 => ?_
  exact hr.run R2 p2 fun ps ds M3 H3 g3 l3 R3 ra rb p3 => go ((x, y) :: ps) ((dx, dy) :: ds) M3 H3 g3 ((l1.trans l2).trans l3) R3 (.cons (r1.mono (l2.trans l3)) ra) (.cons (r2.mono l3) rb) p3⟩
def keysD : List (D × D) → Option (List (Key × D))
  | [] => some []
  | (k, v) :: r => (keyD k).bind fun k' => (keysD r).map fun r' => (k', v) :: r'
theorem keys_rep {K : PySem.W.Frag} {g : G} : ∀ {ps : List (V × V)} {ds : List (D × D)} {fs : List (Key × D)}, Reps K g (ps.map (·.1)) (ds.map (·.1)) → Reps K g (ps.map (·.2)) (ds.map (·.2)) → keysD ds = some fs →
    ∃ kvs : List (Key × V), ps = kvs.map (fun kv => (kV kv.1, kv.2)) ∧ KR K g kvs fs ∧ kvs.length = ds.length
  | [], [], _, _, _, e => by cases e; exact ⟨[], rfl, .nil, rfl⟩
  | [], _ :: _, _, h, _, _ => nomatch h
  | _ :: _, [], _, h, _, _ => nomatch h
  | (x, y) :: ps, (k, v) :: ds, fs, h1, h2, e => by
    obtain ⟨k', e1, e2⟩ := Option.bind_eq_some_iff.mp (show (keyD k).bind _ = some _ from e)
    obtain ⟨fs', e3, e4⟩ := Option.map_eq_some_iff.mp e2
    subst e4
    cases h1 with
    | cons r1 t1 =>
      cases h2 with
      | cons r2 t2 =>
        obtain ⟨kvs, q1, q2, q3⟩ := keys_rep t1 t2 e3
        refine ⟨(k', y) :: kvs, ?_, .cons r2 q2, by rw [List.length_cons, List.length_cons, q3]⟩
        have : x = kV k' := key_rep r1 e1
        rw [List.map_cons, this, q1]
/-- {k: v, ..}: a dict that is never changed -/
def dkOf (ds : List (D × D)) : Option (List (Key × D)) → Py D
  | some fs => Py.chk (ds.length ≤ 15) (Py.ret (.dk (mergeD [] fs)))
  | none => Py.bad
def eDisp (fp : DEnv → Py (List (D × D))) : DEnv → Py D := fun ρ => Py.bnd (noX (fp ρ)) fun ds => dkOf ds (keysD ds)
abbrev DX.at_ (C : DX) (B : G) : DX := ⟨C.X, { B with w := C.X.w }, fun _ _ _ => False, rfl⟩
theorem dkOf_post {ds : List (D × D)} {o : Option (List (Key × D))} {M : Store} {q : D → Store → Prop} {E : Exn → Store → Prop} (p : Post (dkOf ds o M) q E) : ∃ fs, o = some fs ∧ ds.length ≤ 15 ∧ q (.dk (mergeD [] fs)) M := by
  cases o with
  | none => exact p.elim
  | some fs =>
    obtain ⟨h, q⟩ := post_chk.mp p
    exact ⟨fs, rfl, h, q⟩
theorem de_disp {keys : List (Option Expr)} {values : List Expr} {trs : Cx → List (TE × TE)} {fp : DEnv → Py (List (D × D))} (h : ∀ B, DP (C.at_ B) keys values trs fp) (hall : keys.all (·.isSome) = true := by rfl) (hl : keys.length = values.length := by rfl) (h0 : keys ≠ [] := by exact fun z => by cases z) (h15 : keys.length ≤ 15 := by decide) :
    DE C (.Dict keys values pos) (eDisp fp) := ⟨fun {g ρ M σ H} Q R p => by
  refine wpe (pe_disp ((h g).pp pos) hall hl h0 h15) fun D' hD => ?_
  -- the dict stands empty while its pairs are made
  have gP : g.P D' = none := R.h.pnone hD
  have gF : g.F D' = none := R.h.fnone hD
  have S0 : g.sub (g.bld D' (.dK [])) := ⟨⟨[], by simp [G.bld]⟩, fun _ _ q => q, rfl⟩
  have R0 : Rl (C.at_ (g.bld D' (.dK []))) (g.bld D' (.dK [])) ρ M σ (upd H D' (.dK [])) := ⟨G.le_w R.w, R.h.build hD, R.e.gro S0⟩
  have p1 : Post (Py.bnd (fp ρ) Py.ret M) (fun ds M1 => Post (dkOf ds (keysD ds) M1) (QV C g ρ σ Q) (C.We ρ)) (fun _ _ => False) := by
    have p0 : Post (Py.bnd (noX (fp ρ)) (fun ds => dkOf ds (keysD ds)) M) (QV C g ρ σ Q) (C.We ρ) := p
    exact post_bnd.mpr ((noX_post (post_bnd.mp p0)).imp fun ds M1 z => z)
  refine (h (g.bld D' (.dK []))).run R0 p1 fun ps ds M1 H1 g1 l1 R1 ra rb p2 => ?_
  obtain ⟨fs, e1, hz, q⟩ := dkOf_post (show Post (dkOf ds (keysD ds) M1) _ _ from p2)
  obtain ⟨kvs, e2, kr, hk⟩ := keys_rep ra rb e1
  have hP : g1.P D' = some (.dK []) := by rw [l1.P]; exact upd_same
  have hPn : ∀ a, a ≠ D' → g.P a = g1.P a := fun a ha => by
    rw [l1.P]
    show g.P a = upd g.P D' _ a
    rw [upd_ne ha]
  refine ⟨(R1.h.prt _ _ hP).1, kvs, e2, by rw [hk]; exact hz, ?_⟩
  -- it is filled
  have R2 := R1.h.rebuild (o := .dK (mergeK [] kvs)) hP
  have fD : g1.F D' = none := (R1.h.prt _ _ hP).2
  have R3 := R2.built (p := D') (o := .dK (mergeK [] kvs)) (P0 := g.P) upd_same gP (fun a ha => by
    show g.P a = upd g1.P D' _ a
    rw [upd_ne ha]
    exact hPn a ha)
  have S1 : g.sub g1 := S0.trans l1.sub
  have S2 : g1.sub ((g1.bld D' (.dK (mergeK [] kvs))).unb g.P D' (.dK (mergeK [] kvs))) := ⟨⟨[], by simp [G.unb, G.bld]⟩, fun a o z => by
    show upd g1.F D' _ a = some o
    rw [upd_ne (ne_of_none z fD)]
    exact z, rfl⟩
  have L : g.le ((g1.bld D' (.dK (mergeK [] kvs))).unb g.P D' (.dK (mergeK [] kvs))) := ⟨(S1.trans S2).io, (S1.trans S2).F, rfl, S1.w⟩
  have kr2 := (kr.merge (vs := []) (fs := []) .nil).gro S2
  exact q (.ref D') _ _ L (R.next L R3) (.dk upd_same kr2.reps.1 kr2.reps.2)⟩
/-- {} -/
theorem de_dict0 : DE C (.Dict [] [] pos) (eC (.dk [])) := ⟨fun {g ρ M σ H} Q R p =>
  wpe pe_dnewK fun D' hD => QV.lay (d := .dk []) p R hD (.dk upd_same .nil rfl)⟩
/-- {} that will change -/
theorem de_dict0N : DE C (.Dict [] [] pos) (fun _ => alloc (.dk [])) := ⟨fun {g ρ M σ H} Q R p =>
  wpe pe_dnewK fun D' hD => QV.make p R hD ⟨[], upd_same, .nil, rfl⟩⟩
/-- d[k] of such a dict, or an item of a sequence -/
def dkIx (fs : List (Key × D)) : Option Key → Py D
  | some k => match valD fs k with
    | some d => Py.ret d
    | none => Py.bad
  | none => Py.bad
theorem dkIx_post {fs : List (Key × D)} {o : Option Key} {M : Store} {q : D → Store → Prop} {E : Exn → Store → Prop} (p : Post (dkIx fs o M) q E) : ∃ k d, o = some k ∧ valD fs k = some d ∧ q d M := by
  cases o with
  | none => exact p.elim
  | some k =>
    have p' : Post ((match valD fs k with | some d => Py.ret d | none => Py.bad : Py D) M) q E := p
    cases h : valD fs k with
    | none => rw [h] at p'; exact p'.elim
    | some d => rw [h] at p'; exact ⟨k, d, rfl, h, p'⟩
def dixD (x y : D) : Py D := match x with
  | .dk fs => dkIx fs (keyD y)
  | _ => Py.bad
theorem de_dix (hu : C.X.A.units + 1 < cLine) (ha : DE C a fa) (hb : DE C b fb) (hs : NoSl b := by exact fun _ _ => rfl) : DE C (.Subscript a b pos) (eOp dixD fa fb) := ⟨fun {g ρ M σ H} Q R p => by
  refine wpe (pe_dget hu self_e self_e hs) (ha.then_ R p fun v d M1 H1 g1 l1 R1 r1 p1 => hb.then_ R1 p1 fun u e M2 H2 g2 l2 R2 r2 p2 => ?_)
  cases d with
  | dk fs =>
    have r3 := r1.mono l2
    cases r3 with
    | @dk a' vs fs s t z =>
      obtain ⟨k, d, e1, e2, q⟩ := dkIx_post p2
      have kr := KR.of t z
      rcases kr.val (k := k) with ⟨c1, c2⟩ | ⟨v', d', c1, c2, c3⟩
      · rw [e2] at c1; cases c1
      · rw [e2] at c1; cases c1
        refine ⟨a', v', rfl, ?_, QV.here (QV.later (g' := g2) q (l1.trans l2)) R2 c3⟩
        rw [key_rep r2 e1, ← c2]
        exact DGet.k (R2.h.frz _ _ s)
  | _ => exact p2.elim⟩
end
end L3
set_option Elab.async false
set_option linter.all false
set_option maxRecDepth 100000
set_option autoImplicit false
namespace L3
open PySem PySem.Spec L2
open PyProof.Rows hiding St
def allTs : List String := ["int", "bool", "str", "tuple", "list", "dict"]
theorem allTs_ok : allTs.all kitOk = true := by decide +kernel
def augAdd := addI
def augSub := subI
def augMul := mulI
section
variable {C : DX} {pos : Pos} {e : Expr} {f : DEnv → Py D}
theorem ds_augAdd {i : Nat} {x : Str} {pos' : Pos} (hN : C.X.N.Nodup) (he : DE C e f) (hi : C.X.N[i]? = some x := by rfl) (hx : Loc C.X.env.scope x := by first | exact Or.inl rfl | exact Or.inr rfl)
    (hf : C.X.fn x = true ∨ C.X.env.scope.names.lookup x = some .local := by first | exact .inl rfl | exact .inr rfl) : DS C (.AugAssign (.Name x pos') .Add e pos) (sAug i augAdd f) :=
  ds_aug hN he iop_add (fun {g ρ M σ H x y dx dy} Q R rx ry p => by
    obtain ⟨i, j, rfl, rfl, q⟩ := intOp_post p
    exact ⟨i, j, rep_int rx, rep_int ry, QV.here q R (.int _)⟩) hi hx hf
theorem ds_augSub {i : Nat} {x : Str} {pos' : Pos} (hN : C.X.N.Nodup) (he : DE C e f) (hi : C.X.N[i]? = some x := by rfl) (hx : Loc C.X.env.scope x := by first | exact Or.inl rfl | exact Or.inr rfl)
    (hf : C.X.fn x = true ∨ C.X.env.scope.names.lookup x = some .local := by first | exact .inl rfl | exact .inr rfl) : DS C (.AugAssign (.Name x pos') .Sub e pos) (sAug i augSub f) :=
  ds_aug hN he iop_sub (fun {g ρ M σ H x y dx dy} Q R rx ry p => by
    obtain ⟨i, j, rfl, rfl, q⟩ := intOp_post p
    exact ⟨i, j, rep_int rx, rep_int ry, QV.here q R (.int _)⟩) hi hx hf
theorem ds_augMul {i : Nat} {x : Str} {pos' : Pos} (hN : C.X.N.Nodup) (he : DE C e f) (hi : C.X.N[i]? = some x := by rfl) (hx : Loc C.X.env.scope x := by first | exact Or.inl rfl | exact Or.inr rfl)
    (hf : C.X.fn x = true ∨ C.X.env.scope.names.lookup x = some .local := by first | exact .inl rfl | exact .inr rfl) : DS C (.AugAssign (.Name x pos') .Mult e pos) (sAug i augMul f) :=
  ds_aug hN he iop_mul (fun {g ρ M σ H x y dx dy} Q R rx ry p => by
    obtain ⟨i, j, rfl, rfl, q⟩ := intOp_post p
    exact ⟨i, j, rep_int rx, rep_int ry, (post_chk.mp q).1, QV.here (post_chk.mp q).2 R (.int _)⟩) hi hx hf
/-- a, b, c = x, y, z -/
def parK3 (i j l : Nat) (ρ : DEnv) : List D → Py Fl
  | [d, e, h] => Py.ret (.nx (((ρ.set i (some d)).set j (some e)).set l (some h)))
  | _ => Py.bad
def sPar3 (i j l : Nat) (ff : DEnv → Py (List D)) : DEnv → Py Fl := fun ρ => Py.bnd (ff ρ) (parK3 i j l ρ)
theorem parK3_post {i j l : Nat} {ρ : DEnv} {ds : List D} {M : Store} {q : Fl → Store → Prop} {E : Exn → Store → Prop} (p : Post (parK3 i j l ρ ds M) q E) : ∃ d e h, ds = [d, e, h] ∧ q (.nx (((ρ.set i (some d)).set j (some e)).set l (some h))) M := by
  unfold parK3 at p
  split at p
  · exact ⟨_, _, _, rfl, p⟩
  · exact p.elim
theorem ds_par3 {i j l : Nat} {x y z : Str} {a b c : Expr} {ff : DEnv → Py (List D)} {px py pz pt : Pos} {kt k2 : Nat} {pt2 : Pos} (hc : C.X.calm = true) (hN : C.X.N.Nodup) (ha : DA C [a, b, c] ff) (hi : C.X.N[i]? = some x := by rfl) (hj : C.X.N[j]? = some y := by rfl) (hl : C.X.N[l]? = some z := by rfl) (hij : i ≠ j := by decide) (hil : i ≠ l := by decide) (hjl : j ≠ l := by decide)
    (hx : C.X.env.scope.names.lookup x = some .local := by rfl) (hy : C.X.env.scope.names.lookup y = some .local := by rfl) (hz : C.X.env.scope.names.lookup z = some .local := by rfl)
    (hw : swappedStores [.Tuple [.Name x px, .Name y py, .Name z pz] kt pt] (.Tuple [a, b, c] k2 pt2) C.X.env = pure (some [x, y, z]) := by rfl)
    (hs : swapsWithSole [.Tuple [.Name x px, .Name y py, .Name z pz] kt pt] (.Tuple [a, b, c] k2 pt2) pos.line C.X.env = pure false := by rfl) :
    DS C (.Assign [.Tuple [.Name x px, .Name y py, .Name z pz] kt pt] (.Tuple [a, b, c] k2 pt2) pos) (sPar3 i j l ff) := ⟨fun {g ρ M σ H} E R p =>
  wps (ps_par3 hc hN hi hj hl hij hil hjl hx hy hz self_a hw hs) (ha.then_ R p fun vs ds M1 H1 g1 l1 R1 r1 p1 => by
    obtain ⟨d, e, h, rfl, p2⟩ := parK3_post p1
    cases r1 with
    | cons ra t =>
      obtain ⟨v2, v3, rfl, rb, rc⟩ := t.two
      exact ⟨_, v2, v3, rfl, p2 _ _ g1 l1 (((R1.set i ra).set j rb).set l rc)⟩)⟩
/-- a chain as a test -/
theorem dt_chain {a b c : Expr} {fa fb fc : DEnv → Py D} {o o' : CmpOp} {op op' : D → D → Py D} (ho : DOp C (compareOp o) op) (ho' : DOp C (compareOp o') op') (ha : DE C a fa) (hb : DE C b fb) (hc : DE C c fc)
    (hm : lastMarks [o, o'] [b, c] = false := by with_unfolding_all rfl) : DT C (.Compare a [o, o'] [b, c] pos) (eTest (eChain op op' fa fb fc)) := ⟨fun {g ρ M σ H} Q R p0 pins s I => by
  have p := post_test p0
  refine isTrue_chain (thn ((ha.then_ (Q := fun v H1 => ∃ d M1 g1, g.le g1 ∧ Rl C g1 ρ M1 σ H1 ∧ Rep C.X.K g1 v d ∧ Post (Py.bnd (fb ρ) (fun y => Py.bnd (op d y) fun z => Py.bnd (truB z) fun k => if k then Py.bnd (fc ρ) fun w' => op' y w' else Py.ret (.bl false)) M1) (QV C g ρ σ fun x H1 => ∃ c, x = .bl c ∧ Q c H1) (C.We ρ)) R p
    fun v d M1 H1 g1 l1 R1 r1 p1 => ⟨d, M1, g1, l1, R1, r1, p1⟩) pins s I) fun v s1 ⟨x, H1, I1, rx, d, M1, g1, l1, R1, r1, p1⟩ => test_link ?_) hm
  refine thn ((hb.then_ (Q := fun v H2 => ∃ y M2 g2, g1.le g2 ∧ Rl C g2 ρ M2 σ H2 ∧ Rep C.X.K g2 v y ∧ Post (Py.bnd (op d y) (fun z => Py.bnd (truB z) fun k => if k then Py.bnd (fc ρ) fun w' => op' y w' else Py.ret (.bl false)) M2) (QV C g ρ σ fun x H1 => ∃ c, x = .bl c ∧ Q c H1) (C.We ρ)) R1 p1
    fun v d M1 H1 g1 l1 R1 r1 p1 => ⟨d, M1, g1, l1, R1, r1, p1⟩) pins s1 I1) fun u s2 ⟨x2, H2, I2, rx2, y, M2, g2, l2, R2, r2, p2⟩ => ?_
  have p3 := post_bnd.mp p2
  refine thn (ho (fun z H3 => ∃ k M3 g3, z = .bl k ∧ g2.le g3 ∧ Rl C g3 ρ M3 σ H3 ∧ Post ((if k then Py.bnd (fc ρ) fun w' => op' y w' else Py.ret (.bl false) : Py D) M3) (QV C g ρ σ fun x H1 => ∃ c, x = .bl c ∧ Q c H1) (C.We ρ)) R2 I2 rx rx2 (r1.mono l2) r2 (p3.imp fun z M3 q z' H3 g3 l3 R3 r3 => ?_)) fun d' s3 ⟨z, H3, I3, r3, k, M3, g3, e, l3, R3, p4⟩ => ?_
  · obtain ⟨k, rfl, q'⟩ := truB_post (C := C) (post_bnd.mp q)
    exact ⟨k, M3, g3, rep_bl r3, l3, R3, q'⟩
  · subst e
    cases r3
    refine wpAny_truthy_bool ?_
    cases k with
    | false =>
      obtain ⟨k', e', q'⟩ := QV.here (QV.later (g' := g3) p4 ((l1.trans l2).trans l3)) R3 (.bl false)
      cases e'
      exact ite_ff ⟨H3, I3, q'⟩
    | true =>
      refine ite_tt (test_last (thn ((hc.then_ (Q := fun v H4 => ∃ w' M4 g4, g3.le g4 ∧ Rl C g4 ρ M4 σ H4 ∧ Rep C.X.K g4 v w' ∧ Post (op' y w' M4) (QV C g ρ σ fun x H1 => ∃ c, x = .bl c ∧ Q c H1) (C.We ρ)) R3 p4 fun v d M1 H1 g1 l1 R1 r1 p1 => ⟨d, M1, g1, l1, R1, r1, p1⟩) pins s3 I3)
        fun w' s4 ⟨z', H4, I4, r4, d4, M4, g4, l4, R4, r5, p5⟩ => thn (ho' _ R4 I4 rx2 r4 (r2.mono (l3.trans l4)) r5 (p5.imp fun _ _ q => q.later (((l1.trans l2).trans l3).trans l4))) fun d' s5 ⟨z2, H5, I5, r5, k2, e2, q5⟩ => ?_))
      subst e2
      cases r5
      exact wpAny_truthy_bool ⟨H5, I5, q5⟩⟩
end
end L3
set_option Elab.async false
set_option linter.all false
set_option maxRecDepth 100000
set_option maxHeartbeats 4000000
set_option autoImplicit false
namespace L3
open PySem PySem.Spec L2
open PyProof.Rows hiding St
theorem reps_ints {K : PySem.W.Frag} {g : G} : ∀ ns : List Int, Reps K g (ns.map V.int) (ns.map D.int)
  | [] => .nil
  | n :: r => .cons (.int n) (reps_ints r)
theorem sp_start {K : PySem.W.Frag} {w : World} {m : List D → Py D} {H : Hp} {a : Addr} {ns : List Int} (hS : SqL K H a (ns.map V.int)) (p : Post (m [.ro (ns.map D.int)] []) (fun d _ => d = .bl true) (fun _ _ => False)) :
    spD K w 1 m [.ref a] H (fun v _ => v = .bl true) (fun _ _ _ => False) := by
  refine ⟨rfl, ⟨[], H, fun _ => none, w⟩, [], [.ro (ns.map D.int)], rfl, ⟨fun _ _ h => h, fun _ _ h => (nomatch (show (none : Option HO) = some _ from h)), rfl, fun n o e => by simp at e, fun n m a y y' e => by simp at e⟩, .cons (.ro hS (reps_ints ns)) .nil, p.mono (fun d M' e v H' g' _ _ r => ?_) fun _ _ z => z.elim⟩
  subst e
  cases r
  rfl
end L3
set_option Elab.async false
set_option linter.all false
set_option maxRecDepth 100000
set_option maxHeartbeats 4000000
set_option autoImplicit false
namespace L3
open PySem PySem.Spec L2
open PyProof.Rows hiding St
open PySem.SeqAt PySem.MeetsSeq
open AutoSeq1 (wpAny_loadPart')
theorem str_eq_declines_dict (b : Str) (u : Tok) (l : Addr) (c : Value) (es : Array DictEntry) (ep : Nat) (dd : Option Addr) (sl : Array (Option Value)) :
    Meets (Builtin.«str.__eq__» ⟨[.str b u, .ref l], []⟩) (fun _ R s => s.heap.get? l = some { cls := c, dict := dd, data := .dict es ep, slots := sl } ∧ R (.ok (.ret .notImplemented)) s) :=
  .of_wp fun prog w A R s h => by obtain ⟨hp, g, d, tk, os⟩ := s; obtain ⟨hl, h⟩ := h; wp_walk using wpAny_loadPart' hl, wpAny_load hl; exact ⟨_, rfl, h⟩
section
variable {A : Around} {s : Shared} {P : Program} {w : World}
theorem eqAt_str_dict {l : Addr} {cls : Value} {es : Array DictEntry} {ep : Nat} {dd : Option Addr} {sl : Array (Option Value)} (b : Str) (u : Tok) (ho : s.heap.get? l = some { cls := cls, dict := dd, data := .dict es ep, slots := sl }) (hT : s.TypeIs (.ref l) "dict") (hu : A.units < cLine) : EqAt A s (.str b u) (.ref l) false := fun prog w E Q h => by
  unfold eqBool
  refine wpAny_holding ?_
  refine wpAny_ite_split (fun hab => absurd (eq_of_beq hab) nofun) (fun _ => ?_)
  refine wpAny_bind ?_
  refine rc_eq_decline_or (k := false) (typeIs_str s b u) hT (by decide) F.sub_dict_str F.slot_str_eq F.slot_dict_eq_refl
    (fun _ hq => call_meets F.slot_str_eq (typeIs_str s b u) F.entry_str_eq (F.args_str_eq_2 _ _) (str_eq_declines_dict b u l cls es ep dd sl) ⟨ho, hq⟩)
    (fun _ hq => wpAny_call_entry F.slot_dict_eq_refl hT F.entry_dict_eq ?_ (F.args_dict_eq_2 _ _))
    (fun _ hq => wpAny_of_eq (rfl : isSame (.str b u) (.ref l) = pure false) hq) (.inr hu) (wpAny_truthy_bool h)
  show wpAny _ _ (Builtin.Dict.dictSlotArgs "__eq__" ⟨[.ref l, .str b u], []⟩ >>= _) _ _ s
  refine wpAny_bind ?_
  unfold Builtin.Dict.dictSlotArgs
  refine wpAny_bind (wpAny_notOrdered_dict hT ?_)
  show wpAny _ _ (pure (Value.ref l, Value.str b u)) _ _ s
  refine wpAny_pure ?_
  refine wpAny_bind (wpAny_isInstance (T := "str") (typeIs_str s b u) PySem.F.sub_str_dict ?_)
  simp only [Bool.not_false, if_true]
  refine wpAny_bind (wpAny_rule ?_)
  exact wpAny_pure ⟨_, rfl, hq⟩
/-- a text beside any datum -/
def strAt (x : V) (u : Value) : Bool := match x, u with
  | .str a, .str b _ => b == a
  | _, _ => false
/-- what may be held against texts -/
def PlainX (K : PySem.W.Frag) (H : Hp) (x : V) : Prop := flatV x = true ∨ ∃ a, x = .ref a ∧ ((∃ vs, SqL K H a vs) ∨ (∃ vs, SqT K H a vs) ∨ ∃ kvs, H a = some (.dK kvs))
theorem strAt_eq {X : Cx} {pins : List (Addr × Obj)} {σ : St} {H : Hp} {x : V} {v : Value} {b : Str} {t : Tok} {A : Around} (I : Inv X pins σ H s) (rx : RelV x v) (hx : PlainX X.K H x) (hu : A.units < cLine) : EqAt A s (.str b t) v (strAt x (.str b t)) := by
  rcases hx with fx | ⟨a, rfl, h⟩
  · cases x with
    | non => cases rx; exact EqAt.str_none b t
    | bl k => cases rx; exact EqAt.str_bool b t k
    | int k => obtain ⟨u, rfl⟩ := rx; exact EqAt.str_int b t k u
    | str k => obtain ⟨u, rfl⟩ := rx; exact EqAt.str_str b t k u
    | _ => exact absurd (show false = true from fx) Bool.false_ne_true
  · cases rx
    rcases h with ⟨vs, h⟩ | ⟨vs, h⟩ | ⟨kvs, h⟩
    · obtain ⟨its, r, pl, hz⟩ := I.list h
      exact EqAt.str_list b t pl.isList hu
    · obtain ⟨its, r, pl, hz⟩ := I.tuple h
      exact EqAt.str_tuple b t pl hu
    · obtain ⟨z, y, vs, r, hd⟩ := I.hok a _ h
      have hT := hd.typeIs (s := s)
      obtain ⟨⟨cls, dd, data, sl⟩, es, ep, ho, hc, hq, _⟩ := id hd
      simp only at hq
      subst hq
      exact eqAt_str_dict b t ho hT hu
end
def strIn (x : V) (zs : List Str) : Bool := zs.any fun z => strAt x (.str z default)
theorem any_strAt {x : V} : ∀ {zs : List Str} {us : List Value}, Vals (zs.map V.str) us → us.any (strAt x) = strIn x zs
  | [], _, .nil => rfl
  | z :: zs, u :: us, .cons r t => by
    obtain ⟨tk, rfl⟩ := r
    unfold strIn
    rw [List.any_cons, List.any_cons, any_strAt t]
    cases x <;> rfl
theorem mem_strAt {X : Cx} {pins : List (Addr × Obj)} {σ : St} {H : Hp} {s : Shared} {x : V} {v : Value} {A : Around} (I : Inv X pins σ H s) (rx : RelV x v) (hx : PlainX X.K H x) (hu : A.units < cLine) : ∀ {zs : List Str} {us : List Value}, Vals (zs.map V.str) us → ∀ u ∈ us, EqAt A s u v (strAt x u)
  | [], _, .nil => fun u hu => by cases hu
  | z :: zs, u :: us, .cons r t => fun u' hu' => by
    rcases List.mem_cons.mp hu' with rfl | hu'
    · obtain ⟨tk, rfl⟩ := r
      exact strAt_eq I rx hx hu
    · exact mem_strAt I rx hx hu t u' hu'
/-- x in texts -/
def rInT (K : PySem.W.Frag) (neg : Bool) : R2 := fun x y H Q => ∃ p zs, y = .ref p ∧ (SqL K H p (zs.map V.str) ∨ SqT K H p (zs.map V.str)) ∧ PlainX K H x ∧ Q (.bl (if neg then !strIn x zs else strIn x zs)) H
section
variable {X : Cx}
theorem op_inT (hu : X.A.units + 1 < cLine) : OpR X (compareOp .In) (rInT X.K false) := by
  intro pins s σ H x y v u Q I rx ry h
  obtain ⟨p, zs, rfl, hq, fx, q⟩ := h
  cases ry
  have hu1 : X.A.in1.units < cLine := hu
  rcases hq with hq | hq
  · obtain ⟨its, r, pl, hz⟩ := I.list hq
    refine SeqAt.in_listAt (strAt x) pl.isList (fun w hw => mem_strAt I rx fx hu1 r w (by simpa using hw)) ⟨.bl _, H, I, rfl, ?_⟩
    rw [show its.toArray.any (strAt x) = its.any (strAt x) by simp, any_strAt r]
    exact q
  · obtain ⟨its, r, pl, hz⟩ := I.tuple hq
    refine SeqAt.in_tupleAt (strAt x) pl (fun w hw => mem_strAt I rx fx hu1 r w (by simpa using hw)) ⟨.bl _, H, I, rfl, ?_⟩
    rw [show its.toArray.any (strAt x) = its.any (strAt x) by simp, any_strAt r]
    exact q
theorem op_notInT (hu : X.A.units + 1 < cLine) : OpR X (compareOp .NotIn) (rInT X.K true) := by
  intro pins s σ H x y v u Q I rx ry h
  obtain ⟨p, zs, rfl, hq, fx, q⟩ := h
  cases ry
  have hu1 : X.A.in1.units < cLine := hu
  rcases hq with hq | hq
  · obtain ⟨its, r, pl, hz⟩ := I.list hq
    refine SeqAt.notIn_listAt (strAt x) pl.isList (fun w hw => mem_strAt I rx fx hu1 r w (by simpa using hw)) ⟨.bl _, H, I, rfl, ?_⟩
    rw [show its.toArray.any (strAt x) = its.any (strAt x) by simp, any_strAt r]
    exact q
  · obtain ⟨its, r, pl, hz⟩ := I.tuple hq
    refine SeqAt.notIn_tupleAt (strAt x) pl (fun w hw => mem_strAt I rx fx hu1 r w (by simpa using hw)) ⟨.bl _, H, I, rfl, ?_⟩
    rw [show its.toArray.any (strAt x) = its.any (strAt x) by simp, any_strAt r]
    exact q
end
/-! ### on data -/
def plnD (M : Store) : D → Bool
  | .non => true
  | .bl _ => true
  | .int _ => true
  | .str _ => true
  | .tup _ => true
  | .lst _ => true
  | .ro _ => true
  | .dk _ => true
  | .loc n => match M[n]? with
    | some (some (.lst _)) => true
    | some (some (.dk _)) => true
    | _ => false
  | _ => false
def isS (x : D) (z : Str) : Bool := match x with
  | .str a => z == a
  | _ => false
def strsOf : List D → Option (List Str)
  | [] => some []
  | .str z :: r => (strsOf r).map fun zs => z :: zs
  | _ :: _ => none
theorem strsOf_rep {K : PySem.W.Frag} {g : G} : ∀ {vs : List V} {ds : List D} {zs : List Str}, Reps K g vs ds → strsOf ds = some zs → vs = zs.map V.str
  | _, _, _, .nil, e => by cases e; rfl
  | _, _, zs, .cons (d := d) (ds := r) h t, e => by
    cases d with
    | str z =>
      obtain ⟨zs', e2, e3⟩ := Option.map_eq_some_iff.mp (show (strsOf r).map _ = some zs from e)
      subst e3
      rw [List.map_cons, ← strsOf_rep t e2, rep_str h]
    | _ => cases e
theorem plain_rep {K : PySem.W.Frag} {g : G} {M : Store} {H : Hp} {v : V} {d : D} (R : RelH K g M H) (r : Rep K g v d) (h : plnD M d = true) : PlainX K H v := by
  cases r with
  | non => exact .inl rfl
  | bl b => exact .inl rfl
  | int b => exact .inl rfl
  | str b => exact .inl rfl
  | tup s t => exact .inr ⟨_, rfl, .inr (.inl ⟨_, .inl (.of (R.frz _ _ s))⟩)⟩
  | lst s t => exact .inr ⟨_, rfl, .inl ⟨_, .inl (.of (R.frz _ _ s))⟩⟩
  | ro s t => exact .inr ⟨_, rfl, .inl ⟨_, sqL_mono (R.frz) s⟩⟩
  | dk s t z => exact .inr ⟨_, rfl, .inr (.inr ⟨_, R.frz _ _ s⟩)⟩
  | @loc n a e =>
    have h' : (match M[n]? with | some (some (.lst _)) => true | some (some (.dk _)) => true | _ => false) = true := h
    split at h'
    · rename_i xs e2
      obtain ⟨b, e3, _, vs, e4, _⟩ := R.liv n _ e2
      rw [e] at e3; cases e3
      exact .inr ⟨_, rfl, .inl ⟨vs, .inl (.of e4)⟩⟩
    · rename_i xs e2
      obtain ⟨b, e3, _, vs, e4, _⟩ := R.liv n _ e2
      rw [e] at e3; cases e3
      exact .inr ⟨_, rfl, .inr (.inr ⟨vs, e4⟩)⟩
    · cases h'
  | _ => cases h
theorem strIn_rep {K : PySem.W.Frag} {g : G} {v : V} {d : D} (r : Rep K g v d) (zs : List Str) : strIn v zs = zs.any (isS d) := by
  unfold strIn
  congr 1
  funext z
  cases r <;> rfl
/-- x in (texts) -/
def inTD (neg : Bool) (x y : D) : Py D := Py.bnd (items y) fun ds => fun M => match strsOf ds with
  | some zs => if plnD M x = true then .ok (.bl (if neg then !zs.any (isS x) else zs.any (isS x))) M else .bad
  | none => .bad
theorem inTD_post {neg : Bool} {x : D} {ds : List D} {M : Store} {q : D → Store → Prop} {E : Exn → Store → Prop} (p : Post ((match strsOf ds with
  | some zs => if plnD M x = true then .ok (.bl (if neg then !zs.any (isS x) else zs.any (isS x))) M else .bad
  | none => .bad : Out D)) q E) : ∃ zs, strsOf ds = some zs ∧ plnD M x = true ∧ q (.bl (if neg then !zs.any (isS x) else zs.any (isS x))) M := by
  cases h : strsOf ds with
  | none => rw [h] at p; exact p.elim
  | some zs =>
    rw [h] at p
    dsimp only at p
    by_cases h2 : plnD M x = true
    · rw [if_pos h2] at p; exact ⟨zs, rfl, h2, p⟩
    · rw [if_neg h2] at p; exact p.elim
section
variable {C : DX}
theorem do_inT (hu : C.X.A.units + 1 < cLine) : DOp C (compareOp .In) (inTD false) := DOp.of (op_inT hu) fun {g ρ M σ H x y dx dy} Q R rx ry p => by
  obtain ⟨a, vs, ds, rfl, hs, t, p1⟩ := items_post R.h ry (post_bnd.mp p)
  obtain ⟨zs, e, hp, q⟩ := inTD_post p1
  have ez := strsOf_rep t e
  subst ez
  refine ⟨a, zs, rfl, hs, plain_rep R.h rx hp, ?_⟩
  rw [strIn_rep rx]
  exact QV.here q R (.bl _)
theorem do_notInT (hu : C.X.A.units + 1 < cLine) : DOp C (compareOp .NotIn) (inTD true) := DOp.of (op_notInT hu) fun {g ρ M σ H x y dx dy} Q R rx ry p => by
  obtain ⟨a, vs, ds, rfl, hs, t, p1⟩ := items_post R.h ry (post_bnd.mp p)
  obtain ⟨zs, e, hp, q⟩ := inTD_post p1
  have ez := strsOf_rep t e
  subst ez
  refine ⟨a, zs, rfl, hs, plain_rep R.h rx hp, ?_⟩
  rw [strIn_rep rx]
  exact QV.here q R (.bl _)
end
end L3
set_option Elab.async false
set_option linter.all false
set_option maxRecDepth 100000
set_option maxHeartbeats 4000000
set_option autoImplicit false
/-! the plain law's own tools: what a reading asks, step by step -/
namespace L3
open PySem PySem.Spec L2
open PyProof.Rows hiding St
theorem Post.use {α : Type} {o : Out α} {Q' Q : α → Store → Prop} {E : Exn → Store → Prop} (h : Post o Q' (fun _ _ => False)) (k : ∀ a M, Q' a M → Q a M) : Post o Q E := h.mono k fun _ _ z => z.elim
theorem post_congr {α : Type} {o : Out α} {Q Q' : α → Store → Prop} {E : Exn → Store → Prop} (h : ∀ a M, Q a M ↔ Q' a M) : Post o Q E ↔ Post o Q' E := by
  cases o with
  | ok a M => exact h a M
  | exc e M => exact Iff.rfl
  | bad => exact Iff.rfl
section
variable {Q : D → Store → Prop} {QB : Bool → Store → Prop} {QL : List D → Store → Prop} {QF : Fl → Store → Prop} {QR : DEnv → Store → Prop} {QW : Wk → Store → Prop} {QO : Option Int → Store → Prop} {E : Exn → Store → Prop} {M : Store} {ρ : DEnv}
variable {fa fb fc : DEnv → Py D} {ta tb : DEnv → Py Bool} {ff : DEnv → Py (List D)} {sa sb : DEnv → Py Fl} {d e : D} {i j : Int} {xs ys : List D}
theorem post_if {α : Type} {c : Prop} [Decidable c] {a b : Py α} {R : α → Store → Prop} : Post ((if c then a else b) M) R E ↔ if c then Post (a M) R E else Post (b M) R E := by split <;> exact Iff.rfl
@[simp] theorem p_eC : Post (eC d ρ M) Q E ↔ Q d M := Iff.rfl
@[simp] theorem p_eVar {n : Nat} : Post (eVar n ρ M) Q E ↔ Post (getV ρ[n]? M) Q E := Iff.rfl
@[simp] theorem p_getV : Post (getV (some (some d)) M) Q E ↔ Q d M := Iff.rfl
@[simp] theorem p_eOp {op : D → D → Py D} : Post (eOp op fa fb ρ M) Q E ↔ Post (fa ρ M) (fun x M1 => Post (fb ρ M1) (fun y M2 => Post (op x y M2) Q E) E) E := by
  unfold eOp; rw [post_bnd]; simp only [post_bnd]
@[simp] theorem p_eUn {op : D → Py D} : Post (eUn op fa ρ M) Q E ↔ Post (fa ρ M) (fun x M1 => Post (op x M1) Q E) E := by
  unfold eUn; rw [post_bnd]
@[simp] theorem p_truB {b : Bool} : Post (truB (.bl b) M) QB E ↔ QB b M := Iff.rfl
@[simp] theorem p_eTest : Post (eTest fa ρ M) QB E ↔ Post (fa ρ M) (fun x M1 => Post (truB x M1) QB E) E := by
  unfold eTest; rw [post_bnd]
@[simp] theorem p_tAnd : Post (tAndD ta tb ρ M) QB E ↔ Post (ta ρ M) (fun c M1 => if c = true then Post (tb ρ M1) QB E else QB false M1) E := by
  unfold tAndD; rw [post_bnd]; simp only [post_if]; exact Iff.rfl
@[simp] theorem p_tOr : Post (tOrD ta tb ρ M) QB E ↔ Post (ta ρ M) (fun c M1 => if c = true then QB true M1 else Post (tb ρ M1) QB E) E := by
  unfold tOrD; rw [post_bnd]; simp only [post_if]; exact Iff.rfl
@[simp] theorem p_tNot : Post (tNotD ta ρ M) QB E ↔ Post (ta ρ M) (fun c M1 => QB (!c) M1) E := by
  unfold tNotD; rw [post_bnd]; exact Iff.rfl
@[simp] theorem p_tYes : Post (tYesD ρ M) QB E ↔ QB true M := Iff.rfl
@[simp] theorem p_eAnd : Post (eAnd fa fb ρ M) Q E ↔ Post (fa ρ M) (fun x M1 => Post (truB x M1) (fun c M2 => if c = true then Post (fb ρ M2) Q E else Q (.bl false) M2) E) E := by
  unfold eAnd; rw [post_bnd]; simp only [post_bnd, post_if]; exact Iff.rfl
@[simp] theorem p_eOr : Post (eOr fa fb ρ M) Q E ↔ Post (fa ρ M) (fun x M1 => Post (truB x M1) (fun c M2 => if c = true then Q (.bl true) M2 else Post (fb ρ M2) Q E) E) E := by
  unfold eOr; rw [post_bnd]; simp only [post_bnd, post_if]; exact Iff.rfl
@[simp] theorem p_eNot : Post (eNot fa ρ M) Q E ↔ Post (fa ρ M) (fun x M1 => Post (truB x M1) (fun c M2 => Q (.bl (!c)) M2) E) E := by
  unfold eNot; rw [post_bnd]; simp only [post_bnd]; exact Iff.rfl
@[simp] theorem p_eIf : Post (eIf ta fa fb ρ M) Q E ↔ Post (ta ρ M) (fun c M1 => if c = true then Post (fa ρ M1) Q E else Post (fb ρ M1) Q E) E := by
  unfold eIf; rw [post_bnd]; simp only [post_if]
@[simp] theorem p_eChain {op op' : D → D → Py D} : Post (eChain op op' fa fb fc ρ M) Q E ↔ Post (fa ρ M) (fun x M1 => Post (fb ρ M1) (fun y M2 => Post (op x y M2) (fun z M3 => Post (truB z M3) (fun k M4 => if k = true then Post (fc ρ M4) (fun w M5 => Post (op' y w M5) Q E) E else Q (.bl false) M4) E) E) E) E := by
  unfold eChain; rw [post_bnd]; simp only [post_bnd, post_if]; exact Iff.rfl
@[simp] theorem p_aNil : Post (aNil ρ M) QL E ↔ QL [] M := Iff.rfl
@[simp] theorem p_aCons : Post (aCons fa ff ρ M) QL E ↔ Post (fa ρ M) (fun x M1 => Post (ff ρ M1) (fun xs M2 => QL (x :: xs) M2) E) E := by
  unfold aCons; rw [post_bnd]; simp only [post_bnd]; exact Iff.rfl
@[simp] theorem p_eTup : Post (eTup ff ρ M) Q E ↔ Post (ff ρ M) (fun ds M1 => ds.length ≤ sizeLine ∧ Q (.tup ds) M1) E := by
  unfold eTup; rw [post_bnd]; simp only [post_chk]; exact Iff.rfl
@[simp] theorem p_eLst : Post (eLst ff ρ M) Q E ↔ Post (ff ρ M) (fun ds M1 => ds.length ≤ sizeLine ∧ Q (.lst ds) M1) E := by
  unfold eLst; rw [post_bnd]; simp only [post_chk]; exact Iff.rfl
theorem p_alloc {o : MO} : Post (alloc o M) Q E ↔ Q (.loc M.length) (M ++ [some o]) := Iff.rfl
@[simp] theorem p_eNew : Post (eNew ff ρ M) Q E ↔ Post (ff ρ M) (fun ds M1 => ds.length ≤ sizeLine ∧ Q (.loc M1.length) (M1 ++ [some (.lst ds)])) E := by
  unfold eNew; rw [post_bnd]; simp only [post_chk, p_alloc]
@[simp] theorem p_eCall {op : List D → Py D} : Post (eCall op ff ρ M) Q E ↔ Post (ff ρ M) (fun ds M1 => Post (op ds M1) Q E) E := by
  unfold eCall; rw [post_bnd]
@[simp] theorem p_nargs {n : Nat} {m : List D → Py D} : Post (nargs n m xs M) Q E ↔ xs.length = n ∧ Post (m xs M) Q E := post_chk
@[simp] theorem p_one {f : D → Py D} : Post (one f [d] M) Q E ↔ Post (f d M) Q E := Iff.rfl
@[simp] theorem p_two {f : D → D → Py D} : Post (twoD f [d, e] M) Q E ↔ Post (f d e M) Q E := Iff.rfl
/-! statements -/
@[simp] theorem p_sSet {n : Nat} : Post (sSet n fa ρ M) QF E ↔ Post (fa ρ M) (fun d M1 => QF (.nx (ρ.set n (some d))) M1) E := by
  unfold sSet; rw [post_bnd]; exact Iff.rfl
@[simp] theorem p_sAsg {ft : D → DEnv → Py DEnv} : Post (sAsg fa ft ρ M) QF E ↔ Post (fa ρ M) (fun d M1 => Post (ft d ρ M1) (fun ρ' M2 => QF (.nx ρ') M2) E) E := by
  unfold sAsg; rw [post_bnd]; simp only [post_bnd]; exact Iff.rfl
@[simp] theorem p_sRet : Post (sRet fa ρ M) QF E ↔ Post (fa ρ M) (fun d M1 => QF (.rt d) M1) E := by
  unfold sRet; rw [post_bnd]; exact Iff.rfl
@[simp] theorem p_sRetN : Post (sRetN ρ M) QF E ↔ QF (.rt .non) M := Iff.rfl
@[simp] theorem p_sDrop : Post (sDrop fa ρ M) QF E ↔ Post (fa ρ M) (fun _ M1 => QF (.nx ρ) M1) E := by
  unfold sDrop; rw [post_bnd]; exact Iff.rfl
@[simp] theorem p_sIf : Post (sIf ta sa sb ρ M) QF E ↔ Post (ta ρ M) (fun c M1 => if c = true then Post (sa ρ M1) QF E else Post (sb ρ M1) QF E) E := by
  unfold sIf; rw [post_bnd]; simp only [post_if]
@[simp] theorem p_sNext : Post (sNext ρ M) QF E ↔ QF (.nx ρ) M := Iff.rfl
/-- what follows -/
def thenF (sb : DEnv → Py Fl) (QF : Fl → Store → Prop) (E : Exn → Store → Prop) : Fl → Store → Prop
  | .nx ρ, M => Post (sb ρ M) QF E
  | r, M => QF r M
@[simp] theorem thenF_nx : thenF sb QF E (.nx ρ) M ↔ Post (sb ρ M) QF E := Iff.rfl
@[simp] theorem thenF_rt : thenF sb QF E (.rt d) M ↔ QF (.rt d) M := Iff.rfl
@[simp] theorem thenF_bk : thenF sb QF E (.bk ρ) M ↔ QF (.bk ρ) M := Iff.rfl
@[simp] theorem thenF_ct : thenF sb QF E (.ct ρ) M ↔ QF (.ct ρ) M := Iff.rfl
@[simp] theorem p_sSeq : Post (sSeq sa sb ρ M) QF E ↔ Post (sa ρ M) (thenF sb QF E) E := by
  exact post_bnd.trans (post_congr fun a M' => by cases a <;> exact Iff.rfl)
@[simp] theorem p_sBk : Post (sBk ρ M) QF E ↔ QF (.bk ρ) M := Iff.rfl
@[simp] theorem p_sCt : Post (sCt ρ M) QF E ↔ QF (.ct ρ) M := Iff.rfl
@[simp] theorem p_parK {a b : Nat} : Post (parK a b ρ [d, e] M) QF E ↔ QF (.nx ((ρ.set a (some d)).set b (some e))) M := Iff.rfl
@[simp] theorem p_sPar {a b : Nat} : Post (sPar a b ff ρ M) QF E ↔ Post (ff ρ M) (fun ds M1 => Post (parK a b ρ ds M1) QF E) E := by
  unfold sPar; rw [post_bnd]
@[simp] theorem p_parK3 {a b c : Nat} {f : D} : Post (parK3 a b c ρ [d, e, f] M) QF E ↔ QF (.nx (((ρ.set a (some d)).set b (some e)).set c (some f))) M := Iff.rfl
@[simp] theorem p_sPar3 {a b c : Nat} : Post (sPar3 a b c ff ρ M) QF E ↔ Post (ff ρ M) (fun ds M1 => Post (parK3 a b c ρ ds M1) QF E) E := by
  unfold sPar3; rw [post_bnd]
@[simp] theorem p_sAug {n : Nat} {op : D → D → Py D} : Post (sAug n op fa ρ M) QF E ↔ Post (getV ρ[n]? M) (fun x M1 => Post (fa ρ M1) (fun y M2 => Post (op x y M2) (fun z M3 => QF (.nx (ρ.set n (some z))) M3) E) E) E := by
  unfold sAug; simp only [post_bnd]; exact Iff.rfl
@[simp] theorem p_sSub : Post (sSub fa fb fc ρ M) QF E ↔ Post (fc ρ M) (fun v M1 => Post (fa ρ M1) (fun o M2 => Post (fb ρ M2) (fun k M3 => Post (setD o k v M3) (fun _ M4 => QF (.nx ρ) M4) E) E) E) E := by
  unfold sSub; simp only [post_bnd]; exact Iff.rfl
/-- the end of a def -/
def endF (Q : D → Store → Prop) : Fl → Store → Prop
  | .nx _, M => Q .non M
  | .rt d, M => Q d M
  | _, _ => False
@[simp] theorem endF_nx : endF Q (.nx ρ) M ↔ Q .non M := Iff.rfl
@[simp] theorem endF_rt : endF Q (.rt d) M ↔ Q d M := Iff.rfl
@[simp] theorem endF_bk : endF Q (.bk ρ) M ↔ False := Iff.rfl
@[simp] theorem endF_ct : endF Q (.ct ρ) M ↔ False := Iff.rfl
theorem p_runD {n : Nat} : Post (runD n sa xs M) Q E ↔ Post (sa (xs.map some ++ List.replicate (n - xs.length) none) M) (endF Q) E := by
  unfold runD
  exact post_bnd.trans (post_congr fun a M' => by cases a <;> exact Iff.rfl)
/-! whole numbers -/
@[simp] theorem p_addI : Post (addI (.int i) (.int j) M) Q E ↔ Q (.int (i + j)) M := Iff.rfl
@[simp] theorem p_subI : Post (subI (.int i) (.int j) M) Q E ↔ Q (.int (i - j)) M := Iff.rfl
@[simp] theorem p_mulI : Post (mulI (.int i) (.int j) M) Q E ↔ ((-(2 ^ 64) < i ∧ i < 2 ^ 64) ∨ (-(2 ^ 64) < j ∧ j < 2 ^ 64)) ∧ Q (.int (i * j)) M := post_chk
@[simp] theorem p_fdivI : Post (fdivI (.int i) (.int j) M) Q E ↔ (0 < j ∧ j < 1073741824) ∧ Q (.int (i / j)) M := post_chk
@[simp] theorem p_modI : Post (modI (.int i) (.int j) M) Q E ↔ 0 < j ∧ Q (.int (i % j)) M := post_chk
@[simp] theorem p_powI : Post (powI (.int i) (.int j) M) Q E ↔ (0 ≤ j ∧ j ≤ 1000000 ∧ i.natAbs < 2 ^ 64) ∧ Q (.int (i ^ j.toNat)) M := post_chk
@[simp] theorem p_ltI : Post (ltI (.int i) (.int j) M) Q E ↔ Q (.bl (decide (i < j))) M := Iff.rfl
@[simp] theorem p_leI : Post (leI (.int i) (.int j) M) Q E ↔ Q (.bl (decide (i ≤ j))) M := Iff.rfl
@[simp] theorem p_gtI : Post (gtI (.int i) (.int j) M) Q E ↔ Q (.bl (decide (j < i))) M := Iff.rfl
@[simp] theorem p_geI : Post (geI (.int i) (.int j) M) Q E ↔ Q (.bl (decide (j ≤ i))) M := Iff.rfl
@[simp] theorem p_negI : Post (negI (.int i) M) Q E ↔ Q (.int (-i)) M := Iff.rfl
@[simp] theorem p_maxI : Post (maxI (.int i) (.int j) M) Q E ↔ Q (.int (if j > i then j else i)) M := Iff.rfl
@[simp] theorem p_minI : Post (minI (.int i) (.int j) M) Q E ↔ Q (.int (if j < i then j else i)) M := Iff.rfl
@[simp] theorem p_absD : Post (absD (.int i) M) Q E ↔ Q (.int (if i < 0 then -i else i)) M := Iff.rfl
@[simp] theorem p_intD : Post (intD (.int i) M) Q E ↔ Q (.int i) M := Iff.rfl
@[simp] theorem p_addA_int : Post (addA (.int i) (.int j) M) Q E ↔ Q (.int (i + j)) M := Iff.rfl
@[simp] theorem p_mulA_int : Post (mulA (.int i) (.int j) M) Q E ↔ ((-(2 ^ 64) < i ∧ i < 2 ^ 64) ∨ (-(2 ^ 64) < j ∧ j < 2 ^ 64)) ∧ Q (.int (i * j)) M := post_chk
@[simp] theorem p_addA_tup : Post (addA (.tup xs) (.tup ys) M) Q E ↔ xs.length + ys.length ≤ sizeLine ∧ Q (.tup (xs ++ ys)) M := post_chk
@[simp] theorem p_addA_lst : Post (addA (.lst xs) (.lst ys) M) Q E ↔ xs.length + ys.length ≤ sizeLine ∧ Q (.lst (xs ++ ys)) M := post_chk
/-! items -/
@[simp] theorem p_items_tup : Post (items (.tup xs) M) QL E ↔ QL xs M := Iff.rfl
@[simp] theorem p_items_lst : Post (items (.lst xs) M) QL E ↔ QL xs M := Iff.rfl
@[simp] theorem p_items_ro : Post (items (.ro xs) M) QL E ↔ QL xs M := Iff.rfl
theorem p_items_loc {n : Nat} (h : M[n]? = some (some (.lst xs))) : Post (items (.loc n) M) QL E ↔ QL xs M := by
  unfold items
  simp only [h]
  exact Iff.rfl
@[simp] theorem p_len_tup : Post (lenD (.tup xs) M) Q E ↔ Q (.int xs.length) M := Iff.rfl
@[simp] theorem p_len_lst : Post (lenD (.lst xs) M) Q E ↔ Q (.int xs.length) M := Iff.rfl
@[simp] theorem p_len_ro : Post (lenD (.ro xs) M) Q E ↔ Q (.int xs.length) M := Iff.rfl
@[simp] theorem p_len_str {z : Str} : Post (lenD (.str z) M) Q E ↔ z.length ≤ sizeLine ∧ Q (.int z.length) M := post_chk
theorem p_len_loc {n : Nat} (h : M[n]? = some (some (.lst xs))) : Post (lenD (.loc n) M) Q E ↔ Q (.int xs.length) M := by
  unfold lenD
  simp only [post_bnd, p_items_loc h]
  exact Iff.rfl
/-- what stands at a place -/
def AtP (xs : List D) (i : Int) (P : D → Prop) : Prop := match atI xs i with
  | some d => P d
  | none => False
theorem atP_iff {P : D → Prop} : AtP xs i P ↔ ∃ d, atI xs i = some d ∧ P d := by
  unfold AtP
  cases atI xs i <;> simp
@[simp] theorem p_ix_tup : Post (ixD (.tup xs) (.int i) M) Q E ↔ AtP xs i fun d => Q d M := by
  unfold ixD AtP
  rw [post_bnd]
  simp only [p_items_tup]
  cases atI xs i <;> exact Iff.rfl
@[simp] theorem p_ix_lst : Post (ixD (.lst xs) (.int i) M) Q E ↔ AtP xs i fun d => Q d M := by
  unfold ixD AtP
  rw [post_bnd]
  simp only [p_items_lst]
  cases atI xs i <;> exact Iff.rfl
@[simp] theorem p_ix_ro : Post (ixD (.ro xs) (.int i) M) Q E ↔ AtP xs i fun d => Q d M := by
  unfold ixD AtP
  rw [post_bnd]
  simp only [p_items_ro]
  cases atI xs i <;> exact Iff.rfl
theorem p_ix_loc {n : Nat} (h : M[n]? = some (some (.lst xs))) : Post (ixD (.loc n) (.int i) M) Q E ↔ AtP xs i fun d => Q d M := by
  unfold ixD AtP
  rw [post_bnd]
  simp only [p_items_loc h]
  cases atI xs i <;> exact Iff.rfl
theorem ixN_nat {n k : Nat} (h : k < n) : ixN n (k : Int) = some k := by
  unfold ixN
  simp [h]
theorem atI_nat {k : Nat} (h : k < xs.length) : atI xs (k : Int) = xs[k]? := by
  unfold atI
  rw [ixN_nat h]
  rfl
theorem atP_nat {P : D → Prop} {k : Nat} (h : k < xs.length) : AtP xs (k : Int) P ↔ P xs[k] := by
  unfold AtP
  rw [atI_nat h, List.getElem?_eq_getElem h]
theorem atP_int {P : D → Prop} (h0 : 0 ≤ i) (h1 : i < xs.length) : AtP xs i P ↔ ∃ h : i.toNat < xs.length, P xs[i.toNat] := by
  obtain ⟨k, rfl⟩ := Int.eq_ofNat_of_zero_le h0
  have hk : k < xs.length := by omega
  rw [show ((k : Nat) : Int) = (k : Int) from rfl, atP_nat hk]
  simp [hk]
theorem atP_all {P : D → Prop} (h0 : 0 ≤ i) (h1 : i < xs.length) (h : ∀ d ∈ xs, P d) : AtP xs i P := by
  rw [atP_int h0 h1]
  have hk : i.toNat < xs.length := by omega
  exact ⟨hk, h _ (List.getElem_mem hk)⟩
end
end L3
set_option Elab.async false
set_option linter.all false
set_option maxRecDepth 100000
set_option maxHeartbeats 4000000
set_option autoImplicit false
/-! the plain law's own tools: things that change, walks, comprehensions -/
namespace L3
open PySem PySem.Spec L2
open PyProof.Rows hiding St
/-- the list at n -/
def LocL (M : Store) (n : Nat) (P : List D → Prop) : Prop := match M[n]? with
  | some (some (.lst xs)) => P xs
  | _ => False
section
variable {M : Store} {n m : Nat} {xs ys : List D} {P : List D → Prop}
theorem locL_of (h : M[n]? = some (some (.lst xs))) : LocL M n P ↔ P xs := by
  unfold LocL; rw [h]
@[simp] theorem locL_set : LocL (M.set n (some (.lst xs))) n P ↔ n < M.length ∧ P xs := by
  unfold LocL
  by_cases h : n < M.length
  · rw [List.getElem?_set_self h]; exact ⟨fun z => ⟨h, z⟩, fun z => z.2⟩
  · rw [List.getElem?_eq_none (by rw [List.length_set]; omega)]; exact ⟨fun z => z.elim, fun z => (h z.1).elim⟩
theorem locL_congr {P' : List D → Prop} (h : ∀ xs, P xs ↔ P' xs) : LocL M n P ↔ LocL M n P' := by
  unfold LocL; split
  · exact h _
  · exact Iff.rfl
theorem locL_set_ne {o : Option MO} (h : m ≠ n) : LocL (M.set m o) n P ↔ LocL M n P := by
  unfold LocL
  rw [List.getElem?_set_ne h]
theorem locL_iff : LocL M n P ↔ ∃ xs, M[n]? = some (some (.lst xs)) ∧ P xs := by
  unfold LocL
  split
  · rename_i xs h; exact ⟨fun z => ⟨xs, h, z⟩, fun ⟨ys, e, z⟩ => by rw [h] at e; cases e; exact z⟩
  · rename_i h
    constructor
    · intro z; exact z.elim
    · rintro ⟨xs, e, _⟩; exact absurd e (h xs)
end
section
variable {Q : D → Store → Prop} {QB : Bool → Store → Prop} {QL : List D → Store → Prop} {QF : Fl → Store → Prop} {QR : DEnv → Store → Prop} {QW : Wk → Store → Prop} {QO : Option Int → Store → Prop} {QU : Unit → Store → Prop} {E : Exn → Store → Prop} {M : Store} {ρ : DEnv}
variable {fa fb fc : DEnv → Py D} {ta tb : DEnv → Py Bool} {ff : DEnv → Py (List D)} {sa sb : DEnv → Py Fl} {d e v : D} {i j : Int} {xs ys : List D} {n : Nat}
theorem post_locM {α : Type} {R : α → Store → Prop} {f : List D → Out α} : Post (match M[n]? with | some (some (.lst xs)) => f xs | _ => Out.bad) R E ↔ LocL M n fun xs => Post (f xs) R E := by
  unfold LocL
  rcases M[n]? with _ | _ | (_ | _ | _) <;> exact Iff.rfl
@[simp] theorem p_items_l : Post (items (.loc n) M) QL E ↔ LocL M n fun xs => QL xs M := post_locM (f := fun xs => .ok xs M)
@[simp] theorem p_len_l : Post (lenD (.loc n) M) Q E ↔ LocL M n fun xs => Q (.int xs.length) M := by
  unfold lenD; simp only [post_bnd, p_items_l]; exact Iff.rfl
@[simp] theorem p_ix_l : Post (ixD (.loc n) (.int i) M) Q E ↔ LocL M n fun xs => AtP xs i fun d => Q d M := by
  exact post_bnd.trans (p_items_l.trans (locL_congr fun xs => p_ix_lst))
theorem p_locL {α : Type} {k : Nat → List D → Py α} {R : α → Store → Prop} : Post (locL (.loc n) k M) R E ↔ LocL M n fun xs => Post (k n xs M) R E := by
  exact post_locM (f := fun xs => k n xs M)
@[simp] theorem p_setD_l : Post (setD (.loc n) (.int i) v M) QU E ↔ LocL M n fun xs => ∃ k, ixN xs.length i = some k ∧ QU () (M.set n (some (.lst (xs.set k v)))) := by
  unfold setD
  rw [p_locL]
  have e : ∀ xs : List D, Post (setK n xs v (.int i) M) QU E ↔ ∃ k, ixN xs.length i = some k ∧ QU () (M.set n (some (.lst (xs.set k v)))) := fun xs => by
    cases h : ixN xs.length i with
    | none =>
      have e : setK n xs v (.int i) = Py.bad := by unfold setK; dsimp only; rw [h]
      rw [e]
      exact ⟨fun z => z.elim, fun ⟨k, e, _⟩ => nomatch e⟩
    | some k =>
      have e : setK n xs v (.int i) = fun M => .ok () (M.set n (some (.lst (xs.set k v)))) := by unfold setK; dsimp only; rw [h]
      rw [e]
      exact ⟨fun z => ⟨k, rfl, z⟩, fun ⟨k', e, z⟩ => by cases e; exact z⟩
  simp only [e]
@[simp] theorem p_append_l : Post (appendD (.loc n) [v] M) Q E ↔ LocL M n fun xs => xs.length < sizeLine ∧ Q .non (M.set n (some (.lst (xs ++ [v])))) := by
  unfold appendD
  rw [p_locL]
  have e : ∀ xs : List D, Post (Py.chk (xs.length < sizeLine) (putL n (xs ++ [v]) .non) M) Q E ↔ xs.length < sizeLine ∧ Q .non (M.set n (some (.lst (xs ++ [v])))) := fun xs => post_chk
  simp only [e]
@[simp] theorem p_tyChk_l : Post (tyChk "list" (.loc n) M) QU E ↔ LocL M n fun _ => QU () M := by
  unfold tyChk LocL
  dsimp only
  rcases M[n]? with _ | _ | (_ | _ | _) <;> first | exact Iff.rfl | (rw [if_pos rfl]; exact Iff.rfl) | (rw [if_neg (by decide)]; exact Iff.rfl)
@[simp] theorem p_eMt {T : String} {op : D → List D → Py D} : Post (eMt T op fa ff ρ M) Q E ↔ Post (fa ρ M) (fun o M1 => Post (tyChk T o M1) (fun _ M2 => Post (ff ρ M2) (fun ds M3 => Post (op o ds M3) Q E) E) E) E := by
  unfold eMt; simp only [post_bnd]
@[simp] theorem p_eMt0 {T : String} {op : D → List D → Py D} : Post (eMt0 T op fa ρ M) Q E ↔ Post (fa ρ M) (fun o M1 => Post (tyChk T o M1) (fun _ M2 => Post (op o [] M2) Q E) E) E := by
  unfold eMt0; simp only [post_bnd]
/-! same -/
@[simp] theorem p_eq_str {neg : Bool} {a b : Str} : Post (eqS neg (.str a) (.str b) M) Q E ↔ Q (.bl (if neg then !decide (a = b) else decide (a = b))) M := Iff.rfl
theorem p_eqP {neg : Bool} {x y : D} {p q : PyData} (hx : pyM M x = some p) (hy : pyM M y = some q) (sp : SeqAt.shaped p = true) (sq : SeqAt.shaped q = true) : Post (eqP neg x y M) Q E ↔ Q (.bl (if neg then !PyData.eqv p q else PyData.eqv p q)) M := by
  unfold eqP; rw [hx, hy]; dsimp only; rw [sp, sq]; exact Iff.rfl
@[simp] theorem p_eq_int {neg : Bool} : Post (eqS neg (.int i) (.int j) M) Q E ↔ Q (.bl (if neg then !decide (i = j) else decide (i = j))) M := by
  have e : PyData.eqv (.int i) (.int j) = decide (i = j) := by
    simp only [PyData.eqv]; rfl
  rw [← e]
  exact p_eqP (x := .int i) (y := .int j) rfl rfl rfl rfl
@[simp] theorem p_eq_bl {neg a b : Bool} : Post (eqS neg (.bl a) (.bl b) M) Q E ↔ Q (.bl (if neg then !decide (a = b) else decide (a = b))) M := by
  have e : PyData.eqv (.bool a) (.bool b) = decide (a = b) := by
    simp only [PyData.eqv]; cases a <;> cases b <;> rfl
  rw [← e]
  exact p_eqP (x := .bl a) (y := .bl b) rfl rfl rfl rfl
/-! kinds -/
def tyD : D → Option String
  | .non => some "NoneType"
  | .bl _ => some "bool"
  | .int _ => some "int"
  | .str _ => some "str"
  | .tup _ => some "tuple"
  | .lst _ => some "list"
  | .ro _ => some "list"
  | .dk _ => some "dict"
  | _ => none
theorem tyN_of {t : String} (h : tyD d = some t) : tyN M d = some t := by cases d <;> first | exact h | cases h
theorem p_isi {T t : String} (hT : allTs.contains T = true) (h : tyD d = some t) : Post (isiTs allTs d (.ty T) M) Q E ↔ Q (.bl (isT T t)) M := by
  have e : isiTs allTs d (.ty T) = isiD d (.ty T) := by
    show (if allTs.contains T = true then isiD d (.ty T) else Py.bad) = _
    rw [if_pos hT]
  have e2 : isiD d (.ty T) M = .ok (.bl (isT T t)) M := by
    unfold isiD
    rw [tyN_of h]
  rw [e, e2]
  exact Iff.rfl
theorem p_isiL {T : String} (hT : allTs.contains T = true) (h : M[n]? = some (some (.lst xs))) : Post (isiTs allTs (.loc n) (.ty T) M) Q E ↔ Q (.bl (isT T "list")) M := by
  have e : isiTs allTs (.loc n) (.ty T) = isiD (.loc n) (.ty T) := by
    show (if allTs.contains T = true then isiD (.loc n) (.ty T) else Py.bad) = _
    rw [if_pos hT]
  have e1 : tyN M (.loc n) = some "list" := by unfold tyN; simp only [h]
  have e2 : isiD (.loc n) (.ty T) M = .ok (.bl (isT T "list")) M := by
    unfold isiD
    rw [e1]
  rw [e, e2]
  exact Iff.rfl
/-! slices -/
@[simp] theorem p_oNone : Post (oNone ρ M) QO E ↔ QO none M := Iff.rfl
@[simp] theorem p_toI : Post (toI (.int i) M) QO E ↔ QO (some i) M := Iff.rfl
@[simp] theorem p_oSome : Post (oSome fa ρ M) QO E ↔ Post (fa ρ M) (fun d M1 => Post (toI d M1) QO E) E := by
  unfold oSome; rw [post_bnd]
@[simp] theorem p_eSl {fl fh : DEnv → Py (Option Int)} : Post (eSl fa fl fh ρ M) Q E ↔ Post (fa ρ M) (fun x M1 => Post (fl ρ M1) (fun lo M2 => Post (fh ρ M2) (fun hi M3 => Post (slD x lo hi M3) Q E) E) E) E := by
  unfold eSl; simp only [post_bnd]
@[simp] theorem p_sl_tup {lo hi : Option Int} : Post (slD (.tup xs) lo hi M) Q E ↔ Q (.tup (cutD xs lo hi)) M := Iff.rfl
@[simp] theorem p_sl_lst {lo hi : Option Int} : Post (slD (.lst xs) lo hi M) Q E ↔ Q (.lst (cutD xs lo hi)) M := Iff.rfl
@[simp] theorem p_sl_ro {lo hi : Option Int} : Post (slD (.ro xs) lo hi M) Q E ↔ Q (.lst (cutD xs lo hi)) M := Iff.rfl
@[simp] theorem p_tup_tup : Post (tupD (.tup xs) M) Q E ↔ Q (.tup xs) M := Iff.rfl
@[simp] theorem p_tup_lst : Post (tupD (.lst xs) M) Q E ↔ Q (.tup xs) M := Iff.rfl
@[simp] theorem p_tup_l : Post (tupD (.loc n) M) Q E ↔ LocL M n fun xs => Q (.tup xs) M := by
  unfold tupD litems; simp only [post_bnd, p_items_l]; exact Iff.rfl
@[simp] theorem p_lst_tup : Post (lstD (.tup xs) M) Q E ↔ Q (.lst xs) M := Iff.rfl
@[simp] theorem p_lst_lst : Post (lstD (.lst xs) M) Q E ↔ Q (.lst xs) M := Iff.rfl
@[simp] theorem p_eRev : Post (eRev fa ρ M) Q E ↔ Post (fa ρ M) (fun d M1 => Post (revD d M1) Q E) E := by
  unfold eRev; rw [post_bnd]
@[simp] theorem p_rev_tup : Post (revD (.tup xs) M) Q E ↔ Q (.tup xs.reverse) M := Iff.rfl
/-! flags of lists -/
theorem blsOf_map {α : Type} (f : α → D) (p : α → Bool) : ∀ l : List α, (∀ x ∈ l, f x = .bl (p x)) → blsOf (l.map f) = some (l.map p)
  | [], _ => rfl
  | x :: l, h => by
    rw [List.map_cons, h x (List.mem_cons_self ..)]
    show (blsOf (l.map f)).map _ = _
    rw [blsOf_map f p l fun y hy => h y (List.mem_cons_of_mem _ hy)]
    rfl
theorem p_bls {α : Type} {g : List Bool → Bool} {p : α → Bool} {l : List α} : Post (blsD g (.lst (l.map fun x => D.bl (p x))) M) Q E ↔ Q (.bl (g (l.map p))) M := by
  unfold blsD litems items
  dsimp only
  rw [post_bnd]
  show Post ((match blsOf (l.map fun x => D.bl (p x)) with | some bs => Py.ret (.bl (g bs)) | none => Py.bad : Py D) M) Q E ↔ _
  rw [blsOf_map (fun x => D.bl (p x)) p l fun _ _ => rfl]
  exact Iff.rfl
/-! targets -/
@[simp] theorem p_noX {α : Type} {m : Py α} {R : α → Store → Prop} : Post (noX m M) R E ↔ Post (m M) R (fun _ _ => False) := by
  unfold noX
  cases m M <;> exact Iff.rfl
@[simp] theorem p_gSet : Post (gSet n d ρ M) QR E ↔ QR (ρ.set n (some d)) M := Iff.rfl
@[simp] theorem p_gsNil : Post (gsNil [] ρ M) QR E ↔ QR ρ M := Iff.rfl
@[simp] theorem p_gsCons {f : D → DEnv → Py DEnv} {r : List D → DEnv → Py DEnv} : Post (gsCons f r (d :: xs) ρ M) QR E ↔ Post (f d ρ M) (fun ρ' M' => Post (r xs ρ' M') QR E) E := by
  unfold gsCons; dsimp only; rw [post_bnd]
@[simp] theorem p_gUnp {k : Nat} {f : List D → DEnv → Py DEnv} : Post (gUnp k f (.tup xs) ρ M) QR E ↔ xs.length = k ∧ Post (f xs ρ M) QR (fun _ _ => False) := by
  unfold gUnp; dsimp only; rw [post_chk, p_noX]
/-! what is walked -/
@[simp] theorem p_iSeq {wk : D → Py Wk} : Post (iSeq wk fa ρ M) QW E ↔ Post (fa ρ M) (fun d M1 => Post (wk d M1) QW E) E := by
  unfold iSeq; rw [post_bnd]
@[simp] theorem p_wkA_tup : Post (wkA (.tup xs) M) QW E ↔ QW ⟨xs, fun _ => True⟩ M := Iff.rfl
@[simp] theorem p_wkA_lst : Post (wkA (.lst xs) M) QW E ↔ QW ⟨xs, fun _ => True⟩ M := Iff.rfl
@[simp] theorem p_wkA_ro : Post (wkA (.ro xs) M) QW E ↔ QW ⟨xs, fun _ => True⟩ M := Iff.rfl
@[simp] theorem p_wkLT_tup : Post (wkLT (.tup xs) M) QW E ↔ QW ⟨xs, fun _ => True⟩ M := Iff.rfl
@[simp] theorem p_wkLT_lst : Post (wkLT (.lst xs) M) QW E ↔ QW ⟨xs, fun _ => True⟩ M := Iff.rfl
@[simp] theorem p_rng1 : Post (iRng1D ff ρ M) QW E ↔ Post (ff ρ M) (fun ds M1 => Post (rngW1 ds M1) QW E) E := by
  unfold iRng1D; rw [post_bnd]
@[simp] theorem p_rngW1 : Post (rngW1 [.int j] M) QW E ↔ (-(2 ^ 62) ≤ j ∧ j < 2 ^ 62) ∧ QW ⟨rngD 0 j, fun _ => True⟩ M := post_chk
@[simp] theorem p_rng2 : Post (iRng2D ff ρ M) QW E ↔ Post (ff ρ M) (fun ds M1 => Post (rngW2 ds M1) QW E) E := by
  unfold iRng2D; rw [post_bnd]
@[simp] theorem p_rngW2 : Post (rngW2 [.int i, .int j] M) QW E ↔ (-(2 ^ 62) ≤ i ∧ i < 2 ^ 62 ∧ -(2 ^ 62) ≤ j ∧ j < 2 ^ 62) ∧ QW ⟨rngD i j, fun _ => True⟩ M := post_chk
@[simp] theorem p_enum {wk : D → Py Wk} : Post (iEnumD wk ff ρ M) QW E ↔ Post (ff ρ M) (fun ds M1 => Post (wkEnum wk ds M1) QW E) E := by
  unfold iEnumD; rw [post_bnd]
@[simp] theorem p_wkEnum {wk : D → Py Wk} : Post (wkEnum wk [d] M) QW E ↔ Post (wk d M) (fun w M1 => QW ⟨enumD 0 w.ds, w.ok⟩ M1) E := by
  unfold wkEnum; dsimp only; rw [post_bnd]; exact Iff.rfl
theorem rngD_len : (rngD i j).length = (j - i).toNat := by unfold rngD; simp
theorem enumD_len : ∀ (k : Nat) (l : List D), (enumD k l).length = l.length
  | _, [] => rfl
  | k, d :: l => by show (enumD (k + 1) l).length + 1 = _; rw [enumD_len]; rfl
/-- a loop -/
@[simp] theorem p_sFor {it : DEnv → Py Wk} {tg : D → DEnv → Py DEnv} {body : DEnv → Py Fl} : Post (sFor it tg body ρ M) QF E ↔ Post (it ρ M) (fun w M1 => Post (forD w.ok tg body w.ds ρ M1) QF E) E := by
  unfold sFor; rw [post_bnd]
/-- one turn -/
def turnF (I : DEnv → Store → Prop) (QF : Fl → Store → Prop) : Fl → Store → Prop
  | .nx ρ, M => I ρ M
  | .ct ρ, M => I ρ M
  | .bk ρ, M => QF (.nx ρ) M
  | .rt v, M => QF (.rt v) M
@[simp] theorem turnF_nx {I : DEnv → Store → Prop} : turnF I QF (.nx ρ) M ↔ I ρ M := Iff.rfl
@[simp] theorem turnF_ct {I : DEnv → Store → Prop} : turnF I QF (.ct ρ) M ↔ I ρ M := Iff.rfl
@[simp] theorem turnF_bk {I : DEnv → Store → Prop} : turnF I QF (.bk ρ) M ↔ QF (.nx ρ) M := Iff.rfl
@[simp] theorem turnF_rt {I : DEnv → Store → Prop} : turnF I QF (.rt d) M ↔ QF (.rt d) M := Iff.rfl
theorem okM_true {α : Type} {ok : Store → Prop} {k : Py α} (h : ok M) : okM ok k M = k M := by unfold okM; rw [if_pos h]
theorem forD_from {ok : Store → Prop} {tg : D → DEnv → Py DEnv} {body : DEnv → Py Fl} {all : List D} (I : Nat → DEnv → Store → Prop) (hok : ∀ k ρ M, I k ρ M → ok M)
    (step : ∀ (k : Nat) (d : D) ρ M, all[k]? = some d → I k ρ M → Post (tg d ρ M) (fun ρ1 M1 => Post (body ρ1 M1) (turnF (I (k + 1)) QF) E) E)
    (done : ∀ ρ M, I all.length ρ M → QF (.nx ρ) M) : ∀ (l : List D) (k : Nat) (ρ : DEnv) (M : Store), k + l.length = all.length → all.drop k = l → I k ρ M → Post (forD ok tg body l ρ M) QF E
  | [], k, ρ, M, ek, e, h => by
    unfold forD
    rw [okM_true (hok _ _ _ h)]
    have hk : k = all.length := by simpa using ek
    subst hk
    exact done ρ M h
  | d :: l, k, ρ, M, ek, e, h => by
    unfold forD
    rw [okM_true (hok _ _ _ h)]
    have hd : all[k]? = some d := by
      have h0 : (all.drop k)[0]? = some d := by rw [e]; rfl
      rwa [List.getElem?_drop, Nat.add_zero] at h0
    have el : all.drop (k + 1) = l := by
      rw [← List.drop_drop, e]; rfl
    refine post_bnd.mpr ((step k d ρ M hd h).imp fun ρ1 M1 h1 => post_bnd.mpr (h1.imp fun r M2 h2 => ?_))
    have ek2 : k + 1 + l.length = all.length := by rw [← ek, List.length_cons]; omega
    cases r with
    | nx ρ' => exact forD_from I hok step done l (k + 1) ρ' M2 ek2 el h2
    | ct ρ' => exact forD_from I hok step done l (k + 1) ρ' M2 ek2 el h2
    | bk ρ' => exact h2
    | rt v => exact h2
/-- a loop by what stands ahead of each turn -/
theorem for_rule {ok : Store → Prop} {tg : D → DEnv → Py DEnv} {body : DEnv → Py Fl} {all : List D} (I : Nat → DEnv → Store → Prop) (hok : ∀ k ρ M, I k ρ M → ok M)
    (h : I 0 ρ M)
    (step : ∀ (k : Nat) (d : D) ρ M, all[k]? = some d → I k ρ M → Post (tg d ρ M) (fun ρ1 M1 => Post (body ρ1 M1) (turnF (I (k + 1)) QF) E) E)
    (done : ∀ ρ M, I all.length ρ M → QF (.nx ρ) M) : Post (forD ok tg body all ρ M) QF E := forD_from I hok step done all 0 ρ M (by omega) rfl h
/-- a comprehension by what stands ahead of each turn -/
theorem lc_from {ok : Store → Prop} {tg : D → DEnv → Py DEnv} {tt : DEnv → Py Bool} {fe : DEnv → Py D} {all : List D} (I : Nat → List D → Store → Prop) (hok : ∀ k acc M, I k acc M → ok M)
    (step : ∀ (k : Nat) (d : D) acc M, all[k]? = some d → I k acc M → Post (tg d ρ M) (fun ρ1 M1 => Post (tt ρ1 M1) (fun b M2 => if b = true then Post (fe ρ1 M2) (fun y M3 => acc.length < sizeLine ∧ I (k + 1) (acc ++ [y]) M3) E else I (k + 1) acc M2) E) E)
    (done : ∀ acc M, I all.length acc M → QL acc M) : ∀ (l : List D) (k : Nat) (acc : List D) (M : Store), k + l.length = all.length → all.drop k = l → I k acc M → Post (lcD ok tg tt fe ρ l acc M) QL E
  | [], k, acc, M, ek, e, h => by
    unfold lcD
    rw [okM_true (hok _ _ _ h)]
    have hk : k = all.length := by simpa using ek
    subst hk
    exact done acc M h
  | d :: l, k, acc, M, ek, e, h => by
    unfold lcD
    rw [okM_true (hok _ _ _ h)]
    have hd : all[k]? = some d := by
      have h0 : (all.drop k)[0]? = some d := by rw [e]; rfl
      rwa [List.getElem?_drop, Nat.add_zero] at h0
    have el : all.drop (k + 1) = l := by
      rw [← List.drop_drop, e]; rfl
    have ek2 : k + 1 + l.length = all.length := by rw [← ek, List.length_cons]; omega
    refine post_bnd.mpr ((step k d acc M hd h).imp fun ρ1 M1 h1 => post_bnd.mpr (h1.imp fun b M2 h2 => ?_))
    cases b with
    | false => exact lc_from I hok step done l (k + 1) acc M2 ek2 el h2
    | true => exact post_bnd.mpr (Post.imp h2 fun y M3 h3 => post_chk.mpr ⟨h3.1, lc_from I hok step done l (k + 1) (acc ++ [y]) M3 ek2 el h3.2⟩)
@[simp] theorem p_eLcA {fr : List D → Py D} {lc : DEnv → Py (List D)} : Post (eLcA fr lc ρ M) Q E ↔ Post (lc ρ M) (fun ds M1 => Post (fr ds M1) Q E) E := by
  unfold eLcA; rw [post_bnd]
@[simp] theorem p_frF : Post (frF xs M) Q E ↔ Q (.lst xs) M := Iff.rfl
@[simp] theorem p_frN : Post (frN xs M) Q E ↔ Q (.loc M.length) (M ++ [some (.lst xs)]) := Iff.rfl
@[simp] theorem p_sLc {fr : List D → Py D} {lc : DEnv → Py (List D)} : Post (sLc n fr lc ρ M) QF E ↔ Post (lc ρ M) (fun ds M1 => Post (fr ds M1) (fun d M2 => QF (.nx (ρ.set n (some d))) M2) E) E := by
  unfold sLc; simp only [post_bnd]; exact Iff.rfl
@[simp] theorem p_lcAll {vs : List Nat} {it : DEnv → Py Wk} {tg : D → DEnv → Py DEnv} {tt : DEnv → Py Bool} {fe : DEnv → Py D} : Post (lcAll vs it tg tt fe ρ M) QL E ↔ Post (it ρ M) (fun w M1 => Post (lcD w.ok tg tt fe (wipeD ρ vs) w.ds [] M1) QL (fun _ _ => False)) E := by
  unfold lcAll; rw [post_bnd]; simp only [p_noX]
/-- one that changes nothing -/
theorem lc_pure {ok : Store → Prop} {tg : D → DEnv → Py DEnv} {tt : DEnv → Py Bool} {fe : DEnv → Py D} {l : List D} (p : D → Bool) (f : D → D) (hok : ok M) (hz : l.length ≤ sizeLine)
    (h : ∀ d ∈ l, Post (tg d ρ M) (fun ρ1 M1 => Post (tt ρ1 M1) (fun b M2 => b = p d ∧ if p d = true then Post (fe ρ1 M2) (fun y M3 => M3 = M ∧ y = f d) E else M2 = M) E) E)
    (q : QL ((l.filter p).map f) M) : Post (lcD ok tg tt fe ρ l [] M) QL E := by
  refine lc_from (all := l) (fun k acc M' => M' = M ∧ acc = ((l.take k).filter p).map f) (fun k acc M' z => z.1 ▸ hok) (fun k d acc M' hd z => ?_) (fun acc M' z => ?_) l 0 [] M (by omega) rfl ⟨rfl, rfl⟩
  · obtain ⟨rfl, rfl⟩ := z
    have hk : k < l.length := (List.getElem?_eq_some_iff.mp hd).1
    have et : l.take (k + 1) = l.take k ++ [d] := by rw [List.take_succ, hd]; rfl
    refine (h d (List.mem_of_getElem? hd)).imp fun ρ1 M1 h1 => h1.imp fun b M2 h2 => ?_
    obtain ⟨rfl, h3⟩ := h2
    by_cases hp : p d = true
    · rw [if_pos hp] at h3 ⊢
      refine Post.imp h3 fun y M3 h4 => ?_
      obtain ⟨rfl, rfl⟩ := h4
      refine ⟨?_, rfl, ?_⟩
      · have h5 : (((l.take k).filter p).map f).length ≤ k := by
          rw [List.length_map]
          exact Nat.le_trans (List.length_filter_le ..) (by rw [List.length_take]; omega)
        omega
      · rw [et, List.filter_append, List.map_append, List.filter_cons_of_pos hp]; rfl
    · rw [if_neg hp] at h3 ⊢
      subst h3
      refine ⟨rfl, ?_⟩
      rw [et, List.filter_append, List.filter_cons_of_neg hp, List.filter_nil, List.append_nil]
  · obtain ⟨rfl, rfl⟩ := z
    rw [List.take_length]
    exact q
/-- .. without a test -/
theorem lc_map {ok : Store → Prop} {tg : D → DEnv → Py DEnv} {fe : DEnv → Py D} {l : List D} (f : D → D) (hok : ok M) (hz : l.length ≤ sizeLine)
    (h : ∀ d ∈ l, Post (tg d ρ M) (fun ρ1 M1 => Post (fe ρ1 M1) (fun y M3 => M3 = M ∧ y = f d) E) E)
    (q : QL (l.map f) M) : Post (lcD ok tg tYesD fe ρ l [] M) QL E := by
  refine lc_pure (fun _ => true) f hok hz (fun d hd => (h d hd).imp fun ρ1 M1 h1 => ?_) ?_
  · show Post (tYesD ρ1 M1) _ _
    rw [p_tYes]
    exact ⟨rfl, h1⟩
  · rw [List.filter_eq_self.mpr fun _ _ => rfl]
    exact q
/-- one that draws: each item by its place -/
theorem lc_draw {ok : Store → Prop} {tg : D → DEnv → Py DEnv} {fe : DEnv → Py D} {l : List D} (J : Store → Prop) (P : Nat → D → Prop) (hok : ∀ M, J M → ok M) (hz : l.length ≤ sizeLine) (hJ : J M)
    (h : ∀ (k : Nat) (d : D) M, l[k]? = some d → J M → Post (tg d ρ M) (fun ρ1 M1 => Post (fe ρ1 M1) (fun y M3 => J M3 ∧ P k y) E) E)
    (q : ∀ zs M', J M' → zs.length = l.length → (∀ (k : Nat) (y : D), zs[k]? = some y → P k y) → QL zs M') : Post (lcD ok tg tYesD fe ρ l [] M) QL E := by
  refine lc_from (all := l) (fun k acc M' => J M' ∧ acc.length = k ∧ ∀ (m : Nat) (y : D), acc[m]? = some y → P m y) (fun k acc M' z => hok _ z.1) (fun k d acc M' hd z => ?_) (fun acc M' z => q acc M' z.1 z.2.1 z.2.2) l 0 [] M (by omega) rfl ⟨hJ, rfl, fun m y e => by simp at e⟩
  obtain ⟨zJ, zl, zP⟩ := z
  have hk : k < l.length := (List.getElem?_eq_some_iff.mp hd).1
  refine (h k d M' hd zJ).imp fun ρ1 M1 h1 => ?_
  show Post (tYesD ρ1 M1) _ _
  rw [p_tYes, if_pos rfl]
  refine Post.imp h1 fun y M3 h4 => ⟨by omega, h4.1, by rw [List.length_append, zl]; rfl, fun m y' e => ?_⟩
  rcases getElem?_snoc acc y m y' e with e | ⟨e1, e2⟩
  · exact zP m y' e
  · subst e2; rw [e1, zl]; exact h4.2
end
end L3
set_option Elab.async false
set_option linter.all false
set_option maxRecDepth 100000
set_option maxHeartbeats 4000000
set_option autoImplicit false
namespace L3
open PySem PySem.Spec L2
open PyProof.Rows hiding St
@[simp] theorem atP_0 {a0 : D} {xs : List D} {P : D → Prop} : AtP (a0 :: xs) 0 P ↔ P a0 := by
  rw [show ((0 : Int)) = ((0 : Nat) : Int) from rfl, atP_nat (by simp only [List.length_cons]; omega)]
  exact Iff.rfl
@[simp] theorem ixN_0 {n : Nat} : ixN (n + 1) 0 = some 0 := by
  rw [show ((0 : Int)) = ((0 : Nat) : Int) from rfl, ixN_nat (by omega)]
@[simp] theorem atP_1 {a0 a1 : D} {xs : List D} {P : D → Prop} : AtP (a0 :: a1 :: xs) 1 P ↔ P a1 := by
  rw [show ((1 : Int)) = ((1 : Nat) : Int) from rfl, atP_nat (by simp only [List.length_cons]; omega)]
  exact Iff.rfl
@[simp] theorem ixN_1 {n : Nat} : ixN (n + 2) 1 = some 1 := by
  rw [show ((1 : Int)) = ((1 : Nat) : Int) from rfl, ixN_nat (by omega)]
@[simp] theorem atP_2 {a0 a1 a2 : D} {xs : List D} {P : D → Prop} : AtP (a0 :: a1 :: a2 :: xs) 2 P ↔ P a2 := by
  rw [show ((2 : Int)) = ((2 : Nat) : Int) from rfl, atP_nat (by simp only [List.length_cons]; omega)]
  exact Iff.rfl
@[simp] theorem ixN_2 {n : Nat} : ixN (n + 3) 2 = some 2 := by
  rw [show ((2 : Int)) = ((2 : Nat) : Int) from rfl, ixN_nat (by omega)]
@[simp] theorem atP_3 {a0 a1 a2 a3 : D} {xs : List D} {P : D → Prop} : AtP (a0 :: a1 :: a2 :: a3 :: xs) 3 P ↔ P a3 := by
  rw [show ((3 : Int)) = ((3 : Nat) : Int) from rfl, atP_nat (by simp only [List.length_cons]; omega)]
  exact Iff.rfl
@[simp] theorem ixN_3 {n : Nat} : ixN (n + 4) 3 = some 3 := by
  rw [show ((3 : Int)) = ((3 : Nat) : Int) from rfl, ixN_nat (by omega)]
@[simp] theorem atP_4 {a0 a1 a2 a3 a4 : D} {xs : List D} {P : D → Prop} : AtP (a0 :: a1 :: a2 :: a3 :: a4 :: xs) 4 P ↔ P a4 := by
  rw [show ((4 : Int)) = ((4 : Nat) : Int) from rfl, atP_nat (by simp only [List.length_cons]; omega)]
  exact Iff.rfl
@[simp] theorem ixN_4 {n : Nat} : ixN (n + 5) 4 = some 4 := by
  rw [show ((4 : Int)) = ((4 : Nat) : Int) from rfl, ixN_nat (by omega)]
@[simp] theorem atP_5 {a0 a1 a2 a3 a4 a5 : D} {xs : List D} {P : D → Prop} : AtP (a0 :: a1 :: a2 :: a3 :: a4 :: a5 :: xs) 5 P ↔ P a5 := by
  rw [show ((5 : Int)) = ((5 : Nat) : Int) from rfl, atP_nat (by simp only [List.length_cons]; omega)]
  exact Iff.rfl
@[simp] theorem ixN_5 {n : Nat} : ixN (n + 6) 5 = some 5 := by
  rw [show ((5 : Int)) = ((5 : Nat) : Int) from rfl, ixN_nat (by omega)]

@[simp] theorem sizeLine_eq : sizeLine = 16777216 := rfl
/-- what a draw leaves -/
def Pot (n : Nat) (M : Store) : Prop := ∃ (cs : List Int) (a b c d : Int), M[n]? = some (some (.lst [.lst (cs.map .int), .int a, .int b, .int c, .int d])) ∧ 0 ≤ a
theorem pot_set {n : Nat} {M : Store} {cs : List Int} {a b c d : Int} (hn : n < M.length) : Pot n (M.set n (some (.lst [.lst (cs.map .int), .int a, .int b, .int c, .int d]))) ↔ 0 ≤ a := by
  constructor
  · rintro ⟨cs', a', b', c', d', e, h⟩
    rw [List.getElem?_set_self hn] at e
    injection e with e; injection e with e; injection e with e
    simp at e
    obtain ⟨_, rfl, _⟩ := e
    exact h
  · intro h
    exact ⟨cs, a, b, c, d, by rw [List.getElem?_set_self hn], h⟩
theorem atP_ints {cs : List Int} {a : Int} (h0 : 0 ≤ a) (h1 : a < cs.length) : ∃ x : Int, ∀ P : D → Prop, AtP (cs.map D.int) a P ↔ P (.int x) := by
  have hk : a.toNat < cs.length := by omega
  refine ⟨cs[a.toNat], fun P => ?_⟩
  rw [atP_int h0 (by rw [List.length_map]; exact h1)]
  simp [hk]

section
variable {Q : D → Store → Prop} {E : Exn → Store → Prop} {M : Store} {T : String}
@[simp] theorem post_ok {α : Type} {a : α} {R : α → Store → Prop} : Post (.ok a M) R E ↔ R a M := Iff.rfl
theorem ok_of {α : Type} {o : Out α} {a : α} (h : Post o (fun r M' => r = a ∧ M' = M) fun _ _ => False) : o = .ok a M := by
  cases o with
  | ok b M' => obtain ⟨rfl, rfl⟩ := h; rfl
  | exc e M' => exact h.elim
  | bad => exact h.elim
/-- a type that is told -/
def isIn (T : String) : Prop := allTs.contains T = true
@[simp] theorem isIn_int : isIn "int" := (by decide : allTs.contains _ = true)
@[simp] theorem isIn_bool : isIn "bool" := (by decide : allTs.contains _ = true)
@[simp] theorem isIn_str : isIn "str" := (by decide : allTs.contains _ = true)
@[simp] theorem isIn_tuple : isIn "tuple" := (by decide : allTs.contains _ = true)
@[simp] theorem isIn_list : isIn "list" := (by decide : allTs.contains _ = true)
@[simp] theorem isIn_dict : isIn "dict" := (by decide : allTs.contains _ = true)
theorem isi_no {d : D} (h : ¬ allTs.contains T = true) : Post (isiTs allTs d (.ty T) M) Q E ↔ False := by
  have e : isiTs allTs d (.ty T) = Py.bad := by
    show (if allTs.contains T = true then isiD d (.ty T) else Py.bad) = _
    rw [if_neg h]
  rw [e]; exact Iff.rfl
theorem isi_iff {d : D} {t : String} (h : tyD d = some t) : Post (isiTs allTs d (.ty T) M) Q E ↔ isIn T ∧ Q (.bl (isT T t)) M := by
  by_cases hT : allTs.contains T = true
  · rw [p_isi hT h]; exact ⟨fun z => ⟨hT, z⟩, fun z => z.2⟩
  · rw [isi_no hT]; exact ⟨fun z => z.elim, fun z => hT z.1⟩
@[simp] theorem isi_non : Post (isiTs allTs .non (.ty T) M) Q E ↔ isIn T ∧ Q (.bl (isT T "NoneType")) M := isi_iff rfl
@[simp] theorem isi_bl {b : Bool} : Post (isiTs allTs (.bl b) (.ty T) M) Q E ↔ isIn T ∧ Q (.bl (isT T "bool")) M := isi_iff rfl
@[simp] theorem isi_int {i : Int} : Post (isiTs allTs (.int i) (.ty T) M) Q E ↔ isIn T ∧ Q (.bl (isT T "int")) M := isi_iff rfl
@[simp] theorem isi_str {z : Str} : Post (isiTs allTs (.str z) (.ty T) M) Q E ↔ isIn T ∧ Q (.bl (isT T "str")) M := isi_iff rfl
@[simp] theorem isi_tup {xs : List D} : Post (isiTs allTs (.tup xs) (.ty T) M) Q E ↔ isIn T ∧ Q (.bl (isT T "tuple")) M := isi_iff rfl
@[simp] theorem isi_lst {xs : List D} : Post (isiTs allTs (.lst xs) (.ty T) M) Q E ↔ isIn T ∧ Q (.bl (isT T "list")) M := isi_iff rfl
@[simp] theorem isi_dk {xs : List (Key × D)} : Post (isiTs allTs (.dk xs) (.ty T) M) Q E ↔ isIn T ∧ Q (.bl (isT T "dict")) M := isi_iff rfl
end
theorem ofString_inj {a b : String} : Str.ofString a = Str.ofString b ↔ a = b := by
  constructor
  · intro h
    rw [Str.ofString_eq_toList, Str.ofString_eq_toList] at h
    have h2 : (a.toList.map Char.toNat).toArray = (b.toList.map Char.toNat).toArray := congrArg Str.cps h
    have h3 : a.toList.map Char.toNat = b.toList.map Char.toNat := by simpa using congrArg Array.toList h2
    have h4 : a.toList = b.toList := List.map_inj_right (fun x y e => Char.toNat_inj.mp e) |>.mp h3
    exact String.toList_inj.mp h4
  · rintro rfl; rfl
theorem cutD_map {α : Type} {f : α → D} {ns : List α} {lo hi : Option Int} : cutD (ns.map f) lo hi = ((ns.drop (HT.sIx ns.length 0 lo)).take (HT.sIx ns.length ns.length hi - HT.sIx ns.length 0 lo)).map f := by
  unfold cutD
  rw [List.length_map, List.map_take, List.map_drop]
theorem cutD_mem {xs : List D} {lo hi : Option Int} {d : D} (h : d ∈ cutD xs lo hi) : d ∈ xs := List.mem_of_mem_drop (List.mem_of_mem_take h)
theorem cutD_len {xs : List D} {lo hi : Option Int} : (cutD xs lo hi).length ≤ xs.length := by
  unfold cutD
  rw [List.length_take, List.length_drop]
  omega
@[simp] theorem wipeD_nil {ρ : DEnv} : wipeD ρ [] = ρ := rfl
@[simp] theorem wipeD_cons {ρ : DEnv} {i : Nat} {r : List Nat} : wipeD ρ (i :: r) = (wipeD ρ r).set i none := rfl
def SomeP {α : Type} (o : Option α) (P : α → Prop) : Prop := match o with
  | some a => P a
  | none => False
@[simp] theorem someP_some {α : Type} {a : α} {P : α → Prop} : SomeP (some a) P ↔ P a := Iff.rfl
@[simp] theorem someP_none {α : Type} {P : α → Prop} : SomeP none P ↔ False := Iff.rfl
@[simp] theorem strsOf_nil : strsOf [] = some [] := rfl
@[simp] theorem strsOf_cons {z : Str} {r : List D} : strsOf (.str z :: r) = (strsOf r).map fun zs => z :: zs := rfl
section
variable {Q : D → Store → Prop} {E : Exn → Store → Prop} {M : Store} {x : D} {ys : List D} {neg : Bool}
theorem p_inT {M : Store} : Post ((match strsOf ys with
  | some zs => if plnD M x = true then .ok (.bl (if neg then !zs.any (isS x) else zs.any (isS x))) M else .bad
  | none => .bad : Out D)) Q E ↔ SomeP (strsOf ys) fun zs => plnD M x = true ∧ Q (.bl (if neg then !zs.any (isS x) else zs.any (isS x))) M := by
  cases strsOf ys with
  | none => exact Iff.rfl
  | some zs =>
    dsimp only
    by_cases h2 : plnD M x = true
    · rw [if_pos h2]; exact ⟨fun z => ⟨h2, z⟩, fun z => z.2⟩
    · rw [if_neg h2]; exact ⟨fun z => z.elim, fun z => h2 z.1⟩
@[simp] theorem p_inT_tup : Post (inTD neg x (.tup ys) M) Q E ↔ SomeP (strsOf ys) fun zs => plnD M x = true ∧ Q (.bl (if neg then !zs.any (isS x) else zs.any (isS x))) M := post_bnd.trans p_inT
@[simp] theorem p_inT_lst : Post (inTD neg x (.lst ys) M) Q E ↔ SomeP (strsOf ys) fun zs => plnD M x = true ∧ Q (.bl (if neg then !zs.any (isS x) else zs.any (isS x))) M := post_bnd.trans p_inT
@[simp] theorem pln_non : plnD M .non = true := rfl
@[simp] theorem pln_bl {b : Bool} : plnD M (.bl b) = true := rfl
@[simp] theorem pln_int {b : Int} : plnD M (.int b) = true := rfl
@[simp] theorem pln_str {b : Str} : plnD M (.str b) = true := rfl
@[simp] theorem pln_tup {b : List D} : plnD M (.tup b) = true := rfl
@[simp] theorem pln_lst {b : List D} : plnD M (.lst b) = true := rfl
@[simp] theorem pln_dk {b : List (Key × D)} : plnD M (.dk b) = true := rfl
@[simp] theorem isS_str {a z : Str} : isS (.str a) z = (z == a) := rfl
end
@[simp] theorem blsOf_nil : blsOf [] = some [] := rfl
@[simp] theorem blsOf_cons {b : Bool} {r : List D} : blsOf (.bl b :: r) = (blsOf r).map fun bs => b :: bs := rfl
@[simp] theorem blsOf_mapB {α : Type} {p : α → Bool} {l : List α} : blsOf (l.map fun x => D.bl (p x)) = some (l.map p) := blsOf_map _ p l fun _ _ => rfl
theorem p_blsK {g : List Bool → Bool} {Q : D → Store → Prop} {E : Exn → Store → Prop} {M : Store} {ds : List D} : Post ((match blsOf ds with | some bs => Py.ret (.bl (g bs)) | none => Py.bad : Py D) M) Q E ↔ SomeP (blsOf ds) fun bs => Q (.bl (g bs)) M := by
  cases blsOf ds <;> exact Iff.rfl
@[simp] theorem p_blsL {g : List Bool → Bool} {Q : D → Store → Prop} {E : Exn → Store → Prop} {M : Store} {ds : List D} : Post (blsD g (.lst ds) M) Q E ↔ SomeP (blsOf ds) fun bs => Q (.bl (g bs)) M := post_bnd.trans p_blsK
/-- the magnitude of a number -/
def absI : D → D
  | .int i => .int (if i < 0 then -i else i)
  | d => d
/-- data without things that change -/
inductive Dat (n : Nat) : D → Prop
  | non : Dat n .non
  | bl (b : Bool) : Dat n (.bl b)
  | int (i : Int) : Dat n (.int i)
  | str (z : Str) : Dat n (.str z)
  | tup {xs : List D} : xs.length ≤ n → (∀ d ∈ xs, Dat n d) → Dat n (.tup xs)
  | lst {xs : List D} : xs.length ≤ n → (∀ d ∈ xs, Dat n d) → Dat n (.lst xs)
  | dk : Dat n (.dk [])
theorem Dat.mono {n m : Nat} (h : n ≤ m) {d : D} (x : Dat n d) : Dat m d := by
  induction x with
  | non => exact .non
  | bl b => exact .bl b
  | int i => exact .int i
  | str z => exact .str z
  | tup l _ ih => exact .tup (Nat.le_trans l h) ih
  | lst l _ ih => exact .lst (Nat.le_trans l h) ih
  | dk => exact .dk
theorem Dat.pln {n : Nat} {d : D} {M : Store} (x : Dat n d) : plnD M d = true := by cases x <;> rfl
end L3
set_option Elab.async false
set_option linter.all false
set_option maxRecDepth 100000
set_option maxHeartbeats 4000000
set_option autoImplicit false
/-! dicts whose keys are tuples, nested: the layer below -/
namespace L3
open PySem PySem.Spec L2
open PyProof.Rows hiding St
mutual
/-- v stands for the key k -/
inductive NkV (H : Hp) : V → NestedKey → Prop
  | non : NkV H .non .none
  | bl (b : Bool) : NkV H (.bl b) (.num (if b then 1 else 0))
  | int (i : Int) : NkV H (.int i) (.num i)
  | str (x : Str) : NkV H (.str x) (.text x)
  | tup {b : Addr} {vs : List V} {ks : List NestedKey} : H b = some (.tup vs) → NkVs H vs ks → NkV H (.ref b) (.tup ks)
inductive NkVs (H : Hp) : List V → List NestedKey → Prop
  | nil : NkVs H [] []
  | cons {v : V} {vs : List V} {k : NestedKey} {ks : List NestedKey} : NkV H v k → NkVs H vs ks → NkVs H (v :: vs) (k :: ks)
end
section
variable {P : Program} {w : World} {H : Hp} {h : Heap}
mutual
theorem NkV.is (ok : HOk P w H h) : ∀ {v : V} {k : NestedKey} {u : Value}, NkV H v k → RelV v u → NestedIs h k u
  | _, _, _, .non, r => by obtain rfl := r; exact NestedIs.none
  | _, _, _, .bl b, r => by obtain rfl := r; exact NestedIs.bool rfl
  | _, _, _, .int i, r => by obtain ⟨t, rfl⟩ := r; exact NestedIs.int i t
  | _, _, _, .str x, r => by obtain ⟨t, rfl⟩ := r; exact NestedIs.text x t
  | _, _, _, .tup e a, r => by
    obtain rfl := r
    obtain ⟨_, its, rv, o, e1, e2, n, e3⟩ := ok _ _ e
    exact NestedIs.tup e1 e2 e3 (NkVs.is ok a rv)
theorem NkVs.is (ok : HOk P w H h) : ∀ {vs : List V} {ks : List NestedKey} {us : List Value}, NkVs H vs ks → Vals vs us → NestedAll h ks us
  | _, _, _, .nil, r => by cases r; exact NestedAll.nil
  | _, _, _, .cons a b, r => by
    cases r with
    | cons x y => exact NestedAll.cons (NkV.is ok a x) (NkVs.is ok b y)
end
/-- the dict at a -/
structure DnAt (w : World) (H : Hp) (a : Addr) (xs : List NE) : Prop where
  at_ : H a = some (dnO w a xs) ∨ (xs = [] ∧ H a = some (.dK []))
  ks : ∀ x ∈ xs, NkV H (.ref x.2.1) x.1 ∧ x.1.depth ≤ 8
theorem DnAt.write {a : Addr} {xs : List NE} (D : DnAt w H a xs) : Mut (H a) := by
  rcases D.at_ with e | ⟨_, e⟩ <;> (rw [e]; exact True.intro)
theorem NEs.len : ∀ {xs : List NE} {ws : List (NestedKey × Addr × Value)}, NEs xs ws → xs.length = ws.length := fun r => Paired.length r
theorem dn_of (ok : HOk P w H h) {a : Addr} {xs : List NE} (D : DnAt w H a xs) : ∃ ws, NEs xs ws ∧ xs.length ≤ sizeLine ∧ (a == sysModules) = false ∧ h.DictOfH (nestedKind P w) a ws := by
  rcases D.at_ with e0 | ⟨rfl, e0⟩
  rotate_left
  · obtain ⟨z, hd, vs, rel, dd⟩ := dk_of ok e0
    obtain rfl : vs = [] := List.eq_nil_of_length_eq_zero rel.length.symm
    obtain ⟨o, es, ep, e1, e2, e3, _, e5, _⟩ := dd
    have e6 : es.toList = [] := by generalize es.toList = l at e5; cases e5; rfl
    exact ⟨[], .nil, Nat.zero_le _, hd, o, es, ep, e1, e2, e3, e6, (fun _ h => nomatch h), List.nodup_nil⟩
  have x : ObjOk P w H h a (.ext (dnP w a xs)) := ok a _ e0
  obtain ⟨⟨hz, hm, ws, rel, nd, o, es, ep, e1, e2, e3, e4⟩, _⟩ := x
  refine ⟨ws, rel, hz, hm, o, es, ep, e1, e2, e3, e4, ?_, nd⟩
  have keys : ∀ {xs : List NE} {ws : List (NestedKey × Addr × Value)}, NEs xs ws → (∀ x ∈ xs, NkV H (.ref x.2.1) x.1 ∧ x.1.depth ≤ 8) → ∀ y ∈ ws, (nestedKind P w).is h y.1 y.2.1 := by
    intro xs ws r
    induction r with
    | nil => intro _ y hy; cases hy
    | @cons x y xs ws r t ih =>
      intro hk z hz
      rcases List.mem_cons.mp hz with rfl | hz
      · obtain ⟨k1, k2⟩ := hk x (List.mem_cons_self ..)
        obtain ⟨r1, r2, r3⟩ := r
        rw [← r1, ← r2]
        exact ⟨k1.is ok rfl, k2⟩
      · exact ih (fun q hq => hk q (List.mem_cons_of_mem _ hq)) z hz
  exact keys rel D.ks
/-- what it has for a key -/
def valE (xs : List NE) (k : NestedKey) : Option V := (xs.find? fun x => decide (x.1 = k)).map (·.2.2)
def putE (xs : List NE) (k : NestedKey) (b : Addr) (v : V) : List NE := if (xs.any fun x => decide (x.1 = k)) = true then xs.map (fun x => if x.1 = k then (x.1, x.2.1, v) else x) else xs ++ [(k, b, v)]
def dropE (xs : List NE) (k : NestedKey) : List NE := xs.filter fun x => decide (x.1 ≠ k)
theorem NEs.val {k : NestedKey} : ∀ {xs : List NE} {ws : List (NestedKey × Addr × Value)}, NEs xs ws → (valE xs k = none ∧ atKey ws k = none) ∨ ∃ v p, valE xs k = some v ∧ atKey ws k = some p ∧ RelV v p.2 := by
  intro xs ws r
  induction r with
  | nil => exact .inl ⟨rfl, rfl⟩
  | @cons x y xs ws r t ih =>
    obtain ⟨r1, r2, r3⟩ := r
    unfold valE atKey at ih ⊢
    by_cases h : x.1 = k
    · rw [List.find?_cons_of_pos (by simp [h]), List.find?_cons_of_pos (by simp [← r1, h])]
      exact .inr ⟨_, _, rfl, rfl, r3⟩
    · rw [List.find?_cons_of_neg (by simp [h]), List.find?_cons_of_neg (by simp [← r1, h])]
      exact ih
theorem NEs.any {k : NestedKey} {xs : List NE} {ws : List (NestedKey × Addr × Value)} (r : NEs xs ws) : (xs.any fun x => decide (x.1 = k)) = (atKey ws k).isSome := by
  have e : ∀ (l : List NE), (valE l k).isSome = l.any fun x => decide (x.1 = k) := fun l => by
    unfold valE
    rw [Option.isSome_map]
    induction l with
    | nil => rfl
    | cons x l ih =>
      by_cases h : x.1 = k
      · rw [List.find?_cons_of_pos (by simp [h]), List.any_cons]; simp [h]
      · rw [List.find?_cons_of_neg (by simp [h]), List.any_cons, ih]; simp [h]
  rcases r.val (k := k) with ⟨h1, h2⟩ | ⟨v, p, h1, h2, _⟩
  · rw [← e, h1, h2]; rfl
  · rw [← e, h1, h2]; rfl
theorem NEs.repl {k : NestedKey} {v : V} {u : Value} (rv : RelV v u) : ∀ {xs : List NE} {ws : List (NestedKey × Addr × Value)}, NEs xs ws → NEs (xs.map fun x => if x.1 = k then (x.1, x.2.1, v) else x) (ws.map (putAt k u)) := by
  intro xs ws r
  induction r with
  | nil => exact .nil
  | @cons x y xs ws r t ih =>
    refine .cons ?_ ih
    obtain ⟨r1, r2, r3⟩ := r
    unfold putAt
    dsimp only
    by_cases h : x.1 = k
    · have h2 : y.1 = k := r1 ▸ h
      rw [if_pos h, if_pos h2]
      exact ⟨r1, r2, rv⟩
    · have h2 : ¬ y.1 = k := fun z => h (r1.trans z)
      rw [if_neg h, if_neg h2]
      exact ⟨r1, r2, r3⟩
theorem NEs.snoc {x : NE} {y : NestedKey × Addr × Value} (q : x.1 = y.1 ∧ x.2.1 = y.2.1 ∧ RelV x.2.2 y.2.2) : ∀ {xs : List NE} {ws : List (NestedKey × Addr × Value)}, NEs xs ws → NEs (xs ++ [x]) (ws ++ [y]) := by
  intro xs ws r
  induction r with
  | nil => exact .cons q .nil
  | cons r t ih => exact .cons r ih
theorem NEs.put {k : NestedKey} {b : Addr} {v : V} {u : Value} (rv : RelV v u) {xs : List NE} {ws : List (NestedKey × Addr × Value)} (r : NEs xs ws) : NEs (putE xs k b v) (storedH ws k b u) := by
  have e := r.any (k := k)
  unfold putE storedH
  rw [e]
  cases h : (atKey ws k).isSome with
  | true => exact r.repl rv
  | false => exact r.snoc ⟨rfl, rfl, rv⟩
theorem putE_len {xs : List NE} {k : NestedKey} {b : Addr} {v : V} : (putE xs k b v).length ≤ xs.length + 1 := by
  unfold putE
  split
  · rw [List.length_map]; omega
  · rw [List.length_append]; exact Nat.le_refl _
theorem putE_mem {xs : List NE} {k : NestedKey} {b : Addr} {v : V} {x : NE} (h : x ∈ putE xs k b v) : (∃ y ∈ xs, y.1 = x.1 ∧ y.2.1 = x.2.1) ∨ (x.1 = k ∧ x.2.1 = b) := by
  unfold putE at h
  split at h
  · obtain ⟨y, hy, rfl⟩ := List.mem_map.mp h
    refine .inl ⟨y, hy, ?_⟩
    split <;> exact ⟨rfl, rfl⟩
  · rcases List.mem_append.mp h with h | h
    · exact .inl ⟨x, h, rfl, rfl⟩
    · rw [List.mem_singleton] at h; subst h; exact .inr ⟨rfl, rfl⟩
theorem NEs.drop {k : NestedKey} {xs : List NE} {ws : List (NestedKey × Addr × Value)} (r : NEs xs ws) : NEs (dropE xs k) (withoutH ws k) := by
  unfold dropE withoutH
  induction r with
  | nil => exact .nil
  | @cons x y xs ws r t ih =>
    obtain ⟨r1, r2, r3⟩ := r
    by_cases h : x.1 = k
    · rw [List.filter_cons_of_neg (by simp [h]), List.filter_cons_of_neg (by simp [← r1, h])]; exact ih
    · rw [List.filter_cons_of_pos (by simp [h]), List.filter_cons_of_pos (by simp [← r1, h])]; exact .cons ⟨r1, r2, r3⟩ ih
theorem dn_new {H' : Hp} {h' : Heap} {a : Addr} {xs : List NE} {ws : List (NestedKey × Addr × Value)} (z : xs.length ≤ sizeLine) (hd : (a == sysModules) = false) (rel : NEs xs ws) (dd : h'.DictOfH (nestedKind P w) a ws) : ObjOk P w H' h' a (dnO w a xs) := by
  obtain ⟨o, es, ep, e1, e2, e3, e4, _, nd⟩ := dd
  refine ⟨⟨z, hd, ws, rel, nd, o, es, ep, e1, e2, e3, e4⟩, ⟨o, e1⟩, fun h1 h2 p k => ?_⟩
  obtain ⟨z, hd, ws, rel, nd, o, es, ep, e1, e2⟩ := p
  exact ⟨z, hd, ws, rel, nd, o, es, ep, k _ e1, e2⟩
end
section
variable {X : Cx}
theorem room_nk (hu : X.A.units + 65 < cLine) : (nestedKind X.prog X.w).room X.A.in1 := by
  show X.A.units + 1 + 8 < cLine
  omega
def rInN (w : World) (neg : Bool) : R2 := fun x y H Q => ∃ a b xs k, x = .ref b ∧ y = .ref a ∧ DnAt w H a xs ∧ NkV H (.ref b) k ∧ k.depth ≤ 8 ∧ Q (.bl (if neg then !(valE xs k).isSome else (valE xs k).isSome)) H
theorem valE_some {xs : List NE} {ws : List (NestedKey × Addr × Value)} {k : NestedKey} (r : NEs xs ws) : (atKey ws k).isSome = (valE xs k).isSome := by
  rcases r.val (k := k) with ⟨h1, h2⟩ | ⟨v, p, h1, h2, _⟩ <;> rw [h1, h2] <;> rfl
theorem op_inN (hu : X.A.units + 65 < cLine) : OpR X (compareOp .In) (rInN X.w false) := by
  intro pins s σ H x y v u Q I rx ry h
  obtain ⟨a, b, xs, k, ex, ey, D, N, dk, q⟩ := h
  subst ex ey
  obtain rfl : v = Value.ref b := rx
  obtain rfl : u = Value.ref a := ry
  obtain ⟨ws, rel, _, hm, dd⟩ := dn_of I.hok D
  refine wpAny_in_heap (knd := nestedKind X.prog X.w) (room_nk hu) ⟨N.is I.hok rfl, dk⟩ hm dd ?_
  rw [valE_some rel]
  exact ⟨.bl (valE xs k).isSome, H, I.tok _, rfl, q⟩
theorem op_notInN (hu : X.A.units + 65 < cLine) : OpR X (compareOp .NotIn) (rInN X.w true) := by
  intro pins s σ H x y v u Q I rx ry h
  obtain ⟨a, b, xs, k, ex, ey, D, N, dk, q⟩ := h
  subst ex ey
  obtain rfl : v = Value.ref b := rx
  obtain rfl : u = Value.ref a := ry
  obtain ⟨ws, rel, _, hm, dd⟩ := dn_of I.hok D
  refine notIn_keyed (knd := nestedKind X.prog X.w) (room_nk hu) ⟨N.is I.hok rfl, dk⟩ hm ⟨ws, dd, rfl⟩ ?_
  rw [valueAt_pairsH, Option.isSome_map, valE_some rel]
  exact ⟨.bl (!(valE xs k).isSome), H, I.tok _, rfl, q⟩
def rIxN (w : World) : R2 := fun x y H Q => ∃ a b xs k v, x = .ref a ∧ y = .ref b ∧ DnAt w H a xs ∧ NkV H (.ref b) k ∧ k.depth ≤ 8 ∧ valE xs k = some v ∧ Q v H
theorem ix_dictN (hu : X.A.units + 65 < cLine) : IxR X (rIxN X.w) := by
  intro value slice pins s σ H x y v u Q I rx ry h hs
  obtain ⟨a, b, xs, k, z, ex, ey, D, N, dk, hv, q⟩ := h
  subst ex ey
  obtain rfl : v = Value.ref a := rx
  obtain rfl : u = Value.ref b := ry
  obtain ⟨ws, rel, _, hm, dd⟩ := dn_of I.hok D
  rcases rel.val (k := k) with ⟨h1, _⟩ | ⟨z', p, h1, h2, rp⟩
  · rw [hv] at h1; cases h1
  · rw [hv] at h1; cases h1
    refine tail_any (ops := [.ref a, .ref b]) dd.typeIs (PySem.F.slot_dict_getitem.lookup) ?_ hs
    exact wpAny_getItem_heap (knd := nestedKind X.prog X.w) (room_nk hu) ⟨N.is I.hok rfl, dk⟩ dd h2 ⟨z, H, I.tok _, rp, q⟩
def rSetN (w : World) : TSet := fun o i v H R => ∃ a b xs k, o = .ref a ∧ i = .ref b ∧ DnAt w H a xs ∧ NkV H (.ref b) k ∧ k.depth ≤ 8 ∧ xs.length < sizeLine ∧ R (upd H a (dnO w a (putE xs k b v)))
theorem set_dictN (hu : X.A.units + 65 < cLine) : PSet X (rSetN X.w) := by
  intro pins s σ H o i v ov iv u Q I ro ri rv h
  obtain ⟨a, b, xs, k, ex, ey, D, N, dk, hl, q⟩ := h
  subst ex ey
  obtain rfl : ov = Value.ref a := ro
  obtain rfl : iv = Value.ref b := ri
  obtain ⟨ws, rel, hz, hm, dd⟩ := dn_of I.hok D
  have hl2 : (putE xs k b v).length ≤ sizeLine := by have := putE_len (xs := xs) (k := k) (b := b) (v := v); omega
  refine wpAny_setItem_heap (knd := nestedKind X.prog X.w) (room_nk hu) ⟨N.is I.hok rfl, dk⟩ dd (fun h' dd' hs => ?_) (hsz := by rw [← rel.len]; exact hz)
  have he : ∃ q, h'.get? a = some q := let ⟨q, _, _, hq, _⟩ := dd'; ⟨q, hq⟩
  exact ⟨_, d_write I (D.write) hs he (dn_new hl2 hm (rel.put rv) dd'), q⟩
/-- a new dict that is empty -/
theorem pe_dictN {pos : Pos} : PE X (.Dict [] [] pos) (fun σ H Q => ∀ p, H p = none → Q (.ref p) (upd H p (dnO X.w p []))) := ⟨fun pins s σ H Q I h =>
  wpAny_Dict_empty ⟨.ref s.heap.objs.size, _, I.laid (a := s.heap.objs.size) (o := dnO X.w s.heap.objs.size []) (t' := s.toks) (fun _ _ q => Heap.get?_push_of_some _ q) (Nat.le_refl _) (dn_new (P := X.prog) (Nat.zero_le _) (beq_eq_false_iff_ne.mpr (Ne.symm (Nat.ne_of_lt I.big))) .nil (Heap.DictOfH.new _)), rfl, h _ (I.hok.fresh (Nat.le_refl _))⟩⟩
end
/-- a is a dict, whatever its keys -/
def IsN (w : World) (H : Hp) (a : Addr) : Prop := IsD H a ∨ ∃ xs, DnAt w H a xs
theorem isN_at {X : Cx} {pins : List (Addr × Obj)} {σ : St} {H : Hp} {s : Shared} {a : Addr} (I : Inv X pins σ H s) (d : IsN X.w H a) :
    s.TypeIs (.ref a) "dict" ∧ (∀ b, Value.ref a = .ref b → ∃ ob, s.heap.get? b = some ob ∧ ob.dict = none) ∧ (a == sysModules) = false := by
  rcases d with d | ⟨xs, D⟩
  · exact isD_at I d
  · obtain ⟨ws, rel, _, hd, dd⟩ := dn_of I.hok D
    refine ⟨dd.typeIs, fun b q => ?_, hd⟩
    cases q
    obtain ⟨ob, _, _, h1, h2, _⟩ := dd
    exact ⟨ob, h1, h2.2.1⟩
/-- what a has at y -/
def NGet (w : World) (H : Hp) (a : Addr) (y : V) (o : Option V) : Prop := DGet H a y o ∨ ∃ b xs k, y = .ref b ∧ DnAt w H a xs ∧ NkV H (.ref b) k ∧ k.depth ≤ 8 ∧ o = valE xs k
/-- what a is when y is put -/
def NPut (w : World) (H : Hp) (a : Addr) (y v : V) (H' : Hp) : Prop := DPut H a y v H' ∨ ∃ b xs k, y = .ref b ∧ DnAt w H a xs ∧ NkV H (.ref b) k ∧ k.depth ≤ 8 ∧ xs.length < sizeLine ∧ H' = upd H a (dnO w a (putE xs k b v))
def tNGet1 (w : World) (td ty : TE) : TE := fun σ H Q => td σ H fun x H1 => ∃ a, x = .ref a ∧ IsN w H1 a ∧ ty σ H1 fun y H2 => ∃ o, NGet w H2 a y o ∧ Q (o.getD .non) H2
def tNGet2 (w : World) (td ty tx : TE) : TE := fun σ H Q => td σ H fun x H1 => ∃ a, x = .ref a ∧ IsN w H1 a ∧ ty σ H1 fun y H2 => tx σ H2 fun z H3 => ∃ o, NGet w H3 a y o ∧ Q (o.getD z) H3
theorem NEs.getD {k : NestedKey} {xs : List NE} {ws : List (NestedKey × Addr × Value)} (r : NEs xs ws) {z : V} {u : Value} (rz : RelV z u) : RelV ((valE xs k).getD z) ((valueAt (pairsH ws) k).getD u) := by
  rw [valueAt_pairsH]
  rcases r.val (k := k) with ⟨h1, h2⟩ | ⟨v, p, h1, h2, h3⟩
  · rw [h1, h2]; exact rz
  · rw [h1, h2]; exact h3
section
variable {X : Cx} {o e f : Expr} {apos cpos : Pos} {td ty tx : TE}
theorem pe_nget1 (hu : X.A.units + 65 < cLine) (ho : PE X o td) (he : PE X e ty) (m : M1 X o "get" apos e cpos) : PE X (.Call (.Attribute o "get" apos) [e] [] cpos) (tNGet1 X.w td ty) := by
  refine ⟨fun pins s σ H Q I h => ?_⟩
  refine wpAny_Call_method m.base m.few m.line PySem.F.plainAttrs_dict PySem.F.slot_dict_get PySem.F.type_dict_get (thn (ho.run pins s σ H _ I h) fun u s1 ⟨x, H1, I1, rx, a, ex, d, q1⟩ => ?_)
  subst ex
  obtain rfl : u = Value.ref a := rx
  obtain ⟨t1, t2, _⟩ := isN_at I1 d
  refine ⟨t1, t2, ?_⟩
  rw [m.trees]
  refine Calls.callWith_builtin rfl (Calls.evalArgs_plain (Calls.spliced_cons (thn (he.run pins s1 σ H1 _ I1 q1) fun iv s2 ⟨y, H2, I2, ry, ov, g, q2⟩ => Calls.spliced_nil ?_)))
  rcases g with g | ⟨b, xs, k, ey, D, N, dk, eo⟩
  · exact d_get1 (by omega) I2 g ry fun w' s3 I3 rw' => ⟨_, H2, I3, rw', q2⟩
  · subst ey eo
    obtain rfl : iv = Value.ref b := ry
    obtain ⟨ws, rel, _, hm, dd⟩ := dn_of I2.hok D
    exact get_keyed (knd := nestedKind X.prog X.w) (room_nk hu) ⟨N.is I2.hok rfl, dk⟩ hm ⟨ws, dd, rfl⟩ ⟨_, H2, I2.tok _, rel.getD (z := .non) (u := .none) rfl, q2⟩
theorem pe_nget2 (hu : X.A.units + 65 < cLine) (ho : PE X o td) (he : PE X e ty) (hf : PE X f tx) (m : M2 X o "get" apos e f cpos) : PE X (.Call (.Attribute o "get" apos) [e, f] [] cpos) (tNGet2 X.w td ty tx) := by
  refine ⟨fun pins s σ H Q I h => ?_⟩
  refine wpAny_Call_method m.base m.few m.line PySem.F.plainAttrs_dict PySem.F.slot_dict_get PySem.F.type_dict_get (thn (ho.run pins s σ H _ I h) fun u s1 ⟨x, H1, I1, rx, a, ex, d, q1⟩ => ?_)
  subst ex
  obtain rfl : u = Value.ref a := rx
  obtain ⟨t1, t2, _⟩ := isN_at I1 d
  refine ⟨t1, t2, ?_⟩
  rw [m.trees]
  refine Calls.callWith_builtin rfl (Calls.evalArgs_plain (Calls.spliced_cons (thn (he.run pins s1 σ H1 _ I1 q1) fun iv s2 ⟨y, H2, I2, ry, q2⟩ =>
    Calls.spliced_cons (thn (hf.run pins s2 σ H2 _ I2 q2) fun fv s3 ⟨z, H3, I3, rz, ov, g, q3⟩ => Calls.spliced_nil ?_))))
  rcases g with g | ⟨b, xs, k, ey, D, N, dk, eo⟩
  · exact d_get2 (by omega) I3 g ry rz fun w' s4 I4 rw' => ⟨_, H3, I4, rw', q3⟩
  · subst ey eo
    obtain rfl : iv = Value.ref b := ry
    obtain ⟨ws, rel, _, hm, dd⟩ := dn_of I3.hok D
    exact getOr_keyed (knd := nestedKind X.prog X.w) (room_nk hu) ⟨N.is I3.hok rfl, dk⟩ hm ⟨ws, dd, rfl⟩ ⟨_, H3, I3.tok _, rel.getD rz, q3⟩
/-- d.pop(k, x) -/
def tNPop2 (w : World) (td ty tx : TE) : TE := fun σ H Q => td σ H fun x H1 => ∃ a, x = .ref a ∧ IsN w H1 a ∧ ty σ H1 fun y H2 => tx σ H2 fun z H3 =>
  (∃ kvs k, H3 a = some (.dK kvs) ∧ y = kV k ∧ (∀ v, valV kvs k = some v → Q v (upd H3 a (.dK (dropK kvs k)))) ∧ (valV kvs k = none → Q z H3)) ∨
  ∃ b xs k, y = .ref b ∧ DnAt w H3 a xs ∧ NkV H3 (.ref b) k ∧ k.depth ≤ 8 ∧ (∀ v, valE xs k = some v → Q v (upd H3 a (dnO w a (dropE xs k)))) ∧ (valE xs k = none → Q z H3)
theorem pe_npop2 (hu : X.A.units + 65 < cLine) (ho : PE X o td) (he : PE X e ty) (hf : PE X f tx) (m : M2 X o "pop" apos e f cpos) : PE X (.Call (.Attribute o "pop" apos) [e, f] [] cpos) (tNPop2 X.w td ty tx) := by
  refine ⟨fun pins s σ H Q I h => ?_⟩
  refine wpAny_Call_method m.base m.few m.line PySem.F.plainAttrs_dict PySem.F.slot_dict_pop PySem.F.type_dict_pop (thn (ho.run pins s σ H _ I h) fun u s1 ⟨x, H1, I1, rx, a, ex, d, q1⟩ => ?_)
  subst ex
  obtain rfl : u = Value.ref a := rx
  obtain ⟨t1, t2, _⟩ := isN_at I1 d
  refine ⟨t1, t2, ?_⟩
  rw [m.trees]
  refine Calls.callWith_builtin rfl (Calls.evalArgs_plain (Calls.spliced_cons (thn (he.run pins s1 σ H1 _ I1 q1) fun iv s2 ⟨y, H2, I2, ry, q2⟩ =>
    Calls.spliced_cons (thn (hf.run pins s2 σ H2 _ I2 q2) fun fv s3 ⟨z, H3, I3, rz, g⟩ => Calls.spliced_nil ?_))))
  rcases g with ⟨kvs, k, ea, ey, q3, q4⟩ | ⟨b, xs, k, ey, D, N, dk, q3, q4⟩
  · subst ey
    cases l : valV kvs k with
    | some v => exact d_pop I3 ea ry l (.inr ⟨fv, rfl⟩) fun w' s4 I4 rw' => ⟨v, _, I4, rw', q3 v l⟩
    | none => exact d_popD I3 ea ry l fun s4 I4 => ⟨z, H3, I4, rz, q4 l⟩
  · subst ey
    obtain rfl : iv = Value.ref b := ry
    obtain ⟨ws, rel, hz, hm, dd⟩ := dn_of I3.hok D
    have hz2 : ws.length ≤ sizeLine := by rw [← rel.len]; exact hz
    rcases rel.val (k := k) with ⟨h1, h2⟩ | ⟨v, p, h1, h2, h3⟩
    · exact call_pop_default_heap (knd := nestedKind X.prog X.w) (hsz := hz2) (room_nk hu) ⟨N.is I3.hok rfl, dk⟩ hm dd h2 fun tk => ⟨z, H3, I3.tok _, rz, q4 h1⟩
    · refine call_pop_heap (knd := nestedKind X.prog X.w) (hsz := hz2) (.inr ⟨fv, rfl⟩) (PySem.F.args_dict_pop_3 _ _ _) (room_nk hu) ⟨N.is I3.hok rfl, dk⟩ hm dd h2 fun h' dd' hs => ?_
      have he : ∃ q, h'.get? a = some q := let ⟨q, _, _, hq, _⟩ := dd'; ⟨q, hq⟩
      exact ⟨v, _, d_write I3 D.write hs he (dn_new (Nat.le_trans (List.length_filter_le _ _) hz) hm rel.drop dd'), h3, q3 v h1⟩
/-- d.setdefault(y, z) -/
def tNSetd (w : World) (td ty tx : TE) : TE := fun σ H Q => td σ H fun x H1 => ∃ a, x = .ref a ∧ IsN w H1 a ∧ ty σ H1 fun y H2 => tx σ H2 fun z H3 =>
  (∃ (kvs : List (Key × V)) (k : Key), H3 a = some (.dK kvs) ∧ y = kV k ∧ kvs.length < sizeLine ∧ (∀ v, valV kvs k = some v → Q v H3) ∧ (valV kvs k = none → Q z (upd H3 a (.dK (putK kvs k z))))) ∨
  ∃ b xs k, y = .ref b ∧ DnAt w H3 a xs ∧ NkV H3 (.ref b) k ∧ k.depth ≤ 8 ∧ xs.length < sizeLine ∧ (∀ v, valE xs k = some v → Q v H3) ∧ (valE xs k = none → Q z (upd H3 a (dnO w a (putE xs k b z))))
theorem pe_nsetd (hu : X.A.units + 65 < cLine) (ho : PE X o td) (he : PE X e ty) (hf : PE X f tx) (m : M2 X o "setdefault" apos e f cpos) : PE X (.Call (.Attribute o "setdefault" apos) [e, f] [] cpos) (tNSetd X.w td ty tx) := by
  refine ⟨fun pins s σ H Q I h => ?_⟩
  refine wpAny_Call_method m.base m.few m.line PySem.F.plainAttrs_dict PySem.F.slot_dict_setdefault PySem.F.type_dict_setdefault (thn (ho.run pins s σ H _ I h) fun u s1 ⟨x, H1, I1, rx, a, ex, d, q1⟩ => ?_)
  subst ex
  obtain rfl : u = Value.ref a := rx
  obtain ⟨t1, t2, _⟩ := isN_at I1 d
  refine ⟨t1, t2, ?_⟩
  rw [m.trees]
  refine Calls.callWith_builtin rfl (Calls.evalArgs_plain (Calls.spliced_cons (thn (he.run pins s1 σ H1 _ I1 q1) fun iv s2 ⟨y, H2, I2, ry, q2⟩ =>
    Calls.spliced_cons (thn (hf.run pins s2 σ H2 _ I2 q2) fun fv s3 ⟨z, H3, I3, rz, g⟩ => Calls.spliced_nil ?_))))
  rcases g with ⟨kvs, k, ea, ey, hl, q3, q4⟩ | ⟨b, xs, k, ey, D, N, dk, hl, q3, q4⟩
  · subst ey
    exact d_setd I3 ea ry rz hl (fun v hv w' s4 I4 rw' => ⟨v, _, I4, rw', q3 v hv⟩) fun hn w' s4 I4 rw' => ⟨z, _, I4, rw', q4 hn⟩
  · subst ey
    obtain rfl : iv = Value.ref b := ry
    obtain ⟨ws, rel, hz, hm, dd⟩ := dn_of I3.hok D
    have hz2 : ws.length ≤ sizeLine := by rw [← rel.len]; exact hz
    refine call_setdefault_heap (knd := nestedKind X.prog X.w) (hsz := hz2) (room_nk hu) ⟨N.is I3.hok rfl, dk⟩ hm dd (fun p hp => ?_) fun hn h' dd' hs => ?_
    · rcases rel.val (k := k) with ⟨h1, h2⟩ | ⟨v, p', h1, h2, h3⟩
      · rw [hp] at h2; cases h2
      · rw [hp] at h2; cases h2
        exact ⟨v, H3, I3.tok _, h3, q3 v h1⟩
    · rcases rel.val (k := k) with ⟨h1, h2⟩ | ⟨v, p', h1, h2, h3⟩
      · have hl2 : (putE xs k b z).length ≤ sizeLine := by have := putE_len (xs := xs) (k := k) (b := b) (v := z); omega
        have he : ∃ q, h'.get? a = some q := let ⟨q, _, _, hq, _⟩ := dd'; ⟨q, hq⟩
        exact ⟨z, _, d_write I3 D.write hs he (dn_new hl2 hm (rel.put rz) dd'), rz, q4 h1⟩
      · rw [hn] at h2; cases h2
end
end L3
set_option Elab.async false
set_option linter.all false
set_option maxRecDepth 100000
set_option maxHeartbeats 4000000
set_option autoImplicit false
/-! dicts: keys that are ints, texts, or tuples of such; the ones that change -/
namespace L3
open PySem PySem.Spec L2
open PyProof.Rows hiding St
section
variable {X : Cx}
def rIxK : R2 := fun x y H Q => ∃ a v, x = .ref a ∧ DGet H a y (some v) ∧ Q v H
theorem ix_dict (hu : X.A.units + 1 < cLine) : IxR X rIxK := by
  intro value slice pins s σ H x y v u Q I rx ry h hs
  obtain ⟨a, w, ex, g, q⟩ := h
  subst ex
  obtain rfl : v = Value.ref a := rx
  exact tail_any (ops := [.ref a, u]) (dict_typeIs I g) (PySem.F.slot_dict_getitem.lookup) (d_getItem hu I g ry fun w' s3 I3 rw' => ⟨w, H, I3, rw', q⟩) hs
theorem ix_or {r r' : R2} (h : IxR X r) (h' : IxR X r') : IxR X (fun x y H Q => r x y H Q ∨ r' x y H Q) := by
  intro value slice pins s σ H x y v u Q I rx ry q hs
  rcases q with q | q
  · exact h value slice pins s σ H x y v u Q I rx ry q hs
  · exact h' value slice pins s σ H x y v u Q I rx ry q hs
def rInK (neg : Bool) : R2 := fun x y H Q => ∃ a o, y = .ref a ∧ DGet H a x o ∧ Q (.bl (if neg then !o.isSome else o.isSome)) H
theorem op_inK (hu : X.A.units + 1 < cLine) : OpR X (compareOp .In) (rInK false) := by
  intro pins s σ H x y v u Q I rx ry h
  obtain ⟨a, o, ex, g, q⟩ := h
  subst ex
  obtain rfl : u = Value.ref a := ry
  exact d_in hu I g rx fun s3 I3 => ⟨.bl o.isSome, H, I3, rfl, q⟩
theorem op_notInK (hu : X.A.units + 1 < cLine) : OpR X (compareOp .NotIn) (rInK true) := by
  intro pins s σ H x y v u Q I rx ry h
  obtain ⟨a, o, ex, g, q⟩ := h
  subst ex
  obtain rfl : u = Value.ref a := ry
  exact d_notIn hu I g rx fun s3 I3 => ⟨.bl (!o.isSome), H, I3, rfl, q⟩
def rSetK : TSet := fun o i v H R => ∃ a H', o = .ref a ∧ DPut H a i v H' ∧ R H'
theorem set_dict (hu : X.A.units + 1 < cLine) : PSet X rSetK := by
  intro pins s σ H o i v ov iv u Q I ro ri rv h
  obtain ⟨a, H', ex, g, q⟩ := h
  subst ex
  obtain rfl : ov = Value.ref a := ro
  exact d_setItem hu I g ri rv fun s4 I4 => ⟨H', I4, q⟩
theorem set_or {t t' : TSet} (h : PSet X t) (h' : PSet X t') : PSet X (fun o i v H R => t o i v H R ∨ t' o i v H R) := by
  intro pins s σ H o i v ov iv u Q I ro ri rv q
  rcases q with q | q
  · exact h pins s σ H o i v ov iv u Q I ro ri rv q
  · exact h' pins s σ H o i v ov iv u Q I ro ri rv q
end
/-! ### pairs of any keys -/
section
variable {κ : Type}
inductive KQ (K : PySem.W.Frag) (g : G) : List (κ × V) → List (κ × D) → Prop
  | nil : KQ K g [] []
  | cons {k : κ} {v : V} {d : D} {vs : List (κ × V)} {fs : List (κ × D)} : Rep K g v d → KQ K g vs fs → KQ K g ((k, v) :: vs) ((k, d) :: fs)
variable {K : PySem.W.Frag} {g g' : G}
theorem KQ.of : ∀ {vs : List (κ × V)} {fs : List (κ × D)}, Reps K g (vs.map (·.2)) (fs.map (·.2)) → vs.map (·.1) = fs.map (·.1) → KQ K g vs fs
  | [], [], _, _ => .nil
  | [], _ :: _, _, e => nomatch e
  | _ :: _, [], _, e => nomatch e
  | (k, v) :: vs, (k', d) :: fs, r, e => by
    injection e with e1 e2
    have e1' : k = k' := e1
    subst e1'
    cases r with
    | cons a b => exact .cons a (KQ.of b e2)
theorem KQ.reps : ∀ {vs : List (κ × V)} {fs : List (κ × D)}, KQ K g vs fs → Reps K g (vs.map (·.2)) (fs.map (·.2)) ∧ vs.map (·.1) = fs.map (·.1)
  | _, _, .nil => ⟨.nil, rfl⟩
  | _, _, .cons r t => let ⟨a, b⟩ := t.reps; ⟨.cons r a, by rw [List.map_cons, List.map_cons, b]⟩
theorem KQ.length {vs : List (κ × V)} {fs : List (κ × D)} (h : KQ K g vs fs) : vs.length = fs.length := by
  induction h with
  | nil => rfl
  | cons r t ih => rw [List.length_cons, List.length_cons, ih]
theorem KQ.gro (h : g.sub g') {vs : List (κ × V)} {fs : List (κ × D)} (q : KQ K g vs fs) : KQ K g' vs fs := by
  induction q with
  | nil => exact .nil
  | cons r t ih => exact .cons (r.gro h) ih
theorem KQ.append {vs ws : List (κ × V)} {fs gs : List (κ × D)} (h : KQ K g vs fs) (q : KQ K g ws gs) : KQ K g (vs ++ ws) (fs ++ gs) := by
  induction h with
  | nil => exact q
  | cons r t ih => exact .cons r ih
/-- what stands, or nothing -/
def RO (K : PySem.W.Frag) (g : G) : Option V → Option D → Prop
  | some v, some d => Rep K g v d
  | none, none => True
  | _, _ => False
variable [DecidableEq κ]
def valG (fs : List (κ × D)) (k : κ) : Option D := (fs.find? fun kv => decide (kv.1 = k)).map (·.2)
def putG (fs : List (κ × D)) (k : κ) (v : D) : List (κ × D) :=
  if (fs.any fun kv => decide (kv.1 = k)) = true then fs.map (fun kv => if kv.1 = k then (kv.1, v) else kv) else fs ++ [(k, v)]
def dropG (fs : List (κ × D)) (k : κ) : List (κ × D) := fs.filter fun kv => decide (kv.1 ≠ k)
theorem KQ.val (k : κ) : ∀ {vs : List (κ × V)} {fs : List (κ × D)}, KQ K g vs fs → RO K g (valV vs k) (valG fs k)
  | _, _, .nil => True.intro
  | _, _, .cons (k := k') r t => by
    unfold valV valG
    by_cases e : k' = k
    · simp [e]; exact r
    · simp [e]
      exact KQ.val k t
theorem KQ.any (k : κ) {vs : List (κ × V)} {fs : List (κ × D)} (h : KQ K g vs fs) : (vs.any fun kv => decide (kv.1 = k)) = fs.any fun kv => decide (kv.1 = k) := by
  induction h with
  | nil => rfl
  | cons r t ih => rw [List.any_cons, List.any_cons, ih]
theorem KQ.repl (k : κ) {v : V} {d : D} (x : Rep K g v d) {vs : List (κ × V)} {fs : List (κ × D)} (h : KQ K g vs fs) : KQ K g (vs.map fun kv => if kv.1 = k then (kv.1, v) else kv) (fs.map fun kv => if kv.1 = k then (kv.1, d) else kv) := by
  induction h with
  | nil => exact .nil
  | @cons k' v' d' vs fs r t ih =>
    rw [List.map_cons, List.map_cons]
    by_cases e : k' = k
    · subst e; simp; exact .cons x ih
    · simp [e]; exact .cons r ih
theorem KQ.put (k : κ) {v : V} {d : D} (x : Rep K g v d) {vs : List (κ × V)} {fs : List (κ × D)} (h : KQ K g vs fs) : KQ K g (putK vs k v) (putG fs k d) := by
  unfold putK putG
  rw [h.any k]
  split
  · exact h.repl k x
  · exact h.append (.cons x .nil)
theorem KQ.drop (k : κ) {vs : List (κ × V)} {fs : List (κ × D)} (h : KQ K g vs fs) : KQ K g (dropK vs k) (dropG fs k) := by
  induction h with
  | nil => exact .nil
  | @cons k' v' d' vs fs r t ih =>
    unfold dropK dropG
    by_cases e : k' = k
    · simp [e]
      simpa [dropK, dropG] using ih
    · simp [e]
      exact .cons r (by simpa [dropK, dropG] using ih)
end
/-! ### keys that are tuples -/
def keyN : D → Option NestedKey
  | .tup xs => (nkL xs).bind fun ks => if (NestedKey.tup ks).depth ≤ 8 then some (.tup ks) else none
  | _ => none
def valN (fs : List (D × D)) (k : NestedKey) : Option D := (fs.find? fun kv => decide (nkD kv.1 = some k)).map (·.2)
def putN (fs : List (D × D)) (k : NestedKey) (x v : D) : List (D × D) :=
  if (fs.any fun kv => decide (nkD kv.1 = some k)) = true then fs.map (fun kv => if nkD kv.1 = some k then (kv.1, v) else kv) else fs ++ [(x, v)]
def dropN (fs : List (D × D)) (k : NestedKey) : List (D × D) := fs.filter fun kv => decide (nkD kv.1 ≠ some k)
section
variable {K : PySem.W.Frag} {g g' : G}
/-- the dict's entries -/
inductive KN (K : PySem.W.Frag) (g : G) : List NE → List (D × D) → Prop
  | nil : KN K g [] []
  | cons {k : NestedKey} {b : Addr} {v : V} {x d : D} {xs : List NE} {fs : List (D × D)} : Rep K g (.ref b) x → nkD x = some k → k.depth ≤ 8 → Rep K g v d → KN K g xs fs → KN K g ((k, b, v) :: xs) ((x, d) :: fs)
theorem KN.of : ∀ {xs : List NE} {fs : List (D × D)}, Reps K g (xs.map fun x => V.ref x.2.1) (fs.map (·.1)) → Reps K g (xs.map (·.2.2)) (fs.map (·.2)) → (∀ x ∈ xs, x.1.depth ≤ 8) → fs.map (fun f => nkD f.1) = xs.map (fun x => some x.1) → KN K g xs fs
  | [], [], _, _, _, _ => .nil
  | [], _ :: _, _, _, _, e => nomatch e
  | _ :: _, [], _, _, _, e => nomatch e
  | (k, b, v) :: xs, (x, d) :: fs, r, t, h, e => by
    injection e with e1 e2
    cases r with
    | cons r1 r2 =>
      cases t with
      | cons t1 t2 => exact .cons r1 e1 (h _ (List.mem_cons_self ..)) t1 (KN.of r2 t2 (fun x hx => h x (List.mem_cons_of_mem _ hx)) e2)
theorem KN.reps : ∀ {xs : List NE} {fs : List (D × D)}, KN K g xs fs → Reps K g (xs.map fun x => V.ref x.2.1) (fs.map (·.1)) ∧ Reps K g (xs.map (·.2.2)) (fs.map (·.2)) ∧ (∀ x ∈ xs, x.1.depth ≤ 8) ∧ fs.map (fun f => nkD f.1) = xs.map (fun x => some x.1)
  | _, _, .nil => ⟨.nil, .nil, (fun _ h => nomatch h), rfl⟩
  | _, _, .cons r e h q t => by
    obtain ⟨a, b, c, d⟩ := t.reps
    refine ⟨.cons r a, .cons q b, fun x hx => ?_, by rw [List.map_cons, List.map_cons, d, e]⟩
    rcases List.mem_cons.mp hx with rfl | hx
    · exact h
    · exact c x hx
theorem KN.length {xs : List NE} {fs : List (D × D)} (h : KN K g xs fs) : xs.length = fs.length := by
  induction h with
  | nil => rfl
  | cons _ _ _ _ _ ih => rw [List.length_cons, List.length_cons, ih]
theorem KN.gro (h : g.sub g') {xs : List NE} {fs : List (D × D)} (q : KN K g xs fs) : KN K g' xs fs := by
  induction q with
  | nil => exact .nil
  | cons r e d q t ih => exact .cons (r.gro h) e d (q.gro h) ih
theorem KN.snoc {k : NestedKey} {b : Addr} {v : V} {x d : D} (r : Rep K g (.ref b) x) (e : nkD x = some k) (h : k.depth ≤ 8) (q : Rep K g v d) {xs : List NE} {fs : List (D × D)} (t : KN K g xs fs) : KN K g (xs ++ [(k, b, v)]) (fs ++ [(x, d)]) := by
  induction t with
  | nil => exact .cons r e h q .nil
  | cons r e d q t ih => exact .cons r e d q ih
theorem KN.val (k : NestedKey) {xs : List NE} {fs : List (D × D)} (h : KN K g xs fs) : RO K g (valE xs k) (valN fs k) := by
  induction h with
  | nil => exact True.intro
  | @cons k' b v x d xs fs r e dk q t ih =>
    unfold valE valN at *
    by_cases ek : k' = k
    · subst ek; simp [e]; exact q
    · have : ¬ nkD x = some k := by rw [e]; intro h; cases h; exact ek rfl
      simp [ek, this]
      simpa using ih
theorem KN.any (k : NestedKey) {xs : List NE} {fs : List (D × D)} (h : KN K g xs fs) : (xs.any fun x => decide (x.1 = k)) = fs.any fun kv => decide (nkD kv.1 = some k) := by
  induction h with
  | nil => rfl
  | cons r e d q t ih => rw [List.any_cons, List.any_cons, ih, e]; simp
theorem KN.repl (k : NestedKey) {v : V} {d : D} (x : Rep K g v d) {xs : List NE} {fs : List (D × D)} (h : KN K g xs fs) : KN K g (xs.map fun x => if x.1 = k then (x.1, x.2.1, v) else x) (fs.map fun kv => if nkD kv.1 = some k then (kv.1, d) else kv) := by
  induction h with
  | nil => exact .nil
  | @cons k' b v' x' d' xs fs r e dk q t ih =>
    rw [List.map_cons, List.map_cons]
    by_cases ek : k' = k
    · subst ek; simp [e]; exact .cons r e dk x (by simpa using ih)
    · have : ¬ nkD x' = some k := by rw [e]; intro h; cases h; exact ek rfl
      simp [ek, this]; exact .cons r e dk q (by simpa using ih)
theorem KN.put {k : NestedKey} {b : Addr} {y : D} (ry : Rep K g (.ref b) y) (ey : nkD y = some k) (dk : k.depth ≤ 8) {v : V} {d : D} (x : Rep K g v d) {xs : List NE} {fs : List (D × D)} (h : KN K g xs fs) : KN K g (putE xs k b v) (putN fs k y d) := by
  unfold putE putN
  rw [h.any k]
  split
  · exact h.repl k x
  · exact h.snoc ry ey dk x
theorem KN.drop (k : NestedKey) {xs : List NE} {fs : List (D × D)} (h : KN K g xs fs) : KN K g (dropE xs k) (dropN fs k) := by
  induction h with
  | nil => exact .nil
  | @cons k' b v' x' d' xs fs r e dk q t ih =>
    unfold dropE dropN at *
    by_cases ek : k' = k
    · subst ek; simp [e]; simpa using ih
    · have : ¬ nkD x' = some k := by rw [e]; intro h; cases h; exact ek rfl
      simp [ek, this]; exact .cons r e dk q (by simpa using ih)
mutual
theorem nkv_of {H : Hp} (hf : ∀ a o, g.F a = some o → H a = some o) : ∀ {v : V} {x : D} {k : NestedKey}, Rep K g v x → nkD x = some k → NkV H v k
  | _, _, _, .non, e => by cases e; exact .non
  | _, _, _, .bl b, e => by cases e; exact .bl b
  | _, _, _, .int b, e => by cases e; exact .int b
  | _, _, _, .str b, e => by cases e; exact .str b
  | _, _, _, .tup s r, e => by
    obtain ⟨ks, e1, e2⟩ := Option.map_eq_some_iff.mp (show (nkL _).map NestedKey.tup = some _ from e)
    subst e2
    exact .tup (hf _ _ s) (nkvs_of hf r e1)
  | _, _, _, .lst _ _, e => by cases e
  | _, _, _, .ro _ _, e => by cases e
  | _, _, _, .dk _ _ _, e => by cases e
  | _, _, _, .dkt _ _ _ _ _, e => by cases e
  | _, _, _, .ins _ _ _, e => by cases e
  | _, _, _, .loc _, e => by cases e
  | _, _, _, .ref _, e => by cases e
  | _, _, _, .ty _, e => by cases e
theorem nkvs_of {H : Hp} (hf : ∀ a o, g.F a = some o → H a = some o) : ∀ {vs : List V} {xs : List D} {ks : List NestedKey}, Reps K g vs xs → nkL xs = some ks → NkVs H vs ks
  | _, _, _, .nil, e => by cases e; exact .nil
  | _, _, _, .cons r t, e => by
    obtain ⟨k, e1, e2⟩ := Option.bind_eq_some_iff.mp (show (nkD _).bind _ = some _ from e)
    obtain ⟨ks', e3, e4⟩ := Option.map_eq_some_iff.mp e2
    subst e4
    exact .cons (nkv_of hf r e1) (nkvs_of hf t e3)
end
theorem keyN_rep {M : Store} {H : Hp} {v : V} {x : D} {k : NestedKey} (R : RelH K g M H) (r : Rep K g v x) (e : keyN x = some k) : ∃ b, v = .ref b ∧ NkV H (.ref b) k ∧ k.depth ≤ 8 ∧ nkD x = some k := by
  cases r with
  | tup s t =>
    obtain ⟨ks, e1, e2⟩ := Option.bind_eq_some_iff.mp (show (nkL _).bind _ = some k from e)
    by_cases hd : (NestedKey.tup ks).depth ≤ 8
    · rw [if_pos hd] at e2
      cases e2
      have e3 : nkD (.tup _) = some (NestedKey.tup ks) := Option.map_eq_some_iff.mpr ⟨ks, e1, rfl⟩
      exact ⟨_, rfl, nkv_of R.frz (.tup s t) e3, hd, e3⟩
    · rw [if_neg hd] at e2; cases e2
  | _ => cases e
/-- what a dict of ints and texts holds at y -/
def dgetK (fs : List (Key × D)) (y : D) : Option (Option D) := match keyD y with
  | some k => some (valG fs k)
  | none => match fs with
    | [] => (keyN y).map fun _ => none
    | _ :: _ => none
theorem dgetK_k {fs : List (Key × D)} {y : D} {k : Key} (h : keyD y = some k) : dgetK fs y = some (valG fs k) := by unfold dgetK; rw [h]
/-- what x holds at y; none: x is no such dict -/
def dgetM (M : Store) (x y : D) : Option (Option D) := match x with
  | .dk fs => dgetK fs y
  | .dkt fs => (keyN y).map (valN fs)
  | .loc n => match M[n]? with
    | some (some (.dk fs)) => dgetK fs y
    | some (some (.dkt fs)) => (keyN y).map (valN fs)
    | _ => none
  | _ => none
theorem dgetK_rep {M : Store} {H : Hp} {u : V} {a : Addr} {y : D} {vs : List (Key × V)} {fs : List (Key × D)} {o : Option D} (w : World) (R : RelH K g M H) (ea : H a = some (.dK vs)) (kq : KQ K g vs fs) (ry : Rep K g u y) (e : dgetK fs y = some o) : ∃ o', NGet w H a u o' ∧ RO K g o' o := by
  unfold dgetK at e
  cases hk : keyD y with
  | some k =>
    rw [hk] at e; cases e
    rw [key_rep ry hk]
    exact ⟨_, .inl (DGet.k ea), kq.val k⟩
  | none =>
    rw [hk] at e
    cases fs with
    | cons _ _ => cases e
    | nil =>
      obtain ⟨k, e1, e2⟩ := Option.map_eq_some_iff.mp (show (keyN y).map _ = some o from e)
      subst e2
      cases kq
      obtain ⟨b, rfl, N, dk, _⟩ := keyN_rep R ry e1
      exact ⟨none, .inr ⟨b, [], k, rfl, ⟨.inr ⟨rfl, ea⟩, (fun _ h => nomatch h)⟩, N, dk, rfl⟩, True.intro⟩
theorem dn_at {M : Store} {H : Hp} {a : Addr} {xs : List NE} {fs : List (D × D)} (R : RelH K g M H) (ea : H a = some (dnO g.w a xs)) (kn : KN K g xs fs) : DnAt g.w H a xs := by
  refine ⟨.inl ea, ?_⟩
  clear ea
  induction kn with
  | nil => intro _ h; cases h
  | cons r e d q t ih =>
    intro x hx
    rcases List.mem_cons.mp hx with rfl | hx
    · exact ⟨nkv_of R.frz r e, d⟩
    · exact ih x hx
theorem dgetN_rep {M : Store} {H : Hp} {u : V} {a : Addr} {y : D} {xs : List NE} {fs : List (D × D)} {o : Option D} (R : RelH K g M H) (ea : H a = some (dnO g.w a xs)) (kn : KN K g xs fs) (ry : Rep K g u y) (e : (keyN y).map (valN fs) = some o) : ∃ o', NGet g.w H a u o' ∧ RO K g o' o := by
  obtain ⟨k, e1, e2⟩ := Option.map_eq_some_iff.mp e
  subst e2
  obtain ⟨b, rfl, N, dk, _⟩ := keyN_rep R ry e1
  exact ⟨_, .inr ⟨b, xs, k, rfl, dn_at R ea kn, N, dk, rfl⟩, kn.val k⟩
theorem dget_rep {M : Store} {H : Hp} {v u : V} {x y : D} {o : Option D} (R : RelH K g M H) (rx : Rep K g v x) (ry : Rep K g u y) (e : dgetM M x y = some o) : ∃ a o', v = .ref a ∧ NGet g.w H a u o' ∧ RO K g o' o := by
  cases rx with
  | dk s t z =>
    obtain ⟨o', n, r⟩ := dgetK_rep g.w R (R.frz _ _ s) (KQ.of t z) ry e
    exact ⟨_, o', rfl, n, r⟩
  | dkt s t r d z =>
    obtain ⟨o', n, r⟩ := dgetN_rep R (R.frz _ _ s) (KN.of t r d z) ry e
    exact ⟨_, o', rfl, n, r⟩
  | @loc n a e1 =>
    have e' : (match M[n]? with | some (some (.dk fs)) => dgetK fs y | some (some (.dkt fs)) => (keyN y).map (valN fs) | _ => none) = some o := e
    split at e'
    · rename_i fs h
      obtain ⟨a', e2, _, vs, e4, t, z⟩ := R.liv n _ h
      rw [e1] at e2; cases e2
      obtain ⟨o', n, r⟩ := dgetK_rep g.w R e4 (KQ.of t z) ry e'
      exact ⟨_, o', rfl, n, r⟩
    · rename_i fs h
      obtain ⟨a', e2, _, xs, e4, t, r, d, z⟩ := R.liv n _ h
      rw [e1] at e2; cases e2
      obtain ⟨o', n, r⟩ := dgetN_rep R e4 (KN.of t r d z) ry e'
      exact ⟨_, o', rfl, n, r⟩
    · cases e'
  | _ => cases e
end
/-- x[y] of a dict or a sequence -/
def ixU (x y : D) : Py D := fun M => match dgetM M x y with
  | some (some d) => .ok d M
  | some none => .bad
  | none => ixD x y M
/-- x in y, y a dict -/
def inK (neg : Bool) (x y : D) : Py D := fun M => match dgetM M y x with
  | some o => .ok (.bl (if neg then !o.isSome else o.isSome)) M
  | none => .bad
theorem inK_post {neg : Bool} {x y : D} {M : Store} {q : D → Store → Prop} {E : Exn → Store → Prop} (p : Post (inK neg x y M) q E) : ∃ o, dgetM M y x = some o ∧ q (.bl (if neg then !o.isSome else o.isSome)) M := by
  unfold inK at p
  cases h : dgetM M y x with
  | none => rw [h] at p; exact p.elim
  | some o => rw [h] at p; exact ⟨o, rfl, p⟩
section
variable {X : Cx}
def rInX (w : World) (neg : Bool) : R2 := fun x y H Q => ∃ a o, y = .ref a ∧ NGet w H a x o ∧ Q (.bl (if neg then !o.isSome else o.isSome)) H
theorem op_inX (hu : X.A.units + 65 < cLine) : OpR X (compareOp .In) (rInX X.w false) := by
  intro pins s σ H x y v u Q I rx ry h
  obtain ⟨a, o, ey, g, q⟩ := h
  rcases g with g | ⟨b, xs, k, ex, D, N, dk, eo⟩
  · exact op_inK (by omega) pins s σ H x y v u Q I rx ry ⟨a, o, ey, g, q⟩
  · subst eo; exact op_inN hu pins s σ H x y v u Q I rx ry ⟨a, b, xs, k, ex, ey, D, N, dk, q⟩
theorem op_notInX (hu : X.A.units + 65 < cLine) : OpR X (compareOp .NotIn) (rInX X.w true) := by
  intro pins s σ H x y v u Q I rx ry h
  obtain ⟨a, o, ey, g, q⟩ := h
  rcases g with g | ⟨b, xs, k, ex, D, N, dk, eo⟩
  · exact op_notInK (by omega) pins s σ H x y v u Q I rx ry ⟨a, o, ey, g, q⟩
  · subst eo; exact op_notInN hu pins s σ H x y v u Q I rx ry ⟨a, b, xs, k, ex, ey, D, N, dk, q⟩
def rIxX (w : World) : R2 := fun x y H Q => ∃ a v, x = .ref a ∧ NGet w H a y (some v) ∧ Q v H
theorem ix_dictX (hu : X.A.units + 65 < cLine) : IxR X (rIxX X.w) := by
  intro value slice pins s σ H x y v u Q I rx ry h hs
  obtain ⟨a, z, ex, g, q⟩ := h
  rcases g with g | ⟨b, xs, k, ey, D, N, dk, eo⟩
  · exact ix_dict (by omega) value slice pins s σ H x y v u Q I rx ry ⟨a, z, ex, g, q⟩ hs
  · exact ix_dictN hu value slice pins s σ H x y v u Q I rx ry ⟨a, b, xs, k, z, ex, ey, D, N, dk, eo.symm, q⟩ hs
def rSetX (w : World) : TSet := fun o i v H R => ∃ a H', o = .ref a ∧ NPut w H a i v H' ∧ R H'
theorem set_dictX (hu : X.A.units + 65 < cLine) : PSet X (rSetX X.w) := by
  intro pins s σ H o i v ov iv u Q I ro ri rv h
  obtain ⟨a, H', ex, g, q⟩ := h
  rcases g with g | ⟨b, xs, k, ey, D, N, dk, hl, eH⟩
  · exact set_dict (by omega) pins s σ H o i v ov iv u Q I ro ri rv ⟨a, H', ex, g, q⟩
  · subst eH; exact set_dictN hu pins s σ H o i v ov iv u Q I ro ri rv ⟨a, b, xs, k, ex, ey, D, N, dk, hl, q⟩
end
section
variable {C : DX}
theorem RO.isSome {K : PySem.W.Frag} {g : G} {o : Option V} {d : Option D} (h : RO K g o d) : o.isSome = d.isSome := by
  cases o <;> cases d <;> first | rfl | exact h.elim
theorem do_inK (hu : C.X.A.units + 65 < cLine) : DOp C (compareOp .In) (inK false) := DOp.of (op_inX hu) fun {g ρ M σ H x y dx dy} Q R rx ry p => by
  obtain ⟨o, e, q⟩ := inK_post p
  obtain ⟨a, o', ea, hg, ro⟩ := dget_rep R.h ry rx e
  refine ⟨a, o', ea, by rw [← R.w]; exact hg, ?_⟩
  rw [ro.isSome]
  exact QV.here q R (.bl _)
theorem do_notInK (hu : C.X.A.units + 65 < cLine) : DOp C (compareOp .NotIn) (inK true) := DOp.of (op_notInX hu) fun {g ρ M σ H x y dx dy} Q R rx ry p => by
  obtain ⟨o, e, q⟩ := inK_post p
  obtain ⟨a, o', ea, hg, ro⟩ := dget_rep R.h ry rx e
  refine ⟨a, o', ea, by rw [← R.w]; exact hg, ?_⟩
  rw [ro.isSome]
  exact QV.here q R (.bl _)
variable {a b : Expr} {fa fb : DEnv → Py D} {pos : Pos}
theorem de_ixU (hu : C.X.A.units + 65 < cLine) (ha : DE C a fa) (hb : DE C b fb) (hs : PlainIx b := by exact fun _ _ => rfl) : DE C (.Subscript a b pos) (eOp ixU fa fb) := ⟨fun {g ρ M σ H} Q R p => by
  refine wpe (pe_ix (ix_or (ix_dictX hu) ix_seq) self_e self_e hs) (ha.then_ R p fun v d M1 H1 g1 l1 R1 r1 p1 => hb.then_ R1 p1 fun u e M2 H2 g2 l2 R2 r2 p2 => ?_)
  have p3 : Post (ixU d e M2) _ _ := p2
  unfold ixU at p3
  cases h : dgetM M2 d e with
  | some o =>
    rw [h] at p3
    cases o with
    | none => exact p3.elim
    | some dd =>
      obtain ⟨a', o', ea, hg, ro⟩ := dget_rep R2.h (r1.mono l2) r2 h
      cases o' with
      | none => exact ro.elim
      | some w => exact .inl ⟨a', w, ea, by rw [← R2.w]; exact hg, QV.here (QV.later (g' := g2) p3 (l1.trans l2)) R2 ro⟩
  | none =>
    rw [h] at p3
    rcases ixD_cases p3 with ⟨z, i, c, rfl, rfl, hz, e, q⟩ | ⟨i, rfl, p4⟩
    · exact .inr (.inr (.inr ⟨z, i, c, rep_str (r1.mono l2), rep_int r2, hz, e, QV.here (QV.later (g' := g2) q (l1.trans l2)) R2 (.str _)⟩))
    · obtain ⟨a', vs, ds, ea, hs, t, d', e, q⟩ := items_post R2.h (r1.mono l2) p4
      obtain ⟨w', e1, e2⟩ := atI_reps t e
      rcases hs with hs | hs
      · exact .inr (.inl ⟨a', vs, i, w', ea, rep_int r2, hs, e1, QV.here (QV.later (g' := g2) q (l1.trans l2)) R2 e2⟩)
      · exact .inr (.inr (.inl ⟨a', vs, i, w', ea, rep_int r2, hs, e1, QV.here (QV.later (g' := g2) q (l1.trans l2)) R2 e2⟩))⟩
end
end L3
set_option Elab.async false
set_option linter.all false
set_option maxRecDepth 100000
set_option maxHeartbeats 4000000
set_option autoImplicit false
/-! dicts that change: stores, update, get, pop, displays, comprehensions -/
namespace L3
open PySem PySem.Spec L2
open PyProof.Rows hiding St
def mergeG {κ : Type} [DecidableEq κ] (fs more : List (κ × D)) : List (κ × D) := more.foldl (fun acc kv => putG acc kv.1 kv.2) fs
theorem KQ.merge {K : PySem.W.Frag} {g : G} : ∀ {ws : List (Key × V)} {gs : List (Key × D)} {vs : List (Key × V)} {fs : List (Key × D)}, KQ K g ws gs → KQ K g vs fs → KQ K g (mergeK vs ws) (mergeG fs gs)
  | _, _, _, _, .nil, h => h
  | _, _, _, _, .cons (k := k) r t, h => by
    have q := KQ.merge t (h.put k r)
    exact q
section
variable {X : Cx}
/-- d.update(e): dicts of ints or texts, unlike ones -/
def rUpdK : V → List V → Hp → VK → Prop := fun x xs H Q => ∃ a b ks ls, x = V.ref a ∧ xs = [V.ref b] ∧ a ≠ b ∧ H a = some (.dK ks) ∧ Rd H b (.dK ls) ∧ ks.length + ls.length ≤ sizeLine ∧ Q .non (upd H a (.dK (mergeK ks ls)))
theorem mt_updK : MtR X "dict.update" rUpdK := by
  intro pins s σ H x xs v us Q I rx rxs h
  obtain ⟨a, b, ks, ls, ex, exs, ne, ha, hb, hz, q⟩ := h
  subst ex exs
  obtain rfl : v = Value.ref a := rx
  obtain ⟨u, eu, ru⟩ := vals1 rxs
  subst eu
  obtain rfl : u = Value.ref b := ru
  obtain ⟨z1, d1, vs, rel1, dd1⟩ := dk_of I.hok ha
  obtain ⟨z2, d2, ws, rel2, dd2⟩ := dk_rd I.hok hb
  refine call_meetsIn PySem.F.slot_dict_update dd1.typeIs PySem.F.entry_dict_update (PySem.F.args_dict_update_2 _ _) (meets_dict_update (mixKind X.prog X.w) a b ne d2)
    ⟨vs, ws, dd1, dd2, by rw [← rel1.length, ← rel2.length]; exact hz, fun h' dd' _ hs => ?_⟩
  have he : ∃ w, h'.get? a = some w := let ⟨w, _, _, hw, _⟩ := dd'; ⟨w, hw⟩
  exact ⟨.non, _, d_write (t' := s.toks) I (by rw [ha]; exact True.intro) hs he (dk_new (Nat.le_trans (length_mergeK ls ks) hz) d1 (rel2.merge rel1) dd'), rfl, q⟩
end
/-! ### stores -/
/-- o[i] = v -/
def setU (o i v : D) : Py Unit := fun M => match o with
  | .loc n => match M[n]? with
    | some (some (.dk fs)) => match keyD i with
      | some k => if fs.length < sizeLine then .ok () (M.set n (some (.dk (putG fs k v)))) else .bad
      | none => match fs with
        | [] => match keyN i with
          | some _ => .ok () (M.set n (some (.dkt [(i, v)])))
          | none => .bad
        | _ :: _ => .bad
    | some (some (.dkt fs)) => match keyN i with
      | some k => if fs.length < sizeLine then .ok () (M.set n (some (.dkt (putN fs k i v)))) else .bad
      | none => .bad
    | _ => setD o i v M
  | _ => .bad
section
variable {K : PySem.W.Frag} {g : G} {M : Store} {H : Hp}
theorem setU_post {o i v : D} {x y z : V} {q : Unit → Store → Prop} {E : Exn → Store → Prop} (R : RelH K g M H) (rx : Rep K g x o) (ry : Rep K g y i) (rz : Rep K g z v) (p : Post (setU o i v M) q E) :
    (∃ a H' M', x = .ref a ∧ NPut g.w H a y z H' ∧ q () M' ∧ RelH K g M' H') ∨ ∃ a vs k j M', x = .ref a ∧ y = .int k ∧ H a = some (.lst vs) ∧ ixN vs.length k = some j ∧ q () M' ∧ RelH K g M' (upd H a (.lst (vs.set j z))) := by
  cases o with
  | loc n =>
    cases rx with
    | @loc n a e1 =>
      unfold setU at p
      dsimp only at p
      split at p
      · rename_i fs h
        obtain ⟨a', e2, _, vs, e4, t, zz⟩ := R.liv n _ h
        rw [e1] at e2; cases e2
        cases hk : keyD i with
        | none =>
          rw [hk] at p
          dsimp only at p
          cases fs with
          | cons _ _ => exact p.elim
          | nil =>
            cases hn : keyN i with
            | none => rw [hn] at p; exact p.elim
            | some k =>
              rw [hn] at p
              have kq := KQ.of t zz
              cases kq
              obtain ⟨b, rfl, N, dk, ek⟩ := keyN_rep R ry hn
              exact .inl ⟨a, _, _, rfl, .inr ⟨b, [], k, rfl, ⟨.inr ⟨rfl, e4⟩, (fun _ h => nomatch h)⟩, N, dk, by show 0 < sizeLine; unfold sizeLine; decide, rfl⟩, p, R.put h e1 ⟨_, upd_same, (KN.put ry ek dk rz (KN.nil (K := K) (g := g))).reps⟩⟩
        | some k =>
          rw [hk] at p
          dsimp only at p
          by_cases hl : fs.length < sizeLine
          · rw [if_pos hl] at p
            have kq := KQ.of t zz
            refine .inl ⟨a, _, _, rfl, .inl (by rw [key_rep ry hk]; exact DPut.k e4 (by rw [kq.length]; exact hl)), p, R.put h e1 ⟨_, upd_same, (kq.put k rz).reps⟩⟩
          · rw [if_neg hl] at p; exact p.elim
      · rename_i fs h
        obtain ⟨a', e2, _, xs, e4, t, r, d, zz⟩ := R.liv n _ h
        rw [e1] at e2; cases e2
        cases hk : keyN i with
        | none => rw [hk] at p; exact p.elim
        | some k =>
          rw [hk] at p
          dsimp only at p
          by_cases hl : fs.length < sizeLine
          · rw [if_pos hl] at p
            have kn := KN.of t r d zz
            obtain ⟨b, rfl, N, dk, ek⟩ := keyN_rep R ry hk
            exact .inl ⟨a, _, _, rfl, .inr ⟨b, xs, k, rfl, dn_at R e4 kn, N, dk, by rw [kn.length]; exact hl, rfl⟩, p, R.put h e1 ⟨_, upd_same, (KN.put ry ek dk rz kn).reps⟩⟩
          · rw [if_neg hl] at p; exact p.elim
      · obtain ⟨a', vs, k, j, M', e2, e3, e4, e5, q', R'⟩ := setD_post R (.loc e1) ry rz p
        cases e2
        exact .inr ⟨_, vs, k, j, M', rfl, e3, e4, e5, q', R'⟩
  | _ => exact p.elim
end
def sSubU (fo fi fv : DEnv → Py D) : DEnv → Py Fl := fun ρ => Py.bnd (fv ρ) fun v => Py.bnd (fo ρ) fun o => Py.bnd (fi ρ) fun i => Py.bnd (setU o i v) fun _ => Py.ret (.nx ρ)
section
variable {C : DX} {e : Expr} {f : DEnv → Py D} {pos : Pos}
theorem ds_subU (hu : C.X.A.units + 65 < cLine) {o i : Expr} {fo fi : DEnv → Py D} {tpos : Pos} (ho : DE C o fo) (hi : DE C i fi) (hv : DE C e f)
    (ha : ∀ v, assign (.Subscript o i tpos) C.X.env v = (do
      let ov ← holding [v] (eval o C.X.env)
      let iv ← holding [v, ov] (eval i C.X.env)
      standAt tpos
      holding [v, ov, iv] (setItem ov iv v)
      release [v, ov, iv] []) := by intro _; rfl)
    (hs : swapsWithSole [.Subscript o i tpos] e pos.line C.X.env = pure false := by rfl) (hw : swappedStores [.Subscript o i tpos] e C.X.env = pure none := by rfl)
    (h1 : (assignEach [.Subscript o i tpos] C.X.env).map (·.2) = [assign (.Subscript o i tpos) C.X.env] := by rfl) : DS C (.Assign [.Subscript o i tpos] e pos) (sSubU fo fi f) := ⟨fun {g ρ M σ H} E R p =>
  wps (ps_asg self_e (pg_sub self_e self_e (set_or (set_dictX hu) set_list) ha) hs hw h1) (hv.then_ R p fun v d M1 H1 g1 l1 R1 r1 p1 => ho.then_ R1 p1 fun x o' M2 H2 g2 l2 R2 r2 p2 => hi.then_ R2 p2 fun y i' M3 H3 g3 l3 R3 r3 p3 => by
    rcases setU_post R3.h (r2.mono l3) r3 (r1.mono (l2.trans l3)) (post_bnd.mp p3) with ⟨a, H', M', ea, dp, q, R'⟩ | ⟨a, vs, k, j, M', ea, ek, e1, e2, q, R'⟩
    · exact .inl ⟨a, H', ea, by rw [← R3.w]; exact dp, q _ _ g3 ((l1.trans l2).trans l3) (R3.next (G.le.refl g3) R')⟩
    · exact .inr ⟨a, vs, k, j, ea, ek, e1, e2, q _ _ g3 ((l1.trans l2).trans l3) (R3.next (G.le.refl g3) R')⟩)⟩
end
/-! ### get, pop, update -/
/-- it is a dict -/
def isDk (M : Store) (d : D) : Bool := match d with
  | .dk _ => true
  | .dkt _ => true
  | .loc n => match M[n]? with
    | some (some (.dk _)) => true
    | some (some (.dkt _)) => true
    | _ => false
  | _ => false
theorem isDk_rep {K : PySem.W.Frag} {g : G} {M : Store} {H : Hp} {v : V} {d : D} (R : RelH K g M H) (r : Rep K g v d) (h : isDk M d = true) : ∃ a, v = .ref a ∧ IsN g.w H a := by
  cases r with
  | dk s t z => exact ⟨_, rfl, .inl (.inl ⟨_, .of (R.frz _ _ s)⟩)⟩
  | dkt s t r d z => exact ⟨_, rfl, .inr ⟨_, dn_at R (R.frz _ _ s) (KN.of t r d z)⟩⟩
  | @loc n a e1 =>
    have h' : (match M[n]? with | some (some (.dk _)) => true | some (some (.dkt _)) => true | _ => false) = true := h
    split at h'
    · rename_i fs e
      obtain ⟨a', e2, _, vs, e4, t, z⟩ := R.liv n _ e
      rw [e1] at e2; cases e2
      exact ⟨_, rfl, .inl (.inl ⟨_, .of e4⟩)⟩
    · rename_i fs e
      obtain ⟨a', e2, _, xs, e4, t, r, d, z⟩ := R.liv n _ e
      rw [e1] at e2; cases e2
      exact ⟨_, rfl, .inr ⟨_, dn_at R e4 (KN.of t r d z)⟩⟩
    · cases h'
  | _ => cases h
def chkDk (d : D) : Py Unit := fun M => if isDk M d = true then .ok () M else .bad
theorem chkDk_post {d : D} {M : Store} {q : Unit → Store → Prop} {E : Exn → Store → Prop} (p : Post (chkDk d M) q E) : isDk M d = true ∧ q () M := by
  unfold chkDk at p
  by_cases h : isDk M d = true
  · rw [if_pos h] at p; exact ⟨h, p⟩
  · rw [if_neg h] at p; exact p.elim
def getDk (d y z : D) : Py D := fun M => match dgetM M d y with
  | some o => .ok (o.getD z) M
  | none => .bad
theorem getDk_post {d y z : D} {M : Store} {q : D → Store → Prop} {E : Exn → Store → Prop} (p : Post (getDk d y z M) q E) : ∃ o, dgetM M d y = some o ∧ q (o.getD z) M := by
  unfold getDk at p
  cases h : dgetM M d y with
  | none => rw [h] at p; exact p.elim
  | some o => rw [h] at p; exact ⟨o, rfl, p⟩
def eGet2 (fo fk fz : DEnv → Py D) : DEnv → Py D := fun ρ => Py.bnd (fo ρ) fun d => Py.bnd (chkDk d) fun _ => Py.bnd (fk ρ) fun y => Py.bnd (fz ρ) fun z => getDk d y z
def eGet1 (fo fk : DEnv → Py D) : DEnv → Py D := fun ρ => Py.bnd (fo ρ) fun d => Py.bnd (chkDk d) fun _ => Py.bnd (fk ρ) fun y => getDk d y .non
theorem RO.getD {K : PySem.W.Frag} {g : G} {o : Option V} {d : Option D} {v : V} {z : D} (h : RO K g o d) (r : Rep K g v z) : Rep K g (o.getD v) (d.getD z) := by
  cases o <;> cases d <;> first | exact r | exact h | exact h.elim
/-- d.pop(k, z) of a dict that changes -/
def popDk (d y z : D) : Py D := match d with
  | .loc n => fun M => match M[n]? with
    | some (some (.dk fs)) => match keyD y with
      | some k => match valG fs k with
        | some x => .ok x (M.set n (some (.dk (dropG fs k))))
        | none => .ok z M
      | none => match fs with
        | [] => match keyN y with
          | some _ => .ok z M
          | none => .bad
        | _ :: _ => .bad
    | some (some (.dkt fs)) => match keyN y with
      | some k => match valN fs k with
        | some x => .ok x (M.set n (some (.dkt (dropN fs k))))
        | none => .ok z M
      | none => .bad
    | _ => .bad
  | _ => Py.bad
def ePop2 (fo fk fz : DEnv → Py D) : DEnv → Py D := fun ρ => Py.bnd (fo ρ) fun d => Py.bnd (chkDk d) fun _ => Py.bnd (fk ρ) fun y => Py.bnd (fz ρ) fun z => popDk d y z
section
variable {C : DX} {o e f : Expr} {fo fk fz : DEnv → Py D} {apos cpos : Pos}
theorem de_get2 (hu : C.X.A.units + 65 < cLine) (ho : DE C o fo) (he : DE C e fk) (hf : DE C f fz) (m : M2 C.X o "get" apos e f cpos := by exact ⟨rfl, rfl, rfl, rfl⟩) : DE C (.Call (.Attribute o "get" apos) [e, f] [] cpos) (eGet2 fo fk fz) := ⟨fun {g ρ M σ H} Q R p => by
  refine wpe (pe_nget2 hu self_e self_e self_e m) (ho.then_ R p fun v d M1 H1 g1 l1 R1 r1 p1 => ?_)
  obtain ⟨hd, p2⟩ := chkDk_post (post_bnd.mp p1)
  obtain ⟨a, rfl, ia⟩ := isDk_rep R1.h r1 hd
  refine ⟨a, rfl, by rw [← R1.w]; exact ia, he.then_ R1 p2 fun y dy M2 H2 g2 l2 R2 r2 p3 => hf.then_ R2 p3 fun z dz M3 H3 g3 l3 R3 r3 p4 => ?_⟩
  obtain ⟨oo, e1, q⟩ := getDk_post p4
  obtain ⟨a', o', ea, hg, ro⟩ := dget_rep R3.h (r1.mono (l2.trans l3)) (r2.mono l3) e1
  cases ea
  exact ⟨o', by rw [← R3.w]; exact hg, QV.here (QV.later (g' := g3) q ((l1.trans l2).trans l3)) R3 (ro.getD r3)⟩⟩
theorem de_get1 (hu : C.X.A.units + 65 < cLine) (ho : DE C o fo) (he : DE C e fk) (m : M1 C.X o "get" apos e cpos := by exact ⟨rfl, rfl, rfl, rfl⟩) : DE C (.Call (.Attribute o "get" apos) [e] [] cpos) (eGet1 fo fk) := ⟨fun {g ρ M σ H} Q R p => by
  refine wpe (pe_nget1 hu self_e self_e m) (ho.then_ R p fun v d M1 H1 g1 l1 R1 r1 p1 => ?_)
  obtain ⟨hd, p2⟩ := chkDk_post (post_bnd.mp p1)
  obtain ⟨a, rfl, ia⟩ := isDk_rep R1.h r1 hd
  refine ⟨a, rfl, by rw [← R1.w]; exact ia, he.then_ R1 p2 fun y dy M2 H2 g2 l2 R2 r2 p3 => ?_⟩
  obtain ⟨oo, e1, q⟩ := getDk_post p3
  obtain ⟨a', o', ea, hg, ro⟩ := dget_rep R2.h (r1.mono l2) r2 e1
  cases ea
  exact ⟨o', by rw [← R2.w]; exact hg, QV.here (QV.later (g' := g2) q (l1.trans l2)) R2 (ro.getD .non)⟩⟩
theorem popDk_post {g : G} {M : Store} {H : Hp} {K : PySem.W.Frag} {v y z : V} {d dy dz : D} {q : D → Store → Prop} {E : Exn → Store → Prop} (R : RelH K g M H) (rv : Rep K g v d) (ry : Rep K g y dy) (rz : Rep K g z dz) (p : Post (popDk d dy dz M) q E) :
    ∃ a, v = .ref a ∧ ((∃ kvs k, H a = some (.dK kvs) ∧ y = kV k ∧ (∀ w, valV kvs k = some w → ∃ x M', Rep K g w x ∧ RelH K g M' (upd H a (.dK (dropK kvs k))) ∧ q x M') ∧ (valV kvs k = none → q dz M)) ∨
      ∃ b xs k, y = .ref b ∧ DnAt g.w H a xs ∧ NkV H (.ref b) k ∧ k.depth ≤ 8 ∧ (∀ w, valE xs k = some w → ∃ x M', Rep K g w x ∧ RelH K g M' (upd H a (dnO g.w a (dropE xs k))) ∧ q x M') ∧ (valE xs k = none → q dz M)) := by
  cases d with
  | loc n =>
    cases rv with
    | @loc _ a e1 =>
      refine ⟨a, rfl, ?_⟩
      unfold popDk at p
      dsimp only at p
      split at p
      · rename_i fs h
        obtain ⟨a', e2, _, vs, e4, t, zz⟩ := R.liv n _ h
        rw [e1] at e2; cases e2
        have kq := KQ.of t zz
        cases hk : keyD dy with
        | none =>
          rw [hk] at p
          dsimp only at p
          cases fs with
          | cons _ _ => exact p.elim
          | nil =>
            cases hn : keyN dy with
            | none => rw [hn] at p; exact p.elim
            | some k =>
              rw [hn] at p
              cases kq
              obtain ⟨b, rfl, N, dk, ek⟩ := keyN_rep R ry hn
              exact .inr ⟨b, [], k, rfl, ⟨.inr ⟨rfl, e4⟩, (fun _ h => nomatch h)⟩, N, dk, (fun w hw => nomatch hw), fun _ => p⟩
        | some k =>
          rw [hk] at p
          dsimp only at p
          refine .inl ⟨vs, k, e4, key_rep ry hk, fun w hw => ?_, fun hw => ?_⟩
          · have ro := kq.val k
            rw [hw] at ro
            cases hv : valG fs k with
            | none => rw [hv] at ro; exact ro.elim
            | some x => rw [hv] at ro p; exact ⟨x, M.set n (some (.dk (dropG fs k))), ro, R.put h e1 ⟨_, upd_same, (kq.drop k).reps⟩, p⟩
          · have ro := kq.val k
            rw [hw] at ro
            cases hv : valG fs k with
            | some x => rw [hv] at ro; exact ro.elim
            | none => rw [hv] at p; exact p
      · rename_i fs h
        obtain ⟨a', e2, _, xs, e4, t, r, d, zz⟩ := R.liv n _ h
        rw [e1] at e2; cases e2
        have kn := KN.of t r d zz
        cases hk : keyN dy with
        | none => rw [hk] at p; exact p.elim
        | some k =>
          rw [hk] at p
          dsimp only at p
          obtain ⟨b, rfl, N, dk, ek⟩ := keyN_rep R ry hk
          refine .inr ⟨b, xs, k, rfl, dn_at R e4 kn, N, dk, fun w hw => ?_, fun hw => ?_⟩
          · have ro := kn.val k
            rw [hw] at ro
            cases hv : valN fs k with
            | none => rw [hv] at ro; exact ro.elim
            | some x => rw [hv] at ro p; exact ⟨x, M.set n (some (.dkt (dropN fs k))), ro, R.put h e1 ⟨_, upd_same, (kn.drop k).reps⟩, p⟩
          · have ro := kn.val k
            rw [hw] at ro
            cases hv : valN fs k with
            | some x => rw [hv] at ro; exact ro.elim
            | none => rw [hv] at p; exact p
      · exact p.elim
  | _ => exact p.elim
theorem de_pop2 (hu : C.X.A.units + 65 < cLine) (ho : DE C o fo) (he : DE C e fk) (hf : DE C f fz) (m : M2 C.X o "pop" apos e f cpos := by exact ⟨rfl, rfl, rfl, rfl⟩) : DE C (.Call (.Attribute o "pop" apos) [e, f] [] cpos) (ePop2 fo fk fz) := ⟨fun {g ρ M σ H} Q R p => by
  refine wpe (pe_npop2 hu self_e self_e self_e m) (ho.then_ R p fun v d M1 H1 g1 l1 R1 r1 p1 => ?_)
  obtain ⟨hd, p2⟩ := chkDk_post (post_bnd.mp p1)
  obtain ⟨a, rfl, ia⟩ := isDk_rep R1.h r1 hd
  refine ⟨a, rfl, by rw [← R1.w]; exact ia, he.then_ R1 p2 fun y dy M2 H2 g2 l2 R2 r2 p3 => hf.then_ R2 p3 fun z dz M3 H3 g3 l3 R3 r3 p4 => ?_⟩
  have L := (l1.trans l2).trans l3
  have fin : ∀ {w : V} {x : D} {M' : Store} {H' : Hp}, Rep C.X.K g3 w x → RelH C.X.K g3 M' H' → QV C g ρ σ Q x M' → Q w H' := fun rw' R' q => q _ _ g3 L (R3.next (G.le.refl g3) R') rw'
  obtain ⟨a', ea, c⟩ := popDk_post R3.h (r1.mono (l2.trans l3)) (r2.mono l3) r3 (show Post _ (QV C g ρ σ Q) (C.We ρ) from p4)
  cases ea
  have hw := R3.w
  rcases c with ⟨kvs, k, c1, c2, c3, c4⟩ | ⟨b, xs, k, c1, c2, c3, c4, c5, c6⟩
  · refine .inl ⟨kvs, k, c1, c2, fun w hw => ?_, fun hn => fin r3 R3.h (c4 hn)⟩
    obtain ⟨x, M', r', R', q'⟩ := c3 w hw
    exact fin r' R' q'
  · refine .inr ⟨b, xs, k, c1, by rw [← hw]; exact c2, c3, c4, fun w hw' => ?_, fun hn => fin r3 R3.h (c6 hn)⟩
    obtain ⟨x, M', r', R', q'⟩ := c5 w hw'
    rw [← hw]
    exact fin r' R' q'⟩
end
/-- d.update(e), e a dict that stays -/
def updL (gs : List (Key × D)) : D → Py D
  | .loc n => fun M => match M[n]? with
    | some (some (.dk fs)) => if fs.length + gs.length ≤ sizeLine then .ok .non (M.set n (some (.dk (mergeG fs gs)))) else .bad
    | _ => .bad
  | _ => Py.bad
def updY (o : D) : D → Py D
  | .dk gs => updL gs o
  | _ => Py.bad
def updDk (o : D) : List D → Py D
  | [y] => updY o y
  | _ => Py.bad
theorem dm_upd {C : DX} : DMt C "dict.update" updDk := by
  refine ⟨_, mt_updK, fun {g ρ M σ H x dx xs ds} Q R rx rxs p => ?_⟩
  cases rxs with
  | nil => exact p.elim
  | cons r t =>
    cases t with
    | cons r2 t2 => exact p.elim
    | nil =>
      have p1 : Post (updY dx _ M) (QV C g ρ σ Q) (C.We ρ) := p
      cases r with
      | @dk b ws gs s t z =>
        have p2 : Post (updL gs dx M) (QV C g ρ σ Q) (C.We ρ) := p1
        cases rx with
        | @loc n a e1 =>
          have p5 : Post ((match M[n]? with | some (some (.dk fs)) => if fs.length + gs.length ≤ sizeLine then .ok .non (M.set n (some (.dk (mergeG fs gs)))) else .bad | _ => .bad : Out D)) (QV C g ρ σ Q) (C.We ρ) := p2
          split at p5
          · rename_i fs h
            obtain ⟨a', e2, ⟨ff, _⟩, vs, e4, t2, zz⟩ := R.h.liv n _ h
            rw [e1] at e2; cases e2
            have kq := KQ.of t2 zz
            have kq2 := KQ.of t z
            by_cases hl : fs.length + gs.length ≤ sizeLine
            · rw [if_pos hl] at p5
              refine ⟨_, b, vs, ws, rfl, rfl, fun e => ?_, e4, .of (R.h.frz _ _ s), by rw [kq.length, kq2.length]; exact hl, p5 _ _ g (G.le.refl g) (R.next (G.le.refl g) (R.h.put h e1 ⟨_, upd_same, (kq2.merge kq).reps⟩)) .non⟩
              rw [e, s] at ff
              cases ff
            · rw [if_neg hl] at p5; exact p5.elim
          · exact p5.elim
        | _ => exact p2.elim
      | _ => exact p1.elim
end L3
set_option Elab.async false
set_option linter.all false
set_option maxRecDepth 100000
set_option maxHeartbeats 4000000
set_option autoImplicit false
/-! dict displays that change, dict comprehensions -/
namespace L3
open PySem PySem.Spec L2
open PyProof.Rows hiding St
/-- the ground where what was built lives on -/
theorem le_live {g1 g' : G} {D : Addr} (S : g1.sub g') : g1.le (g'.unbL g1.P D) ∧ g'.sub (g'.unbL g1.P D) := by
  have S2 : g'.sub (g'.unbL g1.P D) := ⟨⟨[D], rfl⟩, fun a o q => q, rfl⟩
  exact ⟨⟨(S.trans S2).io, fun a o q => S.F _ _ q, rfl, S.w⟩, S2⟩
theorem loc_live {K : PySem.W.Frag} {g' : G} {P0 : Hp} {M : Store} {H : Hp} {D : Addr} (R : RelH K g' M H) : Rep K (g'.unbL P0 D) (.ref D) (.loc M.length) := by
  refine .loc ?_
  show (g'.io ++ [D])[M.length]? = some D
  rw [← R.len, List.getElem?_concat_length]
/-- the ground where what was built stays as it is -/
theorem le_stay {g1 g' : G} {D : Addr} {o : HO} (S : g1.sub g') (fD : g'.F D = none) : g1.le (g'.unb g1.P D o) ∧ g'.sub (g'.unb g1.P D o) := by
  have S2 : g'.sub (g'.unb g1.P D o) := ⟨⟨[], by simp [G.unb]⟩, fun a u q => by
    show upd g'.F D _ a = some u
    rw [upd_ne (ne_of_none q fD)]
    exact q, rfl⟩
  exact ⟨⟨(S.trans S2).io, fun a u q => S2.F _ _ (S.F _ _ q), rfl, S.w⟩, S2⟩
/-- {k: v, ..} that will change -/
def dkOfN (ds : List (D × D)) : Option (List (Key × D)) → Py D
  | some fs => Py.chk (ds.length ≤ 15) (alloc (.dk (mergeG [] fs)))
  | none => Py.bad
theorem dkOfN_post {ds : List (D × D)} {o : Option (List (Key × D))} {M : Store} {q : D → Store → Prop} {E : Exn → Store → Prop} (p : Post (dkOfN ds o M) q E) : ∃ fs, o = some fs ∧ ds.length ≤ 15 ∧ q (.loc M.length) (M ++ [some (.dk (mergeG [] fs))]) := by
  cases o with
  | none => exact p.elim
  | some fs =>
    obtain ⟨h, q⟩ := post_chk.mp p
    exact ⟨fs, rfl, h, q⟩
def eDispN (fp : DEnv → Py (List (D × D))) : DEnv → Py D := fun ρ => Py.bnd (noX (fp ρ)) fun ds => dkOfN ds (keysD ds)
section
variable {C : DX} {pos : Pos}
theorem KR.kq {K : PySem.W.Frag} {g : G} {vs : List (Key × V)} {fs : List (Key × D)} (h : KR K g vs fs) : KQ K g vs fs := KQ.of h.reps.1 h.reps.2
theorem de_dispN {keys : List (Option Expr)} {values : List Expr} {trs : Cx → List (TE × TE)} {fp : DEnv → Py (List (D × D))} (h : ∀ B, DP (C.at_ B) keys values trs fp) (hall : keys.all (·.isSome) = true := by rfl) (hl : keys.length = values.length := by rfl) (h0 : keys ≠ [] := by exact fun z => by cases z) (h15 : keys.length ≤ 15 := by decide) :
    DE C (.Dict keys values pos) (eDispN fp) := ⟨fun {g ρ M σ H} Q R p => by
  refine wpe (pe_disp ((h g).pp pos) hall hl h0 h15) fun D' hD => ?_
  have gP : g.P D' = none := R.h.pnone hD
  have gF : g.F D' = none := R.h.fnone hD
  have S0 : g.sub (g.bld D' (.dK [])) := ⟨⟨[], by simp [G.bld]⟩, fun _ _ q => q, rfl⟩
  have R0 : Rl (C.at_ (g.bld D' (.dK []))) (g.bld D' (.dK [])) ρ M σ (upd H D' (.dK [])) := ⟨G.le_w R.w, R.h.build hD, R.e.gro S0⟩
  have p1 : Post (Py.bnd (fp ρ) Py.ret M) (fun ds M1 => Post (dkOfN ds (keysD ds) M1) (QV C g ρ σ Q) (C.We ρ)) (fun _ _ => False) := by
    have p0 : Post (Py.bnd (noX (fp ρ)) (fun ds => dkOfN ds (keysD ds)) M) (QV C g ρ σ Q) (C.We ρ) := p
    exact post_bnd.mpr ((noX_post (post_bnd.mp p0)).imp fun ds M1 z => z)
  refine (h (g.bld D' (.dK []))).run R0 p1 fun ps ds M1 H1 g1 l1 R1 ra rb p2 => ?_
  obtain ⟨fs, e1, hz, q⟩ := dkOfN_post (show Post (dkOfN ds (keysD ds) M1) _ _ from p2)
  obtain ⟨kvs, e2, kr, hk⟩ := keys_rep ra rb e1
  have hP : g1.P D' = some (.dK []) := by rw [l1.P]; exact upd_same
  have hPn : ∀ a, a ≠ D' → g.P a = (g1.bld D' (.dK (mergeK [] kvs))).P a := fun a ha => by
    show g.P a = upd g1.P D' _ a
    rw [upd_ne ha, l1.P]
    show g.P a = upd g.P D' _ a
    rw [upd_ne ha]
  refine ⟨(R1.h.prt _ _ hP).1, kvs, e2, by rw [hk]; exact hz, ?_⟩
  have B1 : g1.sub (g1.bld D' (.dK (mergeK [] kvs))) := ⟨⟨[], by simp [G.bld]⟩, fun _ _ q => q, rfl⟩
  have R2 := R1.h.rebuild (o := .dK (mergeK [] kvs)) hP
  have S1 : g.sub (g1.bld D' (.dK (mergeK [] kvs))) := (S0.trans l1.sub).trans B1
  obtain ⟨L, S2⟩ := le_live (D := D') S1
  have kq := (KQ.merge kr.kq .nil).gro B1
  exact q (.ref D') _ _ L (R.next L (R2.builtL upd_same gP hPn ⟨_, (R2.prt _ _ upd_same).1, kq.reps⟩)) (loc_live R2)⟩
end
/-! ### comprehensions -/
/-- a key -/
def keyK {α : Type} (d : D) (k : Key → Py α) : Py α := match keyD d with
  | some x => k x
  | none => Py.bad
theorem keyK_post {α : Type} {d : D} {k : Key → Py α} {M : Store} {q : α → Store → Prop} {E : Exn → Store → Prop} (p : Post (keyK d k M) q E) : ∃ x, keyD d = some x ∧ Post (k x M) q E := by
  unfold keyK at p
  cases h : keyD d with
  | none => rw [h] at p; exact p.elim
  | some x => rw [h] at p; exact ⟨x, rfl, p⟩
noncomputable def dcD (ok : Store → Prop) (tg : D → DEnv → Py DEnv) (tt : DEnv → Py Bool) (fk fv : DEnv → Py D) (ρ : DEnv) : List D → List (Key × D) → Py (List (Key × D))
  | [], acc => okM ok (Py.ret acc)
  | d :: ds, acc => okM ok (Py.bnd (tg d ρ) fun ρ1 => Py.bnd (tt ρ1) fun b => if b then Py.bnd (fk ρ1) fun y => Py.bnd (fv ρ1) fun z => keyK y fun k => Py.chk (acc.length < sizeLine) (dcD ok tg tt fk fv ρ ds (putG acc k z)) else dcD ok tg tt fk fv ρ ds acc)
noncomputable def dcAll (vs : List Nat) (it : DEnv → Py Wk) (tg : D → DEnv → Py DEnv) (tt : DEnv → Py Bool) (fk fv : DEnv → Py D) : DEnv → Py (List (Key × D)) := fun ρ => Py.bnd (it ρ) fun w => noX (dcD w.ok tg tt fk fv (wipeD ρ vs) w.ds [])
section
variable {J : It} {n : Nat} {Gd : Hp → Prop} {Y : Nat → Hp → V → Hp → Prop}
/-- a walk gives what the rule of a dict comprehension asks -/
theorem dc_walk (w : Walk J n Gd Y) {t : TG} {u : TT} {tk tv : TE} {vs : List Nat} {σ : St} {H1 : Hp} {A : Addr} {fin : Hp → Prop} (at_ : Nat → Hp → Prop) (begin_ : at_ 0 (upd H1 A (.dK []))) (stands : ∀ i H, i ≤ n → at_ i H → Gd H)
    (turn : ∀ i x H H', i < n → at_ i H → Y i H x H' → t x (L2.wipe σ vs) H' fun σ2 H2 => L2.wipe σ2 vs = L2.wipe σ vs ∧ u σ2 H2 fun b H3 =>
      if b = true then tk σ2 H3 fun y H4 => tv σ2 H4 fun z H5 => ∃ kvs k, y = kV k ∧ H5 A = some (.dK kvs) ∧ kvs.length < sizeLine ∧ at_ (i + 1) (upd H5 A (.dK (putK kvs k z))) else at_ (i + 1) H3) (last : ∀ H, at_ n H → fin H) :
    ∃ Wt : Nat → Nat → Hp → Prop, (∃ m, Wt 0 m (upd H1 A (.dK []))) ∧ ∀ i m H, Wt i m H →
      (J.stop i H ∧ fin H) ∨ (J.go i H ∧ ∃ nxt : Hp → Prop, (∀ H', nxt H' → ∃ m', m' < m ∧ Wt (i + 1) m' H') ∧ ∀ x H', J.yld i H x H' → t x (L2.wipe σ vs) H' fun σ2 H2 => L2.wipe σ2 vs = L2.wipe σ vs ∧ u σ2 H2 fun b H3 =>
        if b = true then tk σ2 H3 fun y H4 => tv σ2 H4 fun z H5 => ∃ kvs k, y = kV k ∧ H5 A = some (.dK kvs) ∧ kvs.length < sizeLine ∧ nxt (upd H5 A (.dK (putK kvs k z))) else nxt H3) := by
  refine ⟨fun i m H => i + m = n ∧ at_ i H, ⟨n, by omega, begin_⟩, fun i m H hw => ?_⟩
  obtain ⟨e, a⟩ := hw
  have s := stands i H (by omega) a
  cases m with
  | zero =>
    have e' : i = n := by omega
    subst e'
    exact .inl ⟨w.stops H s, last H a⟩
  | succ m =>
    have hlt : i < n := by omega
    exact .inr ⟨w.goes i H hlt s, at_ (i + 1), fun H' a' => ⟨m, Nat.lt_succ_self m, by omega, a'⟩, fun x H' y => turn i x H H' hlt a (w.yields i H x H' hlt s y)⟩
end
section
variable {C : DX} {pos : Pos} {ke ve tg iter : Expr} {ifs : List Expr} {scope : Scope} {own : List (Str × Nat)} {it : DEnv → Py Wk} {ft : D → DEnv → Py DEnv} {tt : DEnv → Py Bool} {fk fv : DEnv → Py D} {t : TG} {u : TT}
/-- the dict that is made, at its end -/
def EndDc (C : DX) (ρ : DEnv) (g : G) (σ : St) (Q : VK) : List (Key × D) → Store → Prop := fun fs M' => ∀ A H' g1 g' vs, g.le g1 → RelE C.X.K g1 σ ρ → C.B.le g1 → g1.sub g' → g'.P A = some (.dK vs) → g1.P A = none → g1.F A = none → (∀ a, a ≠ A → g1.P a = g'.P a) → RelH C.X.K g' M' H' → KQ C.X.K g' vs fs → Q (.ref A) H'
theorem dc_run (hi : DI C tg iter it) (hg : ∀ B s H c cl fp, DG (C.blk scope B s H c cl fp) (own.map (·.2)) tg ft t)
    (ht : DTU C scope ifs tt u) (hk : ∀ B s H c cl fp, DE (C.blk scope B s H c cl fp) ke fk) (hv : ∀ B s H c cl fp, DE (C.blk scope B s H c cl fp) ve fv) {wi : TI}
    (hwi : ∀ {g : G} {ρ : DEnv} {M : Store} {σ : St} {H : Hp} (R : It → Hp → Prop), Rl C g ρ M σ H → Post (it ρ M) (fun w M' => ∀ J H' g' Gd Y, g.le g' → Rl C g' ρ M' σ H' → WalkD C.X.K g' w J Gd Y → R J H') (C.We ρ) → wi σ H R)
    {g : G} {ρ : DEnv} {M : Store} {σ : St} {H : Hp} {Q : VK} (R : Rl C g ρ M σ H) (p : Post (dcAll (own.map (·.2)) it ft tt fk fv ρ M) (EndDc C ρ g σ Q) (C.We ρ)) :
    tDc wi t u (eltT C.X scope ke) (eltT C.X scope ve) (own.map (·.2)) σ H Q := by
  refine hwi _ R ((post_bnd.mp p).imp fun w M1 p1 J H1 g1 Gd Y l1 R1 WD => ?_)
  intro A hA
  have gP : g1.P A = none := R1.h.pnone hA
  have gF : g1.F A = none := R1.h.fnone hA
  have eW : RelE C.X.K g1 (L2.wipe σ (own.map (·.2))) (wipeD ρ (own.map (·.2))) := R1.e.wipe _
  refine dc_walk WD.wk (fun i H' => ∃ g' M' acc vs, g1.sub g' ∧ g'.P A = some (.dK vs) ∧ (∀ a, a ≠ A → g1.P a = g'.P a) ∧ RelH C.X.K g' M' H' ∧ KQ C.X.K g' vs acc ∧
    Post (dcD w.ok ft tt fk fv (wipeD ρ (own.map (·.2))) (w.ds.drop i) acc M') (EndDc C ρ g σ Q) (fun _ _ => False)) ?_ ?_ ?_ ?_
  · refine ⟨g1.bld A (.dK []), M1, [], [], ⟨⟨[], by simp [G.bld]⟩, fun _ _ q => q, rfl⟩, upd_same, fun a ha => ?_, R1.h.build hA, .nil, ?_⟩
    · show g1.P a = upd g1.P A _ a
      rw [upd_ne ha]
    · rw [List.drop_zero]
      exact noX_post p1
  · rintro i H' hi ⟨g', M', acc, vs, S, hP, hPn, Rh, rp, p'⟩
    have : w.ok M' := by
      cases e : w.ds.drop i with
      | nil => rw [e] at p'; exact (okM_post p').1
      | cons d ds => rw [e] at p'; exact (okM_post p').1
    exact WD.ok S Rh this
  · rintro i x H' H2 hi ⟨g', M', acc, vs, S, hP, hPn, Rh, rp, p'⟩ y
    have e : w.ds.drop i = w.ds[i] :: w.ds.drop (i + 1) := List.drop_eq_getElem_cons hi
    rw [e] at p'
    obtain ⟨ok, p2⟩ := okM_post p'
    obtain ⟨d, g2, e1, l2, R2, r⟩ := WD.it S Rh ok y
    rw [List.getElem?_eq_getElem hi] at e1
    cases e1
    have L12 : g1.sub g2 := S.trans l2.sub
    have Rb : ∀ s H0 c cl fp, Rl (C.blk scope g2 s H0 c cl fp) g2 (wipeD ρ (own.map (·.2))) M' (L2.wipe σ (own.map (·.2))) H2 := fun _ _ _ _ _ => ⟨G.le_w ((L12.w).trans R1.w), R2, eW.gro L12⟩
    refine (hg g2 C.X.s_0 H 0 [] []).run _ (Rb _ _ _ _ _) r ((post_bnd.mp p2).imp fun ρ1 M3 p3 σ3 H3 g3 l3 R3 hw => ⟨hw.trans wipe_wipe, ?_⟩)
    refine ht.run _ (fun _ _ _ _ _ => ⟨G.le_w R3.w, R3.h, R3.e⟩) ((post_bnd.mp p3).imp fun b M4 p4 H4 g4 l4 R4 => ?_)
    have P4 : g4.P A = some (.dK vs) := by rw [l4.P, l3.P, l2.P]; exact hP
    have P4n : ∀ a, a ≠ A → g1.P a = g4.P a := fun a ha => by rw [l4.P, l3.P, l2.P]; exact hPn a ha
    have S4 : g'.le g4 := (l2.trans l3).trans l4
    cases b with
    | false =>
      rw [if_neg Bool.false_ne_true] at p4 ⊢
      exact ⟨g4, M4, acc, vs, S.trans S4.sub, P4, P4n, R4, rp.gro S4.sub, p4⟩
    | true =>
      rw [if_pos rfl] at p4 ⊢
      intro s H0 c cl fp
      refine (hk g4 s H0 c cl fp).run _ ⟨G.le_w (l4.w.trans R3.w), R4, R3.e.mono l4⟩ ((post_bnd.mp p4).imp fun y M5 p5 v H5 g5 l5 R5 r5 => ?_)
      intro s' H0' c' cl' fp'
      refine (hv g5 s' H0' c' cl' fp').run _ ⟨G.le_w R5.w, R5.h, R5.e⟩ ((post_bnd.mp p5).imp fun z M6 p6 v2 H6 g6 l6 R6 r6 => ?_)
      obtain ⟨k, ek, p7⟩ := keyK_post p6
      have P6 : g6.P A = some (.dK vs) := by rw [l6.P, l5.P]; exact P4
      have S6 := S4.trans (l5.trans l6)
      have rp6 := rp.gro S6.sub
      obtain ⟨hz, p8⟩ := post_chk.mp p7
      have B6 : g6.sub (g6.bld A (.dK (putK vs k v2))) := ⟨⟨[], by simp [G.bld]⟩, fun _ _ q => q, rfl⟩
      refine ⟨vs, k, key_rep r5 ek, (R6.h.prt _ _ P6).1, by rw [rp.length]; exact hz, g6.bld A (.dK (putK vs k v2)), M6, putG acc k z, putK vs k v2, (S.trans S6.sub).trans B6, upd_same, fun a ha => ?_, R6.h.rebuild P6, (rp6.put k r6).gro B6, p8⟩
      show g1.P a = upd g6.P A _ a
      rw [upd_ne ha, l6.P, l5.P]
      exact P4n a ha
  · rintro H' ⟨g', M', acc, vs, S, hP, hPn, Rh, rp, p'⟩
    rw [List.drop_length] at p'
    obtain ⟨_, p2⟩ := okM_post p'
    exact p2 A H' g1 g' vs l1 R1.e R1.b S hP gP gF hPn Rh rp
/-- what becomes of the dict: it stays, or it will change -/
structure FdOk (C : DX) (fr : List (Key × D) → Py D) : Prop where
  run : ∀ {g : G} {ρ : DEnv} {σ : St} {Q : VK} {fs : List (Key × D)} {M' : Store}, Post (fr fs M') (QV C g ρ σ Q) (C.We ρ) → EndDc C ρ g σ Q fs M'
def fdF : List (Key × D) → Py D := fun fs => Py.ret (.dk fs)
def fdN : List (Key × D) → Py D := fun fs => alloc (.dk fs)
theorem fd_f : FdOk C fdF := by
  constructor
  intro g ρ σ Q fs M' p A H' g1 g' vs l1 e1 b1 S hP gP gF hPn Rh rp
  obtain ⟨L, S2⟩ := le_stay (o := .dK vs) S (Rh.prt _ _ hP).2
  have kq := rp.gro S2
  exact p _ H' _ (l1.trans L) ⟨b1.trans L, Rh.built hP gP hPn, e1.mono L⟩ (.dk upd_same kq.reps.1 kq.reps.2)
theorem fd_n : FdOk C fdN := by
  constructor
  intro g ρ σ Q fs M' p A H' g1 g' vs l1 e1 b1 S hP gP gF hPn Rh rp
  obtain ⟨L, S2⟩ := le_live (D := A) S
  exact p _ H' _ (l1.trans L) ⟨b1.trans L, Rh.builtL hP gP hPn ⟨vs, (Rh.prt _ _ hP).1, rp.reps⟩, e1.mono L⟩ (loc_live Rh)
def eDc (fr : List (Key × D) → Py D) (dc : DEnv → Py (List (Key × D))) : DEnv → Py D := fun ρ => Py.bnd (dc ρ) fr
theorem de_dc {fr : List (Key × D) → Py D} {vs : List Nat} (hfr : FdOk C fr) (hc : C.X.calm = true) (hN : C.X.N.Nodup) (hi : DI C tg iter it) (ok : BlkOk C.X.N C.X.env.scope scope own) (hg : ∀ B s H c cl fp, DG (C.blk scope B s H c cl fp) vs tg ft t)
    (ht : DTU C scope ifs tt u) (hk : ∀ B s H c cl fp, DE (C.blk scope B s H c cl fp) ke fk) (hv : ∀ B s H c cl fp, DE (C.blk scope B s H c cl fp) ve fv) (hvs : own.map (·.2) = vs := by rfl) (hs : ∀ x, foldedSetIterable iter C.X.env x = pure x := by intro _; rfl) :
    DE C (.DictComp ke ve [⟨tg, iter, ifs, 0⟩] scope pos) (eDc fr (dcAll vs it ft tt fk fv)) := by
  subst hvs
  obtain ⟨wi, pi, hwi⟩ := hi.run
  refine ⟨fun {g ρ M σ H} Q R p => ?_⟩
  refine wpe (pe_dc hc hN pi ok (fun s H c cl fp => (hg g s H c cl fp).pg) ht.pt (fun s H c cl fp => ⟨fun pins s' σ' H' Q' I h => h s H c cl fp pins s' I⟩) (fun s H c cl fp => ⟨fun pins s' σ' H' Q' I h => h s H c cl fp pins s' I⟩) hs)
    (dc_run hi hg ht hk hv hwi R ((post_bnd.mp p).imp fun fs M' q => hfr.run q))
end
end L3
set_option Elab.async false
set_option linter.all false
set_option maxRecDepth 100000
set_option maxHeartbeats 4000000
set_option autoImplicit false
/-! dict comprehensions whatever their keys: ints, texts, tuples of these within one another -/
namespace L3
open PySem PySem.Spec L2
open PyProof.Rows hiding St
/-- a key is put into a dict that is being made -/
def MPut (w : World) (H : Hp) (a : Addr) (y v : V) (H' : Hp) : Prop :=
  (∃ ks k, H a = some (.dK ks) ∧ y = kV k ∧ ks.length < sizeLine ∧ H' = upd H a (.dK (putK ks k v))) ∨
  ∃ b xs k, y = .ref b ∧ DnAt w H a xs ∧ NkV H (.ref b) k ∧ k.depth ≤ 8 ∧ xs.length < sizeLine ∧ H' = upd H a (dnO w a (putE xs k b v))
theorem m_put {X : Cx} {pins : List (Addr × Obj)} {σ : St} {H H' : Hp} {s : Shared} {E : Value → Shared → Prop} {D : Addr} {y v : V} {u r : Value} {Q : Unit → Shared → Prop} (hu : X.A.units + 65 < cLine) (I : Inv X pins σ H s) (m : MPut X.w H D y v H')
    (ry : RelV y u) (rv : RelV v r) (h : ∀ s', Inv X pins σ H' s' → Q () s') : wpAny (model X.prog X.w) X.A (dictSet D u r) Q E s := by
  rcases m with ⟨ks, k, e1, e2, e3, e4⟩ | ⟨b, xs, k, e1, D1, N, dk, hl, e4⟩
  · subst e2 e4
    exact d_dictSet I e1 e3 ry rv h
  · subst e1 e4
    obtain rfl : u = Value.ref b := ry
    obtain ⟨ws, rel, hz, hm, dd⟩ := dn_of I.hok D1
    have room : (nestedKind X.prog X.w).room X.A := by
      show X.A.units + 8 < cLine
      omega
    have hl2 : (putE xs k b v).length ≤ sizeLine := by have := putE_len (xs := xs) (k := k) (b := b) (v := v); omega
    refine wpAny_dictSet_heap (knd := nestedKind X.prog X.w) room ⟨N.is I.hok rfl, dk⟩ dd (fun h' dd' hs => h _ ?_) (hsz := by rw [← rel.len]; exact hz)
    have he : ∃ q, h'.get? D = some q := let ⟨q, _, _, hq, _⟩ := dd'; ⟨q, hq⟩
    exact d_write I D1.write hs he (dn_new hl2 hm (rel.put rv) dd')
/-- one round: what stands behind the head of the comprehension, x being the item -/
def RoundM (w : World) (t : TG) (u : TT) (tk tv : TE) (vs : List Nat) (σ : St) (A : Addr) (x : V) (Ha : Hp) (goal : Hp → Prop) : Prop :=
  t x (L2.wipe σ vs) Ha fun σb Hb => L2.wipe σb vs = L2.wipe σ vs ∧
    u σb Hb fun keep Hc => if keep = true then tk σb Hc fun y Hd => tv σb Hd fun z He => ∃ Hf, MPut w He A y z Hf ∧ goal Hf else goal Hc
/-- the rounds: an invariant with a measure -/
def RoundsM (w : World) (J : It) (t : TG) (u : TT) (tk tv : TE) (vs : List Nat) (σ : St) (A : Addr) (inv : Nat → Nat → Hp → Prop) (done : Hp → Prop) : Prop :=
  ∀ i m Ha, inv i m Ha → (J.stop i Ha ∧ done Ha) ∨ (J.go i Ha ∧ ∃ goal : Hp → Prop, (∀ Hb, goal Hb → ∃ m', m' < m ∧ inv (i + 1) m' Hb) ∧ ∀ x Hb, J.yld i Ha x Hb → RoundM w t u tk tv vs σ A x Hb goal)
def tDcM (w : World) (wi : TI) (t : TG) (u : TT) (tk tv : TE) (vs : List Nat) : TE := fun σ H Q =>
  wi σ H fun J H1 => ∀ A, H1 A = none → ∃ inv : Nat → Nat → Hp → Prop, (∃ m, inv 0 m (upd H1 A (.dK []))) ∧ RoundsM w J t u tk tv vs σ A inv fun Ha => Q (.ref A) Ha
section
variable {X : Cx} {ke ve tg iter : Expr} {ifs : List Expr} {scope : Scope} {own : List (Str × Nat)} {pos : Pos} {wi : TI} {t : TG} {u : TT} {tk tv : TE}
/-- between two rounds -/
def Between (B : Cx) (fp : List Addr) (tn : Nat → Heap → Prop) (σ : St) (inv : Nat → Nat → Hp → Prop) (m : Nat) (s : Shared) : Prop :=
  ∃ i Ha, Inv B [] σ Ha s ∧ (tn i s.heap ∧ ∀ b ∈ fp, Ha b = none) ∧ inv i m Ha
theorem own_iter {s0 s : Shared} {H0 Ha : Hp} {ce : Env} {fp : List Addr} {σ : St} (I : Inv (X.blk s0 H0 scope ce fp) [] σ Ha s) (hn : ∀ b ∈ fp, Ha b = none) : ∀ b ∈ fp, FpOk (X.blk s0 H0 scope ce fp) [] Ha b := by
  intro b hb
  have z := I.ok.exf b hb
  exact ⟨hn b hb, z.1, I.ok.exfs b hb, Or.inl hb, (fun x c e => z.2 x c e), fun p hp => by cases hp⟩
theorem rounds_run {s0 : Shared} {H0 : Hp} {ce : Env} {σ : St} {J : It} {A it : Addr} {fp : List Addr} {tn : Nat → Heap → Prop} {inv : Nat → Nat → Hp → Prop} {done : Hp → Prop} {R : Result → Shared → Prop} {vs : List Nat}
    (hu : X.A.units + 65 < cLine) (hc : X.calm = true) (T : Turn X.prog X.w X.K tg J fp it tn)
    (pg : PG (X.blk s0 H0 scope ce fp) tg t) (pt : PTs (X.blk s0 H0 scope ce fp) ifs u) (pk : PE (X.blk s0 H0 scope ce fp) ke tk) (pv : PE (X.blk s0 H0 scope ce fp) ve tv)
    (rounds : RoundsM X.w J t u tk tv vs σ A inv done) (over : ∀ s' Hz, Inv (X.blk s0 H0 scope ce fp) [] (L2.wipe σ vs) Hz s' → done Hz → R (.ok .next) s')
    {m : Nat} {s : Shared} (start : Between (X.blk s0 H0 scope ce fp) fp tn (L2.wipe σ vs) inv m s) :
    codeAny (model X.prog X.w) X.A (.compLoop (.DictComp ke ve [⟨tg, iter, ifs, 0⟩] scope pos) 0 (.ref it) (.ref A) ce) R s := by
  refine compLoop_anyD (Between (X.blk s0 H0 scope ce fp) fp tn (L2.wipe σ vs) inv) (fun n sa ⟨i, Ha, Ia, ⟨ta, na⟩, ia⟩ => ?_) m start
  have fa := own_iter Ia na
  cases rounds i n Ha ia with
  | inl d => exact thnF (T.done (X.blk s0 H0 scope ce fp) rfl rfl rfl hc i [] sa _ Ha (fun _ _ => False) Ia fa ta d.1) fun r sb ⟨er, Ib⟩ => by subst er; exact over sb Ha Ib d.2
  | inr d =>
    obtain ⟨more, goal, next, step⟩ := d
    refine thnF (T.item (X.blk s0 H0 scope ce fp) rfl rfl rfl hc i [] sa _ Ha (fun _ _ => False) Ia fa ta more) fun r sb ⟨w, er, hb⟩ => ?_
    subst er
    refine thnF hb fun _ sc ⟨x, Hc, Ic, rx, yx, tc, nc⟩ => ?_
    -- while the round runs the iterator's own objects stand as they are
    have Ip := Ic.pinned (own_iter Ic nc) (T.obj _ _ tc)
    refine thnF (pg.run _ sc _ Hc x w _ Ip rx (step x Hc yx)) fun _ sd ⟨σd, Hd, Id, ed, rest⟩ => ?_
    have back : ∀ {sz : Shared} {Hz : Hp}, Inv (X.blk s0 H0 scope ce fp) ([] ++ pinsAt fp sc.heap) σd Hz sz → goal Hz → ∃ m', m' < n ∧ Between (X.blk s0 H0 scope ce fp) fp tn (L2.wipe σ vs) inv m' sz := by
      intro sz Hz Iz gz
      obtain ⟨m', lt, iz⟩ := next Hz gz
      have stood : ∀ b ∈ fp, ∀ o, sc.heap.get? b = some o → sz.heap.get? b = some o ∧ Hz b = none := fun b hb o e => by
        have q := Iz.pin (b, o) (List.mem_append_right _ (List.mem_append_right _ (mem_pinsAt hb e)))
        exact ⟨q.1, q.2.1⟩
      refine ⟨m', lt, i + 1, Hz, (Iz.unpinned (pins := [])).weak (by rw [← ed, wipe_length]) (fun j v e => ?_), ⟨T.keep _ _ _ tc fun b hb o e => (stood b hb o e).1, fun b hb => ?_⟩, iz⟩
      · rw [← ed] at e; exact (wipe_some e).1
      · obtain ⟨o, e, _⟩ := T.obj _ _ tc b hb
        exact (stood b hb o e).2
    refine thnF (pt.run _ sd σd Hd _ Id rest) fun keep se ⟨He, Ie, rest⟩ => ?_
    cases keep
    · simp only [Bool.false_eq_true, if_false] at rest ⊢
      exact back Ie rest
    · simp only [if_true] at rest ⊢
      refine thnF (pk.run _ se σd He _ Ie rest) fun yv sf ⟨y, Hf, If, ry, rest⟩ => ?_
      refine thnF (pv.run _ sf σd Hf _ If rest) fun zv sg ⟨z, Hg, Ig, rz, Hh, put, gh⟩ => ?_
      exact m_put (X := X.blk s0 H0 scope ce fp) hu Ig put ry rz fun sh Ih => back Ih gh
/-- {k: v for ..} as a value -/
theorem pe_dcM (hu : X.A.units + 65 < cLine) (hc : X.calm = true) (hN : X.N.Nodup) (hi : PI X tg iter wi) (ok : BlkOk X.N X.env.scope scope own)
    (hg : ∀ s H C cl fp, PG (X.blk s H scope (compEnvC scope cl C X.env) fp) tg t) (ht : ∀ s H C cl fp, PTs (X.blk s H scope (compEnvC scope cl C X.env) fp) ifs u)
    (hk : ∀ s H C cl fp, PE (X.blk s H scope (compEnvC scope cl C X.env) fp) ke tk) (hv : ∀ s H C cl fp, PE (X.blk s H scope (compEnvC scope cl C X.env) fp) ve tv) (hs : ∀ x, foldedSetIterable iter X.env x = pure x := by intro _; rfl) :
    PE X (.DictComp ke ve [⟨tg, iter, ifs, 0⟩] scope pos) (tDcM X.w wi t u tk tv (own.map (·.2))) := by
  refine ⟨fun pins s σ H Q I h => ?_⟩
  rw [arm_eval_DictComp]
  have outer : ∀ y ∈ scope.names, y.2 = .free → ∃ c, X.env.cells.lookup y.1 = some c := fun y hy e => I.ok.has _ ((ok.free y hy e).elim .inl .inr)
  refine wpAny_comprehension_free rfl hs (closure_ok outer) ok.kind (fun y hy e => by rw [ok.uniq y hy, e]) (thn (hi.run pins s σ H _ I h) fun xv s1 hx => thn hx fun itv s2 hy => ?_)
  obtain ⟨it, fp, tn, J, H2, eit, I2, T, t2, f2, q⟩ := hy
  subst eit
  refine wpAny_newObj_type (newEnv_comp ?_)
  have free : H2 s2.heap.objs.size = none := I2.hok.fresh (Nat.le_refl _)
  obtain ⟨inv, ⟨m0, i0⟩, rounds⟩ := q _ free
  -- the new dict
  have I3 : Inv X pins σ (upd H2 s2.heap.objs.size (.dK [])) { s2 with heap := s2.heap.push { cls := .type "dict", data := .dict #[] } } :=
    I2.laid (t' := s2.toks) (fun b o e => Heap.get?_push_of_some _ e) (Nat.le_refl _) (dk_empty s2.heap I2.big)
  have below : ∀ b ∈ fp, b < s2.heap.objs.size := fun b hb => let ⟨o, e, _⟩ := T.obj _ _ t2 b hb; Heap.lt_size e
  generalize eA : s2.heap.objs.size = A at *
  generalize eh : s2.heap.push { cls := .type "dict", data := .dict #[] } = h3 at *
  have keep3 : ∀ b o, s2.heap.get? b = some o → h3.get? b = some o := fun b o e => by rw [← eh]; exact Heap.get?_push_of_some _ e
  have f3 : ∀ b ∈ fp, FpOk X pins (upd H2 A (.dK [])) b ∧ b < ({ s2 with heap := h3 } : Shared).heap.objs.size := fun b hb => by
    have lt := below b hb
    refine ⟨⟨by rw [upd_ne (Nat.ne_of_lt lt)]; exact (f2 b hb).1, (f2 b hb).2⟩, ?_⟩
    obtain ⟨o, e, _⟩ := T.obj _ _ t2 b hb
    exact Heap.lt_size (keep3 b o e)
  have I4 := block_start I3 ok hN f3
  have t3 : tn 0 h3 := T.keep _ _ _ t2 fun b _ o e => keep3 b o e
  have t4 : tn 0 (pushCells (h3.push { cls := .type "dict", data := .dict #[] }) scope.names) := T.keep _ _ _ t3 fun b _ o e => pushCells_keeps _ _ _ _ (Heap.get?_push_of_some _ e)
  have none3 : ∀ b ∈ fp, (upd H2 A (.dK [])) b = none := fun b hb => (f3 b hb).1.1
  have loop := rounds_run (pos := pos) (iter := iter) (R := compPost (model X.prog X.w) X.A X.xe none (EP X pins σ Q) (.ref A) h3.objs.size) hu hc T (hg _ _ _ _ _) (ht _ _ _ _ _) (hk _ _ _ _ _) (hv _ _ _ _ _) rounds
    (fun sz Hz Iz dz => by
      have Ib : Inv X pins σ Hz sz := I3.call' (ch := fp) Iz.os Iz.base Iz.hok Iz.bare fun b hb => ⟨(f3 b hb).1.2.2.2.1, (f3 b hb).1.2.1, (f3 b hb).1.2.2.2.2.1, (f3 b hb).1.2.2.2.2.2⟩
      obtain ⟨mm, ns, _⟩ := Iz.loc
      obtain ⟨_, c1, c2, c3, c4, c5⟩ := I3.fpOk (H' := Hz) (Nat.le_refl _) Iz.free
      exact ⟨mm, ns, fun h'' same => ⟨.ref A, Hz, Ib.turned (t' := sz.toks) (fun b o hb e => (same.2 b hb).trans e) Iz.free c1 c3 c4 c5, rfl, dz⟩⟩) (m := m0) ⟨0, _, I4, ⟨t4, none3⟩, i0⟩
  exact codeAny_compStart_dict loop (T.self X.A 0 _ _ _ t4 loop)
end
end L3
/-! dict comprehensions: data -/
namespace L3
open PySem PySem.Spec L2
open PyProof.Rows hiding St
/-- a dict with y put -/
def putMO : MO → D → D → Option MO
  | .dk fs, y, v => match keyD y with
    | some k => if fs.length < sizeLine then some (.dk (putG fs k v)) else none
    | none => match fs with
      | [] => (keyN y).map fun _ => .dkt [(y, v)]
      | _ :: _ => none
  | .dkt fs, y, v => match keyN y with
    | some k => if fs.length < sizeLine then some (.dkt (putN fs k y v)) else none
    | none => none
  | .lst _, _, _ => none
  | .ins _ _, _, _ => none
def moD : MO → D
  | .dk fs => .dk fs
  | .dkt fs => .dkt fs
  | .lst _ => .non
  | .ins _ _ => .non
def putK1 {α : Type} (acc : MO) (y v : D) (k : MO → Py α) : Py α := match putMO acc y v with
  | some a => k a
  | none => Py.bad
theorem putK1_post {α : Type} {acc : MO} {y v : D} {k : MO → Py α} {M : Store} {q : α → Store → Prop} {E : Exn → Store → Prop} (p : Post (putK1 acc y v k M) q E) : ∃ a, putMO acc y v = some a ∧ Post (k a M) q E := by
  unfold putK1 at p
  cases h : putMO acc y v with
  | none => rw [h] at p; exact p.elim
  | some x => rw [h] at p; exact ⟨x, rfl, p⟩
/-- what stands at A is the dict -/
inductive MoR (K : PySem.W.Frag) (g : G) (A : Addr) : HO → MO → Prop
  | k {vs : List (Key × V)} {fs : List (Key × D)} : KQ K g vs fs → MoR K g A (.dK vs) (.dk fs)
  | n {xs : List NE} {fs : List (D × D)} : KN K g xs fs → MoR K g A (dnO g.w A xs) (.dkt fs)
theorem MoR.gro {K : PySem.W.Frag} {g g' : G} {A : Addr} {o : HO} {m : MO} (h : g.sub g') (r : MoR K g A o m) : MoR K g' A o m := by
  cases r with
  | k q => exact .k (q.gro h)
  | n q => rw [← h.w]; exact .n (q.gro h)
theorem MoR.obj {K : PySem.W.Frag} {g : G} {A : Addr} {o : HO} {m : MO} {H : Hp} (r : MoR K g A o m) (e : H A = some o) : ObjRep K g H A m := by
  cases r with
  | k q => exact ⟨_, e, q.reps⟩
  | n q => exact ⟨_, e, q.reps⟩
theorem MoR.rep {K : PySem.W.Frag} {g : G} {A : Addr} {o : HO} {m : MO} (r : MoR K g A o m) (e : g.F A = some o) : Rep K g (.ref A) (moD m) := by
  cases r with
  | k q => exact .dk e q.reps.1 q.reps.2
  | n q => exact .dkt e q.reps.1 q.reps.2.1 q.reps.2.2.1 q.reps.2.2.2
theorem MoR.put {K : PySem.W.Frag} {g : G} {A : Addr} {o : HO} {m m' : MO} {M : Store} {H : Hp} {y v : V} {dy dv : D} (r : MoR K g A o m) (R : RelH K g M H) (e : H A = some o) (ry : Rep K g y dy) (rv : Rep K g v dv) (hp : putMO m dy dv = some m') : ∃ o', MPut g.w H A y v (upd H A o') ∧ MoR K g A o' m' := by
  cases r with
  | @k vs fs q =>
    unfold putMO at hp
    dsimp only at hp
    cases hk : keyD dy with
    | some k =>
      rw [hk] at hp
      dsimp only at hp
      by_cases hl : fs.length < sizeLine
      · rw [if_pos hl] at hp
        cases hp
        exact ⟨_, .inl ⟨vs, k, e, key_rep ry hk, by rw [q.length]; exact hl, rfl⟩, .k (q.put k rv)⟩
      · rw [if_neg hl] at hp; cases hp
    | none =>
      rw [hk] at hp
      dsimp only at hp
      cases fs with
      | cons _ _ => cases hp
      | nil =>
        obtain ⟨k, e1, e2⟩ := Option.map_eq_some_iff.mp hp
        subst e2
        cases q
        obtain ⟨b, rfl, N, dk, ek⟩ := keyN_rep R ry e1
        exact ⟨_, .inr ⟨b, [], k, rfl, ⟨.inr ⟨rfl, e⟩, (fun _ h => nomatch h)⟩, N, dk, by show 0 < sizeLine; unfold sizeLine; decide, rfl⟩, .n (KN.put ry ek dk rv (KN.nil (K := K) (g := g)))⟩
  | @n xs fs q =>
    unfold putMO at hp
    dsimp only at hp
    cases hk : keyN dy with
    | some k =>
      rw [hk] at hp
      dsimp only at hp
      by_cases hl : fs.length < sizeLine
      · rw [if_pos hl] at hp
        cases hp
        obtain ⟨b, rfl, N, dk, ek⟩ := keyN_rep R ry hk
        exact ⟨_, .inr ⟨b, xs, k, rfl, dn_at R e q, N, dk, by rw [q.length]; exact hl, rfl⟩, .n (KN.put ry ek dk rv q)⟩
      · rw [if_neg hl] at hp; cases hp
    | none => rw [hk] at hp; cases hp
noncomputable def dcMD (ok : Store → Prop) (tg : D → DEnv → Py DEnv) (tt : DEnv → Py Bool) (fk fv : DEnv → Py D) (ρ : DEnv) : List D → MO → Py (MO)
  | [], acc => okM ok (Py.ret acc)
  | d :: ds, acc => okM ok (Py.bnd (tg d ρ) fun ρ1 => Py.bnd (tt ρ1) fun b => if b then Py.bnd (fk ρ1) fun y => Py.bnd (fv ρ1) fun z => putK1 acc y z fun acc' => dcMD ok tg tt fk fv ρ ds acc' else dcMD ok tg tt fk fv ρ ds acc)
noncomputable def dcMAll (vs : List Nat) (it : DEnv → Py Wk) (tg : D → DEnv → Py DEnv) (tt : DEnv → Py Bool) (fk fv : DEnv → Py D) : DEnv → Py (MO) := fun ρ => Py.bnd (it ρ) fun w => noX (dcMD w.ok tg tt fk fv (wipeD ρ vs) w.ds (.dk []))
section
variable {J : It} {n : Nat} {Gd : Hp → Prop} {Y : Nat → Hp → V → Hp → Prop}
theorem dcm_walk (wk : Walk J n Gd Y) {w : World} {t : TG} {u : TT} {tk tv : TE} {vs : List Nat} {σ : St} {H1 : Hp} {A : Addr} {fin : Hp → Prop} (at_ : Nat → Hp → Prop) (begin_ : at_ 0 (upd H1 A (.dK []))) (stands : ∀ i H, i ≤ n → at_ i H → Gd H)
    (turn : ∀ i x H H', i < n → at_ i H → Y i H x H' → RoundM w t u tk tv vs σ A x H' (at_ (i + 1))) (last : ∀ H, at_ n H → fin H) :
    ∃ inv : Nat → Nat → Hp → Prop, (∃ m, inv 0 m (upd H1 A (.dK []))) ∧ RoundsM w J t u tk tv vs σ A inv fin := by
  refine ⟨fun i m H => i + m = n ∧ at_ i H, ⟨n, by omega, begin_⟩, fun i m H hw => ?_⟩
  obtain ⟨e, a⟩ := hw
  have s := stands i H (by omega) a
  cases m with
  | zero =>
    have e' : i = n := by omega
    subst e'
    exact .inl ⟨wk.stops H s, last H a⟩
  | succ m =>
    have hlt : i < n := by omega
    exact .inr ⟨wk.goes i H hlt s, at_ (i + 1), fun H' a' => ⟨m, Nat.lt_succ_self m, by omega, a'⟩, fun x H' y => turn i x H H' hlt a (wk.yields i H x H' hlt s y)⟩
end
section
variable {C : DX} {pos : Pos} {ke ve tg iter : Expr} {ifs : List Expr} {scope : Scope} {own : List (Str × Nat)} {it : DEnv → Py Wk} {ft : D → DEnv → Py DEnv} {tt : DEnv → Py Bool} {fk fv : DEnv → Py D} {t : TG} {u : TT}
/-- the dict that is made, at its end -/
def EndDcM (C : DX) (ρ : DEnv) (g : G) (σ : St) (Q : VK) : MO → Store → Prop := fun fs M' => ∀ A H' g1 g' o, g.le g1 → RelE C.X.K g1 σ ρ → C.B.le g1 → g1.sub g' → g'.P A = some o → g1.P A = none → g1.F A = none → (∀ a, a ≠ A → g1.P a = g'.P a) → RelH C.X.K g' M' H' → MoR C.X.K g' A o fs → Q (.ref A) H'
theorem dcm_run (hi : DI C tg iter it) (hg : ∀ B s H c cl fp, DG (C.blk scope B s H c cl fp) (own.map (·.2)) tg ft t)
    (ht : DTU C scope ifs tt u) (hk : ∀ B s H c cl fp, DE (C.blk scope B s H c cl fp) ke fk) (hv : ∀ B s H c cl fp, DE (C.blk scope B s H c cl fp) ve fv) {wi : TI}
    (hwi : ∀ {g : G} {ρ : DEnv} {M : Store} {σ : St} {H : Hp} (R : It → Hp → Prop), Rl C g ρ M σ H → Post (it ρ M) (fun w M' => ∀ J H' g' Gd Y, g.le g' → Rl C g' ρ M' σ H' → WalkD C.X.K g' w J Gd Y → R J H') (C.We ρ) → wi σ H R)
    {g : G} {ρ : DEnv} {M : Store} {σ : St} {H : Hp} {Q : VK} (R : Rl C g ρ M σ H) (p : Post (dcMAll (own.map (·.2)) it ft tt fk fv ρ M) (EndDcM C ρ g σ Q) (C.We ρ)) :
    tDcM C.X.w wi t u (eltT C.X scope ke) (eltT C.X scope ve) (own.map (·.2)) σ H Q := by
  refine hwi _ R ((post_bnd.mp p).imp fun w M1 p1 J H1 g1 Gd Y l1 R1 WD => ?_)
  intro A hA
  have gP : g1.P A = none := R1.h.pnone hA
  have gF : g1.F A = none := R1.h.fnone hA
  have eW : RelE C.X.K g1 (L2.wipe σ (own.map (·.2))) (wipeD ρ (own.map (·.2))) := R1.e.wipe _
  refine dcm_walk WD.wk (fun i H' => ∃ g' M' acc o, g1.sub g' ∧ g'.P A = some o ∧ (∀ a, a ≠ A → g1.P a = g'.P a) ∧ RelH C.X.K g' M' H' ∧ MoR C.X.K g' A o acc ∧
    Post (dcMD w.ok ft tt fk fv (wipeD ρ (own.map (·.2))) (w.ds.drop i) acc M') (EndDcM C ρ g σ Q) (fun _ _ => False)) ?_ ?_ ?_ ?_
  · refine ⟨g1.bld A (.dK []), M1, .dk [], .dK [], ⟨⟨[], by simp [G.bld]⟩, fun _ _ q => q, rfl⟩, upd_same, fun a ha => ?_, R1.h.build hA, .k .nil, ?_⟩
    · show g1.P a = upd g1.P A _ a
      rw [upd_ne ha]
    · rw [List.drop_zero]
      exact noX_post p1
  · rintro i H' hi ⟨g', M', acc, o, S, hP, hPn, Rh, rp, p'⟩
    have : w.ok M' := by
      cases e : w.ds.drop i with
      | nil => rw [e] at p'; exact (okM_post p').1
      | cons d ds => rw [e] at p'; exact (okM_post p').1
    exact WD.ok S Rh this
  · rintro i x H' H2 hi ⟨g', M', acc, o, S, hP, hPn, Rh, rp, p'⟩ y
    have e : w.ds.drop i = w.ds[i] :: w.ds.drop (i + 1) := List.drop_eq_getElem_cons hi
    rw [e] at p'
    obtain ⟨ok, p2⟩ := okM_post p'
    obtain ⟨d, g2, e1, l2, R2, r⟩ := WD.it S Rh ok y
    rw [List.getElem?_eq_getElem hi] at e1
    cases e1
    have L12 : g1.sub g2 := S.trans l2.sub
    have Rb : ∀ s H0 c cl fp, Rl (C.blk scope g2 s H0 c cl fp) g2 (wipeD ρ (own.map (·.2))) M' (L2.wipe σ (own.map (·.2))) H2 := fun _ _ _ _ _ => ⟨G.le_w ((L12.w).trans R1.w), R2, eW.gro L12⟩
    refine (hg g2 C.X.s_0 H 0 [] []).run _ (Rb _ _ _ _ _) r ((post_bnd.mp p2).imp fun ρ1 M3 p3 σ3 H3 g3 l3 R3 hw => ⟨hw.trans wipe_wipe, ?_⟩)
    refine ht.run _ (fun _ _ _ _ _ => ⟨G.le_w R3.w, R3.h, R3.e⟩) ((post_bnd.mp p3).imp fun b M4 p4 H4 g4 l4 R4 => ?_)
    have P4 : g4.P A = some o := by rw [l4.P, l3.P, l2.P]; exact hP
    have P4n : ∀ a, a ≠ A → g1.P a = g4.P a := fun a ha => by rw [l4.P, l3.P, l2.P]; exact hPn a ha
    have S4 : g'.le g4 := (l2.trans l3).trans l4
    cases b with
    | false =>
      rw [if_neg Bool.false_ne_true] at p4 ⊢
      exact ⟨g4, M4, acc, o, S.trans S4.sub, P4, P4n, R4, rp.gro S4.sub, p4⟩
    | true =>
      rw [if_pos rfl] at p4 ⊢
      intro s H0 c cl fp
      refine (hk g4 s H0 c cl fp).run _ ⟨G.le_w (l4.w.trans R3.w), R4, R3.e.mono l4⟩ ((post_bnd.mp p4).imp fun y M5 p5 v H5 g5 l5 R5 r5 => ?_)
      intro s' H0' c' cl' fp'
      refine (hv g5 s' H0' c' cl' fp').run _ ⟨G.le_w R5.w, R5.h, R5.e⟩ ((post_bnd.mp p5).imp fun z M6 p6 v2 H6 g6 l6 R6 r6 => ?_)
      obtain ⟨acc', ea, p8⟩ := putK1_post p6
      have P6 : g6.P A = some o := by rw [l6.P, l5.P]; exact P4
      have S6 := S4.trans (l5.trans l6)
      have rp6 := rp.gro S6.sub
      obtain ⟨o', mp, r'⟩ := rp6.put R6.h (R6.h.prt _ _ P6).1 (r5.mono l6) r6 ea
      have B6 : g6.sub (g6.bld A o') := ⟨⟨[], by simp [G.bld]⟩, fun _ _ q => q, rfl⟩
      refine ⟨upd H6 A o', by rw [← R6.w]; exact mp, g6.bld A o', M6, acc', o', (S.trans S6.sub).trans B6, upd_same, fun a ha => ?_, R6.h.rebuild P6, r'.gro B6, p8⟩
      show g1.P a = upd g6.P A _ a
      rw [upd_ne ha, l6.P, l5.P]
      exact P4n a ha
  · rintro H' ⟨g', M', acc, o, S, hP, hPn, Rh, rp, p'⟩
    rw [List.drop_length] at p'
    obtain ⟨_, p2⟩ := okM_post p'
    exact p2 A H' g1 g' o l1 R1.e R1.b S hP gP gF hPn Rh rp
/-- what becomes of the dict: it stays, or it will change -/
structure FdOkM (C : DX) (fr : MO → Py D) : Prop where
  run : ∀ {g : G} {ρ : DEnv} {σ : St} {Q : VK} {fs : MO} {M' : Store}, Post (fr fs M') (QV C g ρ σ Q) (C.We ρ) → EndDcM C ρ g σ Q fs M'
def fdFM : MO → Py D := fun m => Py.ret (moD m)
def fdNM : MO → Py D := fun m => alloc m
theorem fd_fM : FdOkM C fdFM := by
  constructor
  intro g ρ σ Q m M' p A H' g1 g' o l1 e1 b1 S hP gP gF hPn Rh rp
  obtain ⟨L, S2⟩ := le_stay (o := o) S (Rh.prt _ _ hP).2
  exact p _ H' _ (l1.trans L) ⟨b1.trans L, Rh.built hP gP hPn, e1.mono L⟩ ((rp.gro S2).rep upd_same)
theorem fd_nM : FdOkM C fdNM := by
  constructor
  intro g ρ σ Q m M' p A H' g1 g' o l1 e1 b1 S hP gP gF hPn Rh rp
  obtain ⟨L, S2⟩ := le_live (D := A) S
  exact p _ H' _ (l1.trans L) ⟨b1.trans L, Rh.builtL hP gP hPn (rp.obj (Rh.prt _ _ hP).1), e1.mono L⟩ (loc_live Rh)
def eDcM (fr : MO → Py D) (dc : DEnv → Py (MO)) : DEnv → Py D := fun ρ => Py.bnd (dc ρ) fr
theorem de_dcM {fr : MO → Py D} {vs : List Nat} (hu : C.X.A.units + 65 < cLine) (hfr : FdOkM C fr) (hc : C.X.calm = true) (hN : C.X.N.Nodup) (hi : DI C tg iter it) (ok : BlkOk C.X.N C.X.env.scope scope own) (hg : ∀ B s H c cl fp, DG (C.blk scope B s H c cl fp) vs tg ft t)
    (ht : DTU C scope ifs tt u) (hk : ∀ B s H c cl fp, DE (C.blk scope B s H c cl fp) ke fk) (hv : ∀ B s H c cl fp, DE (C.blk scope B s H c cl fp) ve fv) (hvs : own.map (·.2) = vs := by rfl) (hs : ∀ x, foldedSetIterable iter C.X.env x = pure x := by intro _; rfl) :
    DE C (.DictComp ke ve [⟨tg, iter, ifs, 0⟩] scope pos) (eDcM fr (dcMAll vs it ft tt fk fv)) := by
  subst hvs
  obtain ⟨wi, pi, hwi⟩ := hi.run
  refine ⟨fun {g ρ M σ H} Q R p => ?_⟩
  refine wpe (pe_dcM hu hc hN pi ok (fun s H c cl fp => (hg g s H c cl fp).pg) ht.pt (fun s H c cl fp => ⟨fun pins s' σ' H' Q' I h => h s H c cl fp pins s' I⟩) (fun s H c cl fp => ⟨fun pins s' σ' H' Q' I h => h s H c cl fp pins s' I⟩) hs)
    (dcm_run hi hg ht hk hv hwi R ((post_bnd.mp p).imp fun fs M' q => hfr.run q))
end
end L3
set_option Elab.async false
set_option linter.all false
set_option maxRecDepth 100000
set_option maxHeartbeats 4000000
set_option autoImplicit false
/-! sorted of ints, of a dict's keys, at any length; max, min of a list; range by steps -/
namespace L3
open PySem PySem.Spec L2
open PyProof.Rows hiding St
section
variable {X : Cx}
def rSortDI : List V → Hp → VK → Prop := fun xs H Q => ∃ (a : Addr) (kvs : List (Key × V)) (ks : List Int), xs = [V.ref a] ∧ Rd H a (.dK kvs) ∧ kvs.map (·.1) = ks.map Sum.inl ∧
  ∀ (ys : List Int) (p : Addr), ys.Perm ks → ys.Pairwise (· ≤ ·) → H p = none → Q (.ref p) (upd H p (.lst (ys.map V.int)))
theorem cr_sortDI (calm : X.calm = true) : CallR X (.builtin "sorted") rSortDI := by
  intro pins s σ H args us Q I rargs ⟨a, kvs, ks, eargs, hd, hks, q⟩
  subst eargs
  obtain ⟨u, eu, ru⟩ := vals1 rargs
  subst eu
  obtain rfl : u = Value.ref a := ru
  obtain ⟨zk, notMods, ws, rel, dd⟩ := dk_rd I.hok hd
  obtain ⟨epoch, hat⟩ := dd.dictAt
  have keysW : ws.map (·.1) = ks.map Sum.inl := rel.keys.symm.trans hks
  have lenW : ws.length = ks.length := by simpa using congrArg List.length keysW
  have fitW : ws.length ≤ sizeLine := by rw [← rel.length]; exact zk
  refine Calls.call_function_entry PyProof.Rows.kind_sorted PyProof.Rows.plain_sorted PyProof.Rows.entry_sorted (PyProof.Rows.args_sorted1 _) ?_
  unfold Builtin.«sorted»
  refine wpAny_bind (m := checkCount "sorted" 1 1 _) (wpAny_pure ?_)
  refine wpAny_bind (PySem.W.kdu_collect (A := X.A.in1) (PySem.W.kdl_dict (knd := mixKind X.prog X.w) (kvs := ws) (ep := epoch) notMods) (I.ok.hd calm) hat fitW fun hp tk got keep hgot => ?_)
  have lenG : got.toList.length = ks.length := by rw [Array.length_toList, hgot.1, lenW]
  have allI : IntsAre got.toList ks := ints_each lenG fun j v ev => by
    obtain ⟨k, x, ex, kx⟩ := hgot.2 j v (by rw [← Array.getElem?_toList]; exact ev)
    have at_ : (ws.map (·.1))[j]? = some k := by rw [List.getElem?_map, ex]; rfl
    rw [keysW, List.getElem?_map] at at_
    obtain ⟨y, ey, eyk⟩ := Option.map_eq_some_iff.mp at_
    subst eyk
    rcases keyIs_shape (show keyIs (Sum.inl y) v = true from kx) with ⟨i, t, ek, ev⟩ | ⟨z, t, ek, ev⟩
    · cases ek; exact ⟨y, t, ey, ev⟩
    · cases ek
  have fitG : got.toList.length ≤ sizeLine := by rw [lenG, ← lenW]; exact fitW
  have I1 : Inv X pins σ H { s with heap := hp, toks := tk } := I.kept keep
  refine wpAny_bind (wpAny_newList ?_ fitG)
  have laid : (hp.push (seqObj "list" got.toList.toArray 0)).get? hp.objs.size = some (seqObj "list" got.toList.toArray 0) := Heap.get?_push_size _ rfl
  show wpAny _ _ _ _ _ { s with heap := hp.push (seqObj "list" got.toList.toArray 0), toks := tk }
  refine wpAny_bind (wpAny_holding (wpAny_call_entry PyProof.Rows.slot_list_sort ⟨_, laid, rfl⟩ PyProof.Rows.entry_list_sort
    (SrtO.list_sort_ord (s := { s with heap := hp.push (seqObj "list" got.toList.toArray 0), toks := tk }) SrtO.swo_int laid fitG (fun two => SrtO.ints_sortable allI two) fun out up st => ⟨Value.none, rfl, ?_⟩) (PyProof.Rows.args_list_sort _)))
  obtain ⟨isI, perm, asc⟩ := SrtO.ints_out allI up st
  obtain ⟨e2, he2⟩ := PyProof.Rows.sortedHeap_at (vs := got.toList) (out := out.toArray) laid
  have fitO : ((out.map SrtO.iv).map V.int).length ≤ sizeLine := by
    rw [List.length_map, perm.length_eq, ← lenW]
    exact fitW
  refine wpAny_pure ⟨_, rfl, .ref hp.objs.size, upd H hp.objs.size (.lst ((out.map SrtO.iv).map V.int)), I1.laid (t' := tk) (fun b w ew => ?_) (Nat.le_refl _)
    (show ObjOk X.prog X.w _ _ _ (.lst ((out.map SrtO.iv).map V.int)) from ⟨fitO, out, e2, vals_of_ints isI, he2⟩), rfl, q _ _ perm asc (I1.hok.fresh (Nat.le_refl _))⟩
  have lt : b < hp.objs.size := Heap.lt_size ew
  rw [PyProof.Rows.sortedHeap_old (Nat.ne_of_lt lt) (by rw [Heap.size_push]; exact Nat.lt_succ_of_lt lt)]
  exact Heap.get?_push_of_some _ ew
end
/-! ### on data -/
/-- in order -/
def sortL (ns : List Int) : List Int := ns.mergeSort fun a b => decide (a ≤ b)
theorem sortL_perm (ns : List Int) : (sortL ns).Perm ns := List.mergeSort_perm ns _
theorem sortL_asc (ns : List Int) : (sortL ns).Pairwise (· ≤ ·) := by
  have h := List.pairwise_mergeSort (le := fun a b : Int => decide (a ≤ b)) (fun a b c h1 h2 => by simp at h1 h2 ⊢; omega) (fun a b => by simp; omega) ns
  exact h.imp fun {a b} h => by simpa using h
theorem sortL_eq {ns ys : List Int} (p : ys.Perm ns) (a : ys.Pairwise (· ≤ ·)) : ys = sortL ns :=
  List.Perm.eq_of_pairwise (le := (· ≤ ·)) (fun x y _ _ h1 h2 => Int.le_antisymm h1 h2) a (sortL_asc ns) (p.trans (sortL_perm ns).symm)
def intsOf : List D → Option (List Int)
  | [] => some []
  | .int i :: r => (intsOf r).map fun ns => i :: ns
  | _ :: _ => none
theorem intsOf_eq : ∀ {ds : List D} {ns : List Int}, intsOf ds = some ns → ds = ns.map D.int
  | [], _, e => by cases e; rfl
  | d :: r, ns, e => by
    cases d with
    | int i =>
      obtain ⟨ms, e2, e3⟩ := Option.map_eq_some_iff.mp (show (intsOf r).map _ = some ns from e)
      subst e3
      rw [List.map_cons, ← intsOf_eq e2]
    | _ => cases e
theorem intsOf_map : ∀ ns : List Int, intsOf (ns.map D.int) = some ns
  | [] => rfl
  | n :: r => by
    show (intsOf (r.map D.int)).map _ = _
    rw [intsOf_map r]; rfl
theorem reps_ofInts {K : PySem.W.Frag} {g : G} : ∀ {vs : List V} {ns : List Int}, Reps K g vs (ns.map D.int) → vs = ns.map V.int
  | _, [], .nil => rfl
  | _, n :: r, .cons a b => by rw [List.map_cons, ← reps_ofInts b, rep_int a]
theorem reps_mkInts {K : PySem.W.Frag} {g : G} : ∀ ns : List Int, Reps K g (ns.map V.int) (ns.map D.int)
  | [] => .nil
  | n :: r => .cons (.int n) (reps_mkInts r)
def keyInts : List Key → Option (List Int)
  | [] => some []
  | .inl i :: r => (keyInts r).map fun ns => i :: ns
  | _ :: _ => none
theorem keyInts_eq : ∀ {ks : List Key} {ns : List Int}, keyInts ks = some ns → ks = ns.map Sum.inl
  | [], _, e => by cases e; rfl
  | k :: r, ns, e => by
    cases k with
    | inl i =>
      obtain ⟨ms, e2, e3⟩ := Option.map_eq_some_iff.mp (show (keyInts r).map _ = some ns from e)
      subst e3
      rw [List.map_cons, ← keyInts_eq e2]
    | inr i => cases e
def dkeysM (M : Store) (d : D) : Option (List Key) := match d with
  | .dk fs => some (fs.map (·.1))
  | .loc n => match M[n]? with
    | some (some (.dk fs)) => some (fs.map (·.1))
    | _ => none
  | _ => none
theorem dkeys_rep {K : PySem.W.Frag} {g : G} {M : Store} {H : Hp} {v : V} {d : D} {ks : List Key} (R : RelH K g M H) (r : Rep K g v d) (e : dkeysM M d = some ks) : ∃ a kvs, v = .ref a ∧ Rd H a (.dK kvs) ∧ kvs.map (·.1) = ks := by
  cases r with
  | dk s t z => cases e; exact ⟨_, _, rfl, .of (R.frz _ _ s), z⟩
  | @loc n a e1 =>
    have e' : (match M[n]? with | some (some (.dk fs)) => some (fs.map (·.1)) | _ => none) = some ks := e
    split at e'
    · rename_i fs h
      cases e'
      obtain ⟨a', e2, _, vs, e4, t, z⟩ := R.liv n _ h
      rw [e1] at e2; cases e2
      exact ⟨_, vs, rfl, .of e4, z⟩
    · cases e'
  | _ => cases e
/-- a new list, one that stays or one that will change -/
structure FlOk (C : DX) (fr : List D → Py D) : Prop where
  run : ∀ {g : G} {ρ : DEnv} {M : Store} {σ : St} {H : Hp} {Q : VK} {p : Addr} {vs : List V} {ds : List D}, Rl C g ρ M σ H → H p = none → Reps C.X.K g vs ds → Post (fr ds M) (QV C g ρ σ Q) (C.We ρ) → Q (.ref p) (upd H p (.lst vs))
theorem fl_f {C : DX} : FlOk C frF := ⟨fun {g ρ M σ H Q p vs ds} R hp r q => QV.lay q R hp (rep_lst_new r (R.h.fnone hp))⟩
theorem fl_n {C : DX} : FlOk C frN := ⟨fun {g ρ M σ H Q p vs ds} R hp r q => QV.make q R hp ⟨vs, upd_same, r.mono G.le_more⟩⟩
def sortK (fr : List D → Py D) : Option (List Int) → Py D
  | some ns => fr ((sortL ns).map D.int)
  | none => Py.bad
/-- sorted(d): a list of ints, a dict of ints -/
def sortD (fr : List D → Py D) (d : D) : Py D := fun M => match dkeysM M d with
  | some ks => sortK fr (keyInts ks) M
  | none => Py.bnd (litems d) (fun ds => sortK fr (intsOf ds)) M
theorem sortK_post {fr : List D → Py D} {o : Option (List Int)} {M : Store} {q : D → Store → Prop} {E : Exn → Store → Prop} (p : Post (sortK fr o M) q E) : ∃ ns, o = some ns ∧ Post (fr ((sortL ns).map D.int) M) q E := by
  cases o with
  | none => exact p.elim
  | some ns => exact ⟨ns, rfl, p⟩
section
variable {C : DX}
theorem call_or {X : Cx} {f : Value} {r r' : List V → Hp → VK → Prop} (h : CallR X f r) (h' : CallR X f r') : CallR X f (fun xs H Q => r xs H Q ∨ r' xs H Q) := by
  intro pins s σ H xs us Q I rv q
  rcases q with q | q
  · exact h pins s σ H xs us Q I rv q
  · exact h' pins s σ H xs us Q I rv q
theorem dc_sort {fr : List D → Py D} (hf : FlOk C fr) (hc : C.X.calm = true) : DCl C (.builtin "sorted") (one (sortD fr)) := dcl_one (call_or (cr_sortDI hc) cr_sortedI) fun {g ρ M σ H v d} Q R r p => by
  have p0 : Post (sortD fr d M) (QV C g ρ σ Q) (C.We ρ) := p
  unfold sortD at p0
  cases h : dkeysM M d with
  | some ks =>
    rw [h] at p0
    obtain ⟨ns, e, q⟩ := sortK_post p0
    obtain ⟨a, kvs, rfl, hd, ek⟩ := dkeys_rep R.h r h
    refine .inl ⟨a, kvs, ns, rfl, hd, ek.trans (keyInts_eq e), fun ys p perm asc hp => ?_⟩
    rw [sortL_eq perm asc]
    exact hf.run R hp (reps_mkInts _) q
  | none =>
    rw [h] at p0
    obtain ⟨a, vs, ds, rfl, hs, t, q1⟩ := litems_post R.h r (post_bnd.mp p0)
    obtain ⟨ns, e, q⟩ := sortK_post q1
    rw [intsOf_eq e] at t
    have ev := reps_ofInts t
    subst ev
    refine .inr ⟨a, ns, rfl, hs, fun ys p perm asc hp => ?_⟩
    rw [sortL_eq perm asc]
    exact hf.run R hp (reps_mkInts _) q
/-- max of a list -/
def foldK (f : List Int → Option Int) : Option (List Int) → Py D
  | some ns => match f ns with
    | some m => Py.ret (.int m)
    | none => Py.bad
  | none => Py.bad
theorem foldK_post {f : List Int → Option Int} {o : Option (List Int)} {M : Store} {q : D → Store → Prop} {E : Exn → Store → Prop} (p : Post (foldK f o M) q E) : ∃ ns m, o = some ns ∧ f ns = some m ∧ q (.int m) M := by
  cases o with
  | none => exact p.elim
  | some ns =>
    have p' : Post ((match f ns with | some m => Py.ret (.int m) | none => Py.bad : Py D) M) q E := p
    cases h : f ns with
    | none => rw [h] at p'; exact p'.elim
    | some m => rw [h] at p'; exact ⟨ns, m, rfl, h, p'⟩
def maxL : List Int → Option Int
  | [] => none
  | n :: r => some (r.foldl (fun a b => if a < b then b else a) n)
def minL : List Int → Option Int
  | [] => none
  | n :: r => some (r.foldl (fun a b => if b < a then b else a) n)
theorem max_fold : ∀ (r : List Int) (n : Int), (r.foldl (fun a b => if a < b then b else a) n) ∈ n :: r ∧ ∀ y ∈ n :: r, y ≤ r.foldl (fun a b => if a < b then b else a) n
  | [], n => ⟨by simp, by simp⟩
  | b :: r, n => by
    rw [List.foldl_cons]
    obtain ⟨h1, h2⟩ := max_fold r (if n < b then b else n)
    have hb := h2 _ (List.mem_cons_self ..)
    refine ⟨?_, fun y hy => ?_⟩
    · rcases List.mem_cons.mp h1 with h | h
      · rw [h]; split <;> simp
      · exact List.mem_cons_of_mem _ (List.mem_cons_of_mem _ h)
    · rcases List.mem_cons.mp hy with rfl | hy
      · exact Int.le_trans (by split <;> omega) hb
      · rcases List.mem_cons.mp hy with rfl | hy
        · exact Int.le_trans (by split <;> omega) hb
        · exact h2 y (List.mem_cons_of_mem _ hy)
theorem min_fold : ∀ (r : List Int) (n : Int), (r.foldl (fun a b => if b < a then b else a) n) ∈ n :: r ∧ ∀ y ∈ n :: r, r.foldl (fun a b => if b < a then b else a) n ≤ y
  | [], n => ⟨by simp, by simp⟩
  | b :: r, n => by
    rw [List.foldl_cons]
    obtain ⟨h1, h2⟩ := min_fold r (if b < n then b else n)
    have hb := h2 _ (List.mem_cons_self ..)
    refine ⟨?_, fun y hy => ?_⟩
    · rcases List.mem_cons.mp h1 with h | h
      · rw [h]; split <;> simp
      · exact List.mem_cons_of_mem _ (List.mem_cons_of_mem _ h)
    · rcases List.mem_cons.mp hy with rfl | hy
      · exact Int.le_trans hb (by split <;> omega)
      · rcases List.mem_cons.mp hy with rfl | hy
        · exact Int.le_trans hb (by split <;> omega)
        · exact h2 y (List.mem_cons_of_mem _ hy)
theorem maxL_spec {ns : List Int} {m : Int} (h : maxL ns = some m) : m ∈ ns ∧ ∀ y ∈ ns, y ≤ m := by
  cases ns with
  | nil => cases h
  | cons n r => cases h; exact max_fold r n
theorem minL_spec {ns : List Int} {m : Int} (h : minL ns = some m) : m ∈ ns ∧ ∀ y ∈ ns, m ≤ y := by
  cases ns with
  | nil => cases h
  | cons n r => cases h; exact min_fold r n
def maxLD (d : D) : Py D := Py.bnd (litems d) fun ds => foldK maxL (intsOf ds)
def minLD (d : D) : Py D := Py.bnd (litems d) fun ds => foldK minL (intsOf ds)
theorem dc_maxL (hc : C.X.calm = true) : DCl C (.builtin "max") (one maxLD) := dcl_one (cr_max hc) fun {g ρ M σ H v d} Q R r p => by
  obtain ⟨a, vs, ds, rfl, hs, t, q1⟩ := litems_post R.h r (post_bnd.mp p)
  obtain ⟨ns, m, e, e2, q⟩ := foldK_post q1
  rw [intsOf_eq e] at t
  have ev := reps_ofInts t
  subst ev
  obtain ⟨h1, h2⟩ := maxL_spec e2
  refine ⟨a, ns, rfl, hs, List.length_pos_of_mem h1, fun m' h3 h4 => ?_⟩
  have : m' = m := Int.le_antisymm (h2 _ h3) (h4 _ h1)
  rw [this]
  exact QV.here q R (.int _)
theorem dc_minL (hc : C.X.calm = true) : DCl C (.builtin "min") (one minLD) := dcl_one (cr_min hc) fun {g ρ M σ H v d} Q R r p => by
  obtain ⟨a, vs, ds, rfl, hs, t, q1⟩ := litems_post R.h r (post_bnd.mp p)
  obtain ⟨ns, m, e, e2, q⟩ := foldK_post q1
  rw [intsOf_eq e] at t
  have ev := reps_ofInts t
  subst ev
  obtain ⟨h1, h2⟩ := minL_spec e2
  refine ⟨a, ns, rfl, hs, List.length_pos_of_mem h1, fun m' h3 h4 => ?_⟩
  have : m' = m := Int.le_antisymm (h4 _ h1) (h2 _ h3)
  rw [this]
  exact QV.here q R (.int _)
def sumLD (d : D) : Py D := Py.bnd (litems d) fun ds => foldK (fun ns => some ns.sum) (intsOf ds)
theorem dc_sumL (hc : C.X.calm = true) : DCl C (.builtin "sum") (one sumLD) := dcl_one (cr_sum hc) fun {g ρ M σ H v d} Q R r p => by
  obtain ⟨a, vs, ds, rfl, hs, t, q1⟩ := litems_post R.h r (post_bnd.mp p)
  obtain ⟨ns, m, e, e2, q⟩ := foldK_post q1
  rw [intsOf_eq e] at t
  have ev := reps_ofInts t
  subst ev
  cases e2
  exact ⟨a, ns, rfl, hs, QV.here q R (.int _)⟩
/-! ### range(a, b, -1) -/
def rngDn (i j : Int) : List D := (List.range (i - j).toNat).map fun k => .int (i - (k : Nat))
theorem rngDn_len {i j : Int} : (rngDn i j).length = (i - j).toNat := by unfold rngDn; simp
theorem rngDn_get {i j : Int} {k : Nat} (h : k < (i - j).toNat) : (rngDn i j)[k]? = some (.int (i - (k : Nat))) := by
  unfold rngDn
  rw [List.getElem?_map, List.getElem?_range h]
  rfl
def rngW3 : List D → Py Wk
  | [.int i, .int j, .int c] => Py.chk (-(2 ^ 62) ≤ i ∧ i < 2 ^ 62 ∧ -(2 ^ 62) ≤ j ∧ j < 2 ^ 62 ∧ c = -1) (Py.ret ⟨rngDn i j, fun _ => True⟩)
  | _ => Py.bad
theorem rngW3_post {ds : List D} {M : Store} {q : Wk → Store → Prop} {E : Exn → Store → Prop} (p : Post (rngW3 ds M) q E) : ∃ i j, ds = [.int i, .int j, .int (-1)] ∧ (-(2 ^ 62) ≤ i ∧ i < 2 ^ 62 ∧ -(2 ^ 62) ≤ j ∧ j < 2 ^ 62) ∧ q ⟨rngDn i j, fun _ => True⟩ M := by
  unfold rngW3 at p
  split at p
  · rename_i i j c
    obtain ⟨⟨h1, h2, h3, h4, rfl⟩, q⟩ := post_chk.mp p
    exact ⟨i, j, rfl, ⟨h1, h2, h3, h4⟩, q⟩
  · exact p.elim
def iRng3D (ff : DEnv → Py (List D)) : DEnv → Py Wk := fun ρ => Py.bnd (ff ρ) rngW3
theorem walkD_rngDn {K : PySem.W.Frag} {g : G} {i j : Int} {ok : Store → Prop} : WalkD K g ⟨rngDn i j, ok⟩ (Itc i (-1) (i - j).toNat) (fun _ => True) (fun k H x H' => k < (i - j).toNat ∧ H' = H ∧ x = .int (i + (k : Nat) * (-1))) where
  wk := by
    show Walk _ (rngDn i j).length _ _
    rw [rngDn_len]
    exact ⟨fun _ _ hi _ => hi, fun _ _ => Nat.le_refl _, fun _ _ _ _ hi _ y => ⟨hi, y⟩⟩
  ok := fun _ _ _ => trivial
  it := fun {g' M H H' k x} l R o y => by
    obtain ⟨hk, rfl, rfl⟩ := y
    refine ⟨_, g', rngDn_get hk, G.le.refl g', R, ?_⟩
    rw [show i + (k : Nat) * (-1 : Int) = i - (k : Nat) by omega]
    exact .int _
theorem di_rng3 {tg a b c : Expr} {ff : DEnv → Py (List D)} {p pos : Pos} (hm : C.X.mg "range" = none) (ha : DA C [a, b, c] ff) (hg : Gl C.X "range" := by rfl) (hs : starEach [a, b, c] C.X.env = (false, eval a C.X.env) :: starEach [b, c] C.X.env := by rfl) (hpl : (backTo pos (starEach [b, c] C.X.env)).any (·.1) = false := by rfl) :
    DI C tg (.Call (.Name "range" p) [a, b, c] [] pos) (iRng3D ff) :=
  ⟨_, pi_range3 hg hm self_a hs hpl, fun {g ρ M σ H} R Rr p => by
    refine ha.then_ Rr p fun vs ds M1 H1 g1 l1 R1 r1 p1 => ?_
    obtain ⟨i, j, rfl, ⟨b1, b2, b3, b4⟩, q⟩ := rngW3_post p1
    cases r1 with
    | cons x1 t1 => cases t1 with
      | cons x2 t2 => cases t2 with
        | cons x3 t3 =>
          cases t3
          exact ⟨i, j, -1, _, by rw [rep_int x1, rep_int x2, rep_int x3], RgC.neg b1 b2 b3 b4, q _ H1 g1 _ _ l1 R1 walkD_rngDn⟩⟩
end
end L3
set_option Elab.async false
set_option linter.all false
set_option maxRecDepth 100000
set_option maxHeartbeats 4000000
set_option autoImplicit false
/-! instances of own classes: made, read, stored, their methods -/
namespace L3
open PySem PySem.Spec L2
open PyProof.Rows hiding St
/-- the class named C has plain fields, of these names -/
structure ClsF (K : PySem.W.Frag) (C : Str) (fs : List Str) : Prop where
  c : Cls K (He.ga K C)
  n : ∀ f ∈ fs, NoAttr K (He.ga K C) f
section
variable {K : PySem.W.Frag} {g g' : G}
theorem KQ.lookup {f : Str} : ∀ {vs : List (Str × V)} {fs : List (Str × D)}, KQ K g vs fs → RO K g (vs.lookup f) (fs.lookup f)
  | _, _, .nil => True.intro
  | _, _, .cons (k := k) r t => by
    rw [List.lookup_cons, List.lookup_cons]
    by_cases e : f == k
    · rw [e]; exact r
    · have e' : (f == k) = false := by simpa using e
      rw [e']; exact KQ.lookup t
/-- a field of an instance -/
def fldM (M : Store) (f : Str) (Cs : List Str) : D → Option D
  | .ins C fs => if C ∈ Cs then fs.lookup f else none
  | .loc n => match M[n]? with
    | some (some (.ins C fs)) => if C ∈ Cs then fs.lookup f else none
    | _ => none
  | _ => none
theorem fld_rep {M : Store} {H : Hp} {v : V} {x d : D} {f : Str} {Cs : List Str} (R : RelH K g M H) (rx : Rep K g v x) (e : fldM M f Cs x = some d) : ∃ a C dx fs w, C ∈ Cs ∧ v = .ref a ∧ H a = some (.ins (He.ga K C) dx fs) ∧ fs.lookup f = some w ∧ Rep K g w d := by
  have fin : ∀ {C : Str} {fs : List (Str × D)} {vs : List (Str × V)} {a dx : Addr}, H a = some (.ins (He.ga K C) dx vs) → KQ K g vs fs → (if C ∈ Cs then fs.lookup f else none) = some d → ∃ a' C dx fs w, C ∈ Cs ∧ V.ref a = .ref a' ∧ H a' = some (.ins (He.ga K C) dx fs) ∧ fs.lookup f = some w ∧ Rep K g w d := by
    intro C fs vs a dx hH kq h
    by_cases hc : C ∈ Cs
    · rw [if_pos hc] at h
      have ro := KQ.lookup (f := f) kq
      rw [h] at ro
      cases hv : vs.lookup f with
      | none => rw [hv] at ro; exact ro.elim
      | some w => rw [hv] at ro; exact ⟨a, C, dx, vs, w, hc, rfl, hH, hv, ro⟩
    · rw [if_neg hc] at h; cases h
  cases rx with
  | ins s t z => exact fin (R.frz _ _ s) (KQ.of t z) e
  | @loc n a e1 =>
    have e' : (match M[n]? with | some (some (.ins C fs)) => (if C ∈ Cs then fs.lookup f else none) | _ => none) = some d := e
    split at e'
    · rename_i C fs h
      obtain ⟨a', e2, _, dx, vs, e4, t, z⟩ := R.liv n _ h
      rw [e1] at e2; cases e2
      exact fin e4 (KQ.of t z) e'
    · cases e'
  | _ => cases e
end
/-- o.f -/
def fldD (f : Str) (Cs : List Str) (x : D) : Py D := fun M => match fldM M f Cs x with
  | some d => .ok d M
  | none => .bad
def eFld (f : Str) (Cs : List Str) (fo : DEnv → Py D) : DEnv → Py D := fun ρ => Py.bnd (fo ρ) (fldD f Cs)
section
variable {C : DX} {e : Expr} {f : DEnv → Py D} {pos : Pos}
theorem de_fld {n : Str} {Cs : List Str} (hC : ∀ c ∈ Cs, Cls C.X.K (He.ga C.X.K c) ∧ NoAttr C.X.K (He.ga C.X.K c) n) (h : DE C e f) (hb : attributeBase e n C.X.env (eval e C.X.env) = eval e C.X.env := by rfl) : DE C (.Attribute e n pos) (eFld n Cs f) := ⟨fun {g ρ M σ H} Q R p => by
  refine wpe (pe_fld self_e hb) (h.then_ R p fun v d M1 H1 g1 l1 R1 r1 p1 => ?_)
  unfold fldD at p1
  cases hd : fldM M1 n Cs d with
  | none => rw [hd] at p1; exact p1.elim
  | some y =>
    rw [hd] at p1
    obtain ⟨a, c, dx, fs, w, hc, rfl, hH, hw, rw'⟩ := fld_rep R1.h r1 hd
    exact ⟨a, _, dx, fs, w, rfl, hH, (hC c hc).1, (hC c hc).2, hw, QV.here (QV.later (g' := g1) p1 l1) R1 rw'⟩⟩
end
/-! ### a field stored -/
def putFD (f : Str) (d : D) : List (Str × D) → List (Str × D)
  | [] => [(f, d)]
  | (h, x) :: r => if h = f then (h, d) :: r else (h, x) :: putFD f d r
theorem KQ.putF {K : PySem.W.Frag} {g : G} {f : Str} {v : V} {d : D} (r : Rep K g v d) : ∀ {vs : List (Str × V)} {fs : List (Str × D)}, KQ K g vs fs → KQ K g (L2.putF f v vs) (putFD f d fs)
  | _, _, .nil => .cons r .nil
  | _, _, .cons (k := k) r2 t => by
    unfold L2.putF putFD
    by_cases e : k = f
    · rw [if_pos e, if_pos e]; exact .cons r t
    · rw [if_neg e, if_neg e]; exact .cons r2 (KQ.putF r t)
/-- o.f = d -/
def setFldK (n : Nat) (f : Str) (Cs : List Str) (d : D) : Py Unit := fun M => match M[n]? with
  | some (some (.ins C fs)) => if C ∈ Cs ∧ fs.length < 1000 then .ok () (M.set n (some (.ins C (putFD f d fs)))) else .bad
  | _ => .bad
def setFld (f : Str) (Cs : List Str) (d : D) : D → Py Unit
  | .loc n => setFldK n f Cs d
  | _ => Py.bad
theorem setFld_post {K : PySem.W.Frag} {g : G} {M : Store} {H : Hp} {f : Str} {Cs : List Str} {d x : D} {v w : V} {q : Unit → Store → Prop} {E : Exn → Store → Prop} (R : RelH K g M H) (rx : Rep K g v x) (rd : Rep K g w d) (p : Post (setFld f Cs d x M) q E) :
    ∃ a C dx fs M', C ∈ Cs ∧ v = .ref a ∧ H a = some (.ins (He.ga K C) dx fs) ∧ fs.length < 1000 ∧ q () M' ∧ RelH K g M' (upd H a (.ins (He.ga K C) dx (L2.putF f w fs))) := by
  cases x with
  | loc n =>
    cases rx with
    | @loc n a e1 =>
      have p' : Post (setFldK n f Cs d M) q E := p
      unfold setFldK at p'
      split at p'
      · rename_i C fs h
        obtain ⟨a', e2, _, dx, vs, e4, t, z⟩ := R.liv n _ h
        rw [e1] at e2; cases e2
        have kq := KQ.of t z
        by_cases hc : C ∈ Cs ∧ fs.length < 1000
        · rw [if_pos hc] at p'
          exact ⟨a, C, dx, vs, _, hc.1, rfl, e4, by rw [kq.length]; exact hc.2, p', R.put h e1 ⟨dx, _, upd_same, (KQ.putF rd kq).reps⟩⟩
        · rw [if_neg hc] at p'; exact p'.elim
      · exact p'.elim
  | _ => exact p.elim
def sFldD (f : Str) (Cs : List Str) (fo fv : DEnv → Py D) : DEnv → Py Fl := fun ρ => Py.bnd (fv ρ) fun d => Py.bnd (fo ρ) fun x => Py.bnd (setFld f Cs d x) fun _ => Py.ret (.nx ρ)
theorem ds_fld {C : DX} {o value : Expr} {fo fv : DEnv → Py D} {n : Str} {Cs : List Str} {pos pos' : Pos} (hC : ∀ c ∈ Cs, Cls C.X.K (He.ga C.X.K c) ∧ NoAttr C.X.K (He.ga C.X.K c) n) (ho : DE C o fo) (hv : DE C value fv)
    (hs : swapsWith value (some (.Attribute o n pos')) pos.line C.X.env = pure false := by rfl) : DS C (.Assign [.Attribute o n pos'] value pos) (sFldD n Cs fo fv) := ⟨fun {g ρ M σ H} E R p =>
  wps (ps_fld self_e self_e hs) (hv.then_ R p fun v d M1 H1 g1 l1 R1 r1 p1 => ho.then_ R1 p1 fun x o' M2 H2 g2 l2 R2 r2 p2 => by
    obtain ⟨a, c, dx, fs, M', hc, rfl, hH, hl, q, R'⟩ := setFld_post R2.h r2 (r1.mono l2) (post_bnd.mp p2)
    exact ⟨a, _, dx, fs, rfl, hH, (hC c hc).1, (hC c hc).2, hl, q _ _ g2 (l1.trans l2) (R2.next (G.le.refl g2) R')⟩)⟩
/-! ### made -/
theorem RelH.stray {K : PySem.W.Frag} {g : G} {M : Store} {H : Hp} (R : RelH K g M H) {p : Addr} {o : HO} (h : H p = none) : RelH K g M (upd H p o) := by
  refine ⟨fun a u q => ?_, fun a u q => ?_, R.len, fun n x e => ?_, R.inj⟩
  · rw [upd_ne (ne_of_none (R.frz _ _ q) h)]; exact R.frz _ _ q
  · obtain ⟨q1, q2⟩ := R.prt _ _ q
    rw [upd_ne (ne_of_none q1 h)]
    exact ⟨q1, q2⟩
  · obtain ⟨a, e1, e2, x1⟩ := R.liv n x e
    obtain ⟨u, hu⟩ := x1.there
    exact ⟨a, e1, e2, x1.mono ⟨⟨[], by simp⟩, fun _ _ q => q, rfl⟩ (upd_ne (ne_of_none hu h))⟩
/-- what an __init__ has made is an instance that stays -/
def mkEnd (C : Str) (n : Nat) : D → Py D
  | .non => fun M => match M[n]? with
    | some (some (.ins C' fs)) => if C' = C then .ok (.ins C fs) (M.set n none) else .bad
    | _ => .bad
  | _ => Py.bad
/-- C(..) -/
def mkD (C : Str) (k : Nat) (m : List D → Py D) (ds : List D) : Py D := fun M => if ds.length + 1 = k then Py.bnd (m (.loc M.length :: ds)) (mkEnd C M.length) (M ++ [some (.ins C [])]) else .bad
/-- the class named C is made by m -/
structure Mkr (P : Program) (w : World) (K : PySem.W.Frag) (mg : Str → Option Value) (base : Heap) (CX : CXT) (k : Nat) (C : Str) (n : Nat) (m : List D → Py D) : Prop where
  ex : ∃ f fd ps, Mk K (He.ga K C) f ∧ FnG P w K mg base CX k f fd ps (spD K w n m) ∧ mg C = some (.ref (He.ga K C)) ∧ Binds K fd ps []
theorem mkEnd_post {C : Str} {n : Nat} {d : D} {M : Store} {q : D → Store → Prop} {E : Exn → Store → Prop} (p : Post (mkEnd C n d M) q E) : d = .non ∧ ∃ fs, M[n]? = some (some (.ins C fs)) ∧ q (.ins C fs) (M.set n none) := by
  cases d with
  | non =>
    have p' : Post ((match M[n]? with | some (some (.ins C' fs)) => if C' = C then .ok (.ins C fs) (M.set n none) else .bad | _ => .bad : Out D)) q E := p
    split at p'
    · rename_i C' fs h
      by_cases e : C' = C
      · rw [if_pos e] at p'
        subst e
        exact ⟨rfl, fs, h, p'⟩
      · rw [if_neg e] at p'; exact p'.elim
    · exact p'.elim
  | _ => exact p.elim
end L3
set_option Elab.async false
set_option linter.all false
set_option maxRecDepth 100000
set_option maxHeartbeats 4000000
set_option autoImplicit false
/-! C(..), o.m(..), what they raise wished for at the caller's slots -/
namespace L3
open PySem PySem.Spec L2
open PyProof.Rows hiding St
section
variable {X : Cx} {CX : CXT} {k : Nat} {f A : Addr} {fd : FuncData} {ps : List Str} {sp : Sp} {E : St → XK} {x m : Str} {p pos apos : Pos} {e o : Expr} {es : List Expr} {ta : TE} {t : TA}
theorem making {pins : List (Addr × Obj)} {σ : St} {H : Hp} {s : Shared} {Q : VK} {us : List Value} {vs : List V} (mk : Mk X.K A f) (F : FnG X.prog X.w X.K X.mg X.base CX k f fd ps sp) (room : RoomG (k + 1) X.A) (bind_ : Binds X.K fd ps [])
    (pass : PassesAt CX X σ (E σ)) (J : Inv X pins σ H s) (rel : Vals vs us)
    (wish : ∀ a d, H a = none → H d = none → d ≠ a → sp (.ref a :: vs) (upd (upd H d (.own a)) a (.ins A d [])) (fun v H2 => v = .non ∧ Q (.ref a) H2) (E σ)) :
    wpAny (model X.prog X.w) X.A (call (.ref A) us) (EP X pins σ Q) X.xe s := by
  let d := s.heap.objs.size
  have want := wish (d + 1) d (J.hok.fresh (Nat.le_succ _)) (J.hok.fresh (Nat.le_refl _)) (Nat.ne_of_lt (Nat.lt_succ_self _))
  have J2 := Inv.made (C := A) J
  have rel2 : Vals (V.ref (d + 1) :: vs) (Value.ref (d + 1) :: us) := .cons rfl rel
  have count : (Value.ref (d + 1) :: us).length = ps.length := rel2.length.symm.trans (F.many _ _ _ _ want)
  have bound := bind_ _ (Value.ref (d + 1) :: us) J2.kIn (by rw [List.append_nil]; exact count)
  rw [List.append_nil] at bound
  have ran := F.go _ X.stack _ _ ⟨Value.ref (d + 1) :: us, []⟩ (Value.ref (d + 1) :: us) _ _ (E σ) (room.make A us []) (J2.env0.make A us []) bound rel2 want
  refine wpAny_call (make_map (f := f) J.kIn mk.makes mk.init (beq_iff_eq.mp mk.fn) (codeAny_mono ran fun r s' got => ?_))
  rcases r with e | fl
  · exact pass pins _ _ e s' J2 got
  · rcases fl with _ | _ | _ | u
    all_goals first
      | exact (False.elim got)
      | (obtain ⟨v, H', J3, rv, ev, q3⟩ := J2.after got
         subst ev
         exact ⟨rv, ⟨V.ref (d + 1), H', J3, rfl, q3⟩⟩)
def tMakeS (A : Addr) (sp : Sp) (E : St → XK) (t : TA) : TE := fun σ H Q => t σ H fun vs H1 => ∀ a d, H1 a = none → H1 d = none → d ≠ a → sp (.ref a :: vs) (upd (upd H1 d (.own a)) a (.ins A d [])) (fun v H2 => v = .non ∧ Q (.ref a) H2) (E σ)
theorem pe_makeS (mk : Mk X.K A f) (F : FnG X.prog X.w X.K X.mg X.base CX k f fd ps sp) (room : RoomG (k + 1) X.A) (hg : Gl X x) (hm : X.mg x = some (.ref A)) (bind_ : Binds X.K fd ps []) (pass : ∀ σ, PassesAt CX X σ (E σ))
    (ha : PA X (e :: es) t) (hdb : (x == ("__debug__" : Str)) = false := by decide) (he : starEach (e :: es) X.env = (false, eval e X.env) :: starEach es X.env := by rfl) (hpl : (backTo pos (starEach es X.env)).any (·.1) = false := by rfl) :
    PE X (.Call (.Name x p) (e :: es) [] pos) (tMakeS A sp E t) := by
  refine ⟨fun pins s σ H Q J h => wpAny_Call_Name_kw (ld_glob J hg hm ?_ hdb)⟩
  exact PySem.W.callWith_K (h₀ := X.base) J.ok.mod.kin mk.kp (thn (ha.run pos pins s σ H _ J h) fun us s1 ⟨vs, H1, J1, r, q⟩ => ⟨J1.kIn, making mk F room bind_ (pass σ) J1 r q⟩) he hpl
def tMethS' (A : Addr) (m : Str) (sp : Sp) (E : St → XK) (ta : TE) (t : TA) : TE := fun σ H Q => ta σ H fun x H1 => ∃ a d fs, x = .ref a ∧ H1 a = some (.ins A d fs) ∧ fs.lookup m = none ∧ t σ H1 fun vs H2 => sp (x :: vs) H2 Q (E σ)
theorem pe_methS' {pl : Sem Bool} (ho : PE X o ta) (c : Cls X.K A) (hm : Meth X.K A m f) (F : FnG X.prog X.w X.K X.mg X.base CX k f fd ps sp) (room : RoomG k X.A) (bind_ : Binds X.K fd ps []) (pass : ∀ σ, PassesAt CX X σ (E σ)) (ha : PA X (e :: es) t)
    (hst : starEach (e :: es) X.env = (false, eval e X.env) :: starEach es X.env := by rfl) (hpl : (backTo pos (starEach es X.env)).any (·.1) = false := by rfl)
    (ht : eval (.Call (.Attribute o m apos) (e :: es) [] pos) X.env = (do
      let ov ← eval o X.env
      standAt apos.atName
      let (f, first) ← holding [ov] (getMethod ov m pl)
      callWith pos f first (backTo pos (starEach (e :: es) X.env)) (backToKw pos (keywordEach [] X.env))) := by rfl) :
    PE X (.Call (.Attribute o m apos) (e :: es) [] pos) (tMethS' A m sp E ta t) := by
  refine ⟨fun pins s σ H Q J h => PySem.W.methodCall_KW (pl := pl) (thn (ho.run pins s σ H _ J h) fun u s1 ⟨x, H1, J1, rx, a, d, fs, ex, ea, l, q⟩ => ?_) ht⟩
  subst ex
  obtain rfl : u = Value.ref a := rx
  refine getmeth_ok J1 ea c hm l ?_
  exact PySem.W.callWith_K (first := [.ref a]) (h₀ := X.base) J.ok.mod.kin hm.kp (thn (ha.run pos pins s1 σ H1 _ J1 q) fun us s2 ⟨vs, H2, J2, r, q2⟩ => ⟨J2.kIn, runG (us := .ref a :: us) (xs := .ref a :: vs) F room bind_ (pass σ) J2 (.cons rfl r) q2⟩) hst hpl
end
/-- the methods of a class -/
structure Mth (P : Program) (w : World) (K : PySem.W.Frag) (mg : Str → Option Value) (base : Heap) (CX : CXT) (k : Nat) (C x : Str) (n : Nat) (m : List D → Py D) : Prop where
  ex : ∃ f fd ps, Cls K (He.ga K C) ∧ Meth K (He.ga K C) x f ∧ FnG P w K mg base CX k f fd ps (spD K w n m) ∧ Binds K fd ps []
/-- it is an instance of the class, without this field -/
def insOf (M : Store) (C x : Str) : D → Bool
  | .ins C' fs => decide (C' = C) && (fs.lookup x).isNone
  | .loc n => match M[n]? with
    | some (some (.ins C' fs)) => decide (C' = C) && (fs.lookup x).isNone
    | _ => false
  | _ => false
theorem insOf_rep {K : PySem.W.Frag} {g : G} {M : Store} {H : Hp} {v : V} {C x : Str} {d : D} (R : RelH K g M H) (r : Rep K g v d) (h : insOf M C x d = true) : ∃ a dx fs, v = .ref a ∧ H a = some (.ins (He.ga K C) dx fs) ∧ fs.lookup x = none := by
  have fin : ∀ {C' : Str} {fs : List (Str × D)} {vs : List (Str × V)}, KQ K g vs fs → (decide (C' = C) && (fs.lookup x).isNone) = true → C' = C ∧ vs.lookup x = none := by
    intro C' fs vs kq h
    obtain ⟨h1, h2⟩ := Bool.and_eq_true_iff.mp h
    refine ⟨of_decide_eq_true h1, ?_⟩
    have ro := KQ.lookup (f := x) kq
    cases hv : vs.lookup x with
    | none => rfl
    | some w =>
      rw [hv] at ro
      cases hf : fs.lookup x with
      | none => rw [hf] at ro; exact ro.elim
      | some y => rw [hf] at h2; cases h2
  cases r with
  | ins s t z =>
    obtain ⟨rfl, e⟩ := fin (KQ.of t z) h
    exact ⟨_, _, _, rfl, R.frz _ _ s, e⟩
  | @loc n a e1 =>
    have h' : (match M[n]? with | some (some (.ins C' fs)) => decide (C' = C) && (fs.lookup x).isNone | _ => false) = true := h
    split at h'
    · rename_i C' fs hh
      obtain ⟨a', e2, _, dx, vs, e4, t, z⟩ := R.liv n _ hh
      rw [e1] at e2; cases e2
      obtain ⟨rfl, e⟩ := fin (KQ.of t z) h'
      exact ⟨_, dx, vs, rfl, e4, e⟩
    · cases h'
  | _ => cases h
def chkIns (C x : Str) (d : D) : Py Unit := fun M => if insOf M C x d = true then .ok () M else .bad
theorem chkIns_post {C x : Str} {d : D} {M : Store} {q : Unit → Store → Prop} {E : Exn → Store → Prop} (p : Post (chkIns C x d M) q E) : insOf M C x d = true ∧ q () M := by
  unfold chkIns at p
  by_cases h : insOf M C x d = true
  · rw [if_pos h] at p; exact ⟨h, p⟩
  · rw [if_neg h] at p; exact p.elim
/-- o.m(..) -/
def eMeth (C x : Str) (n : Nat) (m : List D → Py D) (fo : DEnv → Py D) (ff : DEnv → Py (List D)) : DEnv → Py D := fun ρ => Py.bnd (fo ρ) fun o => Py.bnd (chkIns C x o) fun _ => Py.bnd (ff ρ) fun ds => nargs n m (o :: ds)
section
variable {C : DX} {CX : CXT} {k n : Nat} {x c : Str} {p pos apos : Pos} {e o : Expr} {es : List Expr} {ff : DEnv → Py (List D)} {fo : DEnv → Py D} {m : List D → Py D}
theorem de_meth (D' : Mth C.X.prog C.X.w C.X.K C.X.mg C.X.base CX k c x n m) (hr : RoomG k C.X.A) (tk : TkD C CX) (ho : DE C o fo) (ha : DA C (e :: es) ff) {pl : Sem Bool}
    (he : starEach (e :: es) C.X.env = (false, eval e C.X.env) :: starEach es C.X.env := by rfl) (hpl : (backTo pos (starEach es C.X.env)).any (·.1) = false := by rfl)
    (ht : eval (.Call (.Attribute o x apos) (e :: es) [] pos) C.X.env = (do
      let ov ← eval o C.X.env
      standAt apos.atName
      let (f, first) ← holding [ov] (getMethod ov x pl)
      callWith pos f first (backTo pos (starEach (e :: es) C.X.env)) (backToKw pos (keywordEach [] C.X.env))) := by rfl) : DE C (.Call (.Attribute o x apos) (e :: es) [] pos) (eMeth c x n m fo ff) := by
  obtain ⟨f, fd, ps, cl, hm, F, hb⟩ := D'.ex
  refine ⟨fun {g ρ M σ H} Q R p => wpe (pe_methS' self_e cl hm F hr hb tk self_a he hpl ht) (ho.then_ R p fun v d M1 H1 g1 l1 R1 r1 p1 => ?_)⟩
  obtain ⟨hi, p2⟩ := chkIns_post (post_bnd.mp p1)
  obtain ⟨a, dx, fs, rfl, hH, hl⟩ := insOf_rep R1.h r1 hi
  refine ⟨a, dx, fs, rfl, hH, hl, ha.then_ R1 p2 fun vs ds M2 H2 g2 l2 R2 r2 p3 => ?_⟩
  obtain ⟨hn, p4⟩ := post_chk.mp p3
  have rr : Reps C.X.K g2 (.ref a :: vs) (d :: ds) := .cons (r1.mono l2) r2
  exact sp_run R2 rr (by rw [rr.length]; exact hn) p4 fun _ _ q => q.later (l1.trans l2)
/-- C(..) -/
theorem de_make (D' : Mkr C.X.prog C.X.w C.X.K C.X.mg C.X.base CX k x n m) (hr : RoomG (k + 1) C.X.A) (tk : TkD C CX) (ha : DA C (e :: es) ff) (hg : Gl C.X x := by rfl) (hdb : (x == ("__debug__" : Str)) = false := by decide)
    (he : starEach (e :: es) C.X.env = (false, eval e C.X.env) :: starEach es C.X.env := by rfl) (hpl : (backTo pos (starEach es C.X.env)).any (·.1) = false := by rfl) : DE C (.Call (.Name x p) (e :: es) [] pos) (eCall (mkD x n m) ff) := by
  obtain ⟨f, fd, ps, mk, F, hm, hb⟩ := D'.ex
  refine ⟨fun {g ρ M σ H} Q R p => wpe (pe_makeS mk F hr hg hm hb tk self_a hdb he hpl) (ha.then_ R p fun vs ds M1 H1 g1 l1 R1 r1 p1 => ?_)⟩
  intro a d na nd ne
  have p2 : Post (mkD x n m ds M1) (QV C g ρ σ Q) (C.We ρ) := p1
  unfold mkD at p2
  by_cases hn : ds.length + 1 = n
  · rw [if_pos hn] at p2
    have na' : (upd H1 d (.own a)) a = none := by rw [upd_ne (Ne.symm ne)]; exact na
    have hl := R1.h.len
    have Rm := (R1.h.stray (o := .own a) nd).made (u := .ins (He.ga C.X.K x) d []) (o := .ins x []) na' ⟨d, [], upd_same, .nil, rfl⟩
    have L : g1.le (g1.more a) := G.le_more
    have rl : Rep C.X.K (g1.more a) (.ref a) (.loc M1.length) := .loc (by
      show (g1.io ++ [a])[M1.length]? = some a
      rw [← hl, List.getElem?_concat_length])
    have rr : Reps C.X.K (g1.more a) (.ref a :: vs) (.loc M1.length :: ds) := .cons rl (r1.mono L)
    refine ⟨by rw [rr.length]; exact hn, _, _, _, (show (g1.more a).w = C.X.w from R1.w), Rm, rr, (post_bnd.mp p2).mono (fun d' M2 z v H2 g2 l2 R2 r2 => ?_) fun ex M2 z cc dx H2 g2 l2 R2 xr => ⟨ex, ρ, M2, g2, R1.b.trans (L.trans l2), R2, R1.e.mono (L.trans l2), xr, z⟩⟩
    obtain ⟨rfl, fs, hM, q⟩ := mkEnd_post z
    have ev := rep_non r2
    subst ev
    refine ⟨rfl, ?_⟩
    obtain ⟨a2, ea, _, dx, ws, hH, t, zz⟩ := R2.liv _ _ hM
    have ia : g2.io[M1.length]? = some a := by
      cases rl.mono l2 with
      | loc e1 => exact e1
    rw [ia] at ea; cases ea
    obtain ⟨L3, R3⟩ := R2.freeze hM ia hH
    exact q (.ref a) H2 _ (((l1.trans L).trans l2).trans L3) ⟨R1.b.trans ((L.trans l2).trans L3), R3, R1.e.mono ((L.trans l2).trans L3)⟩ (.ins upd_same (t.mono L3) zz)
  · rw [if_neg hn] at p2; exact p2.elim
end
end L3
set_option Elab.async false
set_option linter.all false
set_option maxRecDepth 100000
set_option maxHeartbeats 4000000
set_option autoImplicit false
/-! == by an own __eq__ -/
namespace L3
open PySem PySem.Spec L2
open PyProof.Rows hiding St
section
variable {X : Cx} {n : Nat} {A f : Addr} {fd : FuncData} {ps : List Str} {sp : Sp}
def rEqI (A : Addr) (sp : Sp) : R2 := fun x y H Q => ∃ a b d e fs gs, x = .ref a ∧ y = .ref b ∧ H a = some (.ins A d fs) ∧ H b = some (.ins A e gs) ∧ sp [x, y] H (fun v H' => (∃ k, v = .bl k) ∧ Q v H') (fun _ _ _ => False)
theorem op_eqI (F : FnG X.prog X.w X.K X.mg X.base (L2.CX X.prog X.w) n f fd ps sp) (hm : Meth X.K A "__eq__" f) (room : RoomG n X.A) (bind_ : Binds X.K fd ps []) : OpR X (compareOp .Eq) (rEqI A sp) := by
  intro pins s σ H x y v u Q J rx ry ⟨a, b, d, e, fs, gs, ex, ey, ha, hb, want⟩
  subst ex ey
  obtain rfl : v = Value.ref a := rx
  obtain rfl : u = Value.ref b := ry
  show wpAny (model X.prog X.w) X.A (richCompare .Eq (.ref a) (.ref b)) (EP X pins σ Q) X.xe s
  obtain ⟨_, oa, _⟩ := ins_get J.hok ha
  obtain ⟨_, ob, _⟩ := ins_get J.hok hb
  obtain ⟨_, la, _⟩ := oa.look
  obtain ⟨_, lb, _⟩ := ob.look
  obtain ⟨m, hF⟩ := J.fr
  refine PySem.W.cmp_K (op := .Eq) (tb := .ref A) room.room.units0 hF J.ok.mod.kin la lb.type (by simp [PySem.W.notFirst]) hm.at_ hm.fn ?_
  have two : Vals [V.ref a, V.ref b] [Value.ref a, Value.ref b] := .cons rfl (.cons rfl .nil)
  have count : [Value.ref a, Value.ref b].length = ps.length := two.length.symm.trans (F.many _ _ _ _ want)
  have bound := bind_ s [.ref a, .ref b] J.kIn (by rw [List.append_nil]; exact count)
  rw [List.append_nil] at bound
  refine wpAny_call (codeAny_mono (F.go X.A X.stack s H ⟨[.ref a, .ref b], []⟩ [.ref a, .ref b] [.ref a, .ref b] _ _ room J.env0 bound two want) fun r s' got => ?_)
  rcases r with e | fl
  · obtain ⟨_, _, _, _, _, _, _, _, _, _, _, _, z⟩ := got
    exact z.elim
  · rcases fl with _ | _ | _ | w
    all_goals first
      | exact (False.elim got)
      | (obtain ⟨z, H', J', rz, ⟨k, ez⟩, q⟩ := J.after got
         subst ez
         cases rz
         exact ⟨.bl k, H', J', rfl, q⟩)
end
/-- both are instances of the class -/
def insC (M : Store) (C : Str) : D → Bool
  | .ins C' _ => decide (C' = C)
  | .loc n => match M[n]? with
    | some (some (.ins C' _)) => decide (C' = C)
    | _ => false
  | _ => false
theorem insC_rep {K : PySem.W.Frag} {g : G} {M : Store} {H : Hp} {v : V} {C : Str} {d : D} (R : RelH K g M H) (r : Rep K g v d) (h : insC M C d = true) : ∃ a dx fs, v = .ref a ∧ H a = some (.ins (He.ga K C) dx fs) := by
  cases r with
  | ins s t z =>
    have e := of_decide_eq_true (show decide (_ = C) = true from h)
    subst e
    exact ⟨_, _, _, rfl, R.frz _ _ s⟩
  | @loc n a e1 =>
    have h' : (match M[n]? with | some (some (.ins C' _)) => decide (C' = C) | _ => false) = true := h
    split at h'
    · rename_i C' fs hh
      have e := of_decide_eq_true h'
      subst e
      obtain ⟨a', e2, _, dx, vs, e4, t, z⟩ := R.liv n _ hh
      rw [e1] at e2; cases e2
      exact ⟨_, dx, vs, rfl, e4⟩
    · cases h'
  | _ => cases h
def isBl : D → Bool
  | .bl _ => true
  | _ => false
/-- the flag that m tells -/
def flagD (d : D) : Py D := Py.chk (isBl d = true) (Py.ret d)
/-- x == y: instances of C by m, else data -/
def eqC (C : Str) (m : List D → Py D) (x y : D) : Py D := fun M => if insC M C x = true ∧ insC M C y = true then Py.bnd (noX (m [x, y])) flagD M else eqS false x y M
theorem do_eqC {C : DX} {k : Nat} {c : Str} {m : List D → Py D} (D' : Mth C.X.prog C.X.w C.X.K C.X.mg C.X.base (L2.CX C.X.prog C.X.w) k c "__eq__" 2 m) (hr : RoomG k C.X.A) : DOp C (compareOp .Eq) (eqC c m) := by
  obtain ⟨f, fd, ps, cl, hm, F, hb⟩ := D'.ex
  refine DOp.of ((op_eqI F hm hr hb).or (op_eq.or (op_eqD hr.units))) fun {g ρ M σ H x y dx dy} Q R rx ry p => ?_
  have p' : Post (eqC c m dx dy M) (QV C g ρ σ Q) (C.We ρ) := p
  unfold eqC at p'
  by_cases h : insC M c dx = true ∧ insC M c dy = true
  · rw [if_pos h] at p'
    left
    obtain ⟨a, d, fs, ea, ha⟩ := insC_rep R.h rx h.1
    obtain ⟨b, e, gs, eb, hb⟩ := insC_rep R.h ry h.2
    refine ⟨a, b, d, e, fs, gs, ea, eb, ha, hb, rfl, g, M, [dx, dy], R.w, R.h, .cons rx (.cons ry .nil), (noX_post (post_bnd.mp p')).mono (fun d' M' z v H' g' l R' r' => ?_) fun _ _ z => z.elim⟩
    obtain ⟨hf, q⟩ := post_chk.mp z
    cases d' with
    | bl k =>
      have ev := rep_bl r'
      subst ev
      exact ⟨⟨k, rfl⟩, q _ H' g' l (R.next l R') (.bl k)⟩
    | _ => cases hf
  · rw [if_neg h] at p'
    right
    rcases eqS_cases p' with ⟨a, b, rfl, rfl, q⟩ | p2
    · left
      rw [rep_str rx, rep_str ry]
      exact ⟨scal_str, by rw [dec_strV]; exact QV.here q R (.bl _)⟩
    · right
      obtain ⟨a, b, e1, e2, s1, s2, q⟩ := eqP_post p2
      exact ⟨a, b, dpm_of R.h rx e1, dpm_of R.h ry e2, s1, s2, QV.here q R (.bl _)⟩
end L3
set_option Elab.async false
set_option linter.all false
set_option maxRecDepth 100000
set_option maxHeartbeats 4000000
set_option autoImplicit false
/-! isinstance of own classes; a head with more facts -/
namespace L3
open PySem PySem.Spec L2
open PyProof.Rows hiding St
/-- what isinstance asks of a class of its own -/
structure IsC (K : PySem.W.Frag) (C : Str) : Prop where
  c : Cls K (He.ga K C)
  k : ((PySem.W.clsIn K (He.ga K C)).isSome && PySem.W.typeIn K (.ref (He.ga K C)) == some (.type "type")) = true
  a : PySem.W.findIn K (.ref (He.ga K C)) "__class__" = some (some (.builtin "object.__class__"))
  n : PySem.W.specialIn K (.builtin "object.__class__") "__get__" = some (some (.builtin "getset_descriptor.__get__"))
  t : PySem.W.takesIn K (.builtin "object.__class__") = some true
  m : PySem.W.mroIn K (He.ga K C) (.type "object") = some true
theorem sub_own {K : PySem.W.Frag} {A : Addr} {t : String} (h : t ∈ tyNames) : PySem.W.subIn K (.type t) (.ref A) = some false := by
  simp only [tyNames, List.mem_cons, List.not_mem_nil, or_false] at h
  rcases h with rfl | rfl | rfl | rfl | rfl | rfl | rfl <;> rfl
theorem kit_own {K : PySem.W.Frag} {C : Str} (i : IsC K C) {t : String} (h : t ∈ tyNames) : PySem.W.kitOne K (.type t) (.ref (He.ga K C)) = some false := by
  unfold PySem.W.kitOne PySem.W.kitCls
  rw [if_neg (by intro z; cases (eq_of_beq z))]
  dsimp only
  rw [if_pos i.k]
  exact sub_own h
theorem kit_self {K : PySem.W.Frag} {C : Str} : PySem.W.kitOne K (.ref (He.ga K C)) (.ref (He.ga K C)) = some true := by
  unfold PySem.W.kitOne
  rw [if_pos (by simp)]
/-- isinstance(x, C) -/
def isC (C : Str) (d : D) : Py D := fun M => match tyN M d with
  | some _ => .ok (.bl false) M
  | none => if insC M C d = true then .ok (.bl true) M else .bad
theorem isC_post {C : Str} {d : D} {M : Store} {q : D → Store → Prop} {E : Exn → Store → Prop} (p : Post (isC C d M) q E) : (∃ t, tyN M d = some t ∧ q (.bl false) M) ∨ (insC M C d = true ∧ q (.bl true) M) := by
  unfold isC at p
  cases h : tyN M d with
  | some t => rw [h] at p; exact .inl ⟨t, rfl, p⟩
  | none =>
    rw [h] at p
    dsimp only at p
    by_cases hc : insC M C d = true
    · rw [if_pos hc] at p; exact .inr ⟨hc, p⟩
    · rw [if_neg hc] at p; exact p.elim
section
variable {C : DX} {x y : Str} {p2 : Pos} {fa : DEnv → Py D} {a : Expr} {p pos : Pos}
theorem de_isC (i : IsC C.X.K x) (gm : C.X.mg x = some (.ref (He.ga C.X.K x))) (hm : C.X.mg "isinstance" = none) (ha : DE C a fa) (hgx : Gl C.X x := by rfl) (hg : Gl C.X "isinstance" := by rfl) (hdx : (x == ("__debug__" : Str)) = false := by decide)
    (hs : starEach [a, .Name x p2] C.X.env = (false, eval a C.X.env) :: starEach [.Name x p2] C.X.env := by rfl) (hs2 : starEach [.Name x p2] C.X.env = [(false, eval (.Name x p2) C.X.env)] := by rfl) (hpl : (backTo pos (starEach [.Name x p2] C.X.env)).any (·.1) = false := by rfl) :
    DE C (.Call (.Name "isinstance" p) [a, .Name x p2] [] pos) (fun ρ => Py.bnd (fa ρ) (isC x)) := ⟨fun {g ρ M σ H} Q R p => by
  refine wpe (pe_callB call_isi hg hm boot_isinstance (pa_cons self_e (pa_cons (pe_glob (v := .ref (He.ga C.X.K x)) hgx gm rfl hdx) pa_nil hs2) hs) (by decide) (by decide) hs hpl) (ha.then_ R p fun v d M1 H1 g1 l1 R1 r1 p1 => ?_)
  rcases isC_post p1 with ⟨t, ht, q⟩ | ⟨hi, q⟩
  · obtain ⟨ty, hmem⟩ := tyN_ok R1.h r1 ht
    exact ⟨v, .ref (He.ga C.X.K x), .type t, .ref (He.ga C.X.K x), false, rfl, .own _, ty, kit_own i hmem, QV.here (QV.later (g' := g1) q l1) R1 (.bl _)⟩
  · obtain ⟨b, dx, fs, rfl, hH⟩ := insC_rep R1.h r1 hi
    exact ⟨_, .ref (He.ga C.X.K x), .ref (He.ga C.X.K x), .ref (He.ga C.X.K x), true, rfl, .own _, .base (.ins hH i.c i.a i.n i.t i.m), kit_self, QV.here (QV.later (g' := g1) q l1) R1 (.bl _)⟩⟩
end
/-! ### a head with more facts -/
abbrev XF : Type := PySem.W.Frag → Bool
def obsX (ex : List XF) (fa : List He.Fa) (fn : List He.DefD) (K : PySem.W.Frag) : Bool × He.AlD := (ex.all fun f => f K, He.obsD fa fn K)
def obsXG (n : Nat) (ex : List XF) (fa : List He.Fa) (fn : List He.DefD) (g : Addr → Option Obj) : Bool × He.AlD := obsX ex fa fn (He.frG g (He.asD g n))
def hookX (n : Nat) (ex : List XF) (fa : List He.Fa) (fn : List He.DefD) : PySem.W.Hook where
  α := Bool × He.AlD
  obs := fun s => obsXG n ex fa fn s.heap.get?
  val := fun _ => (true, He.valD fn)
  says := fun _ h => ∃ K : PySem.W.Frag, K.In h ∧ obsX ex fa fn K = (true, He.valD fn)
  of := fun _ _ e => ⟨_, He.frG_in, e⟩
  keeps := fun _ _ _ ⟨K, hK, c⟩ k => ⟨K, PySem.W.Frag.In.keeps hK k, c⟩
theorem obsXG_eq {n : Nat} {ex : List XF} {fa : List He.Fa} {fn : List He.DefD} {g : Addr → Option Obj} {s : Shared} (h : ∀ a, g a = s.heap.get? a) : obsXG n ex fa fn g = (hookX n ex fa fn).obs s := by
  have e : g = s.heap.get? := funext h
  rw [e] <;> rfl
theorem obsX_says {ex : List XF} {fa : List He.Fa} {fn : List He.DefD} {K : PySem.W.Frag} (c : obsX ex fa fn K = (true, He.valD fn)) : He.SaysD fa fn K := congrArg (fun z : Bool × He.AlD => z.2) c
theorem obsX_fact {ex : List XF} {fa : List He.Fa} {fn : List He.DefD} {K : PySem.W.Frag} (c : obsX ex fa fn K = (true, He.valD fn)) (i : Nat) {f : XF} (h : ex[i]? = some f := by rfl) : f K = true :=
  List.all_eq_true.mp (show (ex.all fun f => f K) = true from congrArg (fun z : Bool × He.AlD => z.1) c) f (List.mem_of_getElem? h)
/-- the facts of IsC -/
def isCB (C : Str) : XF := fun K => ((PySem.W.clsIn K (He.ga K C)).isSome && PySem.W.typeIn K (.ref (He.ga K C)) == some (.type "type")) && (He.eqO (PySem.W.findIn K (.ref (He.ga K C)) "__class__") (some (some (.builtin "object.__class__"))) &&
  (He.eqO (PySem.W.specialIn K (.builtin "object.__class__") "__get__") (some (some (.builtin "getset_descriptor.__get__"))) && (decide (PySem.W.takesIn K (.builtin "object.__class__") = some true) && decide (PySem.W.mroIn K (He.ga K C) (.type "object") = some true))))
theorem isCB_ok {K : PySem.W.Frag} {C : Str} (c : Cls K (He.ga K C)) (h : isCB C K = true) : IsC K C := by
  obtain ⟨h1, h2⟩ := He.ba h
  obtain ⟨h3, h4⟩ := He.ba h2
  obtain ⟨h5, h6⟩ := He.ba h4
  obtain ⟨h7, h8⟩ := He.ba h6
  exact ⟨c, h1, He.eqO_ok h3, He.eqO_ok h5, of_decide_eq_true h7, of_decide_eq_true h8⟩
end L3
set_option Elab.async false
set_option linter.all false
set_option maxRecDepth 100000
set_option maxHeartbeats 4000000
set_option autoImplicit false
/-! texts; x in y for any y -/
namespace L3
open PySem PySem.Spec L2
open PyProof.Rows hiding St
theorem reps_ofStrs {K : PySem.W.Frag} {g : G} {vs : List V} {ds : List D} {zs : List Str} (r : Reps K g vs ds) (e : strsOf ds = some zs) : vs = zs.map V.str := strsOf_rep r e
theorem reps_mkStrs {K : PySem.W.Frag} {g : G} : ∀ zs : List Str, Reps K g (zs.map V.str) (zs.map D.str)
  | [] => .nil
  | n :: r => .cons (.str n) (reps_mkStrs r)
/-- sep.join(rows) -/
def joinK (a : Str) : Option (List Str) → Py D
  | some ys => Py.chk ((ys.map (·.length)).sum + ys.length * a.length ≤ 16777216) (Py.ret (.str (Txt.join a ys)))
  | none => Py.bad
def joinY (a : Str) (d : D) : Py D := Py.bnd (items d) fun ds => joinK a (strsOf ds)
def joinD (o : D) (ds : List D) : Py D := match o, ds with
  | .str a, [d] => joinY a d
  | _, _ => Py.bad
theorem joinD_post {o : D} {ds : List D} {M : Store} {q : D → Store → Prop} {E : Exn → Store → Prop} (p : Post (joinD o ds M) q E) : ∃ a d, o = .str a ∧ ds = [d] ∧ Post (joinY a d M) q E := by
  cases o with
  | str a =>
    cases ds with
    | nil => exact p.elim
    | cons d r =>
      cases r with
      | nil => exact ⟨a, d, rfl, rfl, p⟩
      | cons _ _ => exact p.elim
  | _ => exact p.elim
theorem joinK_post {a : Str} {o : Option (List Str)} {M : Store} {q : D → Store → Prop} {E : Exn → Store → Prop} (p : Post (joinK a o M) q E) : ∃ ys, o = some ys ∧ (ys.map (·.length)).sum + ys.length * a.length ≤ 16777216 ∧ q (.str (Txt.join a ys)) M := by
  cases o with
  | none => exact p.elim
  | some ys => obtain ⟨h, q⟩ := post_chk.mp p; exact ⟨ys, rfl, h, q⟩
section
variable {C : DX}
theorem dm_join : DMt C "str.join" joinD := by
  refine ⟨_, mt_join, fun {g ρ M σ H x dx xs ds} Q R rx rxs p => ?_⟩
  obtain ⟨a, d, rfl, rfl, p1⟩ := joinD_post p
  obtain ⟨v, rfl, r1⟩ := rxs.one
  obtain ⟨b, vs, es, rfl, hs, t, p2⟩ := items_post R.h r1 (post_bnd.mp p1)
  obtain ⟨ys, e, hz, q⟩ := joinK_post p2
  have ev := reps_ofStrs t e
  subst ev
  exact ⟨a, b, ys, rep_str rx, rfl, hs, hz, QV.here q R (.str _)⟩
/-- a.split(b) -/
def splitD (fr : List D → Py D) (o : D) (ds : List D) : Py D := match o, ds with
  | .str a, [.str b] => Py.chk ((b.length == 0) = false ∧ a.length + 2 ≤ sizeLine) (fr ((Txt.split a b).map D.str))
  | _, _ => Py.bad
theorem splitD_post {fr : List D → Py D} {o : D} {ds : List D} {M : Store} {q : D → Store → Prop} {E : Exn → Store → Prop} (p : Post (splitD fr o ds M) q E) : ∃ a b, o = .str a ∧ ds = [.str b] ∧ (b.length == 0) = false ∧ a.length + 2 ≤ sizeLine ∧ Post (fr ((Txt.split a b).map D.str) M) q E := by
  unfold splitD at p
  split at p
  · obtain ⟨⟨h1, h2⟩, q⟩ := post_chk.mp p
    exact ⟨_, _, rfl, rfl, h1, h2, q⟩
  · exact p.elim
theorem dm_split {fr : List D → Py D} (hf : FlOk C fr) : DMt C "str.split" (splitD fr) := by
  refine ⟨_, mt_split, fun {g ρ M σ H x dx xs ds} Q R rx rxs p => ?_⟩
  obtain ⟨a, b, rfl, rfl, h1, h2, q⟩ := splitD_post p
  obtain ⟨v, rfl, r1⟩ := rxs.one
  exact ⟨a, b, rep_str rx, by rw [rep_str r1], h1, h2, fun p hp => hf.run R hp (reps_mkStrs _) q⟩
/-- int(x): a number, a flag, a text of figures -/
def intU (d : D) : Py D := match d with
  | .str a => (match PySem.intText? a with
    | some n => Py.chk (a.length ≤ 640) (Py.ret (.int n))
    | none => Py.bad)
  | d => intD d
theorem dc_intU : DCl C (.type "int") (one intU) := dcl_one (call_or call_int1 call_int_str) fun {g ρ M σ H v d} Q R r p => by
  cases d with
  | int i => exact .inl (.inl ⟨i, by rw [rep_int r], QV.here p R (.int _)⟩)
  | bl i => exact .inl (.inr ⟨i, by rw [rep_bl r], QV.here p R (.int _)⟩)
  | str a =>
    have p' : Post ((match PySem.intText? a with | some n => Py.chk (a.length ≤ 640) (Py.ret (.int n)) | none => Py.bad : Py D) M) (QV C g ρ σ Q) (C.We ρ) := p
    cases h : PySem.intText? a with
    | none => rw [h] at p'; exact p'.elim
    | some n =>
      rw [h] at p'
      obtain ⟨hl, q⟩ := post_chk.mp p'
      exact .inr ⟨a, n, by rw [rep_str r], h, hl, QV.here q R (.int _)⟩
  | _ => exact p.elim
def strU (d : D) : Py D := match d with
  | .str a => Py.ret (.str a)
  | d => strD d
theorem dc_strU : DCl C (.type "str") (one strU) := dcl_one (call_or call_str_int SkE.call_str_str) fun {g ρ M σ H v d} Q R r p => by
  cases d with
  | int i => exact .inl ⟨i, by rw [rep_int r], (post_chk.mp p).1, QV.here (post_chk.mp p).2 R (.str _)⟩
  | str a => exact .inr ⟨a, by rw [rep_str r], QV.here p R (.str _)⟩
  | _ => exact p.elim
end
/-! ### x in y -/
section
variable {X : Cx}
def rInDT (K : PySem.W.Frag) (neg : Bool) : R2 := fun x y H Q => ∃ d ds, Dp K H x d ∧ (Dp K H y (.list ds) ∨ Dp K H y (.tuple ds)) ∧ SeqAt.shaped d = true ∧ SeqAt.shaped (.list ds) = true ∧ Q (.bl (if neg then !ds.any fun z => PyData.eqv z d else ds.any fun z => PyData.eqv z d)) H
theorem op_inDT (hu : X.A.units + 65 < cLine) : OpR X (compareOp .In) (rInDT X.K false) := by
  intro pins s σ H x y v u Q I rx ry ⟨d, ds, hd, he, sd, se, q⟩
  obtain ⟨as, r1⟩ := Dp.reads I d x v hd rx
  rcases he with he | he
  · obtain ⟨bs, r2⟩ := Dp.reads I (.list ds) y u he ry
    exact SeqAt.in_list_reads r2 r1 (SeqAt.canLay_of_shaped se) (SeqAt.canLay_of_shaped sd) (room_in_shaped sd hu) ⟨.bl _, H, I, rfl, q⟩
  · obtain ⟨bs, r2⟩ := Dp.reads I (.tuple ds) y u he ry
    exact SeqAt.in_tuple_reads r2 r1 (SeqAt.canLay_of_shaped se) (SeqAt.canLay_of_shaped sd) (room_in_shaped sd hu) ⟨.bl _, H, I, rfl, q⟩
theorem op_notInDT (hu : X.A.units + 65 < cLine) : OpR X (compareOp .NotIn) (rInDT X.K true) := by
  intro pins s σ H x y v u Q I rx ry ⟨d, ds, hd, he, sd, se, q⟩
  obtain ⟨as, r1⟩ := Dp.reads I d x v hd rx
  rcases he with he | he
  · obtain ⟨bs, r2⟩ := Dp.reads I (.list ds) y u he ry
    exact SeqAt.notIn_list_reads r2 r1 (SeqAt.canLay_of_shaped se) (SeqAt.canLay_of_shaped sd) (room_in_shaped sd hu) ⟨.bl _, H, I, rfl, q⟩
  · obtain ⟨bs, r2⟩ := Dp.reads I (.tuple ds) y u he ry
    exact SeqAt.notIn_tuple_reads r2 r1 (SeqAt.canLay_of_shaped se) (SeqAt.canLay_of_shaped sd) (room_in_shaped sd hu) ⟨.bl _, H, I, rfl, q⟩
end
/-- x in a list or tuple, by data -/
def inDeep (neg : Bool) (x y : D) : Py D := fun M => match pyM M x, pyM M y with
  | some d, some (.list ds) => if SeqAt.shaped d && SeqAt.shaped (.list ds) then .ok (.bl (if neg then !ds.any fun z => PyData.eqv z d else ds.any fun z => PyData.eqv z d)) M else .bad
  | some d, some (.tuple ds) => if SeqAt.shaped d && SeqAt.shaped (.list ds) then .ok (.bl (if neg then !ds.any fun z => PyData.eqv z d else ds.any fun z => PyData.eqv z d)) M else .bad
  | _, _ => .bad
theorem inDeep_post {neg : Bool} {x y : D} {M : Store} {q : D → Store → Prop} {E : Exn → Store → Prop} (p : Post (inDeep neg x y M) q E) : ∃ d ds, pyM M x = some d ∧ (pyM M y = some (.list ds) ∨ pyM M y = some (.tuple ds)) ∧ SeqAt.shaped d = true ∧ SeqAt.shaped (.list ds) = true ∧ q (.bl (if neg then !ds.any fun z => PyData.eqv z d else ds.any fun z => PyData.eqv z d)) M := by
  unfold inDeep at p
  split at p
  · rename_i d ds h1 h2
    split at p
    · rename_i h
      obtain ⟨a, b⟩ := Bool.and_eq_true_iff.mp h
      exact ⟨d, ds, h1, .inl h2, a, b, p⟩
    · exact p.elim
  · rename_i d ds h1 h2
    split at p
    · rename_i h
      obtain ⟨a, b⟩ := Bool.and_eq_true_iff.mp h
      exact ⟨d, ds, h1, .inr h2, a, b, p⟩
    · exact p.elim
  · exact p.elim
/-- a sign in a text -/
def signOf : List Nat → Str → Py D
  | [c], z => Py.ret (.bl (decide (c ∈ z.cps.toList)))
  | _, _ => Py.bad
def inSign (x : D) (z : Str) : Py D := match x with
  | .str y => signOf y.cps.toList z
  | _ => Py.bad
/-- x in y: a dict, a text, a list or tuple -/
def inU (x y : D) : Py D := fun M => if isDk M y = true then inK false x y M else match y with
  | .str z => inSign x z M
  | _ => inDeep false x y M
def notInU (x y : D) : Py D := fun M => if isDk M y = true then inK true x y M else inDeep true x y M
section
variable {C : DX}
theorem signOf_post : ∀ {cs : List Nat} {z : Str} {M : Store} {q : D → Store → Prop} {E : Exn → Store → Prop}, Post (signOf cs z M) q E → ∃ c, cs = [c] ∧ q (.bl (decide (c ∈ z.cps.toList))) M
  | [], _, _, _, _, p => p.elim
  | [c], _, _, _, _, p => ⟨c, rfl, p⟩
  | _ :: _ :: _, _, _, _, _, p => p.elim
theorem inSign_post {x : D} {z : Str} {M : Store} {q : D → Store → Prop} {E : Exn → Store → Prop} (p : Post (inSign x z M) q E) : ∃ c, x = .str ⟨#[c]⟩ ∧ q (.bl (decide (c ∈ z.cps.toList))) M := by
  cases x with
  | str y =>
    obtain ⟨c, e, q⟩ := signOf_post p
    refine ⟨c, ?_, q⟩
    have : y = ⟨#[c]⟩ := by
      cases y with
      | mk a => exact congrArg Str.mk (Array.ext' e)
    rw [this]
  | _ => exact p.elim
theorem do_inU (hu : C.X.A.units + 65 < cLine) : DOp C (compareOp .In) inU := DOp.of ((op_inX hu).or ((op_inDT hu).or op_in_sign)) fun {g ρ M σ H x y dx dy} Q R rx ry p => by
  have p' : Post (inU dx dy M) (QV C g ρ σ Q) (C.We ρ) := p
  unfold inU at p'
  by_cases h : isDk M dy = true
  · rw [if_pos h] at p'
    obtain ⟨o, e, q⟩ := inK_post p'
    obtain ⟨a, o', ea, hg, ro⟩ := dget_rep R.h ry rx e
    refine .inl ⟨a, o', ea, by rw [← R.w]; exact hg, ?_⟩
    rw [ro.isSome]
    exact QV.here q R (.bl _)
  · rw [if_neg h] at p'
    have deep : Post (inDeep false dx dy M) (QV C g ρ σ Q) (C.We ρ) → rInDT C.X.K false x y H Q := fun p => by
      obtain ⟨d, ds, e1, e2, s1, s2, q⟩ := inDeep_post p
      exact ⟨d, ds, dpm_of R.h rx e1, e2.imp (dpm_of R.h ry) (dpm_of R.h ry), s1, s2, QV.here q R (.bl _)⟩
    cases dy with
    | str z =>
      obtain ⟨c, rfl, q⟩ := inSign_post p'
      exact .inr (.inr ⟨c, z, rep_str rx, rep_str ry, QV.here q R (.bl _)⟩)
    | _ => exact .inr (.inl (deep p'))
theorem do_notInU (hu : C.X.A.units + 65 < cLine) : DOp C (compareOp .NotIn) notInU := DOp.of ((op_notInX hu).or (op_notInDT hu)) fun {g ρ M σ H x y dx dy} Q R rx ry p => by
  have p' : Post (notInU dx dy M) (QV C g ρ σ Q) (C.We ρ) := p
  unfold notInU at p'
  by_cases h : isDk M dy = true
  · rw [if_pos h] at p'
    obtain ⟨o, e, q⟩ := inK_post p'
    obtain ⟨a, o', ea, hg, ro⟩ := dget_rep R.h ry rx e
    refine .inl ⟨a, o', ea, by rw [← R.w]; exact hg, ?_⟩
    rw [ro.isSome]
    exact QV.here q R (.bl _)
  · rw [if_neg h] at p'
    obtain ⟨d, ds, e1, e2, s1, s2, q⟩ := inDeep_post p'
    exact .inr ⟨d, ds, dpm_of R.h rx e1, e2.imp (dpm_of R.h ry) (dpm_of R.h ry), s1, s2, QV.here q R (.bl _)⟩
end
end L3
set_option Elab.async false
set_option linter.all false
set_option maxRecDepth 100000
set_option maxHeartbeats 4000000
set_option autoImplicit false
/-! zip of two lists or two tuples -/
namespace L3
open PySem PySem.Spec L2 RZ
open PyProof.Rows hiding St
def zipD : List D → List D → List D
  | d :: ds, e :: es => .tup [d, e] :: zipD ds es
  | _, _ => []
theorem zipD_length : ∀ (ds es : List D), (zipD ds es).length = min ds.length es.length
  | [], es => by simp [zipD]
  | d :: ds, [] => by simp [zipD]
  | d :: ds, e :: es => by
    show (zipD ds es).length + 1 = _
    rw [zipD_length ds es]
    simp only [List.length_cons]
    omega
theorem zipD_get : ∀ (ds es : List D) (i : Nat) (d e : D), ds[i]? = some d → es[i]? = some e → (zipD ds es)[i]? = some (.tup [d, e])
  | [], _, _, _, _, h, _ => by simp at h
  | _ :: _, [], _, _, _, _, h => by simp at h
  | a :: ds, b :: es, 0, d, e, h, k => by
    have h' : some a = some d := by simpa using h
    have k' : some b = some e := by simpa using k
    cases h'
    cases k'
    rfl
  | a :: ds, b :: es, i + 1, d, e, h, k => by
    have h' : ds[i]? = some d := by simpa using h
    have k' : es[i]? = some e := by simpa using k
    show (zipD ds es)[i]? = _
    exact zipD_get ds es i d e h' k'
theorem zipD_inv : ∀ (ds es : List D) (i : Nat), i < ds.length → i < es.length → ∃ d e, ds[i]? = some d ∧ es[i]? = some e ∧ (zipD ds es)[i]? = some (.tup [d, e]) := fun ds es i h k =>
  ⟨ds[i], es[i], by simp [h], by simp [k], zipD_get ds es i _ _ (by simp [h]) (by simp [k])⟩
def zipL (d e : D) : Py Wk := Py.bnd (wkL d) fun w => Py.bnd (wkL e) fun w' => Py.ret ⟨zipD w.ds w'.ds, fun M => w.ok M ∧ w'.ok M⟩
def zipP (d e : D) : Py Wk := match d with
  | .tup xs => (match e with
    | .tup ys => Py.ret ⟨zipD xs ys, fun _ => True⟩
    | _ => Py.bad)
  | d => zipL d e
def wkZip : List D → Py Wk
  | [d, e] => zipP d e
  | _ => Py.bad
theorem wkZip_post {ds : List D} {M : Store} {q : Wk → Store → Prop} {E : Exn → Store → Prop} (p : Post (wkZip ds M) q E) : ∃ d e, ds = [d, e] ∧ ((∃ xs ys, d = .tup xs ∧ e = .tup ys ∧ q ⟨zipD xs ys, fun _ => True⟩ M) ∨ Post (zipL d e M) q E) := by
  unfold wkZip at p
  split at p
  · rename_i d e
    refine ⟨d, e, rfl, ?_⟩
    cases d with
    | tup xs =>
      cases e with
      | tup ys => exact .inl ⟨xs, ys, rfl, rfl, p⟩
      | _ => exact p.elim
    | _ => exact .inr p
  · exact p.elim
section
variable {C : DX} {a b : Expr} {ff : DEnv → Py (List D)} {p pos : Pos}
def iZipD (ff : DEnv → Py (List D)) : DEnv → Py Wk := fun ρ => Py.bnd (ff ρ) wkZip
theorem wkL_stays {d : D} {w : Wk} {M M' : Store} (h : wkL d M = .ok w M') : M' = M := by
  cases d with
  | loc n =>
    have h' : ((match M[n]? with | some (some (.lst xs)) => .ok ⟨xs, fun M' => M'[n]? = some (some (.lst xs))⟩ M | _ => .bad) : Out Wk) = .ok w M' := h
    split at h'
    · cases h'; rfl
    · cases h'
  | _ => first | (cases h; rfl) | cases h
theorem di_zip {tpos : Pos} {elts : List Expr} {kk : Nat} (hm : C.X.mg "zip" = none) (ha : DA C [a, b] ff) (hg : Gl C.X "zip" := by rfl)
    (hs : starEach [a, b] C.X.env = (false, eval a C.X.env) :: starEach [b] C.X.env := by rfl) (hpl : (backTo pos (starEach [b] C.X.env)).any (·.1) = false := by rfl) : DI C (.Tuple elts kk tpos) (.Call (.Name "zip" p) [a, b] [] pos) (iZipD ff) :=
  ⟨_, RZ.pi_zipA hg hm self_a hs hpl, fun {g ρ M σ H} R Rr p => by
    refine ha.then_ Rr p fun vs ds M1 H1 g1 l1 R1 r1 p1 => ?_
    obtain ⟨d, e, rfl, p2⟩ := wkZip_post p1
    obtain ⟨v, v', rfl, r, r'⟩ := r1.two
    rcases p2 with ⟨xs, ys, rfl, rfl, q⟩ | p2
    · cases r with
      | @tup a1 us ds1 s t =>
        cases r' with
        | @tup a2 us' ds2 s' t' =>
          refine ⟨a1, a2, us, us', rfl, .inr ⟨.of (R1.h.frz _ _ s), .of (R1.h.frz _ _ s'), q _ H1 g1 (fun H => SqT C.X.K H a1 us ∧ SqT C.X.K H a2 us') (fun i H v H' => ∃ T x y, v = .ref T ∧ H T = none ∧ H' = upd H T (.tup [x, y]) ∧ (∀ xs, SqT C.X.K H a1 xs → xs[i]? = some x) ∧ ∀ ys, SqT C.X.K H a2 ys → ys[i]? = some y) l1 R1 (walkD_pairs ?_ ?_ ?_)⟩⟩
          · show Walk _ (zipD xs ys).length _ _
            rw [zipD_length, ← t.length, ← t'.length]
            exact ⟨fun i H hi ⟨q1, q2⟩ => ⟨us, us', us[i]'(by omega), us'[i]'(by omega), q1, q2, by simp, by simp⟩, fun H ⟨q1, q2⟩ => ⟨us, us', q1, q2, by omega⟩, fun i H x H' hi _ y => y⟩
          · intro g' M H l R o
            exact ⟨.of (R.frz _ _ (l.F _ _ s)), .of (R.frz _ _ (l.F _ _ s'))⟩
          · intro g' M H H' i x l R o y
            obtain ⟨T, x', y', rfl, hT, rfl, h1, h2⟩ := y
            obtain ⟨d', e1, e2⟩ := (t.gro l).getV (h1 us (.of (R.frz _ _ (l.F _ _ s))))
            obtain ⟨d'', f1, f2⟩ := (t'.gro l).getV (h2 us' (.of (R.frz _ _ (l.F _ _ s'))))
            exact ⟨T, x', y', d', d'', rfl, hT, rfl, zipD_get xs ys i _ _ e1 f1, e2, f2⟩
    · have p3 : Post (zipL d e M1) _ _ := p2
      obtain ⟨a1, us, w, rfl, q1, q2, q3, q4⟩ := wkL_post R1.h r (post_bnd.mp p3)
      obtain ⟨a2, us', w', rfl, q1', q2', q3', q4'⟩ := wkL_post R1.h r' (post_bnd.mp q3)
      refine ⟨a1, a2, us, us', rfl, .inl ⟨q1, q1', q3' _ H1 g1 (fun H => (∃ vs, SqL C.X.K H a1 vs ∧ vs.length = w.ds.length) ∧ ∃ vs, SqL C.X.K H a2 vs ∧ vs.length = w'.ds.length) (fun i H v H' => ∃ T x y, v = .ref T ∧ H T = none ∧ H' = upd H T (.tup [x, y]) ∧ (∀ xs, SqL C.X.K H a1 xs → xs[i]? = some x) ∧ ∀ ys, SqL C.X.K H a2 ys → ys[i]? = some y) l1 R1 (walkD_pairs ?_ ?_ ?_)⟩⟩
      · show Walk _ (zipD w.ds w'.ds).length _ _
        rw [zipD_length]
        exact ⟨fun i H hi ⟨⟨vs, q, e⟩, ⟨vs', q', e'⟩⟩ => ⟨vs, vs', vs[i]'(by omega), vs'[i]'(by omega), q, q', by simp, by simp⟩, fun H ⟨⟨vs, q, e⟩, ⟨vs', q', e'⟩⟩ => ⟨vs, vs', q, q', by omega⟩, fun i H x H' hi _ y => y⟩
      · intro g' M H l R o
        obtain ⟨vs, q, r⟩ := q4 l R o.1
        obtain ⟨vs', q', r'⟩ := q4' l R o.2
        exact ⟨⟨vs, q, r.length⟩, ⟨vs', q', r'.length⟩⟩
      · intro g' M H H' i x l R o y
        obtain ⟨T, x', y', rfl, hT, rfl, h1, h2⟩ := y
        obtain ⟨vs, q, r⟩ := q4 l R o.1
        obtain ⟨vs', q', r'⟩ := q4' l R o.2
        obtain ⟨d', e1, e2⟩ := r.getV (h1 vs q)
        obtain ⟨d'', f1, f2⟩ := r'.getV (h2 vs' q')
        exact ⟨T, x', y', d', d'', rfl, hT, rfl, zipD_get _ _ i _ _ e1 f1, e2, f2⟩⟩
end
end L3
set_option Elab.async false
set_option linter.all false
set_option maxRecDepth 100000
set_option maxHeartbeats 4000000
set_option autoImplicit false
/-! repr of data -/
namespace L3
open PySem PySem.Spec L2
open PyProof.Rows hiding St
/-- what repr takes here -/
def shows (d : PyData) : Bool := d.showable && !d.hasDict && decide (d.depth < 60) && decide (d.shown.length ≤ sizeLine)
theorem shows_iff {d : PyData} (h : shows d = true) : d.showable = true ∧ d.hasDict = false ∧ d.depth < 60 ∧ d.shown.length ≤ sizeLine := by
  unfold shows at h
  simp only [Bool.and_eq_true, Bool.not_eq_true', decide_eq_true_eq] at h
  exact ⟨h.1.1.1, h.1.1.2, h.1.2, h.2⟩
theorem call_reprD {X : Cx} {k : Nat} (room : RoomG k X.A) : CallR X (.builtin "repr") (fun xs H Q => ∃ x d, xs = [x] ∧ Dp X.K H x d ∧ shows d = true ∧ Q (.str d.shown) H) := by
  intro pins s σ H xs us Q I r ⟨x, d, ex, hd, hs, q⟩
  subst ex
  cases r with
  | @cons _ u _ _ r1 r2 =>
    cases r2
    obtain ⟨h1, h2, h3, h4⟩ := shows_iff hs
    obtain ⟨as, rd⟩ := Dp.reads I d x u hd r1
    have hu := room.units
    cases rd with
    | none => exact PySem.P.repr_of_none ⟨.str _, H, I.tok _, ⟨_, rfl⟩, q⟩
    | bool b => exact PySem.P.repr_of_bool ⟨.str _, H, I.tok _, ⟨_, rfl⟩, q⟩
    | int i t => exact PySem.P.repr_of_int (by simpa [PyData.showable] using h1) ⟨.str _, H, I.tok _, ⟨_, rfl⟩, q⟩
    | str z t => exact PySem.P.repr_of_str ⟨.str _, H, I.tok _, ⟨_, rfl⟩, q⟩ h4
    | list e1 e2 e3 e4 => exact repr_of_reads' (.list e1 e2 e3 e4) h1 (PyData.noDict_hsm h2) room.gd (by omega) (fun _ _ e => e) (fun h' t tk hk => ⟨.str _, H, I.kept (t' := tk) hk, ⟨_, rfl⟩, q⟩) h4
    | tuple e1 e2 e3 e4 => exact repr_of_reads' (.tuple e1 e2 e3 e4) h1 (PyData.noDict_hsm h2) room.gd (by omega) (fun _ _ e => e) (fun h' t tk hk => ⟨.str _, H, I.kept (t' := tk) hk, ⟨_, rfl⟩, q⟩) h4
    | dict e1 e2 e3 e4 e5 => simp [PyData.hasDict] at h2
/-- repr(d) -/
def reprD (d : D) : Py D := fun M => match pyM M d with
  | some p => if shows p then .ok (.str p.shown) M else .bad
  | none => .bad
theorem reprD_post {d : D} {M : Store} {q : D → Store → Prop} {E : Exn → Store → Prop} (p : Post (reprD d M) q E) : ∃ x, pyM M d = some x ∧ shows x = true ∧ q (.str x.shown) M := by
  unfold reprD at p
  split at p
  · rename_i x e
    split at p
    · rename_i h
      exact ⟨x, e, h, p⟩
    · exact p.elim
  · exact p.elim
theorem dc_repr {C : DX} {k : Nat} (room : RoomG k C.X.A) : DCl C (.builtin "repr") (one reprD) := dcl_one (call_reprD room) fun {g ρ M σ H v d} Q R r p => by
  obtain ⟨x, e, h, q⟩ := reprD_post p
  exact ⟨v, x, rfl, dpm_of R.h r e, h, QV.here q R (.str _)⟩
/-- the plain law's side: it shows -/
theorem reprD_ok {d : D} {M : Store} {x : PyData} (e : pyM M d = some x) (h : shows x = true) : reprD d M = .ok (.str x.shown) M := by
  unfold reprD
  rw [e]
  simp [h]
end L3
set_option Elab.async false
set_option linter.all false
set_option maxRecDepth 100000
set_option maxHeartbeats 4000000
set_option autoImplicit false
/-! sets of ints from lists -/
namespace L3
open PySem PySem.Spec L2 PyProof
open PyProof.Rows hiding St
@[reducible] def bare_ (w : World) : Obj := { cls := .type "set", dict := none, data := .set #[] 0 (.fresh 0 0 (!w.params.followText "set-order")) }
/-- the first of each -/
def dd : List Int → List Int
  | [] => []
  | n :: r => if n ∈ r then dd r else n :: dd r
theorem dd_mem : ∀ (l : List Int) (k : Int), k ∈ dd l ↔ k ∈ l
  | [], _ => Iff.rfl
  | n :: r, k => by
    unfold dd
    split
    · rename_i h
      rw [dd_mem r k, List.mem_cons]
      exact ⟨.inr, fun z => z.elim (fun e => e ▸ h) id⟩
    · rw [List.mem_cons, List.mem_cons, dd_mem r k]
theorem dd_nodup : ∀ l : List Int, (dd l).Nodup
  | [] => List.nodup_nil
  | n :: r => by
    unfold dd
    split
    · exact dd_nodup r
    · rename_i h
      exact List.nodup_cons.mpr ⟨fun z => h ((dd_mem r n).mp z), dd_nodup r⟩
theorem dd_le {l m : List Int} (h : ∀ k ∈ l, k ∈ m) : (dd l).length ≤ (dd m).length := by
  have p : (dd l).Perm ((dd m).filter fun k => decide (k ∈ l)) := (List.perm_ext_iff_of_nodup (dd_nodup l) ((dd_nodup m).filter _)).mpr fun k => by
    rw [List.mem_filter, dd_mem, dd_mem, decide_eq_true_eq]
    exact ⟨fun z => ⟨h k z, z⟩, fun z => z.2⟩
  rw [p.length_eq]
  exact List.length_filter_le ..
theorem setR_count {w : World} {h : Heap} {a : Addr} {ms : List Int} {c : Nat} (R : SetR w h a (fun j => decide (j ∈ ms)) c) : c = (dd ms).length := by
  obtain ⟨o, es, ep, t, _, _, _, _, nd, hm, _, _, hn, _⟩ := R
  have p : (es.toList.map keyOf).Perm (dd ms) := (List.perm_ext_iff_of_nodup nd (dd_nodup ms)).mpr fun k => by
    rw [dd_mem, ← hm k, decide_eq_true_eq]
  have q := p.length_eq
  rw [List.length_map, Array.length_toList, hn] at q
  exact q
section
variable {P : Program} {w : World} {A : Around} {E : Value → Shared → Prop} {s : Shared}
/-- set.update over whole numbers of which few are different -/
theorem update_few {J : Addr} {fp wr : List Addr} {G : Array GenState → Array GenState → Prop} {n : Nat} {Pv : Nat → Value → Prop} {St : Nat → Shared → Prop} {R : Result → Shared → Prop} (W : WalksS P w A.in1 J fp wr G n Pv St) (T : Addr) (off : T ∉ fp) (ns : List Int) (many : n = ns.length)
    (few : (dd ns).length + 1 < scanBound) (each : ∀ i v, Pv i v → ∃ k t, ns[i]? = some k ∧ v = .int k t) : ∀ (k i : Nat) (s : Shared), n - i = k → i ≤ n → St i s → (∃ c, SetR w s.heap T (fun j => decide (j ∈ ns.take i)) c) →
      (∀ s' c, Moved (T :: wr) G s s' → SetR w s'.heap T (fun j => decide (j ∈ ns)) c → R (.ok (.ret .none)) s') → codeAny (model P w) A (.builtin "set.update.loop" ⟨[.ref T, .ref J], []⟩) R s := by
  have away : T ∉ wr := fun z => off (W.sub _ z)
  have more : ∀ b ∈ wr, b ∈ T :: wr := fun b z => List.mem_cons_of_mem T z
  intro k
  induction k with
  | zero =>
    intro i s left le at_ ⟨c, set⟩ fin
    obtain rfl : i = n := by omega
    refine codeAny_builtin F.entry_set_update_loop ?_
    rw [Around.under_plainId F.plain_set_update_loop]
    show wpAny _ A.in1 (pyNext (Value.ref J) >>= _) _ _ s
    refine wpAny_bind (W.done s _ _ at_ fun s2 mv => (show wpAny _ A.in1 (ret .none) _ _ s2 from wpAny_pure (fin s2 c (mv.mono more) ?_)))
    rw [List.take_of_length_le (Nat.le_of_eq many.symm)] at set
    exact set.at fun o z => mv.heap T o away z
  | succ k ih =>
    intro i s left le at_ ⟨c, set⟩ fin
    have lt : i < n := by omega
    refine codeAny_builtin F.entry_set_update_loop ?_
    rw [Around.under_plainId F.plain_set_update_loop]
    show wpAny _ A.in1 (pyNext (Value.ref J) >>= _) _ _ s
    refine wpAny_bind (W.item i s _ _ lt at_ fun v s2 pv at2 mv => ?_)
    obtain ⟨z, t, ez, rfl⟩ := each i v pv
    have set2 : SetR w s2.heap T (fun j => decide (j ∈ ns.take i)) c := set.at fun o z => mv.heap T o away z
    have room : c + 1 < scanBound := by
      have q := dd_le (l := ns.take i) (m := ns) fun k z => List.mem_of_mem_take z
      have q2 := setR_count set2
      omega
    show wpAny _ A.in1 (holding [Value.int z t] (setAdd T (Value.int z t)) >>= _) _ _ s2
    refine wpAny_bind (wpAny_holding (show wpAny _ _ (setAdd T (Value.int z t)) _ _ _ from ?_))
    unfold setAdd
    refine wpAny_holding (wpAny_bind ((intKind P w).pyHash (k := z) (intKind_is _ _ _ _) ?_))
    refine setR_add_hashed (s := { s2 with toks := s2.toks + 1 }) set2 room fun h3 same set3 => ?_
    have set4 := set3.congr (S' := fun j => decide (j ∈ ns.take (i + 1))) fun j => by
      rw [List.take_add_one, ez]
      simp [List.mem_append]
    refine wpAny_pure ⟨plainId_quiet F.plain_set_update_loop _, ih (i + 1) _ (by omega) lt (W.frame _ s2 _ _ at2 (Nat.le_succ _) fun b hb o z => ?_) ⟨_, set4⟩ fun s5 c5 mv5 set5 => fin s5 c5 (Moved.trans W.gtrans ((mv.mono more).then_heap (Nat.le_succ _) fun b o hb z => ?_) mv5) set5⟩
    · exact (same.2 b fun q => off (q ▸ hb)).trans z
    · exact (same.2 b fun q => hb (q ▸ List.mem_cons_self)).trans z
end
section
variable {P : Program} {w : World} {A : Around} {E : Value → Shared → Prop} {s : Shared}
/-- what stands behind set(list) -/
def Made (w : World) (ns : List Int) (s : Shared) : Value → Shared → Prop := fun r s2 => r = .none ∧ ∃ h' tk c, s2 = { s with heap := h', toks := tk } ∧ SetR w h' s.heap.objs.size (fun j => decide (j ∈ ns)) c ∧ ∀ b o, s.heap.get? b = some o → h'.get? b = some o
set_option maxHeartbeats 8000000 in
theorem call_setLI {l : Addr} {xs : Array Value} (ns : List Int) {Q : Value → Shared → Prop} (calm : A.handled = none) (il : s.heap.IsList l xs) (are : IntsAre xs.toList ns) (few : (dd ns).length + 1 < scanBound)
    (go : ∀ (h' : Heap) (tk c : Nat), SetR w h' s.heap.objs.size (fun j => decide (j ∈ ns)) c → (∀ b o, s.heap.get? b = some o → h'.get? b = some o) → Q (.ref s.heap.objs.size) { s with heap := h', toks := tk }) : wpAny (model P w) A (call (.type "set") [.ref l]) Q E s := by
  have size : xs.size = ns.length := (Array.length_toList (xs := xs)).symm.trans are.length
  obtain ⟨mroC, mroT, mro⟩ := F.called_set.mro
  have made := F.called_set.made
  have subs := F.called_set.sub
  refine wpAny_call (codeAny_of_tree (show wpAny _ _ (callAny (.type "set") _) _ _ _ from ?_))
  refine wpAny_pure ⟨Code.quiet_builtin _ (by decide +kernel), codeAny_builtin F.entry_type_call ?_⟩
  rw [Around.under_plain (weight_type_call_type "set" _ _) rfl]
  have notT := F.called_set.notType
  have canC := F.called_set.canCreate
  have tcall := F.typeCall_set_1 (.ref l)
  repeat (any_goals (first | assumption | wp_step))
  refine codeAny_mono (code_set_led1 (.ref l) (E := E) (Q₁ := fun z s₁ => z = .ref s.heap.objs.size ∧ s₁ = { s with heap := s.heap.push (bare_ w) }) ⟨rfl, rfl⟩) fun r s₁ got => ?_
  rcases r with e | fl
  · exact got
  rcases fl with _ | _ | _ | z
  all_goals first | exact got.elim | skip
  obtain ⟨rfl, rfl⟩ := got
  have there : (s.heap.push (bare_ w)).get? s.heap.objs.size = some (bare_ w) := Heap.get?_push_size _ rfl
  have isSet : Shared.TypeIs { s with heap := s.heap.push (bare_ w) } (.ref s.heap.objs.size) "set" := ⟨_, there, rfl⟩
  have look := F.called_set.init.lookup
  have bnd := F.called_set.init.bind (.ref s.heap.objs.size)
  repeat (any_goals (first | assumption | wp_step))
  refine codeAny_mono (codeAny_call_builtin (R := wants (Made w ns s) E) F.called_set.init.plain F.entry_set_init (check_set_init_1 isSet ?_)) fun r2 s2 got2 => ?_
  · obtain ⟨⟨cl, od, dat, sl⟩, at_, ecl, n, edat⟩ := il
    dsimp only at ecl edat
    subst ecl edat
    have at1 : (s.heap.push (bare_ w)).get? l = some { cls := .type "list", dict := od, data := .seq xs n, slots := sl } := Heap.get?_push_of_some _ at_
    have sub1 := F.sub_list_set
    have sub2 := F.sub_list_frozenset
    have nodict : (Value.type "list" == Value.type "dict") = false := by decide
    have il1 : (s.heap.push (bare_ w)).IsList l xs := ⟨_, at1, rfl, n, rfl⟩
    unfold Builtin.«set.__init__» noKeywords Builtin.Frozenset.updateFrom
    generalize gen : pyIter = PI
    wp_walk
    subst gen
    refine wpAny_pyIter_list il1 (wpAny_bind (wpAny_runValue ?_))
    have below : l < s.heap.objs.size := Heap.lt_size at_
    have grown : (s.heap.push (bare_ w)).objs.size = s.heap.objs.size + 1 := Heap.size_push ..
    have calm3 : A.in1.in1.in1.handled = none := calm
    have off : l ≠ (s.heap.push (bare_ w)).objs.size := by
      rw [grown]
      exact Nat.ne_of_lt (Nat.lt_succ_of_lt below)
    have out_ : s.heap.objs.size ∉ [(s.heap.push (bare_ w)).objs.size, l] := by
      rw [grown]
      intro z
      rcases List.mem_cons.mp z with z | z
      · exact Nat.ne_of_lt (Nat.lt_succ_self _) z
      · rcases List.mem_cons.mp z with z | z
        · exact Nat.ne_of_gt below z
        · exact List.not_mem_nil z
    have each : ∀ (i : Nat) (v : Value), xs[i]? = some v → ∃ k t, ns[i]? = some k ∧ v = .int k t := fun i v hv => by
      have lt : i < ns.length := size ▸ (Array.getElem?_eq_some_iff.mp hv).1
      obtain ⟨t, ev⟩ := IntsAre.int_at are i v ((Array.getElem?_toList ..).trans hv)
      refine ⟨ns[i], t, List.getElem?_eq_getElem lt, ev.trans ?_⟩
      simp [List.getD_eq_getElem?_getD, lt]
    refine update_few ((Walks.list calm3 _ l off xs).toS) s.heap.objs.size out_ ns size few each (xs.size - 0) 0 _ (by omega) (Nat.zero_le _) ⟨⟨_, Heap.get?_push_size _ rfl, rfl, rfl⟩, il1.push _⟩ ⟨0, setR_new_at (Heap.get?_push_of_some _ there)⟩ ?_
    intro s3 c mv R3
    obtain ⟨h3, g3, d3, t3, o3⟩ := s3
    obtain rfl : g3 = s.gens := mv.gens
    obtain rfl : d3 = s.drawn := mv.drawn
    obtain rfl : o3 = s.os := mv.os
    refine (show wpAny _ _ _ _ _ _ from wpAny_pure (show wpAny _ _ (ret Value.none) _ _ _ from wpAny_pure ⟨rfl, h3, t3, c, rfl, R3, fun b o e => ?_⟩))
    have lo : b < s.heap.objs.size := Heap.lt_size e
    refine mv.heap b o ?_ (Heap.get?_push_of_some _ (Heap.get?_push_of_some _ e))
    intro z
    rcases List.mem_cons.mp z with z | z
    · exact Nat.ne_of_lt lo z
    · rcases List.mem_cons.mp z with z | z
      · rw [grown] at z; exact Nat.ne_of_lt (Nat.lt_succ_of_lt lo) z
      · exact List.not_mem_nil z
  · rcases r2 with e | fl
    · exact got2
    rcases fl with _ | _ | _ | v
    all_goals first | exact got2.elim | skip
    obtain ⟨rfl, h', tk, c, rfl, R3, keep⟩ := got2
    repeat (any_goals (first | assumption | wp_step))
    exact go _ _ _ R3 keep
end
end L3
set_option Elab.async false
set_option linter.all false
set_option maxRecDepth 100000
set_option maxHeartbeats 4000000
set_option autoImplicit false
/-! sorted(set(d)) -/
namespace L3
open PySem PySem.Spec L2 PyProof
open PyProof.Rows hiding St
section
variable {X : Cx}
def rSetLI (K : PySem.W.Frag) (w : World) : List V → Hp → VK → Prop := fun xs H Q => ∃ a ns, xs = [.ref a] ∧ SqL K H a (ns.map V.int) ∧ (dd ns).length + 1 < scanBound ∧ ∀ p, H p = none → Q (.ref p) (upd H p (SetO w p (fun j => decide (j ∈ ns)) (dd ns).length))
theorem cr_setLI (calm : X.calm = true) : CallR X (.type "set") (rSetLI X.K X.w) := by
  intro pins s σ H xs us Q I r ⟨a, ns, ex, seq, few, q⟩
  subst ex
  rw [Vals.ref1 r]
  obtain ⟨its, rv, pl, _⟩ := I.list seq
  refine call_setLI ns (I.ok.hd calm) (show s.heap.IsList a its.toArray from pl.isList) (ints_of_vals rv) few fun h' tk c R keep => ?_
  have new : H s.heap.objs.size = none := I.hok.fresh (Nat.le_refl _)
  have e := setR_count R
  subst e
  exact ⟨.ref s.heap.objs.size, upd H s.heap.objs.size (SetO X.w s.heap.objs.size (fun j => decide (j ∈ ns)) (dd ns).length), I.laid (t' := tk) keep (Nat.le_refl _) (setO_new R), rfl, q _ new⟩
end
def sortSetK (fr : List D → Py D) : Option (List Int) → Py D
  | some ns => Py.chk ((dd ns).length < 64) (fr ((sortL (dd ns)).map D.int))
  | none => Py.bad
theorem sortSetK_post {fr : List D → Py D} {o : Option (List Int)} {M : Store} {q : D → Store → Prop} {E : Exn → Store → Prop} (p : Post (sortSetK fr o M) q E) : ∃ ns, o = some ns ∧ (dd ns).length < 64 ∧ Post (fr ((sortL (dd ns)).map D.int) M) q E := by
  cases o with
  | none => exact p.elim
  | some ns => obtain ⟨h, q⟩ := post_chk.mp p; exact ⟨ns, rfl, h, q⟩
/-- sorted(set(d)) -/
def sortSetD (fr : List D → Py D) : List D → Py D
  | [d] => Py.bnd (litems d) fun ds => sortSetK fr (intsOf ds)
  | _ => Py.bad
theorem sortSetD_post {fr : List D → Py D} {ds : List D} {M : Store} {q : D → Store → Prop} {E : Exn → Store → Prop} (p : Post (sortSetD fr ds M) q E) : ∃ d, ds = [d] ∧ Post (litems d M) (fun ds M' => Post (sortSetK fr (intsOf ds) M') q E) E := by
  unfold sortSetD at p
  split at p
  · exact ⟨_, rfl, post_bnd.mp p⟩
  · exact p.elim
theorem sorted_eq {ns ys : List Int} (asc : ys.Pairwise (· < ·)) (mem : ∀ k : Int, k ∈ ys ↔ decide (k ∈ ns) = true) : ys = sortL (dd ns) := by
  refine sortL_eq ((List.perm_ext_iff_of_nodup (asc.imp fun h => Int.ne_of_lt h) (dd_nodup ns)).mpr fun k => ?_) (asc.imp Int.le_of_lt)
  rw [mem k, dd_mem, decide_eq_true_eq]
section
variable {C : DX} {e : Expr} {ff : DEnv → Py (List D)} {p p2 pos pos2 : Pos} {fr : List D → Py D}
theorem de_sortSet (hf : FlOk C fr) (hc : C.X.calm = true) (hm : C.X.mg "sorted" = none) (hm2 : C.X.mg "set" = none) (ha : DA C [e] ff) (hg : Gl C.X "sorted" := by rfl) (hg2 : Gl C.X "set" := by rfl)
    (he : starEach [e] C.X.env = (false, eval e C.X.env) :: starEach [] C.X.env := by rfl)
    (he2 : starEach [.Call (.Name "set" p2) [e] [] pos2] C.X.env = (false, eval (.Call (.Name "set" p2) [e] [] pos2) C.X.env) :: starEach [] C.X.env := by rfl) :
    DE C (.Call (.Name "sorted" p) [.Call (.Name "set" p2) [e] [] pos2] [] pos) (eCall (sortSetD fr) ff) := by
  refine ⟨fun {g ρ M σ H} Q R pr => wpe (pe_callB (cr_sortedSet hc) hg hm (by decide +kernel) (pa_cons (pe_callTy (cr_setLI hc) hg2 hm2 (by decide +kernel) self_a (he := he)) pa_nil he2) (he := he2)) ?_⟩
  refine ha.then_ R pr fun vs ds M1 H1 g1 l1 R1 r1 p1 => ?_
  obtain ⟨d, rfl, p2⟩ := sortSetD_post p1
  obtain ⟨v, rfl, r⟩ := r1.one
  obtain ⟨a, us, ds, rfl, hs, t, q1⟩ := litems_post R1.h r p2
  obtain ⟨ns, en, few, q⟩ := sortSetK_post q1
  rw [intsOf_eq en] at t
  have ev := reps_ofInts t
  subst ev
  refine ⟨a, ns, rfl, hs, by unfold scanBound; omega, fun b hb => ?_⟩
  refine ⟨b, _, _, rfl, upd_same, few, fun ys c asc mem _ hcn => ?_⟩
  rw [sorted_eq asc mem]
  exact hf.run ⟨R1.b, R1.h.stray hb, R1.e⟩ hcn (reps_mkInts _) (q.imp fun _ _ z => z.later l1)
end
end L3
set_option Elab.async false
set_option linter.all false
set_option maxRecDepth 100000
set_option autoImplicit false
/-! small things for the printed walks -/
namespace L3
open PySem PySem.Spec L2
open PyProof.Rows hiding St
theorem RoomG.hu {k : Nat} {A : Around} (r : RoomG k A) : A.units + 65 < cLine := by have := r.room.un; omega
theorem RoomG.hu1 {k : Nat} {A : Around} (r : RoomG k A) : A.units + 1 < cLine := by have := r.room.un; omega
end L3
set_option Elab.async false
set_option linter.all false
set_option maxRecDepth 100000
set_option maxHeartbeats 4000000
set_option autoImplicit false
/-! x = {k: v for ..} on one line -/
namespace L3
open PySem PySem.Spec L2
open PyProof.Rows hiding St
theorem sw_trueD {ke ve : Expr} {gs : List Comprehension} {scope : Scope} {pos py : Pos} {y : Str} {l : Nat} {env : PySem.Env} (fun_ : env.scope.kind = .function) (loc : env.scope.names.lookup y = some .local) (line : (py.line == pos.line) = true)
    (own_ : (scope.names.any fun (n, k) => n == y && (k == .local || k == .cell)) = false) : swapsWith (.DictComp ke ve gs scope pos) (some (.Name y py)) l env = pure true := by
  have kind : env.kindOf y = some .local := loc
  have block : env.blockKind = .function := by rw [PySem.Env.blockKind, fun_]; rfl
  rw [swapsWith]
  simp only [block, kind, own_, Expr.pos, line]
  rfl
theorem ps_setDc {X : Cx} {i : Nat} {y : Str} {py : Pos} {kx vx tg iter : Expr} {ifs : List Expr} {scope : Scope} {own : List (Str × Nat)} {pos spos : Pos} {wi : TI} {g : TG} {tt : TT} {tk tv : TE} (calm : X.calm = true) (nd : X.N.Nodup) (at_ : X.N[i]? = some y) (loc : X.env.scope.names.lookup y = some .local)
    (swaps : swapsWith (.DictComp kx vx [⟨tg, iter, ifs, 0⟩] scope pos) (some (.Name y py)) spos.line X.env = pure true) (hi : PI X tg iter wi) (ok : BlkOk X.N X.env.scope scope own)
    (hg : ∀ (s : Shared) (H : Hp) (B : Addr) (cl : List (Str × Addr)) (fp : List Addr), PG (X.blk s H scope (compEnvC scope cl B X.env) fp) tg g) (ht : ∀ (s : Shared) (H : Hp) (B : Addr) (cl : List (Str × Addr)) (fp : List Addr), PTs (X.blk s H scope (compEnvC scope cl B X.env) fp) ifs tt)
    (hk : ∀ (s : Shared) (H : Hp) (B : Addr) (cl : List (Str × Addr)) (fp : List Addr), PE (X.blk s H scope (compEnvC scope cl B X.env) fp) kx tk) (hv : ∀ (s : Shared) (H : Hp) (B : Addr) (cl : List (Str × Addr)) (fp : List Addr), PE (X.blk s H scope (compEnvC scope cl B X.env) fp) vx tv)
    (plain : ∀ x, foldedSetIterable iter X.env x = pure x := by intro _; rfl) : PS X (.Assign [.Name y py] (.DictComp kx vx [⟨tg, iter, ifs, 0⟩] scope pos) spos) (tAsg (tDc wi g tt tk tv (own.map (·.2))) (gName i)) := by
  refine ⟨fun pins s σ H T J want => ?_⟩
  rw [exec_Assign_Name_used _ _ _ _ swaps]
  refine wpAny_bind (wpAny_standAt (wpAny_bind ?_))
  show wpAny _ X.A (do let _ ← comprehension (.DictComp kx vx [⟨tg, iter, ifs, 0⟩] scope pos) scope X.env (firstIterPos [⟨tg, iter, ifs, 0⟩] pos) newDict false (eval iter X.env) (some (assign (.Name y py) X.env))) _ _ s
  have want : tDc wi g tt tk tv (own.map (·.2)) σ H (fun x H1 => gName i x σ H1 T.nx) := want
  refine wpAny_bind (thn (dc_core (Qf := fun _ s2 => SP X pins T .next s2) calm nd J hi ok hg ht hk hv plain want fun L B s2 m H2 J2 q ns fresh => ?_) fun _ _ z => wpAny_pure (wpAny_pure z))
  show wpAny _ _ (assign (.Name y py) X.env (Value.ref L)) _ _ _
  refine wpAny_assign_Name (store_ok2 (v := V.ref L) J2 nd at_ (.inl loc) rfl (fun s3 J3 ⟨a, same, place⟩ => ?_) (.inr loc))
  obtain ⟨p0, p1, p2, p3, p4, p5⟩ := fresh
  have apart : B ≠ a := place.elim (fun z => z ▸ p1) fun z e => p4 y a z e.symm
  exact ⟨m, ns.sameBut same apart, fun h4 same4 => ⟨_, H2, J3.turned (t' := s3.toks) (fun b o z e => (same4.2 b z).trans e) p0 p1 p3 p4 p5, q⟩⟩
section
variable {C : DX} {pos spos py : Pos} {tg iter ke ve : Expr} {ifs : List Expr} {scope : Scope} {own : List (Str × Nat)} {it : DEnv → Py Wk} {ft : D → DEnv → Py DEnv} {t : TG} {tt : DEnv → Py Bool} {u : TT} {fk fv : DEnv → Py D} {i : Nat} {y : Str}
theorem ds_setDc {fr : List (Key × D) → Py D} {vs : List Nat} (hfr : FdOk C fr) (calm : C.X.calm = true) (nd : C.X.N.Nodup) (at_ : C.X.N[i]? = some y) (loc : C.X.env.scope.names.lookup y = some .local)
    (swaps : swapsWith (.DictComp ke ve [⟨tg, iter, ifs, 0⟩] scope pos) (some (.Name y py)) spos.line C.X.env = pure true) (hi : DI C tg iter it) (ok : BlkOk C.X.N C.X.env.scope scope own) (hg : ∀ B s H c cl fp, DG (C.blk scope B s H c cl fp) vs tg ft t)
    (ht : DTU C scope ifs tt u) (hk : ∀ B s H c cl fp, DE (C.blk scope B s H c cl fp) ke fk) (hv : ∀ B s H c cl fp, DE (C.blk scope B s H c cl fp) ve fv) (hvs : own.map (·.2) = vs := by rfl) (hs : ∀ x, foldedSetIterable iter C.X.env x = pure x := by intro _; rfl) :
    DS C (.Assign [.Name y py] (.DictComp ke ve [⟨tg, iter, ifs, 0⟩] scope pos) spos) (sSet i (eDc fr (dcAll vs it ft tt fk fv))) := by
  subst hvs
  obtain ⟨wi, pi, hwi⟩ := hi.run
  refine ⟨fun {g ρ M σ H} E R p => wps (ps_setDc (tk := eltT C.X scope ke) (tv := eltT C.X scope ve) calm nd at_ loc swaps pi ok (fun s H c cl fp => (hg g s H c cl fp).pg) ht.pt (fun s H c cl fp => ⟨fun pins s' σ' H' Q' I h => h s H c cl fp pins s' I⟩) (fun s H c cl fp => ⟨fun pins s' σ' H' Q' I h => h s H c cl fp pins s' I⟩) hs) ?_⟩
  exact dc_run (Q := fun x H1 => gName i x σ H1 E.nx) hi hg ht hk hv hwi R ((post_bnd.mp (post_bnd.mp p)).imp fun fs M' q => hfr.run (q.imp fun d M2 z v H' g' l R' r => z _ H' g' l (R'.set i r)))
end
end L3
set_option Elab.async false
set_option linter.all false
set_option maxRecDepth 100000
set_option maxHeartbeats 4000000
set_option autoImplicit false
namespace L3
open PySem PySem.Spec L2
open PyProof.Rows hiding St
/-! the plain law's own tools: what stands stays, dicts that change, whiles -/
/-- nothing that stands is changed -/
def Ext (M M' : Store) : Prop := M.length ≤ M'.length ∧ ∀ n, n < M.length → M'[n]? = M[n]?
section
variable {M M1 M2 : Store} {n : Nat} {o : Option MO}
theorem Ext.refl : Ext M M := ⟨Nat.le_refl _, fun _ _ => rfl⟩
theorem Ext.trans (h : Ext M M1) (k : Ext M1 M2) : Ext M M2 := ⟨Nat.le_trans h.1 k.1, fun n hn => (k.2 n (Nat.lt_of_lt_of_le hn h.1)).trans (h.2 n hn)⟩
theorem Ext.set (h : Ext M M1) (hn : M.length ≤ n) : Ext M (M1.set n o) := ⟨by rw [List.length_set]; exact h.1, fun m hm => by rw [List.getElem?_set_ne (by omega)]; exact h.2 m hm⟩
theorem Ext.app (h : Ext M M1) (l : Store) : Ext M (M1 ++ l) := ⟨by rw [List.length_append]; have := h.1; omega, fun m hm => by rw [List.getElem?_append_left (Nat.lt_of_lt_of_le hm h.1)]; exact h.2 m hm⟩
theorem Ext.at_ {x : MO} (h : Ext M M1) (e : M[n]? = some (some x)) : M1[n]? = some (some x) := (h.2 n (List.getElem?_eq_some_iff.mp e).1).trans e
theorem Ext.pot (h : Ext M M1) (p : Pot n M) : Pot n M1 := by
  obtain ⟨cs, a, b, c, d, e, k⟩ := p
  exact ⟨cs, a, b, c, d, h.at_ e, k⟩
end
/-- the dict at n -/
def LocK (M : Store) (n : Nat) (P : List (Key × D) → Prop) : Prop := match M[n]? with
  | some (some (.dk fs)) => P fs
  | _ => False
section
variable {M : Store} {n m : Nat} {fs : List (Key × D)} {P : List (Key × D) → Prop}
theorem locK_of (h : M[n]? = some (some (.dk fs))) : LocK M n P ↔ P fs := by
  unfold LocK; rw [h]
@[simp] theorem locK_set : LocK (M.set n (some (.dk fs))) n P ↔ n < M.length ∧ P fs := by
  unfold LocK
  by_cases h : n < M.length
  · rw [List.getElem?_set_self h]; exact ⟨fun z => ⟨h, z⟩, fun z => z.2⟩
  · rw [List.getElem?_eq_none (by rw [List.length_set]; omega)]; exact ⟨fun z => z.elim, fun z => (h z.1).elim⟩
end
section
variable {Q : D → Store → Prop} {QB : Bool → Store → Prop} {QL : List D → Store → Prop} {QK : List (Key × D) → Store → Prop} {QF : Fl → Store → Prop} {QW : Wk → Store → Prop} {QU : Unit → Store → Prop} {E : Exn → Store → Prop} {M : Store} {ρ : DEnv}
variable {fa fb fc : DEnv → Py D} {ta tb : DEnv → Py Bool} {ff : DEnv → Py (List D)} {sa sb : DEnv → Py Fl} {d e v : D} {i j : Int} {xs ys : List D} {n : Nat} {ns : List Int} {fs : List (Key × D)}
@[simp] theorem p_intD_bl {b : Bool} : Post (intD (.bl b) M) Q E ↔ Q (.int (if b then 1 else 0)) M := Iff.rfl
theorem p_foldK {f : List Int → Option Int} {o : Option (List Int)} : Post (foldK f o M) Q E ↔ SomeP o fun ns => SomeP (f ns) fun m => Q (.int m) M := by
  cases o with
  | none => exact Iff.rfl
  | some ns =>
    show Post ((match f ns with | some m => Py.ret (.int m) | none => Py.bad : Py D) M) Q E ↔ SomeP (f ns) fun m => Q (.int m) M
    cases f ns <;> exact Iff.rfl
@[simp] theorem p_maxLD : Post (maxLD (.lst xs) M) Q E ↔ SomeP (intsOf xs) fun ns => SomeP (maxL ns) fun m => Q (.int m) M := post_bnd.trans p_foldK
@[simp] theorem p_minLD : Post (minLD (.lst xs) M) Q E ↔ SomeP (intsOf xs) fun ns => SomeP (minL ns) fun m => Q (.int m) M := post_bnd.trans p_foldK
@[simp] theorem p_sumLD : Post (sumLD (.lst xs) M) Q E ↔ SomeP (intsOf xs) fun ns => Q (.int ns.sum) M := post_bnd.trans p_foldK
@[simp] theorem intsOf_map' : intsOf (ns.map D.int) = some ns := intsOf_map ns
@[simp] theorem intsOf_mapF {α : Type} {f : α → Int} {l : List α} : intsOf (l.map fun x => D.int (f x)) = some (l.map f) := by
  have e : (l.map fun x => D.int (f x)) = (l.map f).map D.int := by rw [List.map_map]; rfl
  rw [e]; exact intsOf_map _
@[simp] theorem intsOf_mapC {α : Type} {f : α → Int} {l : List α} : intsOf (l.map (D.int ∘ f)) = some (l.map f) := intsOf_mapF
@[simp] theorem intsOf_cons' : intsOf (.int i :: xs) = (intsOf xs).map fun r => i :: r := rfl
@[simp] theorem intsOf_nil' : intsOf [] = some [] := rfl
/-! dicts -/
@[simp] theorem p_dkOfN {ds : List (D × D)} {o : Option (List (Key × D))} : Post (dkOfN ds o M) Q E ↔ SomeP o fun fs => ds.length ≤ 15 ∧ Q (.loc M.length) (M ++ [some (.dk (mergeG [] fs))]) := by
  cases o with
  | none => exact Iff.rfl
  | some fs => exact post_chk
@[simp] theorem p_eDispN {fp : DEnv → Py (List (D × D))} : Post (eDispN fp ρ M) Q E ↔ Post (fp ρ M) (fun ds M1 => SomeP (keysD ds) fun fs => ds.length ≤ 15 ∧ Q (.loc M1.length) (M1 ++ [some (.dk (mergeG [] fs))])) (fun _ _ => False) := by
  unfold eDispN
  rw [post_bnd]
  simp only [p_noX, p_dkOfN]
@[simp] theorem p_allocK {o : MO} : Post (alloc o M) Q E ↔ Q (.loc M.length) (M ++ [some o]) := Iff.rfl
@[simp] theorem p_fdF : Post (fdF fs M) Q E ↔ Q (.dk fs) M := Iff.rfl
@[simp] theorem p_fdN : Post (fdN fs M) Q E ↔ Q (.loc M.length) (M ++ [some (.dk fs)]) := Iff.rfl
@[simp] theorem p_eDc {fr : List (Key × D) → Py D} {dc : DEnv → Py (List (Key × D))} : Post (eDc fr dc ρ M) Q E ↔ Post (dc ρ M) (fun fs M1 => Post (fr fs M1) Q E) E := by
  unfold eDc; rw [post_bnd]
@[simp] theorem p_dcAll {vs : List Nat} {it : DEnv → Py Wk} {tg : D → DEnv → Py DEnv} {tt : DEnv → Py Bool} {fk fv : DEnv → Py D} : Post (dcAll vs it tg tt fk fv ρ M) QK E ↔ Post (it ρ M) (fun w M1 => Post (dcD w.ok tg tt fk fv (wipeD ρ vs) w.ds [] M1) QK (fun _ _ => False)) E := by
  unfold dcAll; rw [post_bnd]; simp only [p_noX]
theorem putG_len {fs : List (Key × D)} {k : Key} {v : D} : (putG fs k v).length ≤ fs.length + 1 := by
  unfold putG
  split
  · rw [List.length_map]; omega
  · rw [List.length_append]; exact Nat.le_refl _
/-- one that changes nothing, without a test -/
theorem dc_map {α : Type} {ok : Store → Prop} {tg : D → DEnv → Py DEnv} {fk fv : DEnv → Py D} (g : α → D) (kf : α → Key) (vf : α → D) (hok : ok M) :
    ∀ (l : List α) (acc : List (Key × D)), acc.length + l.length ≤ sizeLine →
    (∀ x ∈ l, Post (tg (g x) ρ M) (fun ρ1 M1 => Post (fk ρ1 M1) (fun y M2 => keyD y = some (kf x) ∧ Post (fv ρ1 M2) (fun z M3 => M3 = M ∧ z = vf x) E) E) E) →
    QK (l.foldl (fun acc x => putG acc (kf x) (vf x)) acc) M → Post (dcD ok tg tYesD fk fv ρ (l.map g) acc M) QK E
  | [], acc, _, _, q => by
    show Post (okM ok (Py.ret acc) M) QK E
    rw [okM_true hok]; exact q
  | x :: l, acc, hz, h, q => by
    have hz2 : acc.length + (l.length + 1) ≤ sizeLine := hz
    show Post (okM ok (Py.bnd (tg (g x) ρ) fun ρ1 => Py.bnd (tYesD ρ1) fun b => if b then Py.bnd (fk ρ1) fun y => Py.bnd (fv ρ1) fun z => keyK y fun k => Py.chk (acc.length < sizeLine) (dcD ok tg tYesD fk fv ρ (l.map g) (putG acc k z)) else dcD ok tg tYesD fk fv ρ (l.map g) acc) M) QK E
    rw [okM_true hok]
    refine post_bnd.mpr ((h x (List.mem_cons_self ..)).imp fun ρ1 M1 h1 => ?_)
    refine post_bnd.mpr ?_
    rw [p_tYes, if_pos rfl]
    refine post_bnd.mpr (h1.imp fun y M2 h2 => ?_)
    obtain ⟨ek, h3⟩ := h2
    refine post_bnd.mpr (h3.imp fun z M3 h4 => ?_)
    obtain ⟨e1, e2⟩ := h4
    rw [e1, e2]
    unfold keyK
    rw [ek]
    refine post_chk.mpr ⟨by omega, dc_map g kf vf hok l _ ?_ (fun x hx => h x (List.mem_cons_of_mem _ hx)) q⟩
    have := putG_len (fs := acc) (k := kf x) (v := vf x)
    omega
/-- a comprehension over a list of things -/
theorem lc_mapA {α : Type} {ok : Store → Prop} {tg : D → DEnv → Py DEnv} {fe : DEnv → Py D} (g f : α → D) (hok : ok M) :
    ∀ (l : List α) (acc : List D), acc.length + l.length ≤ sizeLine →
    (∀ x ∈ l, Post (tg (g x) ρ M) (fun ρ1 M1 => Post (fe ρ1 M1) (fun y M3 => M3 = M ∧ y = f x) E) E) →
    QL (acc ++ l.map f) M → Post (lcD ok tg tYesD fe ρ (l.map g) acc M) QL E
  | [], acc, _, _, q => by
    show Post (okM ok (Py.ret acc) M) QL E
    rw [okM_true hok]
    rw [List.map_nil, List.append_nil] at q
    exact q
  | x :: l, acc, hz, h, q => by
    have hz2 : acc.length + (l.length + 1) ≤ sizeLine := hz
    show Post (lcD ok tg tYesD fe ρ (g x :: l.map g) acc M) QL E
    unfold lcD
    rw [okM_true hok]
    refine post_bnd.mpr ((h x (List.mem_cons_self ..)).imp fun ρ1 M1 h1 => ?_)
    refine post_bnd.mpr ?_
    rw [p_tYes, if_pos rfl]
    refine post_bnd.mpr (h1.imp fun y M2 h2 => ?_)
    obtain ⟨e1, e2⟩ := h2
    rw [e1, e2]
    refine post_chk.mpr ⟨by omega, lc_mapA g f hok l _ (by rw [List.length_append]; show acc.length + 1 + _ ≤ _; omega) (fun x hx => h x (List.mem_cons_of_mem _ hx)) ?_⟩
    rw [List.append_assoc]
    exact q
/-- .. with a test -/
theorem lc_filA {α : Type} {ok : Store → Prop} {tg : D → DEnv → Py DEnv} {tt : DEnv → Py Bool} {fe : DEnv → Py D} (g f : α → D) (p : α → Bool) (hok : ok M) :
    ∀ (l : List α) (acc : List D), acc.length + l.length ≤ sizeLine →
    (∀ x ∈ l, Post (tg (g x) ρ M) (fun ρ1 M1 => Post (tt ρ1 M1) (fun b M2 => b = p x ∧ if p x = true then Post (fe ρ1 M2) (fun y M3 => M3 = M ∧ y = f x) E else M2 = M) E) E) →
    QL (acc ++ (l.filter p).map f) M → Post (lcD ok tg tt fe ρ (l.map g) acc M) QL E
  | [], acc, _, _, q => by
    show Post (okM ok (Py.ret acc) M) QL E
    rw [okM_true hok]
    rw [List.filter_nil, List.map_nil, List.append_nil] at q
    exact q
  | x :: l, acc, hz, h, q => by
    have hz2 : acc.length + (l.length + 1) ≤ sizeLine := hz
    show Post (lcD ok tg tt fe ρ (g x :: l.map g) acc M) QL E
    unfold lcD
    rw [okM_true hok]
    refine post_bnd.mpr ((h x (List.mem_cons_self ..)).imp fun ρ1 M1 h1 => post_bnd.mpr (h1.imp fun b M2 h2 => ?_))
    obtain ⟨rfl, h3⟩ := h2
    by_cases hp : p x = true
    · rw [if_pos hp] at h3 ⊢
      refine post_bnd.mpr (Post.imp h3 fun y M3 h4 => ?_)
      obtain ⟨e1, e2⟩ := h4
      rw [e1, e2]
      refine post_chk.mpr ⟨by omega, lc_filA g f p hok l _ (by rw [List.length_append]; show acc.length + 1 + _ ≤ _; omega) (fun x hx => h x (List.mem_cons_of_mem _ hx)) ?_⟩
      rw [List.filter_cons_of_pos hp] at q
      rw [List.append_assoc]
      exact q
    · rw [if_neg hp] at h3 ⊢
      rw [h3]
      refine lc_filA g f p hok l _ (by omega) (fun x hx => h x (List.mem_cons_of_mem _ hx)) ?_
      rw [List.filter_cons_of_neg hp] at q
      exact q
@[simp] theorem p_tyChk_k : Post (tyChk "dict" (.loc n) M) QU E ↔ LocK M n fun _ => QU () M := by
  unfold tyChk LocK
  dsimp only
  rcases M[n]? with _ | _ | (_ | _ | _ | _) <;> first | exact Iff.rfl | (rw [if_pos rfl]; exact Iff.rfl) | (rw [if_neg (by decide)]; exact Iff.rfl)
@[simp] theorem p_upd_k {gs : List (Key × D)} : Post (updDk (.loc n) [.dk gs] M) Q E ↔ LocK M n fun fs => fs.length + gs.length ≤ sizeLine ∧ Q .non (M.set n (some (.dk (mergeG fs gs)))) := by
  show Post (updL gs (.loc n) M) Q E ↔ _
  unfold updL LocK
  dsimp only
  rcases M[n]? with _ | _ | (_ | fs | _ | _) <;> first | exact Iff.rfl | skip
  dsimp only
  split
  · rename_i h; exact ⟨fun z => ⟨h, z⟩, fun z => z.2⟩
  · rename_i h; exact ⟨fun z => z.elim, fun z => (h z.1).elim⟩
@[simp] theorem p_ePop2 : Post (ePop2 fa fb fc ρ M) Q E ↔ Post (fa ρ M) (fun d M1 => Post (chkDk d M1) (fun _ M2 => Post (fb ρ M2) (fun y M3 => Post (fc ρ M3) (fun z M4 => Post (popDk d y z M4) Q E) E) E) E) E := by
  unfold ePop2; simp only [post_bnd]
@[simp] theorem p_eGet2 : Post (eGet2 fa fb fc ρ M) Q E ↔ Post (fa ρ M) (fun d M1 => Post (chkDk d M1) (fun _ M2 => Post (fb ρ M2) (fun y M3 => Post (fc ρ M3) (fun z M4 => Post (getDk d y z M4) Q E) E) E) E) E := by
  unfold eGet2; simp only [post_bnd]
theorem chkDk_k (h : M[n]? = some (some (.dk fs))) : Post (chkDk (.loc n) M) QU E ↔ QU () M := by
  unfold chkDk isDk; simp only [h]; exact Iff.rfl
@[simp] theorem chkDk_d : Post (chkDk (.dk fs) M) QU E ↔ QU () M := Iff.rfl
@[simp] theorem getDk_d {k : Key} (hk : keyD d = some k) : Post (getDk (.dk fs) d e M) Q E ↔ Q ((valG fs k).getD e) M := by
  unfold getDk dgetM; simp only [dgetK_k hk]; exact Iff.rfl
theorem getDk_k {k : Key} (h : M[n]? = some (some (.dk fs))) (hk : keyD d = some k) : Post (getDk (.loc n) d e M) Q E ↔ Q ((valG fs k).getD e) M := by
  unfold getDk dgetM; simp only [h, dgetK_k hk]; exact Iff.rfl
theorem popDk_k {k : Key} (h : M[n]? = some (some (.dk fs))) (hk : keyD d = some k) : Post (popDk (.loc n) d e M) Q E ↔ Q ((valG fs k).getD e) (if (valG fs k).isSome then M.set n (some (.dk (dropG fs k))) else M) := by
  unfold popDk; simp only [h, hk]
  cases valG fs k <;> exact Iff.rfl
@[simp] theorem p_sSubU : Post (sSubU fa fb fc ρ M) QF E ↔ Post (fc ρ M) (fun v M1 => Post (fa ρ M1) (fun o M2 => Post (fb ρ M2) (fun k M3 => Post (setU o k v M3) (fun _ M4 => QF (.nx ρ) M4) E) E) E) E := by
  unfold sSubU; simp only [post_bnd]; exact Iff.rfl
theorem setU_k {k : Key} (h : M[n]? = some (some (.dk fs))) (hk : keyD d = some k) : Post (setU (.loc n) d v M) QU E ↔ fs.length < sizeLine ∧ QU () (M.set n (some (.dk (putG fs k v)))) := by
  unfold setU; simp only [h, hk]
  split
  · rename_i z; exact ⟨fun w => ⟨z, w⟩, fun w => w.2⟩
  · rename_i z; exact ⟨fun w => w.elim, fun w => (z w.1).elim⟩
theorem inU_k {k : Key} (h : M[n]? = some (some (.dk fs))) (hk : keyD d = some k) : Post (inU d (.loc n) M) Q E ↔ Q (.bl (valG fs k).isSome) M := by
  unfold inU isDk inK dgetM; simp only [h, dgetK_k hk]; exact Iff.rfl
theorem notInU_k {k : Key} (h : M[n]? = some (some (.dk fs))) (hk : keyD d = some k) : Post (notInU d (.loc n) M) Q E ↔ Q (.bl (!(valG fs k).isSome)) M := by
  unfold notInU isDk inK dgetM; simp only [h, dgetK_k hk]; exact Iff.rfl
theorem ixU_k {k : Key} (h : M[n]? = some (some (.dk fs))) (hk : keyD d = some k) : Post (ixU (.loc n) d M) Q E ↔ SomeP (valG fs k) fun v => Q v M := by
  unfold ixU dgetM; simp only [h, dgetK_k hk]
  cases valG fs k <;> exact Iff.rfl
theorem ixU_d {k : Key} (hk : keyD d = some k) : Post (ixU (.dk fs) d M) Q E ↔ SomeP (valG fs k) fun v => Q v M := by
  unfold ixU dgetM; simp only [dgetK_k hk]
  cases valG fs k <;> exact Iff.rfl
/-! dicts with tuple keys -/
section
variable {fn : List (D × D)} {k : NestedKey}
theorem chkDk_n (h : M[n]? = some (some (.dkt fn))) : Post (chkDk (.loc n) M) QU E ↔ QU () M := by
  unfold chkDk isDk; simp only [h]; exact Iff.rfl
@[simp] theorem chkDk_dn : Post (chkDk (.dkt fn) M) QU E ↔ QU () M := Iff.rfl
theorem getDk_dn (hk : keyN d = some k) : Post (getDk (.dkt fn) d e M) Q E ↔ Q ((valN fn k).getD e) M := by
  unfold getDk dgetM; simp only [hk, Option.map_some]; exact Iff.rfl
theorem getDk_n (h : M[n]? = some (some (.dkt fn))) (hk : keyN d = some k) : Post (getDk (.loc n) d e M) Q E ↔ Q ((valN fn k).getD e) M := by
  unfold getDk dgetM; simp only [h, hk, Option.map_some]; exact Iff.rfl
theorem setU_n (h : M[n]? = some (some (.dkt fn))) (hk : keyN d = some k) : Post (setU (.loc n) d v M) QU E ↔ fn.length < sizeLine ∧ QU () (M.set n (some (.dkt (putN fn k d v)))) := by
  unfold setU; simp only [h, hk]
  split
  · rename_i z; exact ⟨fun w => ⟨z, w⟩, fun w => w.2⟩
  · rename_i z; exact ⟨fun w => w.elim, fun w => (z w.1).elim⟩
theorem setU_n0 (h : M[n]? = some (some (.dk []))) (h2 : keyD d = none) (hk : keyN d = some k) : Post (setU (.loc n) d v M) QU E ↔ QU () (M.set n (some (.dkt [(d, v)]))) := by
  unfold setU; simp only [h, h2, hk]; exact Iff.rfl
theorem inU_n (h : M[n]? = some (some (.dkt fn))) (hk : keyN d = some k) : Post (inU d (.loc n) M) Q E ↔ Q (.bl (valN fn k).isSome) M := by
  unfold inU isDk inK dgetM; simp only [h, hk]; exact Iff.rfl
theorem inU_dn (hk : keyN d = some k) : Post (inU d (.dkt fn) M) Q E ↔ Q (.bl (valN fn k).isSome) M := by
  unfold inU isDk inK dgetM; simp only [hk]; exact Iff.rfl
theorem notInU_n (h : M[n]? = some (some (.dkt fn))) (hk : keyN d = some k) : Post (notInU d (.loc n) M) Q E ↔ Q (.bl (!(valN fn k).isSome)) M := by
  unfold notInU isDk inK dgetM; simp only [h, hk]; exact Iff.rfl
theorem notInU_dn (hk : keyN d = some k) : Post (notInU d (.dkt fn) M) Q E ↔ Q (.bl (!(valN fn k).isSome)) M := by
  unfold notInU isDk inK dgetM; simp only [hk]; exact Iff.rfl
theorem inU_n0 (h : M[n]? = some (some (.dk []))) (h2 : keyD d = none) (hk : keyN d = some k) : Post (inU d (.loc n) M) Q E ↔ Q (.bl false) M := by
  unfold inU isDk inK dgetM dgetK; simp only [h, h2, hk]; exact Iff.rfl
theorem notInU_n0 (h : M[n]? = some (some (.dk []))) (h2 : keyD d = none) (hk : keyN d = some k) : Post (notInU d (.loc n) M) Q E ↔ Q (.bl true) M := by
  unfold notInU isDk inK dgetM dgetK; simp only [h, h2, hk]; exact Iff.rfl
theorem ixU_n (h : M[n]? = some (some (.dkt fn))) (hk : keyN d = some k) : Post (ixU (.loc n) d M) Q E ↔ SomeP (valN fn k) fun v => Q v M := by
  unfold ixU dgetM; simp only [h, hk, Option.map_some]
  cases valN fn k <;> exact Iff.rfl
theorem ixU_dn (hk : keyN d = some k) : Post (ixU (.dkt fn) d M) Q E ↔ SomeP (valN fn k) fun v => Q v M := by
  unfold ixU dgetM; simp only [hk, Option.map_some]
  cases valN fn k <;> exact Iff.rfl
end
@[simp] theorem p_ixU_tup : Post (ixU (.tup xs) (.int i) M) Q E ↔ AtP xs i fun d => Q d M := p_ix_tup
@[simp] theorem p_ixU_lst : Post (ixU (.lst xs) (.int i) M) Q E ↔ AtP xs i fun d => Q d M := p_ix_lst
theorem ixU_l (h : M[n]? = some (some (.lst xs))) : Post (ixU (.loc n) (.int i) M) Q E ↔ AtP xs i fun d => Q d M := by
  have e : dgetM M (.loc n) (.int i) = none := by unfold dgetM; simp only [h]
  show Post ((match dgetM M (.loc n) (.int i) with | some (some d) => .ok d M | some none => .bad | none => ixD (.loc n) (.int i) M) : Out D) Q E ↔ _
  rw [e]
  exact p_ix_loc h
@[simp] theorem keyD_int' : keyD (.int i) = some (.inl i) := rfl
@[simp] theorem keyD_str' {z : Str} : keyD (.str z) = some (.inr z) := rfl
/-! sorted -/
theorem sortD_k {fr : List D → Py D} (h : M[n]? = some (some (.dk fs))) : Post (sortD fr (.loc n) M) Q E ↔ SomeP (keyInts (fs.map (·.1))) fun ns => Post (fr ((sortL ns).map D.int) M) Q E := by
  unfold sortD dkeysM; simp only [h]
  cases keyInts (fs.map (·.1)) <;> exact Iff.rfl
theorem p_sortK {fr : List D → Py D} {o : Option (List Int)} : Post (sortK fr o M) Q E ↔ SomeP o fun ns => Post (fr ((sortL ns).map D.int) M) Q E := by
  cases o <;> exact Iff.rfl
@[simp] theorem p_sortD_lst {fr : List D → Py D} : Post (sortD fr (.lst xs) M) Q E ↔ SomeP (intsOf xs) fun ns => Post (fr ((sortL ns).map D.int) M) Q E := by
  show Post (Py.bnd (litems (.lst xs)) (fun ds => sortK fr (intsOf ds)) M) Q E ↔ _
  exact post_bnd.trans p_sortK
theorem p_sortSetK {fr : List D → Py D} {o : Option (List Int)} : Post (sortSetK fr o M) Q E ↔ SomeP o fun ns => (dd ns).length < 64 ∧ Post (fr ((sortL (dd ns)).map D.int) M) Q E := by
  cases o with
  | none => exact Iff.rfl
  | some ns => exact post_chk
@[simp] theorem p_sortSet_lst {fr : List D → Py D} : Post (sortSetD fr [.lst xs] M) Q E ↔ SomeP (intsOf xs) fun ns => (dd ns).length < 64 ∧ Post (fr ((sortL (dd ns)).map D.int) M) Q E := by
  show Post (Py.bnd (litems (.lst xs)) (fun ds => sortSetK fr (intsOf ds)) M) Q E ↔ _
  exact post_bnd.trans p_sortSetK
theorem sortSet_l {fr : List D → Py D} (h : M[n]? = some (some (.lst xs))) : Post (sortSetD fr [.loc n] M) Q E ↔ SomeP (intsOf xs) fun ns => (dd ns).length < 64 ∧ Post (fr ((sortL (dd ns)).map D.int) M) Q E := by
  refine post_bnd.trans ?_
  show Post (items (.loc n) M) _ E ↔ _
  rw [p_items_loc h]
  exact p_sortSetK
@[simp] theorem keyInts_map' : keyInts (ns.map Sum.inl) = some ns := by
  induction ns with
  | nil => rfl
  | cons x r ih => show (keyInts (r.map Sum.inl)).map _ = _; rw [ih]; rfl
/-! lists that change -/
@[simp] theorem p_extend_l : Post (extendD (.loc n) [.lst ys] M) Q E ↔ LocL M n fun xs => xs.length + ys.length ≤ sizeLine ∧ Q .non (M.set n (some (.lst (xs ++ ys)))) := by
  unfold extendD
  rw [p_locL]
  have e : ∀ xs : List D, Post ((Py.bnd (exItems (.lst ys)) fun ys => Py.chk (xs.length + ys.length ≤ sizeLine) (putL n (xs ++ ys) .non)) M) Q E ↔ xs.length + ys.length ≤ sizeLine ∧ Q .non (M.set n (some (.lst (xs ++ ys)))) := fun xs => post_chk
  simp only [e]
@[simp] theorem p_extend_t : Post (extendD (.loc n) [.tup ys] M) Q E ↔ LocL M n fun xs => xs.length + ys.length ≤ sizeLine ∧ Q .non (M.set n (some (.lst (xs ++ ys)))) := by
  unfold extendD
  rw [p_locL]
  have e : ∀ xs : List D, Post ((Py.bnd (exItems (.tup ys)) fun ys => Py.chk (xs.length + ys.length ≤ sizeLine) (putL n (xs ++ ys) .non)) M) Q E ↔ xs.length + ys.length ≤ sizeLine ∧ Q .non (M.set n (some (.lst (xs ++ ys)))) := fun xs => post_chk
  simp only [e]
theorem pop_l (h : M[n]? = some (some (.lst (xs ++ [d])))) : Post (popD (.loc n) [] M) Q E ↔ Q d (M.set n (some (.lst xs))) := by
  unfold popD locL
  simp only [h]
  rw [show (xs ++ [d])[(xs ++ [d]).length - 1]? = some d by simp, List.dropLast_concat]
  exact Iff.rfl
@[simp] theorem p_lstN_tup : Post (lstN (.tup xs) M) Q E ↔ Q (.loc M.length) (M ++ [some (.lst xs)]) := Iff.rfl
@[simp] theorem p_lstN_lst : Post (lstN (.lst xs) M) Q E ↔ Q (.loc M.length) (M ++ [some (.lst xs)]) := Iff.rfl
@[simp] theorem p_rng3 : Post (iRng3D ff ρ M) QW E ↔ Post (ff ρ M) (fun ds M1 => Post (rngW3 ds M1) QW E) E := by
  unfold iRng3D; rw [post_bnd]
@[simp] theorem p_rngW3 {k : Int} : Post (rngW3 [.int i, .int j, .int k] M) QW E ↔ (-(2 ^ 62) ≤ i ∧ i < 2 ^ 62 ∧ -(2 ^ 62) ≤ j ∧ j < 2 ^ 62 ∧ k = -1) ∧ QW ⟨rngDn i j, fun _ => True⟩ M := post_chk
@[simp] theorem p_mulLn {k : Int} : Post (mulLn (.lst xs) (.int k) M) Q E ↔ (-(2 ^ 63) ≤ k ∧ k < 2 ^ 63 ∧ xs.length * k.toNat ≤ sizeLine) ∧ Q (.loc M.length) (M ++ [some (.lst (List.replicate k.toNat xs).flatten)]) := post_bnd.trans post_chk
@[simp] theorem p_fzL : Post (fzL n sb ρ M) QF E ↔ Post (getV ρ[n]? M) (fun d M1 => Post (locL d (fun m xs => fun M => sb (ρ.set n (some (.lst xs))) (M.set m none)) M1) QF E) E := by
  unfold fzL; rw [post_bnd]
theorem locL_l {α : Type} {R : α → Store → Prop} {k : Nat → List D → Py α} (h : M[n]? = some (some (.lst xs))) : Post (locL (.loc n) k M) R E ↔ Post (k n xs M) R E := by
  rw [p_locL, locL_of h]
theorem wk_l (h : M[n]? = some (some (.lst xs))) : Post (wkA (.loc n) M) QW E ↔ QW ⟨xs, fun M' => M'[n]? = some (some (.lst xs))⟩ M := by
  show Post ((match M[n]? with | some (some (.lst xs)) => .ok ⟨xs, fun M' => M'[n]? = some (some (.lst xs))⟩ M | _ => .bad : Out Wk)) QW E ↔ _
  simp only [h]; exact Iff.rfl
/-! whiles -/
theorem while_g {n : Nat} (I : Nat → DEnv → Store → Prop) (k : Nat) (hk : k < n) (h : I k ρ M)
    (step : ∀ k ρ M, I k ρ M → Post (ta ρ M) (fun c M1 => if c = true then Post (sa ρ M1) (turnF (fun ρ' M' => ∃ j, j < k ∧ I j ρ' M') QF) E else QF (.nx ρ) M1) E) : Post (whD ta sa n ρ M) QF E := by
  induction n generalizing ρ M k with
  | zero => omega
  | succ n ih =>
    show Post (Py.bnd (ta ρ) (fun c => if c then Py.bnd (sa ρ) (fun r => match r with
      | .nx ρ' => whD ta sa n ρ'
      | .ct ρ' => whD ta sa n ρ'
      | .bk ρ' => Py.ret (.nx ρ')
      | .rt v => Py.ret (.rt v)) else Py.ret (.nx ρ)) M) QF E
    refine post_bnd.mpr ((step k ρ M h).imp fun c M1 h1 => ?_)
    cases c with
    | false => exact h1
    | true =>
      rw [if_pos rfl] at h1 ⊢
      refine post_bnd.mpr (Post.imp h1 fun r M2 h2 => ?_)
      cases r with
      | nx ρ' => obtain ⟨j, hj, h3⟩ := h2; exact ih j (by omega) h3
      | ct ρ' => obtain ⟨j, hj, h3⟩ := h2; exact ih j (by omega) h3
      | bk ρ' => exact h2
      | rt v => exact h2
theorem while_rule {n : Nat} (I : DEnv → Store → Prop) (m : DEnv → Store → Nat) (h : I ρ M) (hm : m ρ M < n)
    (step : ∀ ρ M, I ρ M → Post (ta ρ M) (fun c M1 => if c = true then Post (sa ρ M1) (turnF (fun ρ' M' => I ρ' M' ∧ m ρ' M' < m ρ M) QF) E else QF (.nx ρ) M1) E) : Post (whD ta sa n ρ M) QF E := by
  induction n generalizing ρ M with
  | zero => omega
  | succ n ih =>
    show Post (Py.bnd (ta ρ) (fun c => if c then Py.bnd (sa ρ) (fun r => match r with
      | .nx ρ' => whD ta sa n ρ'
      | .ct ρ' => whD ta sa n ρ'
      | .bk ρ' => Py.ret (.nx ρ')
      | .rt v => Py.ret (.rt v)) else Py.ret (.nx ρ)) M) QF E
    refine post_bnd.mpr ((step ρ M h).imp fun c M1 h1 => ?_)
    cases c with
    | false => exact h1
    | true =>
      rw [if_pos rfl] at h1 ⊢
      refine post_bnd.mpr (Post.imp h1 fun r M2 h2 => ?_)
      cases r with
      | nx ρ' => have := h2.2; exact ih h2.1 (by omega)
      | ct ρ' => have := h2.2; exact ih h2.1 (by omega)
      | bk ρ' => exact h2
      | rt v => exact h2
end
/-! more about dicts -/
section
variable {κ : Type} [DecidableEq κ] {fs gs : List (κ × D)} {k j : κ} {v : D}
theorem valG_isSome : (valG fs k).isSome = true ↔ k ∈ fs.map (·.1) := by
  unfold valG
  rw [Option.isSome_map, List.find?_isSome]
  simp only [decide_eq_true_eq, List.mem_map]
theorem putG_keys : (putG fs k v).map (·.1) = if k ∈ fs.map (·.1) then fs.map (·.1) else fs.map (·.1) ++ [k] := by
  unfold putG
  have e : (fs.any fun kv => decide (kv.1 = k)) = true ↔ k ∈ fs.map (·.1) := by
    rw [List.any_eq_true, List.mem_map]
    simp only [decide_eq_true_eq]
  by_cases h : k ∈ fs.map (·.1)
  · rw [if_pos (e.mpr h), if_pos h, List.map_map]
    refine List.map_congr_left fun p _ => ?_
    show (if p.1 = k then (p.1, v) else p).1 = p.1
    split <;> rfl
  · rw [if_neg (fun z => h (e.mp z)), if_neg h, List.map_append]; rfl
theorem putG_mem : j ∈ (putG fs k v).map (·.1) ↔ j ∈ fs.map (·.1) ∨ j = k := by
  rw [putG_keys]
  split
  · rename_i h
    exact ⟨.inl, fun z => z.elim (fun x => x) fun e => e ▸ h⟩
  · rw [List.mem_append, List.mem_singleton]
theorem putG_nodup (h : (fs.map (·.1)).Nodup) : ((putG fs k v).map (·.1)).Nodup := by
  rw [putG_keys]
  split
  · exact h
  · rename_i hk
    exact List.nodup_append.mpr ⟨h, by simp, fun a ha b hb e => by rw [List.mem_singleton] at hb; subst hb; subst e; exact hk ha⟩
theorem dropG_mem : j ∈ (dropG fs k).map (·.1) ↔ j ∈ fs.map (·.1) ∧ j ≠ k := by
  unfold dropG
  simp only [List.mem_map, List.mem_filter, decide_eq_true_eq]
  constructor
  · rintro ⟨p, ⟨h1, h2⟩, rfl⟩; exact ⟨⟨p, h1, rfl⟩, h2⟩
  · rintro ⟨⟨p, h1, rfl⟩, h2⟩; exact ⟨p, ⟨h1, h2⟩, rfl⟩
theorem dropG_nodup (h : (fs.map (·.1)).Nodup) : ((dropG fs k).map (·.1)).Nodup := (List.filter_sublist.map _).nodup h
theorem putG_val : valG (putG fs k v) j = if j = k then some v else valG fs j := by
  unfold putG valG
  by_cases h : (fs.any fun kv => decide (kv.1 = k)) = true
  · rw [if_pos h]
    rw [List.find?_map]
    by_cases e : j = k
    · subst e
      rw [if_pos rfl]
      have e2 : ((fun kv : κ × D => decide (kv.1 = j)) ∘ fun kv => if kv.1 = j then (kv.1, v) else kv) = fun kv => decide (kv.1 = j) := by
        funext kv; show decide ((if kv.1 = j then (kv.1, v) else kv).1 = j) = _; split <;> rfl
      rw [e2]
      obtain ⟨p, hp, hk⟩ := List.any_eq_true.mp h
      cases q : fs.find? fun kv => decide (kv.1 = j) with
      | none => exact absurd hk (by simpa using List.find?_eq_none.mp q p hp)
      | some p =>
        have hq := List.find?_some q
        simp only [decide_eq_true_eq] at hq
        show some (if p.1 = j then (p.1, v) else p).2 = _
        rw [if_pos hq]
    · rw [if_neg e]
      have e2 : ((fun kv : κ × D => decide (kv.1 = j)) ∘ fun kv => if kv.1 = k then (kv.1, v) else kv) = fun kv => decide (kv.1 = j) := by
        funext kv; show decide ((if kv.1 = k then (kv.1, v) else kv).1 = j) = _; split <;> rfl
      rw [e2]
      cases q : fs.find? fun kv => decide (kv.1 = j) with
      | none => rfl
      | some p =>
        have hq := List.find?_some q
        simp only [decide_eq_true_eq] at hq
        show some (if p.1 = k then (p.1, v) else p).2 = some p.2
        rw [if_neg (fun z => e (hq.symm.trans z))]
  · rw [if_neg h, List.find?_append]
    by_cases e : j = k
    · subst e
      rw [if_pos rfl]
      have : fs.find? (fun kv => decide (kv.1 = j)) = none := List.find?_eq_none.mpr fun p hp z => h (List.any_eq_true.mpr ⟨p, hp, z⟩)
      rw [this]
      rw [Option.none_or]
      rw [List.find?_cons_of_pos (by simp)]
      rfl
    · rw [if_neg e]
      cases q : fs.find? fun kv => decide (kv.1 = j) with
      | some p => rfl
      | none =>
        rw [Option.none_or]
        rw [List.find?_cons_of_neg (by simp [Ne.symm e])]
        rfl
theorem mergeG_mem : ∀ (gs fs : List (κ × D)), j ∈ (mergeG fs gs).map (·.1) ↔ j ∈ fs.map (·.1) ∨ j ∈ gs.map (·.1)
  | [], fs => by show j ∈ fs.map (·.1) ↔ _; simp
  | g :: gs, fs => by
    show j ∈ (mergeG (putG fs g.1 g.2) gs).map (·.1) ↔ _
    rw [mergeG_mem gs, putG_mem, List.map_cons, List.mem_cons, or_assoc]
theorem mergeG_nodup : ∀ (gs fs : List (κ × D)), (fs.map (·.1)).Nodup → ((mergeG fs gs).map (·.1)).Nodup
  | [], fs, h => h
  | g :: gs, fs, h => mergeG_nodup gs _ (putG_nodup h)
end
/-! sorted lists -/
theorem sortL_ext {a b : List Int} (ha : a.Nodup) (hb : b.Nodup) (h : ∀ x, x ∈ a ↔ x ∈ b) : sortL a = sortL b := by
  have p : a.Perm b := (List.perm_ext_iff_of_nodup ha hb).mpr h
  exact sortL_eq ((sortL_perm a).trans p) (sortL_asc a)
theorem mem_sortL {a : List Int} {x : Int} : x ∈ sortL a ↔ x ∈ a := (sortL_perm a).mem_iff
section
variable {QL : List D → Store → Prop} {E : Exn → Store → Prop} {M : Store} {ρ : DEnv} {d : D}
/-- between two steps -/
def midF (I : DEnv → Store → Prop) (QF : Fl → Store → Prop) : Fl → Store → Prop
  | .nx ρ, M => I ρ M
  | r, M => QF r M
section
variable {I : DEnv → Store → Prop} {QF : Fl → Store → Prop}
@[simp] theorem midF_nx : midF I QF (.nx ρ) M ↔ I ρ M := Iff.rfl
@[simp] theorem midF_rt : midF I QF (.rt d) M ↔ QF (.rt d) M := Iff.rfl
@[simp] theorem midF_bk : midF I QF (.bk ρ) M ↔ QF (.bk ρ) M := Iff.rfl
@[simp] theorem midF_ct : midF I QF (.ct ρ) M ↔ QF (.ct ρ) M := Iff.rfl
theorem seq_mid {sa sb : DEnv → Py Fl} (I : DEnv → Store → Prop) (h1 : Post (sa ρ M) (midF I QF) E) (h2 : ∀ ρ M, I ρ M → Post (sb ρ M) QF E) : Post (sSeq sa sb ρ M) QF E := by
  rw [p_sSeq]
  refine h1.imp fun r M1 z => ?_
  cases r with
  | nx ρ1 => exact h2 ρ1 M1 z
  | _ => exact z
end
end
theorem nodup_len {α : Type} [DecidableEq α] : ∀ {l m : List α}, l.Nodup → (∀ x ∈ l, x ∈ m) → l.length ≤ m.length
  | [], m, _, _ => Nat.zero_le _
  | a :: l, m, h, k => by
    have ha : a ∈ m := k a (List.mem_cons_self ..)
    have h2 := (List.nodup_cons.mp h)
    have := nodup_len (l := l) (m := m.erase a) h2.2 fun x hx => (List.mem_erase_of_ne (fun e : x = a => h2.1 (by rw [← e]; exact hx))).mpr (k x (List.mem_cons_of_mem _ hx))
    rw [List.length_erase_of_mem ha] at this
    have := List.length_pos_of_mem ha
    rw [List.length_cons]; omega
section
variable {QL : List D → Store → Prop} {E : Exn → Store → Prop} {M : Store} {ρ : DEnv} {ok : Store → Prop} {tg : D → DEnv → Py DEnv} {tt : DEnv → Py Bool} {fe : DEnv → Py D} {d : D} {ds acc : List D}
theorem okM_iff {α : Type} {k : Py α} {R : α → Store → Prop} : Post (okM ok k M) R E ↔ ok M ∧ Post (k M) R E := by
  unfold okM
  by_cases h : ok M
  · rw [if_pos h]; exact ⟨fun z => ⟨h, z⟩, fun z => z.2⟩
  · rw [if_neg h]; exact ⟨fun z => z.elim, fun z => h z.1⟩
theorem lcD_nil : Post (lcD ok tg tt fe ρ [] acc M) QL E ↔ ok M ∧ QL acc M := by
  unfold lcD; exact okM_iff
theorem lcD_cons : Post (lcD ok tg tt fe ρ (d :: ds) acc M) QL E ↔ ok M ∧ Post (tg d ρ M) (fun ρ1 M1 => Post (tt ρ1 M1) (fun b M2 => if b = true then Post (fe ρ1 M2) (fun y M3 => acc.length < sizeLine ∧ Post (lcD ok tg tt fe ρ ds (acc ++ [y]) M3) QL E) E else Post (lcD ok tg tt fe ρ ds acc M2) QL E) E) E := by
  conv => lhs; unfold lcD
  rw [okM_iff]
  simp only [post_bnd, post_if, post_chk]
@[simp] theorem p_pNil {R : List (D × D) → Store → Prop} : Post (pNil ρ M) R E ↔ R [] M := Iff.rfl
@[simp] theorem p_pCons {fk fv : DEnv → Py D} {r : DEnv → Py (List (D × D))} {R : List (D × D) → Store → Prop} : Post (pCons fk fv r ρ M) R E ↔ Post (fk ρ M) (fun k M1 => Post (fv ρ M1) (fun v M2 => Post (r ρ M2) (fun ps M3 => R ((k, v) :: ps) M3) E) E) E := by
  unfold pCons; simp only [post_bnd]; exact Iff.rfl
theorem p_dkOf {ds : List (D × D)} {o : Option (List (Key × D))} {Q : D → Store → Prop} : Post (dkOf ds o M) Q E ↔ SomeP o fun fs => ds.length ≤ 15 ∧ Q (.dk (mergeD [] fs)) M := by
  cases o with
  | none => exact Iff.rfl
  | some fs => exact post_chk
@[simp] theorem p_eDisp {fp : DEnv → Py (List (D × D))} {Q : D → Store → Prop} : Post (eDisp fp ρ M) Q E ↔ Post (fp ρ M) (fun ds M1 => SomeP (keysD ds) fun fs => ds.length ≤ 15 ∧ Q (.dk (mergeD [] fs)) M1) (fun _ _ => False) := by
  unfold eDisp
  rw [post_bnd]
  simp only [p_noX, p_dkOf]
@[simp] theorem keysD_nil : keysD [] = some [] := rfl
@[simp] theorem keysD_str {z : Str} {v : D} {r : List (D × D)} : keysD ((.str z, v) :: r) = (keysD r).map fun r' => (.inr z, v) :: r' := rfl
@[simp] theorem keysD_int {z : Int} {v : D} {r : List (D × D)} : keysD ((.int z, v) :: r) = (keysD r).map fun r' => (.inl z, v) :: r' := rfl
theorem p_dkIx {fs : List (Key × D)} {k : Key} {Q : D → Store → Prop} : Post (dkIx fs (some k) M) Q E ↔ SomeP (valD fs k) fun d => Q d M := by
  cases h : valD fs k with
  | none =>
    have e : dkIx fs (some k) = Py.bad := by unfold dkIx; dsimp only; rw [h]
    rw [e]; exact Iff.rfl
  | some d =>
    have e : dkIx fs (some k) = Py.ret d := by unfold dkIx; dsimp only; rw [h]
    rw [e]; exact Iff.rfl
@[simp] theorem p_dix_str {fs : List (Key × D)} {z : Str} {Q : D → Store → Prop} : Post (dixD (.dk fs) (.str z) M) Q E ↔ SomeP (valD fs (.inr z)) fun d => Q d M := p_dkIx
@[simp] theorem p_dix_int {fs : List (Key × D)} {z : Int} {Q : D → Store → Prop} : Post (dixD (.dk fs) (.int z) M) Q E ↔ SomeP (valD fs (.inl z)) fun d => Q d M := p_dkIx
theorem isS_iff {x : D} {z : Str} : isS x z = true ↔ x = .str z := by
  cases x with
  | str a =>
    simp
    constructor <;> intro h <;> exact h.symm
  | _ => simp [isS]
theorem patch_len {xs : List D} {lo hi : Option Int} {m : Nat} (h : xs.length ≤ m) : (cutD xs none hi).length ≤ m ∧ (cutD xs lo none).length ≤ m := ⟨Nat.le_trans cutD_len h, Nat.le_trans cutD_len h⟩
theorem set_split {xs : List D} {k : Nat} {x : D} (h : k < xs.length) : cutD xs none (some (k : Int)) ++ [x] ++ cutD xs (some ((k : Int) + 1)) none = xs.set k x := by
  unfold cutD HT.sIx
  have h1 : ¬ ((k : Int) < 0) := by omega
  have h2 : ¬ ((k : Int) + 1 < 0) := by omega
  simp [h1, h2]
  rw [Nat.min_eq_left (Nat.le_of_lt h), Nat.min_eq_left (show k + 1 ≤ xs.length from h), List.take_of_length_le (l := List.drop (k + 1) xs) (by rw [List.length_drop]; omega), List.set_eq_take_append_cons_drop, if_pos h]
end
end L3
set_option Elab.async false
set_option linter.all false
set_option maxRecDepth 100000
set_option maxHeartbeats 4000000
set_option autoImplicit false
namespace L3
open PySem PySem.Spec L2
open PyProof.Rows hiding St
/-! data whose leaves are small: their text, their sameness -/
mutual
def okD (B : Nat) : D → Bool
  | .non => true
  | .bl _ => true
  | .int i => decide (i.natAbs < 10 ^ B)
  | .str x => PyData.strOk x
  | .tup xs => okDs B xs
  | .lst xs => okDs B xs
  | .ro xs => okDs B xs
  | .dk _ => false
  | .dkt _ => false
  | .ins _ _ => false
  | .loc _ => false
  | .ref _ => false
  | .ty _ => false
def okDs (B : Nat) : List D → Bool
  | [] => true
  | x :: xs => okD B x && okDs B xs
end
mutual
def depD : D → Nat
  | .tup xs => depDs xs + 1
  | .lst xs => depDs xs + 1
  | .ro xs => depDs xs + 1
  | .non => 0
  | .bl _ => 0
  | .int _ => 0
  | .str _ => 0
  | .dk _ => 0
  | .dkt _ => 0
  | .ins _ _ => 0
  | .loc _ => 0
  | .ref _ => 0
  | .ty _ => 0
def depDs : List D → Nat
  | [] => 0
  | x :: xs => max (depD x) (depDs xs)
end
mutual
def wtD (B : Nat) : D → Nat
  | .int _ => 4 * B + 1
  | .str x => x.cps.size
  | .tup xs => wtDs B xs
  | .lst xs => wtDs B xs
  | .ro xs => wtDs B xs
  | .non => 0
  | .bl _ => 0
  | .dk _ => 0
  | .dkt _ => 0
  | .ins _ _ => 0
  | .loc _ => 0
  | .ref _ => 0
  | .ty _ => 0
def wtDs (B : Nat) : List D → Nat
  | [] => 0
  | x :: xs => wtD B x + 1 + wtDs B xs
end
/-- what is known of it as data -/
structure SmD (B dep wt : Nat) (p : PyData) : Prop where
  lay : p.canLay0 = true
  dep : p.depth = dep
  short : p.leavesShort (B + 1) = true
  wt : p.weight ≤ wt
  show_ : B ≤ 100 → p.showable = true
structure SmDs (B dep wt : Nat) (p : List PyData) : Prop where
  lay : PyData.canLayAll0 p = true
  dep : PyData.depthAll p = dep
  short : PyData.leavesShortAll (B + 1) p = true
  wt : PyData.weightAll p ≤ wt
  show_ : B ≤ 100 → PyData.showableAll p = true
theorem log_small {n B : Nat} (h : n < 10 ^ B) : n.log2 ≤ 4 * B := by
  have h1 : (10 : Nat) ^ B ≤ 16 ^ B := Nat.pow_le_pow_left (by omega) B
  have h2 : (16 : Nat) ^ B = 2 ^ (4 * B) := by rw [show (16 : Nat) = 2 ^ 4 from rfl, ← Nat.pow_mul]
  by_cases h0 : n = 0
  · subst h0; simp
  · have := (Nat.log2_lt h0).mpr (show n < 2 ^ (4 * B) by omega)
    omega
theorem smD_int {B : Nat} {i : Int} (h : i.natAbs < 10 ^ B) : SmD B 0 (4 * B + 1) (.int i) := by
  have hl := log_small h
  refine ⟨rfl, by simp [PyData.depth], ?_, ?_, fun hB => ?_⟩
  · simp only [PyData.leavesShort, decide_eq_true_eq]
    by_cases hB : 0 < B
    · have := int_text_length_le10 (a := i) hB h
      show (Str.ofString (toString i)).length ≤ B + 1
      rw [PySem.ofString_length]
      exact this
    · have e : B = 0 := by omega
      subst e
      have : i = 0 := by omega
      subst this
      decide
  · simp only [PyData.weight]
    split <;> omega
  · simp only [PyData.showable, decide_eq_true_eq]
    have h1 : i.natAbs < 10 ^ 100 := Nat.lt_of_lt_of_le h (Nat.pow_le_pow_right (by omega) hB)
    by_cases h0 : i.natAbs = 0
    · rw [h0]; decide
    · refine (Nat.log2_lt h0).mpr (Nat.lt_of_lt_of_le h1 ?_)
      decide +kernel
mutual
theorem smD_of {B : Nat} : ∀ d : D, okD B d = true → ∃ p, pyD d = some p ∧ SmD B (depD d) (wtD B d) p
  | .non, _ => ⟨_, rfl, rfl, by simp [PyData.depth, depD], rfl, by simp [PyData.weight], fun _ => rfl⟩
  | .bl b, _ => ⟨_, rfl, rfl, by simp [PyData.depth, depD], rfl, by simp [PyData.weight], fun _ => rfl⟩
  | .int i, h => ⟨_, rfl, smD_int (of_decide_eq_true h)⟩
  | .str x, h => ⟨_, rfl, h, by simp [PyData.depth, depD], by
      have h0 : x.cps.all (· < 0x110000) = true := h
      simp only [PyData.leavesShort, List.all_eq_true, decide_eq_true_eq]
      intro c hc
      have := (Array.all_eq_true_iff_forall_mem.mp h0) c (Array.mem_toList_iff.mp hc)
      have h2 : c < 0x110000 := by simpa using this
      have e : (16 : Nat) ^ 8 = 4294967296 := by decide
      omega, by simp [PyData.weight, wtD], fun _ => rfl⟩
  | .tup xs, h => by
    obtain ⟨ps, e, q⟩ := smDs_of xs h
    exact ⟨.tuple ps, by show (pyL xs).map PyData.tuple = _; rw [e]; rfl, by simp only [PyData.canLay0]; exact q.lay, by simp only [PyData.depth, depD, q.dep], by simp only [PyData.leavesShort]; exact q.short, by simp only [PyData.weight, wtD]; exact q.wt, fun hB => by simp only [PyData.showable]; exact q.show_ hB⟩
  | .lst xs, h => by
    obtain ⟨ps, e, q⟩ := smDs_of xs h
    exact ⟨.list ps, by show (pyL xs).map PyData.list = _; rw [e]; rfl, by simp only [PyData.canLay0]; exact q.lay, by simp only [PyData.depth, depD, q.dep], by simp only [PyData.leavesShort]; exact q.short, by simp only [PyData.weight, wtD]; exact q.wt, fun hB => by simp only [PyData.showable]; exact q.show_ hB⟩
  | .ro xs, h => by
    obtain ⟨ps, e, q⟩ := smDs_of xs h
    exact ⟨.list ps, by show (pyL xs).map PyData.list = _; rw [e]; rfl, by simp only [PyData.canLay0]; exact q.lay, by simp only [PyData.depth, depD, q.dep], by simp only [PyData.leavesShort]; exact q.short, by simp only [PyData.weight, wtD]; exact q.wt, fun hB => by simp only [PyData.showable]; exact q.show_ hB⟩
  | .dk _, h => nomatch h
  | .dkt _, h => nomatch h
  | .ins _ _, h => nomatch h
  | .loc _, h => nomatch h
  | .ref _, h => nomatch h
  | .ty _, h => nomatch h
theorem smDs_of {B : Nat} : ∀ ds : List D, okDs B ds = true → ∃ ps, pyL ds = some ps ∧ SmDs B (depDs ds) (wtDs B ds) ps
  | [], _ => ⟨[], rfl, rfl, by simp [PyData.depthAll, depDs], rfl, by simp [PyData.weightAll], fun _ => rfl⟩
  | x :: xs, h => by
    have h' : okD B x = true ∧ okDs B xs = true := Bool.and_eq_true_iff.mp h
    obtain ⟨p, e, q⟩ := smD_of x h'.1
    obtain ⟨ps, e2, q2⟩ := smDs_of xs h'.2
    refine ⟨p :: ps, by show (pyD x).bind _ = _; rw [e]; show (pyL xs).map _ = _; rw [e2]; rfl, ?_, ?_, ?_, ?_, fun hB => ?_⟩
    · simp only [PyData.canLayAll0, q.lay, q2.lay, Bool.and_self]
    · simp only [PyData.depthAll, depDs, q.dep, q2.dep]
    · simp only [PyData.leavesShortAll, q.short, q2.short, Bool.and_self]
    · have := q.wt; have := q2.wt
      simp only [PyData.weightAll, wtDs]; omega
    · simp only [PyData.showableAll, q.show_ hB, q2.show_ hB, Bool.and_self]
end
theorem okDs_iff {B : Nat} : ∀ {xs : List D}, okDs B xs = true ↔ ∀ x ∈ xs, okD B x = true
  | [] => by simp [okDs]
  | x :: xs => by simp [okDs, okDs_iff (xs := xs)]
theorem depDs_le {n : Nat} : ∀ {xs : List D}, (∀ x ∈ xs, depD x ≤ n) → depDs xs ≤ n
  | [], _ => Nat.zero_le _
  | x :: xs, h => by
    show max (depD x) (depDs xs) ≤ n
    exact Nat.max_le.mpr ⟨h x (List.mem_cons_self ..), depDs_le fun y hy => h y (List.mem_cons_of_mem _ hy)⟩
theorem wtDs_le {B n : Nat} : ∀ {xs : List D}, (∀ x ∈ xs, wtD B x ≤ n) → wtDs B xs ≤ (n + 1) * xs.length
  | [], _ => Nat.zero_le _
  | x :: xs, h => by
    have h1 := h x (List.mem_cons_self ..)
    have h2 := wtDs_le (B := B) fun y hy => h y (List.mem_cons_of_mem _ hy)
    show wtD B x + 1 + wtDs B xs ≤ _
    rw [List.length_cons, Nat.mul_succ]; omega
/-- the text of data -/
def reprT (d : D) : Str := match pyD d with
  | some p => p.shown
  | none => ⟨#[]⟩
/-- it can be told -/
structure Tell (d : D) : Prop where
  ex : ∃ B, okD B d = true ∧ B ≤ 100 ∧ depD d < 60 ∧ (B + 3) * wtD B d + (B + 1) ≤ 16777216 ∧ 7 ≤ B
theorem pyM_eq {d : D} {p : PyData} {M : Store} (h : pyD d = some p) : pyM M d = some p := by
  cases d <;> first | exact h | cases h
theorem repr_eq {d : D} {M : Store} (h : Tell d) : reprD d M = .ok (.str (reprT d)) M := by
  obtain ⟨B, h1, h2, h3, h4, h5⟩ := h.ex
  obtain ⟨p, e, q⟩ := smD_of d h1
  have e2 : reprT d = p.shown := by unfold reprT; rw [e]
  rw [e2]
  refine reprD_ok (pyM_eq e) ?_
  unfold shows
  have hd : p.hasDict = false := PyData.hasDict_of_canLay p q.lay
  have hs := PyData.shown_le (B + 1) (by omega) p q.short
  have hw : (B + 3) * p.weight ≤ (B + 3) * wtD B d := Nat.mul_le_mul_left _ q.wt
  rw [show B + 1 + 2 = B + 3 by omega] at hs
  have hz : p.shown.length ≤ sizeLine := by rw [sizeLine_eq]; omega
  have hdep : p.depth < 60 := by rw [q.dep]; exact h3
  rw [q.show_ h2, hd, decide_eq_true hdep, decide_eq_true hz]
  rfl
/-- it can be held against other data -/
theorem shaped_of {B : Nat} {d : D} {p : PyData} (h : okD B d = true) (hd : depD d ≤ 64) (e : pyD d = some p) : SeqAt.shaped p = true := by
  obtain ⟨p', e', q⟩ := smD_of d h
  rw [e] at e'; cases e'
  unfold SeqAt.shaped
  simp only [q.lay, q.dep, Bool.true_and, decide_eq_true_eq]
  exact hd
theorem pyL_ints : ∀ ns : List Int, pyL (ns.map D.int) = some (ns.map PyData.int)
  | [] => rfl
  | n :: ns => by show (pyD (.int n)).bind _ = _; show (pyL (ns.map D.int)).map _ = _; rw [pyL_ints ns]; rfl
theorem shaped_int {i : Int} : SeqAt.shaped (.int i) = true := by
  have : PyData.depth (.int i) = 0 := by simp [PyData.depth]
  unfold SeqAt.shaped; rw [this]; rfl
theorem shaped_ints {ns : List Int} : SeqAt.shaped (.list (ns.map PyData.int)) = true := by
  have h1 : ∀ ns : List Int, PyData.canLayAll0 (ns.map PyData.int) = true := by
    intro ns; induction ns with
    | nil => rfl
    | cons n ns ih => simp only [List.map_cons, PyData.canLayAll0, ih, Bool.and_true]; rfl
  have h2 : ∀ ns : List Int, PyData.depthAll (ns.map PyData.int) = 0 := by
    intro ns; induction ns with
    | nil => simp [PyData.depthAll]
    | cons n ns ih => simp [PyData.depthAll, ih, PyData.depth]
  unfold SeqAt.shaped
  simp only [PyData.canLay0, PyData.depth, h1, h2]; rfl
theorem eqv_int {i j : Int} : PyData.eqv (.int i) (.int j) = decide (i = j) := by
  simp only [PyData.eqv]; rfl
theorem any_eqv {i : Int} : ∀ ns : List Int, ((ns.map PyData.int).any fun z => PyData.eqv z (.int i)) = decide (i ∈ ns)
  | [] => rfl
  | n :: ns => by
    rw [List.map_cons, List.any_cons, any_eqv ns, eqv_int]
    by_cases h : n = i
    · subst h; simp
    · have h' : ¬ i = n := fun e => h e.symm
      simp [h, h']
section
variable {Q : D → Store → Prop} {E : Exn → Store → Prop} {M : Store} {i : Int} {ns : List Int} {n : Nat} {neg : Bool}
theorem inDeep_ints {x : D} (h : pyM M x = some (.list (ns.map PyData.int)) ∨ pyM M x = some (.tuple (ns.map PyData.int))) : Post (inDeep neg (.int i) x M) Q E ↔ Q (.bl (if neg then !decide (i ∈ ns) else decide (i ∈ ns))) M := by
  have e0 : pyM M (.int i) = some (.int i) := rfl
  unfold inDeep
  rcases h with h | h <;>
  · rw [e0, h]
    dsimp only
    rw [shaped_int, shaped_ints, any_eqv]
    exact Iff.rfl
theorem notInU_l (h : M[n]? = some (some (.lst (ns.map D.int)))) : Post (notInU (.int i) (.loc n) M) Q E ↔ Q (.bl (!decide (i ∈ ns))) M := by
  have e : isDk M (.loc n) = false := by unfold isDk; simp only [h]
  have e2 : pyM M (.loc n) = some (.list (ns.map PyData.int)) := by
    unfold pyM; simp only [h, pyL_ints]; rfl
  have := inDeep_ints (neg := true) (Q := Q) (E := E) (i := i) (.inl e2)
  show Post ((if isDk M (.loc n) = true then inK true (.int i) (.loc n) M else inDeep true (.int i) (.loc n) M)) Q E ↔ _
  rw [e]
  exact this
theorem inU_l (h : M[n]? = some (some (.lst (ns.map D.int)))) : Post (inU (.int i) (.loc n) M) Q E ↔ Q (.bl (decide (i ∈ ns))) M := by
  have e : isDk M (.loc n) = false := by unfold isDk; simp only [h]
  have e2 : pyM M (.loc n) = some (.list (ns.map PyData.int)) := by
    unfold pyM; simp only [h, pyL_ints]; rfl
  have := inDeep_ints (neg := false) (Q := Q) (E := E) (i := i) (.inl e2)
  show Post ((if isDk M (.loc n) = true then inK false (.int i) (.loc n) M else inDeep false (.int i) (.loc n) M)) Q E ↔ _
  rw [e]
  exact this
theorem notInU_lst : Post (notInU (.int i) (.lst (ns.map D.int)) M) Q E ↔ Q (.bl (!decide (i ∈ ns))) M :=
  inDeep_ints (neg := true) (.inl (by show pyM M (.lst (ns.map D.int)) = _; exact pyM_eq (by show (pyL _).map _ = _; rw [pyL_ints]; rfl)))
theorem notInU_tup : Post (notInU (.int i) (.tup (ns.map D.int)) M) Q E ↔ Q (.bl (!decide (i ∈ ns))) M :=
  inDeep_ints (neg := true) (.inr (by show pyM M (.tup (ns.map D.int)) = _; exact pyM_eq (by show (pyL _).map _ = _; rw [pyL_ints]; rfl)))
theorem inU_lst : Post (inU (.int i) (.lst (ns.map D.int)) M) Q E ↔ Q (.bl (decide (i ∈ ns))) M :=
  inDeep_ints (neg := false) (.inl (by show pyM M (.lst (ns.map D.int)) = _; exact pyM_eq (by show (pyL _).map _ = _; rw [pyL_ints]; rfl)))
theorem inU_tup : Post (inU (.int i) (.tup (ns.map D.int)) M) Q E ↔ Q (.bl (decide (i ∈ ns))) M :=
  inDeep_ints (neg := false) (.inr (by show pyM M (.tup (ns.map D.int)) = _; exact pyM_eq (by show (pyL _).map _ = _; rw [pyL_ints]; rfl)))
end
end L3
set_option Elab.async false
set_option linter.all false
set_option maxRecDepth 100000
set_option maxHeartbeats 4000000
set_option autoImplicit false
/-! sorted(..) of data that compare with one another: any number of them -/
namespace L3
open PySem PySem.Spec L2
open PyProof.Rows hiding St
def encD (d : D) : PyData := (pyD d).getD .none
/-- in order, by the data's own order -/
def ordD : V × D → V × D → Bool := PySem.W.dataLe false fun b => encD b.2
/-- these compare with one another -/
structure Alike (ds : List D) : Prop where
  al : PySem.W.AllAlike (ds.map encD)
  so : PySem.W.Sortable (ds.map encD)
  dp : ∀ d ∈ ds, (encD d).depth < 60
section
variable {prog : Program} {w : World} {A : Around} {E : Value → Shared → Prop} {s : Shared}
/-- the items vs are what bs tells -/
structure Stand (h : Heap) (vs : List Value) (bs : List (V × D)) : Prop where
  rel : PySem.W.EachIs (fun v b => RelV b.1 v) vs bs
  red : PySem.W.EachIs (fun v b => ∃ as, Reads h v (encD b.2) as) vs bs
  alk : Alike (bs.map (·.2))
  few : vs.length ≤ sizeLine
theorem alike_enc {bs : List (V × D)} : bs.map (fun b => encD b.2) = (bs.map (·.2)).map encD := by rw [List.map_map]; rfl
/-- sorted(r), from what is collected off r -/
theorem sorted_from {r : Addr} {Q : Value → Shared → Prop} {G : List Value → List (V × D) → Prop} (room : A.units + 65 < cLine)
    (got : ∀ (R : List Value → Shared → Prop) (E' : Value → Shared → Prop), (∀ h' tk vs bs, (∀ b o, s.heap.get? b = some o → h'.get? b = some o) → G vs bs → R vs { s with heap := h', toks := tk }) → wpAny (model prog w) A.in1 (collect (.ref r)) R E' s)
    (tell : ∀ vs bs, G vs bs → Stand s.heap vs bs)
    (fin : ∀ vs bs (h1 h' : Heap) tk out n p, G vs bs → (∀ b o, s.heap.get? b = some o → h1.get? b = some o) → h1.objs.size = p → (∀ b o, h1.get? b = some o → h'.get? b = some o) → out.length = bs.length → PySem.W.EachIs (fun v b => RelV b.1 v) out (bs.mergeSort ordD) → h'.get? p = some (seqObj "list" out.toArray n) → Q (.ref p) { s with heap := h', toks := tk }) :
    wpAny (model prog w) A (call (.builtin "sorted") [.ref r]) Q E s := by
  refine Calls.call_function_entry kind_sorted plain_sorted entry_sorted (args_sorted1 _) ?_
  unfold Builtin.«sorted»
  refine wpAny_bind (m := checkCount "sorted" 1 1 _) (wpAny_pure ?_)
  refine wpAny_bind (got _ _ fun h' tk vs bs keep g => ?_)
  have st := tell vs bs g
  refine wpAny_bind (wpAny_newList ?_ st.few)
  generalize ep : h'.objs.size = p
  have at_ : (h'.push (seqObj "list" vs.toArray 0)).get? p = some (seqObj "list" vs.toArray 0) := by rw [← ep]; exact Heap.get?_push_size _ rfl
  have older : ∀ b o, s.heap.get? b = some o → b ≠ p ∧ (h'.push (seqObj "list" vs.toArray 0)).get? b = some o := fun b o e => by
    have q := keep b o e
    exact ⟨by rw [← ep]; exact Nat.ne_of_lt (Heap.lt_size q), Heap.get?_push_of_some _ q⟩
  show wpAny _ _ _ _ _ { s with heap := h'.push (seqObj "list" vs.toArray 0), toks := tk }
  have red2 : PySem.W.EachIs (fun v b => ∃ as, Reads (PySem.W.sortingHeap (h'.push (seqObj "list" vs.toArray 0)) p vs) v (encD b.2) as) vs bs :=
    st.red.mono fun v b ⟨as, q⟩ => ⟨as, PyProof.Rows.Reads.keeps (fun c o e => PySem.W.sortingHeap_old (older c o e).1 (older c o e).2) q⟩
  have al : PySem.W.AllAlike (bs.map fun b => encD b.2) := by rw [alike_enc]; exact st.alk.al
  have so : PySem.W.Sortable (bs.map fun b => encD b.2) := by rw [alike_enc]; exact st.alk.so
  have dp : ∀ b ∈ bs, A.units + 2 + (encD b.2).depth < cLine := fun b hb => by
    have := st.alk.dp b.2 (List.mem_map_of_mem hb)
    omega
  have sorts : PySem.W.SortsAt prog w A.in1.in1 { s with heap := PySem.W.sortingHeap (h'.push (seqObj "list" vs.toArray 0)) p vs, toks := tk } (PySem.W.dataKind (PySem.W.sortingHeap (h'.push (seqObj "list" vs.toArray 0)) p vs) (bs.map fun b => encD b.2)) vs :=
    PySem.W.SortsAt.data (s := { s with heap := PySem.W.sortingHeap (h'.push (seqObj "list" vs.toArray 0)) p vs, toks := tk }) (PySem.W.each_map (R := fun v d => ∃ as, Reads (PySem.W.sortingHeap (h'.push (seqObj "list" vs.toArray 0)) p vs) v d as) (fun b : V × D => encD b.2) red2) al so
      (PySem.W.bound_map (A := A.in1.in1) dp)
  refine wpAny_bind (wpAny_holding (wpAny_call_entry slot_list_sort ⟨_, at_, rfl⟩ entry_list_sort
    (PySem.W.list_sort_vals (s := { s with heap := h'.push (seqObj "list" vs.toArray 0), toks := tk }) at_ sorts st.few ⟨.none, rfl, ?_⟩) (args_list_sort _)))
  obtain ⟨n, en⟩ := PyProof.Rows.sortedHeap_at (vs := vs) (out := (PySem.W.sortVals (PySem.W.dataKind (PySem.W.sortingHeap (h'.push (seqObj "list" vs.toArray 0)) p vs) (bs.map fun b => encD b.2)) false vs vs).toArray) at_
  refine wpAny_pure ⟨_, rfl, fin vs bs h' _ tk _ n p g keep ep (fun b o e => ?_) (by rw [PySem.W.sortVals_length false rfl]; exact st.rel.length) (PySem.W.sortVals_data (h' := PySem.W.sortingHeap (h'.push (seqObj "list" vs.toArray 0)) p vs) false st.rel red2 al) en⟩
  have ne : b ≠ p := by rw [← ep]; exact Nat.ne_of_lt (Heap.lt_size e)
  have lt : b < (h'.push (seqObj "list" vs.toArray 0)).objs.size := by rw [Heap.size_push]; exact Nat.lt_succ_of_lt (Heap.lt_size e)
  rw [PyProof.Rows.sortedHeap_old ne lt]
  exact Heap.get?_push_of_some _ e
end
section
variable {prog : Program} {w : World} {A : Around} {E : Value → Shared → Prop} {s : Shared}
/-- the items of a list or tuple, collected -/
theorem collect_seq {l : Addr} {T : String} (hT : T = "list" ∨ T = "tuple") {o : Obj} {vs : Array Value} {n : Nat} {Q : List Value → Shared → Prop} (ho : s.heap.get? l = some o) (hc : o.cls = .type T) (hd : o.data = .seq vs n) (hz : vs.size ≤ sizeLine)
    (h : ∀ h', (∀ b u, s.heap.get? b = some u → h'.get? b = some u) → Q vs.toList { s with heap := h' }) : wpAny (model prog w) A (collect (.ref l)) Q E s := by
  unfold collect
  generalize eN : s.heap.objs.size = N
  generalize eh : s.heap.push (seqObj "list" #[] 0) = h1
  have fresh : h1.get? N = some (seqObj "list" #[] 0) := by rw [← eh, ← eN]; exact Heap.get?_push_size _ rfl
  have old : ∀ b u, s.heap.get? b = some u → h1.get? b = some u := fun b u e => by rw [← eh]; exact Heap.get?_push_of_some _ e
  refine wpAny_bind (wpAny_runValue (codeAny_builtin entry_proto_collect' ?_))
  show wpAny _ _ (newList [] >>= fun l' => again (.builtin "list.__iadd__" ⟨[l', .ref l], []⟩)) _ _ s
  refine wpAny_bind (wpAny_newList (wpAny_pure ⟨Code.quiet_builtin _ (by decide +kernel), codeAny_builtin entry_list_iadd' ?_⟩))
  rw [eN]
  show wpAny _ _ (Builtin.List.listExtendWith (.ref N) (.ref l) (.ref N)) _ _ { s with heap := s.heap.push (seqObj "list" #[] 0) }
  rw [eh]
  unfold Builtin.List.listExtendWith
  refine wpAny_bind (wpAny_typeOf (T := T) ⟨o, old _ _ ho, hc⟩ ?_)
  rw [if_pos (by rcases hT with rfl | rfl <;> simp)]
  refine wpAny_bind (listItems_at (old _ _ ho) hd (wpAny_bind (listItems_at fresh rfl ?_)))
  rw [if_neg (by simp)]
  have fits : ((#[] : Array Value) ++ vs).size ≤ sizeLine + 1 := by rw [Array.size_append]; exact Nat.le_trans (Nat.le_of_eq (Nat.zero_add _)) (Nat.le_succ_of_le hz)
  refine wpAny_bind (listUpdate_at fresh rfl (wpAny_pure ?_) (Nat.zero_le _) fits)
  show wpAny (model prog w) A (load N >>= _) Q E _
  refine wpAny_bind (wpAny_load (get?_update_seq fresh _) ?_)
  have e : ((#[] : Array Value) ++ vs).toList = vs.toList := by simp
  refine wpAny_pure ?_
  rw [e]
  refine h _ fun b u q => ?_
  have ne : b ≠ N := by rw [← eN]; exact Nat.ne_of_lt (Heap.lt_size q)
  exact (Heap.get?_update_ne _ _ _ _ ne).trans (old b u q)
end
end L3
namespace L3
open PySem PySem.Spec L2
open PyProof.Rows hiding St
theorem vals_each : ∀ {bs : List (V × D)} {out : List Value}, PySem.W.EachIs (fun v b => RelV b.1 v) out bs → Vals (bs.map (·.1)) out
  | _, _, .nil => .nil
  | _, _, .cons r t => .cons r (vals_each t)
section
variable {X : Cx}
theorem each_of {pins : List (Addr × Obj)} {σ : St} {H : Hp} {s : Shared} (I : Inv X pins σ H s) : ∀ {vs : List V} {ds : List D} {us : List Value}, DpAll X.K H vs (ds.map encD) → Vals vs us →
    PySem.W.EachIs (fun v (b : V × D) => RelV b.1 v) us (vs.zip ds) ∧ PySem.W.EachIs (fun v (b : V × D) => ∃ as, Reads s.heap v (encD b.2) as) us (vs.zip ds)
  | [], [], _, _, .nil => ⟨.nil, .nil⟩
  | [], _ :: _, _, d, _ => nomatch d
  | _ :: _, [], _, d, _ => nomatch d
  | v :: vs, d :: ds, _, .cons a b, .cons r t => by
    obtain ⟨q1, q2⟩ := each_of I b t
    exact ⟨.cons r q1, .cons (Dp.reads I _ _ _ a r) q2⟩
theorem dpAll_len {K : PySem.W.Frag} {H : Hp} : ∀ {vs : List V} {ds : List PyData}, DpAll K H vs ds → vs.length = ds.length
  | _, _, .nil => rfl
  | _, _, .cons _ t => by rw [List.length_cons, List.length_cons, dpAll_len t]
/-- sorted(x): what compares with one another -/
def rSortDat (K : PySem.W.Frag) : List V → Hp → VK → Prop := fun args H Q => ∃ (a : Addr) (vs : List V) (ds : List D), args = [V.ref a] ∧ (SqL K H a vs ∨ SqT K H a vs) ∧ DpAll K H vs (ds.map encD) ∧ Alike ds ∧
  ∀ p, H p = none → Q (.ref p) (upd H p (.lst (((vs.zip ds).mergeSort ordD).map (·.1))))
theorem zip_snd : ∀ {vs : List V} {ds : List D}, vs.length = ds.length → (vs.zip ds).map (·.2) = ds
  | [], [], _ => rfl
  | [], _ :: _, h => nomatch h
  | _ :: _, [], h => nomatch h
  | v :: vs, d :: ds, h => by rw [List.zip_cons_cons, List.map_cons, zip_snd (by simpa using h)]
theorem cr_sortDat (hu : X.A.units + 65 < cLine) : CallR X (.builtin "sorted") (rSortDat X.K) := by
  intro pins s σ H args us Q I rargs ⟨a, vs, ds, ea, hs, dp, al, q⟩
  subst ea
  rw [Vals.ref1 rargs]
  have len : vs.length = ds.length := by simpa using dpAll_len dp
  obtain ⟨its, rv, T, hT, o, n, ho, hc, hd, hz⟩ : ∃ its, Vals vs its ∧ ∃ T, (T = "list" ∨ T = "tuple") ∧ ∃ o n, s.heap.get? a = some o ∧ o.cls = .type T ∧ o.data = .seq its.toArray n ∧ vs.length ≤ sizeLine := by
    rcases hs with hs | hs
    · obtain ⟨its, rv, pl, hz⟩ := I.list hs
      obtain ⟨o, ho, hc, n, hd⟩ := pl.isList
      exact ⟨its, rv, "list", .inl rfl, o, n, ho, hc, hd, hz⟩
    · obtain ⟨its, rv, ⟨o, ho, hc, n, hd⟩, hz⟩ := I.tuple hs
      exact ⟨its, rv, "tuple", .inr rfl, o, n, ho, hc, hd, hz⟩
  have lens : its.length = vs.length := rv.length.symm
  obtain ⟨e1, e2⟩ := each_of I dp rv
  refine sorted_from (G := fun us bs => us = its ∧ bs = vs.zip ds) hu (fun R E' h => ?_) (fun us bs ⟨g1, g2⟩ => ?_) fun us bs h1 h' tk out m p ⟨g1, g2⟩ k1 ep k2 lo eo at_ => ?_
  · refine collect_seq hT ho hc hd (by rw [List.size_toArray, lens]; exact hz) fun h' k => ?_
    exact h h' s.toks its (vs.zip ds) k ⟨rfl, rfl⟩
  · subst g1 g2
    exact ⟨e1, e2, by rw [zip_snd len]; exact al, by rw [lens]; exact hz⟩
  · subst g1 g2
    have I1 : Inv X pins σ H { s with heap := h1, toks := tk } := I.kept k1
    have lz : (((vs.zip ds).mergeSort ordD).map (·.1)).length ≤ sizeLine := by
      rw [List.length_map, (List.mergeSort_perm _ _).length_eq, List.length_zip, ← len, Nat.min_self]; exact hz
    refine ⟨.ref p, upd H p (.lst (((vs.zip ds).mergeSort ordD).map (·.1))), ?_, rfl, q p (I1.hok.fresh (Nat.le_of_eq ep))⟩
    exact I1.laid (t' := tk) k2 (Nat.le_of_eq ep) ⟨lz, out, m, vals_each eo, at_⟩
end
end L3
set_option Elab.async false
set_option linter.all false
set_option maxRecDepth 100000
set_option maxHeartbeats 4000000
set_option autoImplicit false
/-! rows of ints in order; sorted(..) and < of data -/
namespace L3
open PySem PySem.Spec L2
open PyProof.Rows hiding St
/-! ### rows of ints -/
def ltR : List Int → List Int → Bool
  | [], [] => false
  | [], _ :: _ => true
  | _ :: _, [] => false
  | a :: r, b :: s => decide (a < b) || (decide (a = b) && ltR r s)
def leR (a b : List Int) : Bool := !ltR b a
theorem ltR_irrefl : ∀ a, ltR a a = false
  | [] => rfl
  | a :: r => by simp [ltR, ltR_irrefl r]
theorem ltR_tri : ∀ {a b : List Int}, ltR a b = false → ltR b a = false → a = b
  | [], [], _, _ => rfl
  | [], _ :: _, h, _ => nomatch h
  | _ :: _, [], _, h => nomatch h
  | a :: r, b :: s, h, k => by
    simp only [ltR, Bool.or_eq_false_iff, decide_eq_false_iff_not, Bool.and_eq_false_iff] at h k
    have e : a = b := by omega
    subst e
    have h2 : ltR r s = false := by rcases h.2 with z | z; exact (z rfl).elim; exact z
    have k2 : ltR s r = false := by rcases k.2 with z | z; exact (z rfl).elim; exact z
    rw [ltR_tri h2 k2]
theorem ltR_trans : ∀ {a b c : List Int}, ltR a b = true → ltR b c = true → ltR a c = true
  | [], [], [], h, _ => nomatch h
  | [], _ :: _, [], _, k => nomatch k
  | [], _, _ :: _, _, _ => rfl
  | _ :: _, [], _, h, _ => nomatch h
  | _ :: _, _ :: _, [], _, k => nomatch k
  | a :: r, b :: s, c :: t, h, k => by
    simp only [ltR, Bool.or_eq_true, decide_eq_true_eq, Bool.and_eq_true] at h k ⊢
    rcases h with h | ⟨rfl, h⟩
    · rcases k with k | ⟨rfl, k⟩
      · exact .inl (by omega)
      · exact .inl h
    · rcases k with k | ⟨rfl, k⟩
      · exact .inl k
      · exact .inr ⟨rfl, ltR_trans h k⟩
theorem leR_total (a b : List Int) : leR a b = true ∨ leR b a = true := by
  unfold leR
  cases h : ltR b a with
  | false => exact .inl rfl
  | true =>
    right
    cases k : ltR a b with
    | false => rfl
    | true => have := ltR_trans h k; rw [ltR_irrefl] at this; cases this
theorem leR_trans {a b c : List Int} (h : leR a b = true) (k : leR b c = true) : leR a c = true := by
  unfold leR at *
  cases z : ltR c a with
  | false => rfl
  | true =>
    have h' : ltR b a = false := by simpa using h
    have k' : ltR c b = false := by simpa using k
    cases y : ltR b c with
    | true => rw [ltR_trans y z] at h'; cases h'
    | false =>
      have := ltR_tri y k'
      subst this
      rw [z] at h'; cases h'
theorem leR_anti {a b : List Int} (h : leR a b = true) (k : leR b a = true) : a = b := by
  unfold leR at *
  exact ltR_tri (by simpa using k) (by simpa using h)
def sortR (xs : List (List Int)) : List (List Int) := xs.mergeSort leR
theorem sortR_perm (xs : List (List Int)) : (sortR xs).Perm xs := List.mergeSort_perm xs _
theorem sortR_asc (xs : List (List Int)) : (sortR xs).Pairwise fun a b => leR a b = true :=
  List.pairwise_mergeSort (le := leR) (fun a b c => leR_trans) (fun a b => by rcases leR_total a b with h | h <;> simp [h]) xs
theorem sortR_eq {xs ys : List (List Int)} (p : ys.Perm xs) (a : ys.Pairwise fun a b => leR a b = true) : ys = sortR xs :=
  List.Perm.eq_of_pairwise (le := fun a b => leR a b = true) (fun x y _ _ h1 h2 => leR_anti h1 h2) a (sortR_asc xs) (p.trans (sortR_perm xs).symm)
theorem ltR_decide : ∀ a b : List Int, decide (a < b) = ltR a b
  | [], [] => rfl
  | [], _ :: _ => by simp [ltR]
  | _ :: _, [] => by simp [ltR]
  | a :: r, b :: s => by
    rw [ltR, ← ltR_decide r s]
    by_cases h : a < b
    · simp [h, List.cons_lt_cons_iff]
    · by_cases e : a = b
      · subst e; simp [List.cons_lt_cons_iff]
      · simp [h, e, List.cons_lt_cons_iff]
def tupI (ns : List Int) : D := .tup (ns.map .int)
theorem encD_tupI (ns : List Int) : encD (tupI ns) = .tuple (ns.map .int) := by
  unfold encD tupI
  show ((pyL _).map PyData.tuple).getD .none = _
  rw [pyL_ints]; rfl
theorem dataLt_tupI (a b : List Int) : PySem.W.dataLt (.tuple (a.map .int)) (.tuple (b.map .int)) = ltR a b := by
  rw [PySem.W.dataLt_tuple, ← ltR_decide]
  exact PySem.W.dataLt_ints a b
theorem depth_tupI (ns : List Int) : (PyData.tuple (ns.map .int)).depth ≤ 1 := by
  show (PyData.tuple (ns.map .int)).depth ≤ 1
  simp [PyData.depth, PySem.W.depth_ints]
/-! ### sorted, any data -/
def leD : D → D → Bool := PySem.W.dataLe false encD
theorem leD_tupI (a b : List Int) : leD (tupI a) (tupI b) = leR a b := by
  show PySem.W.dataLe false encD (tupI a) (tupI b) = _
  rw [PySem.W.dataLe_eq]
  simp only [cond_false, encD_tupI, dataLt_tupI]; rfl
theorem sort_rows (xs : List (List Int)) : (xs.map tupI).mergeSort leD = (sortR xs).map tupI := (List.map_mergeSort fun a _ b _ => (leD_tupI a b).symm).symm
theorem pyL_enc : ∀ {ds : List D} {ps : List PyData}, pyL ds = some ps → ps = ds.map encD
  | [], _, e => by cases e; rfl
  | d :: ds, _, e => by
    obtain ⟨p, e1, e2⟩ := Option.bind_eq_some_iff.mp (show (pyD d).bind _ = some _ from e)
    obtain ⟨ps, e3, e4⟩ := Option.map_eq_some_iff.mp e2
    subst e4
    rw [List.map_cons, ← pyL_enc e3]
    show _ = (pyD d).getD .none :: _
    rw [e1]; rfl
theorem pyL_rows (xs : List (List Int)) : pyL (xs.map tupI) = some ((xs.map tupI).map encD) := by
  induction xs with
  | nil => rfl
  | cons x r ih =>
    show (pyD (tupI x)).bind _ = _
    have : pyD (tupI x) = some (encD (tupI x)) := by rw [encD_tupI]; show (pyL _).map PyData.tuple = _; rw [pyL_ints]; rfl
    rw [this, List.map_cons]
    show ((pyL (r.map tupI)).map _) = _
    rw [ih]; rfl
theorem alike_rows {xs : List (List Int)} (h : ∀ x ∈ xs, x ≠ []) : Alike (xs.map tupI) := by
  refine ⟨fun d hd d' hd' => ?_, .inl fun d hd => ?_, fun d hd => ?_⟩
  · obtain ⟨_, h1, rfl⟩ := List.mem_map.mp hd
    obtain ⟨x, _, rfl⟩ := List.mem_map.mp h1
    obtain ⟨_, h2, rfl⟩ := List.mem_map.mp hd'
    obtain ⟨y, _, rfl⟩ := List.mem_map.mp h2
    rw [encD_tupI, encD_tupI]
    simpa [PySem.W.alike] using PySem.W.alike_ints x y
  · obtain ⟨_, h1, rfl⟩ := List.mem_map.mp hd
    obtain ⟨x, hx, rfl⟩ := List.mem_map.mp h1
    rw [encD_tupI]
    cases x with
    | nil => exact (h _ hx rfl).elim
    | cons a r => exact ⟨_, _, rfl⟩
  · obtain ⟨x, _, rfl⟩ := List.mem_map.mp hd
    rw [encD_tupI]
    exact Nat.lt_of_le_of_lt (depth_tupI x) (by decide)
open Classical in
/-- sorted(d), d a list or tuple of what compares -/
noncomputable def sortN (fr : List D → Py D) (d : D) : Py D := Py.bnd (items d) fun ds => Py.chk ((pyL ds).isSome = true ∧ Alike ds) (fr (ds.mergeSort leD))
theorem reps_zip {K : PySem.W.Frag} {g : G} : ∀ {vs : List V} {ds : List D}, Reps K g vs ds → ∀ b ∈ vs.zip ds, Rep K g b.1 b.2
  | _, _, .nil, b, h => nomatch h
  | _, _, .cons r t, b, h => by
    rw [List.zip_cons_cons] at h
    rcases List.mem_cons.mp h with rfl | h
    · exact r
    · exact reps_zip t b h
theorem zip_reps {K : PySem.W.Frag} {g : G} : ∀ {bs : List (V × D)}, (∀ b ∈ bs, Rep K g b.1 b.2) → Reps K g (bs.map (·.1)) (bs.map (·.2))
  | [], _ => .nil
  | b :: bs, h => .cons (h b (List.mem_cons_self ..)) (zip_reps fun c hc => h c (List.mem_cons_of_mem _ hc))
theorem sort_reps {K : PySem.W.Frag} {g : G} {vs : List V} {ds : List D} (r : Reps K g vs ds) : Reps K g (((vs.zip ds).mergeSort ordD).map (·.1)) (ds.mergeSort leD) := by
  have e : ((vs.zip ds).mergeSort ordD).map (·.2) = ds.mergeSort leD := by
    rw [List.map_mergeSort (r := ordD) (s := leD) (f := fun b : V × D => b.2) fun a _ b _ => rfl, zip_snd r.length]
  rw [← e]
  exact zip_reps fun b hb => reps_zip r b ((List.mergeSort_perm _ _).mem_iff.mp hb)
section
variable {C : DX}
open Classical in
theorem dc_sortN {fr : List D → Py D} (hf : FlOk C fr) (hu : C.X.A.units + 65 < cLine) : DCl C (.builtin "sorted") (one (sortN fr)) := dcl_one (cr_sortDat hu) fun {g ρ M σ H v d} Q R r p => by
  have p0 : Post (sortN fr d M) (QV C g ρ σ Q) (C.We ρ) := p
  obtain ⟨a, vs, ds, rfl, hs, t, q1⟩ := items_post R.h r (post_bnd.mp p0)
  obtain ⟨⟨hp, al⟩, q⟩ := post_chk.mp q1
  obtain ⟨ps, e⟩ := Option.isSome_iff_exists.mp hp
  have dp := dps_of R.h.frz t e
  rw [pyL_enc e] at dp
  exact ⟨a, vs, ds, rfl, hs, dp, al, fun p hp => hf.run R hp (sort_reps t) q⟩
end
/-! ### < and the like -/
section
variable {X : Cx}
def rLtDat (K : PySem.W.Frag) (swap neg : Bool) : R2 := fun x y H Q => ∃ d e : PyData, Dp K H x d ∧ Dp K H y e ∧ PySem.W.alike d e = true ∧ d ≠ .none ∧ d.depth < 60 ∧ Q (.bl (if neg then !(if swap then PySem.W.dataLt e d else PySem.W.dataLt d e) else if swap then PySem.W.dataLt e d else PySem.W.dataLt d e)) H
theorem min_room {d e : PyData} (hu : X.A.units + 65 < cLine) (h : d.depth < 60) : X.A.units + min d.depth e.depth < cLine := by
  have := Nat.min_le_left d.depth e.depth
  omega
theorem op_ltDat (hu : X.A.units + 65 < cLine) : OpR X (compareOp .Lt) (rLtDat X.K false false) := by
  intro pins s σ H x y v u Q I rx ry ⟨d, e, h1, h2, al, nn, dp, q⟩
  obtain ⟨as, r1⟩ := Dp.reads I d x v h1 rx
  obtain ⟨bs, r2⟩ := Dp.reads I e y u h2 ry
  exact PySem.W.lt_data r1 r2 al nn (min_room hu dp) ⟨.bl _, H, I, rfl, q⟩
theorem op_gtDat (hu : X.A.units + 65 < cLine) : OpR X (compareOp .Gt) (rLtDat X.K true false) := by
  intro pins s σ H x y v u Q I rx ry ⟨d, e, h1, h2, al, nn, dp, q⟩
  obtain ⟨as, r1⟩ := Dp.reads I d x v h1 rx
  obtain ⟨bs, r2⟩ := Dp.reads I e y u h2 ry
  exact PySem.W.gt_data r1 r2 al nn (min_room hu dp) ⟨.bl _, H, I, rfl, q⟩
theorem op_leDat (hu : X.A.units + 65 < cLine) : OpR X (compareOp .LtE) (rLtDat X.K true true) := by
  intro pins s σ H x y v u Q I rx ry ⟨d, e, h1, h2, al, nn, dp, q⟩
  obtain ⟨as, r1⟩ := Dp.reads I d x v h1 rx
  obtain ⟨bs, r2⟩ := Dp.reads I e y u h2 ry
  exact PySem.W.le_data r1 r2 al nn (min_room hu dp) ⟨.bl _, H, I, rfl, q⟩
theorem op_geDat (hu : X.A.units + 65 < cLine) : OpR X (compareOp .GtE) (rLtDat X.K false true) := by
  intro pins s σ H x y v u Q I rx ry ⟨d, e, h1, h2, al, nn, dp, q⟩
  obtain ⟨as, r1⟩ := Dp.reads I d x v h1 rx
  obtain ⟨bs, r2⟩ := Dp.reads I e y u h2 ry
  exact PySem.W.ge_data r1 r2 al nn (min_room hu dp) ⟨.bl _, H, I, rfl, q⟩
end
open Classical in
/-- x < y and the like -/
noncomputable def cmpN (swap neg : Bool) (x y : D) : Py D := fun M => match pyM M x, pyM M y with
  | some d, some e => Py.chk (PySem.W.alike d e = true ∧ d ≠ .none ∧ d.depth < 60) (Py.ret (.bl (if neg then !(if swap then PySem.W.dataLt e d else PySem.W.dataLt d e) else if swap then PySem.W.dataLt e d else PySem.W.dataLt d e))) M
  | _, _ => .bad
open Classical in
theorem cmpN_post {swap neg : Bool} {x y : D} {M : Store} {q : D → Store → Prop} {E : Exn → Store → Prop} (p : Post (cmpN swap neg x y M) q E) :
    ∃ d e, pyM M x = some d ∧ pyM M y = some e ∧ PySem.W.alike d e = true ∧ d ≠ .none ∧ d.depth < 60 ∧ q (.bl (if neg then !(if swap then PySem.W.dataLt e d else PySem.W.dataLt d e) else if swap then PySem.W.dataLt e d else PySem.W.dataLt d e)) M := by
  unfold cmpN at p
  cases h1 : pyM M x with
  | none => rw [h1] at p; exact p.elim
  | some d =>
    cases h2 : pyM M y with
    | none => rw [h1, h2] at p; exact p.elim
    | some e =>
      rw [h1, h2] at p
      obtain ⟨⟨a, b, c⟩, q⟩ := post_chk.mp p
      exact ⟨d, e, rfl, rfl, a, b, c, q⟩
section
variable {C : DX}
theorem do_ltN (hu : C.X.A.units + 65 < cLine) : DOp C (compareOp .Lt) (cmpN false false) := DOp.of (op_ltDat hu) fun {g ρ M σ H x y dx dy} Q R rx ry p => by
  obtain ⟨d, e, h1, h2, a, b, c, q⟩ := cmpN_post p
  exact ⟨d, e, dpm_of R.h rx h1, dpm_of R.h ry h2, a, b, c, QV.here q R (.bl _)⟩
theorem do_gtN (hu : C.X.A.units + 65 < cLine) : DOp C (compareOp .Gt) (cmpN true false) := DOp.of (op_gtDat hu) fun {g ρ M σ H x y dx dy} Q R rx ry p => by
  obtain ⟨d, e, h1, h2, a, b, c, q⟩ := cmpN_post p
  exact ⟨d, e, dpm_of R.h rx h1, dpm_of R.h ry h2, a, b, c, QV.here q R (.bl _)⟩
theorem do_leN (hu : C.X.A.units + 65 < cLine) : DOp C (compareOp .LtE) (cmpN true true) := DOp.of (op_leDat hu) fun {g ρ M σ H x y dx dy} Q R rx ry p => by
  obtain ⟨d, e, h1, h2, a, b, c, q⟩ := cmpN_post p
  exact ⟨d, e, dpm_of R.h rx h1, dpm_of R.h ry h2, a, b, c, QV.here q R (.bl _)⟩
theorem do_geN (hu : C.X.A.units + 65 < cLine) : DOp C (compareOp .GtE) (cmpN false true) := DOp.of (op_geDat hu) fun {g ρ M σ H x y dx dy} Q R rx ry p => by
  obtain ⟨d, e, h1, h2, a, b, c, q⟩ := cmpN_post p
  exact ⟨d, e, dpm_of R.h rx h1, dpm_of R.h ry h2, a, b, c, QV.here q R (.bl _)⟩
end
end L3
set_option Elab.async false
set_option linter.all false
set_option maxRecDepth 100000
set_option maxHeartbeats 4000000
set_option autoImplicit false
/-! sorted(set(..)) of tuples of ints -/
namespace L3
open PySem PySem.Spec L2
open PyProof.Rows hiding St
/-- each once -/
def ddR : List (List Int) → List (List Int)
  | [] => []
  | n :: r => if n ∈ r then ddR r else n :: ddR r
theorem ddR_mem : ∀ (l : List (List Int)) (k : List Int), k ∈ ddR l ↔ k ∈ l
  | [], _ => Iff.rfl
  | n :: r, k => by
    unfold ddR
    split
    · rename_i h
      rw [ddR_mem r k, List.mem_cons]
      exact ⟨.inr, fun z => z.elim (fun e => e ▸ h) id⟩
    · rw [List.mem_cons, List.mem_cons, ddR_mem r k]
theorem ddR_nodup : ∀ l : List (List Int), (ddR l).Nodup
  | [] => List.nodup_nil
  | n :: r => by
    unfold ddR
    split
    · exact ddR_nodup r
    · rename_i h
      exact List.nodup_cons.mpr ⟨fun z => h ((ddR_mem r n).mp z), ddR_nodup r⟩
theorem ddR_sub : ∀ l : List (List Int), (ddR l).length ≤ l.length
  | [] => Nat.le_refl _
  | n :: r => by
    unfold ddR
    have := ddR_sub r
    split
    · rw [List.length_cons]; omega
    · rw [List.length_cons, List.length_cons]; omega
/-- strictly in order: the members tell all -/
theorem sortR_dd {xs ys : List (List Int)} (nd : ys.Nodup) (mem : ∀ k, k ∈ ys ↔ k ∈ xs) (asc : ys.Pairwise fun a b => leR a b = true) : ys = sortR (ddR xs) :=
  sortR_eq ((List.perm_ext_iff_of_nodup nd (ddR_nodup xs)).mpr fun k => by rw [mem, ddR_mem]) asc
theorem code_leR {B : Int} : ∀ {a b : List Int}, a.length = b.length → TS.Bd B a → TS.Bd B b → TS.code B a ≤ TS.code B b → leR a b = true
  | [], [], _, _, _, _ => rfl
  | [], _ :: _, h, _, _, _ => nomatch h
  | _ :: _, [], h, _, _, _ => nomatch h
  | a :: r, b :: s, hl, ha, hb, h => by
    have hl' : r.length = s.length := by simpa using hl
    unfold leR ltR
    by_cases e : b = a
    · subst e
      have hn : ¬ TS.code B (b :: s) < TS.code B (b :: r) := by omega
      have q : ¬ TS.code B s < TS.code B r := fun z => hn ((TS.code_same hl'.symm).mpr z)
      have := code_leR hl' ha.tail hb.tail (by omega)
      unfold leR at this
      simp only [Int.lt_irrefl, decide_false, Bool.false_or, decide_true, Bool.true_and]
      exact this
    · by_cases lt : b < a
      · have := TS.code_lt hl'.symm hb.tail ha.tail lt
        omega
      · simp [e, lt]
def rowsOf : List D → Option (List (List Int))
  | [] => some []
  | .tup xs :: r => (intsOf xs).bind fun ns => (rowsOf r).map fun rs => ns :: rs
  | _ :: _ => none
theorem rowsOf_map (xs : List (List Int)) : rowsOf (xs.map tupI) = some xs := by
  induction xs with
  | nil => rfl
  | cons x r ih =>
    show (intsOf (x.map .int)).bind _ = _
    rw [intsOf_map]
    show (rowsOf (r.map tupI)).map _ = _
    rw [ih]; rfl
theorem rowsOf_eq : ∀ {ds : List D} {rs : List (List Int)}, rowsOf ds = some rs → ds = rs.map tupI
  | [], _, e => by cases e; rfl
  | d :: ds, _, e => by
    cases d with
    | tup xs =>
      obtain ⟨ns, e1, e2⟩ := Option.bind_eq_some_iff.mp (show (intsOf xs).bind _ = some _ from e)
      obtain ⟨rs', e3, e4⟩ := Option.map_eq_some_iff.mp e2
      subst e4
      rw [List.map_cons, ← rowsOf_eq e3, intsOf_eq e1]; rfl
    | _ => cases e
theorem rows_keys {K : PySem.W.Frag} {g : G} {H : Hp} (hf : ∀ a o, g.F a = some o → H a = some o) : ∀ {vs : List V} {rs : List (List Int)}, Reps K g vs (rs.map tupI) → ∃ ks : List (Addr × List Int), vs = ks.map (fun p => V.ref p.1) ∧ ks.map (·.2) = rs ∧ ∀ p ∈ ks, H p.1 = some (.tup (p.2.map V.int)) ∧ Rep K g (.ref p.1) (tupI p.2)
  | _, [], .nil => ⟨[], rfl, rfl, fun _ h => nomatch h⟩
  | _, r :: rs, .cons a t => by
    obtain ⟨ks, e1, e2, e3⟩ := rows_keys hf t
    cases a with
    | @tup b _ _ s q =>
      have ev := reps_ofInts q
      subst ev
      refine ⟨(b, r) :: ks, by rw [e1]; rfl, by rw [List.map_cons, e2], fun p hp => ?_⟩
      rcases List.mem_cons.mp hp with rfl | hp
      · exact ⟨hf _ _ s, .tup s q⟩
      · exact e3 p hp
def setRK (rows : List (List Int)) : Prop := rows.length < 64 ∧ ∃ (n : Nat) (B : Int), 1 ≤ n ∧ ∀ r ∈ rows, r.length = n ∧ ∀ i ∈ r, 0 ≤ i ∧ i < B
open Classical in
noncomputable def sortSetRK (fr : List D → Py D) : Option (List (List Int)) → Py D
  | some rows => Py.chk (setRK rows) (fr ((sortR (ddR rows)).map tupI))
  | none => Py.bad
open Classical in
theorem sortSetRK_post {fr : List D → Py D} {o : Option (List (List Int))} {M : Store} {q : D → Store → Prop} {E : Exn → Store → Prop} (p : Post (sortSetRK fr o M) q E) : ∃ rs, o = some rs ∧ setRK rs ∧ Post (fr ((sortR (ddR rs)).map tupI) M) q E := by
  cases o with
  | none => exact p.elim
  | some rs => obtain ⟨h, q⟩ := post_chk.mp p; exact ⟨rs, rfl, h, q⟩
noncomputable def sortSetR (fr : List D → Py D) : List D → Py D
  | [d] => Py.bnd (litems d) fun ds => sortSetRK fr (rowsOf ds)
  | _ => Py.bad
theorem sortSetR_post {fr : List D → Py D} {ds : List D} {M : Store} {q : D → Store → Prop} {E : Exn → Store → Prop} (p : Post (sortSetR fr ds M) q E) : ∃ d, ds = [d] ∧ Post (litems d M) (fun ds M' => Post (sortSetRK fr (rowsOf ds) M') q E) E := by
  unfold sortSetR at p
  split at p
  · exact ⟨_, rfl, post_bnd.mp p⟩
  · exact p.elim
section
variable {C : DX} {e : Expr} {ff : DEnv → Py (List D)} {p p2 pos pos2 : Pos} {fr : List D → Py D}
theorem de_sortSetR (hf : FlOk C fr) (hu : C.X.A.units + 65 < cLine) (hc : C.X.calm = true) (hm : C.X.mg "sorted" = none) (hm2 : C.X.mg "set" = none) (ha : DA C [e] ff) (hg : Gl C.X "sorted" := by rfl) (hg2 : Gl C.X "set" := by rfl)
    (he : starEach [e] C.X.env = (false, eval e C.X.env) :: starEach [] C.X.env := by rfl)
    (he2 : starEach [.Call (.Name "set" p2) [e] [] pos2] C.X.env = (false, eval (.Call (.Name "set" p2) [e] [] pos2) C.X.env) :: starEach [] C.X.env := by rfl) :
    DE C (.Call (.Name "sorted" p) [.Call (.Name "set" p2) [e] [] pos2] [] pos) (eCall (sortSetR fr) ff) := by
  refine ⟨fun {g ρ M σ H} Q R pr => wpe (pe_callB (cr_sortedT hc) hg hm (by decide +kernel) (pa_cons (pe_callTy (cr_setOfT hc (by omega)) hg2 hm2 (by decide +kernel) self_a (he := he)) pa_nil he2) (he := he2)) ?_⟩
  refine ha.then_ R pr fun vs ds M1 H1 g1 l1 R1 r1 p1 => ?_
  obtain ⟨d, rfl, p2⟩ := sortSetR_post p1
  obtain ⟨v, rfl, r⟩ := r1.one
  obtain ⟨a, us, ds, rfl, hs, t, q1⟩ := litems_post R1.h r p2
  obtain ⟨rows, en, ⟨few, n, B, hn, hB⟩, q⟩ := sortSetRK_post q1
  rw [rowsOf_eq en] at t
  obtain ⟨ks, rfl, ek, hk⟩ := rows_keys R1.h.frz t
  have mem : ∀ {p : Addr × List Int}, p ∈ ks → p.2 ∈ rows := fun {p} hp => by rw [← ek]; exact List.mem_map_of_mem hp
  refine ⟨a, ks, rfl, hs, (fun p hp => .of (hk p hp).1), by rw [← List.length_map (f := Prod.snd), ek]; exact few, fun b L hb sub all => ?_⟩
  refine ⟨b, L, n, B, rfl, upd_same, (fun p hp => .of (by rw [upd_ne (ne_of_none (hk p (sub p hp)).1 hb)]; exact (hk p (sub p hp)).1)), hn, (fun p hp => ⟨(hB _ (mem (sub p hp))).1, (hB _ (mem (sub p hp))).2⟩), fun L' c perm nd _ asc hcn => ?_⟩
  have mm : ∀ {p : Addr × List Int}, p ∈ L' → p ∈ ks := fun {p} hp => sub p (perm.mem_iff.mp hp)
  have eL : L'.map (·.2) = sortR (ddR rows) := by
    refine sortR_dd nd (fun k => ⟨fun h => ?_, fun h => ?_⟩) ?_
    · obtain ⟨p, hp, rfl⟩ := List.mem_map.mp h
      exact mem (mm hp)
    · rw [← ek] at h
      obtain ⟨p, hp, rfl⟩ := List.mem_map.mp h
      obtain ⟨p', hp', e'⟩ := List.mem_map.mp (all p hp)
      exact List.mem_map.mpr ⟨p', perm.mem_iff.mpr hp', e'⟩
    · rw [List.pairwise_map]
      have := List.Pairwise.and_mem.mp asc
      exact this.imp fun {x y} ⟨hx, hy, h⟩ => by
        have bx := hB _ (mem (mm hx))
        have by_ := hB _ (mem (mm hy))
        exact code_leR (bx.1.trans by_.1.symm) bx.2 by_.2 h
  have rr : Reps C.X.K g1 (L'.map fun q => V.ref q.1) ((sortR (ddR rows)).map tupI) := by
    rw [← eL, List.map_map]
    have : ∀ l : List (Addr × List Int), (∀ p ∈ l, p ∈ ks) → Reps C.X.K g1 (l.map fun q => V.ref q.1) (l.map (tupI ∘ fun x => x.2)) := by
      intro l
      induction l with
      | nil => intro _; exact .nil
      | cons p l ih => intro h; exact .cons (hk p (h p (List.mem_cons_self ..))).2 (ih fun x hx => h x (List.mem_cons_of_mem _ hx))
    exact this L' fun p hp => mm hp
  exact hf.run ⟨R1.b, R1.h.stray hb, R1.e⟩ hcn rr (q.imp fun _ _ z => z.later l1)
end
end L3
set_option Elab.async false
set_option linter.all false
set_option maxRecDepth 100000
set_option maxHeartbeats 4000000
set_option autoImplicit false
/-! own exceptions whose __init__ says super().__init__(..) and keeps what it was made with -/
namespace L3
open PySem PySem.Spec L2
open PyProof.Rows hiding St
/-- what the written part says of the class, and of its __init__ -/
structure SupF (P : Program) (K : PySem.W.Frag) (mg : Str → Option Value) (C f : Addr) (qual : Str) (params : Arguments) (body : List Stmt) (scope : Scope) (fd : FuncData) : Prop where
  cls : OexC K C
  fn : ∃ name dV kV doc pm an cda ct cc oc od osl, fd = PySem.W.ksFn name qual params body scope dV kV doc pm an (.ref cda) ct cc ∧ K.lookup f = some ⟨oc, od, .func fd, osl⟩ ∧ PySem.W.codeIn K (.ref cda) qual = true ∧
    (∃ vs ccl cdd ccs file tf, K.lookup cda = some ⟨ccl, cdd, .fields vs, ccs⟩ ∧ vs[2]? = some (.str file tf) ∧ ((P.main.file : Str) == file) = true) ∧ ∃ cl cld csl, K.lookup cc = some ⟨cl, cld, .cell (some (.ref C)), csl⟩
  sup : PySem.W.ks_superIn K C C "__init__" = some (some (.builtin "ValueError.__init__"))
  opq : PySem.W.nsIn K cStatics "thirdparty.any" = some none
  gl : mg "super" = none
  sub : PySem.W.subIn K (.ref C) (.type "ValueError") = some true
  mro : PySem.W.mroIn K C (.ref C) = some true
  top : (P.main.scope.names.lookup ("super" : Str)).isSome = false
/-- an exception without a dict as yet -/
abbrev exN (C t : Addr) : Obj := { cls := .ref C, dict := none, data := .fields #[.ref t, .none, .none, .none, .bool false, .none] }
/-- what stands stays, but at e -/
def But (e : Addr) (h h' : Heap) : Prop := ∀ b o, b ≠ e → h.get? b = some o → h'.get? b = some o
theorem But.trans {e : Addr} {a b c : Heap} (x : But e a b) (y : But e b c) : But e a c := fun p o n z => y p o n (x p o n z)
theorem But.of {e : Addr} {a b : Heap} (x : ∀ p o, a.get? p = some o → b.get? p = some o) : But e a b := fun p o _ z => x p o z
theorem But.ns {e L : Addr} {a b : Heap} {m : Str → Option Value} (x : But e a b) (ne : L ≠ e) (n : a.Ns L m) : b.Ns L m := by
  obtain ⟨o, es, ep, h, r⟩ := n
  exact ⟨o, es, ep, x _ _ ne h, r⟩
section
variable {P : Program} {w : World} {K : PySem.W.Frag} {mg mb : Str → Option Value} {A : Around} {E : Value → Shared → Prop} {h : Heap} {g : Array GenState} {d : Drawn} {t : Nat} {os : OsState}
variable {C f cda cc L e : Addr} {q : Str} {scope : Scope} {m : Str → Option Value} {fd : FuncData} {oc : Value} {od : Option Addr} {osl : Array (Option Value)} {body : List Stmt} {ar : Arg}
/-- the call of the bound ValueError.__init__ -/
theorem bound_init {u t0 : Addr} {rest : List Value} {Q : Value → Shared → Prop} (X : K.In h) (T : OexC K C) (hu : h.get? u = some (PySem.W.kxs_mw "ValueError.__init__" e)) (he : h.get? e = some (exN C t0)) (hz : rest.length ≤ sizeLine)
    (fin : ∀ h' t1, But e h h' → h'.get? e = some (exN C t1) → Q .none ⟨h', g, d, t, os⟩) : wpAny (model P w) A (call (.ref u) rest) Q E ⟨h, g, d, t, os⟩ := by
  obtain ⟨nm, qn, N, bs, bm, sn, sub, ab, col, dd, k0, k1, k2, k3, k5, hC, hbm⟩ := T.cls
  refine wpAny_call (codeAny_of_tree ?_)
  show wpAny _ A.in1 (callAny (.ref u) ⟨rest, []⟩) _ _ _
  simp only [callAny]
  refine wpAny_bind (wpAny_load hu ?_)
  have kinds : (Value.type "method-wrapper" == Value.type "method" || Value.type "method-wrapper" == Value.type "builtin_function_or_method" || Value.type "method-wrapper" == Value.type "method-wrapper") = true := by decide
  simp only [PySem.W.kxs_mw, kinds, if_true]
  refine PySem.W.KFB.if_so (by decide) ?_
  refine wpAny_bind (PySem.W.check_bound_init F.excBase_ValueError.toExcCallFacts (X _ _ hC) he rfl ?_)
  refine wpAny_bind (wpAny_pure (wpAny_pure ⟨plainId_quiet F.excBase_ValueError.init.plain _, codeAny_builtin F.excBase_ValueError.initEntry ?_⟩))
  exact PySem.W.exc_init_tree (cls := .ref C) (t0 := t0) (dv := none) (c2 := .none) (c3 := .none) (b4 := .bool false) he hz fun h' k k2 _ => fin h' _ k k2
/-- super().__init__(..) as a statement -/
theorem super_stmt {p0 p1 p2 p3 p4 : Pos} {t0 : Addr} {e1 : Expr} {es : List Expr} {us : List Value} {Q : Flow → Shared → Prop} (X : K.In h) (T : OexC K C)
    (hf : K.lookup f = some ⟨oc, od, .func fd, osl⟩) (hp : (fd.params.posonlyargs ++ fd.params.args).head? = some ar) (hcode : ∃ vs ccl cdd ccs file tf, K.lookup cda = some ⟨ccl, cdd, .fields vs, ccs⟩ ∧ vs[2]? = some (.str file tf) ∧ ((P.main.file : Str) == file) = true)
    (hcell : ∃ cl cld csl, K.lookup cc = some ⟨cl, cld, .cell (some (.ref C)), csl⟩) (sup : PySem.W.ks_superIn K C C "__init__" = some (some (.builtin "ValueError.__init__"))) (opq : PySem.W.nsIn K cStatics "thirdparty.any" = some none)
    (gl : mg "super" = none) (hg : h.Ns mainGlobals mg) (hb : h.Ns builtinsNs mb) (hmb : mb "super" = some (.type "super")) (sub : PySem.W.subIn K (.ref C) (.type "ValueError") = some true) (mro : PySem.W.mroIn K C (.ref C) = some true)
    (top : (P.main.scope.names.lookup ("super" : Str)).isSome = false) (ns : h.Ns L m) (hv : m ar.arg = some (.ref e)) (he : h.get? e = some (exN C t0)) (hLe : L ≠ e)
    (hks : scope.names.lookup ("super" : Str) = some .globalImplicit) (hkc : scope.names.lookup ("__class__" : Str) = some .free) (hka : scope.names.lookup ar.arg = some .local) (hk : scope.kind = .function)
    (args : ∀ (h1 : Heap) (t1 : Nat) (Q' : List Value → Shared → Prop) (E' : Value → Shared → Prop), h1.Ns L m → Q' us ⟨h1, g, d, t1, os⟩ → wpAny (model P w) A (spliced (backTo p3 (starEach (e1 :: es) (PySem.W.ksEnv q scope L f (.ref cda) cc)))) Q' E' ⟨h1, g, d, t1, os⟩)
    (hz : us.length ≤ sizeLine) (hse : starEach (e1 :: es) (PySem.W.ksEnv q scope L f (.ref cda) cc) = (false, eval e1 (PySem.W.ksEnv q scope L f (.ref cda) cc)) :: starEach es (PySem.W.ksEnv q scope L f (.ref cda) cc) := by rfl)
    (hpl : (backTo p3 (starEach es (PySem.W.ksEnv q scope L f (.ref cda) cc))).any (·.1) = false := by rfl) (hi : interactive (PySem.W.ksEnv q scope L f (.ref cda) cc) = false := by rfl)
    (hs : swapsWith (.Call (.Attribute (.Call (.Name "super" p0) [] [] p1) "__init__" p2) (e1 :: es) [] p3) none p4.line (PySem.W.ksEnv q scope L f (.ref cda) cc) = pure false := by rfl)
    (hev : eval (.Call (.Attribute (.Call (.Name "super" p0) [] [] p1) "__init__" p2) (e1 :: es) [] p3) (PySem.W.ksEnv q scope L f (.ref cda) cc) = (do
      let ov ← attributeBase (.Call (.Name "super" p0) [] [] p1) "__init__" (PySem.W.ksEnv q scope L f (.ref cda) cc) (eval (.Call (.Name "super" p0) [] [] p1) (PySem.W.ksEnv q scope L f (.ref cda) cc))
      standAt p2.atName
      let (f', first) ← holding [ov] (getMethod ov "__init__" (pure false))
      callWith p3 f' first (backTo p3 (starEach (e1 :: es) (PySem.W.ksEnv q scope L f (.ref cda) cc))) []) := by rfl)
    (fin : ∀ h' t' t1, But e h h' → h'.get? e = some (exN C t1) → Q .next ⟨h', g, d, t', os⟩) :
    _root_.PySem.wpAt (model P w) A (.func body (PySem.W.ksEnv q scope L f (.ref cda) cc)) (exec (.Expr (.Call (.Attribute (.Call (.Name "super" p0) [] [] p1) "__init__" p2) (e1 :: es) [] p3) p4) (PySem.W.ksEnv q scope L f (.ref cda) cc)) Q E ⟨h, g, d, t, os⟩ := by
  obtain ⟨nm, qn, N, bs, bm, sn, sb, ab, col, dd, k0, k1, k2, k3, k5, hC, hbm⟩ := T.cls
  obtain ⟨vs, ccl, cdd, ccs, file, tf, hco, hvs, hfile⟩ := hcode
  obtain ⟨cl, cld, csl, hce⟩ := hcell
  have hcl : PySem.W.clsIn K C = some { name := nm, bases := bs, mro := .ref C :: bm, ns := N, qualname := qn, hasDict := true, slotNames := sn, subclasses := sb, abstract := ab, collection := col, hasDel := false } := by unfold PySem.W.clsIn; rw [hC] <;> rfl
  refine PySem.ks_wpAt_Expr_any (PySem.ks_wpAt_MethodCall ?_ hev) hi hs
  refine PySem.ks_wpAt_super_base (env := PySem.W.ksEnv q scope L f (.ref cda) cc) hks hkc (by decide) rfl (X _ _ hf) rfl hp rfl (X _ _ hco) rfl hvs hfile top ?_
  refine PySem.W.ks_loadName_global hk hks (Calls.loadGlobal_builtin (env := PySem.W.ksEnv q scope L f (.ref cda) cc) hg gl hb hmb ⟨rfl, ?_⟩)
  refine wpAny_loadName_free hk hkc rfl ⟨_, X _ _ hce, rfl⟩ ?_
  refine wpAny_loadName_local hk hka ns hv ?_
  refine PySem.ks_wpAny_isType_cls (X _ _ hC) rfl ⟨rfl, ?_⟩
  refine PySem.ks_wpAny_call_super (X _ _ hC) rfl he rfl (fun _ z => nomatch z) (PySem.W.looks_mroIn X mro) fun h1 at1 k1 => ?_
  have X1 : K.In h1 := X.keeps k1
  have he1 := k1 _ _ he
  have I1 : PySem.W.InstAt h1 e (exN C t0) C none := ⟨he1, rfl, rfl, trivial⟩
  have isV : PySem.W.Looks (model P w) h1 (isInstance (.ref e) (.type "ValueError")) true := I1.type.andThen (PySem.W.looks_subIn X1 sub)
  have sup' := sup
  unfold PySem.W.ks_superIn at sup'
  rw [hcl] at sup'
  refine PySem.W.kxs_getMethod PySem.W.kxs_ValueError at1 (PySem.W.looks_opaque X1 opq) (l₀ := .ref C :: bm) (fun A Q E s k q => wpAny_bind ((PySem.W.looks_clsIn X1 hcl) A _ E s k (wpAny_pure q))) rfl X1 sup' isV (PySem.W.ks_ne X1 I1 hcl) (by decide) ?_
  have k2 : ∀ b o, h1.get? b = some o → (h1.push (PySem.W.kxs_mw "ValueError.__init__" e)).get? b = some o := fun b o z => Heap.get?_push_of_some _ z
  have at2 : (h1.push (PySem.W.kxs_mw "ValueError.__init__" e)).get? h1.objs.size = some (PySem.W.kxs_mw "ValueError.__init__" e) := Heap.get?_push_size _ rfl
  have ns2 : (h1.push (PySem.W.kxs_mw "ValueError.__init__" e)).Ns L m := by
    obtain ⟨o, es, ep, z, r⟩ := ns
    exact ⟨o, es, ep, k2 _ _ (k1 _ _ z), r⟩
  show wpAny _ A (callWith p3 (.ref h1.objs.size) [] (backTo p3 (starEach (e1 :: es) _)) []) _ _ _
  rw [hse]
  refine PySem.W.kxs_callWith (i := "ValueError.__init__") (x := e) (by show (false || (backTo p3 (starEach es (PySem.W.ksEnv q scope L f (.ref cda) cc))).any (·.1)) = false; rw [hpl]; rfl) (Calls.evalArgs_plain ?_)
  have ga := args (h1.push (PySem.W.kxs_mw "ValueError.__init__" e)) (t + 1)
  rw [hse] at ga
  refine ga _ _ ns2 ⟨at2, ?_⟩
  exact bound_init (X1.keeps k2) T at2 (k2 _ _ he1) hz fun h' t1 k3 e3 => fin h' _ t1 ((But.of k1).trans ((But.of k2).trans k3)) e3
/-- self.f = v, the first one -/
theorem store_first {t0 : Addr} {fname : Str} {u : Value} {Q : Unit → Shared → Prop} (X : K.In h) (T : OexC K C) (he : h.get? e = some (exN C t0)) (no : PySem.W.findIn K (.ref C) fname = some none)
    (fin : ∀ h' t' dx, But e h h' → h.objs.size ≤ dx → dx ≠ e → h'.get? e = some ({ cls := .ref C, dict := some dx, data := .fields #[.ref t0, .none, .none, .none, .bool false, .none] } : Obj) → h'.Ns1 dx (fun y => if y = fname then some u else none) → Q () ⟨h', g, d, t', os⟩) :
    wpAny (model P w) A (setAttr (.ref e) fname u) Q E ⟨h, g, d, t, os⟩ := by
  obtain ⟨nm, qn, N, bs, bm, sn, sb, ab, col, dd, k0, k1, k2, k3, k5, hC, hbm⟩ := T.cls
  have hcl : PySem.W.clsIn K C = some { name := nm, bases := bs, mro := .ref C :: bm, ns := N, qualname := qn, hasDict := true, slotNames := sn, subclasses := sb, abstract := ab, collection := col, hasDel := false } := by unfold PySem.W.clsIn; rw [hC] <;> rfl
  refine PySem.W.set_plain X (ox := exN C t0) (od := none) ⟨he, rfl, rfl, trivial⟩ T.sa ?_
  exact PySem.HandSPX.exc_osa X he hcl (show PySem.HandSPX.refsVE (.ref C :: bm) = true from hbm) rfl no fun h' t' dx k dn dne hx hn => fin h' t' dx k dn dne hx hn
/-- an exception with its dict -/
abbrev exW (C t dx : Addr) : Obj := { cls := .ref C, dict := some dx, data := .fields #[.ref t, .none, .none, .none, .bool false, .none] }
/-- self.f = v, a further one -/
theorem store_more {t0 dx : Addr} {fname : Str} {u : Value} {mA : Str → Option Value} {names : List Str} {Q : Unit → Shared → Prop} (X : K.In h) (T : OexC K C) (he : h.get? e = some (exW C t0 dx)) (hn : h.Ns1 dx mA) (hw : Within mA names) (hz : names.length ≤ 900) (no : PySem.W.findIn K (.ref C) fname = some none)
    (fin : ∀ h' t', (∀ b o, b ≠ dx → h.get? b = some o → h'.get? b = some o) → h'.Ns1 dx (fun y => if y = fname then some u else mA y) → Q () ⟨h', g, d, t', os⟩) :
    wpAny (model P w) A (setAttr (.ref e) fname u) Q E ⟨h, g, d, t, os⟩ := by
  obtain ⟨nm, qn, N, bs, bm, sn, sb, ab, col, dd, k0, k1, k2, k3, k5, hC, hbm⟩ := T.cls
  have hcl : PySem.W.clsIn K C = some { name := nm, bases := bs, mro := .ref C :: bm, ns := N, qualname := qn, hasDict := true, slotNames := sn, subclasses := sb, abstract := ab, collection := col, hasDel := false } := by unfold PySem.W.clsIn; rw [hC] <;> rfl
  obtain ⟨oD, _, _, hoD, _, _⟩ := hn.count hw
  refine PySem.W.set_plain X (ox := exW C t0 dx) (od := some oD) ⟨he, rfl, rfl, hoD⟩ T.sa ?_
  exact PySem.OEX.osa_old X he hn hw (by omega) hcl (show PySem.HandSPX.refsVE (.ref C :: bm) = true from hbm) rfl no fun h' t' k hn' => fin h' t' k hn'
end
/-- self.f = a, .. -/
inductive Stores (slf : Str) : List Stmt → List Str → List Str → Prop
  | nil : Stores slf [] [] []
  | cons {f a : Str} {p1 p2 p3 p4 : Pos} {r : List Stmt} {fs as : List Str} : Stores slf r fs as → Stores slf (.Assign [.Attribute (.Name slf p1) f p2] (.Name a p3) p4 :: r) (f :: fs) (a :: as)
/-- what the dict holds behind the stores -/
def putsX (fs : List (Str × V)) : List Str → List V → List (Str × V)
  | f :: r, y :: ys => putsX ((f, y) :: fs) r ys
  | _, _ => fs
section
variable {P : Program} {w : World} {K : PySem.W.Frag} {A : Around} {E : Value → Shared → Prop} {g : Array GenState} {d : Drawn} {os : OsState}
variable {C L e : Addr} {env : PySem.Env} {m : Str → Option Value} {slf : Str}
/-- the names of the frame -/
structure NamesOf (env : PySem.Env) (m : Str → Option Value) (as : List Str) (ys : List V) : Prop where
  loc : ∀ a ∈ as, env.kindOf a = some .local ∧ (a == ("__debug__" : Str)) = false
  val : PySem.W.EachIs (fun a y => ∃ u, m a = some u ∧ RelV y u) as ys
theorem stores_run {body : List Stmt} {fs as : List Str} {ys : List V} (T : OexC K C) (hk : env.scope.kind = .function) (hL : env.locals = L) (hLe : L ≠ e) (hs : env.kindOf slf = some .local) (hsd : (slf == ("__debug__" : Str)) = false) (hv : m slf = some (.ref e))
    (st : Stores slf body fs as) : ∀ {ys : List V} {h : Heap} {t : Nat} {t0 dx : Addr} {xs : List (Str × V)} {mA : Str → Option Value} {Q : Flow → Shared → Prop}, NamesOf env m as ys → K.In h → (∀ f ∈ fs, PySem.W.findIn K (.ref C) f = some none) → (∀ c, K.lookup dx ≠ some c) →
      h.Ns L m → h.get? e = some (exW C t0 dx) → dx ≠ e → L ≠ dx → h.Ns1 dx mA → (∀ f, RelO (xs.lookup f) (mA f)) → xs.length + fs.length ≤ 900 →
      (∀ h' t' mA', (∀ b o, b ≠ dx → h.get? b = some o → h'.get? b = some o) → h'.Ns1 dx mA' → (∀ f, RelO ((putsX xs fs ys).lookup f) (mA' f)) → Q .next ⟨h', g, d, t', os⟩) →
      wpAny (model P w) A (execs body env) Q E ⟨h, g, d, t, os⟩ := by
  induction st with
  | nil =>
    intro ys h t t0 dx xs mA Q N X no nk ns he dne Ld hn rel hz fin
    exact wpAny_pure (fin h t mA (fun _ _ _ z => z) hn rel)
  | @cons f a p1 p2 p3 p4 r fs as st ih =>
    intro ys h t t0 dx xs mA Q N X no nk ns he dne Ld hn rel hz fin
    obtain ⟨nl, nv⟩ := N
    cases nv with
    | @cons _ y _ ys' hy ht =>
      obtain ⟨u, hm, ry⟩ := hy
      obtain ⟨l1, l2⟩ := nl a (List.mem_cons_self ..)
      refine wpAny_execs_cons (plainObj_wpAny_Assign_Attribute ?_ rfl)
      refine wpAny_Name (wpAny_loadName_local hk l1 (hL ▸ ns) hm ?_) l2
      refine wpAny_Name (wpAny_loadName_local hk hs (hL ▸ ns) hv ?_) hsd
      refine store_more X T he hn (within_of rel) (by rw [List.length_map]; simp at hz; omega) (no f (List.mem_cons_self ..)) fun h' t' k hn' => ?_
      have X' : K.In h' := fun b o z => k b o (fun q => by rw [q] at z; exact nk _ z) (X b o z)
      have ns' : h'.Ns L m := by
        obtain ⟨o, es, ep, z, r⟩ := ns
        exact ⟨o, es, ep, k _ _ Ld z, r⟩
      refine ih ⟨fun b hb => nl b (List.mem_cons_of_mem _ hb), ht⟩ X' (fun b hb => no b (List.mem_cons_of_mem _ hb)) nk ns' (k _ _ (Ne.symm dne) he) dne Ld hn' (relO_put ry rel) (by simp at hz ⊢; omega) fun h2 t2 mA2 k2 hn2 rel2 => ?_
      exact fin h2 t2 mA2 (fun b o n z => k2 b o n (k b o n z)) hn2 rel2
end
/-- names as arguments -/
inductive NamesE : List Expr → List Str → Prop
  | nil : NamesE [] []
  | cons {a : Str} {p : Pos} {es : List Expr} {as : List Str} : NamesE es as → NamesE (.Name a p :: es) (a :: as)
theorem names_star {env : PySem.Env} {es : List Expr} {as : List Str} (n : NamesE es as) : ∀ {p3 : Pos}, (backTo p3 (starEach es env)).any (·.1) = false := by
  induction n with
  | nil => intro p3; rfl
  | @cons a p es as n ih =>
    intro p3
    show (false || (backTo p3 (starEach es env)).any (·.1)) = false
    rw [ih]; rfl
theorem names_spliced {P : Program} {w : World} {A : Around} {env : PySem.Env} {m : Str → Option Value} {L : Addr} (hk : env.scope.kind = .function) (hL : env.locals = L) {p3 : Pos} {es : List Expr} {as : List Str} (n : NamesE es as) :
    ∀ {us : List Value} {s : Shared} {Q : List Value → Shared → Prop} {E : Value → Shared → Prop}, (∀ a ∈ as, env.kindOf a = some .local ∧ (a == ("__debug__" : Str)) = false) → PySem.W.EachIs (fun a u => m a = some u) as us → s.heap.Ns L m → Q us s →
      wpAny (model P w) A (spliced (backTo p3 (starEach es env))) Q E s := by
  induction n with
  | nil =>
    intro us s Q E _ v _ q
    cases v
    exact Calls.spliced_nil q
  | @cons a p es as n ih =>
    intro us s Q E l v ns q
    cases v with
    | @cons _ u _ us' hu hv =>
      show wpAny _ A (spliced ((false, eval (.Name a p) env) :: backTo p3 (starEach es env))) Q E s
      refine Calls.spliced_cons (wpAny_Name (wpAny_loadName_local hk (l a (List.mem_cons_self ..)).1 (hL ▸ ns) hu ?_) (l a (List.mem_cons_self ..)).2)
      exact ih (fun b hb => l b (List.mem_cons_of_mem _ hb)) hv ns q
theorem lookup_nd {β : Type} : ∀ {l : List (Str × β)} {a : Str} {u : β}, (l.map (·.1)).Nodup → (a, u) ∈ l → l.lookup a = some u
  | (b, v) :: l, a, u, nd, h => by
    rw [List.map_cons, List.nodup_cons] at nd
    rcases List.mem_cons.mp h with e | h
    · cases e
      rw [List.lookup_cons]; simp
    · have ne : a ≠ b := fun e => nd.1 (by rw [← e]; exact List.mem_map.mpr ⟨(a, u), h, rfl⟩)
      rw [List.lookup_cons]
      have : (a == b) = false := by simpa using ne
      rw [this]
      exact lookup_nd nd.2 h
theorem zip_each : ∀ {as : List Str} {us : List Value} {l : List (Str × Value)}, as.length = us.length → (∀ p ∈ as.zip us, p ∈ l) → (l.map (·.1)).Nodup → PySem.W.EachIs (fun a u => l.lookup a = some u) as us
  | [], [], _, _, _, _ => .nil
  | [], _ :: _, _, h, _, _ => nomatch h
  | _ :: _, [], _, h, _, _ => nomatch h
  | a :: as, u :: us, l, h, k, nd => .cons (lookup_nd nd (k _ (by rw [List.zip_cons_cons]; exact List.mem_cons_self ..))) (zip_each (by simpa using h) (fun p hp => k p (by rw [List.zip_cons_cons]; exact List.mem_cons_of_mem _ hp)) nd)
theorem each_vals {m : Str → Option Value} : ∀ {as : List Str} {us : List Value} {ys : List V}, PySem.W.EachIs (fun a u => m a = some u) as us → Vals ys us → PySem.W.EachIs (fun a y => ∃ u, m a = some u ∧ RelV y u) as ys
  | _, _, _, .nil, .nil => .nil
  | _, _, _, .cons h t, .cons r q => .cons ⟨_, h, r⟩ (each_vals t q)
/-- the promise of such an __init__ -/
def spX (C : Addr) (fs : List Str) : Sp := fun vs H Q _ => ∃ a ys, vs = V.ref a :: ys ∧ ys.length = fs.length ∧ H a = some (exo a C none) ∧ ∀ dx, H dx = none → dx ≠ a → Q .non (upd (upd H dx (exd dx (putsX [] fs ys))) a (exo a C (some dx)))
theorem Stores.len {slf : Str} {body : List Stmt} {fs as : List Str} (st : Stores slf body fs as) : fs.length = as.length := by
  induction st with
  | nil => rfl
  | cons _ ih => rw [List.length_cons, List.length_cons, ih]
set_option maxHeartbeats 8000000 in
theorem superFn {P : Program} {w : World} {K : PySem.W.Frag} {mg : Str → Option Value} {base : Heap} {CX : CXT} {C f : Addr} {qual slf f1 a1 : Str} {params : Arguments} {scope : Scope} {fd : FuncData} {rest : List Stmt} {e1 : Expr} {es : List Expr} {p0 p1 p2 p3 p4 q1 q2 q3 q4 : Pos} {fs as : List Str} {ar : Arg}
    (S : SupF P K mg C f qual params (.Expr (.Call (.Attribute (.Call (.Name "super" p0) [] [] p1) "__init__" p2) (e1 :: es) [] p3) p4 :: .Assign [.Attribute (.Name slf q1) f1 q2] (.Name a1 q3) q4 :: rest) scope fd)
    (hp : (params.posonlyargs ++ params.args).head? = some ar) (har : ar.arg = slf) (st : Stores slf rest fs as) (ne : NamesE (e1 :: es) (a1 :: as)) (no : ∀ x ∈ f1 :: fs, PySem.W.findIn K (.ref C) x = some none) (nd : (slf :: a1 :: as).Nodup) (few : fs.length ≤ 100)
    (hks : scope.names.lookup ("super" : Str) = some .globalImplicit) (hkc : scope.names.lookup ("__class__" : Str) = some .free) (hloc : ∀ x ∈ slf :: a1 :: as, scope.names.lookup x = some .local ∧ (x == ("__debug__" : Str)) = false) (hcell : ∀ x ∈ scope.names, x.2 ≠ .cell)
    (hk : scope.kind = .function) (hco : scope.isCoroutine = false) (hgen : scope.isGenerator = false)
    (hi : ∀ env : PySem.Env, env.scope = scope → env.func.isSome = true → interactive env = false)
    (hs : ∀ env : PySem.Env, swapsWith (.Call (.Attribute (.Call (.Name "super" p0) [] [] p1) "__init__" p2) (e1 :: es) [] p3) none p4.line env = pure false)
    (hev : ∀ env : PySem.Env, eval (.Call (.Attribute (.Call (.Name "super" p0) [] [] p1) "__init__" p2) (e1 :: es) [] p3) env = (do
      let ov ← attributeBase (.Call (.Name "super" p0) [] [] p1) "__init__" env (eval (.Call (.Name "super" p0) [] [] p1) env)
      standAt p2.atName
      let (f', first) ← holding [ov] (getMethod ov "__init__" (pure false))
      callWith p3 f' first (backTo p3 (starEach (e1 :: es) env)) [])) :
    FnOk P w K mg base CX 1 f fd (slf :: a1 :: as) (spX C (f1 :: fs)) := by
  subst har
  obtain ⟨name, dV, kV, doc, pm, an, cda, ct, cc, oc, od, osl, hfd, lk, hcd, hcode, hcellv⟩ := S.fn
  refine ⟨fun vs H Q E ⟨a, ys, ev, hl, _⟩ => ?_, fun A outer s H args us vs Q E room env bound vals ⟨e, ys, ev, hl, hx, wish⟩ => ?_⟩
  · subst ev
    simp only [List.length_cons] at hl ⊢
    rw [hl, st.len]
  subst ev
  have inK : K.In s.heap := env.mod.kin.keeps fun b o z => (env.bs b o z).1
  have lim : s.heap.NoLimit := env.mod.nolimit.keeps fun b o z => (env.bs b o z).1
  obtain ⟨mb, hb, hmb⟩ := env.mod.blt
  obtain ⟨t0, he⟩ := exo_at env.hok hx
  cases vals with
  | @cons _ u0 _ us' r0 rv =>
    obtain rfl : u0 = Value.ref e := r0
    have lus : us'.length = (a1 :: as).length := by rw [← rv.length, hl]; simp only [List.length_cons]; rw [st.len]
    obtain ⟨h, g, d, t, os⟩ := s
    subst hfd
    refine ks_codeAny_call_defAt (binds := (ar.arg :: a1 :: as).zip (.ref e :: us')) (by have := room.dp; omega) (inK _ _ lk) rfl lim (PySem.W.codeRec_of inK hcd) rfl bound hcell (fun y hy => (hloc y.1 (List.of_mem_zip hy).1).1) (fun h0 ns0 k0 => ?_) hco hgen hk
    generalize hL : h.objs.size = L at *
    have he0 : h0.get? e = some (exN C t0) := k0 _ _ he
    have ltE : e < h.objs.size := Heap.lt_size he
    have hLe : L ≠ e := by rw [← hL]; exact Nat.ne_of_gt ltE
    have keysnd : ((((ar.arg :: a1 :: as).zip (Value.ref e :: us')).reverse).map (·.1)).Nodup := by
      rw [List.map_reverse]
      refine List.pairwise_reverse.mpr (List.Pairwise.imp Ne.symm ?_)
      have : ((ar.arg :: a1 :: as).zip (Value.ref e :: us')).map (·.1) = ar.arg :: a1 :: as := List.map_fst_zip (by simp only [List.length_cons] at lus ⊢; omega)
      rw [this]; exact nd
    have each := zip_each (as := ar.arg :: a1 :: as) (us := .ref e :: us') (l := ((ar.arg :: a1 :: as).zip (Value.ref e :: us')).reverse) (by simp only [List.length_cons] at lus ⊢; omega) (fun p hp => List.mem_reverse.mpr hp) keysnd
    generalize hm : (fun x => (((ar.arg :: a1 :: as).zip (Value.ref e :: us')).reverse).lookup x) = m at ns0
    have each' : PySem.W.EachIs (fun a u => m a = some u) (ar.arg :: a1 :: as) (.ref e :: us') := by subst hm; exact each
    cases each' with
    | cons hv eachA =>
      have X0 : K.In h0 := inK.keeps k0
      refine ks_wpAt_execs_cons ?_
      refine super_stmt (q := qual) (scope := scope) (L := L) (f := f) (cda := cda) (cc := cc) (mb := mb) (us := us') X0 S.cls lk hp hcode hcellv S.sup S.opq S.gl ((env.mod.glob.keeps fun b o z => (env.bs b o z).1).keeps k0) ((hb.keeps fun b o z => (env.bs b o z).1).keeps k0)
        ((hmb "super" (by decide)).trans (by decide +kernel)) S.sub S.mro S.top ns0 hv he0 hLe hks hkc (hloc _ (List.mem_cons_self ..)).1 hk
        (fun h1 t1 Q' E' n1 q1 => names_spliced (env := PySem.W.ksEnv qual scope L f (.ref cda) cc) hk rfl ne (fun a ha => hloc a (List.mem_cons_of_mem _ ha)) eachA n1 q1) (by rw [lus]; simp only [List.length_cons]; rw [← st.len, sizeLine_eq]; omega)
        (by cases ne; rfl) (by cases ne with | cons n => exact names_star n) (hi _ rfl rfl) (hs _) (hev _) (fun h1 t1 t2 b1 he1 => ?_)
      show _root_.PySem.wpAt _ _ _ (execs _ _) _ _ _
      refine _root_.PySem.wpAt_of_wpAny ?_
      cases rv with
      | nil => exact absurd lus (by simp)
      | @cons y1 u1 ys1 us1 ry rys =>
        cases eachA with
        | cons hv1 eachB =>
          have X1 : K.In h1 := fun b o z => b1 b o (fun q => by
            subst q
            have := inK _ _ z
            rw [he] at this
            have e2 := env.mod.kin _ _ z
            have e3 := (env.bs _ _ e2).2
            rw [hx] at e3; cases e3) (X0 _ _ z)
          have ns1 := b1.ns hLe ns0
          have lt1 : L < h1.objs.size := by
            obtain ⟨o, es, ep, z, r⟩ := ns1
            exact Heap.lt_size z
          refine wpAny_execs_cons (plainObj_wpAny_Assign_Attribute ?_ rfl)
          refine wpAny_Name (wpAny_loadName_local hk (hloc a1 (by simp)).1 ns1 hv1 ?_) (hloc a1 (by simp)).2
          refine wpAny_Name (wpAny_loadName_local hk (hloc ar.arg (by simp)).1 ns1 hv ?_) (hloc ar.arg (by simp)).2
          refine store_first X1 S.cls he1 (no f1 (List.mem_cons_self ..)) fun h2 t3 dx b2 dn dne hx2 hn2 => ?_
          have Ldx : L ≠ dx := Nat.ne_of_lt (Nat.lt_of_lt_of_le lt1 dn)
          have dbig : h.objs.size ≤ dx := by rw [hL]; omega
          have nk : ∀ c, K.lookup dx ≠ some c := fun c z => absurd (Heap.lt_size (inK _ _ z)) (Nat.not_lt.mpr dbig)
          have X2 : K.In h2 := fun b o z => b2 b o (fun q => by
            subst q
            have e2 := env.mod.kin _ _ z
            have e3 := (env.bs _ _ e2).2
            rw [hx] at e3; cases e3) (X1 _ _ z)
          refine stores_run (ys := ys1) (env := PySem.W.ksEnv qual scope L f (.ref cda) cc) S.cls hk rfl hLe (hloc ar.arg (by simp)).1 (hloc ar.arg (by simp)).2 hv st ⟨fun a ha => hloc a (by simp [ha]), each_vals eachB rys⟩ X2 (fun x hx => no x (List.mem_cons_of_mem _ hx)) nk (b2.ns hLe ns1) hx2 dne Ldx hn2 (xs := [(f1, y1)]) (relO_put (fs := []) ry fun _ => True.intro) (by simp; omega) fun h3 t4 mA b3 hn3 rel3 => ?_
          have hnd : H dx = none := env.hok.fresh dbig
          have fin := wish dx hnd dne
          have k3 : ∀ b o, b ≠ e → h.get? b = some o → h3.get? b = some o := fun b o n z => b3 b o (Nat.ne_of_lt (Nat.lt_of_lt_of_le (Heap.lt_size z) dbig)) (b2 b o n (b1 b o n (k0 b o z)))
          have he3 : h3.get? e = some (exW C t2 dx) := b3 _ _ (Ne.symm dne) hx2
          have na : ∀ {b : Addr}, H b = none → b ≠ e := fun {b} n z => by rw [z, hx] at n; cases n
          have nd' : ∀ {b : Addr} {o : Obj}, h.get? b = some o → b ≠ dx := fun {b o} q => Nat.ne_of_lt (Nat.lt_of_lt_of_le (Heap.lt_size q) dbig)
          refine ⟨.non, _, rfl, env.bare, ?un, ?ok, rfl, fin⟩
          case un =>
            exact {
              keep := fun b o q n _ _ => k3 b o (na n) q
              slot := fun b o q n _ _ => ⟨o.slots, k3 b o (na n) q⟩
              free := fun b o q n _ => by rw [upd_ne (na n), upd_ne (nd' q)]; exact n
              there := fun b o q _ => by
                by_cases hb : b = e
                · exact ⟨_, by rw [hb]; exact he3⟩
                · exact ⟨o, k3 b o hb q⟩
              tups := fun b xs q => by rw [upd_ne (at_ne hx q exo_tup), upd_ne (ne_of_none q hnd)]; exact q
              frzs := fun b o v q => by rw [upd_ne (at_ne hx q exo_frz), upd_ne (ne_of_none q hnd)]; exact q
              tbls := fun b ps q => ⟨#[], by rw [upd_ne (at_ne hx q exo_tbl), upd_ne (ne_of_none q hnd), q]; simp⟩ }
          case ok =>
            intro b o q
            by_cases hb : b = e
            · subst hb
              rw [upd_same] at q
              cases q
              exact exo_ok he3
            · rw [upd_ne hb] at q
              by_cases hd : b = dx
              · subst hd
                rw [upd_same] at q
                cases q
                exact exd_ok hn3 rel3
              · rw [upd_ne hd] at q
                exact (env.hok b o q).stay (fun c v hc z => k3 c v (by
                    rcases hc with hc | hc
                    · rw [hc]; exact hb
                    · exact at_ne hx hc exo_own) z)
                  (fun c hc => by rw [upd_ne (at_ne hx hc exo_own), upd_ne (ne_of_none hc hnd)]; exact hc) (fun c xs hc => by rw [upd_ne (at_ne hx hc exo_tup), upd_ne (ne_of_none hc hnd)]; exact hc)
end L3
set_option Elab.async false
set_option linter.all false
set_option maxRecDepth 100000
set_option maxHeartbeats 4000000
set_option autoImplicit false
/-! try: several clauses, each with a name or without -/
namespace L3
open PySem PySem.Spec L2
open PyProof.Rows hiding St
/-- a clause: what it names, the slot of its name, its suite's reading -/
abbrev Cla : Type := Value × Option Nat × (Addr → Value → Option Addr → TS)
/-- the ends of a suite: its name goes -/
def goneE (o : Option Nat) (E : Ends) : Ends := match o with
  | none => E
  | some i => { nx := fun σ H => E.nx (σ.set i none) H, rt := E.rt, bk := fun σ H => E.bk (σ.set i none) H, ct := fun σ H => E.ct (σ.set i none) H }
def bindE (o : Option Nat) (a : Addr) (σ : St) : St := match o with
  | none => σ
  | some i => σ.set i (some (.ref a))
/-- what the clauses wish of an exception that the body lets out -/
def wCla (K : PySem.W.Frag) (Wo : WX) (E : Ends) : List Cla → WX
  | [] => Wo
  | (c, o, ts) :: r => fun cls d σ H => ∃ hit, PySem.W.exmOne K cls c = some hit ∧ if hit = true then ∀ a, H a = none → ts a cls d (goneE o E) (bindE o a σ) H else wCla K Wo E r cls d σ H
/-- a suite reads so -/
def SuiteOk (X : Cx) (body : List Stmt) (ts : Addr → Value → Option Addr → TS) : Prop :=
  ∀ (a : Addr) (oe : Obj) (cls : Value) (d : Option Addr) (pn : List (Addr × Obj)), Zc cls d oe → (∃ fv, oe.data = .fields fv) → PSs (X.suite a ((a, oe) :: pn)) body (ts a cls d)
inductive ClaOk (X : Cx) : List ExceptHandler → List Cla → Prop
  | nil : ClaOk X [] []
  | bare {x : Str} {c : Value} {ts : Addr → Value → Option Addr → TS} {b : Stmt} {bs : List Stmt} {p p' : Pos} {hs : List ExceptHandler} {l : List Cla} : Names X x c → SuiteOk X (b :: bs) ts → ClaOk X hs l →
      ClaOk X (.ExceptHandler (some (.Name x p)) none (b :: bs) p' :: hs) ((c, none, ts) :: l)
  | named {x n : Str} {i : Nat} {c : Value} {ts : Addr → Value → Option Addr → TS} {b : Stmt} {bs : List Stmt} {p p' : Pos} {hs : List ExceptHandler} {l : List Cla} : Names X x c → X.N[i]? = some n → X.env.kindOf n = some .local → SuiteOk X (b :: bs) ts → ClaOk X hs l →
      ClaOk X (.ExceptHandler (some (.Name x p)) (some n) (b :: bs) p' :: hs) ((c, some i, ts) :: l)
section
variable {X : Cx}
/-- an exception stands on the ground G, caught: what the clauses' walk rests on -/
structure Down (X : Cx) (pins : List (Addr × Obj)) (σ : St) (H : Hp) (cls : Value) (d : Option Addr) (a : Addr) (G : Heap) (sI s : Shared) (h : Heap) : Prop where
  inv : Inv X pins σ H sI
  keeps : ∀ b o, sI.heap.get? b = some o → b ∉ frs X.stack → G.get? b = some o
  up : sI.heap.UpToSlots h
  fly : HandSPX.FlyingZ G (X.env :: X.outer) a (Zc cls d) h
  free : H a = none
  os : s.os = sI.os
  gens : AllBare s.gens
theorem Down.to {pins : List (Addr × Obj)} {σ : St} {H : Hp} {cls : Value} {d : Option Addr} {a : Addr} {G : Heap} {sI s : Shared} {h : Heap} (W : Down X pins σ H cls d a G sI s h) : Inv X pins σ H { s with heap := h } := W.inv.landed W.keeps W.fly.1 W.up W.os W.gens
theorem Down.own {pins : List (Addr × Obj)} {σ : St} {H : Hp} {cls : Value} {d : Option Addr} {a : Addr} {G : Heap} {sI s : Shared} {h : Heap} (W : Down X pins σ H cls d a G sI s h) (hf : X.env.frame = some X.env.locals) : a ≠ X.env.locals ∧ a ∉ X.fs := by
  obtain ⟨oe, vs, he, _, hd⟩ := W.fly.there
  have off : a ∉ frs (X.env :: X.outer) := fun hm => by
    obtain ⟨_, o, e, nf⟩ := W.fly.2.2.1.mem hm
    rw [he] at e; cases e
    exact nf _ hd
  refine ⟨fun z => off (List.mem_filterMap.mpr ⟨X.env, List.mem_cons_self, by rw [hf, z]⟩), fun hm => ?_⟩
  obtain ⟨e, he', q⟩ := List.mem_filterMap.mp hm
  exact off (List.mem_filterMap.mpr ⟨e, List.mem_cons_of_mem _ he', q⟩)
theorem Down.in_ {pins : List (Addr × Obj)} {σ : St} {H : Hp} {cls : Value} {d : Option Addr} {a : Addr} {G : Heap} {sI s : Shared} {h : Heap} (W : Down X pins σ H cls d a G sI s h) (hf : X.env.frame = some X.env.locals) :
    ∃ oe, (∃ fv, oe.data = .fields fv) ∧ h.get? a = some oe ∧ Zc cls d oe ∧ Inv (X.suite a ((a, oe) :: (X.pn ++ pins))) [] σ H { s with heap := h } := by
  obtain ⟨oe, vs, he, hz, hd⟩ := W.fly.there
  obtain ⟨n1, n2⟩ := W.own hf
  exact ⟨oe, ⟨vs, hd⟩, he, hz, W.to.suite he hd W.free n1 n2⟩
/-- the clauses tried one behind another -/
theorem clauses (ok : X.Ok) (hN : X.N.Nodup) (hs : X.stack = X.env :: X.outer) (hf : X.env.frame = some X.env.locals) {Wo : WX} (tk : Takes X Wo) {E : Ends} {pins : List (Addr × Obj)} {σ : St} {H : Hp} {cls : Value} {d : Option Addr} {a : Addr} {G : Heap} {sI s : Shared} {h : Heap}
    (W : Down X pins σ H cls d a G sI s h) {hds : List ExceptHandler} {l : List Cla} (k : ClaOk X hds l) : wCla X.K Wo E l cls d σ H → wpAny (model X.prog X.w) X.A (handleBy (.ref a) X.env hds) (SP X pins E) X.xe { s with heap := h } := by
  obtain ⟨oe, hfv, he, hz, S⟩ := W.in_ hf
  have kind : PySem.W.Looks (model X.prog X.w) h (typeOf (.ref a)) cls := fun A Q E s k q => wpAny_typeOf_ref (k _ _ he) (by rw [hz.1]; exact q)
  -- the class that a clause names
  have named : ∀ {x : Str} {c : Value} {np : Pos} {Q : Value → Shared → Prop} {E' : Value → Shared → Prop}, Names X x c → Q c { s with heap := h } → wpAny (model X.prog X.w) (X.A.mark (some (.ref a))) (eval (.Name x np) X.env) Q E' { s with heap := h } := by
    intro x c np Q E' ⟨g1, g2, g3⟩ q
    rcases g3 with m | ⟨m, v, nn⟩
    · exact ld_glob (X := X.suite a ((a, oe) :: (X.pn ++ pins))) S g1 m q g2
    · exact ld_blt (X := X.suite a ((a, oe) :: (X.pn ++ pins))) S g1 m v q nn g2
  -- the suite begins: the exception is landed once more
  have again : ∀ h4, HandSPX.FlyingZ G (X.env :: X.outer) a (Zc cls d) h4 → h.UpToSlots h4 → ∃ oe4, (∃ fv, oe4.data = .fields fv) ∧ h4.get? a = some oe4 ∧ Zc cls d oe4 ∧ Inv (X.suite a ((a, oe4) :: (X.pn ++ pins))) [] σ H { s with heap := h4 } := fun h4 fl up =>
    Down.in_ (s := s) (⟨W.inv, W.keeps, W.up.trans up, fl, W.free, W.os, W.gens⟩ : Down X pins σ H cls d a G sI s h4) hf
  induction k with
  | nil =>
    intro w
    refine wpAny_handleBy_nil ?_
    obtain ⟨_, _, _, oe', vs, T, oT, ts, he', hz', hd', h1, _⟩ := id W.fly
    unfold PySem.passOn
    refine wpAny_bind (wpAny_field he' hd' h1 ?_)
    rw [if_neg (by simp)]
    have off : wpAny (model X.prog X.w) X.A (setFlight (.ref a) X.env.frame) (fun _ s4 => wpAny (model X.prog X.w) X.A (throw (.ref a) : Sem Flow) (SP X pins E) X.xe s4) X.xe { s with heap := h } := by
      rw [hf]
      refine HandSPX.setFlight_upZ W.fly fun h4 held up4 => wpAny_throw (tk _ _ ⟨a, G, sI, pins, σ, H, cls, d, rfl, W.inv, W.keeps, W.up.trans up4, ?_, W.free, W.os, W.gens, w⟩)
      rw [hs]
      exact .inr (.inr held)
    first
      | exact wpAny_bind (wpAny_pure (wpAny_bind off))
      | exact wpAny_bind off
  | @bare x c ts b bs p p' hds' l' nm su _ ih =>
    rintro ⟨hit, e1, w⟩
    refine wpAny_handleBy_cons (codeAny_handlers_test ?_) (by intro q; cases q)
    have match_ := PySem.W.exm_one (M := model X.prog X.w) W.to.kIn kind e1
    refine named nm (match_.here ?_)
    cases hit with
    | false => exact ih w
    | true =>
      refine codeAny_handlers_suite (HandSPX.lands_againZ W.fly fun h4 fl4 up4 => ?_)
      obtain ⟨oe4, f4, _, z4, S4⟩ := again h4 fl4 up4
      refine wpAny_mono ((su a oe4 cls d (X.pn ++ pins) z4 f4).run [] _ _ H _ S4 (w a W.free)) (fun fl s6 sp => ?_) fun _ _ z => False.elim z
      cases fl with
      | ret u => obtain ⟨v, σ6, H6, S6, r6, q6⟩ := sp; exact ⟨v, σ6, H6, S6.unsuite ok, r6, q6⟩
      | next => obtain ⟨σ6, H6, S6, q6⟩ := sp; exact ⟨σ6, H6, S6.unsuite ok, q6⟩
      | brk => obtain ⟨σ6, H6, S6, q6⟩ := sp; exact ⟨σ6, H6, S6.unsuite ok, q6⟩
      | cont => obtain ⟨σ6, H6, S6, q6⟩ := sp; exact ⟨σ6, H6, S6.unsuite ok, q6⟩
  | @named x n i c ts b bs p p' hds' l' nm hi hln su _ ih =>
    rintro ⟨hit, e1, w⟩
    refine wpAny_handleBy_cons (codeAny_handlers_test ?_) (by intro q; cases q)
    have match_ := PySem.W.exm_one (M := model X.prog X.w) W.to.kIn kind e1
    refine named nm (match_.here ?_)
    cases hit with
    | false => exact ih w
    | true =>
      refine codeAny_handlers_suite_as (HandSPX.lands_againZ W.fly fun h4 fl4 up4 => ?_)
      obtain ⟨oe4, f4, _, z4, S4⟩ := again h4 fl4 up4
      refine store_ok (X := X.suite a ((a, oe4) :: (X.pn ++ pins))) (v := .ref a) S4 hN hi (.inl hln) rfl (fun s5 S5 => ?_) (.inr hln)
      refine wpAny_mono ((su a oe4 cls d (X.pn ++ pins) z4 f4).run [] s5 _ H _ S5 (w a W.free)) (fun fl s6 sp => ?_) fun _ _ z => False.elim z
      have gone : ∀ {σ6 : St} {H6 : Hp} {Q : Shared → Prop}, Inv (X.suite a ((a, oe4) :: (X.pn ++ pins))) [] σ6 H6 s6 → (∀ s7, Inv X pins (σ6.set i none) H6 s7 → Q s7) → wpAny (model X.prog X.w) X.A (do bindName X.env n .none; unbindBehindTheSuite X.env n p') (fun _ s7 => Q s7) X.xe s6 :=
        fun S6 q => gone_ok (S6.unsuite ok) hN hi hln q
      cases fl with
      | ret u => obtain ⟨v, σ6, H6, S6, r6, q6⟩ := sp; exact gone S6 fun s7 J7 => ⟨v, _, H6, J7, r6, q6⟩
      | next => obtain ⟨σ6, H6, S6, q6⟩ := sp; exact gone S6 fun s7 J7 => ⟨_, H6, J7, q6⟩
      | brk => obtain ⟨σ6, H6, S6, q6⟩ := sp; exact gone S6 fun s7 J7 => ⟨_, H6, J7, q6⟩
      | cont => obtain ⟨σ6, H6, S6, q6⟩ := sp; exact gone S6 fun s7 J7 => ⟨_, H6, J7, q6⟩
/-- try: body, the clauses -/
theorem ps_tryC {body : List Stmt} {h₀ : ExceptHandler} {hds : List ExceptHandler} {l : List Cla} {pos : Pos} {tb : WX → TS} {Wo : WX} (hN : X.N.Nodup) (hs : X.stack = X.env :: X.outer) (hf : X.env.frame = some X.env.locals) (tk : Takes X Wo)
    (hb : ∀ (W : WX) (pn : List (Addr × Obj)) (xe : Value → Shared → Prop), Takes (X.tr pn xe) W → PassesOwn (model X.prog X.w) X.A X.env xe → PSs (X.tr pn xe) body (tb W)) (hh : ClaOk X (h₀ :: hds) l) :
    PS X (.Try body (h₀ :: hds) [] [] pos) (fun E σ H => tb (wCla X.K Wo E l) E σ H) := by
  refine ⟨fun pins s σ H E I w => ?_⟩
  have frames : X.A.frames = some (X.env :: X.outer) := by rw [I.ok.frames, hs]
  refine wpAny_Try_except (wpAny_mono ((hb (wCla X.K Wo E l) (X.pn ++ pins) (fun e s1 => wpAny (model X.prog X.w) X.A (noteFrame e X.env) (fun _ s2 => wpAny (model X.prog X.w) X.A (setFlight e none) (fun _ s3 =>
    wpAny (model X.prog X.w) X.A (handleBy e X.env (h₀ :: hds)) (SP X pins E) X.xe s3) X.xe s2) X.xe s1) (fun u s' x => ?c1) PassesOwn.looking).run [] s σ H E (I.toTry _) w) (fun fl s1 sp => ?c2) fun _ _ z => z)
  case c1 =>
    obtain ⟨a, G, sI, pins', σ', H', cls, d, rfl, J, nb, up, sky, na, os, ag, wish⟩ := x
    show wpAny (model X.prog X.w) X.A (noteFrame (.ref a) X.env) _ _ _
    refine Sky.land Zc.steady frames hf (show Sky G (X.env :: X.outer) a (Zc cls d) X.env.locals s'.heap by rw [← hs]; exact sky) fun h3 fl3 up3 => ?_
    exact clauses I.ok hN hs hf tk (s := s') ⟨J.ofTry I.ok, nb, up.trans up3, fl3, na, os, ag⟩ hh wish
  case c2 =>
    cases fl with
    | next => obtain ⟨σ1, H1, J, q⟩ := sp; exact wpAny_execs_nil ⟨σ1, H1, J.ofTry I.ok, q⟩
    | ret u => obtain ⟨v, σ1, H1, J, r, q⟩ := sp; exact ⟨v, σ1, H1, J.ofTry I.ok, r, q⟩
    | brk => obtain ⟨σ1, H1, J, q⟩ := sp; exact ⟨σ1, H1, J.ofTry I.ok, q⟩
    | cont => obtain ⟨σ1, H1, J, q⟩ := sp; exact ⟨σ1, H1, J.ofTry I.ok, q⟩
end
end L3
set_option Elab.async false
set_option linter.all false
set_option maxRecDepth 100000
set_option maxHeartbeats 4000000
set_option autoImplicit false
/-! exceptions of data: raised, passed on, caught -/
namespace L3
open PySem PySem.Spec L2
open PyProof.Rows hiding St
/-- what is wanted of exceptions here -/
def DX.WD (C : DX) : WX := fun c dx σ H' => ∃ e ρ M' g', C.B.le g' ∧ RelH C.X.K g' M' H' ∧ RelE C.X.K g' σ ρ ∧ ExnRep C.X.K g' c dx e ∧ C.W e ρ M'
def TkW (C : DX) : Prop := Takes C.X C.WD
theorem tkd_of {C : DX} (t : TkW C) : TkD C (L2.CX C.X.prog C.X.w) := fun σ => passAt (W := C.WD) t σ
/-- a block that no exception may leave -/
theorem tkd_no {C : DX} (h : ∀ e ρ M, ¬ C.W e ρ M) : TkD C (L2.CX C.X.prog C.X.w) := by
  intro σ pins H s u s' I c
  obtain ⟨_, _, _, _, _, _, _, _, _, _, _, _, e, ρ, M', g', _, _, _, _, w⟩ := c
  exact (h _ _ _ w).elim
theorem tkw_body {P : Program} {w : World} {K : PySem.W.Frag} {mg : Str → Option Value} {base : Heap} {N : List Str} {qual : Str} {scope : Scope} {f : Addr} {cd : Value} {A : Around} {outer : List PySem.Env} {s : Shared} {H : Hp} {E : XK} {g : G} :
    TkW (bodyC (L2.CX P w) P w K mg base N qual scope f cd A outer s H E g) :=
  Takes.imp (takes_of (X := cxOf (L2.CX P w) P w K mg base N qual scope f cd A outer s H E) (E := E) rfl rfl rfl rfl) fun c d σ H' ⟨e, ρ, M', g', l, R, r, x, w⟩ => w c d H' g' l R x
section
variable {K : PySem.W.Frag} {g : G}
/-- a dead place in the store: an exception that is held -/
theorem RelH.dead {M : Store} {H : Hp} (R : RelH K g M H) (a : Addr) : RelH K (g.more a) (M ++ [none]) H := by
  refine ⟨R.frz, R.prt, ?_, fun n o e => ?_, fun n m b o o' e e' i i' => ?_⟩
  · show (g.io ++ [a]).length = _
    rw [List.length_append, List.length_append, R.len]; rfl
  · rcases getElem?_snoc _ _ _ _ e with e | ⟨_, e8⟩
    · obtain ⟨b, e1, e2, e3⟩ := R.liv n o e
      refine ⟨b, ?_, e2, e3.mono (G.le_more (p := a)).sub rfl⟩
      show (g.io ++ [a])[n]? = some b
      rw [List.getElem?_append_left (List.getElem?_eq_some_iff.mp e1).1]; exact e1
    · cases e8
  · rcases getElem?_snoc _ _ _ _ e with e | ⟨_, e8⟩
    · rcases getElem?_snoc _ _ _ _ e' with e' | ⟨_, e8⟩
      · have l1 : n < g.io.length := by rw [R.len]; exact (List.getElem?_eq_some_iff.mp e).1
        have l2 : m < g.io.length := by rw [R.len]; exact (List.getElem?_eq_some_iff.mp e').1
        have i2 : (g.io ++ [a])[n]? = some b := i
        have i3 : (g.io ++ [a])[m]? = some b := i'
        rw [List.getElem?_append_left l1] at i2
        rw [List.getElem?_append_left l2] at i3
        exact R.inj n m b o o' e e' i2 i3
      · cases e8
    · cases e8
theorem RelE.unset {σ : St} {ρ : DEnv} (x : RelE K g σ ρ) (i : Nat) : RelE K g (σ.set i none) (ρ.set i none) := by
  refine ⟨by rw [List.length_set, List.length_set]; exact x.len, fun j e q => ?_⟩
  by_cases h : i = j
  · subst h
    rw [List.getElem?_set] at q
    split at q
    · split at q <;> cases q
    · rename_i h; exact absurd rfl h
  · rw [List.getElem?_set_ne h] at q
    obtain ⟨v, q1, r⟩ := x.at_ j e q
    exact ⟨v, by rw [List.getElem?_set_ne h]; exact q1, r⟩
theorem ExnRep.mono {g' : G} {c : Value} {d : Option Addr} {e : Exn} (x : ExnRep K g c d e) (h : g.le g') : ExnRep K g' c d e := by
  refine ⟨x.1, ?_⟩
  have x2 := x.2
  cases d with
  | none => exact x2
  | some a => obtain ⟨vs, q1, q2, q3⟩ := x2; exact ⟨vs, h.sub.F _ _ q1, q2.mono h, q3⟩
end
/-! ### raise -/
def putsD (fs : List (Str × D)) : List Str → List D → List (Str × D)
  | f :: r, y :: ys => putsD ((f, y) :: fs) r ys
  | _, _ => fs
theorem puts_reps {K : PySem.W.Frag} {g : G} : ∀ {fs : List Str} {ys : List V} {ds : List D} {xs : List (Str × V)} {zs : List (Str × D)}, Reps K g ys ds → Reps K g (xs.map (·.2)) (zs.map (·.2)) → xs.map (·.1) = zs.map (·.1) →
    Reps K g ((putsX xs fs ys).map (·.2)) ((putsD zs fs ds).map (·.2)) ∧ (putsX xs fs ys).map (·.1) = (putsD zs fs ds).map (·.1)
  | [], _, _, _, _, _, a, b => ⟨a, b⟩
  | _ :: _, _, _, _, _, .nil, a, b => ⟨a, b⟩
  | f :: fs, _, _, xs, zs, .cons r t, a, b => puts_reps (xs := (f, _) :: xs) (zs := (f, _) :: zs) t (.cons r a) (by rw [List.map_cons, List.map_cons, b])
/-- the class x keeps the fields fs that it is made with -/
structure Xcl (P : Program) (w : World) (K : PySem.W.Frag) (mg : Str → Option Value) (base : Heap) (x : Str) (fs : List Str) : Prop where
  ex : ∃ fI fd ps, OexC K (He.ga K x) ∧ PySem.W.findIn K (.ref (He.ga K x)) "__init__" = some (some (.ref fI)) ∧ PySem.W.typeIn K (.ref fI) = some (.type "function") ∧ FnOk P w K mg base L2.CX0 1 fI fd ps (spX (He.ga K x) fs) ∧ Binds K fd ps [] ∧ mg x = some (.ref (He.ga K x))
def sRaise (x : Str) (fs : List Str) (ff : DEnv → Py (List D)) : DEnv → Py Fl := fun ρ => Py.bnd (ff ρ) fun ds => Py.chk (ds.length = fs.length ∧ ds.length ≤ 100) (Py.raise ⟨x, putsD [] fs ds⟩)
section
variable {C : DX} {x : Str} {p pos pos2 : Pos} {e : Expr} {es : List Expr} {ff : DEnv → Py (List D)}
theorem ds_raise {fs : List Str} (D' : Xcl C.X.prog C.X.w C.X.K C.X.mg C.X.base x fs) (room : RoomG 2 C.X.A) (hc : C.X.calm = true) (tk : TkW C) (ha : DA C (e :: es) ff) (hg : Gl C.X x := by rfl) (hdb : (x == ("__debug__" : Str)) = false := by decide)
    (he : starEach (e :: es) C.X.env = (false, eval e C.X.env) :: starEach es C.X.env := by rfl) (hpl : (backTo pos (starEach es C.X.env)).any (·.1) = false := by rfl) : DS C (.Raise (some (.Call (.Name x p) (e :: es) [] pos)) none pos2) (sRaise x fs ff) := ⟨fun {g ρ M σ H} E R pr => by
  obtain ⟨fI, fd, ps, T, iC, tI, F1, hb, gm⟩ := D'.ex
  refine wps (ps_raise hc tk (pmk_oex (CX := L2.CX0) T iC tI F1 room.room hb .nil pass0 hg gm self_a hdb he hpl)) ?_
  refine ha.then_ R pr fun vs ds M1 H1 g1 l1 R1 r1 p1 => ?_
  obtain ⟨⟨hl, few⟩, q⟩ := post_chk.mp p1
  have lv : vs.length = ds.length := r1.length
  refine ⟨by omega, fun a na => ⟨a, vs ++ [], rfl, by rw [List.append_nil, lv]; exact hl, upd_same, fun dx hd nd => ?_⟩⟩
  have hd1 : H1 dx = none := by rw [upd_ne nd] at hd; exact hd
  rw [List.append_nil]
  refine ⟨rfl, dx, putsX [] fs vs, upd_same, by rw [upd_ne nd]; exact upd_same, hd1, ?_⟩
  have eH : upd (del (upd (upd (upd H1 a (exo a (He.ga C.X.K x) none)) dx (exd dx (putsX [] fs vs))) a (exo a (He.ga C.X.K x) (some dx))) a) dx (.xd (putsX [] fs vs)) = upd H1 dx (.xd (putsX [] fs vs)) := by
    funext b
    by_cases hbd : b = dx
    · subst hbd; rw [upd_same, upd_same]
    · rw [upd_ne hbd, upd_ne hbd]
      by_cases hba : b = a
      · subst hba; rw [del_same, na]
      · rw [del_ne hba, upd_ne hba, upd_ne hbd, upd_ne hba]
  rw [eH]
  have L : g1.le (g1.add dx (.xd (putsX [] fs vs))) := G.le_add (R1.h.fnone hd1)
  have rr := puts_reps (fs := fs) (xs := []) (zs := []) r1 .nil rfl
  exact ⟨⟨x, putsD [] fs ds⟩, ρ, M1, g1.add dx (.xd (putsX [] fs vs)), R1.b.trans L, R1.h.laid hd1, R1.e.mono L, ⟨rfl, _, upd_same, (rr.1).mono L, rr.2⟩, q⟩⟩
end
/-! ### raise, a class without an __init__ of its own -/
section
variable {X : Cx} {bmB : List Value} {B newId initId : String}
theorem pmk_own0 {A : Addr} {x : Str} {p pos : Pos} (F : ExcBaseFacts B newId initId bmB) (q : PySem.W.excIn X.K A bmB newId = true) (gC : X.mg x = some (.ref A)) (kC : PySem.W.keepIn X.K (.ref A) = true) (r : Raises X (.ref A)) (hg : Gl X x) (hdb : (x == ("__debug__" : Str)) = false := by decide) :
    PMk X (.Call (.Name x p) [] [] pos) (fun _ H Q => Q (.ref A) none H) := by
  intro pins s σ H Q I h
  refine wpAny_Call_Name_kw (ld_glob I hg gC (PySem.W.callWith_K0 I.kIn kC ?_) hdb)
  obtain ⟨bm, N, nm, qn, bs, hdct, sn, sub, ab, col, dd, k0, k1, k2, k3, k5, mN, hC, hN, hni, T⟩ := exc_obj I.kIn q
  refine wpAny_call_exc_subT F T hC hN hni (fun h' e made => mk_of I made r h (I.hok.gone made.new)) (Nat.zero_le _)
end
/-- the class x, made without anything -/
structure Xcl0 (K : PySem.W.Frag) (mg : Str → Option Value) (x : Str) : Prop where
  own : PySem.W.excIn K (He.ga K x) He.veBase "ValueError.__new__" = true
  kp : PySem.W.keepIn K (.ref (He.ga K x)) = true
  sub : PySem.W.subIn K (.ref (He.ga K x)) (.type "BaseException") = some true
  ty : PySem.W.typeIn K (.ref (He.ga K x)) = some (.type "type")
  gl : mg x = some (.ref (He.ga K x))
def sRaise0 (x : Str) : DEnv → Py Fl := fun _ => Py.raise ⟨x, []⟩
section
variable {C : DX} {x : Str} {p pos pos2 : Pos}
theorem ds_raise0 (D' : Xcl0 C.X.K C.X.mg x) (hc : C.X.calm = true) (tk : TkW C) (hg : Gl C.X x := by rfl) (hdb : (x == ("__debug__" : Str)) = false := by decide) : DS C (.Raise (some (.Call (.Name x p) [] [] pos)) none pos2) (sRaise0 x) := ⟨fun {g ρ M σ H} E R pr =>
  wps (ps_raise hc tk (pmk_own0 PySem.F.excBase_ValueError D'.own D'.gl D'.kp (raises_own D'.sub D'.ty) hg hdb)) ⟨⟨x, []⟩, ρ, M, g, R.b, R.h, R.e, ⟨rfl, rfl⟩, pr⟩⟩
end
/-! ### try -/
/-- the body, its exceptions handed to the clauses -/
def sTry (f : DEnv → Py Fl) (h : Exn → DEnv → Py Fl) : DEnv → Py Fl := fun ρ M => match f ρ M with
  | .ok r M' => .ok r M'
  | .exc e M' => h e ρ M'
  | .bad => .bad
theorem sTry_post {f : DEnv → Py Fl} {h : Exn → DEnv → Py Fl} {ρ : DEnv} {M : Store} {q : Fl → Store → Prop} {E : Exn → Store → Prop} : Post (sTry f h ρ M) q E ↔ Post (f ρ M) q (fun e M' => Post (h e ρ M') q E) := by
  unfold sTry
  cases f ρ M <;> exact Iff.rfl
def cEnd : Exn → DEnv → Py Fl := fun e _ => Py.raise e
def bindD (o : Option Nat) (n : Nat) (ρ : DEnv) : DEnv := match o with
  | none => ρ
  | some i => ρ.set i (some (.loc n))
def goneF (o : Option Nat) : Fl → Fl := fun r => match o with
  | none => r
  | some i => match r with
    | .nx ρ => .nx (ρ.set i none)
    | .bk ρ => .bk (ρ.set i none)
    | .ct ρ => .ct (ρ.set i none)
    | .rt d => .rt d
/-- a clause: yes and no are the classes that it takes, that it lets go by -/
def cCla (yes no : List Str) (o : Option Nat) (blk : Exn → Nat → DEnv → Py Fl) (rest : Exn → DEnv → Py Fl) : Exn → DEnv → Py Fl := fun e ρ M =>
  if e.cls ∈ yes then Py.bnd (noX (blk e M.length (bindD o M.length ρ))) (fun r => Py.ret (goneF o r)) (M ++ [none]) else if e.cls ∈ no then rest e ρ M else .bad
/-- where an except suite runs -/
abbrev DX.suite (C : DX) (B : G) (a : Addr) (pn : List (Addr × Obj)) : DX := ⟨C.X.suite a pn, { B with w := C.X.w }, fun _ _ _ => False, rfl⟩
/-- the suite of a clause -/
def DSuite (C : DX) (yes : List Str) (body : List Stmt) (blk : Exn → Nat → DEnv → Py Fl) : Prop :=
  ∀ (e : Exn) (n : Nat) (B : G) (a : Addr) (oe : Obj) (d : Option Addr) (pn : List (Addr × Obj)), e.cls ∈ yes → Zc (.ref (He.ga C.X.K e.cls)) d oe → (∃ fv, oe.data = .fields fv) → B.io[n]? = some a → ExnRep C.X.K B (.ref (He.ga C.X.K e.cls)) d e → B.w = C.X.w →
    DSs (C.suite B a ((a, oe) :: pn)) body (blk e n)
inductive DCla (C : DX) : List ExceptHandler → (Exn → DEnv → Py Fl) → Prop
  | nil : DCla C [] cEnd
  | bare {x : Str} {yes no : List Str} {blk : Exn → Nat → DEnv → Py Fl} {rest : Exn → DEnv → Py Fl} {b : Stmt} {bs : List Stmt} {p p' : Pos} {hs : List ExceptHandler} : Names C.X x (.ref (He.ga C.X.K x)) → (∀ y ∈ yes, PySem.W.exmOne C.X.K (.ref (He.ga C.X.K y)) (.ref (He.ga C.X.K x)) = some true) →
      (∀ y ∈ no, PySem.W.exmOne C.X.K (.ref (He.ga C.X.K y)) (.ref (He.ga C.X.K x)) = some false) → DSuite C yes (b :: bs) blk → DCla C hs rest → DCla C (.ExceptHandler (some (.Name x p)) none (b :: bs) p' :: hs) (cCla yes no none blk rest)
  | named {x n : Str} {i : Nat} {yes no : List Str} {blk : Exn → Nat → DEnv → Py Fl} {rest : Exn → DEnv → Py Fl} {b : Stmt} {bs : List Stmt} {p p' : Pos} {hs : List ExceptHandler} : Names C.X x (.ref (He.ga C.X.K x)) → C.X.N[i]? = some n → C.X.env.kindOf n = some .local →
      (∀ y ∈ yes, PySem.W.exmOne C.X.K (.ref (He.ga C.X.K y)) (.ref (He.ga C.X.K x)) = some true) → (∀ y ∈ no, PySem.W.exmOne C.X.K (.ref (He.ga C.X.K y)) (.ref (He.ga C.X.K x)) = some false) → DSuite C yes (b :: bs) blk → DCla C hs rest →
      DCla C (.ExceptHandler (some (.Name x p)) (some n) (b :: bs) p' :: hs) (cCla yes no (some i) blk rest)
section
variable {C : DX}
/-- the reading of a suite -/
def rdS (X : Cx) (body : List Stmt) : Addr → Value → Option Addr → TS := fun a cls d E σ H => ∀ oe pn, Zc cls d oe → (∃ fv, oe.data = .fields fv) → WPSs (X.suite a ((a, oe) :: pn)) body E σ H
theorem rdS_ok {X : Cx} {body : List Stmt} : SuiteOk X body (rdS X body) := fun a oe cls d pn hz hf => ⟨fun pins s σ H E I w => w oe pn hz hf pins s I⟩
/-- one clause, met -/
theorem cla_run {g : G} {ρ : DEnv} {E : Ends} (hb : C.B.le g) {yes no : List Str} {o : Option Nat} {blk : Exn → Nat → DEnv → Py Fl} {rest : Exn → DEnv → Py Fl} {x : Str} {body : List Stmt} {l : List Cla} (gw : g.w = C.X.w)
    (hy : ∀ y ∈ yes, PySem.W.exmOne C.X.K (.ref (He.ga C.X.K y)) (.ref (He.ga C.X.K x)) = some true) (hn : ∀ y ∈ no, PySem.W.exmOne C.X.K (.ref (He.ga C.X.K y)) (.ref (He.ga C.X.K x)) = some false) (su : DSuite C yes body blk)
    {e : Exn} {M' : Store} {g' : G} {σ' : St} {H' : Hp} {cls : Value} {d : Option Addr} (L : g.le g') (R : RelH C.X.K g' M' H') (r : RelE C.X.K g' σ' ρ) (xr : ExnRep C.X.K g' cls d e) (p : Post (cCla yes no o blk rest e ρ M') (QS C g E) (C.We ρ))
    (next : Post (rest e ρ M') (QS C g E) (C.We ρ) → wCla C.X.K C.WD E l cls d σ' H') : wCla C.X.K C.WD E ((.ref (He.ga C.X.K x), o, rdS C.X body) :: l) cls d σ' H' := by
  have ec : cls = .ref (He.ga C.X.K e.cls) := xr.1
  subst ec
  unfold cCla at p
  by_cases h1 : e.cls ∈ yes
  · rw [if_pos h1] at p
    refine ⟨true, hy _ h1, ?_⟩
    rw [if_pos rfl]
    intro a na oe pn hz hf
    have L2 : g'.le (g'.more a) := G.le_more
    have io : (g'.more a).io[M'.length]? = some a := by
      show (g'.io ++ [a])[M'.length]? = some a
      rw [← R.len, List.getElem?_concat_length]
    have R2 := R.dead a
    have gw2 : (g'.more a).w = C.X.w := (L.trans L2).w.trans gw
    have E2 : RelE C.X.K (g'.more a) (bindE o a σ') (bindD o M'.length ρ) := by
      cases o with
      | none => exact r.mono L2
      | some i => exact (r.mono L2).set i (.loc io)
    have ran := su e M'.length (g'.more a) a oe d pn h1 hz hf io (xr.mono L2) gw2
    refine ran.run (goneE o E) ⟨G.le_w gw2, R2, E2⟩ ((noX_post (post_bnd.mp p)).imp fun fl M3 q => ?_)
    have q' : QS C g E (goneF o fl) M3 := q
    have LL := L.trans L2
    cases o with
    | none =>
      cases fl with
      | nx ρ3 => exact fun σ3 H3 g3 l3 R3 => q' σ3 H3 g3 (LL.trans l3) ⟨hb.trans (LL.trans l3), R3.h, R3.e⟩
      | bk ρ3 => exact fun σ3 H3 g3 l3 R3 => q' σ3 H3 g3 (LL.trans l3) ⟨hb.trans (LL.trans l3), R3.h, R3.e⟩
      | ct ρ3 => exact fun σ3 H3 g3 l3 R3 => q' σ3 H3 g3 (LL.trans l3) ⟨hb.trans (LL.trans l3), R3.h, R3.e⟩
      | rt v => exact fun v3 H3 g3 l3 b3 R3 r3 => q' v3 H3 g3 (LL.trans l3) (hb.trans (LL.trans l3)) R3 r3
    | some i =>
      cases fl with
      | nx ρ3 => exact fun σ3 H3 g3 l3 R3 => q' (σ3.set i none) H3 g3 (LL.trans l3) ⟨hb.trans (LL.trans l3), R3.h, R3.e.unset i⟩
      | bk ρ3 => exact fun σ3 H3 g3 l3 R3 => q' (σ3.set i none) H3 g3 (LL.trans l3) ⟨hb.trans (LL.trans l3), R3.h, R3.e.unset i⟩
      | ct ρ3 => exact fun σ3 H3 g3 l3 R3 => q' (σ3.set i none) H3 g3 (LL.trans l3) ⟨hb.trans (LL.trans l3), R3.h, R3.e.unset i⟩
      | rt v => exact fun v3 H3 g3 l3 b3 R3 r3 => q' v3 H3 g3 (LL.trans l3) (hb.trans (LL.trans l3)) R3 r3
  · rw [if_neg h1] at p
    by_cases h2 : e.cls ∈ no
    · rw [if_pos h2] at p
      exact ⟨false, hn _ h2, by rw [if_neg Bool.false_ne_true]; exact next p⟩
    · rw [if_neg h2] at p; exact p.elim
theorem dcla_run {g : G} {ρ : DEnv} {E : Ends} (hb : C.B.le g) (gw : g.w = C.X.w) {hds : List ExceptHandler} {h : Exn → DEnv → Py Fl} (k : DCla C hds h) : ∃ l, ClaOk C.X hds l ∧
    ∀ {e : Exn} {M' : Store} {g' : G} {σ' : St} {H' : Hp} {cls : Value} {d : Option Addr}, g.le g' → RelH C.X.K g' M' H' → RelE C.X.K g' σ' ρ → ExnRep C.X.K g' cls d e → Post (h e ρ M') (QS C g E) (C.We ρ) → wCla C.X.K C.WD E l cls d σ' H' := by
  induction k with
  | nil => exact ⟨[], .nil, fun L R r x p => ⟨_, ρ, _, _, hb.trans L, R, r, x, p⟩⟩
  | bare nm hy hn su _ ih =>
    obtain ⟨l, ok, go⟩ := ih
    exact ⟨_, .bare nm rdS_ok ok, fun L R r x p => cla_run hb gw hy hn su L R r x p fun p2 => go L R r x p2⟩
  | named nm hi hl hy hn su _ ih =>
    obtain ⟨l, ok, go⟩ := ih
    exact ⟨_, .named nm hi hl rdS_ok ok, fun L R r x p => cla_run hb gw hy hn su L R r x p fun p2 => go L R r x p2⟩
/-- try: one statement, its clauses -/
theorem ds_try {st : Stmt} {h₀ : ExceptHandler} {hds : List ExceptHandler} {pos : Pos} {f : DEnv → Py Fl} {h : Exn → DEnv → Py Fl} (hN : C.X.N.Nodup) (hs : C.X.stack = C.X.env :: C.X.outer) (hf : C.X.env.frame = some C.X.env.locals) (tk : TkW C)
    (hb : ∀ (pn : List (Addr × Obj)) (xe : Value → Shared → Prop) (B : G) (W : Exn → DEnv → Store → Prop) (pw : B.w = C.X.w), TkW ⟨C.X.tr pn xe, B, W, pw⟩ → PassesOwn (model C.X.prog C.X.w) C.X.A C.X.env xe → DS ⟨C.X.tr pn xe, B, W, pw⟩ st f) (hh : DCla C (h₀ :: hds) h) :
    DS C (.Try [st] (h₀ :: hds) [] [] pos) (sTry f h) := ⟨fun {g ρ M σ H} E R p => by
  obtain ⟨l, ok, go⟩ := dcla_run (ρ := ρ) (E := E) R.b R.w hh
  refine wps (ps_tryC (tb := fun W E σ H => ∀ pn xe, Takes (C.X.tr pn xe) W → PassesOwn (model C.X.prog C.X.w) C.X.A C.X.env xe → WPSs (C.X.tr pn xe) [st] E σ H) hN hs hf tk (fun W pn xe t q => ⟨fun pins s σ H E I w => w pn xe t q pins s I⟩) ok) ?_
  intro pn xe t q
  have t' : TkW ⟨C.X.tr pn xe, g, fun e ρ' M' => ρ' = ρ ∧ Post (h e ρ M') (QS C g E) (C.We ρ), R.w⟩ := Takes.imp t fun c d σ' H' ⟨e, ρ', M', g', L, R', r', x', er, w⟩ => by
    subst er
    exact go L R' r' x' w
  have ran := hb pn xe g _ R.w t' q
  refine (dss_one ran).run E ⟨G.le.refl g, R.h, R.e⟩ ((sTry_post.mp p).mono (fun fl M' z => ?_) fun e M' z => ⟨rfl, z⟩)
  cases fl with
  | nx ρ3 => exact fun σ3 H3 g3 l3 R3 => z σ3 H3 g3 l3 ⟨R.b.trans l3, R3.h, R3.e⟩
  | bk ρ3 => exact fun σ3 H3 g3 l3 R3 => z σ3 H3 g3 l3 ⟨R.b.trans l3, R3.h, R3.e⟩
  | ct ρ3 => exact fun σ3 H3 g3 l3 R3 => z σ3 H3 g3 l3 ⟨R.b.trans l3, R3.h, R3.e⟩
  | rt v => exact fun v3 H3 g3 l3 b3 R3 r3 => z v3 H3 g3 l3 (R.b.trans l3) R3 r3⟩
end
end L3
set_option Elab.async false
set_option linter.all false
set_option maxRecDepth 100000
set_option maxHeartbeats 4000000
set_option autoImplicit false
/-! in an except suite: isinstance(e, C), e.f of the exception that is held -/
namespace L3
open PySem PySem.Spec L2
open PyProof.Rows hiding St
section
variable {X : Cx} {a D : Addr} {oe : Obj} {d : Option Addr} {pn : List (Addr × Obj)}
def rIsX (K : PySem.W.Frag) (D a : Addr) (d : Option Addr) : List V → Hp → VK → Prop := fun xs H Q => ∃ (c : V) (cv : Value) (b : Bool), xs = [.ref a, c] ∧ (∀ u, RelV c u → u = cv) ∧ PySem.W.kitOne K (.ref D) cv = some b ∧
  (match d with | none => True | some dd => ∃ fs, H dd = some (.xd fs)) ∧ Q (.bl b) H
theorem call_isX (E : ExcC X.K D) (hz : Zc (.ref D) d oe) (hf : ∃ fv, oe.data = .fields fv) : CallR (X.suite a ((a, oe) :: pn)) (.builtin "isinstance") (rIsX X.K D a d) := by
  intro pins s σ H xs us Q I r ⟨c, cv, b, ex, hcv, e, hd, q⟩
  subst ex
  cases r with
  | cons rx rr =>
    cases rr with
    | cons rt rr =>
      cases rr
      cases rx
      have ec := hcv _ rt
      subst ec
      obtain ⟨got, _⟩ := I.pin (a, oe) (List.mem_append.mpr (.inl List.mem_cons_self))
      obtain ⟨fv, hv⟩ := hf
      obtain ⟨oc, od, oda, osl⟩ := oe
      obtain ⟨h1, h2⟩ := hz
      dsimp only at h1 h2 hv
      subst h1 h2 hv
      obtain ⟨od', J⟩ : ∃ od', PySem.W.InstAt s.heap a ⟨.ref D, od, .fields fv, osl⟩ D od' := by
        cases od with
        | none => exact ⟨none, got, rfl, rfl, trivial⟩
        | some dd =>
          obtain ⟨fs, hH⟩ := hd
          obtain ⟨mA, ⟨o, _, _, ho, _⟩, _⟩ := (show ObjOk X.prog X.w H s.heap dd (.xd fs) from I.hok _ _ hH)
          exact ⟨some o, got, rfl, rfl, ho⟩
      obtain ⟨cd, hc, _⟩ := PySem.W.any_some E.hd
      exact PySem.W.kia_one (PySem.W.kitx_exc (od := od') (by rw [hc]; rfl) E.hg E.hk E.hs E.ha E.hn E.ht E.hm) I.kIn J e (fun z => nomatch z) fun tk => ⟨.bl b, H, I.kept (t' := tk) fun _ _ z => z, rfl, q⟩
end
/-- it is the exception that is held -/
def isHeld (n : Nat) : D → Bool
  | .loc m => decide (m = n)
  | _ => false
theorem isHeld_rep {K : PySem.W.Frag} {g : G} {v : V} {d : D} {n : Nat} {a : Addr} (r : Rep K g v d) (h : isHeld n d = true) (io : g.io[n]? = some a) : v = .ref a := by
  cases r with
  | @loc m b e1 =>
    have e : m = n := of_decide_eq_true h
    subst e
    rw [io] at e1; cases e1; rfl
  | _ => cases h
/-- isinstance(e, ..) of the held one -/
def eExIs (n : Nat) (b : Bool) (fe : DEnv → Py D) : DEnv → Py D := fun ρ => Py.bnd (fe ρ) fun d => Py.chk (isHeld n d = true) (Py.ret (.bl b))
/-- e.f of the held one -/
def eExF (n : Nat) (e : Exn) (f : Str) (fe : DEnv → Py D) : DEnv → Py D := fun ρ => Py.bnd (fe ρ) fun d => Py.chk (isHeld n d = true) (match e.fs.lookup f with
  | some v => Py.ret v
  | none => Py.bad)
section
variable {C : DX} {e : Exn} {n : Nat} {B : G} {a : Addr} {oe : Obj} {d : Option Addr} {pn : List (Addr × Obj)}
/-- what the suite rests on -/
structure Held (C : DX) (e : Exn) (n : Nat) (B : G) (a : Addr) (oe : Obj) (d : Option Addr) : Prop where
  z : Zc (.ref (He.ga C.X.K e.cls)) d oe
  f : ∃ fv, oe.data = .fields fv
  io : B.io[n]? = some a
  x : ExnRep C.X.K B (.ref (He.ga C.X.K e.cls)) d e
  w : B.w = C.X.w
theorem Held.at_ {g : G} {ρ : DEnv} {M : Store} {σ : St} {H : Hp} (h : Held C e n B a oe d) (R : Rl (C.suite B a ((a, oe) :: pn)) g ρ M σ H) : g.io[n]? = some a ∧ ExnRep C.X.K g (.ref (He.ga C.X.K e.cls)) d e := by
  have L0 : ({ B with w := C.X.w } : G).le g := R.b
  have L : B.le g := ⟨L0.io, L0.F, L0.P, L0.w.trans h.w.symm⟩
  obtain ⟨r, er⟩ := L.io
  refine ⟨?_, h.x.mono L⟩
  rw [er, List.getElem?_append_left (List.getElem?_eq_some_iff.mp h.io).1]; exact h.io
variable {fe : DEnv → Py D} {a1 : Expr} {x y : Str} {p p2 pos : Pos}
/-- isinstance(e, y): a class of the program -/
theorem de_exIsC {b : Bool} (h : Held C e n B a oe d) (E : ExcC C.X.K (He.ga C.X.K e.cls)) (k : PySem.W.kitOne C.X.K (.ref (He.ga C.X.K e.cls)) (.ref (He.ga C.X.K y)) = some b) (gm : C.X.mg y = some (.ref (He.ga C.X.K y))) (hm : C.X.mg "isinstance" = none)
    (ha : DE (C.suite B a ((a, oe) :: pn)) a1 fe) (hgx : Gl C.X y := by rfl) (hg : Gl C.X "isinstance" := by rfl) (hdx : (y == ("__debug__" : Str)) = false := by decide)
    (hs : starEach [a1, .Name y p2] C.X.env = (false, eval a1 C.X.env) :: starEach [.Name y p2] C.X.env := by rfl) (hs2 : starEach [.Name y p2] C.X.env = [(false, eval (.Name y p2) C.X.env)] := by rfl) (hpl : (backTo pos (starEach [.Name y p2] C.X.env)).any (·.1) = false := by rfl) :
    DE (C.suite B a ((a, oe) :: pn)) (.Call (.Name "isinstance" p) [a1, .Name y p2] [] pos) (eExIs n b fe) := ⟨fun {g ρ M σ H} Q R pr => by
  refine wpe (pe_callB (call_isX E h.z h.f) hg hm boot_isinstance (pa_cons self_e (pa_cons (pe_glob (X := C.X.suite a ((a, oe) :: pn)) (v := .ref (He.ga C.X.K y)) hgx gm rfl hdx) pa_nil hs2) hs) (by decide) (by decide) hs hpl) (ha.then_ R pr fun v dv M1 H1 g1 l1 R1 r1 p1 => ?_)
  obtain ⟨hh, q⟩ := post_chk.mp p1
  obtain ⟨io, xr⟩ := h.at_ R1
  have ev := isHeld_rep r1 hh io
  subst ev
  refine ⟨.ref (He.ga C.X.K y), .ref (He.ga C.X.K y), b, rfl, fun u r => r, k, ?_, QV.here (QV.later (g' := g1) q l1) R1 (.bl _)⟩
  have x2 := xr.2
  cases d with
  | none => exact trivial
  | some dd => obtain ⟨vs, q1, _⟩ := x2; exact ⟨vs, R1.h.frz _ _ q1⟩⟩
/-- isinstance(e, ..): a class of the language -/
theorem de_exIsT {b : Bool} {t : String} (h : Held C e n B a oe d) (E : ExcC C.X.K (He.ga C.X.K e.cls)) (k : PySem.W.kitOne C.X.K (.ref (He.ga C.X.K e.cls)) (.type t) = some b) (hm : C.X.mg "isinstance" = none) (gm : C.X.mg y = none) (hb : bootBuiltins y = some (.type t))
    (ha : DE (C.suite B a ((a, oe) :: pn)) a1 fe) (hgx : Gl C.X y := by rfl) (hg : Gl C.X "isinstance" := by rfl) (hdx : (y == ("__debug__" : Str)) = false := by decide) (hnx : y ≠ "__name__" := by decide)
    (hs : starEach [a1, .Name y p2] C.X.env = (false, eval a1 C.X.env) :: starEach [.Name y p2] C.X.env := by rfl) (hs2 : starEach [.Name y p2] C.X.env = [(false, eval (.Name y p2) C.X.env)] := by rfl) (hpl : (backTo pos (starEach [.Name y p2] C.X.env)).any (·.1) = false := by rfl) :
    DE (C.suite B a ((a, oe) :: pn)) (.Call (.Name "isinstance" p) [a1, .Name y p2] [] pos) (eExIs n b fe) := ⟨fun {g ρ M σ H} Q R pr => by
  refine wpe (pe_callB (call_isX E h.z h.f) hg hm boot_isinstance (pa_cons self_e (pa_cons (pe_bltn (X := C.X.suite a ((a, oe) :: pn)) (v := .ty t) hgx gm hb rfl hnx hdx) pa_nil hs2) hs) (by decide) (by decide) hs hpl) (ha.then_ R pr fun v dv M1 H1 g1 l1 R1 r1 p1 => ?_)
  obtain ⟨hh, q⟩ := post_chk.mp p1
  obtain ⟨io, xr⟩ := h.at_ R1
  have ev := isHeld_rep r1 hh io
  subst ev
  refine ⟨.ty t, .type t, b, rfl, fun u r => r, k, ?_, QV.here (QV.later (g' := g1) q l1) R1 (.bl _)⟩
  have x2 := xr.2
  cases d with
  | none => exact trivial
  | some dd => obtain ⟨vs, q1, _⟩ := x2; exact ⟨vs, R1.h.frz _ _ q1⟩⟩
/-- e.f -/
theorem de_exF {f : Str} (h : Held C e n B a oe d) (T : XfC C.X.K (He.ga C.X.K e.cls)) (no : PySem.W.findIn C.X.K (.ref (He.ga C.X.K e.cls)) f = some none) (ha : DE (C.suite B a ((a, oe) :: pn)) a1 fe) (hb : attributeBase a1 f C.X.env (eval a1 C.X.env) = eval a1 C.X.env := by rfl) :
    DE (C.suite B a ((a, oe) :: pn)) (.Attribute a1 f pos) (eExF n e f fe) := ⟨fun {g ρ M σ H} Q R pr => by
  refine wpe (pe_xf T no h.z h.f self_e hb) (ha.then_ R pr fun v dv M1 H1 g1 l1 R1 r1 p1 => ?_)
  obtain ⟨hh, q⟩ := post_chk.mp p1
  obtain ⟨io, xr⟩ := h.at_ R1
  have ev := isHeld_rep r1 hh io
  subst ev
  have x2 := xr.2
  cases hl : e.fs.lookup f with
  | none => rw [hl] at q; exact q.elim
  | some w =>
    rw [hl] at q
    cases d with
    | none =>
      have e0 : e.fs = [] := x2
      rw [e0] at hl; cases hl
    | some dd =>
      obtain ⟨vs, q1, q2, q3⟩ := x2
      have ro := KQ.lookup (f := f) (KQ.of q2 q3)
      rw [hl] at ro
      cases hv : vs.lookup f with
      | none => rw [hv] at ro; exact ro.elim
      | some u =>
        rw [hv] at ro
        exact ⟨rfl, rfl, dd, vs, u, rfl, R1.h.frz _ _ q1, hv, QV.here (QV.later (g' := g1) q l1) R1 ro⟩⟩
end
end L3
set_option Elab.async false
set_option linter.all false
set_option maxRecDepth 100000
set_option maxHeartbeats 4000000
set_option autoImplicit false
/-! facts of classes, found by looking; a promise of nothing -/
namespace L3
open PySem PySem.Spec L2
open PyProof.Rows hiding St
theorem fn_bad {P : Program} {w : World} {K : PySem.W.Frag} {mg : Str → Option Value} {base : Heap} {CX : CXT} {k n : Nat} {f : Addr} {fd : FuncData} {ps : List Str} (hn : ps.length = n) : FnG P w K mg base CX k f fd ps (spD K w n fun _ => Py.bad) :=
  ⟨fun xs H Q E h => h.1.trans hn.symm, fun A out s H args us xs Q E _ _ _ _ h => by
    obtain ⟨_, g, M, ds, _, _, _, p⟩ := h
    exact p.elim⟩
section
variable {K : PySem.W.Frag} {ys : List Str} {y : Str}
theorem allOf {f : Str → Bool} (h : ys.all f = true) (hy : y ∈ ys) : f y = true := List.all_eq_true.mp h y hy
def exmB (ys : List Str) (x : Str) (b : Bool) : XF := fun K => ys.all fun y => decide (PySem.W.exmOne K (.ref (He.ga K y)) (.ref (He.ga K x)) = some b)
theorem exmB_ok {x : Str} {b : Bool} (h : exmB ys x b K = true) : ∀ y ∈ ys, PySem.W.exmOne K (.ref (He.ga K y)) (.ref (He.ga K x)) = some b := fun _ hy => of_decide_eq_true (allOf h hy)
def kitB (ys : List Str) (x : Str) (subs : List Str) : XF := fun K => ys.all fun y => decide (PySem.W.kitOne K (.ref (He.ga K y)) (.ref (He.ga K x)) = some (decide (y ∈ subs)))
theorem kitB_ok {x : Str} {subs : List Str} (h : kitB ys x subs K = true) (hy : y ∈ ys) : PySem.W.kitOne K (.ref (He.ga K y)) (.ref (He.ga K x)) = some (decide (y ∈ subs)) := of_decide_eq_true (allOf h hy)
def kitT (ys : List Str) (t : String) : XF := fun K => ys.all fun y => decide (PySem.W.kitOne K (.ref (He.ga K y)) (.type t) = some true)
theorem kitT_ok {t : String} (h : kitT ys t K = true) (hy : y ∈ ys) : PySem.W.kitOne K (.ref (He.ga K y)) (.type t) = some true := of_decide_eq_true (allOf h hy)
def excA (ys : List Str) : XF := fun K => ys.all fun y => He.eqO (PySem.W.findIn K (.ref (He.ga K y)) "__getattribute__") (some (some (.builtin "BaseException.__getattribute__"))) && (He.eqO (PySem.W.findIn K (.ref (He.ga K y)) "__getattr__") (some none) &&
  (decide (PySem.W.subIn K (.ref (He.ga K y)) (.type "BaseException") = some true) && (PySem.W.hasDictIn K (He.ga K y) && (He.eqO (PySem.W.findIn K (.ref (He.ga K y)) "__class__") (some (some (.builtin "object.__class__"))) &&
  (He.eqO (PySem.W.specialIn K (.builtin "object.__class__") "__get__") (some (some (.builtin "getset_descriptor.__get__"))) && (decide (PySem.W.takesIn K (.builtin "object.__class__") = some true) && decide (PySem.W.mroIn K (He.ga K y) (.type "object") = some true)))))))
theorem excA_ok (h : excA ys K = true) (hy : y ∈ ys) : ExcC K (He.ga K y) := by
  obtain ⟨h1, h⟩ := He.ba (allOf h hy)
  obtain ⟨h2, h⟩ := He.ba h
  obtain ⟨h3, h⟩ := He.ba h
  obtain ⟨h4, h⟩ := He.ba h
  obtain ⟨h5, h⟩ := He.ba h
  obtain ⟨h6, h⟩ := He.ba h
  obtain ⟨h7, h8⟩ := He.ba h
  exact ⟨He.eqO_ok h1, He.eqO_ok h2, of_decide_eq_true h3, h4, He.eqO_ok h5, He.eqO_ok h6, of_decide_eq_true h7, of_decide_eq_true h8⟩
def xfA (ys : List Str) : XF := fun K => ys.all fun y => xfB K (He.ga K y)
theorem xfA_ok (h : xfA ys K = true) (hy : y ∈ ys) : XfC K (He.ga K y) := xfB_ok (allOf h hy)
def noA (ys : List Str) (f : Str) : XF := fun K => ys.all fun y => He.eqO (PySem.W.findIn K (.ref (He.ga K y)) f) (some none)
theorem noA_ok {f : Str} (h : noA ys f K = true) (hy : y ∈ ys) : PySem.W.findIn K (.ref (He.ga K y)) f = some none := He.eqO_ok (allOf h hy)
end
theorem suite_even {C : DX} {B : G} {a : Addr} {pn : List (Addr × Obj)} : (C.suite B a pn).Even := fun _ _ _ _ z => z
end L3
set_option Elab.async false
set_option linter.all false
set_option maxRecDepth 100000
set_option maxHeartbeats 4000000
set_option autoImplicit false
/-! words and numbers in texts: joins and splits there and back -/
namespace L3
open PySem PySem.Spec L2 PySem.NumText
open PyProof.Rows hiding St
theorem str_ext {a b : Str} (h : a.cps.toList = b.cps.toList) : a = b := Str.ext' (Array.toList_inj.mp h)
theorem str_app (a b : Str) : (a ++ b).cps.toList = a.cps.toList ++ b.cps.toList := PySem.W.KT.app_list a b
theorem str_len (a : Str) : a.cps.toList.length = a.length := Array.length_toList
theorem txt_join (a : Str) (xs : List Str) : Txt.join a xs = Str.join a xs := StrLaws.glued_eq_join a xs
theorem join_cons (s a b : Str) (r : List Str) : (Str.join s (a :: b :: r)).cps.toList = a.cps.toList ++ s.cps.toList ++ (Str.join s (b :: r)).cps.toList := by
  show (a ++ s ++ Str.join s (b :: r)).cps.toList = _
  rw [str_app, str_app]
theorem cut_first {c : Nat} : ∀ {xs ys r s : List Nat}, c ∉ xs → c ∉ ys → xs ++ c :: r = ys ++ c :: s → xs = ys ∧ r = s
  | [], [], r, s, _, _, h => ⟨rfl, (List.cons.inj h).2⟩
  | [], y :: ys, r, s, _, hy, h => by
    rw [List.nil_append, List.cons_append] at h
    exact (hy ((List.cons.inj h).1 ▸ List.mem_cons_self ..)).elim
  | x :: xs, [], r, s, hx, _, h => by
    rw [List.nil_append, List.cons_append] at h
    exact (hx ((List.cons.inj h).1 ▸ List.mem_cons_self ..)).elim
  | x :: xs, y :: ys, r, s, hx, hy, h => by
    rw [List.cons_append, List.cons_append] at h
    obtain ⟨h1, h2⟩ := List.cons.inj h
    obtain ⟨h3, h4⟩ := cut_first (fun m => hx (List.mem_cons_of_mem _ m)) (fun m => hy (List.mem_cons_of_mem _ m)) h2
    exact ⟨by rw [h1, h3], h4⟩
theorem join_inj {c : Nat} : ∀ {a b : List Str}, a ≠ [] → b ≠ [] → (∀ p ∈ a, c ∉ p.cps.toList) → (∀ p ∈ b, c ∉ p.cps.toList) → Str.join ⟨#[c]⟩ a = Str.join ⟨#[c]⟩ b → a = b
  | [], _, h, _, _, _, _ => (h rfl).elim
  | _, [], _, h, _, _, _ => (h rfl).elim
  | [x], [y], _, _, _, _, e => congrArg (· :: []) (show x = y from e)
  | [x], y :: z :: r, _, _, hx, _, e => by
    have e2 : (Str.join ⟨#[c]⟩ [x]).cps.toList = (Str.join ⟨#[c]⟩ (y :: z :: r)).cps.toList := congrArg (fun s : Str => s.cps.toList) e
    rw [join_cons] at e2
    refine (hx x (List.mem_singleton_self x) ?_).elim
    show c ∈ (Str.join ⟨#[c]⟩ [x]).cps.toList
    rw [e2]; simp
  | x :: z :: r, [y], _, _, _, hy, e => by
    have e2 : (Str.join ⟨#[c]⟩ (x :: z :: r)).cps.toList = (Str.join ⟨#[c]⟩ [y]).cps.toList := congrArg (fun s : Str => s.cps.toList) e
    rw [join_cons] at e2
    refine (hy y (List.mem_singleton_self y) ?_).elim
    show c ∈ (Str.join ⟨#[c]⟩ [y]).cps.toList
    rw [← e2]; simp
  | x :: z :: r, y :: w :: s, _, _, hx, hy, e => by
    have e2 : (Str.join ⟨#[c]⟩ (x :: z :: r)).cps.toList = (Str.join ⟨#[c]⟩ (y :: w :: s)).cps.toList := congrArg (fun s : Str => s.cps.toList) e
    rw [join_cons, join_cons, List.append_assoc, List.append_assoc] at e2
    obtain ⟨h1, h2⟩ := cut_first (hx x (List.mem_cons_self ..)) (hy y (List.mem_cons_self ..)) (show x.cps.toList ++ c :: _ = y.cps.toList ++ c :: _ from e2)
    rw [str_ext h1, join_inj (a := z :: r) (b := w :: s) (by simp) (by simp) (fun p hp => hx p (List.mem_cons_of_mem _ hp)) (fun p hp => hy p (List.mem_cons_of_mem _ hp)) (str_ext h2)]
theorem split_ne (x : Str) (c : Nat) : Txt.split x ⟨#[c]⟩ ≠ [] := by
  intro e
  have := PyProof.Rows.split_pos x ⟨#[c]⟩
  rw [e] at this
  exact absurd this (by decide)
/-- what is joined splits there -/
theorem split_join {c : Nat} {a : List Str} (ne : a ≠ []) (h : ∀ p ∈ a, c ∉ p.cps.toList) : Txt.split (Str.join ⟨#[c]⟩ a) ⟨#[c]⟩ = a :=
  join_inj (split_ne _ c) ne (StrLaws.split_free _ c) h (StrLaws.join_split _ _)
/-- the text of a number -/
def numT (n : Int) : Str := Str.ofString (toString n)
theorem numT_cps (m : Nat) : (numT m).cps.toList = (Nat.toDigits 10 m).map Char.toNat := PySem.W.KIN.signs_num m
theorem numT_dig {n : Int} (h0 : 0 ≤ n) : AllDigits (numT n).cps.toList := by
  obtain ⟨m, rfl⟩ := Int.eq_ofNat_of_zero_le h0
  intro c hc
  rw [numT_cps] at hc
  obtain ⟨ch, hch, e⟩ := List.mem_map.mp hc
  have r := digit_range (Nat.isDigit_of_mem_toDigits (by decide) (by decide) hch)
  rw [← e]
  exact r
theorem numT_pos {n : Int} (h0 : 0 ≤ n) : 1 ≤ (numT n).length := PySem.W.KLn.one_le h0
theorem numT_le {n : Int} {k : Nat} (h0 : 0 ≤ n) (hk : 0 < k) (h : n < 10 ^ k) : (numT n).length ≤ k := PyProof.Rows.toString_length_le h0 hk h
theorem numT_reads {n : Int} (h0 : 0 ≤ n) (h1 : n < 10 ^ 10) : PySem.intText? (numT n) = some n := PySem.W.KIN.num_reads h0 h1
theorem numT_inj {a b : Int} (a0 : 0 ≤ a) (a1 : a < 10 ^ 10) (b0 : 0 ≤ b) (b1 : b < 10 ^ 10) (e : numT a = numT b) : a = b := by
  have h1 := numT_reads a0 a1
  rw [e, numT_reads b0 b1] at h1
  exact (Option.some.inj h1).symm
theorem dig_head (m : Nat) (h : 1 ≤ m) : ∃ c r, Nat.toDigits 10 m = c :: r ∧ c ≠ '0' := by
  induction m using Nat.strongRecOn with
  | _ m ih =>
    by_cases hm : m < 10
    · rw [Nat.toDigits_of_lt_base hm]
      refine ⟨_, _, rfl, ?_⟩
      have : ∀ k, k < 10 → 1 ≤ k → Nat.digitChar k ≠ '0' := by decide
      exact this m hm h
    · obtain ⟨c, r, e, hc⟩ := ih (m / 10) (by omega) (by omega)
      have t : Nat.toDigits 10 (m / 10) ++ Nat.toDigits 10 (m % 10) = Nat.toDigits 10 (10 * (m / 10) + m % 10) := Nat.toDigits_append_toDigits (by decide) (by omega) (by omega)
      rw [Nat.div_add_mod, e] at t
      exact ⟨c, _, t.symm, hc⟩
theorem numT_zero : numT 0 = ⟨#[48]⟩ := by decide
/-- no needless nought ahead -/
theorem numT_lead {n : Int} (h0 : 0 < n) : ∃ c r, (numT n).cps.toList = c :: r ∧ c ≠ 48 := by
  obtain ⟨m, rfl⟩ := Int.eq_ofNat_of_zero_le (Int.le_of_lt h0)
  obtain ⟨c, r, e, hc⟩ := dig_head m (by omega)
  rw [numT_cps, e]
  refine ⟨c.toNat, _, rfl, fun h => hc ?_⟩
  exact Char.ext (UInt32.toNat_inj.mp h)
/-- the figures of a text -/
def isFig (c : Nat) : Bool := decide (48 ≤ c) && decide (c ≤ 57)
def figW (w : Str) : Bool := (decide (1 ≤ w.length) && decide (w.length ≤ 9)) && w.cps.toList.all isFig && (decide (w = ⟨#[48]⟩) || decide (w.cps.toList.head? ≠ some 48))
/-- the number that a word tells, or none -/
def figO (w : Str) : Option Int := if figW w then some (digitsVal w.cps.toList) else none
def optI : Option Int → D
  | some n => .int n
  | none => .non
theorem figO_num {n : Int} (h0 : 0 ≤ n) (h1 : n < 10 ^ 9) : figO (numT n) = some n := by
  have hw : figW (numT n) = true := by
    unfold figW
    have d := numT_dig h0
    have hall : (numT n).cps.toList.all isFig = true := by
      rw [List.all_eq_true]; intro c hc; have := d c hc; unfold isFig; simp; exact this
    have l1 := numT_pos h0
    have l2 := numT_le h0 (k := 9) (by decide) h1
    rw [hall]
    simp only [l1, l2, decide_true, Bool.true_and, Bool.or_eq_true, decide_eq_true_eq]
    by_cases hz : n = 0
    · subst hz; exact .inl numT_zero
    · obtain ⟨c, r, e, hc⟩ := numT_lead (n := n) (by omega)
      rw [e]; right; simpa using hc
  unfold figO
  rw [if_pos hw]
  obtain ⟨m, rfl⟩ := Int.eq_ofNat_of_zero_le h0
  rw [numT_cps, PySem.W.KIN.val_back]
theorem figO_reads {w : Str} {n : Int} (h : figO w = some n) : PySem.intText? w = some n := by
  unfold figO at h
  split at h
  · rename_i hw
    unfold figW at hw
    simp only [Bool.and_eq_true, decide_eq_true_eq, List.all_eq_true] at hw
    obtain ⟨⟨⟨h1, h2⟩, h3⟩, _⟩ := hw
    rw [← Option.some.inj h]
    refine intText_digits (fun c hc => ?_) (fun e => ?_) (by omega)
    · have := h3 c hc; unfold isFig at this; simpa using this
    · rw [← str_len, e] at h1; exact absurd h1 (by decide)
  · cases h
@[simp] theorem p_ix_str {z : Str} {i : Int} {M : Store} {Q : D → Store → Prop} {E : Exn → Store → Prop} : Post (ixD (.str z) (.int i) M) Q E ↔ z.length ≤ sizeLine ∧ ∃ c, atI z.cps.toList i = some c ∧ Q (.str ⟨#[c]⟩) M := by
  refine post_chk.trans (and_congr_right fun _ => ?_)
  cases h : atI z.cps.toList i with
  | none => exact ⟨fun p => p.elim, fun ⟨c, e, _⟩ => by cases e⟩
  | some c => exact ⟨fun p => ⟨c, rfl, p⟩, fun ⟨d, e, q⟩ => by cases e; exact q⟩
@[simp] theorem p_wkA_str {z : Str} {M : Store} {Q : Wk → Store → Prop} {E : Exn → Store → Prop} : Post (wkA (.str z) M) Q E ↔ Q ⟨chars z, fun _ => True⟩ M := Iff.rfl
@[simp] theorem p_split {fr : List D → Py D} {a b : Str} {M : Store} {Q : D → Store → Prop} {E : Exn → Store → Prop} : Post (splitD fr (.str a) [.str b] M) Q E ↔ ((b.length == 0) = false ∧ a.length + 2 ≤ sizeLine) ∧ Post (fr ((Txt.split a b).map D.str) M) Q E := post_chk
@[simp] theorem p_join_lst {a : Str} {xs : List D} {M : Store} {Q : D → Store → Prop} {E : Exn → Store → Prop} : Post (joinD (.str a) [.lst xs] M) Q E ↔ SomeP (strsOf xs) fun ys => (ys.map (·.length)).sum + ys.length * a.length ≤ 16777216 ∧ Q (.str (Str.join a ys)) M := by
  show Post (Py.bnd (items (.lst xs)) (fun ds => joinK a (strsOf ds)) M) Q E ↔ _
  rw [post_bnd, p_items_lst]
  unfold joinK
  cases h : strsOf xs with
  | none => exact Iff.rfl
  | some ys => exact post_chk.trans (by rw [txt_join]; exact Iff.rfl)
@[simp] theorem strsOf_map (ys : List Str) : strsOf (ys.map D.str) = some ys := by
  induction ys with
  | nil => rfl
  | cons y ys ih => rw [List.map_cons, strsOf_cons, ih]; rfl
@[simp] theorem p_strU_int {i : Int} {M : Store} {Q : D → Store → Prop} {E : Exn → Store → Prop} : Post (strU (.int i) M) Q E ↔ i.natAbs.log2 < 1920 ∧ Q (.str (numT i)) M := post_chk
@[simp] theorem p_strU_str {z : Str} {M : Store} {Q : D → Store → Prop} {E : Exn → Store → Prop} : Post (strU (.str z) M) Q E ↔ Q (.str z) M := Iff.rfl
@[simp] theorem p_intU_str {a : Str} {M : Store} {Q : D → Store → Prop} {E : Exn → Store → Prop} : Post (intU (.str a) M) Q E ↔ SomeP (PySem.intText? a) fun n => a.length ≤ 640 ∧ Q (.int n) M := by
  show Post ((match PySem.intText? a with | some n => Py.chk (a.length ≤ 640) (Py.ret (.int n)) | none => Py.bad : Py D) M) Q E ↔ _
  cases h : PySem.intText? a with
  | none => exact Iff.rfl
  | some n => exact post_chk
@[simp] theorem p_addA_str {a b : Str} {M : Store} {Q : D → Store → Prop} {E : Exn → Store → Prop} : Post (addA (.str a) (.str b) M) Q E ↔ a.length + b.length ≤ sizeLine ∧ Q (.str (a ++ b)) M := post_chk
@[simp] theorem p_tyChk_str {z : Str} {M : Store} {Q : Unit → Store → Prop} {E : Exn → Store → Prop} : Post (tyChk "str" (.str z) M) Q E ↔ Q () M := post_chk.trans ⟨fun h => h.2, fun h => ⟨rfl, h⟩⟩
@[simp] theorem p_inU_sign {c : Nat} {z : Str} {M : Store} {Q : D → Store → Prop} {E : Exn → Store → Prop} : Post (inU (.str ⟨#[c]⟩) (.str z) M) Q E ↔ Q (.bl (decide (c ∈ z.cps.toList))) M := Iff.rfl
theorem log_int {i : Int} (h0 : 0 ≤ i) (h1 : i < 2 ^ 64) : i.natAbs.log2 < 1920 := by
  have h2 : i.natAbs < 2 ^ 64 := by omega
  by_cases z : i.natAbs = 0
  · rw [z]; decide
  · exact Nat.lt_of_lt_of_le ((Nat.log2_lt z).mpr h2) (by decide)
theorem join_len_le (s : Str) (xs : List Str) {k : Nat} (h : ∀ x ∈ xs, x.length ≤ k) : (Str.join s xs).length ≤ xs.length * (k + s.length) := by
  have h1 := StrLaws.join_length_le s xs
  have h2 : (xs.map (·.length)).sum ≤ xs.length * k := by
    clear h1
    induction xs with
    | nil => simp
    | cons x xs ih =>
      have := h x (List.mem_cons_self ..)
      have := ih fun y hy => h y (List.mem_cons_of_mem _ hy)
      simp only [List.map_cons, List.sum_cons, List.length_cons, Nat.succ_mul]
      omega
  rw [Nat.mul_add]
  omega
theorem sum_len_le (xs : List Str) {k : Nat} (h : ∀ x ∈ xs, x.length ≤ k) : (xs.map (·.length)).sum ≤ xs.length * k := by
  induction xs with
  | nil => simp
  | cons x xs ih =>
    have := h x (List.mem_cons_self ..)
    have := ih fun y hy => h y (List.mem_cons_of_mem _ hy)
    simp only [List.map_cons, List.sum_cons, List.length_cons, Nat.succ_mul]
    omega
/-- lines with their breaks are the lines and nothing behind, joined by breaks -/
theorem join_lines (c : Nat) : ∀ xs : List Str, Str.join ⟨#[]⟩ (xs.map fun x => x ++ ⟨#[c]⟩) = Str.join ⟨#[c]⟩ (xs ++ [⟨#[]⟩])
  | [] => rfl
  | [x] => by
    apply str_ext
    show (x ++ ⟨#[c]⟩ : Str).cps.toList = (Str.join ⟨#[c]⟩ [x, ⟨#[]⟩]).cps.toList
    rw [join_cons, str_app]
    exact (List.append_nil _).symm
  | x :: y :: r => by
    have ih := join_lines c (y :: r)
    apply str_ext
    show (Str.join ⟨#[]⟩ ((x ++ ⟨#[c]⟩) :: (y ++ ⟨#[c]⟩) :: r.map fun x => x ++ ⟨#[c]⟩)).cps.toList = (Str.join ⟨#[c]⟩ (x :: y :: (r ++ [⟨#[]⟩]))).cps.toList
    rw [join_cons, join_cons]
    have e : (Str.join ⟨#[]⟩ ((y ++ ⟨#[c]⟩) :: r.map fun x => x ++ ⟨#[c]⟩)) = Str.join ⟨#[c]⟩ (y :: (r ++ [⟨#[]⟩])) := ih
    rw [e, str_app]
    show x.cps.toList ++ [c] ++ [] ++ _ = _
    rw [List.append_nil]
theorem split_lines {c : Nat} {xs : List Str} (h : ∀ p ∈ xs, c ∉ p.cps.toList) : Txt.split (Str.join ⟨#[]⟩ (xs.map fun x => x ++ ⟨#[c]⟩)) ⟨#[c]⟩ = xs ++ [⟨#[]⟩] := by
  rw [join_lines]
  refine split_join (by simp) fun p hp => ?_
  rcases List.mem_append.mp hp with hp | hp
  · exact h p hp
  · rw [List.mem_singleton] at hp; subst hp; exact List.not_mem_nil
theorem free_app {c : Nat} {a b : Str} (ha : c ∉ a.cps.toList) (hb : c ∉ b.cps.toList) : c ∉ (a ++ b).cps.toList := by
  rw [str_app, List.mem_append]; exact fun h => h.elim ha hb
theorem free_join {c : Nat} {s : Str} (hs : c ∉ s.cps.toList) : ∀ {xs : List Str}, (∀ x ∈ xs, c ∉ x.cps.toList) → c ∉ (Str.join s xs).cps.toList
  | [], _ => List.not_mem_nil
  | [x], h => h x (List.mem_singleton_self x)
  | x :: y :: r, h => by
    rw [join_cons, List.mem_append, List.mem_append]
    exact fun m => m.elim (fun m => m.elim (h x (List.mem_cons_self ..)) hs) (free_join hs fun z hz => h z (List.mem_cons_of_mem _ hz))
theorem free_num {c : Nat} {n : Int} (h0 : 0 ≤ n) (hc : c < 48 ∨ 57 < c) : c ∉ (numT n).cps.toList := fun h => by
  have := numT_dig h0 c h
  omega
end L3
set_option Elab.async false
set_option linter.all false
set_option maxRecDepth 100000
set_option maxHeartbeats 4000000
set_option autoImplicit false
/-! instances, their making, own ==, dict comprehensions: plain law -/
namespace L3
open PySem PySem.Spec L2
open PyProof.Rows hiding St
/-- the instance at n -/
def LocI (M : Store) (n : Nat) (P : Str → List (Str × D) → Prop) : Prop := match M[n]? with
  | some (some (.ins C fs)) => P C fs
  | _ => False
section
variable {M : Store} {n m : Nat} {C : Str} {fs : List (Str × D)} {P : Str → List (Str × D) → Prop}
theorem locI_of (h : M[n]? = some (some (.ins C fs))) : LocI M n P ↔ P C fs := by
  unfold LocI; rw [h]
@[simp] theorem locI_set : LocI (M.set n (some (.ins C fs))) n P ↔ n < M.length ∧ P C fs := by
  unfold LocI
  by_cases h : n < M.length
  · rw [List.getElem?_set_self h]; exact ⟨fun z => ⟨h, z⟩, fun z => z.2⟩
  · rw [List.getElem?_eq_none (by rw [List.length_set]; omega)]; exact ⟨fun z => z.elim, fun z => (h z.1).elim⟩
@[simp] theorem locI_new : LocI (M ++ [some (.ins C fs)]) M.length P ↔ P C fs := locI_of (List.getElem?_concat_length ..)
theorem locI_iff : LocI M n P ↔ ∃ C fs, M[n]? = some (some (.ins C fs)) ∧ P C fs := by
  unfold LocI
  split
  · rename_i C fs h; exact ⟨fun z => ⟨C, fs, h, z⟩, fun ⟨C', ys, e, z⟩ => by rw [h] at e; cases e; exact z⟩
  · rename_i h
    constructor
    · intro z; exact z.elim
    · rintro ⟨C, xs, e, _⟩; exact absurd e (h C xs)
end
section
variable {Q : D → Store → Prop} {QF : Fl → Store → Prop} {QU : Unit → Store → Prop} {E : Exn → Store → Prop} {M : Store}
variable {fa fb fo fv : DEnv → Py D} {ff : DEnv → Py (List D)} {d x y : D} {n k : Nat} {ρ : DEnv} {f C C' : Str} {Cs : List Str} {fs gs : List (Str × D)} {m : List D → Py D} {ds : List D}
@[simp] theorem p_eFld : Post (eFld f Cs fo ρ M) Q E ↔ Post (fo ρ M) (fun x M1 => Post (fldD f Cs x M1) Q E) E := by
  unfold eFld; rw [post_bnd]
@[simp] theorem p_fld_ins : Post (fldD f Cs (.ins C fs) M) Q E ↔ C ∈ Cs ∧ SomeP (fs.lookup f) fun d => Q d M := by
  unfold fldD fldM
  by_cases h : C ∈ Cs
  · simp only [h, if_true, true_and]
    cases fs.lookup f <;> exact Iff.rfl
  · simp only [h, if_false, false_and]; exact Iff.rfl
theorem p_fld_loc (h : M[n]? = some (some (.ins C fs))) (hc : C ∈ Cs) (hl : fs.lookup f = some d) : Post (fldD f Cs (.loc n) M) Q E ↔ Q d M := by
  have e : fldM M f Cs (.loc n) = some d := by
    show (match M[n]? with | some (some (.ins C fs)) => if C ∈ Cs then fs.lookup f else none | _ => none) = _
    rw [h]
    show (if C ∈ Cs then fs.lookup f else none) = _
    rw [if_pos hc, hl]
  unfold fldD; rw [e]; exact Iff.rfl
@[simp] theorem p_sFldD : Post (sFldD f Cs fo fv ρ M) QF E ↔ Post (fv ρ M) (fun d M1 => Post (fo ρ M1) (fun x M2 => Post (setFld f Cs d x M2) (fun _ M3 => QF (.nx ρ) M3) E) E) E := by
  unfold sFldD
  rw [post_bnd]
  refine post_congr fun d M1 => ?_
  rw [post_bnd]
  refine post_congr fun x M2 => ?_
  rw [post_bnd]
  exact post_congr fun _ M3 => Iff.rfl
@[simp] theorem p_setFld : Post (setFld f Cs d (.loc n) M) QU E ↔ LocI M n fun C fs => (C ∈ Cs ∧ fs.length < 1000) ∧ QU () (M.set n (some (.ins C (putFD f d fs)))) := by
  show Post (setFldK n f Cs d M) QU E ↔ _
  unfold setFldK LocI
  cases h : M[n]? with
  | none => exact Iff.rfl
  | some o =>
    cases o with
    | none => exact Iff.rfl
    | some o =>
      cases o with
      | ins C fs =>
        show Post ((if C ∈ Cs ∧ fs.length < 1000 then .ok () (M.set n (some (.ins C (putFD f d fs)))) else .bad : Out Unit)) QU E ↔ (C ∈ Cs ∧ fs.length < 1000) ∧ QU () (M.set n (some (.ins C (putFD f d fs))))
        by_cases h : C ∈ Cs ∧ fs.length < 1000
        · rw [if_pos h]; exact ⟨fun z => ⟨h, z⟩, fun z => z.2⟩
        · rw [if_neg h]; exact ⟨fun z => z.elim, fun z => (h z.1).elim⟩
      | _ => exact Iff.rfl
theorem p_mkD : Post (mkD C k m ds M) Q E ↔ ds.length + 1 = k ∧ Post (m (.loc M.length :: ds) (M ++ [some (.ins C [])])) (fun d M1 => d = .non ∧ LocI M1 M.length fun C' fs => C' = C ∧ Q (.ins C fs) (M1.set M.length none)) E := by
  unfold mkD
  by_cases h : ds.length + 1 = k
  · rw [if_pos h, post_bnd]
    simp only [h, true_and]
    refine post_congr fun d M1 => ?_
    cases d with
    | non =>
      simp only [true_and]
      show Post ((match M1[M.length]? with | some (some (.ins C' fs)) => if C' = C then .ok (.ins C fs) (M1.set M.length none) else .bad | _ => .bad : Out D)) Q E ↔ _
      unfold LocI
      cases hM : M1[M.length]? with
      | none => exact Iff.rfl
      | some o =>
        cases o with
        | none => exact Iff.rfl
        | some o =>
          cases o with
          | ins C' fs =>
            by_cases hc : C' = C
            · simp only [hc, if_true, true_and]; exact Iff.rfl
            · simp only [hc, if_false, false_and]; exact Iff.rfl
          | _ => exact Iff.rfl
    | _ => exact ⟨fun z => z.elim, fun z => nomatch z.1⟩
  · rw [if_neg h]; exact ⟨fun z => z.elim, fun z => (h z.1).elim⟩
theorem chkIns_iff : Post (chkIns C f d M) QU E ↔ insOf M C f d = true ∧ QU () M := by
  unfold chkIns
  by_cases h : insOf M C f d = true
  · rw [if_pos h]; exact ⟨fun z => ⟨h, z⟩, fun z => z.2⟩
  · rw [if_neg h]; exact ⟨fun z => z.elim, fun z => (h z.1).elim⟩
theorem insOf_l : insOf M C f (.loc n) = true ↔ LocI M n fun C' fs => C' = C ∧ fs.lookup f = none := by
  unfold LocI
  show (match M[n]? with | some (some (.ins C' fs)) => decide (C' = C) && (fs.lookup f).isNone | _ => false) = true ↔ _
  split
  · simp [Option.isNone_iff_eq_none]
  · simp
@[simp] theorem p_chkIns_l : Post (chkIns C f (.loc n) M) QU E ↔ LocI M n fun C' fs => C' = C ∧ fs.lookup f = none ∧ QU () M := by
  rw [chkIns_iff, insOf_l, locI_iff, locI_iff]
  exact ⟨fun ⟨⟨C', fs, e, h1, h2⟩, q⟩ => ⟨C', fs, e, h1, h2, q⟩, fun ⟨C', fs, e, h1, h2, q⟩ => ⟨⟨C', fs, e, h1, h2⟩, q⟩⟩
@[simp] theorem p_chkIns_i : Post (chkIns C f (.ins C' fs) M) QU E ↔ (C' = C ∧ fs.lookup f = none) ∧ QU () M := by
  rw [chkIns_iff]
  refine and_congr_left fun _ => ?_
  show (decide (C' = C) && (fs.lookup f).isNone) = true ↔ _
  simp [Option.isNone_iff_eq_none]
@[simp] theorem p_eMeth : Post (eMeth C f k m fo ff ρ M) Q E ↔ Post (fo ρ M) (fun o M1 => Post (chkIns C f o M1) (fun _ M2 => Post (ff ρ M2) (fun ds M3 => Post (nargs k m (o :: ds) M3) Q E) E) E) E := by
  unfold eMeth
  rw [post_bnd]
  refine post_congr fun d M1 => ?_
  rw [post_bnd]
  refine post_congr fun x M2 => ?_
  rw [post_bnd]
@[simp] theorem p_isC_ins : Post (isC C (.ins C' fs) M) Q E ↔ C' = C ∧ Q (.bl true) M := by
  unfold isC insC
  have e : tyN M (.ins C' fs) = none := rfl
  rw [e]
  by_cases hc : C' = C
  · simp [hc]
  · simp [hc]; exact fun z => z.elim
theorem noX_iff {α : Type} {m : Py α} {R : α → Store → Prop} : Post (noX m M) R E ↔ Post (m M) R fun _ _ => False := by
  unfold noX
  cases h : m M <;> exact Iff.rfl
theorem flagD_iff : Post (flagD d M) Q E ↔ isBl d = true ∧ Q d M := post_chk
theorem eqC_ins : Post (eqC C m (.ins C fs) (.ins C gs) M) Q E ↔ Post (m [.ins C fs, .ins C gs] M) (fun d M1 => Post (flagD d M1) Q E) (fun _ _ => False) := by
  unfold eqC
  rw [if_pos ⟨by simp [insC], by simp [insC]⟩, post_bnd, noX_iff]
end
/-! dict comprehensions -/
theorem keyN_nkD : ∀ {d : D} {k : NestedKey}, keyN d = some k → nkD d = some k
  | .tup xs, k, h => by
    have h' : ((nkL xs).bind fun ks => if (NestedKey.tup ks).depth ≤ 8 then some (NestedKey.tup ks) else none) = some k := h
    obtain ⟨ks, e, h2⟩ := Option.bind_eq_some_iff.mp h'
    split at h2
    · show (nkL xs).map NestedKey.tup = some k
      rw [e]; exact h2
    · cases h2
def tabN : List (D × D) → MO
  | [] => .dk []
  | e :: r => .dkt (e :: r)
theorem putN_new {fs : List (D × D)} {k : NestedKey} {x v : D} (h : ∀ e ∈ fs, nkD e.1 ≠ some k) : putN fs k x v = fs ++ [(x, v)] := by
  unfold putN
  rw [if_neg]
  rw [List.any_eq_true]
  rintro ⟨e, he, e2⟩
  exact h e he (of_decide_eq_true e2)
theorem putMO_t {fs : List (D × D)} {y v : D} {k : NestedKey} (h : keyN y = some k) (hl : fs.length < sizeLine) : putMO (.dkt fs) y v = some (.dkt (putN fs k y v)) := by
  show (match keyN y with | some k => if fs.length < sizeLine then some (MO.dkt (putN fs k y v)) else none | none => none) = _
  rw [h]; exact if_pos hl
theorem putMO_0 {y v : D} {k : NestedKey} (h2 : keyD y = none) (h : keyN y = some k) : putMO (.dk []) y v = some (.dkt [(y, v)]) := by
  show (match keyD y with | some k => if ([] : List (Key × D)).length < sizeLine then some (MO.dk (putG [] k v)) else none | none => (keyN y).map fun _ => MO.dkt [(y, v)]) = _
  rw [h2, h]; rfl
section
variable {QM : MO → Store → Prop} {E : Exn → Store → Prop} {M : Store} {ρ : DEnv}
theorem dcm_map {α : Type} {ok : Store → Prop} {tg : D → DEnv → Py DEnv} {fk fv : DEnv → Py D} (g kf vf : α → D) (kn : α → NestedKey) (hok : ok M) :
    ∀ (l acc : List α), acc.length + l.length ≤ sizeLine → (∀ x ∈ acc ++ l, keyD (kf x) = none ∧ keyN (kf x) = some (kn x)) → ((acc ++ l).map kn).Nodup →
    (∀ x ∈ l, Post (tg (g x) ρ M) (fun ρ1 M1 => Post (fk ρ1 M1) (fun y M2 => y = kf x ∧ Post (fv ρ1 M2) (fun z M3 => z = vf x ∧ M3 = M) E) E) E) →
    QM (tabN ((acc ++ l).map fun x => (kf x, vf x))) M → Post (dcMD ok tg tYesD fk fv ρ (l.map g) (tabN (acc.map fun x => (kf x, vf x))) M) QM E
  | [], acc, _, _, _, _, q => by
    show Post (okM ok (Py.ret _) M) QM E
    rw [okM_true hok]
    rw [List.append_nil] at q; exact q
  | x :: l, acc, hz, hk, nd, h, q => by
    have hz2 : acc.length + (l.length + 1) ≤ sizeLine := hz
    show Post (okM ok (Py.bnd (tg (g x) ρ) fun ρ1 => Py.bnd (tYesD ρ1) fun b => if b then Py.bnd (fk ρ1) fun y => Py.bnd (fv ρ1) fun z => putK1 (tabN (acc.map fun x => (kf x, vf x))) y z fun acc' => dcMD ok tg tYesD fk fv ρ (l.map g) acc' else dcMD ok tg tYesD fk fv ρ (l.map g) (tabN (acc.map fun x => (kf x, vf x)))) M) QM E
    rw [okM_true hok]
    refine post_bnd.mpr ((h x (List.mem_cons_self ..)).imp fun ρ1 M1 h1 => ?_)
    refine post_bnd.mpr ?_
    rw [p_tYes, if_pos rfl]
    refine post_bnd.mpr (h1.imp fun y M2 h2 => ?_)
    obtain ⟨ek, h3⟩ := h2
    refine post_bnd.mpr (h3.imp fun z M3 h4 => ?_)
    obtain ⟨e1, e2⟩ := h4
    rw [ek, e1, e2]
    obtain ⟨k1, k2⟩ := hk x (by simp)
    have ep : putMO (tabN (acc.map fun x => (kf x, vf x))) (kf x) (vf x) = some (tabN ((acc ++ [x]).map fun x => (kf x, vf x))) := by
      cases acc with
      | nil =>
        exact putMO_0 k1 k2
      | cons a r =>
        refine (putMO_t (fs := (a :: r).map fun x => (kf x, vf x)) k2 (by rw [List.length_map]; omega)).trans ?_
        rw [putN_new]
        · rw [List.map_append]; rfl
        · intro e he e2
          obtain ⟨b, hb, rfl⟩ := List.mem_map.mp (show e ∈ (a :: r).map fun x => (kf x, vf x) from he)
          rw [List.map_append, List.nodup_append] at nd
          have := keyN_nkD (hk b (List.mem_append_left _ hb)).2
          dsimp only at e2
          rw [this] at e2
          exact nd.2.2 (kn b) (List.mem_map_of_mem hb) (kn x) (by simp) (Option.some.inj e2)
    unfold putK1
    rw [ep]
    have ea : acc ++ x :: l = (acc ++ [x]) ++ l := by simp
    rw [ea] at hk nd q
    exact dcm_map g kf vf kn hok l (acc ++ [x]) (by rw [List.length_append]; have : [x].length = 1 := rfl; omega) hk nd (fun y hy => h y (List.mem_cons_of_mem _ hy)) q
@[simp] theorem p_dcMAll {vs : List Nat} {it : DEnv → Py Wk} {tg : D → DEnv → Py DEnv} {tt : DEnv → Py Bool} {fk fv : DEnv → Py D} : Post (dcMAll vs it tg tt fk fv ρ M) QM E ↔ Post (it ρ M) (fun w M1 => Post (dcMD w.ok tg tt fk fv (wipeD ρ vs) w.ds (.dk []) M1) QM (fun _ _ => False)) E := by
  unfold dcMAll
  rw [post_bnd]
  exact post_congr fun w M1 => noX_iff
@[simp] theorem p_eDcM {fr : MO → Py D} {dc : DEnv → Py MO} {Q : D → Store → Prop} : Post (eDcM fr dc ρ M) Q E ↔ Post (dc ρ M) (fun m M1 => Post (fr m M1) Q E) E := by
  unfold eDcM; rw [post_bnd]
@[simp] theorem p_fdFM {m : MO} {Q : D → Store → Prop} : Post (fdFM m M) Q E ↔ Q (moD m) M := Iff.rfl
@[simp] theorem p_fdNM {m : MO} {Q : D → Store → Prop} : Post (fdNM m M) Q E ↔ Q (.loc M.length) (M ++ [some m]) := Iff.rfl
end
/-- the key of a row of ints -/
def rowK (r : List Int) : NestedKey := .tup (r.map NestedKey.num)
theorem nkL_ints : ∀ r : List Int, nkL (r.map D.int) = some (r.map NestedKey.num)
  | [] => rfl
  | n :: r => by
    show ((nkD (D.int n)).bind fun k => (nkL (r.map D.int)).map fun ks => k :: ks) = _
    rw [nkL_ints r]; rfl
theorem keyN_row (r : List Int) : keyN (tupI r) = some (rowK r) := by
  show ((nkL (r.map D.int)).bind fun ks => if (NestedKey.tup ks).depth ≤ 8 then some (NestedKey.tup ks) else none) = _
  rw [nkL_ints]
  have h : (rowK r).depth ≤ 8 := by
    have h2 : ∀ l : List Int, NestedKey.depthAll (l.map NestedKey.num) ≤ 1 := by
      intro l
      induction l with
      | nil => simp [NestedKey.depthAll]
      | cons a l ih => simp [NestedKey.depthAll, NestedKey.depth]; omega
    have := h2 r
    unfold rowK
    simp [NestedKey.depth]; omega
  show (if (rowK r).depth ≤ 8 then some (rowK r) else none) = _
  rw [if_pos h]
theorem keyD_row (r : List Int) : keyD (tupI r) = none := rfl
theorem rowK_inj {a b : List Int} (h : rowK a = rowK b) : a = b := by
  have h2 := NestedKey.tup.inj h
  exact (List.map_inj_right fun x y e => NestedKey.num.inj e).mp h2
end L3
set_option Elab.async false
set_option linter.all false
set_option maxRecDepth 100000
set_option maxHeartbeats 4000000
set_option autoImplicit false
/-! exceptions with fields: what the head looks at -/
namespace L3
open PySem PySem.Spec L2
open PyProof.Rows hiding St
def oexB (K : PySem.W.Frag) (C : Addr) : Bool := (match K.lookup C with
  | some ⟨.type "type", _, .cls cd, sl⟩ => (match cd.mro, sl.toList with
    | .ref C' :: bm, [_, _, _, _, some (.builtin n), _] => C' == C && (n == "ValueError.__new__" && (!cd.hasDel && (cd.hasDict && PySem.HandSPX.refsVE bm)))
    | _, _ => false)
  | _ => false) && (He.eqO (PySem.W.findIn K (.ref C) "__setattr__") (some (some (.builtin "object.__setattr__"))) && (decide (PySem.W.subIn K (.ref C) (.type "BaseException") = some true) && (decide (PySem.W.typeIn K (.ref C) = some (.type "type")) && PySem.W.keepIn K (.ref C))))
theorem oexB_ok {K : PySem.W.Frag} {C : Addr} (h : oexB K C = true) : OexC K C := by
  obtain ⟨q, h1⟩ := He.ba h
  obtain ⟨h2, h3⟩ := He.ba h1
  obtain ⟨h4, h5⟩ := He.ba h3
  obtain ⟨h6, h7⟩ := He.ba h5
  refine ⟨?_, He.eqO_ok h2, of_decide_eq_true h4, of_decide_eq_true h6, h7⟩
  split at q
  · rename_i dd cd sl ho
    split at q
    · rename_i C' bm k0 k1 k2 k3 n k5 hm hs
      obtain ⟨a1, q⟩ := He.ba q
      obtain ⟨a2, q⟩ := He.ba q
      obtain ⟨a3, q⟩ := He.ba q
      obtain ⟨a4, a5⟩ := He.ba q
      obtain rfl := beq_iff_eq.mp a1
      obtain rfl := beq_iff_eq.mp a2
      obtain ⟨nm, bs, mro, ns, qn, hd, sn, sub, ab, col, del⟩ := cd
      dsimp only at hm a3 a4
      have a3' : del = false := by simpa using a3
      subst hm a3' a4
      have hsl : sl = #[k0, k1, k2, k3, some (.builtin "ValueError.__new__"), k5] := by
        obtain ⟨l⟩ := sl
        simp only at hs
        rw [hs]
      subst hsl
      exact ⟨nm, qn, ns, bs, bm, sn, sub, ab, col, dd, k0, k1, k2, k3, k5, ho, a5⟩
    · cases q
  · cases q
abbrev FnS : Type := Option (Str × Str × Arguments × FuncBody × Scope × Addr × List Str × Addr)
/-- the __init__ of the class named x -/
def iniA (K : PySem.W.Frag) (x : Str) : Addr := He.ma K (He.ga K x) "__init__"
def fnS (K : PySem.W.Frag) (x : Str) : FnS := match K.lookup (iniA K x) with
  | some ⟨_, _, .func fd, _⟩ => some (fd.name, fd.qualname, fd.params, fd.body, fd.scope, fd.globals, fd.closure.map (·.1), fd.builtins)
  | _ => none
structure SupD where
  cls : Str
  qual : Str
  params : Arguments
  body : List Stmt
  scope : Scope
  flds : List Str
  file : Str
def SupD.val (d : SupD) : FnS := some ("__init__", d.qual, d.params, .stmts d.body, d.scope, mainGlobals, ["__class__"], builtinsNs)
def isNo : Value → Bool
  | .none => true
  | _ => false
theorem isNo_ok {v : Value} (h : isNo v = true) : v = .none := by cases v <;> first | rfl | cases h
def supFd (K : PySem.W.Frag) (C : Addr) (qual file : Str) (fd : FuncData) : Bool := PySem.W.codeIn K fd.code qual && ((match fd.code with
  | .ref cda => (match K.lookup cda with
    | some ⟨_, _, .fields vs, _⟩ => (match (vs[2]? : Option Value) with
      | some (.str fl _) => file == fl
      | _ => false)
    | _ => false)
  | _ => false) && ((match fd.closure with
  | [(_, cc)] => (match K.lookup cc with
    | some ⟨_, _, .cell (some (.ref C')), _⟩ => C' == C
    | _ => false)
  | _ => false) && (isNo fd.defaults && isNo fd.kwdefaults)))
def SupD.ok (K : PySem.W.Frag) (d : SupD) : Bool := oexB K (He.ga K d.cls) && (He.eqO (PySem.W.findIn K (.ref (He.ga K d.cls)) "__init__") (some (some (.ref (iniA K d.cls)))) && (decide (PySem.W.typeIn K (.ref (iniA K d.cls)) = some (.type "function")) &&
  ((match K.lookup (iniA K d.cls) with | some ⟨_, _, .func fd, _⟩ => supFd K (He.ga K d.cls) d.qual d.file fd | _ => false) &&
  (He.eqO (PySem.W.ks_superIn K (He.ga K d.cls) (He.ga K d.cls) "__init__") (some (some (.builtin "ValueError.__init__"))) && (He.eqO (PySem.W.nsIn K cStatics "thirdparty.any") (some none) &&
  (decide (PySem.W.subIn K (.ref (He.ga K d.cls)) (.type "ValueError") = some true) && (decide (PySem.W.mroIn K (He.ga K d.cls) (.ref (He.ga K d.cls)) = some true) &&
  d.flds.all fun x => He.eqO (PySem.W.findIn K (.ref (He.ga K d.cls)) x) (some none))))))))
structure SupK (P : Program) (K : PySem.W.Frag) (mg : Str → Option Value) (d : SupD) (fd : FuncData) : Prop where
  sup : SupF P K mg (He.ga K d.cls) (iniA K d.cls) d.qual d.params d.body d.scope fd
  ini : PySem.W.findIn K (.ref (He.ga K d.cls)) "__init__" = some (some (.ref (iniA K d.cls)))
  ty : PySem.W.typeIn K (.ref (iniA K d.cls)) = some (.type "function")
  no : ∀ x ∈ d.flds, PySem.W.findIn K (.ref (He.ga K d.cls)) x = some none
  dfl : fd.defaults = .none ∧ fd.kwdefaults = .none
theorem supK_of {P : Program} {K : PySem.W.Frag} {mg : Str → Option Value} {d : SupD} (e : fnS K d.cls = d.val) (c : d.ok K = true) (sg : mg "super" = none) (hP : ((P.main.file : Str) == d.file) = true) (top : (P.main.scope.names.lookup ("super" : Str)).isSome = false) : ∃ fd, SupK P K mg d fd := by
  obtain ⟨c1, c⟩ := He.ba c
  obtain ⟨c2, c⟩ := He.ba c
  obtain ⟨c3, c⟩ := He.ba c
  obtain ⟨c4, c⟩ := He.ba c
  obtain ⟨c5, c⟩ := He.ba c
  obtain ⟨c6, c⟩ := He.ba c
  obtain ⟨c7, c⟩ := He.ba c
  obtain ⟨c8, c9⟩ := He.ba c
  unfold fnS at e
  cases q : K.lookup (iniA K d.cls) with
  | none => rw [q] at c4; cases c4
  | some o =>
    obtain ⟨oc, od, dt, osl⟩ := o
    rw [q] at c4 e
    cases dt with
    | func fd =>
      have c4' : supFd K (He.ga K d.cls) d.qual d.file fd = true := c4
      obtain ⟨n1, n2, n3, n4, n5, n6, n7, n8, n9, n10, n11, n12, n13, n14, n15⟩ := fd
      have e2 : (some (n1, n2, n3, n4, n5, n6, n7.map (·.1), n15) : FnS) = d.val := e
      unfold SupD.val at e2
      simp only [Option.some.injEq, Prod.mk.injEq] at e2
      obtain ⟨h1, h2, h3, h4, h5, h6, h7, h8⟩ := e2
      subst h1 h2 h3 h4 h5 h6 h8
      obtain ⟨d1, d5⟩ := He.ba c4'
      obtain ⟨d2, d6⟩ := He.ba d5
      obtain ⟨d3, d7⟩ := He.ba d6
      obtain ⟨d8, d9⟩ := He.ba d7
      clear d5 d6 d7 c4' c4
      dsimp only at d1 d2 d3
      cases n13 with
      | ref cda =>
        dsimp only at d2
        split at d3
        · rename_i y cc
          obtain rfl : y = "__class__" := by simpa using h7
          split at d3
          · rename_i cl cld C' csl hcc
            obtain rfl := beq_iff_eq.mp d3
            refine ⟨_, ⟨⟨oexB_ok c1, ⟨"__init__", n8, n9, n10, n11, n12, cda, n14, cc, oc, od, osl, rfl, q, d1, ?_, cl, cld, csl, hcc⟩, He.eqO_ok c5, He.eqO_ok c6, sg, of_decide_eq_true c7, of_decide_eq_true c8, top⟩, He.eqO_ok c2, of_decide_eq_true c3, fun x hx => He.eqO_ok (List.all_eq_true.mp c9 x hx), isNo_ok d8, isNo_ok d9⟩⟩
            split at d2
            · rename_i ccl cdd vs ccs hco
              split at d2
              · rename_i fl tf hv
                have ef := beq_iff_eq.mp d2
                exact ⟨vs, ccl, cdd, ccs, _, tf, hco, hv, ef ▸ hP⟩
              · cases d2
            · cases d2
          · cases d3
        · cases d3
      | _ => cases d2
    | _ => cases e
theorem SupK.binds {P : Program} {K : PySem.W.Frag} {mg : Str → Option Value} {d : SupD} {fd : FuncData} {ps : List Str} (S : SupK P K mg d fd)
    (hB : ∀ name doc pm an cdv ct cc us, us.length = ps.length → bindArgs (PySem.W.ksFn name d.qual d.params d.body d.scope .none .none doc pm an cdv ct cc) ⟨us, []⟩ = pure (ps.zip us)) : Binds K fd ps [] := by
  obtain ⟨name, dV, kV, doc, pm, an, cda, ct, cc, oc, od, osl, rfl, _⟩ := S.sup.fn
  obtain ⟨e1, e2⟩ := S.dfl
  have e1' : dV = .none := e1
  have e2' : kV = .none := e2
  subst e1' e2'
  exact .all fun us hl => hB _ _ _ _ _ _ _ us hl
/-! the hook -/
def obsY (ex : List XF) (sp : List SupD) (fa : List He.Fa) (fn : List He.DefD) (K : PySem.W.Frag) : (Bool × He.AlD) × List FnS := (((ex.all fun f => f K) && sp.all fun d => d.ok K, He.obsD fa fn K), sp.map fun d => fnS K d.cls)
def cellsY (g : Addr → Option Obj) (as : List Addr) : List Addr := as.flatMap fun a => match g a with
  | some ⟨_, _, .func fd, _⟩ => fd.closure.map (·.2)
  | _ => []
def frY (n : Nat) (g : Addr → Option Obj) : PySem.W.Frag := He.frG g (cStatics :: (He.asD g n ++ cellsY g (He.asD g n)))
def obsYG (n : Nat) (ex : List XF) (sp : List SupD) (fa : List He.Fa) (fn : List He.DefD) (g : Addr → Option Obj) : (Bool × He.AlD) × List FnS := obsY ex sp fa fn (frY n g)
def valY (sp : List SupD) (fn : List He.DefD) : (Bool × He.AlD) × List FnS := ((true, He.valD fn), sp.map SupD.val)
def hookY (n : Nat) (ex : List XF) (sp : List SupD) (fa : List He.Fa) (fn : List He.DefD) : PySem.W.Hook where
  α := (Bool × He.AlD) × List FnS
  obs := fun s => obsYG n ex sp fa fn s.heap.get?
  val := fun _ => valY sp fn
  says := fun _ h => ∃ K : PySem.W.Frag, K.In h ∧ obsY ex sp fa fn K = valY sp fn
  of := fun _ _ e => ⟨_, He.frG_in, e⟩
  keeps := fun _ _ _ ⟨K, hK, c⟩ k => ⟨K, PySem.W.Frag.In.keeps hK k, c⟩
section
variable {ex : List XF} {sp : List SupD} {fa : List He.Fa} {fn : List He.DefD} {K : PySem.W.Frag}
theorem obsYG_eq {n : Nat} {g : Addr → Option Obj} {s : Shared} (h : ∀ a, g a = s.heap.get? a) : obsYG n ex sp fa fn g = (hookY n ex sp fa fn).obs s := by
  have e : g = s.heap.get? := funext h
  rw [e] <;> rfl
theorem obsY_says (c : obsY ex sp fa fn K = valY sp fn) : He.SaysD fa fn K := congrArg (fun z : (Bool × He.AlD) × List FnS => z.1.2) c
theorem obsY_fact (c : obsY ex sp fa fn K = valY sp fn) (i : Nat) {f : XF} (h : ex[i]? = some f := by rfl) : f K = true :=
  List.all_eq_true.mp (He.ba (show ((ex.all fun f => f K) && sp.all fun d => d.ok K) = true from congrArg (fun z : (Bool × He.AlD) × List FnS => z.1.1) c)).1 f (List.mem_of_getElem? h)
theorem obsY_sup {P : Program} {mg : Str → Option Value} (c : obsY ex sp fa fn K = valY sp fn) (i : Nat) {d : SupD} (h : sp[i]? = some d) (sg : mg "super" = none) (hP : ((P.main.file : Str) == d.file) = true) (top : (P.main.scope.names.lookup ("super" : Str)).isSome = false) : ∃ fd, SupK P K mg d fd := by
  have c2 := (He.ba (show ((ex.all fun f => f K) && sp.all fun d => d.ok K) = true from congrArg (fun z : (Bool × He.AlD) × List FnS => z.1.1) c)).2
  have e : sp.map (fun d => fnS K d.cls) = sp.map SupD.val := congrArg (fun z : (Bool × He.AlD) × List FnS => z.2) c
  have e2 : (sp.map fun d => fnS K d.cls)[i]? = (sp.map SupD.val)[i]? := by rw [e]
  rw [List.getElem?_map, List.getElem?_map, h] at e2
  exact supK_of (Option.some.inj e2) (List.all_eq_true.mp c2 d (List.mem_of_getElem? h)) sg hP top
end
/-- the fact that a raise wants -/
theorem xcl_of {P : Program} {w : World} {K : PySem.W.Frag} {mg : Str → Option Value} {base : Heap} {d : SupD} {fd : FuncData} {ps : List Str} (S : SupK P K mg d fd) (gl : mg d.cls = some (.ref (He.ga K d.cls))) (F : FnOk P w K mg base L2.CX0 1 (iniA K d.cls) fd ps (spX (He.ga K d.cls) d.flds))
    (hb : Binds K fd ps []) : Xcl P w K mg base d.cls d.flds := ⟨⟨_, fd, ps, S.sup.cls, S.ini, S.ty, F, hb, gl⟩⟩
end L3
set_option Elab.async false
set_option linter.all false
set_option maxRecDepth 100000
set_option maxHeartbeats 4000000
set_option autoImplicit false
/-! targets o[i] within tuples; an own == against any data; sorted(d) of a dict with tuple keys -/
namespace L3
open PySem PySem.Spec L2
open PyProof.Rows hiding St
/-! ### o[i] as a target -/
def gSubD (fo fi : DEnv → Py D) : D → DEnv → Py DEnv := fun v ρ => Py.bnd (fo ρ) fun o => Py.bnd (fi ρ) fun k => Py.bnd (setD o k v) fun _ => Py.ret ρ
section
variable {C : DX} {vs : List Nat} {o i : Expr} {fo fi : DEnv → Py D} {tpos : Pos}
theorem dg_sub (ho : DE C o fo) (hi : DE C i fi)
    (ha : ∀ v, assign (.Subscript o i tpos) C.X.env v = (do
      let ov ← holding [v] (eval o C.X.env)
      let iv ← holding [v, ov] (eval i C.X.env)
      standAt tpos
      holding [v, ov, iv] (setItem ov iv v)
      release [v, ov, iv] []) := by intro _; rfl) : DG C vs (.Subscript o i tpos) (gSubD fo fi) (gSub (WPE C.X o) (WPE C.X i) rSetL) :=
  ⟨pg_sub self_e self_e set_list ha, fun {g ρ M σ H v d} Q R r p => ho.then_ R p fun x o' M2 H2 g2 l2 R2 r2 p2 => hi.then_ R2 p2 fun y i' M3 H3 g3 l3 R3 r3 p3 => by
    obtain ⟨a, ws, k, j, M', rfl, rfl, e1, e2, q, R'⟩ := setD_post R3.h (r2.mono l3) r3 (r.mono (l2.trans l3)) (post_bnd.mp p3)
    exact ⟨a, ws, k, j, rfl, rfl, e1, e2, q _ _ g3 (l2.trans l3) (R3.next (G.le.refl g3) R') rfl⟩⟩
end
section
variable {Q : DEnv → Store → Prop} {E : Exn → Store → Prop} {ρ : DEnv} {M : Store} {fo fi : DEnv → Py D} {v : D}
@[simp] theorem p_gSubD : Post (gSubD fo fi v ρ M) Q E ↔ Post (fo ρ M) (fun o M1 => Post (fi ρ M1) (fun k M2 => Post (setD o k v M2) (fun _ M3 => Q ρ M3) E) E) E := by
  unfold gSubD
  rw [post_bnd]
  refine post_congr fun o M1 => ?_
  rw [post_bnd]
  refine post_congr fun k M2 => ?_
  rw [post_bnd]
  exact post_congr fun _ M3 => Iff.rfl
end
/-! ### own == against data -/
section
variable {X : Cx} {n : Nat} {A f : Addr} {fd : FuncData} {ps : List Str} {sp : Sp}
def rEqL (K : PySem.W.Frag) (A : Addr) (sp : Sp) : R2 := fun x y H Q => ∃ a d fs t, x = .ref a ∧ H a = some (.ins A d fs) ∧ TyX K H y (.type t) ∧ t ∈ tyNames ∧ sp [x, y] H (fun v H' => (∃ k, v = .bl k) ∧ Q v H') (fun _ _ _ => False)
theorem op_eqL (F : FnG X.prog X.w X.K X.mg X.base (L2.CX X.prog X.w) n f fd ps sp) (hm : Meth X.K A "__eq__" f) (room : RoomG n X.A) (bind_ : Binds X.K fd ps []) : OpR X (compareOp .Eq) (rEqL X.K A sp) := by
  intro pins s σ H x y v u Q J rx ry ⟨a, d, fs, t, ex, ha, ty, ht, want⟩
  subst ex
  obtain rfl : v = Value.ref a := rx
  show wpAny (model X.prog X.w) X.A (richCompare .Eq (.ref a) u) (EP X pins σ Q) X.xe s
  obtain ⟨_, oa, _⟩ := ins_get J.hok ha
  obtain ⟨_, la, _⟩ := oa.look
  obtain ⟨P, Z, hP, _⟩ := kit_of J ry ty
  obtain ⟨m, hF⟩ := J.fr
  have nf : PySem.W.notFirst X.K A (.type t) = true := by
    unfold PySem.W.notFirst
    rw [sub_own ht]; simp
  refine PySem.W.cmp_K (op := .Eq) (tb := .type t) room.room.units0 hF J.ok.mod.kin la (Z.ty _ _ J.kIn hP) nf hm.at_ hm.fn ?_
  have two : Vals [V.ref a, y] [Value.ref a, u] := .cons rfl (.cons ry .nil)
  have count : [Value.ref a, u].length = ps.length := two.length.symm.trans (F.many _ _ _ _ want)
  have bound := bind_ s [.ref a, u] J.kIn (by rw [List.append_nil]; exact count)
  rw [List.append_nil] at bound
  refine wpAny_call (codeAny_mono (F.go X.A X.stack s H ⟨[.ref a, u], []⟩ [.ref a, u] [.ref a, y] _ _ room J.env0 bound two want) fun r s' got => ?_)
  rcases r with e | fl
  · obtain ⟨_, _, _, _, _, _, _, _, _, _, _, _, z⟩ := got
    exact z.elim
  · rcases fl with _ | _ | _ | w
    all_goals first
      | exact (False.elim got)
      | (obtain ⟨z, H', J', rz, ⟨k, ez⟩, q⟩ := J.after got
         subst ez
         cases rz
         exact ⟨.bl k, H', J', rfl, q⟩)
end
/-- x == y, x an instance of C, y one or data; else data -/
def eqCx (C : Str) (m : List D → Py D) (x y : D) : Py D := fun M => if insC M C x = true ∧ (insC M C y = true ∨ (tyN M y).isSome = true) then Py.bnd (noX (m [x, y])) flagD M else eqS false x y M
theorem do_eqCx {C : DX} {k : Nat} {c : Str} {m : List D → Py D} (D' : Mth C.X.prog C.X.w C.X.K C.X.mg C.X.base (L2.CX C.X.prog C.X.w) k c "__eq__" 2 m) (hr : RoomG k C.X.A) : DOp C (compareOp .Eq) (eqCx c m) := by
  obtain ⟨f, fd, ps, cl, hm, F, hb⟩ := D'.ex
  refine DOp.of ((op_eqI F hm hr hb).or ((op_eqL F hm hr hb).or (op_eq.or (op_eqD hr.units)))) fun {g ρ M σ H x y dx dy} Q R rx ry p => ?_
  have p' : Post (eqCx c m dx dy M) (QV C g ρ σ Q) (C.We ρ) := p
  unfold eqCx at p'
  by_cases h : insC M c dx = true ∧ (insC M c dy = true ∨ (tyN M dy).isSome = true)
  · rw [if_pos h] at p'
    obtain ⟨a, d, fs, ea, ha⟩ := insC_rep R.h rx h.1
    have tell : spD C.X.K C.X.w 2 m [x, y] H (fun v H' => (∃ k, v = .bl k) ∧ Q v H') (fun _ _ _ => False) := by
      refine ⟨rfl, g, M, [dx, dy], R.w, R.h, .cons rx (.cons ry .nil), (noX_post (post_bnd.mp p')).mono (fun d' M' z v H' g' l R' r' => ?_) fun _ _ z => z.elim⟩
      obtain ⟨hf, q⟩ := post_chk.mp z
      cases d' with
      | bl k =>
        have ev := rep_bl r'
        subst ev
        exact ⟨⟨k, rfl⟩, q _ H' g' l (R.next l R') (.bl k)⟩
      | _ => cases hf
    rcases h.2 with hy | hy
    · left
      obtain ⟨b, e, gs, eb, hb⟩ := insC_rep R.h ry hy
      exact ⟨a, b, d, e, fs, gs, ea, eb, ha, hb, tell⟩
    · right; left
      obtain ⟨t, et⟩ := Option.isSome_iff_exists.mp hy
      obtain ⟨ty, hmem⟩ := tyN_ok R.h ry et
      exact ⟨a, d, fs, t, ea, ha, ty, hmem, tell⟩
  · rw [if_neg h] at p'
    right; right
    rcases eqS_cases p' with ⟨a, b, rfl, rfl, q⟩ | p2
    · left
      rw [rep_str rx, rep_str ry]
      exact ⟨scal_str, by rw [dec_strV]; exact QV.here q R (.bl _)⟩
    · right
      obtain ⟨a, b, e1, e2, s1, s2, q⟩ := eqP_post p2
      exact ⟨a, b, dpm_of R.h rx e1, dpm_of R.h ry e2, s1, s2, QV.here q R (.bl _)⟩
theorem eqCx_ins {C : Str} {m : List D → Py D} {fs gs : List (Str × D)} {M : Store} {Q : D → Store → Prop} {E : Exn → Store → Prop} : Post (eqCx C m (.ins C fs) (.ins C gs) M) Q E ↔ Post (m [.ins C fs, .ins C gs] M) (fun d M1 => Post (flagD d M1) Q E) (fun _ _ => False) := by
  unfold eqCx
  rw [if_pos ⟨by simp [insC], .inl (by simp [insC])⟩, post_bnd, noX_iff]
theorem eqCx_dat {C : Str} {m : List D → Py D} {fs : List (Str × D)} {y : D} {M : Store} {Q : D → Store → Prop} {E : Exn → Store → Prop} (h : (tyN M y).isSome = true) : Post (eqCx C m (.ins C fs) y M) Q E ↔ Post (m [.ins C fs, y] M) (fun d M1 => Post (flagD d M1) Q E) (fun _ _ => False) := by
  unfold eqCx
  rw [if_pos ⟨by simp [insC], .inr h⟩, post_bnd, noX_iff]
/-! ### sorted(d), d a dict with tuple keys -/
section
variable {X : Cx}
def kvsN (xs : List NE) : List V := xs.map fun e => V.ref e.2.1
def rSortKeys (K : PySem.W.Frag) (w : World) : List V → Hp → VK → Prop := fun args H Q => ∃ (a : Addr) (xs : List NE) (ds : List D), args = [V.ref a] ∧ DnAt w H a xs ∧ DpAll K H (kvsN xs) (ds.map encD) ∧ Alike ds ∧
  ∀ p, H p = none → Q (.ref p) (upd H p (.lst ((((kvsN xs).zip ds).mergeSort ordD).map (·.1))))
theorem keys_vals : ∀ {xs : List NE} {ws : List (NestedKey × Addr × Value)}, NEs xs ws → Vals (kvsN xs) (ws.map fun x => Value.ref x.2.1)
  | _, _, .nil => .nil
  | _, _, .cons a b => .cons (by show Value.ref _ = Value.ref _; rw [a.2.1]) (keys_vals b)
theorem cr_sortKeys (hu : X.A.units + 65 < cLine) (hcalm : X.calm = true) : CallR X (.builtin "sorted") (rSortKeys X.K X.w) := by
  intro pins s σ H args us Q I rargs ⟨a, xs, ds, ea, hs, dp, al, q⟩
  subst ea
  rw [Vals.ref1 rargs]
  have len : (kvsN xs).length = ds.length := by simpa using dpAll_len dp
  obtain ⟨ws, rel, hz, lo, o, es, ep, e1, e2, e3, e4, _⟩ := dn_of I.hok hs
  have rv := keys_vals rel
  have lens : ws.length = xs.length := rel.len.symm
  have les : es.size = ws.length := by rw [← Array.length_toList, e4, List.length_map]
  obtain ⟨r1, r2⟩ := each_of I dp rv
  have lk : (kvsN xs).length = xs.length := by unfold kvsN; rw [List.length_map]
  refine sorted_from (G := fun us bs => us = (ws.map fun x => Value.ref x.2.1) ∧ bs = (kvsN xs).zip ds) hu (fun R E' h => ?_) (fun us bs ⟨g1, g2⟩ => ?_) fun us bs h1 h' tk out m p ⟨g1, g2⟩ k1 ep' k2 lo' eo at_ => ?_
  · refine PySem.W.kdu_collect (A := X.A.in1) (KdlSrc.rawDict (es := es) (ep := ep) lo) (I.ok.hd hcalm) ⟨o, e1, e2, e3⟩ (by rw [les, lens]; exact hz) fun h' tk acc hk hacc => ?_
    refine h h' tk acc.toList _ hk ⟨?_, rfl⟩
    apply List.ext_getElem?
    intro i
    rw [List.getElem?_map]
    cases hi : acc.toList[i]? with
    | none =>
      have : acc.toList.length ≤ i := List.getElem?_eq_none_iff.mp hi
      rw [Array.length_toList, hacc.1, les] at this
      rw [List.getElem?_eq_none this]; rfl
    | some v =>
      obtain ⟨hlt, ev⟩ := hacc.2 i v (by rw [← Array.getElem?_toList]; exact hi)
      have e5 : es.toList[i]? = some es[i] := by rw [Array.getElem?_toList, Array.getElem?_eq_getElem hlt]
      rw [e4, List.getElem?_map] at e5
      obtain ⟨w, ew, e6⟩ := Option.map_eq_some_iff.mp e5
      rw [ew, ev, ← e6]; rfl
  · subst g1 g2
    exact ⟨r1, r2, by rw [zip_snd len]; exact al, by rw [List.length_map, lens]; exact hz⟩
  · subst g1 g2
    have I1 : Inv X pins σ H { s with heap := h1, toks := tk } := I.kept k1
    have lz : ((((kvsN xs).zip ds).mergeSort ordD).map (·.1)).length ≤ sizeLine := by
      rw [List.length_map, (List.mergeSort_perm _ _).length_eq, List.length_zip, ← len, Nat.min_self, lk]; exact hz
    refine ⟨.ref p, upd H p (.lst ((((kvsN xs).zip ds).mergeSort ordD).map (·.1))), ?_, rfl, q p (I1.hok.fresh (Nat.le_of_eq ep'))⟩
    exact I1.laid (t' := tk) k2 (Nat.le_of_eq ep') ⟨lz, out, m, vals_each eo, at_⟩
end
/-- the keys of a live dict with tuple keys -/
def keysO : Option (Option MO) → Option (List D)
  | some (some (.dkt fs)) => some (fs.map (·.1))
  | some (some (.dk [])) => some []
  | _ => none
def keysM (M : Store) : D → Option (List D)
  | .loc n => keysO M[n]?
  | _ => none
open Classical in
/-- sorted(d), d a dict with tuple keys -/
noncomputable def sortKeysN (fr : List D → Py D) (d : D) : Py D := fun M => match keysM M d with
  | some ks => Py.chk ((pyL ks).isSome = true ∧ Alike ks) (fr (ks.mergeSort leD)) M
  | none => .bad
open Classical in
theorem sortKeysN_iff {fr : List D → Py D} {d : D} {M : Store} {ks : List D} {q : D → Store → Prop} {E : Exn → Store → Prop} (h : keysM M d = some ks) : Post (sortKeysN fr d M) q E ↔ ((pyL ks).isSome = true ∧ Alike ks) ∧ Post (fr (ks.mergeSort leD) M) q E := by
  unfold sortKeysN
  rw [h]
  exact post_chk
theorem sortKeysN_none {fr : List D → Py D} {d : D} {M : Store} {q : D → Store → Prop} {E : Exn → Store → Prop} (h : keysM M d = none) : ¬ Post (sortKeysN fr d M) q E := by
  unfold sortKeysN
  rw [h]
  exact fun z => z.elim
theorem keysM_rep {K : PySem.W.Frag} {g : G} {M : Store} {H : Hp} {v : V} {d : D} {ks : List D} (R : RelH K g M H) (r : Rep K g v d) (e : keysM M d = some ks) : ∃ a xs, v = .ref a ∧ DnAt g.w H a xs ∧ Reps K g (kvsN xs) ks := by
  cases d with
  | loc n =>
    cases r with
    | @loc _ a e1 =>
      have e' : keysO M[n]? = some ks := e
      cases hM : M[n]? with
      | none => rw [hM] at e'; cases e'
      | some o =>
        cases o with
        | none => rw [hM] at e'; cases e'
        | some o =>
          obtain ⟨a', e2, _, z⟩ := R.liv n _ hM
          rw [e1] at e2; cases e2
          rw [hM] at e'
          cases o with
          | dkt fs =>
            obtain ⟨xs, e4, t, r, d, z⟩ := z
            cases e'
            exact ⟨a, xs, rfl, dn_at R e4 (KN.of t r d z), t⟩
          | dk fs =>
            cases fs with
            | nil =>
              obtain ⟨vs, e4, t, _⟩ := z
              cases e'
              have e5 : vs = [] := List.eq_nil_of_length_eq_zero (by have := t.length; simpa using this)
              subst e5
              exact ⟨a, [], rfl, ⟨.inr ⟨rfl, e4⟩, fun _ h => nomatch h⟩, .nil⟩
            | cons _ _ => cases e'
          | _ => cases e'
  | _ => cases e
section
variable {C : DX}
open Classical in
theorem dc_sortKeys {fr : List D → Py D} (hf : FlOk C fr) (hu : C.X.A.units + 65 < cLine) (hcalm : C.X.calm = true) : DCl C (.builtin "sorted") (one (sortKeysN fr)) := dcl_one (cr_sortKeys hu hcalm) fun {g ρ M σ H v d} Q R r p => by
  have p0 : Post (sortKeysN fr d M) (QV C g ρ σ Q) (C.We ρ) := p
  cases hk : keysM M d with
  | none => exact (sortKeysN_none hk p0).elim
  | some ks =>
    obtain ⟨⟨hp, al⟩, q⟩ := (sortKeysN_iff hk).mp p0
    obtain ⟨a, xs, rfl, dn, t⟩ := keysM_rep R.h r hk
    obtain ⟨ps, e⟩ := Option.isSome_iff_exists.mp hp
    have dp := dps_of R.h.frz t e
    rw [pyL_enc e] at dp
    exact ⟨a, xs, ks, rfl, by rw [← R.w]; exact dn, dp, al, fun p hp => hf.run R hp (sort_reps t) q⟩
end
open Classical in
theorem sortKeys_rows {f : Nat} {M : Store} {xs : List (List Int)} {vf : List Int → D} {fr : List D → Py D} {Q : D → Store → Prop} {E : Exn → Store → Prop} (h : M[f]? = some (some (tabN (xs.map fun x => (tupI x, vf x))))) (ne : ∀ x ∈ xs, x ≠ []) (q : Post (fr ((sortR xs).map tupI) M) Q E) : Post (sortKeysN fr (.loc f) M) Q E := by
  have e : keysM M (.loc f) = some (xs.map tupI) := by
    show keysO M[f]? = _
    rw [h]
    cases xs with
    | nil => rfl
    | cons x r =>
      show some (((x :: r).map fun x => (tupI x, vf x)).map (·.1)) = _
      rw [List.map_map]; rfl
  refine (sortKeysN_iff e).mpr ⟨⟨by rw [pyL_rows]; rfl, alike_rows ne⟩, ?_⟩
  rw [sort_rows]; exact q
end L3
set_option Elab.async false
set_option linter.all false
set_option maxRecDepth 100000
set_option maxHeartbeats 4000000
set_option autoImplicit false
/-! raising, trying: plain law -/
namespace L3
open PySem PySem.Spec L2
open PyProof.Rows hiding St
section
variable {Q : D → Store → Prop} {QF : Fl → Store → Prop} {QL : List D → Store → Prop} {E : Exn → Store → Prop} {ρ : DEnv} {M : Store} {e : Exn} {x f : Str} {fs yes no : List Str} {o : Option Nat} {n : Nat} {b : Bool} {d : D}
variable {fe : DEnv → Py D} {ff : DEnv → Py (List D)} {sa : DEnv → Py Fl} {blk : Exn → Nat → DEnv → Py Fl} {h rest : Exn → DEnv → Py Fl}
@[simp] theorem p_sRaise : Post (sRaise x fs ff ρ M) QF E ↔ Post (ff ρ M) (fun ds M1 => (ds.length = fs.length ∧ ds.length ≤ 100) ∧ E ⟨x, putsD [] fs ds⟩ M1) E := by
  unfold sRaise
  rw [post_bnd]
  refine post_congr fun ds M1 => ?_
  rw [post_chk]
  exact Iff.rfl
@[simp] theorem p_sRaise0 : Post (sRaise0 x ρ M) QF E ↔ E ⟨x, []⟩ M := Iff.rfl
@[simp] theorem p_sTry : Post (sTry sa h ρ M) QF E ↔ Post (sa ρ M) QF (fun e M' => Post (h e ρ M') QF E) := sTry_post
@[simp] theorem p_cEnd : Post (cEnd e ρ M) QF E ↔ E e M := Iff.rfl
@[simp] theorem p_cCla : Post (cCla yes no o blk rest e ρ M) QF E ↔ if e.cls ∈ yes then Post (blk e M.length (bindD o M.length ρ) (M ++ [none])) (fun r M' => QF (goneF o r) M') (fun _ _ => False) else if e.cls ∈ no then Post (rest e ρ M) QF E else False := by
  unfold cCla
  by_cases h1 : e.cls ∈ yes
  · rw [if_pos h1, if_pos h1, post_bnd, noX_iff]
    exact Iff.rfl
  · rw [if_neg h1, if_neg h1]
    by_cases h2 : e.cls ∈ no
    · rw [if_pos h2, if_pos h2]
    · rw [if_neg h2, if_neg h2]; exact Iff.rfl
@[simp] theorem bindD_some {i : Nat} : bindD (some i) n ρ = ρ.set i (some (.loc n)) := rfl
@[simp] theorem bindD_none : bindD none n ρ = ρ := rfl
@[simp] theorem goneF_nx {i : Nat} : goneF (some i) (.nx ρ) = .nx (ρ.set i none) := rfl
@[simp] theorem goneF_rt {i : Nat} : goneF (some i) (.rt d) = .rt d := rfl
@[simp] theorem goneF_none {r : Fl} : goneF none r = r := rfl
@[simp] theorem isHeld_loc : isHeld n (.loc n) = true := by simp [isHeld]
@[simp] theorem p_eExIs : Post (eExIs n b fe ρ M) Q E ↔ Post (fe ρ M) (fun d M1 => isHeld n d = true ∧ Q (.bl b) M1) E := by
  unfold eExIs
  rw [post_bnd]
  exact post_congr fun d M1 => post_chk
@[simp] theorem p_eExF : Post (eExF n e f fe ρ M) Q E ↔ Post (fe ρ M) (fun d M1 => isHeld n d = true ∧ SomeP (e.fs.lookup f) fun v => Q v M1) E := by
  unfold eExF
  rw [post_bnd]
  refine post_congr fun d M1 => post_chk.trans (and_congr_right fun _ => ?_)
  cases e.fs.lookup f <;> exact Iff.rfl
@[simp] theorem putsD_one {v : D} : putsD [] [f] [v] = [(f, v)] := rfl
@[simp] theorem look_hit {v : D} {r : List (Str × D)} : ((f, v) :: r).lookup f = some v := List.lookup_cons_self
end
end L3
set_option Elab.async false
set_option linter.all false
set_option maxRecDepth 100000
set_option maxHeartbeats 4000000
set_option autoImplicit false
/-! webs' parts, and other plain things that several laws want -/
namespace L3
open PySem PySem.Spec L2
open PyProof.Rows hiding St
/-- but for n the store is as it was -/
def ButN (n : Nat) (M M' : Store) : Prop := M'.length = M.length ∧ ∀ m, m ≠ n → M'[m]? = M[m]?
@[simp] theorem butN_refl {n : Nat} {M : Store} : ButN n M M := ⟨rfl, fun _ _ => rfl⟩
@[simp] theorem butN_set {n : Nat} {M M' : Store} {o : Option MO} : ButN n M (M'.set n o) ↔ ButN n M M' := by
  unfold ButN
  rw [List.length_set]
  refine and_congr_right fun _ => forall_congr' fun m => forall_congr' fun h => ?_
  rw [List.getElem?_set_ne (Ne.symm h)]
theorem ButN.trans {n : Nat} {A B C : Store} (h : ButN n A B) (k : ButN n B C) : ButN n A C := ⟨k.1.trans h.1, fun m e => (k.2 m e).trans (h.2 m e)⟩
def isNum (d : D) (a b : Int) : Bool := match d with
  | .int i => decide (a ≤ i) && decide (i ≤ b)
  | _ => false
/-- the parts of a web -/
structure Parts where
  many : Int
  hues : List Int
  ties : List (List Int)
def TieOk (m : Int) (t : List Int) : Prop := ∃ k b e : Int, t = [k, b, e] ∧ (0 ≤ k ∧ k ≤ 3) ∧ (0 ≤ b ∧ b < m) ∧ 0 ≤ e ∧ e < m
structure Good (p : Parts) : Prop where
  m1 : 1 ≤ p.many
  m2 : p.many ≤ 40
  hl : (p.hues.length : Int) = p.many
  hh : ∀ h ∈ p.hues, 0 ≤ h ∧ h ≤ 9
  tl : p.ties.length ≤ 1600
  tt : ∀ t ∈ p.ties, TieOk p.many t
  ts : p.ties.Pairwise fun a b => ltR a b = true
def Parts.d (p : Parts) : D := .tup [.int p.many, .tup (p.hues.map .int), .tup (p.ties.map tupI)]
theorem strict_of {xs : List (List Int)} (nd : xs.Nodup) (h : xs.Pairwise fun a b => leR a b = true) : xs.Pairwise fun a b => ltR a b = true := by
  refine (List.Pairwise.and nd h).imp fun {a b} ⟨ne, le⟩ => ?_
  cases z : ltR a b with
  | true => rfl
  | false =>
    have k : ltR b a = false := by unfold leR at le; simpa using le
    exact (ne (ltR_tri z k)).elim
theorem sortR_dd_good {m : Int} {xs : List (List Int)} (h : ∀ t ∈ xs, TieOk m t) : (∀ t ∈ sortR (ddR xs), TieOk m t) ∧ (sortR (ddR xs)).length ≤ xs.length ∧ (sortR (ddR xs)).Pairwise fun a b => ltR a b = true := by
  refine ⟨fun t ht => h t ((ddR_mem _ _).mp ((sortR_perm _).mem_iff.mp ht)), ?_, strict_of ((sortR_perm _).nodup_iff.mpr (ddR_nodup _)) (sortR_asc _)⟩
  rw [(sortR_perm _).length_eq]
  exact ddR_sub xs
theorem ints_of {P : Int → Prop} : ∀ {zs : List D}, (∀ d ∈ zs, ∃ j : Int, d = .int j ∧ P j) → ∃ ns : List Int, zs = ns.map D.int ∧ ∀ j ∈ ns, P j
  | [], _ => ⟨[], rfl, by simp⟩
  | z :: zs, h => by
    obtain ⟨j, rfl, hj⟩ := h z (List.mem_cons_self ..)
    obtain ⟨ns, rfl, hn⟩ := ints_of fun d hd => h d (List.mem_cons_of_mem _ hd)
    exact ⟨j :: ns, rfl, by simp; exact ⟨hj, hn⟩⟩
open Classical in
theorem sortSetR_l {f : Nat} {M : Store} {xs : List (List Int)} {fr : List D → Py D} {Q : D → Store → Prop} {E : Exn → Store → Prop} (h : M[f]? = some (some (.lst (xs.map tupI)))) : Post (sortSetR fr [.loc f] M) Q E ↔ setRK xs ∧ Post (fr ((sortR (ddR xs)).map tupI) M) Q E := by
  refine post_bnd.trans ?_
  show Post (items (.loc f) M) _ E ↔ _
  rw [p_items_loc h, rowsOf_map]
  exact post_chk
theorem pot_other {n f : Nat} {M : Store} {o : Option MO} (h : Pot n M) (ne : n ≠ f) : Pot n (M.set f o) := by
  obtain ⟨cs, a, b, c, d, e, ha⟩ := h
  exact ⟨cs, a, b, c, d, by rw [List.getElem?_set_ne (Ne.symm ne)]; exact e, ha⟩
open Classical in
theorem sortN_rows {f : Nat} {M : Store} {xs : List (List Int)} {fr : List D → Py D} {Q : D → Store → Prop} {E : Exn → Store → Prop} (h : M[f]? = some (some (.lst (xs.map tupI)))) (ne : ∀ x ∈ xs, x ≠ []) (q : Post (fr ((sortR xs).map tupI) M) Q E) : Post (sortN fr (.loc f) M) Q E := by
  refine post_bnd.mpr ?_
  rw [p_items_loc h]
  refine post_chk.mpr ⟨⟨by rw [pyL_rows]; rfl, alike_rows ne⟩, ?_⟩
  rw [sort_rows]; exact q
theorem ltR_two {a b c d : Int} : ltR [a, b] [c, d] = true ↔ a < c ∨ (a = c ∧ b < d) := by
  simp [ltR]
theorem eqvAll_ints : ∀ a b : List Int, PyData.eqvAll (a.map PyData.int) (b.map PyData.int) = decide (a = b)
  | [], [] => by simp [PyData.eqvAll]
  | [], _ :: _ => by simp [PyData.eqvAll]
  | _ :: _, [] => by simp [PyData.eqvAll]
  | a :: r, b :: s => by
    rw [List.map_cons, List.map_cons, PyData.eqvAll, eqvAll_ints r s, eqv_int]
    by_cases h : a = b <;> simp [h]
theorem eqv_rows (a b : List Int) : PyData.eqv (.tuple (a.map PyData.int)) (.tuple (b.map PyData.int)) = decide (a = b) := by
  rw [PyData.eqv]; exact eqvAll_ints a b
theorem canLay_ints : ∀ ns : List Int, PyData.canLayAll0 (ns.map PyData.int) = true
  | [] => rfl
  | n :: ns => by simp [PyData.canLayAll0, canLay_ints ns, PyData.canLay0]
theorem shaped_row (r : List Int) : SeqAt.shaped (.tuple (r.map PyData.int)) = true := by
  unfold SeqAt.shaped
  have h := depth_tupI r
  simp only [PyData.canLay0, canLay_ints, Bool.true_and, decide_eq_true_eq]
  omega
theorem shaped_rows (rs : List (List Int)) : SeqAt.shaped (.list (rs.map fun r => .tuple (r.map PyData.int))) = true := by
  have h1 : PyData.canLayAll0 (rs.map fun r => .tuple (r.map PyData.int)) = true := by
    induction rs with
    | nil => rfl
    | cons r rs ih => simp [PyData.canLayAll0, ih, PyData.canLay0, canLay_ints]
  have h2 : PyData.depthAll (rs.map fun r => .tuple (r.map PyData.int)) ≤ 1 := by
    clear h1
    induction rs with
    | nil => simp [PyData.depthAll]
    | cons r rs ih =>
      have h := depth_tupI r
      simp only [List.map_cons, PyData.depthAll]
      exact Nat.max_le.mpr ⟨h, ih⟩
  unfold SeqAt.shaped
  rw [PyData.canLay0, h1, Bool.true_and, decide_eq_true_eq, PyData.depth]
  exact Nat.le_trans (Nat.add_le_add_right h2 1) (by decide)
theorem pyL_rows' (rs : List (List Int)) : pyL (rs.map tupI) = some (rs.map fun r => .tuple (r.map PyData.int)) := by
  rw [pyL_rows, List.map_map]
  congr 1
  exact List.map_congr_left fun r _ => encD_tupI r
theorem any_rows (r : List Int) : ∀ rs : List (List Int), ((rs.map fun r => PyData.tuple (r.map PyData.int)).any fun z => PyData.eqv z (.tuple (r.map PyData.int))) = decide (r ∈ rs)
  | [] => rfl
  | x :: rs => by
    rw [List.map_cons, List.any_cons, any_rows r rs, eqv_rows]
    by_cases h : x = r
    · subst h; simp
    · have h' : ¬ r = x := fun e => h e.symm
      simp [h, h']
theorem notInU_rows {r : List Int} {rs : List (List Int)} {M : Store} {Q : D → Store → Prop} {E : Exn → Store → Prop} : Post (notInU (tupI r) (.tup (rs.map tupI)) M) Q E ↔ Q (.bl (!decide (r ∈ rs))) M := by
  have e1 : pyM M (tupI r) = some (.tuple (r.map PyData.int)) := pyM_eq (by show (pyL _).map _ = _; rw [pyL_ints]; rfl)
  have e2 : pyM M (.tup (rs.map tupI)) = some (.tuple (rs.map fun r => .tuple (r.map PyData.int))) := pyM_eq (by show (pyL _).map _ = _; rw [pyL_rows']; rfl)
  show Post (inDeep true (tupI r) (.tup (rs.map tupI)) M) Q E ↔ _
  unfold inDeep
  rw [e1, e2]
  dsimp only
  rw [shaped_row, shaped_rows, any_rows]
  exact Iff.rfl
theorem two_if {a b A B : Prop} [Decidable a] [Decidable b] (hA : a → b → A) (hB : B) : if a then (if b then A else B) else B := by
  by_cases h : a
  · rw [if_pos h]
    by_cases k : b
    · rw [if_pos k]; exact hA h k
    · rw [if_neg k]; exact hB
  · rw [if_neg h]; exact hB
theorem cut_to {α : Type} {f : α → D} {xs : List α} {t : Int} (h0 : 0 ≤ t) (h1 : t ≤ xs.length) : L3.cutD (xs.map f) none (some t) = (xs.take t.toNat).map f := by
  obtain ⟨k, rfl⟩ := Int.eq_ofNat_of_zero_le h0
  rw [cutD_map, HT.sIx_nat, HT.sIx_none, List.drop_zero, Nat.sub_zero, Nat.min_eq_left (by omega), Int.toNat_natCast]
theorem cut_from {α : Type} {f : α → D} {xs : List α} {t : Int} (h0 : 0 ≤ t) (h1 : t ≤ xs.length) : L3.cutD (xs.map f) (some t) none = (xs.drop t.toNat).map f := by
  obtain ⟨k, rfl⟩ := Int.eq_ofNat_of_zero_le h0
  rw [cutD_map, HT.sIx_nat, HT.sIx_none, Nat.min_eq_left (by omega), Int.toNat_natCast, ← List.length_drop, List.take_length]
open Classical in
theorem sortN_tup {M : Store} {xs : List (List Int)} {fr : List D → Py D} {Q : D → Store → Prop} {E : Exn → Store → Prop} (ne : ∀ x ∈ xs, x ≠ []) (q : Post (fr ((sortR xs).map tupI) M) Q E) : Post (sortN fr (.tup (xs.map tupI)) M) Q E := by
  refine post_bnd.mpr ?_
  refine post_chk.mpr ⟨⟨by rw [pyL_rows]; rfl, alike_rows ne⟩, ?_⟩
  rw [sort_rows]; exact q
@[simp] theorem strsOf_mapF {α : Type} {f : α → Str} {l : List α} : strsOf (l.map fun x => D.str (f x)) = some (l.map f) := by
  rw [show (l.map fun x => D.str (f x)) = (l.map f).map D.str by rw [List.map_map]; rfl]; exact L3.strsOf_map _
theorem look_skip {k k' : Str} {v : D} {r : List (Str × D)} (h : (k == k') = false) : ((k', v) :: r).lookup k = r.lookup k := by
  rw [List.lookup_cons, h]
def webF (p : Parts) (tp : D) : List (Str × D) := [(Str.ofString "many", .int p.many), (Str.ofString "hues", .tup (p.hues.map .int)), (Str.ofString "ties", .tup (p.ties.map tupI)), (Str.ofString "tie_places", tp)]
def webD (p : Parts) (tp : D) : D := .ins (Str.ofString "Web") (webF p tp)
@[simp] theorem lk_many {p : Parts} {tp : D} : (webF p tp).lookup (Str.ofString "many") = some (.int p.many) := rfl
@[simp] theorem lk_hues {p : Parts} {tp : D} : (webF p tp).lookup (Str.ofString "hues") = some (.tup (p.hues.map .int)) := by
  unfold webF
  rw [look_skip (by decide)]; exact List.lookup_cons_self
@[simp] theorem lk_ties {p : Parts} {tp : D} : (webF p tp).lookup (Str.ofString "ties") = some (.tup (p.ties.map tupI)) := by
  unfold webF
  rw [look_skip (by decide), look_skip (by decide)]; exact List.lookup_cons_self
def optP : Option Int → PyData
  | some n => .int n
  | none => .none
theorem pyL_opts : ∀ os : List (Option Int), pyL (os.map optI) = some (os.map optP)
  | [] => rfl
  | o :: os => by
    show (pyD (optI o)).bind _ = _
    have e : pyD (optI o) = some (optP o) := by cases o <;> rfl
    rw [e]
    show (pyL (os.map optI)).map _ = _
    rw [pyL_opts os]; rfl
theorem shaped_opts (os : List (Option Int)) : SeqAt.shaped (.list (os.map optP)) = true := by
  have h1 : PyData.canLayAll0 (os.map optP) = true := by
    induction os with
    | nil => rfl
    | cons o os ih => cases o <;> simp [PyData.canLayAll0, ih, PyData.canLay0, optP]
  have h2 : PyData.depthAll (os.map optP) = 0 := by
    clear h1
    induction os with
    | nil => simp [PyData.depthAll]
    | cons o os ih => cases o <;> simp [PyData.depthAll, ih, PyData.depth, optP]
  unfold SeqAt.shaped
  simp only [PyData.canLay0, PyData.depth, h1, h2]; rfl
theorem any_none : ∀ os : List (Option Int), ((os.map optP).any fun z => PyData.eqv z .none) = decide (none ∈ os)
  | [] => rfl
  | o :: os => by
    rw [List.map_cons, List.any_cons, any_none os]
    cases o with
    | none =>
      have e : PyData.eqv (optP none) .none = true := by simp only [PyData.eqv, optP]
      rw [e]; simp
    | some n =>
      have e : PyData.eqv (optP (some n)) .none = false := by simp only [PyData.eqv, optP]
      rw [e]; simp
theorem non_in {os : List (Option Int)} {M : Store} {Q : D → Store → Prop} {E : Exn → Store → Prop} : Post (inU .non (.tup (os.map optI)) M) Q E ↔ Q (.bl (decide (none ∈ os))) M := by
  have e1 : pyM M D.non = some .none := rfl
  have e2 : pyM M (.tup (os.map optI)) = some (.tuple (os.map optP)) := pyM_eq (by show (pyL _).map _ = _; rw [pyL_opts]; rfl)
  show Post (inDeep false .non (.tup (os.map optI)) M) Q E ↔ _
  unfold inDeep
  rw [e1, e2]
  dsimp only
  rw [shaped_opts, any_none]
  exact Iff.rfl
open Classical in
theorem p_ltN_rows {a b : List Int} {M : Store} {Q : D → Store → Prop} {E : Exn → Store → Prop} : Post (cmpN false false (tupI a) (tupI b) M) Q E ↔ Q (.bl (ltR a b)) M := by
  have e1 : ∀ r : List Int, pyM M (tupI r) = some (.tuple (r.map PyData.int)) := fun r => pyM_eq (by show (pyL _).map _ = _; rw [pyL_ints]; rfl)
  unfold cmpN
  rw [e1, e1]
  refine post_chk.trans ?_
  have h1 : PySem.W.alike (.tuple (a.map .int)) (.tuple (b.map .int)) = true := by simpa [PySem.W.alike] using PySem.W.alike_ints a b
  have h2 : (PyData.tuple (a.map .int)) ≠ .none := by intro e; cases e
  have h3 : (PyData.tuple (a.map .int)).depth < 60 := Nat.lt_of_le_of_lt (depth_tupI a) (by decide)
  rw [post_ret]
  simp only [Bool.false_eq_true, if_false, dataLt_tupI]
  exact ⟨fun h => h.2, fun h => ⟨⟨h1, h2, h3⟩, h⟩⟩
@[simp] theorem ne01 : (Str.ofString "many" = Str.ofString "hues") = False := eq_false (by decide)
@[simp] theorem ne02 : (Str.ofString "many" = Str.ofString "ties") = False := eq_false (by decide)
@[simp] theorem ne03 : (Str.ofString "many" = Str.ofString "tie_places") = False := eq_false (by decide)
@[simp] theorem ne12 : (Str.ofString "hues" = Str.ofString "ties") = False := eq_false (by decide)
@[simp] theorem ne13 : (Str.ofString "hues" = Str.ofString "tie_places") = False := eq_false (by decide)
@[simp] theorem ne23 : (Str.ofString "ties" = Str.ofString "tie_places") = False := eq_false (by decide)
@[simp] theorem p_isN {neg : Bool} {x : D} {M : Store} {Q : D → Store → Prop} {E : Exn → Store → Prop} : Post (isN neg x .non M) Q E ↔ Q (.bl (if neg then !L3.isNon x else L3.isNon x)) M := Iff.rfl
@[simp] theorem isNon_tup {xs : List D} : L3.isNon (.tup xs) = false := rfl
@[simp] theorem isNon_int {i : Int} : L3.isNon (.int i) = false := rfl
@[simp] theorem isNon_non : L3.isNon .non = true := rfl
theorem cut_last {xs : List D} {y : D} : L3.cutD (xs ++ [y]) none (some (-1)) = xs := by
  unfold L3.cutD
  rw [HT.sIx_none]
  show ((xs ++ [y]).drop 0).take ((if (-1 : Int) < 0 then ((-1 : Int) + ((xs ++ [y]).length : Int)).toNat else min (-1 : Int).toNat (xs ++ [y]).length) - 0) = xs
  rw [if_pos (by decide), List.drop_zero, List.length_append]
  have : ((-1 : Int) + ((xs.length + [y].length : Nat) : Int)).toNat - 0 = xs.length := by
    have : [y].length = 1 := rfl
    omega
  rw [this, List.take_left']
  rfl
theorem atP_last {xs : List D} {y : D} {P : D → Prop} : AtP (xs ++ [y]) (-1) P ↔ P y := by
  rw [atP_iff]
  have e : atI (xs ++ [y]) (-1) = some y := by
    unfold atI
    have : ixN (xs ++ [y]).length (-1) = some xs.length := by
      unfold ixN
      rw [List.length_append]
      simp
      omega
    rw [this]; simp
  rw [e]; simp
theorem p_sl_loc {n : Nat} {xs : List D} {lo hi : Option Int} {M : Store} {Q : D → Store → Prop} {E : Exn → Store → Prop} (h : M[n]? = some (some (.lst xs))) : Post (slD (.loc n) lo hi M) Q E ↔ Q (.lst (L3.cutD xs lo hi)) M := by
  show Post (Py.bnd (litems (.loc n)) (fun xs => Py.ret (.lst (L3.cutD xs lo hi))) M) Q E ↔ _
  rw [post_bnd]
  exact p_items_loc h
theorem cut_from_2 {a b : D} {r : List D} : L3.cutD (a :: b :: r) (some 2) none = r := by
  have := cut_from (f := fun d : D => d) (xs := a :: b :: r) (t := 2) (by decide) (by simp; omega)
  simpa using this
instance : DecidableEq Parts := fun p q =>
  if h : p.many = q.many ∧ p.hues = q.hues ∧ p.ties = q.ties then isTrue (by
    obtain ⟨a, b, c⟩ := p; obtain ⟨a', b', c'⟩ := q
    obtain ⟨h1, h2, h3⟩ := h
    simp only at h1 h2 h3
    subst h1 h2 h3; rfl)
  else isFalse fun e => h (by subst e; exact ⟨rfl, rfl, rfl⟩)
theorem eqvAll_rows : ∀ a b : List (List Int), PyData.eqvAll (a.map fun r => .tuple (r.map PyData.int)) (b.map fun r => .tuple (r.map PyData.int)) = decide (a = b)
  | [], [] => by simp [PyData.eqvAll]
  | [], _ :: _ => by simp [PyData.eqvAll]
  | _ :: _, [] => by simp [PyData.eqvAll]
  | a :: r, b :: s => by
    rw [List.map_cons, List.map_cons, PyData.eqvAll, eqvAll_rows r s, eqv_rows]
    by_cases h : a = b <;> simp [h]
def pd (p : Parts) : PyData := .tuple [.int p.many, .tuple (p.hues.map PyData.int), .tuple (p.ties.map fun r => .tuple (r.map PyData.int))]
theorem pyM_parts (p : Parts) {M : Store} : pyM M p.d = some (pd p) := pyM_eq (by
  show (pyL [.int p.many, .tup (p.hues.map .int), .tup (p.ties.map tupI)]).map PyData.tuple = _
  have e1 : pyD (.tup (p.hues.map .int)) = some (.tuple (p.hues.map PyData.int)) := by show (pyL _).map _ = _; rw [pyL_ints]; rfl
  have e2 : pyD (.tup (p.ties.map tupI)) = some (.tuple (p.ties.map fun r => .tuple (r.map PyData.int))) := by show (pyL _).map _ = _; rw [pyL_rows']; rfl
  have e3 : pyL [.int p.many, .tup (p.hues.map .int), .tup (p.ties.map tupI)] = some [.int p.many, .tuple (p.hues.map PyData.int), .tuple (p.ties.map fun r => .tuple (r.map PyData.int))] := by
    show (pyD (.int p.many)).bind (fun a => ((pyD (.tup (p.hues.map .int))).bind fun b => ((pyD (.tup (p.ties.map tupI))).bind fun c => ((pyL []).map fun r => c :: r)).map fun r => b :: r).map fun r => a :: r) = _
    rw [e1, e2]; rfl
  rw [e3]; rfl)
theorem eqv_parts (p q : Parts) : PyData.eqv (pd p) (pd q) = decide (p = q) := by
  obtain ⟨a, b, c⟩ := p
  obtain ⟨a', b', c'⟩ := q
  unfold pd
  simp only [PyData.eqv, PyData.eqvAll, eqvAll_ints, eqvAll_rows]
  rw [Bool.eq_iff_iff]
  simp [Parts.mk.injEq]
theorem shaped_parts (p : Parts) : SeqAt.shaped (pd p) = true := by
  have h1 : PyData.canLayAll0 (p.ties.map fun r => .tuple (r.map PyData.int)) = true := by
    generalize p.ties = rs
    induction rs with
    | nil => rfl
    | cons r rs ih => simp [PyData.canLayAll0, ih, PyData.canLay0, canLay_ints]
  have h2 : PyData.depthAll (p.ties.map fun r => .tuple (r.map PyData.int)) ≤ 1 := by
    clear h1
    generalize p.ties = rs
    induction rs with
    | nil => simp [PyData.depthAll]
    | cons r rs ih =>
      have h := depth_tupI r
      simp only [List.map_cons, PyData.depthAll]
      exact Nat.max_le.mpr ⟨h, ih⟩
  have h3 := depth_tupI p.hues
  have h4 : (pd p).depth ≤ 3 := by
    unfold pd
    simp only [PyData.depth, PyData.depthAll] at *
    omega
  have h5 : (pd p).canLay0 = true := by
    unfold pd
    simp only [PyData.canLay0, PyData.canLayAll0, h1, canLay_ints, Bool.true_and]
  unfold SeqAt.shaped
  rw [h5, Bool.true_and, decide_eq_true_eq]
  exact Nat.le_trans h4 (by decide)
theorem tyD_N {x : D} {t : String} (h : tyD x = some t) (M : Store) : tyN M x = some t := by
  cases x <;> first | exact h | cases h
theorem p_isi2 {x : D} {t : String} {a b : String} {M : Store} {Q : D → Store → Prop} {E : Exn → Store → Prop} (h : tyD x = some t) (ha : allTs.contains a = true) (hb : allTs.contains b = true) : Post (isiTs allTs x (.tup [.ty a, .ty b]) M) Q E ↔ Q (.bl (isT a t || isT b t)) M := by
  show Post (Py.chk ([a, b].all allTs.contains = true) (tyAny [a, b] x) M) Q E ↔ _
  rw [post_chk]
  have e : [a, b].all allTs.contains = true := by
    show (allTs.contains a && (allTs.contains b && true)) = true
    rw [ha, hb]; rfl
  have e2 : tyAny [a, b] x M = .ok (.bl (isT a t || isT b t)) M := by
    unfold tyAny
    rw [tyD_N h M]
    show Out.ok (D.bl (isT a t || (isT b t || false))) M = _
    rw [Bool.or_false]
  rw [e2]
  exact ⟨fun h => h.2, fun h => ⟨e, h⟩⟩
@[simp] theorem isi2_int {i : Int} {M : Store} {Q : D → Store → Prop} {E : Exn → Store → Prop} : Post (isiTs allTs (.int i) (.tup [.ty "tuple", .ty "list"]) M) Q E ↔ Q (.bl false) M := (p_isi2 (t := "int") (a := "tuple") (b := "list") rfl (by decide) (by decide)).trans (by simp [isT])
@[simp] theorem isi2_bl {i : Bool} {M : Store} {Q : D → Store → Prop} {E : Exn → Store → Prop} : Post (isiTs allTs (.bl i) (.tup [.ty "tuple", .ty "list"]) M) Q E ↔ Q (.bl false) M := (p_isi2 (t := "bool") (a := "tuple") (b := "list") rfl (by decide) (by decide)).trans (by simp [isT])
@[simp] theorem isi2_str {i : Str} {M : Store} {Q : D → Store → Prop} {E : Exn → Store → Prop} : Post (isiTs allTs (.str i) (.tup [.ty "tuple", .ty "list"]) M) Q E ↔ Q (.bl false) M := (p_isi2 (t := "str") (a := "tuple") (b := "list") rfl (by decide) (by decide)).trans (by simp [isT])
@[simp] theorem isi2_non {M : Store} {Q : D → Store → Prop} {E : Exn → Store → Prop} : Post (isiTs allTs .non (.tup [.ty "tuple", .ty "list"]) M) Q E ↔ Q (.bl false) M := (p_isi2 (t := "NoneType") (a := "tuple") (b := "list") rfl (by decide) (by decide)).trans (by simp [isT])
@[simp] theorem isi2_tup {xs : List D} {M : Store} {Q : D → Store → Prop} {E : Exn → Store → Prop} : Post (isiTs allTs (.tup xs) (.tup [.ty "tuple", .ty "list"]) M) Q E ↔ Q (.bl true) M := (p_isi2 (t := "tuple") (a := "tuple") (b := "list") rfl (by decide) (by decide)).trans (by simp [isT])
@[simp] theorem isi2_lst {xs : List D} {M : Store} {Q : D → Store → Prop} {E : Exn → Store → Prop} : Post (isiTs allTs (.lst xs) (.tup [.ty "tuple", .ty "list"]) M) Q E ↔ Q (.bl true) M := (p_isi2 (t := "list") (a := "tuple") (b := "list") rfl (by decide) (by decide)).trans (by simp [isT])
@[simp] theorem p_zip2 {fa fb : DEnv → Py D} {ρ : DEnv} {M : Store} {Q : Wk → Store → Prop} {E : Exn → Store → Prop} : Post (iZipD (aCons fa (aCons fb aNil)) ρ M) Q E ↔ Post (fa ρ M) (fun x M1 => Post (fb ρ M1) (fun y M2 => Post (zipP x y M2) Q E) E) E := by
  unfold iZipD; rw [post_bnd]
  simp
  exact Iff.rfl
@[simp] theorem p_zipP_tup {xs ys : List D} {M : Store} {Q : Wk → Store → Prop} {E : Exn → Store → Prop} : Post (zipP (.tup xs) (.tup ys) M) Q E ↔ Q ⟨zipD xs ys, fun _ => True⟩ M := Iff.rfl
@[simp] theorem p_eq_non {neg : Bool} {M : Store} {Q : D → Store → Prop} {E : Exn → Store → Prop} : Post (eqS neg .non .non M) Q E ↔ Q (.bl (!neg)) M := by
  have := p_eqP (neg := neg) (x := .non) (y := .non) (M := M) (Q := Q) (E := E) (p := .none) (q := .none) rfl rfl rfl rfl
  have e : PyData.eqv .none .none = true := by simp only [PyData.eqv]
  rw [e] at this
  cases neg <;> exact this
theorem zip_self (xs : List D) : zipD xs xs = xs.map fun x => .tup [x, x] := by
  induction xs with
  | nil => rfl
  | cons x xs ih => show D.tup [x, x] :: zipD xs xs = _; rw [ih]; rfl
/-- data that _law_same with this fuel finds the same as itself -/
inductive Sm : Nat → D → Prop
  | int {k i} : Sm (k + 1) (.int i)
  | bl {k i} : Sm (k + 1) (.bl i)
  | str {k i} : Sm (k + 1) (.str i)
  | non {k} : Sm (k + 1) .non
  | tup {k xs} : xs.length ≤ sizeLine → (∀ x ∈ xs, Sm k x) → Sm (k + 1) (.tup xs)
theorem ltR_self_no {xs : List (List Int)} (ts : xs.Pairwise fun a b => ltR a b = true) : xs.Nodup := ts.imp fun {a b} h e => by subst e; rw [ltR_irrefl] at h; cases h
end L3
set_option Elab.async false
set_option linter.all false
set_option maxRecDepth 100000
set_option maxHeartbeats 4000000
set_option autoImplicit false
/-! x * k: numbers, tuples, texts, lists -/
namespace L3
open PySem PySem.Spec L2
open PyProof.Rows hiding St
section
variable {X : Cx}
def rMulS : R2 := fun x y H Q => ∃ z k, x = .str z ∧ y = .int k ∧ 1 ≤ k ∧ k ≤ 1000 ∧ z.length ≤ 1000 ∧ Q (.str (Txt.mul z k)) H
theorem op_mul_str : OpR X (binaryOp .Mult) rMulS := by
  intro pins s σ H x y v u Q I rx ry ⟨z, k, ex, ey, k1, k2, hz, q⟩
  subst ex ey
  obtain ⟨t, rfl⟩ := rx
  obtain ⟨t', rfl⟩ := ry
  refine SB.mul ⟨?_, fun _ _ => ?_, fun _ _ => ?_⟩ fun t2 tk => ⟨.str (Txt.mul z k), H, I.tok _, ⟨_, rfl⟩, q⟩
  · rw [decide_eq_false (by omega), decide_eq_false (by omega)]; rfl
  · have h1 : (1000 : Int) ≤ (2 ^ 63 - 1) / k := (Int.le_ediv_iff_mul_le (by omega)).mpr (by omega)
    omega
  · have : z.length * k.toNat ≤ 1000 * 1000 := Nat.mul_le_mul hz (by omega)
    unfold Builtin.Str.tooLong
    rw [decide_eq_false]
    rw [PySem.sizeLine_eq]; omega
end
def mulT (xs : List D) : D → Py D
  | .int k => Py.chk (xs ≠ [] ∧ 2 ≤ k ∧ k ≤ 1000 ∧ xs.length ≤ 1000) (Py.ret (.tup (List.replicate k.toNat xs).flatten))
  | _ => Py.bad
def mulS (z : Str) : D → Py D
  | .int k => Py.chk (1 ≤ k ∧ k ≤ 1000 ∧ z.length ≤ 1000) (Py.ret (.str (Txt.mul z k)))
  | _ => Py.bad
def mulT' (x y : D) : Py D := match x with
  | .tup xs => mulT xs y
  | _ => Py.bad
def mulS' (x y : D) : Py D := match x with
  | .str z => mulS z y
  | _ => Py.bad
/-- * of an int, a tuple, a text, a list -/
def mulU (x y : D) : Py D := match x with
  | .int _ => mulI x y
  | .tup xs => mulT xs y
  | .str z => mulS z y
  | _ => mulL x y
section
variable {C : DX}
theorem do_mulT' : DOp C (binaryOp .Mult) mulT' := DOp.of op_repT fun {g ρ M σ H x y dx dy} Q R rx ry p => by
  cases dx with
  | tup xs =>
    cases dy with
    | int k =>
      obtain ⟨⟨a, b, c, d⟩, q⟩ := post_chk.mp p
      cases rx with
      | @tup l vs _ s t =>
        refine ⟨l, k, vs, rfl, rep_int ry, .of (R.h.frz _ _ s), fun e => a (by have := t.length; rw [e] at this; exact List.eq_nil_of_length_eq_zero this.symm), b, c, by rw [t.length]; exact d, fun p hp => ?_⟩
        exact QV.lay q R hp (rep_tup_new (t.rep _) (R.h.fnone hp))
    | _ => exact p.elim
  | _ => exact p.elim
theorem do_mulS' : DOp C (binaryOp .Mult) mulS' := DOp.of op_mul_str fun {g ρ M σ H x y dx dy} Q R rx ry p => by
  cases dx with
  | str z =>
    cases dy with
    | int k =>
      obtain ⟨⟨a, b, c⟩, q⟩ := post_chk.mp p
      exact ⟨z, k, rep_str rx, rep_int ry, a, b, c, QV.here q R (.str _)⟩
    | _ => exact p.elim
  | _ => exact p.elim
theorem do_mulU : DOp C (binaryOp .Mult) mulU := by
  intro g ρ M σ H x y dx dy v u pins s Q R I rx ry r1 r2 p
  cases dx with
  | int i => exact do_mulI Q R I rx ry r1 r2 p
  | tup xs => exact do_mulT' Q R I rx ry r1 r2 p
  | str z => exact do_mulS' Q R I rx ry r1 r2 p
  | _ => exact do_mulL Q R I rx ry r1 r2 p
end
section
variable {Q : D → Store → Prop} {E : Exn → Store → Prop} {M : Store} {i k : Int} {xs : List D} {z : Str}
@[simp] theorem p_mulU_int {j : Int} : Post (mulU (.int i) (.int j) M) Q E ↔ ((-(2 ^ 64) < i ∧ i < 2 ^ 64) ∨ (-(2 ^ 64) < j ∧ j < 2 ^ 64)) ∧ Q (.int (i * j)) M := post_chk
@[simp] theorem p_mulU_tup : Post (mulU (.tup xs) (.int k) M) Q E ↔ (xs ≠ [] ∧ 2 ≤ k ∧ k ≤ 1000 ∧ xs.length ≤ 1000) ∧ Q (.tup (List.replicate k.toNat xs).flatten) M := post_chk
@[simp] theorem p_mulU_str : Post (mulU (.str z) (.int k) M) Q E ↔ (1 ≤ k ∧ k ≤ 1000 ∧ z.length ≤ 1000) ∧ Q (.str (Txt.mul z k)) M := post_chk
end
section
variable {Q : D → Store → Prop} {E : Exn → Store → Prop} {M : Store} {n : Nat} {xs ys : List D}
@[simp] theorem p_lstD_tup : Post (lstD (.tup xs) M) Q E ↔ Q (.lst xs) M := Iff.rfl
@[simp] theorem p_lstD_lst : Post (lstD (.lst xs) M) Q E ↔ Q (.lst xs) M := Iff.rfl
@[simp] theorem p_addLn_l : Post (addLn (.loc n) (.lst ys) M) Q E ↔ LocL M n fun xs => xs.length + ys.length ≤ sizeLine ∧ Q (.loc M.length) (M ++ [some (.lst (xs ++ ys))]) := by
  show Post (Py.bnd (items (.loc n)) (fun xs => Py.bnd (xitems (.lst ys)) fun ys => Py.chk (xs.length + ys.length ≤ sizeLine) (alloc (.lst (xs ++ ys)))) M) Q E ↔ _
  rw [post_bnd, p_items_l]
  exact locL_congr fun zs => post_chk
end
theorem flat_one {α : Type} (n : Nat) (x : α) : (List.replicate n [x]).flatten = List.replicate n x := by
  induction n with
  | zero => rfl
  | succ n ih => rw [List.replicate_succ, List.flatten_cons, ih]; rfl
end L3
set_option Elab.async false
set_option linter.all false
set_option maxRecDepth 100000
set_option maxHeartbeats 4000000
set_option autoImplicit false
namespace Qk01
open PySem PySem.Spec L2 L3
open PyProof.Rows hiding St
noncomputable def b_is_integer : DEnv → Py Fl :=
  (sRet (eAnd (eCall (twoD (isiTs allTs)) (aCons (eVar 0) (aCons (eC (.ty "int")) aNil))) (eNot (eCall (twoD (isiTs allTs)) (aCons (eVar 0) (aCons (eC (.ty "bool")) aNil))))))
noncomputable def m_is_integer : List D → Py D := runD 1 b_is_integer
noncomputable def b_is_within : DEnv → Py Fl :=
  (sRet (eAnd (eCall (nargs 1 m_is_integer) (aCons (eVar 0) aNil)) (eChain leI leI (eVar 1) (eVar 0) (eVar 2))))
noncomputable def m_is_within : List D → Py D := runD 3 b_is_within
noncomputable def b_is_number : DEnv → Py Fl :=
  (sRet (eCall (nargs 3 m_is_within) (aCons (eVar 0) (aCons (eC (.int 0)) (aCons (eVar 1) aNil)))))
noncomputable def m_is_number : List D → Py D := runD 2 b_is_number
noncomputable def b_is_tie : DEnv → Py Fl :=
  (sSeq (sIf (tOrD (tNotD (eTest (eCall (twoD (isiTs allTs)) (aCons (eVar 1) (aCons (eC (.ty "tuple")) aNil))))) (tOrD (eTest (eOp (eqS true) (eCall (one lenD) (aCons (eVar 1) aNil)) (eC (.int 3)))) (tNotD (eTest (eCall (nargs 2 m_is_number) (aCons (eOp ixD (eVar 1) (eC (.int 0))) (aCons (eC (.int 3)) aNil)))))))
    (sRet (eC (.bl false)))
    sNext)
  (sRet (eAnd (eCall (nargs 2 m_is_number) (aCons (eOp ixD (eVar 1) (eC (.int 1))) (aCons (eOp subI (eVar 0) (eC (.int 1))) aNil))) (eCall (nargs 2 m_is_number) (aCons (eOp ixD (eVar 1) (eC (.int 2))) (aCons (eOp subI (eVar 0) (eC (.int 1))) aNil))))))
noncomputable def m_is_tie : List D → Py D := runD 2 b_is_tie
noncomputable def b__law_pot : DEnv → Py Fl :=
  (sSeq (sLc 1 frF (lcAll [2] (iSeq wkA (eSl (eVar 0) oNone (oSome (eC (.int 63))))) (gSet 2) tYesD (eCall (one absD) (aCons (eCall (one intD) (aCons (eVar 2) aNil)) aNil))))
  (sRet (eNew (aCons (eVar 1) (aCons (eC (.int 0)) (aCons (eC (.int 0)) (aCons (eOp addA (eC (.int 1)) (eCall (one lenD) (aCons (eVar 1) aNil))) (aCons (eC (.int 0)) aNil))))))))
noncomputable def m__law_pot : List D → Py D := runD 3 b__law_pot
noncomputable def b__law_draw : DEnv → Py Fl :=
  (sSeq (sIf (tAndD (eTest (eOp (eqS false) (eOp ixD (eVar 0) (eC (.int 2))) (eC (.int 0)))) (eTest (eOp ltI (eOp ixD (eVar 0) (eC (.int 1))) (eCall (one lenD) (aCons (eOp ixD (eVar 0) (eC (.int 0))) aNil)))))
    (sSeq (sSet 2 (eOp ixD (eOp ixD (eVar 0) (eC (.int 0))) (eOp ixD (eVar 0) (eC (.int 1)))))
  (sSeq (sSub (eVar 0) (eC (.int 1)) (eOp addA (eOp ixD (eVar 0) (eC (.int 1))) (eC (.int 1))))
  (sSeq (sSub (eVar 0) (eC (.int 3)) (eOp modI (eCall (one intD) (aCons (eOp addA (eOp addA (eOp mulU (eOp ixD (eVar 0) (eC (.int 3))) (eC (.int 69621))) (eVar 2)) (eC (.int 11))) aNil)) (eC (.int 2147483629))))
  (sIf (eTest (eOp geI (eVar 2) (eOp powI (eC (.int 10)) (eC (.int 18)))))
    (sSub (eVar 0) (eC (.int 2)) (eVar 2))
    sNext))))
    sNext)
  (sSeq (sIf (eTest (eOp gtI (eOp ixD (eVar 0) (eC (.int 2))) (eC (.int 0))))
    (sSeq (sSet 3 (eOp modI (eCall (one intD) (aCons (eOp ixD (eVar 0) (eC (.int 2))) aNil)) (eVar 1)))
  (sSeq (sSub (eVar 0) (eC (.int 2)) (eOp fdivI (eOp ixD (eVar 0) (eC (.int 2))) (eVar 1)))
  (sRet (eVar 3))))
    sNext)
  (sSeq (sSub (eVar 0) (eC (.int 4)) (eOp addA (eOp ixD (eVar 0) (eC (.int 4))) (eC (.int 1))))
  (sSeq (sSet 4 (eOp modI (eCall (one intD) (aCons (eOp mulU (eCall (one intD) (aCons (eOp addA (eOp ixD (eVar 0) (eC (.int 3))) (eOp mulU (eC (.int 7919)) (eOp ixD (eVar 0) (eC (.int 4))))) aNil)) (eC (.int 48271))) aNil)) (eC (.int 2147483647))))
  (sSeq (sSet 4 (eOp modI (eCall (one intD) (aCons (eOp mulU (eVar 4) (eOp addA (eOp fdivI (eVar 4) (eC (.int 1009))) (eC (.int 69621)))) aNil)) (eC (.int 2147483647))))
  (sSeq (sSet 4 (eOp modI (eCall (one intD) (aCons (eOp mulU (eVar 4) (eOp addA (eOp fdivI (eVar 4) (eC (.int 2003))) (eC (.int 40692)))) aNil)) (eC (.int 2147483399))))
  (sRet (eOp modI (eCall (one intD) (aCons (eOp fdivI (eVar 4) (eC (.int 16))) aNil)) (eVar 1)))))))))
noncomputable def m__law_draw : List D → Py D := runD 5 b__law_draw
noncomputable def b__law_any : DEnv → Py Fl :=
  (sRet (eOp ixD (eVar 1) (eCall (nargs 2 m__law_draw) (aCons (eVar 0) (aCons (eCall (one lenD) (aCons (eVar 1) aNil)) aNil)))))
noncomputable def m__law_any : List D → Py D := runD 2 b__law_any
noncomputable def b__law_parts : DEnv → Py Fl :=
  (sSeq (sPar 2 3 (aCons (eOp addA (eC (.int 1)) (eCall (nargs 2 m__law_draw) (aCons (eVar 0) (aCons (eVar 1) aNil)))) (aCons (eCall (nargs 2 m__law_any) (aCons (eVar 0) (aCons (eLst (aCons (eC (.int 1)) (aCons (eC (.int 1)) (aCons (eC (.int 2)) (aCons (eC (.int 4)) aNil))))) aNil))) aNil)))
  (sSeq (sAsg (eTup (aCons (eCall (nargs 2 m__law_any) (aCons (eVar 0) (aCons (eLst (aCons (eC (.int 1)) (aCons (eC (.int 2)) (aCons (eC (.int 2)) (aCons (eC (.int 10)) aNil))))) aNil))) (aCons (eCall (nargs 2 m__law_any) (aCons (eVar 0) (aCons (eLst (aCons (eC (.int 0)) (aCons (eC (.int 2)) (aCons (eC (.int 4)) (aCons (eC (.int 8)) aNil))))) aNil))) (aCons (eOp (eqS false) (eCall (nargs 2 m__law_draw) (aCons (eVar 0) (aCons (eC (.int 2)) aNil))) (eC (.int 0))) aNil)))) (gUnp 3 (gsCons (gSet 4) (gsCons (gSet 5) (gsCons (gSet 6) gsNil)))))
  (sSeq (sPar 7 8 (aCons (eCall (one tupD) (aCons (eLcA frF (lcAll [9] (iRng1D (aCons (eVar 2) aNil)) (gSet 9) tYesD (eCall (nargs 2 m__law_draw) (aCons (eVar 0) (aCons (eVar 4) aNil))))) aNil)) (aCons (fun _ => alloc (.dk [])) aNil)))
  (sSeq (sFor (iRng1D (aCons (eVar 3) aNil)) (gSet 10)
    (sFor (iRng1D (aCons (eVar 2) aNil)) (gSet 11)
    (sFor (iRng1D (aCons (eVar 2) aNil)) (gSet 12)
    (sIf (eTest (eOp ltI (eCall (nargs 2 m__law_draw) (aCons (eVar 0) (aCons (eC (.int 9)) aNil))) (eVar 5)))
    (sSeq (sSubU (eVar 8) (eTup (aCons (eVar 10) (aCons (eVar 11) (aCons (eVar 12) aNil)))) (eC (.bl true)))
  (sIf (eTest (eVar 6))
    (sSubU (eVar 8) (eTup (aCons (eVar 10) (aCons (eVar 12) (aCons (eVar 11) aNil)))) (eC (.bl true)))
    sNext))
    sNext))))
  (sRet (eTup (aCons (eVar 2) (aCons (eVar 7) (aCons (eCall (one tupD) (aCons (eCall (one (sortKeysN frF)) (aCons (eVar 8) aNil)) aNil)) aNil)))))))))
noncomputable def m__law_parts : List D → Py D := runD 13 b__law_parts
noncomputable def b_Web_keep : DEnv → Py Fl :=
  (sSeq (sFldD "many" ["Web"] (eVar 0) (eVar 1))
  (sSeq (sFldD "hues" ["Web"] (eVar 0) (eVar 2))
  (sSeq (sFldD "ties" ["Web"] (eVar 0) (eVar 3))
  (sFldD "tie_places" ["Web"] (eVar 0) (eDcM fdFM (dcMAll [4] (iSeq wkA (eVar 3)) (gSet 4) tYesD (eVar 4) (eC (.bl true))))))))
noncomputable def m_Web_keep : List D → Py D := runD 5 b_Web_keep
noncomputable def b_Web___init__ : DEnv → Py Fl :=
  (sSeq (sIf (tNotD (eTest (eCall (nargs 3 m_is_within) (aCons (eVar 1) (aCons (eC (.int 1)) (aCons (eC (.int 40)) aNil))))))
    (sRaise "BadWeb" ["part"] (aCons (eC (.str (PySem.Str.ofString "many"))) aNil))
    sNext)
  (sSeq (sIf (tOrD (tNotD (eTest (eCall (twoD (isiTs allTs)) (aCons (eVar 2) (aCons (eC (.ty "tuple")) aNil))))) (tOrD (eTest (eOp (eqS true) (eCall (one lenD) (aCons (eVar 2) aNil)) (eVar 1))) (tNotD (eTest (eCall (one (blsD fun bs => bs.all _root_.id)) (aCons (eLcA frF (lcAll [4] (iSeq wkA (eVar 2)) (gSet 4) tYesD (eCall (nargs 2 m_is_number) (aCons (eVar 4) (aCons (eC (.int 9)) aNil))))) aNil))))))
    (sRaise "BadWeb" ["part"] (aCons (eC (.str (PySem.Str.ofString "hues"))) aNil))
    sNext)
  (sSeq (sIf (tOrD (tNotD (eTest (eCall (twoD (isiTs allTs)) (aCons (eVar 3) (aCons (eC (.ty "tuple")) aNil))))) (eTest (eOp gtI (eCall (one lenD) (aCons (eVar 3) aNil)) (eC (.int 1600)))))
    (sRaise "BadWeb" ["part"] (aCons (eC (.str (PySem.Str.ofString "ties"))) aNil))
    sNext)
  (sSeq (sFor (iEnumD wkLT (aCons (eVar 3) aNil)) (gUnp 2 (gsCons (gSet 5) (gsCons (gSet 6) gsNil)))
    (sIf (tOrD (tNotD (eTest (eCall (nargs 2 m_is_tie) (aCons (eVar 1) (aCons (eVar 6) aNil))))) (tAndD (eTest (eOp gtI (eVar 5) (eC (.int 0)))) (tNotD (eTest (eOp (cmpN false false) (eOp ixD (eVar 3) (eOp subI (eVar 5) (eC (.int 1)))) (eVar 6))))))
    (sRaise "BadWeb" ["part"] (aCons (eVar 5) aNil))
    sNext))
  (sDrop (eMeth "Web" "keep" 4 m_Web_keep (eVar 0) (aCons (eVar 1) (aCons (eVar 2) (aCons (eVar 3) aNil)))))))))
noncomputable def m_Web___init__ : List D → Py D := runD 7 b_Web___init__
noncomputable def b__law_web : DEnv → Py Fl :=
  (sRet (eCall (mkD "Web" 4 m_Web___init__) (aCons (eOp ixD (eVar 0) (eC (.int 0))) (aCons (eOp ixD (eVar 0) (eC (.int 1))) (aCons (eOp ixD (eVar 0) (eC (.int 2))) aNil)))))
noncomputable def m__law_web : List D → Py D := runD 1 b__law_web
noncomputable def b__law_deep : DEnv → Py Fl :=
  (sSeq (sSet 1 (eCall (nargs 2 m__law_any) (aCons (eVar 0) (aCons (eLst (aCons (eC .non) (aCons (eC (.int 0)) (aCons (eTup aNil) (aCons (eC (.str (PySem.Str.ofString "a"))) aNil))))) aNil))))
  (sSeq (sFor (iRng1D (aCons (eOp addA (eC (.int 20)) (eCall (nargs 2 m__law_draw) (aCons (eVar 0) (aCons (eC (.int 15)) aNil)))) aNil)) (gSet 2)
    (sSet 1 (eIf (eTest (eOp gtI (eCall (nargs 2 m__law_draw) (aCons (eVar 0) (aCons (eC (.int 3)) aNil))) (eC (.int 0)))) (eTup (aCons (eVar 1) aNil)) (eLst (aCons (eVar 1) aNil)))))
  (sRet (eVar 1))))
noncomputable def m__law_deep : List D → Py D := runD 3 b__law_deep
noncomputable def b__law_is_number : DEnv → Py Fl :=
  (sRet (eAnd (eCall (twoD (isiTs allTs)) (aCons (eVar 0) (aCons (eC (.ty "int")) aNil))) (eAnd (eNot (eCall (twoD (isiTs allTs)) (aCons (eVar 0) (aCons (eC (.ty "bool")) aNil)))) (eChain leI leI (eVar 1) (eVar 0) (eVar 2)))))
noncomputable def m__law_is_number : List D → Py D := runD 3 b__law_is_number
noncomputable def b__law_shown : DEnv → Py Fl :=
  (sRet (eTup (aCons (eFld "many" ["Web"] (eVar 0)) (aCons (eFld "hues" ["Web"] (eVar 0)) (aCons (eFld "ties" ["Web"] (eVar 0)) aNil)))))
noncomputable def m__law_shown : List D → Py D := runD 1 b__law_shown
noncomputable def b__law_is_tie : DEnv → Py Fl :=
  (sSeq (sIf (tOrD (tNotD (eTest (eCall (twoD (isiTs allTs)) (aCons (eVar 0) (aCons (eC (.ty "tuple")) aNil))))) (tOrD (eTest (eOp (eqS true) (eCall (one lenD) (aCons (eVar 0) aNil)) (eC (.int 3)))) (tNotD (eTest (eCall (nargs 3 m__law_is_number) (aCons (eOp ixD (eVar 0) (eC (.int 0))) (aCons (eC (.int 0)) (aCons (eC (.int 3)) aNil))))))))
    (sRet (eC (.bl false)))
    sNext)
  (sRet (eAnd (eCall (nargs 3 m__law_is_number) (aCons (eOp ixD (eVar 0) (eC (.int 1))) (aCons (eC (.int 0)) (aCons (eOp subI (eVar 1) (eC (.int 1))) aNil)))) (eCall (nargs 3 m__law_is_number) (aCons (eOp ixD (eVar 0) (eC (.int 2))) (aCons (eC (.int 0)) (aCons (eOp subI (eVar 1) (eC (.int 1))) aNil)))))))
noncomputable def m__law_is_tie : List D → Py D := runD 2 b__law_is_tie
noncomputable def b__law_wrong : DEnv → Py Fl :=
  (sSeq (sIf (tNotD (eTest (eCall (nargs 3 m__law_is_number) (aCons (eVar 0) (aCons (eC (.int 1)) (aCons (eC (.int 40)) aNil))))))
    (sRet (eC (.str (PySem.Str.ofString "many"))))
    sNext)
  (sSeq (sIf (tOrD (tNotD (eTest (eCall (twoD (isiTs allTs)) (aCons (eVar 1) (aCons (eC (.ty "tuple")) aNil))))) (tOrD (eTest (eOp (eqS true) (eCall (one lenD) (aCons (eVar 1) aNil)) (eVar 0))) (tNotD (eTest (eCall (one (blsD fun bs => bs.all _root_.id)) (aCons (eLcA frF (lcAll [3] (iSeq wkA (eVar 1)) (gSet 3) tYesD (eCall (nargs 3 m__law_is_number) (aCons (eVar 3) (aCons (eC (.int 0)) (aCons (eC (.int 9)) aNil)))))) aNil))))))
    (sRet (eC (.str (PySem.Str.ofString "hues"))))
    sNext)
  (sSeq (sIf (tOrD (tNotD (eTest (eCall (twoD (isiTs allTs)) (aCons (eVar 2) (aCons (eC (.ty "tuple")) aNil))))) (eTest (eOp gtI (eCall (one lenD) (aCons (eVar 2) aNil)) (eC (.int 1600)))))
    (sRet (eC (.str (PySem.Str.ofString "ties"))))
    sNext)
  (sSeq (sFor (iEnumD wkLT (aCons (eVar 2) aNil)) (gUnp 2 (gsCons (gSet 4) (gsCons (gSet 5) gsNil)))
    (sIf (tOrD (tNotD (eTest (eCall (nargs 2 m__law_is_tie) (aCons (eVar 5) (aCons (eVar 0) aNil))))) (tAndD (eTest (eOp gtI (eVar 4) (eC (.int 0)))) (eTest (eOp (cmpN false true) (eOp ixD (eVar 2) (eOp subI (eVar 4) (eC (.int 1)))) (eVar 5)))))
    (sRet (eVar 4))
    sNext))
  (sRet (eC .non))))))
noncomputable def m__law_wrong : List D → Py D := runD 6 b__law_wrong
noncomputable def b__law_made : DEnv → Py Fl :=
  (sSeq (sSet 1 (eTup (aCons (eC (.str (PySem.Str.ofString "other"))) (aCons (eC .non) aNil))))
  (sSeq (sTry (sSet 1 (eTup (aCons (eC (.str (PySem.Str.ofString "web"))) (aCons (eCall (nargs 1 m__law_shown) (aCons (eCall (nargs 1 m__law_web) (aCons (eVar 0) aNil)) aNil)) aNil)))) (cCla ["BadWeb"] ["KinError"] (some 2) (fun ex nx => (sSet 1 (eIf (tAndD (eTest (eExIs nx (decide (ex.cls ∈ (["KinError", "BadWeb"] : List Str))) (eVar 2))) (eTest (eExIs nx true (eVar 2)))) (eTup (aCons (eC (.str (PySem.Str.ofString "bad"))) (aCons (eExF nx ex "part" (eVar 2)) aNil))) (eVar 1))))
    cEnd))
  (sRet (eVar 1))))
noncomputable def m__law_made : List D → Py D := runD 3 b__law_made
noncomputable def b__law_odd : DEnv → Py Fl :=
  (sRet (eCall (nargs 2 m__law_any) (aCons (eVar 0) (aCons (eLst (aCons (eC .non) (aCons (eC (.bl true)) (aCons (eC (.bl false)) (aCons (eUn negI (eC (.int 1))) (aCons (eC (.int 10)) (aCons (eC (.int 41)) (aCons (eOp powI (eC (.int 10)) (eC (.int 29))) (aCons (eC (.str (PySem.Str.ofString "2"))) (aCons (eC (.str (PySem.Str.ofString ""))) (aCons (eTup aNil) (aCons (eLst aNil) (aCons (eC (.dk [])) (aCons (eTup (aCons (eC (.int 0)) aNil)) (aCons (eCall (nargs 1 m__law_deep) (aCons (eVar 0) aNil)) aNil))))))))))))))) aNil))))
noncomputable def m__law_odd : List D → Py D := runD 1 b__law_odd
noncomputable def b__law_bent_tie : DEnv → Py Fl :=
  (sSeq (sAsg (eVar 1) (gUnp 3 (gsCons (gSet 3) (gsCons (gSet 4) (gsCons (gSet 5) gsNil)))))
  (sSeq (sSet 6 (eNew (aCons (eTup (aCons (eC (.int 4)) (aCons (eVar 4) (aCons (eVar 5) aNil)))) (aCons (eTup (aCons (eUn negI (eC (.int 1))) (aCons (eVar 4) (aCons (eVar 5) aNil)))) (aCons (eTup (aCons (eC (.bl true)) (aCons (eVar 4) (aCons (eVar 5) aNil)))) (aCons (eTup (aCons (eVar 3) (aCons (eVar 2) (aCons (eVar 5) aNil)))) (aCons (eTup (aCons (eVar 3) (aCons (eVar 4) (aCons (eUn negI (eC (.int 1))) aNil)))) aNil)))))))
  (sSeq (sSet 6 (eOp addLn (eVar 6) (eLst (aCons (eLst (aCons (eVar 3) (aCons (eVar 4) (aCons (eVar 5) aNil)))) (aCons (eTup (aCons (eVar 3) (aCons (eVar 4) (aCons (eVar 5) (aCons (eC (.int 0)) aNil))))) (aCons (eTup (aCons (eVar 3) (aCons (eVar 4) (aCons (eC .non) aNil)))) (aCons (eTup (aCons (eVar 3) (aCons (eC (.str (PySem.Str.ofString "0"))) (aCons (eVar 5) aNil)))) (aCons (eTup (aCons (eVar 3) (aCons (eVar 4) aNil))) aNil))))))))
  (sSeq (sSet 6 (eOp addLn (eVar 6) (eLst (aCons (eTup (aCons (eVar 4) (aCons (eVar 5) (aCons (eVar 3) aNil)))) (aCons (eTup (aCons (eVar 3) (aCons (eVar 5) (aCons (eVar 4) aNil)))) (aCons (eTup (aCons (eVar 3) (aCons (eC (.bl false)) (aCons (eVar 5) aNil)))) (aCons (eCall (nargs 1 m__law_odd) (aCons (eVar 0) aNil)) aNil)))))))
  (sSeq (sDrop (eMt "list" appendD (eVar 6) (aCons (eTup (aCons (eCall (nargs 1 m__law_odd) (aCons (eVar 0) aNil)) (aCons (eVar 4) (aCons (eVar 5) aNil)))) aNil)))
  (sRet (eCall (nargs 2 m__law_any) (aCons (eVar 0) (aCons (eVar 6) aNil)))))))))
noncomputable def m__law_bent_tie : List D → Py D := runD 7 b__law_bent_tie
noncomputable def b__law_bent : DEnv → Py Fl :=
  (sSeq (sAsg (eVar 1) (gUnp 3 (gsCons (gSet 2) (gsCons (gSet 3) (gsCons (gSet 4) gsNil)))))
  (sSeq (sSet 5 (eCall (nargs 2 m__law_draw) (aCons (eVar 0) (aCons (eC (.int 6)) aNil))))
  (sSeq (sIf (eTest (eOp (eqS false) (eVar 5) (eC (.int 0))))
    (sRet (eTup (aCons (eCall (nargs 2 m__law_any) (aCons (eVar 0) (aCons (eLst (aCons (eC (.int 0)) (aCons (eC (.int 41)) (aCons (eUn negI (eC (.int 1))) (aCons (eC (.bl true)) (aCons (eOp addA (eVar 2) (eC (.int 1))) (aCons (eOp subI (eVar 2) (eC (.int 1))) (aCons (eCall (one strU) (aCons (eVar 2) aNil)) (aCons (eTup (aCons (eVar 2) aNil)) (aCons (eCall (nargs 1 m__law_odd) (aCons (eVar 0) aNil)) aNil)))))))))) aNil))) (aCons (eVar 3) (aCons (eVar 4) aNil)))))
    sNext)
  (sSeq (sIf (eTest (eOp (eqS false) (eVar 5) (eC (.int 1))))
    (sRet (eTup (aCons (eVar 2) (aCons (eCall (nargs 2 m__law_any) (aCons (eVar 0) (aCons (eLst (aCons (eCall (one lstD) (aCons (eVar 3) aNil)) (aCons (eOp addA (eVar 3) (eTup (aCons (eC (.int 0)) aNil))) (aCons (eSl (eVar 3) (oSome (eC (.int 1))) oNone) (aCons (eOp mulU (eC (.str (PySem.Str.ofString "0"))) (eVar 2)) (aCons (eVar 2) (aCons (eCall (nargs 1 m__law_odd) (aCons (eVar 0) aNil)) aNil))))))) aNil))) (aCons (eVar 4) aNil)))))
    sNext)
  (sSeq (sIf (eTest (eOp (eqS false) (eVar 5) (eC (.int 2))))
    (sSeq (sPar 6 7 (aCons (eCall (nargs 2 m__law_draw) (aCons (eVar 0) (aCons (eVar 2) aNil))) (aCons (eCall (nargs 2 m__law_any) (aCons (eVar 0) (aCons (eLst (aCons (eC (.int 9)) (aCons (eC (.int 10)) (aCons (eUn negI (eC (.int 1))) (aCons (eC (.bl true)) (aCons (eC .non) (aCons (eC (.str (PySem.Str.ofString "1"))) (aCons (eTup (aCons (eC (.int 1)) aNil)) (aCons (eOp powI (eC (.int 10)) (eC (.int 29))) (aCons (eCall (nargs 1 m__law_odd) (aCons (eVar 0) aNil)) aNil)))))))))) aNil))) aNil)))
  (sRet (eTup (aCons (eVar 2) (aCons (eOp addA (eOp addA (eSl (eVar 3) oNone (oSome (eVar 6))) (eTup (aCons (eVar 7) aNil))) (eSl (eVar 3) (oSome (eOp addA (eVar 6) (eC (.int 1)))) oNone)) (aCons (eVar 4) aNil))))))
    sNext)
  (sSeq (sIf (eTest (eOp (eqS false) (eVar 5) (eC (.int 3))))
    (sSeq (sSet 8 (eLst (aCons (eCall (one lstD) (aCons (eVar 4) aNil)) (aCons (eOp addA (eVar 4) (eSl (eVar 4) (oSome (eUn negI (eC (.int 1)))) oNone)) (aCons (eRev (eVar 4)) (aCons (eSl (eVar 4) (oSome (eC (.int 1))) oNone) (aCons (eOp addA (eVar 4) (eTup (aCons (eTup (aCons (eC (.int 3)) (aCons (eC (.int 0)) (aCons (eC (.int 0)) aNil)))) aNil))) (aCons (eCall (nargs 1 m__law_odd) (aCons (eVar 0) aNil)) aNil))))))))
  (sRet (eTup (aCons (eVar 2) (aCons (eVar 3) (aCons (eCall (nargs 2 m__law_any) (aCons (eVar 0) (aCons (eVar 8) aNil))) aNil))))))
    sNext)
  (sSeq (sIf (eTest (eOp (eqS false) (eCall (one lenD) (aCons (eVar 4) aNil)) (eC (.int 0))))
    (sRet (eTup (aCons (eVar 2) (aCons (eVar 3) (aCons (eTup (aCons (eCall (nargs 3 m__law_bent_tie) (aCons (eVar 0) (aCons (eTup (aCons (eC (.int 0)) (aCons (eC (.int 0)) (aCons (eC (.int 0)) aNil)))) (aCons (eVar 2) aNil)))) aNil)) aNil)))))
    sNext)
  (sSeq (sPar 6 9 (aCons (eCall (nargs 2 m__law_draw) (aCons (eVar 0) (aCons (eCall (one lenD) (aCons (eVar 4) aNil)) aNil))) (aCons (eCall (nargs 2 m__law_draw) (aCons (eVar 0) (aCons (eCall (one lenD) (aCons (eVar 4) aNil)) aNil))) aNil)))
  (sSeq (sIf (eTest (eOp (eqS false) (eVar 5) (eC (.int 4))))
    (sRet (eTup (aCons (eVar 2) (aCons (eVar 3) (aCons (eOp addA (eOp addA (eSl (eVar 4) oNone (oSome (eVar 6))) (eTup (aCons (eCall (nargs 3 m__law_bent_tie) (aCons (eVar 0) (aCons (eOp ixD (eVar 4) (eVar 6)) (aCons (eVar 2) aNil)))) aNil))) (eSl (eVar 4) (oSome (eOp addA (eVar 6) (eC (.int 1)))) oNone)) aNil)))))
    sNext)
  (sSeq (sSet 10 (eCall (one lstN) (aCons (eVar 4) aNil)))
  (sSeq (sAsg (eTup (aCons (eOp ixD (eVar 4) (eVar 9)) (aCons (eOp ixD (eVar 4) (eVar 6)) aNil))) (gUnp 2 (gsCons (gSubD (eVar 10) (eVar 6)) (gsCons (gSubD (eVar 10) (eVar 9)) gsNil))))
  (sRet (eTup (aCons (eVar 2) (aCons (eVar 3) (aCons (eCall (one tupD) (aCons (eVar 10) aNil)) aNil))))))))))))))))
noncomputable def m__law_bent : List D → Py D := runD 11 b__law_bent
noncomputable def b__law_edges : DEnv → Py Fl :=
  (sSeq (sAsg (eVar 1) (gUnp 3 (gsCons (gSet 2) (gsCons (gSet 3) (gsCons (gSet 4) gsNil)))))
  (sSeq (sSet 5 (eCall (nargs 2 m__law_draw) (aCons (eVar 0) (aCons (eVar 2) aNil))))
  (sSeq (sSet 6 (eLst (aCons (eTup (aCons (eC (.int 41)) (aCons (eOp mulU (eTup (aCons (eC (.int 0)) aNil)) (eC (.int 41))) (aCons (eTup aNil) aNil)))) (aCons (eTup (aCons (eC (.int 0)) (aCons (eTup aNil) (aCons (eTup aNil) aNil)))) (aCons (eTup (aCons (eC (.int 40)) (aCons (eOp mulU (eTup (aCons (eC (.int 9)) aNil)) (eC (.int 40))) (aCons (eTup aNil) aNil)))) (aCons (eTup (aCons (eC (.int 1)) (aCons (eTup (aCons (eC (.int 0)) aNil)) (aCons (eTup (aCons (eTup (aCons (eC (.int 3)) (aCons (eC (.int 0)) (aCons (eC (.int 0)) aNil)))) aNil)) aNil)))) aNil))))))
  (sSeq (sSet 6 (eOp addA (eVar 6) (eLcA frF (lcAll [7] (iSeq wkA (eLst (aCons (eC (.int 9)) (aCons (eC (.int 10)) (aCons (eUn negI (eC (.int 1))) aNil))))) (gSet 7) tYesD (eTup (aCons (eVar 2) (aCons (eOp addA (eOp addA (eSl (eVar 3) oNone (oSome (eVar 5))) (eTup (aCons (eVar 7) aNil))) (eSl (eVar 3) (oSome (eOp addA (eVar 5) (eC (.int 1)))) oNone)) (aCons (eVar 4) aNil))))))))
  (sSeq (sSet 6 (eOp addA (eVar 6) (eLcA frF (lcAll [8] (iSeq wkA (eLst (aCons (eTup (aCons (eC (.int 4)) (aCons (eC (.int 0)) (aCons (eC (.int 0)) aNil)))) (aCons (eTup (aCons (eC (.int 3)) (aCons (eVar 2) (aCons (eC (.int 0)) aNil)))) (aCons (eTup (aCons (eC (.int 3)) (aCons (eOp subI (eVar 2) (eC (.int 1))) (aCons (eVar 2) aNil)))) aNil))))) (gSet 8) tYesD (eTup (aCons (eVar 2) (aCons (eVar 3) (aCons (eOp addA (eVar 4) (eTup (aCons (eVar 8) aNil))) aNil))))))))
  (sSeq (sSet 6 (eOp addA (eVar 6) (eLcA frF (lcAll [8] (iSeq wkA (eLst (aCons (eTup (aCons (eUn negI (eC (.int 1))) (aCons (eC (.int 0)) (aCons (eC (.int 0)) aNil)))) (aCons (eTup (aCons (eC (.int 0)) (aCons (eUn negI (eC (.int 1))) (aCons (eC (.int 0)) aNil)))) (aCons (eTup (aCons (eC (.int 0)) (aCons (eC (.int 0)) (aCons (eUn negI (eC (.int 1))) aNil)))) aNil))))) (gSet 8) tYesD (eTup (aCons (eVar 2) (aCons (eVar 3) (aCons (eOp addA (eTup (aCons (eVar 8) aNil)) (eVar 4)) aNil))))))))
  (sRet (eOp addA (eVar 6) (eLst (aCons (eTup (aCons (eVar 2) (aCons (eVar 3) (aCons (eOp addA (eVar 4) (eSl (eVar 4) (oSome (eUn negI (eC (.int 1)))) oNone)) aNil)))) (aCons (eTup (aCons (eVar 2) (aCons (eOp addA (eVar 3) (eTup (aCons (eC (.int 0)) aNil))) (aCons (eVar 4) aNil)))) (aCons (eTup (aCons (eVar 2) (aCons (eSl (eVar 3) (oSome (eC (.int 1))) oNone) (aCons (eVar 4) aNil)))) aNil))))))))))))
noncomputable def m__law_edges : List D → Py D := runD 9 b__law_edges
noncomputable def b__law_full : DEnv → Py Fl :=
  (sSeq (sSet 1 (eNew aNil))
  (sSeq (sFor (iRng1D (aCons (eC (.int 4)) aNil)) (gSet 2)
    (sFor (iRng1D (aCons (eVar 0) aNil)) (gSet 3)
    (sDrop (eMt "list" extendD (eVar 1) (aCons (eLcA frF (lcAll [4] (iRng1D (aCons (eVar 0) aNil)) (gSet 4) tYesD (eTup (aCons (eVar 2) (aCons (eVar 3) (aCons (eVar 4) aNil)))))) aNil)))))
  (sRet (eTup (aCons (eVar 0) (aCons (eOp mulU (eTup (aCons (eC (.int 0)) aNil)) (eVar 0)) (aCons (eCall (one tupD) (aCons (eVar 1) aNil)) aNil)))))))
noncomputable def m__law_full : List D → Py D := runD 5 b__law_full
noncomputable def b__law_great_right : DEnv → Py Fl :=
  (sSeq (sPar 1 2 (aCons (eCall (nargs 1 m__law_full) (aCons (eC (.int 20)) aNil)) (aCons (eCall (nargs 1 m__law_full) (aCons (eC (.int 21)) aNil)) aNil)))
  (sSeq (sIf (eTest (eOp (eqS true) (eCall (one reprD) (aCons (eCall (nargs 1 m__law_made) (aCons (eVar 1) aNil)) aNil)) (eCall (one reprD) (aCons (eTup (aCons (eC (.str (PySem.Str.ofString "web"))) (aCons (eVar 1) aNil))) aNil))))
    (sRet (eC (.bl false)))
    sNext)
  (sSeq (sSet 3 (eOp addA (eOp ixD (eVar 1) (eC (.int 2))) (eTup (aCons (eCall (nargs 2 m__law_any) (aCons (eVar 0) (aCons (eLst (aCons (eTup (aCons (eC (.int 3)) (aCons (eC (.int 19)) (aCons (eC (.int 19)) aNil)))) (aCons (eC .non) (aCons (eTup (aCons (eC (.int 4)) (aCons (eC (.int 0)) (aCons (eC (.int 0)) aNil)))) (aCons (eTup (aCons (eC (.int 0)) (aCons (eC (.int 0)) (aCons (eC (.int 0)) aNil)))) aNil))))) aNil))) aNil))))
  (sSeq (sIf (tOrD (eTest (eOp (eqS true) (eCall (nargs 1 m__law_made) (aCons (eTup (aCons (eC (.int 20)) (aCons (eOp ixD (eVar 1) (eC (.int 1))) (aCons (eVar 3) aNil)))) aNil)) (eTup (aCons (eC (.str (PySem.Str.ofString "bad"))) (aCons (eC (.str (PySem.Str.ofString "ties"))) aNil))))) (eTest (eOp (eqS true) (eCall (nargs 1 m__law_made) (aCons (eVar 2) aNil)) (eTup (aCons (eC (.str (PySem.Str.ofString "bad"))) (aCons (eC (.str (PySem.Str.ofString "ties"))) aNil))))))
    (sRet (eC (.bl false)))
    sNext)
  (sRet (eOp (eqS false) (eCall (one reprD) (aCons (eCall (nargs 1 m__law_made) (aCons (eTup (aCons (eC (.int 21)) (aCons (eOp ixD (eVar 2) (eC (.int 1))) (aCons (eSl (eOp ixD (eVar 2) (eC (.int 2))) oNone (oSome (eC (.int 1600)))) aNil)))) aNil)) aNil)) (eCall (one reprD) (aCons (eTup (aCons (eC (.str (PySem.Str.ofString "web"))) (aCons (eTup (aCons (eC (.int 21)) (aCons (eOp ixD (eVar 2) (eC (.int 1))) (aCons (eSl (eOp ixD (eVar 2) (eC (.int 2))) oNone (oSome (eC (.int 1600)))) aNil)))) aNil))) aNil))))))))
noncomputable def m__law_great_right : List D → Py D := runD 4 b__law_great_right
noncomputable def b_Web___eq__ : DEnv → Py Fl :=
  (sSeq (sIf (tNotD (eTest (fun ρ => Py.bnd ((eVar 1) ρ) (isC "Web"))))
    (sRet (eC (.bl false)))
    sNext)
  (sRet (eOp (eqS false) (eTup (aCons (eFld "many" ["Web"] (eVar 0)) (aCons (eFld "hues" ["Web"] (eVar 0)) (aCons (eFld "ties" ["Web"] (eVar 0)) aNil)))) (eTup (aCons (eFld "many" ["Web"] (eVar 1)) (aCons (eFld "hues" ["Web"] (eVar 1)) (aCons (eFld "ties" ["Web"] (eVar 1)) aNil)))))))
noncomputable def m_Web___eq__ : List D → Py D := runD 2 b_Web___eq__
noncomputable def b_law : DEnv → Py Fl :=
  (sSeq (sSet 1 (eCall (nargs 1 m__law_pot) (aCons (eVar 0) aNil)))
  (sSeq (sIf (tAndD (eTest (eOp (eqS false) (eCall (nargs 2 m__law_draw) (aCons (eVar 1) (aCons (eC (.int 4)) aNil))) (eC (.int 0)))) (tNotD (eTest (eCall (nargs 1 m__law_great_right) (aCons (eVar 1) aNil)))))
    (sRet (eC (.bl false)))
    sNext)
  (sSeq (sFor (iRng1D (aCons (eC (.int 6)) aNil)) (gSet 2)
    (sSeq (sSet 3 (eCall (nargs 2 m__law_parts) (aCons (eVar 1) (aCons (eC (.int 7)) aNil))))
  (sSeq (sSet 4 (eCall (nargs 1 m__law_web) (aCons (eVar 3) aNil)))
  (sSeq (sIf (tOrD (eTest (eOp (eqS true) (eCall (one reprD) (aCons (eCall (nargs 1 m__law_made) (aCons (eVar 3) aNil)) aNil)) (eCall (one reprD) (aCons (eTup (aCons (eC (.str (PySem.Str.ofString "web"))) (aCons (eVar 3) aNil))) aNil)))) (tOrD (tNotD (eTest (eOp (eqCx "Web" m_Web___eq__) (eVar 4) (eCall (nargs 1 m__law_web) (aCons (eVar 3) aNil))))) (eTest (eOp (eqCx "Web" m_Web___eq__) (eVar 4) (eVar 3)))))
    (sRet (eC (.bl false)))
    sNext)
  (sSeq (sFor (iSeq wkA (eCall (nargs 2 m__law_edges) (aCons (eVar 1) (aCons (eVar 3) aNil)))) (gSet 5)
    (sSeq (sSet 6 (eCall (nargs 3 m__law_wrong) (aCons (eOp ixD (eVar 5) (eC (.int 0))) (aCons (eOp ixD (eVar 5) (eC (.int 1))) (aCons (eOp ixD (eVar 5) (eC (.int 2))) aNil)))))
  (sIf (eTest (eOp (eqS true) (eCall (one reprD) (aCons (eCall (nargs 1 m__law_made) (aCons (eVar 5) aNil)) aNil)) (eCall (one reprD) (aCons (eIf (eTest (eOp (isN false) (eVar 6) (eC .non))) (eTup (aCons (eC (.str (PySem.Str.ofString "web"))) (aCons (eVar 5) aNil))) (eTup (aCons (eC (.str (PySem.Str.ofString "bad"))) (aCons (eVar 6) aNil)))) aNil))))
    (sRet (eC (.bl false)))
    sNext)))
  (sSeq (sSet 7 (eCall (nargs 2 m__law_bent) (aCons (eVar 1) (aCons (eVar 3) aNil))))
  (sSeq (sIf (tAndD (eTest (eOp (eqS false) (eCall (nargs 2 m__law_draw) (aCons (eVar 1) (aCons (eC (.int 3)) aNil))) (eC (.int 0)))) (eTest (eOp (isN false) (eCall (nargs 3 m__law_wrong) (aCons (eOp ixD (eVar 7) (eC (.int 0))) (aCons (eOp ixD (eVar 7) (eC (.int 1))) (aCons (eOp ixD (eVar 7) (eC (.int 2))) aNil)))) (eC .non))))
    (sSet 7 (eCall (nargs 2 m__law_bent) (aCons (eVar 1) (aCons (eVar 7) aNil))))
    sNext)
  (sSeq (sSet 6 (eCall (nargs 3 m__law_wrong) (aCons (eOp ixD (eVar 7) (eC (.int 0))) (aCons (eOp ixD (eVar 7) (eC (.int 1))) (aCons (eOp ixD (eVar 7) (eC (.int 2))) aNil)))))
  (sSeq (sIf (eTest (eOp (eqS true) (eCall (one reprD) (aCons (eCall (nargs 1 m__law_made) (aCons (eVar 7) aNil)) aNil)) (eCall (one reprD) (aCons (eIf (eTest (eOp (isN false) (eVar 6) (eC .non))) (eTup (aCons (eC (.str (PySem.Str.ofString "web"))) (aCons (eVar 7) aNil))) (eTup (aCons (eC (.str (PySem.Str.ofString "bad"))) (aCons (eVar 6) aNil)))) aNil))))
    (sRet (eC (.bl false)))
    sNext)
  (sSeq (sIf (tAndD (eTest (eOp (isN false) (eVar 6) (eC .non))) (eTest (eOp (eqS true) (eOp (eqCx "Web" m_Web___eq__) (eVar 4) (eCall (nargs 1 m__law_web) (aCons (eVar 7) aNil))) (eOp (eqS false) (eVar 7) (eVar 3)))))
    (sRet (eC (.bl false)))
    sNext)
  (sIf (tOrD (eTest (eOp (eqCx "Web" m_Web___eq__) (eVar 4) (eCall (nargs 1 m__law_odd) (aCons (eVar 1) aNil)))) (eTest (eOp (eqCx "Web" m_Web___eq__) (eVar 4) (eC (.str (PySem.Str.ofString "web"))))))
    (sRet (eC (.bl false)))
    sNext)))))))))))
  (sRet (eC (.bl true))))))
noncomputable def m_law : List D → Py D := runD 8 b_law
end Qk01
set_option Elab.async false
set_option linter.all false
set_option maxRecDepth 100000
set_option maxHeartbeats 4000000
set_option autoImplicit false
namespace Qk01
open PySem PySem.Spec L2 L3
open PyProof.Rows hiding St
def top (i : Nat) : Stmt := PySem.Challenge.pw_levelkin_k01_whole_webs_judged.main.body.getD i (.Pass ⟨0, 0, 0, 0⟩)
def inCls (st : Stmt) (j : Nat) : Stmt := match st with
  | .ClassDef _ _ _ b _ _ _ _ _ _ _ => b.getD j (.Pass ⟨0, 0, 0, 0⟩)
  | _ => .Pass ⟨0, 0, 0, 0⟩
abbrev s_is_integer : Stmt := top 4
abbrev N_is_integer : List Str := ["thing"]
theorem sc_is_integer : FnScope N_is_integer ["thing"] (defScope s_is_integer) := ⟨rfl, rfl, rfl, by decide +kernel, rfl, by decide +kernel, by decide +kernel⟩
abbrev s_is_within : Stmt := top 5
abbrev N_is_within : List Str := ["thing", "least", "most"]
theorem sc_is_within : FnScope N_is_within ["thing", "least", "most"] (defScope s_is_within) := ⟨rfl, rfl, rfl, by decide +kernel, rfl, by decide +kernel, by decide +kernel⟩
abbrev s_is_number : Stmt := top 6
abbrev N_is_number : List Str := ["thing", "most"]
theorem sc_is_number : FnScope N_is_number ["thing", "most"] (defScope s_is_number) := ⟨rfl, rfl, rfl, by decide +kernel, rfl, by decide +kernel, by decide +kernel⟩
abbrev s_is_tie : Stmt := top 12
abbrev N_is_tie : List Str := ["many", "thing"]
theorem sc_is_tie : FnScope N_is_tie ["many", "thing"] (defScope s_is_tie) := ⟨rfl, rfl, rfl, by decide +kernel, rfl, by decide +kernel, by decide +kernel⟩
abbrev s__law_pot : Stmt := top 15
abbrev N__law_pot : List Str := ["script", "cells", "cell"]
theorem sc__law_pot : FnScope N__law_pot ["script"] (defScope s__law_pot) := ⟨rfl, rfl, rfl, by decide +kernel, rfl, by decide +kernel, by decide +kernel⟩
abbrev s__law_draw : Stmt := top 16
abbrev N__law_draw : List Str := ["pot", "many", "cell", "digit", "number"]
theorem sc__law_draw : FnScope N__law_draw ["pot", "many"] (defScope s__law_draw) := ⟨rfl, rfl, rfl, by decide +kernel, rfl, by decide +kernel, by decide +kernel⟩
abbrev s__law_any : Stmt := top 17
abbrev N__law_any : List Str := ["pot", "things"]
theorem sc__law_any : FnScope N__law_any ["pot", "things"] (defScope s__law_any) := ⟨rfl, rfl, rfl, by decide +kernel, rfl, by decide +kernel, by decide +kernel⟩
abbrev s__law_parts : Stmt := top 18
abbrev N__law_parts : List Str := ["pot", "most", "many", "kinds", "few", "share", "is_back", "hues", "found", "place", "kind", "begin", "end"]
theorem sc__law_parts : FnScope N__law_parts ["pot", "most"] (defScope s__law_parts) := ⟨rfl, rfl, rfl, by decide +kernel, rfl, by decide +kernel, by decide +kernel⟩
abbrev s_Web_keep : Stmt := inCls (top 13) 1
abbrev N_Web_keep : List Str := ["self", "many", "hues", "ties", "tie"]
theorem sc_Web_keep : FnScope N_Web_keep ["self", "many", "hues", "ties"] (defScope s_Web_keep) := ⟨rfl, rfl, rfl, by decide +kernel, rfl, by decide +kernel, by decide +kernel⟩
abbrev s_Web___init__ : Stmt := inCls (top 13) 0
abbrev N_Web___init__ : List Str := ["self", "many", "hues", "ties", "hue", "index", "tie"]
theorem sc_Web___init__ : FnScope N_Web___init__ ["self", "many", "hues", "ties"] (defScope s_Web___init__) := ⟨rfl, rfl, rfl, by decide +kernel, rfl, by decide +kernel, by decide +kernel⟩
abbrev s__law_web : Stmt := top 19
abbrev N__law_web : List Str := ["parts"]
theorem sc__law_web : FnScope N__law_web ["parts"] (defScope s__law_web) := ⟨rfl, rfl, rfl, by decide +kernel, rfl, by decide +kernel, by decide +kernel⟩
abbrev s__law_deep : Stmt := top 20
abbrev N__law_deep : List Str := ["pot", "thing", "turn"]
theorem sc__law_deep : FnScope N__law_deep ["pot"] (defScope s__law_deep) := ⟨rfl, rfl, rfl, by decide +kernel, rfl, by decide +kernel, by decide +kernel⟩
abbrev s__law_is_number : Stmt := top 21
abbrev N__law_is_number : List Str := ["thing", "least", "most"]
theorem sc__law_is_number : FnScope N__law_is_number ["thing", "least", "most"] (defScope s__law_is_number) := ⟨rfl, rfl, rfl, by decide +kernel, rfl, by decide +kernel, by decide +kernel⟩
abbrev s__law_shown : Stmt := top 22
abbrev N__law_shown : List Str := ["web"]
theorem sc__law_shown : FnScope N__law_shown ["web"] (defScope s__law_shown) := ⟨rfl, rfl, rfl, by decide +kernel, rfl, by decide +kernel, by decide +kernel⟩
abbrev s__law_is_tie : Stmt := top 23
abbrev N__law_is_tie : List Str := ["thing", "many"]
theorem sc__law_is_tie : FnScope N__law_is_tie ["thing", "many"] (defScope s__law_is_tie) := ⟨rfl, rfl, rfl, by decide +kernel, rfl, by decide +kernel, by decide +kernel⟩
abbrev s__law_wrong : Stmt := top 24
abbrev N__law_wrong : List Str := ["many", "hues", "ties", "hue", "at", "one"]
theorem sc__law_wrong : FnScope N__law_wrong ["many", "hues", "ties"] (defScope s__law_wrong) := ⟨rfl, rfl, rfl, by decide +kernel, rfl, by decide +kernel, by decide +kernel⟩
abbrev s__law_made : Stmt := top 25
abbrev N__law_made : List Str := ["parts", "found", "e"]
theorem sc__law_made : FnScope N__law_made ["parts"] (defScope s__law_made) := ⟨rfl, rfl, rfl, by decide +kernel, rfl, by decide +kernel, by decide +kernel⟩
abbrev s__law_odd : Stmt := top 26
abbrev N__law_odd : List Str := ["pot"]
theorem sc__law_odd : FnScope N__law_odd ["pot"] (defScope s__law_odd) := ⟨rfl, rfl, rfl, by decide +kernel, rfl, by decide +kernel, by decide +kernel⟩
abbrev s__law_bent_tie : Stmt := top 27
abbrev N__law_bent_tie : List Str := ["pot", "one", "many", "kind", "begin", "end", "some"]
theorem sc__law_bent_tie : FnScope N__law_bent_tie ["pot", "one", "many"] (defScope s__law_bent_tie) := ⟨rfl, rfl, rfl, by decide +kernel, rfl, by decide +kernel, by decide +kernel⟩
abbrev s__law_bent : Stmt := top 28
abbrev N__law_bent : List Str := ["pot", "parts", "many", "hues", "ties", "kind", "at", "hue", "more", "other", "some"]
theorem sc__law_bent : FnScope N__law_bent ["pot", "parts"] (defScope s__law_bent) := ⟨rfl, rfl, rfl, by decide +kernel, rfl, by decide +kernel, by decide +kernel⟩
abbrev s__law_edges : Stmt := top 29
abbrev N__law_edges : List Str := ["pot", "parts", "many", "hues", "ties", "at", "found", "hue", "tie"]
theorem sc__law_edges : FnScope N__law_edges ["pot", "parts"] (defScope s__law_edges) := ⟨rfl, rfl, rfl, by decide +kernel, rfl, by decide +kernel, by decide +kernel⟩
abbrev s__law_full : Stmt := top 30
abbrev N__law_full : List Str := ["many", "ties", "kind", "begin", "end"]
theorem sc__law_full : FnScope N__law_full ["many"] (defScope s__law_full) := ⟨rfl, rfl, rfl, by decide +kernel, rfl, by decide +kernel, by decide +kernel⟩
abbrev s__law_great_right : Stmt := top 31
abbrev N__law_great_right : List Str := ["pot", "parts", "more", "longer"]
theorem sc__law_great_right : FnScope N__law_great_right ["pot"] (defScope s__law_great_right) := ⟨rfl, rfl, rfl, by decide +kernel, rfl, by decide +kernel, by decide +kernel⟩
abbrev s_Web___eq__ : Stmt := inCls (top 13) 2
abbrev N_Web___eq__ : List Str := ["self", "other"]
theorem sc_Web___eq__ : FnScope N_Web___eq__ ["self", "other"] (defScope s_Web___eq__) := ⟨rfl, rfl, rfl, by decide +kernel, rfl, by decide +kernel, by decide +kernel⟩
abbrev s_law : Stmt := top 32
abbrev N_law : List Str := ["script", "pot", "turn", "parts", "made", "edge", "wrong", "bent"]
theorem sc_law : FnScope N_law ["script"] (defScope s_law) := ⟨rfl, rfl, rfl, by decide +kernel, rfl, by decide +kernel, by decide +kernel⟩
/-- what stands in the module -/
structure Tx (P : Program) (w : World) (K : PySem.W.Frag) (mg : Str → Option Value) (base : Heap) : Prop where
  b_ValueError : mg "ValueError" = none
  b_abs : mg "abs" = none
  b_all : mg "all" = none
  b_bool : mg "bool" = none
  b_enumerate : mg "enumerate" = none
  b_int : mg "int" = none
  b_isinstance : mg "isinstance" = none
  b_len : mg "len" = none
  b_list : mg "list" = none
  b_range : mg "range" = none
  b_repr : mg "repr" = none
  b_sorted : mg "sorted" = none
  b_str : mg "str" = none
  b_tuple : mg "tuple" = none
  c_MOST_HUE : ∃ t, mg "MOST_HUE" = some (.int 9 t)
  c_MOST_KIND : ∃ t, mg "MOST_KIND" = some (.int 3 t)
  c_MOST_PLACES : ∃ t, mg "MOST_PLACES" = some (.int 40 t)
  c_MOST_TIES : ∃ t, mg "MOST_TIES" = some (.int 1600 t)
  cl_Web : Cls K (He.ga K "Web")
  g_BadWeb : mg "BadWeb" = some (.ref (He.ga K "BadWeb"))
  g_KinError : mg "KinError" = some (.ref (He.ga K "KinError"))
  g_Web : mg "Web" = some (.ref (He.ga K "Web"))
  na_Web_hues : NoAttr K (He.ga K "Web") "hues"
  na_Web_many : NoAttr K (He.ga K "Web") "many"
  na_Web_tie_places : NoAttr K (He.ga K "Web") "tie_places"
  na_Web_ties : NoAttr K (He.ga K "Web") "ties"
  is_Web : IsC K "Web"
  x_BadWeb : Xcl P w K mg base "BadWeb" ["part"]
  ey_0 : exmB ["BadWeb"] "BadWeb" true K = true
  en_0 : exmB ["KinError"] "BadWeb" false K = true
  ke_0 : excA ["BadWeb"] K = true
  kt_0 : kitB ["BadWeb"] "KinError" ["KinError", "BadWeb"] K = true
  ke_1 : excA ["BadWeb"] K = true
  kt_1 : kitT ["BadWeb"] "ValueError" K = true
  xf_0 : xfA ["BadWeb"] K = true
  xn_0 : noA ["BadWeb"] "part" K = true
section
variable {P : Program} {w : World} {K : PySem.W.Frag} {mg : Str → Option Value} {base : Heap} {f : Addr} {fd : FuncData}
theorem fc_hues (T : Tx P w K mg base) : ∀ c ∈ (["Web"] : List Str), Cls K (He.ga K c) ∧ NoAttr K (He.ga K c) "hues" := by
  intro c hc
  simp only [List.mem_cons, List.not_mem_nil, or_false] at hc
  subst hc; exact ⟨T.cl_Web, T.na_Web_hues⟩
theorem fc_many (T : Tx P w K mg base) : ∀ c ∈ (["Web"] : List Str), Cls K (He.ga K c) ∧ NoAttr K (He.ga K c) "many" := by
  intro c hc
  simp only [List.mem_cons, List.not_mem_nil, or_false] at hc
  subst hc; exact ⟨T.cl_Web, T.na_Web_many⟩
theorem fc_tie_places (T : Tx P w K mg base) : ∀ c ∈ (["Web"] : List Str), Cls K (He.ga K c) ∧ NoAttr K (He.ga K c) "tie_places" := by
  intro c hc
  simp only [List.mem_cons, List.not_mem_nil, or_false] at hc
  subst hc; exact ⟨T.cl_Web, T.na_Web_tie_places⟩
theorem fc_ties (T : Tx P w K mg base) : ∀ c ∈ (["Web"] : List Str), Cls K (He.ga K c) ∧ NoAttr K (He.ga K c) "ties" := by
  intro c hc
  simp only [List.mem_cons, List.not_mem_nil, or_false] at hc
  subst hc; exact ⟨T.cl_Web, T.na_Web_ties⟩
theorem ok_is_integer (T : Tx P w K mg base)  (F : FunD K "is_integer" "is_integer" (defArgs s_is_integer) (defBody s_is_integer) (defScope s_is_integer) [] [] f fd) (G : mg "is_integer" = some (.ref f)) : Dfn P w K mg base (L2.CX P w) 2 "is_integer" 1 m_is_integer := by
  refine ⟨⟨f, fd, ["thing"], fn_d F sc_is_integer rfl (fun cdv A outer s H E g hr => ?_), G, F.kp, F.bindsN fun _ _ _ _ _ _ us hl => match us, hl with | [_], _ => rfl⟩⟩
  have nd := sc_is_integer.nd
  have ev := body_even (CX := L2.CX P w) (P := P) (w := w) (K := K) (mg := mg) (base := base) (N := N_is_integer) (qual := "is_integer") (scope := defScope s_is_integer) (f := f) (cd := cdv) (A := A) (outer := outer) (s := s) (H := H) (E := E) (g := g)
  have tw := tkw_body (P := P) (w := w) (K := K) (mg := mg) (base := base) (N := N_is_integer) (qual := "is_integer") (scope := defScope s_is_integer) (f := f) (cd := cdv) (A := A) (outer := outer) (s := s) (H := H) (E := E) (g := g)
  have tk := tkd_of tw
  unfold b_is_integer
  exact (dss_one (ds_ret (de_and (de_callB (dc_isiA allTs_ok) T.b_isinstance (da_cons (de_var (i := 0)) (da_cons (de_ty T.b_int (by decide +kernel)) da_nil))) (de_one (de_not (de_callB (dc_isiA allTs_ok) T.b_isinstance (da_cons (de_var (i := 0)) (da_cons (de_ty T.b_bool (by decide +kernel)) da_nil))))))))
theorem ok_is_within (T : Tx P w K mg base) (D_is_integer : Dfn P w K mg base (L2.CX P w) 2 "is_integer" 1 m_is_integer) (F : FunD K "is_within" "is_within" (defArgs s_is_within) (defBody s_is_within) (defScope s_is_within) [] [] f fd) (G : mg "is_within" = some (.ref f)) : Dfn P w K mg base (L2.CX P w) 3 "is_within" 3 m_is_within := by
  refine ⟨⟨f, fd, ["thing", "least", "most"], fn_d F sc_is_within rfl (fun cdv A outer s H E g hr => ?_), G, F.kp, F.bindsN fun _ _ _ _ _ _ us hl => match us, hl with | [_, _, _], _ => rfl⟩⟩
  have nd := sc_is_within.nd
  have ev := body_even (CX := L2.CX P w) (P := P) (w := w) (K := K) (mg := mg) (base := base) (N := N_is_within) (qual := "is_within") (scope := defScope s_is_within) (f := f) (cd := cdv) (A := A) (outer := outer) (s := s) (H := H) (E := E) (g := g)
  have tw := tkw_body (P := P) (w := w) (K := K) (mg := mg) (base := base) (N := N_is_within) (qual := "is_within") (scope := defScope s_is_within) (f := f) (cd := cdv) (A := A) (outer := outer) (s := s) (H := H) (E := E) (g := g)
  have tk := tkd_of tw
  unfold b_is_within
  exact (dss_one (ds_ret (de_and (de_call D_is_integer (hr.mono (by decide)) tk (da_cons (de_var (i := 0)) da_nil)) (de_one (de_chain do_leI do_leI (de_var (i := 1)) (de_var (i := 0)) (de_var (i := 2)))))))
theorem ok_is_number (T : Tx P w K mg base) (D_is_within : Dfn P w K mg base (L2.CX P w) 3 "is_within" 3 m_is_within) (F : FunD K "is_number" "is_number" (defArgs s_is_number) (defBody s_is_number) (defScope s_is_number) [] [] f fd) (G : mg "is_number" = some (.ref f)) : Dfn P w K mg base (L2.CX P w) 4 "is_number" 2 m_is_number := by
  refine ⟨⟨f, fd, ["thing", "most"], fn_d F sc_is_number rfl (fun cdv A outer s H E g hr => ?_), G, F.kp, F.bindsN fun _ _ _ _ _ _ us hl => match us, hl with | [_, _], _ => rfl⟩⟩
  have nd := sc_is_number.nd
  have ev := body_even (CX := L2.CX P w) (P := P) (w := w) (K := K) (mg := mg) (base := base) (N := N_is_number) (qual := "is_number") (scope := defScope s_is_number) (f := f) (cd := cdv) (A := A) (outer := outer) (s := s) (H := H) (E := E) (g := g)
  have tw := tkw_body (P := P) (w := w) (K := K) (mg := mg) (base := base) (N := N_is_number) (qual := "is_number") (scope := defScope s_is_number) (f := f) (cd := cdv) (A := A) (outer := outer) (s := s) (H := H) (E := E) (g := g)
  have tk := tkd_of tw
  unfold b_is_number
  exact (dss_one (ds_ret (de_call D_is_within (hr.mono (by decide)) tk (da_cons (de_var (i := 0)) (da_cons de_int (da_cons (de_var (i := 1)) da_nil))))))
theorem ok_is_tie (T : Tx P w K mg base) (D_is_number : Dfn P w K mg base (L2.CX P w) 4 "is_number" 2 m_is_number) (F : FunD K "is_tie" "is_tie" (defArgs s_is_tie) (defBody s_is_tie) (defScope s_is_tie) [] [] f fd) (G : mg "is_tie" = some (.ref f)) : Dfn P w K mg base (L2.CX P w) 5 "is_tie" 2 m_is_tie := by
  refine ⟨⟨f, fd, ["many", "thing"], fn_d F sc_is_tie rfl (fun cdv A outer s H E g hr => ?_), G, F.kp, F.bindsN fun _ _ _ _ _ _ us hl => match us, hl with | [_, _], _ => rfl⟩⟩
  have nd := sc_is_tie.nd
  have ev := body_even (CX := L2.CX P w) (P := P) (w := w) (K := K) (mg := mg) (base := base) (N := N_is_tie) (qual := "is_tie") (scope := defScope s_is_tie) (f := f) (cd := cdv) (A := A) (outer := outer) (s := s) (H := H) (E := E) (g := g)
  have tw := tkw_body (P := P) (w := w) (K := K) (mg := mg) (base := base) (N := N_is_tie) (qual := "is_tie") (scope := defScope s_is_tie) (f := f) (cd := cdv) (A := A) (outer := outer) (s := s) (H := H) (E := E) (g := g)
  have tk := tkd_of tw
  unfold b_is_tie
  exact (dss_cons ev (ds_if (dw_pt (dw_or (dt_not (dt_val (de_callB (dc_isiA allTs_ok) T.b_isinstance (da_cons (de_var (i := 1)) (da_cons (de_ty T.b_tuple (by decide +kernel)) da_nil))))) (dw_or (dt_cmp (do_ne hr.units) (de_callB dc_len T.b_len (da_cons (de_var (i := 1)) da_nil)) de_int) (dw_or1 (dt_not (dt_val (de_call D_is_number (hr.mono (by decide)) tk (da_cons (de_ix (de_var (i := 1)) de_int) (da_cons (de_gint T.c_MOST_KIND.choose_spec) da_nil)))))))))
    (dss_one (ds_ret de_bl))
    dss_nil)
  (dss_one (ds_ret (de_and (de_call D_is_number (hr.mono (by decide)) tk (da_cons (de_ix (de_var (i := 1)) de_int) (da_cons (de_op do_subI (de_var (i := 0)) de_int) da_nil))) (de_one (de_call D_is_number (hr.mono (by decide)) tk (da_cons (de_ix (de_var (i := 1)) de_int) (da_cons (de_op do_subI (de_var (i := 0)) de_int) da_nil))))))))
theorem ok__law_pot (T : Tx P w K mg base)  (F : FunD K "_law_pot" "_law_pot" (defArgs s__law_pot) (defBody s__law_pot) (defScope s__law_pot) [] [] f fd) (G : mg "_law_pot" = some (.ref f)) : Dfn P w K mg base (L2.CX P w) 2 "_law_pot" 1 m__law_pot := by
  refine ⟨⟨f, fd, ["script"], fn_d F sc__law_pot rfl (fun cdv A outer s H E g hr => ?_), G, F.kp, F.bindsN fun _ _ _ _ _ _ us hl => match us, hl with | [_], _ => rfl⟩⟩
  have nd := sc__law_pot.nd
  have ev := body_even (CX := L2.CX P w) (P := P) (w := w) (K := K) (mg := mg) (base := base) (N := N__law_pot) (qual := "_law_pot") (scope := defScope s__law_pot) (f := f) (cd := cdv) (A := A) (outer := outer) (s := s) (H := H) (E := E) (g := g)
  have tw := tkw_body (P := P) (w := w) (K := K) (mg := mg) (base := base) (N := N__law_pot) (qual := "_law_pot") (scope := defScope s__law_pot) (f := f) (cd := cdv) (A := A) (outer := outer) (s := s) (H := H) (E := E) (g := g)
  have tk := tkd_of tw
  unfold b__law_pot
  exact (dss_cons ev (ds_setLcA fr_f (i := 1) rfl nd rfl rfl (sw_true rfl rfl rfl (by decide +kernel)) (di_seq (de_sl (de_var (i := 0)) do_none (do_some de_int))) (blkOk_by (own := [("cell", 2)]) (N := N__law_pot) (sc := defScope s__law_pot) (by decide +kernel)) (fun B _ _ _ _ _ => (dg_name (i := 2) nd)) dtu_nil (fun B _ _ _ _ _ => (de_callB dc_abs T.b_abs (da_cons (de_callTy dc_int T.b_int (da_cons (de_var (i := 2)) da_nil)) da_nil))))
  (dss_one (ds_ret (de_new (da_cons (de_var (i := 1)) (da_cons de_int (da_cons de_int (da_cons (de_op do_addA de_int (de_callB dc_len T.b_len (da_cons (de_var (i := 1)) da_nil))) (da_cons de_int da_nil)))))))))
theorem ok__law_draw (T : Tx P w K mg base)  (F : FunD K "_law_draw" "_law_draw" (defArgs s__law_draw) (defBody s__law_draw) (defScope s__law_draw) [] [] f fd) (G : mg "_law_draw" = some (.ref f)) : Dfn P w K mg base (L2.CX P w) 2 "_law_draw" 2 m__law_draw := by
  refine ⟨⟨f, fd, ["pot", "many"], fn_d F sc__law_draw rfl (fun cdv A outer s H E g hr => ?_), G, F.kp, F.bindsN fun _ _ _ _ _ _ us hl => match us, hl with | [_, _], _ => rfl⟩⟩
  have nd := sc__law_draw.nd
  have ev := body_even (CX := L2.CX P w) (P := P) (w := w) (K := K) (mg := mg) (base := base) (N := N__law_draw) (qual := "_law_draw") (scope := defScope s__law_draw) (f := f) (cd := cdv) (A := A) (outer := outer) (s := s) (H := H) (E := E) (g := g)
  have tw := tkw_body (P := P) (w := w) (K := K) (mg := mg) (base := base) (N := N__law_draw) (qual := "_law_draw") (scope := defScope s__law_draw) (f := f) (cd := cdv) (A := A) (outer := outer) (s := s) (H := H) (E := E) (g := g)
  have tk := tkd_of tw
  unfold b__law_draw
  exact (dss_cons ev (ds_if (dw_pt (dw_and (dt_cmp (do_eq hr.units) (de_ix (de_var (i := 0)) de_int) de_int) (dw_and1 (dt_cmp do_ltI (de_ix (de_var (i := 0)) de_int) (de_callB dc_len T.b_len (da_cons (de_ix (de_var (i := 0)) de_int) da_nil))))))
    (dss_cons ev (ds_set (i := 2) nd (de_ix (de_ix (de_var (i := 0)) de_int) (de_ix (de_var (i := 0)) de_int)))
  (dss_cons ev (ds_sub (de_var (i := 0)) de_int (de_op do_addA (de_ix (de_var (i := 0)) de_int) de_int))
  (dss_cons ev (ds_sub (de_var (i := 0)) de_int (de_op do_modI (de_callTy dc_int T.b_int (da_cons (de_op do_addA (de_op do_addA (de_op do_mulU (de_ix (de_var (i := 0)) de_int) de_int) (de_var (i := 2))) de_int) da_nil)) de_int))
  (dss_one (ds_if (dt_cmp do_geI (de_var (i := 2)) (de_op do_powI de_int de_int))
    (dss_one (ds_sub (de_var (i := 0)) de_int (de_var (i := 2))))
    dss_nil)))))
    dss_nil)
  (dss_cons ev (ds_if (dt_cmp do_gtI (de_ix (de_var (i := 0)) de_int) de_int)
    (dss_cons ev (ds_set (i := 3) nd (de_op do_modI (de_callTy dc_int T.b_int (da_cons (de_ix (de_var (i := 0)) de_int) da_nil)) (de_var (i := 1))))
  (dss_cons ev (ds_sub (de_var (i := 0)) de_int (de_op do_fdivI (de_ix (de_var (i := 0)) de_int) (de_var (i := 1))))
  (dss_one (ds_ret (de_var (i := 3))))))
    dss_nil)
  (dss_cons ev (ds_sub (de_var (i := 0)) de_int (de_op do_addA (de_ix (de_var (i := 0)) de_int) de_int))
  (dss_cons ev (ds_set (i := 4) nd (de_op do_modI (de_callTy dc_int T.b_int (da_cons (de_op do_mulU (de_callTy dc_int T.b_int (da_cons (de_op do_addA (de_ix (de_var (i := 0)) de_int) (de_op do_mulU de_int (de_ix (de_var (i := 0)) de_int))) da_nil)) de_int) da_nil)) de_int))
  (dss_cons ev (ds_set (i := 4) nd (de_op do_modI (de_callTy dc_int T.b_int (da_cons (de_op do_mulU (de_var (i := 4)) (de_op do_addA (de_op do_fdivI (de_var (i := 4)) de_int) de_int)) da_nil)) de_int))
  (dss_cons ev (ds_set (i := 4) nd (de_op do_modI (de_callTy dc_int T.b_int (da_cons (de_op do_mulU (de_var (i := 4)) (de_op do_addA (de_op do_fdivI (de_var (i := 4)) de_int) de_int)) da_nil)) de_int))
  (dss_one (ds_ret (de_op do_modI (de_callTy dc_int T.b_int (da_cons (de_op do_fdivI (de_var (i := 4)) de_int) da_nil)) (de_var (i := 1)))))))))))
theorem ok__law_any (T : Tx P w K mg base) (D__law_draw : Dfn P w K mg base (L2.CX P w) 2 "_law_draw" 2 m__law_draw) (F : FunD K "_law_any" "_law_any" (defArgs s__law_any) (defBody s__law_any) (defScope s__law_any) [] [] f fd) (G : mg "_law_any" = some (.ref f)) : Dfn P w K mg base (L2.CX P w) 3 "_law_any" 2 m__law_any := by
  refine ⟨⟨f, fd, ["pot", "things"], fn_d F sc__law_any rfl (fun cdv A outer s H E g hr => ?_), G, F.kp, F.bindsN fun _ _ _ _ _ _ us hl => match us, hl with | [_, _], _ => rfl⟩⟩
  have nd := sc__law_any.nd
  have ev := body_even (CX := L2.CX P w) (P := P) (w := w) (K := K) (mg := mg) (base := base) (N := N__law_any) (qual := "_law_any") (scope := defScope s__law_any) (f := f) (cd := cdv) (A := A) (outer := outer) (s := s) (H := H) (E := E) (g := g)
  have tw := tkw_body (P := P) (w := w) (K := K) (mg := mg) (base := base) (N := N__law_any) (qual := "_law_any") (scope := defScope s__law_any) (f := f) (cd := cdv) (A := A) (outer := outer) (s := s) (H := H) (E := E) (g := g)
  have tk := tkd_of tw
  unfold b__law_any
  exact (dss_one (ds_ret (de_ix (de_var (i := 1)) (de_call D__law_draw (hr.mono (by decide)) tk (da_cons (de_var (i := 0)) (da_cons (de_callB dc_len T.b_len (da_cons (de_var (i := 1)) da_nil)) da_nil))))))
theorem ok__law_parts (T : Tx P w K mg base) (D__law_any : Dfn P w K mg base (L2.CX P w) 3 "_law_any" 2 m__law_any) (D__law_draw : Dfn P w K mg base (L2.CX P w) 2 "_law_draw" 2 m__law_draw) (F : FunD K "_law_parts" "_law_parts" (defArgs s__law_parts) (defBody s__law_parts) (defScope s__law_parts) [] [] f fd) (G : mg "_law_parts" = some (.ref f)) : Dfn P w K mg base (L2.CX P w) 4 "_law_parts" 2 m__law_parts := by
  refine ⟨⟨f, fd, ["pot", "most"], fn_d F sc__law_parts rfl (fun cdv A outer s H E g hr => ?_), G, F.kp, F.bindsN fun _ _ _ _ _ _ us hl => match us, hl with | [_, _], _ => rfl⟩⟩
  have nd := sc__law_parts.nd
  have ev := body_even (CX := L2.CX P w) (P := P) (w := w) (K := K) (mg := mg) (base := base) (N := N__law_parts) (qual := "_law_parts") (scope := defScope s__law_parts) (f := f) (cd := cdv) (A := A) (outer := outer) (s := s) (H := H) (E := E) (g := g)
  have tw := tkw_body (P := P) (w := w) (K := K) (mg := mg) (base := base) (N := N__law_parts) (qual := "_law_parts") (scope := defScope s__law_parts) (f := f) (cd := cdv) (A := A) (outer := outer) (s := s) (H := H) (E := E) (g := g)
  have tk := tkd_of tw
  unfold b__law_parts
  exact (dss_cons ev (ds_par (i := 2) (j := 3) rfl nd (da_cons (de_op do_addA de_int (de_call D__law_draw (hr.mono (by decide)) tk (da_cons (de_var (i := 0)) (da_cons (de_var (i := 1)) da_nil)))) (da_cons (de_call D__law_any (hr.mono (by decide)) tk (da_cons (de_var (i := 0)) (da_cons (de_lst (da_cons de_int (da_cons de_int (da_cons de_int (da_cons de_int da_nil))))) da_nil))) da_nil)))
  (dss_cons ev (ds_asg (vs := [4, 5, 6]) (de_tup (da_cons (de_call D__law_any (hr.mono (by decide)) tk (da_cons (de_var (i := 0)) (da_cons (de_lst (da_cons de_int (da_cons de_int (da_cons de_int (da_cons de_int da_nil))))) da_nil))) (da_cons (de_call D__law_any (hr.mono (by decide)) tk (da_cons (de_var (i := 0)) (da_cons (de_lst (da_cons de_int (da_cons de_int (da_cons de_int (da_cons de_int da_nil))))) da_nil))) (da_cons (de_cmp (do_eq hr.units) (de_call D__law_draw (hr.mono (by decide)) tk (da_cons (de_var (i := 0)) (da_cons de_int da_nil))) de_int) da_nil)))) (dg_tup (n := 3) rfl (dgs_cons (dg_name (i := 4) nd) (dgs_cons (dg_name (i := 5) nd) (dgs_cons (dg_name (i := 6) nd) dgs_nil)))))
  (dss_cons ev (ds_par (i := 7) (j := 8) rfl nd (da_cons (de_callTy dc_tup T.b_tuple (da_cons (de_lcA fr_f rfl nd (di_rng1 T.b_range (da_cons (de_var (i := 2)) da_nil)) (blkOk_by (own := [("place", 9)]) (N := N__law_parts) (sc := defScope s__law_parts) (by decide +kernel)) (fun B _ _ _ _ _ => (dg_name (i := 9) nd)) dtu_nil (fun B _ _ _ _ _ => (de_call D__law_draw (hr.mono (by decide)) (tkd_no fun _ _ _ h => h) (da_cons (de_var (i := 0)) (da_cons (de_var (i := 4)) da_nil))))) da_nil)) (da_cons de_dict0N da_nil)))
  (dss_cons ev (ds_for (vs := [10]) (passes_of rfl) rfl ev (di_rng1 T.b_range (da_cons (de_var (i := 3)) da_nil)) (dg_name (i := 10) nd)
    (dss_one (ds_for (vs := [11]) (passes_of rfl) rfl ev (di_rng1 T.b_range (da_cons (de_var (i := 2)) da_nil)) (dg_name (i := 11) nd)
    (dss_one (ds_for (vs := [12]) (passes_of rfl) rfl ev (di_rng1 T.b_range (da_cons (de_var (i := 2)) da_nil)) (dg_name (i := 12) nd)
    (dss_one (ds_if (dt_cmp do_ltI (de_call D__law_draw (hr.mono (by decide)) tk (da_cons (de_var (i := 0)) (da_cons de_int da_nil))) (de_var (i := 5)))
    (dss_cons ev (ds_subU hr.hu (de_var (i := 8)) (de_tup (da_cons (de_var (i := 10)) (da_cons (de_var (i := 11)) (da_cons (de_var (i := 12)) da_nil)))) de_bl)
  (dss_one (ds_if (dt_val (de_var (i := 6)))
    (dss_one (ds_subU hr.hu (de_var (i := 8)) (de_tup (da_cons (de_var (i := 10)) (da_cons (de_var (i := 12)) (da_cons (de_var (i := 11)) da_nil)))) de_bl))
    dss_nil)))
    dss_nil)))))))
  (dss_one (ds_ret (de_tup (da_cons (de_var (i := 2)) (da_cons (de_var (i := 7)) (da_cons (de_callTy dc_tup T.b_tuple (da_cons (de_callB (dc_sortKeys fl_f hr.hu rfl) T.b_sorted (da_cons (de_var (i := 8)) da_nil)) da_nil)) da_nil))))))))))
theorem ok_Web_keep (T : Tx P w K mg base)  (F : FunD K "keep" "Web.keep" (defArgs s_Web_keep) (defBody s_Web_keep) (defScope s_Web_keep) [] [] f fd) (M : Meth K (He.ga K "Web") "keep" f) (cl : Cls K (He.ga K "Web")) : Mth P w K mg base (L2.CX P w) 2 "Web" "keep" 4 m_Web_keep := by
  refine ⟨⟨f, fd, ["self", "many", "hues", "ties"], cl, M, fn_d F sc_Web_keep rfl (fun cdv A outer s H E g hr => ?_), F.bindsN fun _ _ _ _ _ _ us hl => match us, hl with | [_, _, _, _], _ => rfl⟩⟩
  have nd := sc_Web_keep.nd
  have ev := body_even (CX := L2.CX P w) (P := P) (w := w) (K := K) (mg := mg) (base := base) (N := N_Web_keep) (qual := "Web.keep") (scope := defScope s_Web_keep) (f := f) (cd := cdv) (A := A) (outer := outer) (s := s) (H := H) (E := E) (g := g)
  have tw := tkw_body (P := P) (w := w) (K := K) (mg := mg) (base := base) (N := N_Web_keep) (qual := "Web.keep") (scope := defScope s_Web_keep) (f := f) (cd := cdv) (A := A) (outer := outer) (s := s) (H := H) (E := E) (g := g)
  have tk := tkd_of tw
  unfold b_Web_keep
  exact (dss_cons ev (ds_fld (fc_many T) (de_var (i := 0)) (de_var (i := 1)))
  (dss_cons ev (ds_fld (fc_hues T) (de_var (i := 0)) (de_var (i := 2)))
  (dss_cons ev (ds_fld (fc_ties T) (de_var (i := 0)) (de_var (i := 3)))
  (dss_one (ds_fld (fc_tie_places T) (de_var (i := 0)) (de_dcM hr.hu fd_fM rfl nd (di_seq (de_var (i := 3))) (blkOk_by (own := [("tie", 4)]) (N := N_Web_keep) (sc := defScope s_Web_keep) (by decide +kernel)) (fun B _ _ _ _ _ => (dg_name (i := 4) nd)) dtu_nil (fun B _ _ _ _ _ => (de_var (i := 4))) (fun B _ _ _ _ _ => de_bl)))))))
theorem ok_Web___init__ (T : Tx P w K mg base) (D_Web_keep : Mth P w K mg base (L2.CX P w) 2 "Web" "keep" 4 m_Web_keep) (D_is_number : Dfn P w K mg base (L2.CX P w) 4 "is_number" 2 m_is_number) (D_is_tie : Dfn P w K mg base (L2.CX P w) 5 "is_tie" 2 m_is_tie) (D_is_within : Dfn P w K mg base (L2.CX P w) 3 "is_within" 3 m_is_within) (F : FunD K "__init__" "Web.__init__" (defArgs s_Web___init__) (defBody s_Web___init__) (defScope s_Web___init__) [] [] f fd) (M : Mk K (He.ga K "Web") f) (G : mg "Web" = some (.ref (He.ga K "Web"))) : Mkr P w K mg base (L2.CX P w) 6 "Web" 4 m_Web___init__ := by
  refine ⟨⟨f, fd, ["self", "many", "hues", "ties"], M, fn_d F sc_Web___init__ rfl (fun cdv A outer s H E g hr => ?_), G, F.bindsN fun _ _ _ _ _ _ us hl => match us, hl with | [_, _, _, _], _ => rfl⟩⟩
  have nd := sc_Web___init__.nd
  have ev := body_even (CX := L2.CX P w) (P := P) (w := w) (K := K) (mg := mg) (base := base) (N := N_Web___init__) (qual := "Web.__init__") (scope := defScope s_Web___init__) (f := f) (cd := cdv) (A := A) (outer := outer) (s := s) (H := H) (E := E) (g := g)
  have tw := tkw_body (P := P) (w := w) (K := K) (mg := mg) (base := base) (N := N_Web___init__) (qual := "Web.__init__") (scope := defScope s_Web___init__) (f := f) (cd := cdv) (A := A) (outer := outer) (s := s) (H := H) (E := E) (g := g)
  have tk := tkd_of tw
  unfold b_Web___init__
  exact (dss_cons ev (ds_if (dt_not (dt_val (de_call D_is_within (hr.mono (by decide)) tk (da_cons (de_var (i := 1)) (da_cons de_int (da_cons (de_gint T.c_MOST_PLACES.choose_spec) da_nil))))))
    (dss_one (ds_raise T.x_BadWeb (hr.mono (by decide)) rfl tw (da_cons de_str da_nil)))
    dss_nil)
  (dss_cons ev (ds_if (dw_pt (dw_or (dt_not (dt_val (de_callB (dc_isiA allTs_ok) T.b_isinstance (da_cons (de_var (i := 2)) (da_cons (de_ty T.b_tuple (by decide +kernel)) da_nil))))) (dw_or (dt_cmp (do_ne hr.units) (de_callB dc_len T.b_len (da_cons (de_var (i := 2)) da_nil)) (de_var (i := 1))) (dw_or1 (dt_not (dt_val (de_callB (dc_all rfl) T.b_all (da_cons (de_lcA fr_f rfl nd (di_seq (de_var (i := 2))) (blkOk_by (own := [("hue", 4)]) (N := N_Web___init__) (sc := defScope s_Web___init__) (by decide +kernel)) (fun B _ _ _ _ _ => (dg_name (i := 4) nd)) dtu_nil (fun B _ _ _ _ _ => (de_call D_is_number (hr.mono (by decide)) (tkd_no fun _ _ _ h => h) (da_cons (de_var (i := 4)) (da_cons (de_gint T.c_MOST_HUE.choose_spec) da_nil))))) da_nil))))))))
    (dss_one (ds_raise T.x_BadWeb (hr.mono (by decide)) rfl tw (da_cons de_str da_nil)))
    dss_nil)
  (dss_cons ev (ds_if (dw_pt (dw_or (dt_not (dt_val (de_callB (dc_isiA allTs_ok) T.b_isinstance (da_cons (de_var (i := 3)) (da_cons (de_ty T.b_tuple (by decide +kernel)) da_nil))))) (dw_or1 (dt_cmp do_gtI (de_callB dc_len T.b_len (da_cons (de_var (i := 3)) da_nil)) (de_gint T.c_MOST_TIES.choose_spec)))))
    (dss_one (ds_raise T.x_BadWeb (hr.mono (by decide)) rfl tw (da_cons de_str da_nil)))
    dss_nil)
  (dss_cons ev (ds_for (vs := [5, 6]) (passes_of rfl) rfl ev (di_enumA T.b_enumerate (da_cons (de_var (i := 3)) da_nil)) (dg_tup (n := 2) rfl (dgs_cons (dg_name (i := 5) nd) (dgs_cons (dg_name (i := 6) nd) dgs_nil)))
    (dss_one (ds_if (dw_pt (dw_or (dt_not (dt_val (de_call D_is_tie (hr.mono (by decide)) tk (da_cons (de_var (i := 1)) (da_cons (de_var (i := 6)) da_nil))))) (dw_or1 (dw_pt (dw_and (dt_cmp do_gtI (de_var (i := 5)) de_int) (dw_and1 (dt_not (dt_cmp (do_ltN hr.hu) (de_ix (de_var (i := 3)) (de_op do_subI (de_var (i := 5)) de_int)) (de_var (i := 6))))))))))
    (dss_one (ds_raise T.x_BadWeb (hr.mono (by decide)) rfl tw (da_cons (de_var (i := 5)) da_nil)))
    dss_nil)))
  (dss_one (ds_expr (de_meth D_Web_keep (hr.mono (by decide)) tk (de_var (i := 0)) (da_cons (de_var (i := 1)) (da_cons (de_var (i := 2)) (da_cons (de_var (i := 3)) da_nil))))))))))
theorem ok__law_web (T : Tx P w K mg base) (K_Web___init__ : Mkr P w K mg base (L2.CX P w) 6 "Web" 4 m_Web___init__) (F : FunD K "_law_web" "_law_web" (defArgs s__law_web) (defBody s__law_web) (defScope s__law_web) [] [] f fd) (G : mg "_law_web" = some (.ref f)) : Dfn P w K mg base (L2.CX P w) 8 "_law_web" 1 m__law_web := by
  refine ⟨⟨f, fd, ["parts"], fn_d F sc__law_web rfl (fun cdv A outer s H E g hr => ?_), G, F.kp, F.bindsN fun _ _ _ _ _ _ us hl => match us, hl with | [_], _ => rfl⟩⟩
  have nd := sc__law_web.nd
  have ev := body_even (CX := L2.CX P w) (P := P) (w := w) (K := K) (mg := mg) (base := base) (N := N__law_web) (qual := "_law_web") (scope := defScope s__law_web) (f := f) (cd := cdv) (A := A) (outer := outer) (s := s) (H := H) (E := E) (g := g)
  have tw := tkw_body (P := P) (w := w) (K := K) (mg := mg) (base := base) (N := N__law_web) (qual := "_law_web") (scope := defScope s__law_web) (f := f) (cd := cdv) (A := A) (outer := outer) (s := s) (H := H) (E := E) (g := g)
  have tk := tkd_of tw
  unfold b__law_web
  exact (dss_one (ds_ret (de_make K_Web___init__ (hr.mono (by decide)) tk (da_cons (de_ix (de_var (i := 0)) de_int) (da_cons (de_ix (de_var (i := 0)) de_int) (da_cons (de_ix (de_var (i := 0)) de_int) da_nil))))))
theorem ok__law_deep (T : Tx P w K mg base) (D__law_any : Dfn P w K mg base (L2.CX P w) 3 "_law_any" 2 m__law_any) (D__law_draw : Dfn P w K mg base (L2.CX P w) 2 "_law_draw" 2 m__law_draw) (F : FunD K "_law_deep" "_law_deep" (defArgs s__law_deep) (defBody s__law_deep) (defScope s__law_deep) [] [] f fd) (G : mg "_law_deep" = some (.ref f)) : Dfn P w K mg base (L2.CX P w) 4 "_law_deep" 1 m__law_deep := by
  refine ⟨⟨f, fd, ["pot"], fn_d F sc__law_deep rfl (fun cdv A outer s H E g hr => ?_), G, F.kp, F.bindsN fun _ _ _ _ _ _ us hl => match us, hl with | [_], _ => rfl⟩⟩
  have nd := sc__law_deep.nd
  have ev := body_even (CX := L2.CX P w) (P := P) (w := w) (K := K) (mg := mg) (base := base) (N := N__law_deep) (qual := "_law_deep") (scope := defScope s__law_deep) (f := f) (cd := cdv) (A := A) (outer := outer) (s := s) (H := H) (E := E) (g := g)
  have tw := tkw_body (P := P) (w := w) (K := K) (mg := mg) (base := base) (N := N__law_deep) (qual := "_law_deep") (scope := defScope s__law_deep) (f := f) (cd := cdv) (A := A) (outer := outer) (s := s) (H := H) (E := E) (g := g)
  have tk := tkd_of tw
  unfold b__law_deep
  exact (dss_cons ev (ds_set (i := 1) nd (de_call D__law_any (hr.mono (by decide)) tk (da_cons (de_var (i := 0)) (da_cons (de_lst (da_cons de_non (da_cons de_int (da_cons (de_tup da_nil) (da_cons de_str da_nil))))) da_nil))))
  (dss_cons ev (ds_for (vs := [2]) (passes_of rfl) rfl ev (di_rng1 T.b_range (da_cons (de_op do_addA de_int (de_call D__law_draw (hr.mono (by decide)) tk (da_cons (de_var (i := 0)) (da_cons de_int da_nil)))) da_nil)) (dg_name (i := 2) nd)
    (dss_one (ds_set (i := 1) nd (de_if (dt_cmp do_gtI (de_call D__law_draw (hr.mono (by decide)) tk (da_cons (de_var (i := 0)) (da_cons de_int da_nil))) de_int) (de_tup (da_cons (de_var (i := 1)) da_nil)) (de_lst (da_cons (de_var (i := 1)) da_nil))))))
  (dss_one (ds_ret (de_var (i := 1))))))
theorem ok__law_is_number (T : Tx P w K mg base)  (F : FunD K "_law_is_number" "_law_is_number" (defArgs s__law_is_number) (defBody s__law_is_number) (defScope s__law_is_number) [] [] f fd) (G : mg "_law_is_number" = some (.ref f)) : Dfn P w K mg base (L2.CX P w) 2 "_law_is_number" 3 m__law_is_number := by
  refine ⟨⟨f, fd, ["thing", "least", "most"], fn_d F sc__law_is_number rfl (fun cdv A outer s H E g hr => ?_), G, F.kp, F.bindsN fun _ _ _ _ _ _ us hl => match us, hl with | [_, _, _], _ => rfl⟩⟩
  have nd := sc__law_is_number.nd
  have ev := body_even (CX := L2.CX P w) (P := P) (w := w) (K := K) (mg := mg) (base := base) (N := N__law_is_number) (qual := "_law_is_number") (scope := defScope s__law_is_number) (f := f) (cd := cdv) (A := A) (outer := outer) (s := s) (H := H) (E := E) (g := g)
  have tw := tkw_body (P := P) (w := w) (K := K) (mg := mg) (base := base) (N := N__law_is_number) (qual := "_law_is_number") (scope := defScope s__law_is_number) (f := f) (cd := cdv) (A := A) (outer := outer) (s := s) (H := H) (E := E) (g := g)
  have tk := tkd_of tw
  unfold b__law_is_number
  exact (dss_one (ds_ret (de_and (de_callB (dc_isiA allTs_ok) T.b_isinstance (da_cons (de_var (i := 0)) (da_cons (de_ty T.b_int (by decide +kernel)) da_nil))) (de_and (de_not (de_callB (dc_isiA allTs_ok) T.b_isinstance (da_cons (de_var (i := 0)) (da_cons (de_ty T.b_bool (by decide +kernel)) da_nil)))) (de_one (de_chain do_leI do_leI (de_var (i := 1)) (de_var (i := 0)) (de_var (i := 2))))))))
theorem ok__law_shown (T : Tx P w K mg base)  (F : FunD K "_law_shown" "_law_shown" (defArgs s__law_shown) (defBody s__law_shown) (defScope s__law_shown) [] [] f fd) (G : mg "_law_shown" = some (.ref f)) : Dfn P w K mg base (L2.CX P w) 2 "_law_shown" 1 m__law_shown := by
  refine ⟨⟨f, fd, ["web"], fn_d F sc__law_shown rfl (fun cdv A outer s H E g hr => ?_), G, F.kp, F.bindsN fun _ _ _ _ _ _ us hl => match us, hl with | [_], _ => rfl⟩⟩
  have nd := sc__law_shown.nd
  have ev := body_even (CX := L2.CX P w) (P := P) (w := w) (K := K) (mg := mg) (base := base) (N := N__law_shown) (qual := "_law_shown") (scope := defScope s__law_shown) (f := f) (cd := cdv) (A := A) (outer := outer) (s := s) (H := H) (E := E) (g := g)
  have tw := tkw_body (P := P) (w := w) (K := K) (mg := mg) (base := base) (N := N__law_shown) (qual := "_law_shown") (scope := defScope s__law_shown) (f := f) (cd := cdv) (A := A) (outer := outer) (s := s) (H := H) (E := E) (g := g)
  have tk := tkd_of tw
  unfold b__law_shown
  exact (dss_one (ds_ret (de_tup (da_cons (de_fld (fc_many T) (de_var (i := 0))) (da_cons (de_fld (fc_hues T) (de_var (i := 0))) (da_cons (de_fld (fc_ties T) (de_var (i := 0))) da_nil))))))
theorem ok__law_is_tie (T : Tx P w K mg base) (D__law_is_number : Dfn P w K mg base (L2.CX P w) 2 "_law_is_number" 3 m__law_is_number) (F : FunD K "_law_is_tie" "_law_is_tie" (defArgs s__law_is_tie) (defBody s__law_is_tie) (defScope s__law_is_tie) [] [] f fd) (G : mg "_law_is_tie" = some (.ref f)) : Dfn P w K mg base (L2.CX P w) 3 "_law_is_tie" 2 m__law_is_tie := by
  refine ⟨⟨f, fd, ["thing", "many"], fn_d F sc__law_is_tie rfl (fun cdv A outer s H E g hr => ?_), G, F.kp, F.bindsN fun _ _ _ _ _ _ us hl => match us, hl with | [_, _], _ => rfl⟩⟩
  have nd := sc__law_is_tie.nd
  have ev := body_even (CX := L2.CX P w) (P := P) (w := w) (K := K) (mg := mg) (base := base) (N := N__law_is_tie) (qual := "_law_is_tie") (scope := defScope s__law_is_tie) (f := f) (cd := cdv) (A := A) (outer := outer) (s := s) (H := H) (E := E) (g := g)
  have tw := tkw_body (P := P) (w := w) (K := K) (mg := mg) (base := base) (N := N__law_is_tie) (qual := "_law_is_tie") (scope := defScope s__law_is_tie) (f := f) (cd := cdv) (A := A) (outer := outer) (s := s) (H := H) (E := E) (g := g)
  have tk := tkd_of tw
  unfold b__law_is_tie
  exact (dss_cons ev (ds_if (dw_pt (dw_or (dt_not (dt_val (de_callB (dc_isiA allTs_ok) T.b_isinstance (da_cons (de_var (i := 0)) (da_cons (de_ty T.b_tuple (by decide +kernel)) da_nil))))) (dw_or (dt_cmp (do_ne hr.units) (de_callB dc_len T.b_len (da_cons (de_var (i := 0)) da_nil)) de_int) (dw_or1 (dt_not (dt_val (de_call D__law_is_number (hr.mono (by decide)) tk (da_cons (de_ix (de_var (i := 0)) de_int) (da_cons de_int (da_cons de_int da_nil))))))))))
    (dss_one (ds_ret de_bl))
    dss_nil)
  (dss_one (ds_ret (de_and (de_call D__law_is_number (hr.mono (by decide)) tk (da_cons (de_ix (de_var (i := 0)) de_int) (da_cons de_int (da_cons (de_op do_subI (de_var (i := 1)) de_int) da_nil)))) (de_one (de_call D__law_is_number (hr.mono (by decide)) tk (da_cons (de_ix (de_var (i := 0)) de_int) (da_cons de_int (da_cons (de_op do_subI (de_var (i := 1)) de_int) da_nil)))))))))
theorem ok__law_wrong (T : Tx P w K mg base) (D__law_is_number : Dfn P w K mg base (L2.CX P w) 2 "_law_is_number" 3 m__law_is_number) (D__law_is_tie : Dfn P w K mg base (L2.CX P w) 3 "_law_is_tie" 2 m__law_is_tie) (F : FunD K "_law_wrong" "_law_wrong" (defArgs s__law_wrong) (defBody s__law_wrong) (defScope s__law_wrong) [] [] f fd) (G : mg "_law_wrong" = some (.ref f)) : Dfn P w K mg base (L2.CX P w) 4 "_law_wrong" 3 m__law_wrong := by
  refine ⟨⟨f, fd, ["many", "hues", "ties"], fn_d F sc__law_wrong rfl (fun cdv A outer s H E g hr => ?_), G, F.kp, F.bindsN fun _ _ _ _ _ _ us hl => match us, hl with | [_, _, _], _ => rfl⟩⟩
  have nd := sc__law_wrong.nd
  have ev := body_even (CX := L2.CX P w) (P := P) (w := w) (K := K) (mg := mg) (base := base) (N := N__law_wrong) (qual := "_law_wrong") (scope := defScope s__law_wrong) (f := f) (cd := cdv) (A := A) (outer := outer) (s := s) (H := H) (E := E) (g := g)
  have tw := tkw_body (P := P) (w := w) (K := K) (mg := mg) (base := base) (N := N__law_wrong) (qual := "_law_wrong") (scope := defScope s__law_wrong) (f := f) (cd := cdv) (A := A) (outer := outer) (s := s) (H := H) (E := E) (g := g)
  have tk := tkd_of tw
  unfold b__law_wrong
  exact (dss_cons ev (ds_if (dt_not (dt_val (de_call D__law_is_number (hr.mono (by decide)) tk (da_cons (de_var (i := 0)) (da_cons de_int (da_cons de_int da_nil))))))
    (dss_one (ds_ret de_str))
    dss_nil)
  (dss_cons ev (ds_if (dw_pt (dw_or (dt_not (dt_val (de_callB (dc_isiA allTs_ok) T.b_isinstance (da_cons (de_var (i := 1)) (da_cons (de_ty T.b_tuple (by decide +kernel)) da_nil))))) (dw_or (dt_cmp (do_ne hr.units) (de_callB dc_len T.b_len (da_cons (de_var (i := 1)) da_nil)) (de_var (i := 0))) (dw_or1 (dt_not (dt_val (de_callB (dc_all rfl) T.b_all (da_cons (de_lcA fr_f rfl nd (di_seq (de_var (i := 1))) (blkOk_by (own := [("hue", 3)]) (N := N__law_wrong) (sc := defScope s__law_wrong) (by decide +kernel)) (fun B _ _ _ _ _ => (dg_name (i := 3) nd)) dtu_nil (fun B _ _ _ _ _ => (de_call D__law_is_number (hr.mono (by decide)) (tkd_no fun _ _ _ h => h) (da_cons (de_var (i := 3)) (da_cons de_int (da_cons de_int da_nil)))))) da_nil))))))))
    (dss_one (ds_ret de_str))
    dss_nil)
  (dss_cons ev (ds_if (dw_pt (dw_or (dt_not (dt_val (de_callB (dc_isiA allTs_ok) T.b_isinstance (da_cons (de_var (i := 2)) (da_cons (de_ty T.b_tuple (by decide +kernel)) da_nil))))) (dw_or1 (dt_cmp do_gtI (de_callB dc_len T.b_len (da_cons (de_var (i := 2)) da_nil)) de_int))))
    (dss_one (ds_ret de_str))
    dss_nil)
  (dss_cons ev (ds_for (vs := [4, 5]) (passes_of rfl) rfl ev (di_enumA T.b_enumerate (da_cons (de_var (i := 2)) da_nil)) (dg_tup (n := 2) rfl (dgs_cons (dg_name (i := 4) nd) (dgs_cons (dg_name (i := 5) nd) dgs_nil)))
    (dss_one (ds_if (dw_pt (dw_or (dt_not (dt_val (de_call D__law_is_tie (hr.mono (by decide)) tk (da_cons (de_var (i := 5)) (da_cons (de_var (i := 0)) da_nil))))) (dw_or1 (dw_pt (dw_and (dt_cmp do_gtI (de_var (i := 4)) de_int) (dw_and1 (dt_cmp (do_geN hr.hu) (de_ix (de_var (i := 2)) (de_op do_subI (de_var (i := 4)) de_int)) (de_var (i := 5)))))))))
    (dss_one (ds_ret (de_var (i := 4))))
    dss_nil)))
  (dss_one (ds_ret de_non))))))
theorem ok__law_made (T : Tx P w K mg base) (D__law_shown : Dfn P w K mg base (L2.CX P w) 2 "_law_shown" 1 m__law_shown) (D__law_web : Dfn P w K mg base (L2.CX P w) 8 "_law_web" 1 m__law_web) (F : FunD K "_law_made" "_law_made" (defArgs s__law_made) (defBody s__law_made) (defScope s__law_made) [] [] f fd) (G : mg "_law_made" = some (.ref f)) : Dfn P w K mg base (L2.CX P w) 9 "_law_made" 1 m__law_made := by
  refine ⟨⟨f, fd, ["parts"], fn_d F sc__law_made rfl (fun cdv A outer s H E g hr => ?_), G, F.kp, F.bindsN fun _ _ _ _ _ _ us hl => match us, hl with | [_], _ => rfl⟩⟩
  have nd := sc__law_made.nd
  have ev := body_even (CX := L2.CX P w) (P := P) (w := w) (K := K) (mg := mg) (base := base) (N := N__law_made) (qual := "_law_made") (scope := defScope s__law_made) (f := f) (cd := cdv) (A := A) (outer := outer) (s := s) (H := H) (E := E) (g := g)
  have tw := tkw_body (P := P) (w := w) (K := K) (mg := mg) (base := base) (N := N__law_made) (qual := "_law_made") (scope := defScope s__law_made) (f := f) (cd := cdv) (A := A) (outer := outer) (s := s) (H := H) (E := E) (g := g)
  have tk := tkd_of tw
  unfold b__law_made
  exact (dss_cons ev (ds_set (i := 1) nd (de_tup (da_cons de_str (da_cons de_non da_nil))))
  (dss_cons ev (ds_try nd rfl rfl tw (fun pn xe B W pw tw pv => have tk := tkd_of tw; (ds_set (i := 1) nd (de_tup (da_cons de_str (da_cons (de_call D__law_shown (hr.mono (by decide)) tk (da_cons (de_call D__law_web (hr.mono (by decide)) tk (da_cons (de_var (i := 0)) da_nil)) da_nil)) da_nil))))) (.named ⟨rfl, by decide, .inl T.g_BadWeb⟩ (i := 2) rfl rfl (exmB_ok T.ey_0) (exmB_ok T.en_0) (fun ex nx B a oe d pn hy hz hf hio hx hw => have hd : Held _ ex nx B a oe d := ⟨hz, hf, hio, hx, hw⟩; (dss_one (ds_set (i := 1) nd (de_if (dw_pt (dw_and (dt_val (de_exIsC hd (excA_ok T.ke_0 hy) (kitB_ok T.kt_0 hy) T.g_KinError T.b_isinstance (de_var (i := 2)))) (dw_and1 (dt_val (de_exIsT hd (excA_ok T.ke_1 hy) (kitT_ok T.kt_1 hy) T.b_isinstance T.b_ValueError (by decide +kernel) (de_var (i := 2))))))) (de_tup (da_cons de_str (da_cons (de_exF hd (xfA_ok T.xf_0 hy) (noA_ok T.xn_0 hy) (de_var (i := 2))) da_nil))) (de_var (i := 1)))))) .nil))
  (dss_one (ds_ret (de_var (i := 1))))))
theorem ok__law_odd (T : Tx P w K mg base) (D__law_any : Dfn P w K mg base (L2.CX P w) 3 "_law_any" 2 m__law_any) (D__law_deep : Dfn P w K mg base (L2.CX P w) 4 "_law_deep" 1 m__law_deep) (F : FunD K "_law_odd" "_law_odd" (defArgs s__law_odd) (defBody s__law_odd) (defScope s__law_odd) [] [] f fd) (G : mg "_law_odd" = some (.ref f)) : Dfn P w K mg base (L2.CX P w) 5 "_law_odd" 1 m__law_odd := by
  refine ⟨⟨f, fd, ["pot"], fn_d F sc__law_odd rfl (fun cdv A outer s H E g hr => ?_), G, F.kp, F.bindsN fun _ _ _ _ _ _ us hl => match us, hl with | [_], _ => rfl⟩⟩
  have nd := sc__law_odd.nd
  have ev := body_even (CX := L2.CX P w) (P := P) (w := w) (K := K) (mg := mg) (base := base) (N := N__law_odd) (qual := "_law_odd") (scope := defScope s__law_odd) (f := f) (cd := cdv) (A := A) (outer := outer) (s := s) (H := H) (E := E) (g := g)
  have tw := tkw_body (P := P) (w := w) (K := K) (mg := mg) (base := base) (N := N__law_odd) (qual := "_law_odd") (scope := defScope s__law_odd) (f := f) (cd := cdv) (A := A) (outer := outer) (s := s) (H := H) (E := E) (g := g)
  have tk := tkd_of tw
  unfold b__law_odd
  exact (dss_one (ds_ret (de_call D__law_any (hr.mono (by decide)) tk (da_cons (de_var (i := 0)) (da_cons (de_lst (da_cons de_non (da_cons de_bl (da_cons de_bl (da_cons (de_un do_negI de_int) (da_cons de_int (da_cons de_int (da_cons (de_op do_powI de_int de_int) (da_cons de_str (da_cons de_str (da_cons (de_tup da_nil) (da_cons (de_lst da_nil) (da_cons de_dict0 (da_cons (de_tup (da_cons de_int da_nil)) (da_cons (de_call D__law_deep (hr.mono (by decide)) tk (da_cons (de_var (i := 0)) da_nil)) da_nil))))))))))))))) da_nil)))))
theorem ok__law_bent_tie (T : Tx P w K mg base) (D__law_any : Dfn P w K mg base (L2.CX P w) 3 "_law_any" 2 m__law_any) (D__law_odd : Dfn P w K mg base (L2.CX P w) 5 "_law_odd" 1 m__law_odd) (F : FunD K "_law_bent_tie" "_law_bent_tie" (defArgs s__law_bent_tie) (defBody s__law_bent_tie) (defScope s__law_bent_tie) [] [] f fd) (G : mg "_law_bent_tie" = some (.ref f)) : Dfn P w K mg base (L2.CX P w) 6 "_law_bent_tie" 3 m__law_bent_tie := by
  refine ⟨⟨f, fd, ["pot", "one", "many"], fn_d F sc__law_bent_tie rfl (fun cdv A outer s H E g hr => ?_), G, F.kp, F.bindsN fun _ _ _ _ _ _ us hl => match us, hl with | [_, _, _], _ => rfl⟩⟩
  have nd := sc__law_bent_tie.nd
  have ev := body_even (CX := L2.CX P w) (P := P) (w := w) (K := K) (mg := mg) (base := base) (N := N__law_bent_tie) (qual := "_law_bent_tie") (scope := defScope s__law_bent_tie) (f := f) (cd := cdv) (A := A) (outer := outer) (s := s) (H := H) (E := E) (g := g)
  have tw := tkw_body (P := P) (w := w) (K := K) (mg := mg) (base := base) (N := N__law_bent_tie) (qual := "_law_bent_tie") (scope := defScope s__law_bent_tie) (f := f) (cd := cdv) (A := A) (outer := outer) (s := s) (H := H) (E := E) (g := g)
  have tk := tkd_of tw
  unfold b__law_bent_tie
  exact (dss_cons ev (ds_asg (vs := [3, 4, 5]) (de_var (i := 1)) (dg_tup (n := 3) rfl (dgs_cons (dg_name (i := 3) nd) (dgs_cons (dg_name (i := 4) nd) (dgs_cons (dg_name (i := 5) nd) dgs_nil)))))
  (dss_cons ev (ds_set (i := 6) nd (de_new (da_cons (de_tup (da_cons de_int (da_cons (de_var (i := 4)) (da_cons (de_var (i := 5)) da_nil)))) (da_cons (de_tup (da_cons (de_un do_negI de_int) (da_cons (de_var (i := 4)) (da_cons (de_var (i := 5)) da_nil)))) (da_cons (de_tup (da_cons de_bl (da_cons (de_var (i := 4)) (da_cons (de_var (i := 5)) da_nil)))) (da_cons (de_tup (da_cons (de_var (i := 3)) (da_cons (de_var (i := 2)) (da_cons (de_var (i := 5)) da_nil)))) (da_cons (de_tup (da_cons (de_var (i := 3)) (da_cons (de_var (i := 4)) (da_cons (de_un do_negI de_int) da_nil)))) da_nil)))))))
  (dss_cons ev (ds_set (i := 6) nd (de_op do_addLn (de_var (i := 6)) (de_lst (da_cons (de_lst (da_cons (de_var (i := 3)) (da_cons (de_var (i := 4)) (da_cons (de_var (i := 5)) da_nil)))) (da_cons (de_tup (da_cons (de_var (i := 3)) (da_cons (de_var (i := 4)) (da_cons (de_var (i := 5)) (da_cons de_int da_nil))))) (da_cons (de_tup (da_cons (de_var (i := 3)) (da_cons (de_var (i := 4)) (da_cons de_non da_nil)))) (da_cons (de_tup (da_cons (de_var (i := 3)) (da_cons de_str (da_cons (de_var (i := 5)) da_nil)))) (da_cons (de_tup (da_cons (de_var (i := 3)) (da_cons (de_var (i := 4)) da_nil))) da_nil))))))))
  (dss_cons ev (ds_set (i := 6) nd (de_op do_addLn (de_var (i := 6)) (de_lst (da_cons (de_tup (da_cons (de_var (i := 4)) (da_cons (de_var (i := 5)) (da_cons (de_var (i := 3)) da_nil)))) (da_cons (de_tup (da_cons (de_var (i := 3)) (da_cons (de_var (i := 5)) (da_cons (de_var (i := 4)) da_nil)))) (da_cons (de_tup (da_cons (de_var (i := 3)) (da_cons de_bl (da_cons (de_var (i := 5)) da_nil)))) (da_cons (de_call D__law_odd (hr.mono (by decide)) tk (da_cons (de_var (i := 0)) da_nil)) da_nil)))))))
  (dss_cons ev (ds_expr (de_bm PySem.F.plainAttrs_list PySem.F.slot_list_append PySem.F.type_list_append dm_append (de_var (i := 6)) (da_cons (de_tup (da_cons (de_call D__law_odd (hr.mono (by decide)) tk (da_cons (de_var (i := 0)) da_nil)) (da_cons (de_var (i := 4)) (da_cons (de_var (i := 5)) da_nil)))) da_nil)))
  (dss_one (ds_ret (de_call D__law_any (hr.mono (by decide)) tk (da_cons (de_var (i := 0)) (da_cons (de_var (i := 6)) da_nil))))))))))
theorem ok__law_bent (T : Tx P w K mg base) (D__law_any : Dfn P w K mg base (L2.CX P w) 3 "_law_any" 2 m__law_any) (D__law_bent_tie : Dfn P w K mg base (L2.CX P w) 6 "_law_bent_tie" 3 m__law_bent_tie) (D__law_draw : Dfn P w K mg base (L2.CX P w) 2 "_law_draw" 2 m__law_draw) (D__law_odd : Dfn P w K mg base (L2.CX P w) 5 "_law_odd" 1 m__law_odd) (F : FunD K "_law_bent" "_law_bent" (defArgs s__law_bent) (defBody s__law_bent) (defScope s__law_bent) [] [] f fd) (G : mg "_law_bent" = some (.ref f)) : Dfn P w K mg base (L2.CX P w) 7 "_law_bent" 2 m__law_bent := by
  refine ⟨⟨f, fd, ["pot", "parts"], fn_d F sc__law_bent rfl (fun cdv A outer s H E g hr => ?_), G, F.kp, F.bindsN fun _ _ _ _ _ _ us hl => match us, hl with | [_, _], _ => rfl⟩⟩
  have nd := sc__law_bent.nd
  have ev := body_even (CX := L2.CX P w) (P := P) (w := w) (K := K) (mg := mg) (base := base) (N := N__law_bent) (qual := "_law_bent") (scope := defScope s__law_bent) (f := f) (cd := cdv) (A := A) (outer := outer) (s := s) (H := H) (E := E) (g := g)
  have tw := tkw_body (P := P) (w := w) (K := K) (mg := mg) (base := base) (N := N__law_bent) (qual := "_law_bent") (scope := defScope s__law_bent) (f := f) (cd := cdv) (A := A) (outer := outer) (s := s) (H := H) (E := E) (g := g)
  have tk := tkd_of tw
  unfold b__law_bent
  exact (dss_cons ev (ds_asg (vs := [2, 3, 4]) (de_var (i := 1)) (dg_tup (n := 3) rfl (dgs_cons (dg_name (i := 2) nd) (dgs_cons (dg_name (i := 3) nd) (dgs_cons (dg_name (i := 4) nd) dgs_nil)))))
  (dss_cons ev (ds_set (i := 5) nd (de_call D__law_draw (hr.mono (by decide)) tk (da_cons (de_var (i := 0)) (da_cons de_int da_nil))))
  (dss_cons ev (ds_if (dt_cmp (do_eq hr.units) (de_var (i := 5)) de_int)
    (dss_one (ds_ret (de_tup (da_cons (de_call D__law_any (hr.mono (by decide)) tk (da_cons (de_var (i := 0)) (da_cons (de_lst (da_cons de_int (da_cons de_int (da_cons (de_un do_negI de_int) (da_cons de_bl (da_cons (de_op do_addA (de_var (i := 2)) de_int) (da_cons (de_op do_subI (de_var (i := 2)) de_int) (da_cons (de_callTy dc_strU T.b_str (da_cons (de_var (i := 2)) da_nil)) (da_cons (de_tup (da_cons (de_var (i := 2)) da_nil)) (da_cons (de_call D__law_odd (hr.mono (by decide)) tk (da_cons (de_var (i := 0)) da_nil)) da_nil)))))))))) da_nil))) (da_cons (de_var (i := 3)) (da_cons (de_var (i := 4)) da_nil))))))
    dss_nil)
  (dss_cons ev (ds_if (dt_cmp (do_eq hr.units) (de_var (i := 5)) de_int)
    (dss_one (ds_ret (de_tup (da_cons (de_var (i := 2)) (da_cons (de_call D__law_any (hr.mono (by decide)) tk (da_cons (de_var (i := 0)) (da_cons (de_lst (da_cons (de_callTy dc_lst T.b_list (da_cons (de_var (i := 3)) da_nil)) (da_cons (de_op do_addA (de_var (i := 3)) (de_tup (da_cons de_int da_nil))) (da_cons (de_sl (de_var (i := 3)) (do_some de_int) do_none) (da_cons (de_op do_mulU de_str (de_var (i := 2))) (da_cons (de_var (i := 2)) (da_cons (de_call D__law_odd (hr.mono (by decide)) tk (da_cons (de_var (i := 0)) da_nil)) da_nil))))))) da_nil))) (da_cons (de_var (i := 4)) da_nil))))))
    dss_nil)
  (dss_cons ev (ds_if (dt_cmp (do_eq hr.units) (de_var (i := 5)) de_int)
    (dss_cons ev (ds_par (i := 6) (j := 7) rfl nd (da_cons (de_call D__law_draw (hr.mono (by decide)) tk (da_cons (de_var (i := 0)) (da_cons (de_var (i := 2)) da_nil))) (da_cons (de_call D__law_any (hr.mono (by decide)) tk (da_cons (de_var (i := 0)) (da_cons (de_lst (da_cons de_int (da_cons de_int (da_cons (de_un do_negI de_int) (da_cons de_bl (da_cons de_non (da_cons de_str (da_cons (de_tup (da_cons de_int da_nil)) (da_cons (de_op do_powI de_int de_int) (da_cons (de_call D__law_odd (hr.mono (by decide)) tk (da_cons (de_var (i := 0)) da_nil)) da_nil)))))))))) da_nil))) da_nil)))
  (dss_one (ds_ret (de_tup (da_cons (de_var (i := 2)) (da_cons (de_op do_addA (de_op do_addA (de_sl (de_var (i := 3)) do_none (do_some (de_var (i := 6)))) (de_tup (da_cons (de_var (i := 7)) da_nil))) (de_sl (de_var (i := 3)) (do_some (de_op do_addA (de_var (i := 6)) de_int)) do_none)) (da_cons (de_var (i := 4)) da_nil)))))))
    dss_nil)
  (dss_cons ev (ds_if (dt_cmp (do_eq hr.units) (de_var (i := 5)) de_int)
    (dss_cons ev (ds_set (i := 8) nd (de_lst (da_cons (de_callTy dc_lst T.b_list (da_cons (de_var (i := 4)) da_nil)) (da_cons (de_op do_addA (de_var (i := 4)) (de_sl (de_var (i := 4)) (do_some (de_un do_negI de_int)) do_none)) (da_cons (de_rev (de_var (i := 4))) (da_cons (de_sl (de_var (i := 4)) (do_some de_int) do_none) (da_cons (de_op do_addA (de_var (i := 4)) (de_tup (da_cons (de_tup (da_cons de_int (da_cons de_int (da_cons de_int da_nil)))) da_nil))) (da_cons (de_call D__law_odd (hr.mono (by decide)) tk (da_cons (de_var (i := 0)) da_nil)) da_nil))))))))
  (dss_one (ds_ret (de_tup (da_cons (de_var (i := 2)) (da_cons (de_var (i := 3)) (da_cons (de_call D__law_any (hr.mono (by decide)) tk (da_cons (de_var (i := 0)) (da_cons (de_var (i := 8)) da_nil))) da_nil)))))))
    dss_nil)
  (dss_cons ev (ds_if (dt_cmp (do_eq hr.units) (de_callB dc_len T.b_len (da_cons (de_var (i := 4)) da_nil)) de_int)
    (dss_one (ds_ret (de_tup (da_cons (de_var (i := 2)) (da_cons (de_var (i := 3)) (da_cons (de_tup (da_cons (de_call D__law_bent_tie (hr.mono (by decide)) tk (da_cons (de_var (i := 0)) (da_cons (de_tup (da_cons de_int (da_cons de_int (da_cons de_int da_nil)))) (da_cons (de_var (i := 2)) da_nil)))) da_nil)) da_nil))))))
    dss_nil)
  (dss_cons ev (ds_par (i := 6) (j := 9) rfl nd (da_cons (de_call D__law_draw (hr.mono (by decide)) tk (da_cons (de_var (i := 0)) (da_cons (de_callB dc_len T.b_len (da_cons (de_var (i := 4)) da_nil)) da_nil))) (da_cons (de_call D__law_draw (hr.mono (by decide)) tk (da_cons (de_var (i := 0)) (da_cons (de_callB dc_len T.b_len (da_cons (de_var (i := 4)) da_nil)) da_nil))) da_nil)))
  (dss_cons ev (ds_if (dt_cmp (do_eq hr.units) (de_var (i := 5)) de_int)
    (dss_one (ds_ret (de_tup (da_cons (de_var (i := 2)) (da_cons (de_var (i := 3)) (da_cons (de_op do_addA (de_op do_addA (de_sl (de_var (i := 4)) do_none (do_some (de_var (i := 6)))) (de_tup (da_cons (de_call D__law_bent_tie (hr.mono (by decide)) tk (da_cons (de_var (i := 0)) (da_cons (de_ix (de_var (i := 4)) (de_var (i := 6))) (da_cons (de_var (i := 2)) da_nil)))) da_nil))) (de_sl (de_var (i := 4)) (do_some (de_op do_addA (de_var (i := 6)) de_int)) do_none)) da_nil))))))
    dss_nil)
  (dss_cons ev (ds_set (i := 10) nd (de_callTy dc_lstN T.b_list (da_cons (de_var (i := 4)) da_nil)))
  (dss_cons ev (ds_asg (vs := []) (de_tup (da_cons (de_ix (de_var (i := 4)) (de_var (i := 9))) (da_cons (de_ix (de_var (i := 4)) (de_var (i := 6))) da_nil))) (dg_tup (n := 2) rfl (dgs_cons (dg_sub (de_var (i := 10)) (de_var (i := 6))) (dgs_cons (dg_sub (de_var (i := 10)) (de_var (i := 9))) dgs_nil))))
  (dss_one (ds_ret (de_tup (da_cons (de_var (i := 2)) (da_cons (de_var (i := 3)) (da_cons (de_callTy dc_tup T.b_tuple (da_cons (de_var (i := 10)) da_nil)) da_nil)))))))))))))))))
theorem ok__law_edges (T : Tx P w K mg base) (D__law_draw : Dfn P w K mg base (L2.CX P w) 2 "_law_draw" 2 m__law_draw) (F : FunD K "_law_edges" "_law_edges" (defArgs s__law_edges) (defBody s__law_edges) (defScope s__law_edges) [] [] f fd) (G : mg "_law_edges" = some (.ref f)) : Dfn P w K mg base (L2.CX P w) 3 "_law_edges" 2 m__law_edges := by
  refine ⟨⟨f, fd, ["pot", "parts"], fn_d F sc__law_edges rfl (fun cdv A outer s H E g hr => ?_), G, F.kp, F.bindsN fun _ _ _ _ _ _ us hl => match us, hl with | [_, _], _ => rfl⟩⟩
  have nd := sc__law_edges.nd
  have ev := body_even (CX := L2.CX P w) (P := P) (w := w) (K := K) (mg := mg) (base := base) (N := N__law_edges) (qual := "_law_edges") (scope := defScope s__law_edges) (f := f) (cd := cdv) (A := A) (outer := outer) (s := s) (H := H) (E := E) (g := g)
  have tw := tkw_body (P := P) (w := w) (K := K) (mg := mg) (base := base) (N := N__law_edges) (qual := "_law_edges") (scope := defScope s__law_edges) (f := f) (cd := cdv) (A := A) (outer := outer) (s := s) (H := H) (E := E) (g := g)
  have tk := tkd_of tw
  unfold b__law_edges
  exact (dss_cons ev (ds_asg (vs := [2, 3, 4]) (de_var (i := 1)) (dg_tup (n := 3) rfl (dgs_cons (dg_name (i := 2) nd) (dgs_cons (dg_name (i := 3) nd) (dgs_cons (dg_name (i := 4) nd) dgs_nil)))))
  (dss_cons ev (ds_set (i := 5) nd (de_call D__law_draw (hr.mono (by decide)) tk (da_cons (de_var (i := 0)) (da_cons (de_var (i := 2)) da_nil))))
  (dss_cons ev (ds_set (i := 6) nd (de_lst (da_cons (de_tup (da_cons de_int (da_cons (de_op do_mulU (de_tup (da_cons de_int da_nil)) de_int) (da_cons (de_tup da_nil) da_nil)))) (da_cons (de_tup (da_cons de_int (da_cons (de_tup da_nil) (da_cons (de_tup da_nil) da_nil)))) (da_cons (de_tup (da_cons de_int (da_cons (de_op do_mulU (de_tup (da_cons de_int da_nil)) de_int) (da_cons (de_tup da_nil) da_nil)))) (da_cons (de_tup (da_cons de_int (da_cons (de_tup (da_cons de_int da_nil)) (da_cons (de_tup (da_cons (de_tup (da_cons de_int (da_cons de_int (da_cons de_int da_nil)))) da_nil)) da_nil)))) da_nil))))))
  (dss_cons ev (ds_set (i := 6) nd (de_op do_addA (de_var (i := 6)) (de_lcA fr_f rfl nd (di_seq (de_lst (da_cons de_int (da_cons de_int (da_cons (de_un do_negI de_int) da_nil))))) (blkOk_by (own := [("hue", 7)]) (N := N__law_edges) (sc := defScope s__law_edges) (by decide +kernel)) (fun B _ _ _ _ _ => (dg_name (i := 7) nd)) dtu_nil (fun B _ _ _ _ _ => (de_tup (da_cons (de_var (i := 2)) (da_cons (de_op do_addA (de_op do_addA (de_sl (de_var (i := 3)) do_none (do_some (de_var (i := 5)))) (de_tup (da_cons (de_var (i := 7)) da_nil))) (de_sl (de_var (i := 3)) (do_some (de_op do_addA (de_var (i := 5)) de_int)) do_none)) (da_cons (de_var (i := 4)) da_nil))))))))
  (dss_cons ev (ds_set (i := 6) nd (de_op do_addA (de_var (i := 6)) (de_lcA fr_f rfl nd (di_seq (de_lst (da_cons (de_tup (da_cons de_int (da_cons de_int (da_cons de_int da_nil)))) (da_cons (de_tup (da_cons de_int (da_cons (de_var (i := 2)) (da_cons de_int da_nil)))) (da_cons (de_tup (da_cons de_int (da_cons (de_op do_subI (de_var (i := 2)) de_int) (da_cons (de_var (i := 2)) da_nil)))) da_nil))))) (blkOk_by (own := [("tie", 8)]) (N := N__law_edges) (sc := defScope s__law_edges) (by decide +kernel)) (fun B _ _ _ _ _ => (dg_name (i := 8) nd)) dtu_nil (fun B _ _ _ _ _ => (de_tup (da_cons (de_var (i := 2)) (da_cons (de_var (i := 3)) (da_cons (de_op do_addA (de_var (i := 4)) (de_tup (da_cons (de_var (i := 8)) da_nil))) da_nil))))))))
  (dss_cons ev (ds_set (i := 6) nd (de_op do_addA (de_var (i := 6)) (de_lcA fr_f rfl nd (di_seq (de_lst (da_cons (de_tup (da_cons (de_un do_negI de_int) (da_cons de_int (da_cons de_int da_nil)))) (da_cons (de_tup (da_cons de_int (da_cons (de_un do_negI de_int) (da_cons de_int da_nil)))) (da_cons (de_tup (da_cons de_int (da_cons de_int (da_cons (de_un do_negI de_int) da_nil)))) da_nil))))) (blkOk_by (own := [("tie", 8)]) (N := N__law_edges) (sc := defScope s__law_edges) (by decide +kernel)) (fun B _ _ _ _ _ => (dg_name (i := 8) nd)) dtu_nil (fun B _ _ _ _ _ => (de_tup (da_cons (de_var (i := 2)) (da_cons (de_var (i := 3)) (da_cons (de_op do_addA (de_tup (da_cons (de_var (i := 8)) da_nil)) (de_var (i := 4))) da_nil))))))))
  (dss_one (ds_ret (de_op do_addA (de_var (i := 6)) (de_lst (da_cons (de_tup (da_cons (de_var (i := 2)) (da_cons (de_var (i := 3)) (da_cons (de_op do_addA (de_var (i := 4)) (de_sl (de_var (i := 4)) (do_some (de_un do_negI de_int)) do_none)) da_nil)))) (da_cons (de_tup (da_cons (de_var (i := 2)) (da_cons (de_op do_addA (de_var (i := 3)) (de_tup (da_cons de_int da_nil))) (da_cons (de_var (i := 4)) da_nil)))) (da_cons (de_tup (da_cons (de_var (i := 2)) (da_cons (de_sl (de_var (i := 3)) (do_some de_int) do_none) (da_cons (de_var (i := 4)) da_nil)))) da_nil)))))))))))))
theorem ok__law_full (T : Tx P w K mg base)  (F : FunD K "_law_full" "_law_full" (defArgs s__law_full) (defBody s__law_full) (defScope s__law_full) [] [] f fd) (G : mg "_law_full" = some (.ref f)) : Dfn P w K mg base (L2.CX P w) 2 "_law_full" 1 m__law_full := by
  refine ⟨⟨f, fd, ["many"], fn_d F sc__law_full rfl (fun cdv A outer s H E g hr => ?_), G, F.kp, F.bindsN fun _ _ _ _ _ _ us hl => match us, hl with | [_], _ => rfl⟩⟩
  have nd := sc__law_full.nd
  have ev := body_even (CX := L2.CX P w) (P := P) (w := w) (K := K) (mg := mg) (base := base) (N := N__law_full) (qual := "_law_full") (scope := defScope s__law_full) (f := f) (cd := cdv) (A := A) (outer := outer) (s := s) (H := H) (E := E) (g := g)
  have tw := tkw_body (P := P) (w := w) (K := K) (mg := mg) (base := base) (N := N__law_full) (qual := "_law_full") (scope := defScope s__law_full) (f := f) (cd := cdv) (A := A) (outer := outer) (s := s) (H := H) (E := E) (g := g)
  have tk := tkd_of tw
  unfold b__law_full
  exact (dss_cons ev (ds_set (i := 1) nd (de_new da_nil))
  (dss_cons ev (ds_for (vs := [2]) (passes_of rfl) rfl ev (di_rng1 T.b_range (da_cons de_int da_nil)) (dg_name (i := 2) nd)
    (dss_one (ds_for (vs := [3]) (passes_of rfl) rfl ev (di_rng1 T.b_range (da_cons (de_var (i := 0)) da_nil)) (dg_name (i := 3) nd)
    (dss_one (ds_expr (de_bm PySem.F.plainAttrs_list PySem.F.slot_list_extend PySem.F.type_list_extend dm_extend (de_var (i := 1)) (da_cons (de_lcA fr_f rfl nd (di_rng1 T.b_range (da_cons (de_var (i := 0)) da_nil)) (blkOk_by (own := [("end", 4)]) (N := N__law_full) (sc := defScope s__law_full) (by decide +kernel)) (fun B _ _ _ _ _ => (dg_name (i := 4) nd)) dtu_nil (fun B _ _ _ _ _ => (de_tup (da_cons (de_var (i := 2)) (da_cons (de_var (i := 3)) (da_cons (de_var (i := 4)) da_nil)))))) da_nil)))))))
  (dss_one (ds_ret (de_tup (da_cons (de_var (i := 0)) (da_cons (de_op do_mulU (de_tup (da_cons de_int da_nil)) (de_var (i := 0))) (da_cons (de_callTy dc_tup T.b_tuple (da_cons (de_var (i := 1)) da_nil)) da_nil))))))))
theorem ok__law_great_right (T : Tx P w K mg base) (D__law_any : Dfn P w K mg base (L2.CX P w) 3 "_law_any" 2 m__law_any) (D__law_full : Dfn P w K mg base (L2.CX P w) 2 "_law_full" 1 m__law_full) (D__law_made : Dfn P w K mg base (L2.CX P w) 9 "_law_made" 1 m__law_made) (F : FunD K "_law_great_right" "_law_great_right" (defArgs s__law_great_right) (defBody s__law_great_right) (defScope s__law_great_right) [] [] f fd) (G : mg "_law_great_right" = some (.ref f)) : Dfn P w K mg base (L2.CX P w) 10 "_law_great_right" 1 m__law_great_right := by
  refine ⟨⟨f, fd, ["pot"], fn_d F sc__law_great_right rfl (fun cdv A outer s H E g hr => ?_), G, F.kp, F.bindsN fun _ _ _ _ _ _ us hl => match us, hl with | [_], _ => rfl⟩⟩
  have nd := sc__law_great_right.nd
  have ev := body_even (CX := L2.CX P w) (P := P) (w := w) (K := K) (mg := mg) (base := base) (N := N__law_great_right) (qual := "_law_great_right") (scope := defScope s__law_great_right) (f := f) (cd := cdv) (A := A) (outer := outer) (s := s) (H := H) (E := E) (g := g)
  have tw := tkw_body (P := P) (w := w) (K := K) (mg := mg) (base := base) (N := N__law_great_right) (qual := "_law_great_right") (scope := defScope s__law_great_right) (f := f) (cd := cdv) (A := A) (outer := outer) (s := s) (H := H) (E := E) (g := g)
  have tk := tkd_of tw
  unfold b__law_great_right
  exact (dss_cons ev (ds_par (i := 1) (j := 2) rfl nd (da_cons (de_call D__law_full (hr.mono (by decide)) tk (da_cons de_int da_nil)) (da_cons (de_call D__law_full (hr.mono (by decide)) tk (da_cons de_int da_nil)) da_nil)))
  (dss_cons ev (ds_if (dt_cmp (do_ne hr.units) (de_callB (dc_repr hr) T.b_repr (da_cons (de_call D__law_made (hr.mono (by decide)) tk (da_cons (de_var (i := 1)) da_nil)) da_nil)) (de_callB (dc_repr hr) T.b_repr (da_cons (de_tup (da_cons de_str (da_cons (de_var (i := 1)) da_nil))) da_nil)))
    (dss_one (ds_ret de_bl))
    dss_nil)
  (dss_cons ev (ds_set (i := 3) nd (de_op do_addA (de_ix (de_var (i := 1)) de_int) (de_tup (da_cons (de_call D__law_any (hr.mono (by decide)) tk (da_cons (de_var (i := 0)) (da_cons (de_lst (da_cons (de_tup (da_cons de_int (da_cons de_int (da_cons de_int da_nil)))) (da_cons de_non (da_cons (de_tup (da_cons de_int (da_cons de_int (da_cons de_int da_nil)))) (da_cons (de_tup (da_cons de_int (da_cons de_int (da_cons de_int da_nil)))) da_nil))))) da_nil))) da_nil))))
  (dss_cons ev (ds_if (dw_pt (dw_or (dt_cmp (do_ne hr.units) (de_call D__law_made (hr.mono (by decide)) tk (da_cons (de_tup (da_cons de_int (da_cons (de_ix (de_var (i := 1)) de_int) (da_cons (de_var (i := 3)) da_nil)))) da_nil)) (de_tup (da_cons de_str (da_cons de_str da_nil)))) (dw_or1 (dt_cmp (do_ne hr.units) (de_call D__law_made (hr.mono (by decide)) tk (da_cons (de_var (i := 2)) da_nil)) (de_tup (da_cons de_str (da_cons de_str da_nil)))))))
    (dss_one (ds_ret de_bl))
    dss_nil)
  (dss_one (ds_ret (de_cmp (do_eq hr.units) (de_callB (dc_repr hr) T.b_repr (da_cons (de_call D__law_made (hr.mono (by decide)) tk (da_cons (de_tup (da_cons de_int (da_cons (de_ix (de_var (i := 2)) de_int) (da_cons (de_sl (de_ix (de_var (i := 2)) de_int) do_none (do_some de_int)) da_nil)))) da_nil)) da_nil)) (de_callB (dc_repr hr) T.b_repr (da_cons (de_tup (da_cons de_str (da_cons (de_tup (da_cons de_int (da_cons (de_ix (de_var (i := 2)) de_int) (da_cons (de_sl (de_ix (de_var (i := 2)) de_int) do_none (do_some de_int)) da_nil)))) da_nil))) da_nil)))))))))
theorem ok_Web___eq__ (T : Tx P w K mg base)  (F : FunD K "__eq__" "Web.__eq__" (defArgs s_Web___eq__) (defBody s_Web___eq__) (defScope s_Web___eq__) [] [] f fd) (M : Meth K (He.ga K "Web") "__eq__" f) (cl : Cls K (He.ga K "Web")) : Mth P w K mg base (L2.CX P w) 2 "Web" "__eq__" 2 m_Web___eq__ := by
  refine ⟨⟨f, fd, ["self", "other"], cl, M, fn_d F sc_Web___eq__ rfl (fun cdv A outer s H E g hr => ?_), F.bindsN fun _ _ _ _ _ _ us hl => match us, hl with | [_, _], _ => rfl⟩⟩
  have nd := sc_Web___eq__.nd
  have ev := body_even (CX := L2.CX P w) (P := P) (w := w) (K := K) (mg := mg) (base := base) (N := N_Web___eq__) (qual := "Web.__eq__") (scope := defScope s_Web___eq__) (f := f) (cd := cdv) (A := A) (outer := outer) (s := s) (H := H) (E := E) (g := g)
  have tw := tkw_body (P := P) (w := w) (K := K) (mg := mg) (base := base) (N := N_Web___eq__) (qual := "Web.__eq__") (scope := defScope s_Web___eq__) (f := f) (cd := cdv) (A := A) (outer := outer) (s := s) (H := H) (E := E) (g := g)
  have tk := tkd_of tw
  unfold b_Web___eq__
  exact (dss_cons ev (ds_if (dt_not (dt_val (de_isC T.is_Web T.g_Web T.b_isinstance (de_var (i := 1)))))
    (dss_one (ds_ret de_bl))
    dss_nil)
  (dss_one (ds_ret (de_cmp (do_eq hr.units) (de_tup (da_cons (de_fld (fc_many T) (de_var (i := 0))) (da_cons (de_fld (fc_hues T) (de_var (i := 0))) (da_cons (de_fld (fc_ties T) (de_var (i := 0))) da_nil)))) (de_tup (da_cons (de_fld (fc_many T) (de_var (i := 1))) (da_cons (de_fld (fc_hues T) (de_var (i := 1))) (da_cons (de_fld (fc_ties T) (de_var (i := 1))) da_nil))))))))
theorem ok_law (T : Tx P w K mg base) (D_Web___eq__ : Mth P w K mg base (L2.CX P w) 2 "Web" "__eq__" 2 m_Web___eq__) (D__law_bent : Dfn P w K mg base (L2.CX P w) 7 "_law_bent" 2 m__law_bent) (D__law_draw : Dfn P w K mg base (L2.CX P w) 2 "_law_draw" 2 m__law_draw) (D__law_edges : Dfn P w K mg base (L2.CX P w) 3 "_law_edges" 2 m__law_edges) (D__law_great_right : Dfn P w K mg base (L2.CX P w) 10 "_law_great_right" 1 m__law_great_right) (D__law_made : Dfn P w K mg base (L2.CX P w) 9 "_law_made" 1 m__law_made) (D__law_odd : Dfn P w K mg base (L2.CX P w) 5 "_law_odd" 1 m__law_odd) (D__law_parts : Dfn P w K mg base (L2.CX P w) 4 "_law_parts" 2 m__law_parts) (D__law_pot : Dfn P w K mg base (L2.CX P w) 2 "_law_pot" 1 m__law_pot) (D__law_web : Dfn P w K mg base (L2.CX P w) 8 "_law_web" 1 m__law_web) (D__law_wrong : Dfn P w K mg base (L2.CX P w) 4 "_law_wrong" 3 m__law_wrong) (F : FunD K "law" "law" (defArgs s_law) (defBody s_law) (defScope s_law) [] [] f fd) : FnG P w K mg base (L2.CX P w) 11 f fd ["script"] (spD K w 1 m_law) := by
  refine fn_d F sc_law rfl (fun cdv A outer s H E g hr => ?_)
  have nd := sc_law.nd
  have ev := body_even (CX := L2.CX P w) (P := P) (w := w) (K := K) (mg := mg) (base := base) (N := N_law) (qual := "law") (scope := defScope s_law) (f := f) (cd := cdv) (A := A) (outer := outer) (s := s) (H := H) (E := E) (g := g)
  have tw := tkw_body (P := P) (w := w) (K := K) (mg := mg) (base := base) (N := N_law) (qual := "law") (scope := defScope s_law) (f := f) (cd := cdv) (A := A) (outer := outer) (s := s) (H := H) (E := E) (g := g)
  have tk := tkd_of tw
  unfold b_law
  exact (dss_cons ev (ds_set (i := 1) nd (de_call D__law_pot (hr.mono (by decide)) tk (da_cons (de_var (i := 0)) da_nil)))
  (dss_cons ev (ds_if (dw_pt (dw_and (dt_cmp (do_eq hr.units) (de_call D__law_draw (hr.mono (by decide)) tk (da_cons (de_var (i := 1)) (da_cons de_int da_nil))) de_int) (dw_and1 (dt_not (dt_val (de_call D__law_great_right (hr.mono (by decide)) tk (da_cons (de_var (i := 1)) da_nil)))))))
    (dss_one (ds_ret de_bl))
    dss_nil)
  (dss_cons ev (ds_for (vs := [2]) (passes_of rfl) rfl ev (di_rng1 T.b_range (da_cons de_int da_nil)) (dg_name (i := 2) nd)
    (dss_cons ev (ds_set (i := 3) nd (de_call D__law_parts (hr.mono (by decide)) tk (da_cons (de_var (i := 1)) (da_cons de_int da_nil))))
  (dss_cons ev (ds_set (i := 4) nd (de_call D__law_web (hr.mono (by decide)) tk (da_cons (de_var (i := 3)) da_nil)))
  (dss_cons ev (ds_if (dw_pt (dw_or (dt_cmp (do_ne hr.units) (de_callB (dc_repr hr) T.b_repr (da_cons (de_call D__law_made (hr.mono (by decide)) tk (da_cons (de_var (i := 3)) da_nil)) da_nil)) (de_callB (dc_repr hr) T.b_repr (da_cons (de_tup (da_cons de_str (da_cons (de_var (i := 3)) da_nil))) da_nil))) (dw_or (dt_not (dt_cmp (do_eqCx D_Web___eq__ (hr.mono (by decide))) (de_var (i := 4)) (de_call D__law_web (hr.mono (by decide)) tk (da_cons (de_var (i := 3)) da_nil)))) (dw_or1 (dt_cmp (do_eqCx D_Web___eq__ (hr.mono (by decide))) (de_var (i := 4)) (de_var (i := 3)))))))
    (dss_one (ds_ret de_bl))
    dss_nil)
  (dss_cons ev (ds_for (vs := [5]) (passes_of rfl) rfl ev (di_seq (de_call D__law_edges (hr.mono (by decide)) tk (da_cons (de_var (i := 1)) (da_cons (de_var (i := 3)) da_nil)))) (dg_name (i := 5) nd)
    (dss_cons ev (ds_set (i := 6) nd (de_call D__law_wrong (hr.mono (by decide)) tk (da_cons (de_ix (de_var (i := 5)) de_int) (da_cons (de_ix (de_var (i := 5)) de_int) (da_cons (de_ix (de_var (i := 5)) de_int) da_nil)))))
  (dss_one (ds_if (dt_cmp (do_ne hr.units) (de_callB (dc_repr hr) T.b_repr (da_cons (de_call D__law_made (hr.mono (by decide)) tk (da_cons (de_var (i := 5)) da_nil)) da_nil)) (de_callB (dc_repr hr) T.b_repr (da_cons (de_if (dt_cmp do_isN (de_var (i := 6)) de_non) (de_tup (da_cons de_str (da_cons (de_var (i := 5)) da_nil))) (de_tup (da_cons de_str (da_cons (de_var (i := 6)) da_nil)))) da_nil)))
    (dss_one (ds_ret de_bl))
    dss_nil))))
  (dss_cons ev (ds_set (i := 7) nd (de_call D__law_bent (hr.mono (by decide)) tk (da_cons (de_var (i := 1)) (da_cons (de_var (i := 3)) da_nil))))
  (dss_cons ev (ds_if (dw_pt (dw_and (dt_cmp (do_eq hr.units) (de_call D__law_draw (hr.mono (by decide)) tk (da_cons (de_var (i := 1)) (da_cons de_int da_nil))) de_int) (dw_and1 (dt_cmp do_isN (de_call D__law_wrong (hr.mono (by decide)) tk (da_cons (de_ix (de_var (i := 7)) de_int) (da_cons (de_ix (de_var (i := 7)) de_int) (da_cons (de_ix (de_var (i := 7)) de_int) da_nil)))) de_non))))
    (dss_one (ds_set (i := 7) nd (de_call D__law_bent (hr.mono (by decide)) tk (da_cons (de_var (i := 1)) (da_cons (de_var (i := 7)) da_nil)))))
    dss_nil)
  (dss_cons ev (ds_set (i := 6) nd (de_call D__law_wrong (hr.mono (by decide)) tk (da_cons (de_ix (de_var (i := 7)) de_int) (da_cons (de_ix (de_var (i := 7)) de_int) (da_cons (de_ix (de_var (i := 7)) de_int) da_nil)))))
  (dss_cons ev (ds_if (dt_cmp (do_ne hr.units) (de_callB (dc_repr hr) T.b_repr (da_cons (de_call D__law_made (hr.mono (by decide)) tk (da_cons (de_var (i := 7)) da_nil)) da_nil)) (de_callB (dc_repr hr) T.b_repr (da_cons (de_if (dt_cmp do_isN (de_var (i := 6)) de_non) (de_tup (da_cons de_str (da_cons (de_var (i := 7)) da_nil))) (de_tup (da_cons de_str (da_cons (de_var (i := 6)) da_nil)))) da_nil)))
    (dss_one (ds_ret de_bl))
    dss_nil)
  (dss_cons ev (ds_if (dw_pt (dw_and (dt_cmp do_isN (de_var (i := 6)) de_non) (dw_and1 (dt_cmp (do_ne hr.units) (de_cmp (do_eqCx D_Web___eq__ (hr.mono (by decide))) (de_var (i := 4)) (de_call D__law_web (hr.mono (by decide)) tk (da_cons (de_var (i := 7)) da_nil))) (de_cmp (do_eq hr.units) (de_var (i := 7)) (de_var (i := 3)))))))
    (dss_one (ds_ret de_bl))
    dss_nil)
  (dss_one (ds_if (dw_pt (dw_or (dt_cmp (do_eqCx D_Web___eq__ (hr.mono (by decide))) (de_var (i := 4)) (de_call D__law_odd (hr.mono (by decide)) tk (da_cons (de_var (i := 1)) da_nil))) (dw_or1 (dt_cmp (do_eqCx D_Web___eq__ (hr.mono (by decide))) (de_var (i := 4)) de_str))))
    (dss_one (ds_ret de_bl))
    dss_nil))))))))))))
  (dss_one (ds_ret de_bl)))))
end
end Qk01
set_option Elab.async false
set_option linter.all false
set_option maxRecDepth 100000
set_option maxHeartbeats 0
set_option autoImplicit false
namespace Qk01
open PySem PySem.Spec L2 L3
open PyProof.Rows hiding St
def d_is_integer : He.DefD := ⟨("is_integer", none), "is_integer", "is_integer", defArgs s_is_integer, defBody s_is_integer, defScope s_is_integer, [], []⟩
def d_is_within : He.DefD := ⟨("is_within", none), "is_within", "is_within", defArgs s_is_within, defBody s_is_within, defScope s_is_within, [], []⟩
def d_is_number : He.DefD := ⟨("is_number", none), "is_number", "is_number", defArgs s_is_number, defBody s_is_number, defScope s_is_number, [], []⟩
def d_is_tie : He.DefD := ⟨("is_tie", none), "is_tie", "is_tie", defArgs s_is_tie, defBody s_is_tie, defScope s_is_tie, [], []⟩
def d__law_pot : He.DefD := ⟨("_law_pot", none), "_law_pot", "_law_pot", defArgs s__law_pot, defBody s__law_pot, defScope s__law_pot, [], []⟩
def d__law_draw : He.DefD := ⟨("_law_draw", none), "_law_draw", "_law_draw", defArgs s__law_draw, defBody s__law_draw, defScope s__law_draw, [], []⟩
def d__law_any : He.DefD := ⟨("_law_any", none), "_law_any", "_law_any", defArgs s__law_any, defBody s__law_any, defScope s__law_any, [], []⟩
def d__law_parts : He.DefD := ⟨("_law_parts", none), "_law_parts", "_law_parts", defArgs s__law_parts, defBody s__law_parts, defScope s__law_parts, [], []⟩
def d_Web_keep : He.DefD := ⟨("Web", some "keep"), "keep", "Web.keep", defArgs s_Web_keep, defBody s_Web_keep, defScope s_Web_keep, [], []⟩
def d_Web___init__ : He.DefD := ⟨("Web", some "__init__"), "__init__", "Web.__init__", defArgs s_Web___init__, defBody s_Web___init__, defScope s_Web___init__, [], []⟩
def d__law_web : He.DefD := ⟨("_law_web", none), "_law_web", "_law_web", defArgs s__law_web, defBody s__law_web, defScope s__law_web, [], []⟩
def d__law_deep : He.DefD := ⟨("_law_deep", none), "_law_deep", "_law_deep", defArgs s__law_deep, defBody s__law_deep, defScope s__law_deep, [], []⟩
def d__law_is_number : He.DefD := ⟨("_law_is_number", none), "_law_is_number", "_law_is_number", defArgs s__law_is_number, defBody s__law_is_number, defScope s__law_is_number, [], []⟩
def d__law_shown : He.DefD := ⟨("_law_shown", none), "_law_shown", "_law_shown", defArgs s__law_shown, defBody s__law_shown, defScope s__law_shown, [], []⟩
def d__law_is_tie : He.DefD := ⟨("_law_is_tie", none), "_law_is_tie", "_law_is_tie", defArgs s__law_is_tie, defBody s__law_is_tie, defScope s__law_is_tie, [], []⟩
def d__law_wrong : He.DefD := ⟨("_law_wrong", none), "_law_wrong", "_law_wrong", defArgs s__law_wrong, defBody s__law_wrong, defScope s__law_wrong, [], []⟩
def d__law_made : He.DefD := ⟨("_law_made", none), "_law_made", "_law_made", defArgs s__law_made, defBody s__law_made, defScope s__law_made, [], []⟩
def d__law_odd : He.DefD := ⟨("_law_odd", none), "_law_odd", "_law_odd", defArgs s__law_odd, defBody s__law_odd, defScope s__law_odd, [], []⟩
def d__law_bent_tie : He.DefD := ⟨("_law_bent_tie", none), "_law_bent_tie", "_law_bent_tie", defArgs s__law_bent_tie, defBody s__law_bent_tie, defScope s__law_bent_tie, [], []⟩
def d__law_bent : He.DefD := ⟨("_law_bent", none), "_law_bent", "_law_bent", defArgs s__law_bent, defBody s__law_bent, defScope s__law_bent, [], []⟩
def d__law_edges : He.DefD := ⟨("_law_edges", none), "_law_edges", "_law_edges", defArgs s__law_edges, defBody s__law_edges, defScope s__law_edges, [], []⟩
def d__law_full : He.DefD := ⟨("_law_full", none), "_law_full", "_law_full", defArgs s__law_full, defBody s__law_full, defScope s__law_full, [], []⟩
def d__law_great_right : He.DefD := ⟨("_law_great_right", none), "_law_great_right", "_law_great_right", defArgs s__law_great_right, defBody s__law_great_right, defScope s__law_great_right, [], []⟩
def d_Web___eq__ : He.DefD := ⟨("Web", some "__eq__"), "__eq__", "Web.__eq__", defArgs s_Web___eq__, defBody s_Web___eq__, defScope s_Web___eq__, [], []⟩
def d_law : He.DefD := ⟨("law", none), "law", "law", defArgs s_law, defBody s_law, defScope s_law, [], []⟩
def fnl0 : List He.DefD := [d_is_integer, d_is_within, d_is_number, d_is_tie, d__law_pot, d__law_draw, d__law_any, d__law_parts, d_Web_keep, d_Web___init__, d__law_web, d__law_deep, d__law_is_number, d__law_shown, d__law_is_tie, d__law_wrong, d__law_made, d__law_odd, d__law_bent_tie, d__law_bent, d__law_edges, d__law_full, d__law_great_right, d_Web___eq__, d_law]
abbrev fnl : List He.DefD := fnl0
def fal0 : List He.Fa := [.glo "is_integer", .glo "is_within", .glo "is_number", .glo "is_tie", .glo "_law_pot", .glo "_law_draw", .glo "_law_any", .glo "_law_parts", .glo "_law_web", .glo "_law_deep", .glo "_law_is_number", .glo "_law_shown", .glo "_law_is_tie", .glo "_law_wrong", .glo "_law_made", .glo "_law_odd", .glo "_law_bent_tie", .glo "_law_bent", .glo "_law_edges", .glo "_law_full", .glo "_law_great_right", .glo "law", .free "ValueError", .free "abs", .free "all", .free "bool", .free "enumerate", .free "int", .free "isinstance", .free "len"]
def fal1 : List He.Fa := [.free "list", .free "range", .free "repr", .free "sorted", .free "str", .free "tuple", .int "MOST_HUE" (9), .int "MOST_KIND" (3), .int "MOST_PLACES" (40), .int "MOST_TIES" (1600), .cls "Web", .glo "BadWeb", .glo "KinError", .glo "Web", .noat "Web" "hues", .noat "Web" "many", .noat "Web" "tie_places", .noat "Web" "ties", .meth "Web" "keep", .mkr "Web", .meth "Web" "__eq__", .free "super"]
abbrev fal : List He.Fa := fal0 ++ fal1
def exl0 : List XF := [isCB "Web", exmB ["BadWeb"] "BadWeb" true, exmB ["KinError"] "BadWeb" false, excA ["BadWeb"], kitB ["BadWeb"] "KinError" ["KinError", "BadWeb"], excA ["BadWeb"], kitT ["BadWeb"] "ValueError", xfA ["BadWeb"], noA ["BadWeb"] "part"]
abbrev exl : List XF := exl0
def loo0 : List Str := ["KinError", "BadWeb", "is_integer", "is_within", "is_number", "MOST_PLACES", "MOST_HUE", "MOST_KIND", "MOST_TIES", "is_tie", "Web", "_law_pot", "_law_draw", "_law_any", "_law_parts", "_law_web", "_law_deep", "_law_is_number", "_law_shown", "_law_is_tie", "_law_wrong", "_law_made", "_law_odd", "_law_bent_tie", "_law_bent", "_law_edges", "_law_full", "_law_great_right"]
abbrev loo : List Str := loo0
abbrev R : PySem.W.OpenRow := PySem.W.OpenLaw.row PySem.Challenge.rw_levelkin_k01_whole_webs_judged
abbrev si_BadWeb : Stmt := inCls (top 2) 0
def su_BadWeb : SupD := ⟨"BadWeb", "BadWeb.__init__", defArgs si_BadWeb, defBody si_BadWeb, defScope si_BadWeb, ["part"], R.prog.main.file⟩
def spl : List SupD := [su_BadWeb]
abbrev hk : PySem.W.Hook := hookY 4 exl spl fal fnl
def ob (s : PySem.W.SharedT) : (Bool × He.AlD) × List FnS := obsYG 4 exl spl fal fnl (HandSHeadRun.getT s)
theorem ob_eq (s : PySem.W.SharedT) : ob s = hk.obs s.abs := obsYG_eq (HandSHeadRun.getT_eq s)
theorem run (w : World) : HandSHeadRun.RunEq R (PySem.W.view R.prog [32]) hk ob 3000 loo w := by
  intro os
  kernel_rfl
theorem facts {P : Program} {w : World} {K : PySem.W.Frag} {h : Heap} {mg : Str → Option Value} {f : Addr} (X : K.In h) (G : h.Ns mainGlobals mg) (hfa : mg ("law" : Str) = some (.ref f)) (cx : obsY exl spl fal fnl K = valY spl fnl) (hP : ((P.main.file : Str) == (R.prog.main.file : Str)) = true) (top : (P.main.scope.names.lookup ("super" : Str)).isSome = false) :
    ∃ fd : FuncData, (∀ (s : Shared) (v : Value), BindsTo s fd ⟨[v], []⟩ [("script", v)]) ∧ ∀ base : Heap, K.In base → base.Ns mainGlobals mg → FnG P w K mg base (L2.CX P w) 11 f fd ["script"] (spD K w 1 m_law) := by
  have c := obsY_says cx
  obtain ⟨fd_is_integer, F_is_integer⟩ := c.def_ 0 (d := d_is_integer) rfl
  have G_is_integer := He.glo_ok X G (c.fact 0 (f := .glo "is_integer") rfl)
  obtain ⟨fd_is_within, F_is_within⟩ := c.def_ 1 (d := d_is_within) rfl
  have G_is_within := He.glo_ok X G (c.fact 1 (f := .glo "is_within") rfl)
  obtain ⟨fd_is_number, F_is_number⟩ := c.def_ 2 (d := d_is_number) rfl
  have G_is_number := He.glo_ok X G (c.fact 2 (f := .glo "is_number") rfl)
  obtain ⟨fd_is_tie, F_is_tie⟩ := c.def_ 3 (d := d_is_tie) rfl
  have G_is_tie := He.glo_ok X G (c.fact 3 (f := .glo "is_tie") rfl)
  obtain ⟨fd__law_pot, F__law_pot⟩ := c.def_ 4 (d := d__law_pot) rfl
  have G__law_pot := He.glo_ok X G (c.fact 4 (f := .glo "_law_pot") rfl)
  obtain ⟨fd__law_draw, F__law_draw⟩ := c.def_ 5 (d := d__law_draw) rfl
  have G__law_draw := He.glo_ok X G (c.fact 5 (f := .glo "_law_draw") rfl)
  obtain ⟨fd__law_any, F__law_any⟩ := c.def_ 6 (d := d__law_any) rfl
  have G__law_any := He.glo_ok X G (c.fact 6 (f := .glo "_law_any") rfl)
  obtain ⟨fd__law_parts, F__law_parts⟩ := c.def_ 7 (d := d__law_parts) rfl
  have G__law_parts := He.glo_ok X G (c.fact 7 (f := .glo "_law_parts") rfl)
  obtain ⟨fd_Web_keep, F_Web_keep⟩ := c.def_ 8 (d := d_Web_keep) rfl
  have M_Web_keep := He.meth_ok (c.fact 48 (f := .meth "Web" "keep") rfl)
  have G_Web_keep := He.cls_ok (c.fact 40 (f := .cls "Web") rfl)
  obtain ⟨fd_Web___init__, F_Web___init__⟩ := c.def_ 9 (d := d_Web___init__) rfl
  have M_Web___init__ := He.mkr_ok (c.fact 49 (f := .mkr "Web") rfl)
  have G_Web___init__ := He.glo_ok X G (c.fact 43 (f := .glo "Web") rfl)
  obtain ⟨fd__law_web, F__law_web⟩ := c.def_ 10 (d := d__law_web) rfl
  have G__law_web := He.glo_ok X G (c.fact 8 (f := .glo "_law_web") rfl)
  obtain ⟨fd__law_deep, F__law_deep⟩ := c.def_ 11 (d := d__law_deep) rfl
  have G__law_deep := He.glo_ok X G (c.fact 9 (f := .glo "_law_deep") rfl)
  obtain ⟨fd__law_is_number, F__law_is_number⟩ := c.def_ 12 (d := d__law_is_number) rfl
  have G__law_is_number := He.glo_ok X G (c.fact 10 (f := .glo "_law_is_number") rfl)
  obtain ⟨fd__law_shown, F__law_shown⟩ := c.def_ 13 (d := d__law_shown) rfl
  have G__law_shown := He.glo_ok X G (c.fact 11 (f := .glo "_law_shown") rfl)
  obtain ⟨fd__law_is_tie, F__law_is_tie⟩ := c.def_ 14 (d := d__law_is_tie) rfl
  have G__law_is_tie := He.glo_ok X G (c.fact 12 (f := .glo "_law_is_tie") rfl)
  obtain ⟨fd__law_wrong, F__law_wrong⟩ := c.def_ 15 (d := d__law_wrong) rfl
  have G__law_wrong := He.glo_ok X G (c.fact 13 (f := .glo "_law_wrong") rfl)
  obtain ⟨fd__law_made, F__law_made⟩ := c.def_ 16 (d := d__law_made) rfl
  have G__law_made := He.glo_ok X G (c.fact 14 (f := .glo "_law_made") rfl)
  obtain ⟨fd__law_odd, F__law_odd⟩ := c.def_ 17 (d := d__law_odd) rfl
  have G__law_odd := He.glo_ok X G (c.fact 15 (f := .glo "_law_odd") rfl)
  obtain ⟨fd__law_bent_tie, F__law_bent_tie⟩ := c.def_ 18 (d := d__law_bent_tie) rfl
  have G__law_bent_tie := He.glo_ok X G (c.fact 16 (f := .glo "_law_bent_tie") rfl)
  obtain ⟨fd__law_bent, F__law_bent⟩ := c.def_ 19 (d := d__law_bent) rfl
  have G__law_bent := He.glo_ok X G (c.fact 17 (f := .glo "_law_bent") rfl)
  obtain ⟨fd__law_edges, F__law_edges⟩ := c.def_ 20 (d := d__law_edges) rfl
  have G__law_edges := He.glo_ok X G (c.fact 18 (f := .glo "_law_edges") rfl)
  obtain ⟨fd__law_full, F__law_full⟩ := c.def_ 21 (d := d__law_full) rfl
  have G__law_full := He.glo_ok X G (c.fact 19 (f := .glo "_law_full") rfl)
  obtain ⟨fd__law_great_right, F__law_great_right⟩ := c.def_ 22 (d := d__law_great_right) rfl
  have G__law_great_right := He.glo_ok X G (c.fact 20 (f := .glo "_law_great_right") rfl)
  obtain ⟨fd_Web___eq__, F_Web___eq__⟩ := c.def_ 23 (d := d_Web___eq__) rfl
  have M_Web___eq__ := He.meth_ok (c.fact 50 (f := .meth "Web" "__eq__") rfl)
  have G_Web___eq__ := He.cls_ok (c.fact 40 (f := .cls "Web") rfl)
  obtain ⟨fd_law, F_law⟩ := c.def_ 24 (d := d_law) rfl
  have G_law := He.glo_ok X G (c.fact 21 (f := .glo "law") rfl)
  obtain ⟨fx_BadWeb, S_BadWeb⟩ := obsY_sup cx 0 (d := su_BadWeb) rfl (He.free_ok X G (c.fact 51 (f := .free "super") rfl)) hP top
  have B_BadWeb : Binds K fx_BadWeb ["self", "part"] [] := S_BadWeb.binds fun _ _ _ _ _ _ _ us hl => match us, hl with | [_, _], _ => rfl
  have I_BadWeb : ∀ base : Heap, FnOk P w K mg base L2.CX0 1 (iniA K "BadWeb") fx_BadWeb ["self", "part"] (spX (He.ga K "BadWeb") ["part"]) := fun base => superFn S_BadWeb.sup rfl rfl .nil (.cons .nil) S_BadWeb.no (by decide) (by decide) (by decide +kernel) (by decide +kernel) (by intro x hx; simp only [List.mem_cons, List.not_mem_nil, or_false] at hx; rcases hx with rfl | rfl <;> exact ⟨by decide +kernel, by decide⟩) (by decide +kernel) rfl rfl rfl (fun env h _ => by unfold interactive; rw [h]; rfl) (fun _ => rfl) (fun _ => rfl)
  have e := hfa.symm.trans G_law
  cases e
  have b := FunD.bindsA (ps := ["script"]) F_law fun _ _ _ _ _ _ us hl => match us, hl with | [_], _ => rfl
  refine ⟨fd_law, fun s v => b s [v] rfl, fun base inb nsb => ?_⟩
  have T : Tx P w K mg base := { b_ValueError := He.free_ok X G (c.fact 22 (f := .free "ValueError") rfl), b_abs := He.free_ok X G (c.fact 23 (f := .free "abs") rfl), b_all := He.free_ok X G (c.fact 24 (f := .free "all") rfl), b_bool := He.free_ok X G (c.fact 25 (f := .free "bool") rfl), b_enumerate := He.free_ok X G (c.fact 26 (f := .free "enumerate") rfl), b_int := He.free_ok X G (c.fact 27 (f := .free "int") rfl), b_isinstance := He.free_ok X G (c.fact 28 (f := .free "isinstance") rfl), b_len := He.free_ok X G (c.fact 29 (f := .free "len") rfl), b_list := He.free_ok X G (c.fact 30 (f := .free "list") rfl), b_range := He.free_ok X G (c.fact 31 (f := .free "range") rfl), b_repr := He.free_ok X G (c.fact 32 (f := .free "repr") rfl), b_sorted := He.free_ok X G (c.fact 33 (f := .free "sorted") rfl), b_str := He.free_ok X G (c.fact 34 (f := .free "str") rfl), b_tuple := He.free_ok X G (c.fact 35 (f := .free "tuple") rfl), c_MOST_HUE := He.int_ok X G (c.fact 36 (f := .int "MOST_HUE" (9)) rfl), c_MOST_KIND := He.int_ok X G (c.fact 37 (f := .int "MOST_KIND" (3)) rfl), c_MOST_PLACES := He.int_ok X G (c.fact 38 (f := .int "MOST_PLACES" (40)) rfl), c_MOST_TIES := He.int_ok X G (c.fact 39 (f := .int "MOST_TIES" (1600)) rfl), cl_Web := He.cls_ok (c.fact 40 (f := .cls "Web") rfl), g_BadWeb := He.glo_ok X G (c.fact 41 (f := .glo "BadWeb") rfl), g_KinError := He.glo_ok X G (c.fact 42 (f := .glo "KinError") rfl), g_Web := He.glo_ok X G (c.fact 43 (f := .glo "Web") rfl), na_Web_hues := He.noat_ok (c.fact 44 (f := .noat "Web" "hues") rfl), na_Web_many := He.noat_ok (c.fact 45 (f := .noat "Web" "many") rfl), na_Web_tie_places := He.noat_ok (c.fact 46 (f := .noat "Web" "tie_places") rfl), na_Web_ties := He.noat_ok (c.fact 47 (f := .noat "Web" "ties") rfl), is_Web := isCB_ok (He.cls_ok (c.fact 40 (f := .cls "Web") rfl)) (obsY_fact cx 0), x_BadWeb := xcl_of S_BadWeb (He.glo_ok X G (c.fact 41 (f := .glo "BadWeb") rfl)) (I_BadWeb base) B_BadWeb, ey_0 := obsY_fact cx 1, en_0 := obsY_fact cx 2, ke_0 := obsY_fact cx 3, kt_0 := obsY_fact cx 4, ke_1 := obsY_fact cx 5, kt_1 := obsY_fact cx 6, xf_0 := obsY_fact cx 7, xn_0 := obsY_fact cx 8 }
  have D_is_integer : Dfn P w K mg base (L2.CX P w) 2 "is_integer" 1 m_is_integer := ok_is_integer T  F_is_integer G_is_integer
  have D_is_within : Dfn P w K mg base (L2.CX P w) 3 "is_within" 3 m_is_within := ok_is_within T D_is_integer F_is_within G_is_within
  have D_is_number : Dfn P w K mg base (L2.CX P w) 4 "is_number" 2 m_is_number := ok_is_number T D_is_within F_is_number G_is_number
  have D_is_tie : Dfn P w K mg base (L2.CX P w) 5 "is_tie" 2 m_is_tie := ok_is_tie T D_is_number F_is_tie G_is_tie
  have D__law_pot : Dfn P w K mg base (L2.CX P w) 2 "_law_pot" 1 m__law_pot := ok__law_pot T  F__law_pot G__law_pot
  have D__law_draw : Dfn P w K mg base (L2.CX P w) 2 "_law_draw" 2 m__law_draw := ok__law_draw T  F__law_draw G__law_draw
  have D__law_any : Dfn P w K mg base (L2.CX P w) 3 "_law_any" 2 m__law_any := ok__law_any T D__law_draw F__law_any G__law_any
  have D__law_parts : Dfn P w K mg base (L2.CX P w) 4 "_law_parts" 2 m__law_parts := ok__law_parts T D__law_any D__law_draw F__law_parts G__law_parts
  have D_Web_keep : Mth P w K mg base (L2.CX P w) 2 "Web" "keep" 4 m_Web_keep := ok_Web_keep T  F_Web_keep M_Web_keep G_Web_keep
  have K_Web___init__ : Mkr P w K mg base (L2.CX P w) 6 "Web" 4 m_Web___init__ := ok_Web___init__ T D_Web_keep D_is_number D_is_tie D_is_within F_Web___init__ M_Web___init__ G_Web___init__
  have D__law_web : Dfn P w K mg base (L2.CX P w) 8 "_law_web" 1 m__law_web := ok__law_web T K_Web___init__ F__law_web G__law_web
  have D__law_deep : Dfn P w K mg base (L2.CX P w) 4 "_law_deep" 1 m__law_deep := ok__law_deep T D__law_any D__law_draw F__law_deep G__law_deep
  have D__law_is_number : Dfn P w K mg base (L2.CX P w) 2 "_law_is_number" 3 m__law_is_number := ok__law_is_number T  F__law_is_number G__law_is_number
  have D__law_shown : Dfn P w K mg base (L2.CX P w) 2 "_law_shown" 1 m__law_shown := ok__law_shown T  F__law_shown G__law_shown
  have D__law_is_tie : Dfn P w K mg base (L2.CX P w) 3 "_law_is_tie" 2 m__law_is_tie := ok__law_is_tie T D__law_is_number F__law_is_tie G__law_is_tie
  have D__law_wrong : Dfn P w K mg base (L2.CX P w) 4 "_law_wrong" 3 m__law_wrong := ok__law_wrong T D__law_is_number D__law_is_tie F__law_wrong G__law_wrong
  have D__law_made : Dfn P w K mg base (L2.CX P w) 9 "_law_made" 1 m__law_made := ok__law_made T D__law_shown D__law_web F__law_made G__law_made
  have D__law_odd : Dfn P w K mg base (L2.CX P w) 5 "_law_odd" 1 m__law_odd := ok__law_odd T D__law_any D__law_deep F__law_odd G__law_odd
  have D__law_bent_tie : Dfn P w K mg base (L2.CX P w) 6 "_law_bent_tie" 3 m__law_bent_tie := ok__law_bent_tie T D__law_any D__law_odd F__law_bent_tie G__law_bent_tie
  have D__law_bent : Dfn P w K mg base (L2.CX P w) 7 "_law_bent" 2 m__law_bent := ok__law_bent T D__law_any D__law_bent_tie D__law_draw D__law_odd F__law_bent G__law_bent
  have D__law_edges : Dfn P w K mg base (L2.CX P w) 3 "_law_edges" 2 m__law_edges := ok__law_edges T D__law_draw F__law_edges G__law_edges
  have D__law_full : Dfn P w K mg base (L2.CX P w) 2 "_law_full" 1 m__law_full := ok__law_full T  F__law_full G__law_full
  have D__law_great_right : Dfn P w K mg base (L2.CX P w) 10 "_law_great_right" 1 m__law_great_right := ok__law_great_right T D__law_any D__law_full D__law_made F__law_great_right G__law_great_right
  have D_Web___eq__ : Mth P w K mg base (L2.CX P w) 2 "Web" "__eq__" 2 m_Web___eq__ := ok_Web___eq__ T  F_Web___eq__ M_Web___eq__ G_Web___eq__
  exact ok_law T D_Web___eq__ D__law_bent D__law_draw D__law_edges D__law_great_right D__law_made D__law_odd D__law_parts D__law_pot D__law_web D__law_wrong F_law
end Qk01
set_option Elab.async false
set_option linter.all false
set_option maxRecDepth 100000
set_option maxHeartbeats 4000000
set_option autoImplicit false
namespace Qk01
open PySem PySem.Spec L2 L3
open PyProof.Rows hiding St
/-! draws, as in the other laws -/
theorem draw_specF {n : Nat} {k : Int} {M : Store} (h : Pot n M) (h0 : 0 < k) (h1 : k < 1073741824) : Post (m__law_draw [.loc n, .int k] M) (fun d M' => Pot n M' ∧ ButN n M M' ∧ ∃ j : Int, d = .int j ∧ 0 ≤ j ∧ j < k) (fun _ _ => False) := by
  obtain ⟨cs, a, b, c, d, e, ha⟩ := h
  have hn : n < M.length := (List.getElem?_eq_some_iff.mp e).1
  unfold m__law_draw b__law_draw
  have hk0 := fun x : Int => Int.emod_nonneg x (show k ≠ 0 by omega)
  have hk1 := fun x : Int => Int.emod_lt_of_pos x h0
  by_cases hb : b = 0
  · subst hb
    by_cases hb2 : a < cs.length
    · obtain ⟨x, hx⟩ := atP_ints ha hb2
      simp [p_runD, locL_of e, hn, hx, hb2, pot_set hn, h0, h1, hk0, hk1]
      (repeat' split) <;> omega
    · simp [p_runD, locL_of e, hn, hb2, pot_set hn, h0, h1, hk0, hk1]
      omega
  · simp [p_runD, locL_of e, hn, hb, pot_set hn, h0, h1, hk0, hk1]
    (repeat' split) <;> omega
theorem draw_spec {n : Nat} {k : Int} {M : Store} (h : Pot n M) (h0 : 0 < k) (h1 : k < 1073741824) : Post (m__law_draw [.loc n, .int k] M) (fun d M' => Pot n M' ∧ ∃ j : Int, d = .int j ∧ 0 ≤ j ∧ j < k) (fun _ _ => False) := by
  obtain ⟨cs, a, b, c, d, e, ha⟩ := h
  have hn : n < M.length := (List.getElem?_eq_some_iff.mp e).1
  unfold m__law_draw b__law_draw
  have hk0 := fun x : Int => Int.emod_nonneg x (show k ≠ 0 by omega)
  have hk1 := fun x : Int => Int.emod_lt_of_pos x h0
  by_cases hb : b = 0
  · subst hb
    by_cases hb2 : a < cs.length
    · obtain ⟨x, hx⟩ := atP_ints ha hb2
      simp [p_runD, locL_of e, hn, hx, hb2, pot_set hn, h0, h1, hk0, hk1]
      (repeat' split) <;> omega
    · simp [p_runD, locL_of e, hn, hb2, pot_set hn, h0, h1, hk0, hk1]
      omega
  · simp [p_runD, locL_of e, hn, hb, pot_set hn, h0, h1, hk0, hk1]
    (repeat' split) <;> omega
theorem any_spec {n : Nat} {xs : List D} {M : Store} (h : Pot n M) (h0 : xs ≠ []) (h1 : xs.length < 1073741824) : Post (m__law_any [.loc n, .lst xs] M) (fun d M' => Pot n M' ∧ d ∈ xs) (fun _ _ => False) := by
  have hp : 0 < xs.length := List.length_pos_iff.mpr h0
  unfold m__law_any b__law_any
  simp [p_runD]
  refine (draw_spec h (by omega) (by omega)).use ?_
  rintro d M1 ⟨h2, j, rfl, h3, h4⟩
  simp
  exact atP_all h3 h4 fun d hd => ⟨h2, hd⟩
theorem hand_spec {ns : List Int} (hl : ns.length ≤ 63) : Post (m__law_pot [.ro (ns.map .int)] []) (fun d M' => d = .loc 0 ∧ Pot 0 M') (fun _ _ => False) := by
  unfold m__law_pot b__law_pot
  simp [p_runD]
  rw [cutD_map]
  refine lc_map absI trivial ?_ ?_ ?_
  · rw [List.length_map, List.length_take, List.length_drop]; simp; omega
  · intro d hd
    obtain ⟨i, _, rfl⟩ := List.mem_map.mp hd
    simp [absI]
  · simp
    have e : ns.map (absI ∘ D.int) = (ns.map fun i : Int => if i < 0 then -i else i).map D.int := by rw [List.map_map]; rfl
    rw [e, ← List.map_drop, ← List.map_take]
    exact ⟨_, _, _, _, _, rfl, Int.le_refl 0⟩
/-! the judges -/
section
variable {Q : D → Store → Prop} {E : Exn → Store → Prop} {M : Store} {n : Nat} {d : D} {a b : Int}
theorem is_within_eq (h : Dat n d) : m_is_within [d, .int a, .int b] M = .ok (.bl (isNum d a b)) M := by
  refine ok_of ?_
  unfold m_is_within b_is_within m_is_integer b_is_integer
  cases h <;> simp [p_runD, isT, isNum]
  split <;> simp_all
  omega
theorem is_number_eq (h : Dat n d) : m_is_number [d, .int b] M = .ok (.bl (isNum d 0 b)) M := by
  refine ok_of ?_
  unfold m_is_number b_is_number
  simp [p_runD, is_within_eq h]
end
end Qk01
set_option Elab.async false
set_option linter.all false
set_option maxRecDepth 100000
set_option maxHeartbeats 4000000
set_option autoImplicit false
namespace Qk01
open PySem PySem.Spec L2 L3
open PyProof.Rows hiding St
def tieOkD (m : Int) : D → Bool
  | .tup [k, b, e] => isNum k 0 3 && (isNum b 0 (m - 1) && isNum e 0 (m - 1))
  | _ => false
section
variable {M : Store} {n : Nat} {d : D} {a b m : Int}
theorem lnum_eq (h : Dat n d) : m__law_is_number [d, .int a, .int b] M = .ok (.bl (isNum d a b)) M := by
  refine ok_of ?_
  unfold m__law_is_number b__law_is_number
  cases h <;> simp [p_runD, isT, isNum]
  split <;> simp_all
  omega
theorem ltie_eq (h : Dat n d) : m__law_is_tie [d, .int m] M = .ok (.bl (tieOkD m d)) M := by
  refine ok_of ?_
  unfold m__law_is_tie b__law_is_tie
  cases h with
  | tup hl hx =>
    rename_i xs
    rcases xs with _ | ⟨x, _ | ⟨y, _ | ⟨z, _ | ⟨u, r⟩⟩⟩⟩
    · simp [p_runD, isT, tieOkD]
    · simp [p_runD, isT, tieOkD]
    · simp [p_runD, isT, tieOkD]
    · simp [p_runD, isT, tieOkD]
      rw [lnum_eq (hx x (by simp))]
      simp
      rw [lnum_eq (hx y (by simp))]
      simp
      rw [lnum_eq (hx z (by simp))]
      simp
      cases isNum x 0 3 <;> cases isNum y 0 (m - 1) <;> cases isNum z 0 (m - 1) <;> simp
    · simp [p_runD, isT, tieOkD]
      omega
  | _ => simp [p_runD, isT, tieOkD]
theorem tie_eq (h : Dat n d) : m_is_tie [.int m, d] M = .ok (.bl (tieOkD m d)) M := by
  refine ok_of ?_
  unfold m_is_tie b_is_tie
  cases h with
  | tup hl hx =>
    rename_i xs
    rcases xs with _ | ⟨x, _ | ⟨y, _ | ⟨z, _ | ⟨u, r⟩⟩⟩⟩
    · simp [p_runD, isT, tieOkD]
    · simp [p_runD, isT, tieOkD]
    · simp [p_runD, isT, tieOkD]
    · simp [p_runD, isT, tieOkD]
      rw [is_number_eq (hx x (by simp))]
      simp
      rw [is_number_eq (hx y (by simp))]
      simp
      rw [is_number_eq (hx z (by simp))]
      simp
      cases isNum x 0 3 <;> cases isNum y 0 (m - 1) <;> cases isNum z 0 (m - 1) <;> simp
    · simp [p_runD, isT, tieOkD]
      omega
  | _ => simp [p_runD, isT, tieOkD]
end
def intOf : D → Int
  | .int i => i
  | _ => 0
def rowOf : D → List Int
  | .tup xs => xs.map intOf
  | _ => []
theorem isNum_int {d : D} {a b : Int} (h : isNum d a b = true) : ∃ i, d = .int i ∧ a ≤ i ∧ i ≤ b := by
  unfold isNum at h
  split at h
  · rename_i i; exact ⟨i, rfl, by simpa using h⟩
  · cases h
theorem tieOk_row {m : Int} {d : D} (h : tieOkD m d = true) : d = tupI (rowOf d) ∧ TieOk m (rowOf d) := by
  unfold tieOkD at h
  split at h
  · rename_i k b e
    simp only [Bool.and_eq_true] at h
    obtain ⟨h1, h2, h3⟩ := h
    obtain ⟨k, rfl, k0, k1⟩ := isNum_int h1
    obtain ⟨b, rfl, b0, b1⟩ := isNum_int h2
    obtain ⟨e, rfl, e0, e1⟩ := isNum_int h3
    exact ⟨rfl, k, b, e, rfl, ⟨k0, k1⟩, ⟨b0, by omega⟩, e0, by omega⟩
  · cases h
theorem row_tieOk {m : Int} {t : List Int} (h : TieOk m t) : tieOkD m (tupI t) = true ∧ rowOf (tupI t) = t := by
  obtain ⟨k, b, e, rfl, h1, h2, h3⟩ := h
  refine ⟨?_, rfl⟩
  show (isNum (.int k) 0 3 && (isNum (.int b) 0 (m - 1) && isNum (.int e) 0 (m - 1))) = true
  simp [isNum]; omega
/-- the tie at i is none -/
def badP (m : Int) (ts : List D) (i : Nat) : Bool := !tieOkD m (ts[i]?.getD .non) || (decide (0 < i) && !ltR (rowOf (ts[i - 1]?.getD .non)) (rowOf (ts[i]?.getD .non)))
def sMany : D := .str (Str.ofString "many")
def sHues : D := .str (Str.ofString "hues")
def sTies : D := .str (Str.ofString "ties")
/-- the first part that makes no web -/
def wrongO (a b c : D) : Option D := match a with
  | .int m => if 1 ≤ m ∧ m ≤ 40 then (match b with
    | .tup hs => if (hs.length : Int) = m ∧ (hs.all fun h => isNum h 0 9) = true then (match c with
      | .tup ts => if ts.length ≤ 1600 then ((List.range ts.length).find? (badP m ts)).map fun i : Nat => D.int (i : Int) else some sTies
      | _ => some sTies) else some sHues
    | _ => some sHues) else some sMany
  | _ => some sMany
theorem wrong_many {a b c : D} (h : ¬ isNum a 1 40 = true) : wrongO a b c = some sMany := by
  unfold wrongO
  cases a with
  | int m =>
    have : ¬ (1 ≤ m ∧ m ≤ 40) := by simpa [isNum] using h
    simp only [this, if_false]
  | _ => rfl
theorem wrong_hues {m : Int} {b c : D} (m1 : 1 ≤ m) (m2 : m ≤ 40) (h : ∀ hs, b = .tup hs → ¬ ((hs.length : Int) = m ∧ (hs.all fun h => isNum h 0 9) = true)) : wrongO (.int m) b c = some sHues := by
  unfold wrongO
  simp only [m1, m2, and_self, if_true]
  cases b with
  | tup hs => simp only [h hs rfl, if_false]
  | _ => rfl
theorem wrong_ties {m : Int} {hs : List D} {c : D} (m1 : 1 ≤ m) (m2 : m ≤ 40) (h1 : (hs.length : Int) = m) (h2 : (hs.all fun h => isNum h 0 9) = true) (h : ∀ ts, c = .tup ts → ¬ ts.length ≤ 1600) : wrongO (.int m) (.tup hs) c = some sTies := by
  unfold wrongO
  simp only [m1, m2, h1, h2, and_self, if_true]
  cases c with
  | tup ts => simp only [h ts rfl, if_false]
  | _ => rfl
theorem wrong_at {m : Int} {hs ts : List D} (m1 : 1 ≤ m) (m2 : m ≤ 40) (h1 : (hs.length : Int) = m) (h2 : (hs.all fun h => isNum h 0 9) = true) (h : ts.length ≤ 1600) : wrongO (.int m) (.tup hs) (.tup ts) = ((List.range ts.length).find? (badP m ts)).map fun i : Nat => D.int (i : Int) := by
  unfold wrongO
  simp only [m1, m2, h1, h2, h, and_self, if_true]
theorem bls_all {f : D → Bool} {hs : List D} : (false ∈ hs.map f) ↔ ¬ (hs.all f = true) := by
  rw [List.mem_map, List.all_eq_true]
  constructor
  · rintro ⟨x, hx, e⟩ h
    rw [h x hx] at e; cases e
  · intro h
    have h' : hs.all f = false := by
      rw [← List.all_eq_true] at h; simpa using h
    obtain ⟨x, hx, e⟩ := List.all_eq_false.mp h'
    exact ⟨x, hx, by simpa using e⟩
/-- where no tie ahead is bad -/
theorem badP_step {m : Int} {ts : List D} {k : Nat} (h : ∀ j, j < k → badP m ts j = false) (k0 : 0 < k) : tieOkD m (ts[k - 1]?.getD .non) = true := by
  have := h (k - 1) (by omega)
  unfold badP at this
  simp only [Bool.or_eq_false_iff, Bool.not_eq_false'] at this
  exact this.1
theorem ties_dat {n : Nat} {ts : List D} (hx : ∀ d ∈ ts, Dat n d) {k : Nat} (hk : k < ts.length) : Dat n (ts[k]?.getD .non) := by
  rw [List.getElem?_eq_getElem hk]
  exact hx _ (List.getElem_mem hk)
open Classical in
theorem p_geN_rows {a b : List Int} {M : Store} {Q : D → Store → Prop} {E : Exn → Store → Prop} : Post (cmpN false true (tupI a) (tupI b) M) Q E ↔ Q (.bl (!ltR a b)) M := by
  have e1 : ∀ r : List Int, pyM M (tupI r) = some (.tuple (r.map PyData.int)) := fun r => pyM_eq (by show (pyL _).map _ = _; rw [pyL_ints]; rfl)
  unfold cmpN
  rw [e1, e1]
  refine post_chk.trans ?_
  have h1 : PySem.W.alike (.tuple (a.map .int)) (.tuple (b.map .int)) = true := by simpa [PySem.W.alike] using PySem.W.alike_ints a b
  have h2 : (PyData.tuple (a.map .int)) ≠ .none := by intro e; cases e
  have h3 : (PyData.tuple (a.map .int)).depth < 60 := Nat.lt_of_le_of_lt (depth_tupI a) (by decide)
  rw [post_ret]
  simp only [Bool.false_eq_true, if_false, if_true, dataLt_tupI]
  exact ⟨fun h => h.2, fun h => ⟨⟨h1, h2, h3⟩, h⟩⟩
theorem find_none {n : Nat} {p : Nat → Bool} (h : ∀ j, j < n → p j = false) : (List.range n).find? p = none := by
  rw [List.find?_eq_none]
  intro x hx
  rw [h x (List.mem_range.mp hx)]; simp
theorem find_at {n k : Nat} {p : Nat → Bool} (hk : k < n) (hp : p k = true) (h : ∀ j, j < k → p j = false) : (List.range n).find? p = some k := by
  rw [List.find?_range_eq_some]
  exact ⟨hp, List.mem_range.mpr hk, fun j hj => by rw [h j hj]; rfl⟩
/-- one turn of either judge's walk: the tie at k, and the one ahead -/
theorem bad_turn {m : Int} {ts : List D} {k : Nat} (hk : k < ts.length) (h : ∀ j, j < k → badP m ts j = false) : (tieOkD m (ts[k]?.getD .non) = false ∧ badP m ts k = true) ∨
    (tieOkD m (ts[k]?.getD .non) = true ∧ k = 0 ∧ badP m ts k = false) ∨
    (tieOkD m (ts[k]?.getD .non) = true ∧ 0 < k ∧ ∃ p q, ts[k - 1]?.getD .non = tupI p ∧ ts[k]?.getD .non = tupI q ∧ badP m ts k = !ltR p q) := by
  cases ht : tieOkD m (ts[k]?.getD .non) with
  | false => exact .inl ⟨rfl, by unfold badP; rw [ht]; rfl⟩
  | true =>
    right
    by_cases k0 : k = 0
    · left
      refine ⟨rfl, k0, ?_⟩
      unfold badP; rw [ht, k0]; simp
    · right
      have hp := badP_step h (by omega)
      obtain ⟨e1, _⟩ := tieOk_row hp
      obtain ⟨e2, _⟩ := tieOk_row ht
      refine ⟨rfl, by omega, _, _, e1, e2, ?_⟩
      unfold badP
      rw [ht, show decide (0 < k) = true from by simp; omega]
      simp
theorem wrong_eq {n : Nat} {a b c : D} {M : Store} (hn : n ≤ 16777216) (ha : Dat n a) (hb : Dat n b) (hc : Dat n c) : m__law_wrong [a, b, c] M = .ok ((wrongO a b c).getD .non) M := by
  refine ok_of ?_
  unfold m__law_wrong b__law_wrong
  rw [p_runD]
  simp
  rw [lnum_eq ha]
  simp
  by_cases h1 : isNum a 1 40 = true
  · obtain ⟨m, rfl, m1, m2⟩ := isNum_int h1
    simp [isNum, m1, m2]
    have noHues : (∀ hs, b = .tup hs → ¬ ((hs.length : Int) = m ∧ (hs.all fun h => isNum h 0 9) = true)) → D.str (Str.ofString "hues") = (wrongO (.int m) b c).getD .non := fun h => by rw [wrong_hues m1 m2 h]; rfl
    cases hb with
    | tup hl hx =>
      rename_i hs
      simp [isT]
      by_cases hlen : (hs.length : Int) = m
      · simp [hlen]
        refine lc_map (fun d => .bl (isNum d 0 9)) trivial (by rw [L3.sizeLine_eq]; omega) (fun d hd => ?_) ?_
        · simp
          rw [lnum_eq (hx d hd)]
          exact ⟨rfl, rfl⟩
        rw [blsOf_mapB]
        simp only [someP_some]
        by_cases hall : (hs.all fun h => isNum h 0 9) = true
        · rw [if_neg (fun h => bls_all.mp h hall)]
          have noTies : (∀ ts, c = .tup ts → ¬ ts.length ≤ 1600) → D.str (Str.ofString "ties") = (wrongO (.int m) (.tup hs) c).getD .non := fun h => by rw [wrong_ties m1 m2 hlen hall h]; rfl
          cases hc with
          | tup tl tx =>
            rename_i ts
            simp [isT]
            by_cases ht : ts.length ≤ 1600
            · rw [if_neg (by omega)]
              rw [wrong_at m1 m2 hlen hall ht]
              refine for_rule (all := enumD 0 ts) (fun k ρ M' => M' = M ∧ (∀ j, j < k → badP m ts j = false) ∧ ∃ o4 o5, ρ = [some (.int m), some (.tup hs), some (.tup ts), none, o4, o5]) (fun _ _ _ _ => trivial) ⟨rfl, fun j hj => absurd hj (Nat.not_lt_zero _), none, none, rfl⟩ ?_ ?_
              · rintro k d ρ M3 hk ⟨rfl, hj, o4, o5, rfl⟩
                have kl : k < ts.length := by
                  have := (List.getElem?_eq_some_iff.mp hk).1
                  rwa [enumD_length] at this
                have eg : ts[k]?.getD .non = ts[k] := by rw [List.getElem?_eq_getElem kl]; rfl
                have ek := enumD_get ts 0 k (ts[k]?.getD .non) (by rw [eg]; exact List.getElem?_eq_getElem kl)
                rw [hk] at ek
                obtain rfl := Option.some.inj ek
                simp
                rw [ltie_eq (ties_dat tx kl)]
                simp
                rcases bad_turn kl hj with ⟨e1, e2⟩ | ⟨e1, rfl, e2⟩ | ⟨e1, k0, p, q, e2, e3, e4⟩
                · rw [e1, find_at kl e2 hj]
                  simp
                · rw [e1]
                  simp
                  exact e2
                · rw [e1]
                  simp [k0]
                  have ei : ((k : Int) - 1) = ((k - 1 : Nat) : Int) := by omega
                  have eg2 : ts[k - 1]'(by omega) = tupI p := by rw [← e2, List.getElem?_eq_getElem (by omega)]; rfl
                  rw [ei, atP_nat (by omega), eg2]
                  rw [e3, p_geN_rows]
                  simp
                  cases hlt : ltR p q with
                  | true =>
                    simp
                    intro j hj'
                    by_cases e : j < k
                    · exact hj j e
                    · have : j = k := by omega
                      subst this; rw [e4, hlt]; rfl
                  | false =>
                    rw [find_at kl (by rw [e4, hlt]; rfl) hj]
                    simp
              · rintro ρ M3 ⟨rfl, hj, o4, o5, rfl⟩
                rw [enumD_length] at hj
                rw [thenF_nx, find_none hj]
                simp
            · rw [if_pos (by omega)]
              exact noTies (fun ts' e => by cases e; exact ht)
          | _ => simp [isT]; exact noTies (fun ts e => by cases e)
        · rw [if_pos (bls_all.mpr hall)]
          exact ⟨noHues (fun hs' e => by cases e; exact fun h => hall h.2), trivial⟩
      · simp [hlen]
        exact noHues (fun hs' e => by cases e; exact fun h => hlen h.1)
    | _ => simp [isT]; exact noHues (fun ts e => by cases e)
  · simp [h1]
    rw [wrong_many h1]; rfl
end Qk01
set_option Elab.async false
set_option linter.all false
set_option maxRecDepth 100000
set_option maxHeartbeats 4000000
set_option autoImplicit false
namespace Qk01
open PySem PySem.Spec L2 L3
open PyProof.Rows hiding St
theorem keep_spec {p : Parts} {M : Store} {n : Nat} (g : Good p) (h : M[n]? = some (some (.ins (Str.ofString "Web") []))) : Post (m_Web_keep [.loc n, .int p.many, .tup (p.hues.map .int), .tup (p.ties.map tupI)] M) (fun d M' => d = .non ∧ ∃ tp, M' = M.set n (some (.ins (Str.ofString "Web") (webF p tp)))) (fun _ _ => False) := by
  obtain ⟨m1, m2, hl, hh, tl, tt, ts⟩ := id g
  have hn : n < M.length := (List.getElem?_eq_some_iff.mp h).1
  have nd : p.ties.Nodup := ts.imp fun {a b} h e => by subst e; rw [ltR_irrefl] at h; cases h
  unfold m_Web_keep b_Web_keep
  rw [p_runD]
  simp [locI_of h, hn, putFD]
  refine dcm_map (ok := fun _ => True) tupI tupI (fun _ => .bl true) rowK trivial p.ties [] (by simp; omega) (fun x hx => ⟨keyD_row x, keyN_row x⟩) ?_ (fun x hx => ?_) ?_
  · rw [List.nil_append]
    exact List.pairwise_map.mpr (nd.imp fun ne h => ne (rowK_inj h))
  · simp
  · simp [hn]
    exact ⟨_, rfl⟩
theorem good_none {p : Parts} (g : Good p) : wrongO (.int p.many) (.tup (p.hues.map .int)) (.tup (p.ties.map tupI)) = none := by
  obtain ⟨m1, m2, hl, hh, tl, tt, ts⟩ := g
  rw [wrong_at m1 m2 (by rw [List.length_map]; exact hl) (by rw [List.all_eq_true]; intro x hx; obtain ⟨i, hi, rfl⟩ := List.mem_map.mp hx; have := hh i hi; simp [isNum]; omega) (by rw [List.length_map]; exact tl)]
  rw [find_none]
  · rfl
  · intro j hj
    rw [List.length_map] at hj
    have at_ : ∀ k, k < p.ties.length → (p.ties.map tupI)[k]?.getD .non = tupI (p.ties[k]!) := fun k hk => by
      rw [List.getElem?_map, List.getElem?_eq_getElem hk, getElem!_pos p.ties k hk]; rfl
    have e1 := at_ j hj
    have g1 : p.ties[j]! = p.ties[j] := getElem!_pos p.ties j hj
    have t1 := row_tieOk (tt _ (List.getElem_mem hj))
    unfold badP
    rw [e1, g1, t1.1, t1.2]
    by_cases j0 : j = 0
    · subst j0; simp
    · have hj2 : j - 1 < p.ties.length := by omega
      have e2 := at_ (j - 1) hj2
      have g2 : p.ties[j - 1]! = p.ties[j - 1] := getElem!_pos p.ties (j - 1) hj2
      have t2 := row_tieOk (tt _ (List.getElem_mem hj2))
      rw [e2, g2, t2.2]
      have := List.pairwise_iff_getElem.mp ts (j - 1) j hj2 hj (by omega)
      rw [this]; simp
theorem rows_asc {rs : List (List Int)} (h : ∀ j (hj : j < rs.length), 0 < j → ltR (rs[j - 1]'(by omega)) rs[j] = true) : rs.Pairwise fun a b => ltR a b = true := by
  rw [List.pairwise_iff_getElem]
  have go : ∀ d i (hi : i < rs.length) (hj : i + d + 1 < rs.length), ltR rs[i] rs[i + d + 1] = true := by
    intro d
    induction d with
    | zero => intro i hi hj; exact h (i + 0 + 1) hj (by omega)
    | succ d ih =>
      intro i hi hj
      have h1 := ih i hi (by omega)
      have h2 := h (i + (d + 1) + 1) hj (by omega)
      exact ltR_trans h1 h2
  intro i j hi hj hij
  have := go (j - i - 1) i hi (by omega)
  have e : i + (j - i - 1) + 1 = j := by omega
  simp only [e] at this
  exact this
theorem good_of {a b c : D} (h : wrongO a b c = none) : ∃ p, Good p ∧ a = .int p.many ∧ b = .tup (p.hues.map .int) ∧ c = .tup (p.ties.map tupI) := by
  by_cases h1 : isNum a 1 40 = true
  · obtain ⟨m, rfl, m1, m2⟩ := isNum_int h1
    by_cases h2 : ∃ hs, b = .tup hs ∧ (hs.length : Int) = m ∧ (hs.all fun h => isNum h 0 9) = true
    · obtain ⟨hs, rfl, hl, hall⟩ := h2
      by_cases h3 : ∃ ts, c = .tup ts ∧ ts.length ≤ 1600
      · obtain ⟨ts, rfl, tl⟩ := h3
        rw [wrong_at m1 m2 hl hall tl] at h
        have h4 : ∀ j, j < ts.length → badP m ts j = false := fun j hj => by
          have := List.find?_eq_none.mp (Option.map_eq_none_iff.mp h) j (List.mem_range.mpr hj)
          simpa using this
        obtain ⟨ns, e1, hns⟩ := ints_of (zs := hs) (P := fun j => 0 ≤ j ∧ j ≤ 9) fun d hd => by
          obtain ⟨i, e, b1, b2⟩ := isNum_int (List.all_eq_true.mp hall d hd)
          exact ⟨i, e, b1, b2⟩
        have ok : ∀ j (hj : j < ts.length), tieOkD m ts[j] = true := fun j hj => by
          have := h4 j hj
          unfold badP at this
          rw [List.getElem?_eq_getElem hj] at this
          simp only [Bool.or_eq_false_iff, Bool.not_eq_false'] at this
          exact this.1
        have ok2 : ∀ t ∈ ts, tieOkD m t = true := fun t ht => by
          obtain ⟨j, hj, rfl⟩ := List.getElem_of_mem ht
          exact ok j hj
        have e2 : ts = (ts.map rowOf).map tupI := by
          rw [List.map_map]
          conv => lhs; rw [← List.map_id ts]
          exact List.map_congr_left fun t ht => (tieOk_row (ok2 t ht)).1
        refine ⟨⟨m, ns, ts.map rowOf⟩, ⟨m1, m2, by rw [e1, List.length_map] at hl; exact hl, hns, by show (ts.map rowOf).length ≤ 1600; rw [List.length_map]; exact tl, fun t ht => ?_, ?_⟩, rfl, by rw [e1], by show D.tup ts = _; rw [← e2]⟩
        · obtain ⟨d, hd, rfl⟩ := List.mem_map.mp ht
          exact (tieOk_row (ok2 d hd)).2
        · refine rows_asc fun j hj j0 => ?_
          rw [List.length_map] at hj
          have := h4 j hj
          unfold badP at this
          rw [List.getElem?_eq_getElem hj, List.getElem?_eq_getElem (show j - 1 < ts.length by omega)] at this
          simp only [Bool.or_eq_false_iff, Bool.and_eq_false_iff, Bool.not_eq_false', decide_eq_false_iff_not] at this
          rw [List.getElem_map, List.getElem_map]
          rcases this.2 with z | z
          · exact (z j0).elim
          · exact z
      · rw [wrong_ties m1 m2 hl hall (fun ts e k => h3 ⟨ts, e, k⟩)] at h; cases h
    · rw [wrong_hues m1 m2 (fun hs e k => h2 ⟨hs, e, k.1, k.2⟩)] at h; cases h
  · rw [wrong_many h1] at h; cases h
end Qk01
set_option Elab.async false
set_option linter.all false
set_option maxRecDepth 100000
set_option maxHeartbeats 4000000
set_option autoImplicit false
namespace Qk01
open PySem PySem.Spec L2 L3
open PyProof.Rows hiding St
/-- the error that says which part makes no web -/
def bad (w : D) : Exn := ⟨Str.ofString "BadWeb", [(Str.ofString "part", w)]⟩
theorem init_any {n N : Nat} {a b c : D} {M : Store} (hn : n ≤ 16777216) (ha : Dat n a) (hb : Dat n b) (hc : Dat n c) (h : M[N]? = some (some (.ins (Str.ofString "Web") []))) :
    Post (m_Web___init__ [.loc N, a, b, c] M) (fun d M' => d = .non ∧ ∃ p tp, Good p ∧ a = .int p.many ∧ b = .tup (p.hues.map .int) ∧ c = .tup (p.ties.map tupI) ∧ M' = M.set N (some (.ins (Str.ofString "Web") (webF p tp)))) (fun e M' => M' = M ∧ ∃ w, wrongO a b c = some w ∧ e = bad w) := by
  unfold m_Web___init__ b_Web___init__
  rw [p_runD]
  simp
  rw [is_within_eq ha]
  simp
  by_cases h1 : isNum a 1 40 = true
  · obtain ⟨m, rfl, m1, m2⟩ := isNum_int h1
    simp [isNum, m1, m2]
    have noHues : (∀ hs, b = .tup hs → ¬ ((hs.length : Int) = m ∧ (hs.all fun h => isNum h 0 9) = true)) → ∃ w, wrongO (.int m) b c = some w ∧ (⟨Str.ofString "BadWeb", [(Str.ofString "part", .str (Str.ofString "hues"))]⟩ : Exn) = bad w := fun h => ⟨_, wrong_hues m1 m2 h, rfl⟩
    cases hb with
    | tup hl hx =>
      rename_i hs
      simp [isT]
      by_cases hlen : (hs.length : Int) = m
      · simp [hlen]
        refine lc_map (fun d => .bl (isNum d 0 9)) trivial (by rw [L3.sizeLine_eq]; omega) (fun d hd => ?_) ?_
        · simp
          rw [is_number_eq (hx d hd)]
          exact ⟨rfl, rfl⟩
        rw [blsOf_mapB]
        simp only [someP_some]
        by_cases hall : (hs.all fun h => isNum h 0 9) = true
        · rw [if_neg (fun h => bls_all.mp h hall)]
          have noTies : (∀ ts, c = .tup ts → ¬ ts.length ≤ 1600) → ∃ w, wrongO (.int m) (.tup hs) c = some w ∧ (⟨Str.ofString "BadWeb", [(Str.ofString "part", .str (Str.ofString "ties"))]⟩ : Exn) = bad w := fun h => ⟨_, wrong_ties m1 m2 hlen hall h, rfl⟩
          cases hc with
          | tup tl tx =>
            rename_i ts
            simp [isT]
            by_cases ht : ts.length ≤ 1600
            · rw [if_neg (by omega)]
              refine for_rule (all := enumD 0 ts) (fun k ρ M' => M' = M ∧ (∀ j, j < k → badP m ts j = false) ∧ ∃ o5 o6, ρ = [some (.loc N), some (.int m), some (.tup hs), some (.tup ts), none, o5, o6]) (fun _ _ _ _ => trivial) ⟨rfl, fun j hj => absurd hj (Nat.not_lt_zero _), none, none, rfl⟩ ?_ ?_
              · rintro k d ρ M3 hk ⟨rfl, hj, o5, o6, rfl⟩
                have kl : k < ts.length := by
                  have := (List.getElem?_eq_some_iff.mp hk).1
                  rwa [enumD_length] at this
                have eg : ts[k]?.getD .non = ts[k] := by rw [List.getElem?_eq_getElem kl]; rfl
                have ek := enumD_get ts 0 k (ts[k]?.getD .non) (by rw [eg]; exact List.getElem?_eq_getElem kl)
                rw [hk] at ek
                obtain rfl := Option.some.inj ek
                have fin : badP m ts k = true → ∃ w, wrongO (.int m) (.tup hs) (.tup ts) = some w ∧ (⟨Str.ofString "BadWeb", [(Str.ofString "part", .int (k : Int))]⟩ : Exn) = bad w := fun hb => ⟨.int (k : Int), by rw [wrong_at m1 m2 hlen hall ht, find_at kl hb hj]; rfl, rfl⟩
                simp
                rw [tie_eq (ties_dat tx kl)]
                simp
                rcases bad_turn kl hj with ⟨e1, e2⟩ | ⟨e1, rfl, e2⟩ | ⟨e1, k0, p, q, e2, e3, e4⟩
                · rw [e1]
                  simp
                  exact fin e2
                · rw [e1]
                  simp
                  exact e2
                · rw [e1]
                  simp [k0]
                  have ei : ((k : Int) - 1) = ((k - 1 : Nat) : Int) := by omega
                  have eg2 : ts[k - 1]'(by omega) = tupI p := by rw [← e2, List.getElem?_eq_getElem (by omega)]; rfl
                  rw [ei, atP_nat (by omega), eg2]
                  rw [e3, p_ltN_rows]
                  simp
                  cases hlt : ltR p q with
                  | true =>
                    simp
                    intro j hj'
                    by_cases e : j < k
                    · exact hj j e
                    · have : j = k := by omega
                      subst this; rw [e4, hlt]; rfl
                  | false =>
                    simp
                    exact fin (by rw [e4, hlt]; rfl)
              · rintro ρ M3 ⟨rfl, hj, o5, o6, rfl⟩
                rw [enumD_length] at hj
                have hw : wrongO (.int m) (.tup hs) (.tup ts) = none := by rw [wrong_at m1 m2 hlen hall ht, find_none hj]; rfl
                obtain ⟨p, g, ea, eb, ec⟩ := good_of hw
                rw [thenF_nx]
                simp [locI_of h]
                rw [ea, eb, ec]
                refine (keep_spec g h).use ?_
                rintro d M1 ⟨_, tp, rfl⟩
                exact ⟨p, g, by injection ea, by injection eb, by injection ec, tp, rfl⟩
            · rw [if_pos (by omega)]
              try simp
              exact noTies (fun ts' e => by cases e; exact ht)
          | _ => simp [isT]; exact noTies (fun ts e => by cases e)
        · rw [if_pos (bls_all.mpr hall)]
          try simp
          exact noHues (fun hs' e => by cases e; exact fun h => hall h.2)
      · simp [hlen]
        exact noHues (fun hs' e => by cases e; exact fun h => hlen h.1)
    | _ => simp [isT]; exact noHues (fun ts e => by cases e)
  · simp [h1]
    exact ⟨_, wrong_many h1, rfl⟩
/-- Web(..) of any data -/
theorem web_any {n : Nat} {a b c : D} {M : Store} (hn : n ≤ 16777216) (ha : Dat n a) (hb : Dat n b) (hc : Dat n c) :
    Post (m__law_web [.tup [a, b, c]] M) (fun d M' => Ext M M' ∧ ∃ p tp, Good p ∧ a = .int p.many ∧ b = .tup (p.hues.map .int) ∧ c = .tup (p.ties.map tupI) ∧ d = webD p tp) (fun e M' => Ext M M' ∧ ∃ w, wrongO a b c = some w ∧ e = bad w) := by
  unfold m__law_web b__law_web
  rw [p_runD]
  simp
  rw [p_mkD]
  refine ⟨rfl, (init_any hn ha hb hc (List.getElem?_concat_length ..)).mono ?_ ?_⟩
  · rintro d M1 ⟨rfl, p, tp, g, ea, eb, ec, rfl⟩
    simp
    exact ⟨Ext.refl.app _, p, g, ea, eb, ec, tp, rfl⟩
  · rintro e M1 ⟨rfl, w, hw, he⟩
    exact ⟨Ext.refl.app _, w, hw, he⟩
/-- what _law_made tells of any data -/
def madeD (a b c : D) : D := match wrongO a b c with
  | none => .tup [.str (Str.ofString "web"), .tup [a, b, c]]
  | some w => .tup [.str (Str.ofString "bad"), w]
theorem made_any {n : Nat} {a b c : D} {M : Store} (hn : n ≤ 16777216) (ha : Dat n a) (hb : Dat n b) (hc : Dat n c) : Post (m__law_made [.tup [a, b, c]] M) (fun d M' => d = madeD a b c ∧ Ext M M') (fun _ _ => False) := by
  unfold m__law_made b__law_made
  rw [p_runD]
  simp
  refine (web_any hn ha hb hc).mono ?_ ?_
  · rintro d M1 ⟨x1, p, tp, g, rfl, rfl, rfl, rfl⟩
    unfold m__law_shown b__law_shown webD
    rw [p_runD]
    simp
    unfold madeD
    rw [good_none g]
    exact ⟨rfl, x1⟩
  · rintro e M1 ⟨x1, w, hw, rfl⟩
    unfold bad
    simp
    unfold madeD
    rw [hw]
    exact ⟨rfl, x1.app _⟩
end Qk01
set_option Elab.async false
set_option linter.all false
set_option maxRecDepth 100000
set_option maxHeartbeats 4000000
set_option autoImplicit false
namespace Qk01
open PySem PySem.Spec L2 L3
open PyProof.Rows hiding St
def tabR (xs : List (List Int)) : MO := tabN (xs.map fun x => (tupI x, D.bl true))
def addR (t : List Int) (xs : List (List Int)) : List (List Int) := if t ∈ xs then xs else xs ++ [t]
theorem any_row {t : List Int} : ∀ xs : List (List Int), ((xs.map fun x => (tupI x, D.bl true)).any fun kv => decide (nkD kv.1 = some (rowK t))) = decide (t ∈ xs)
  | [] => rfl
  | x :: xs => by
    rw [List.map_cons, List.any_cons, any_row xs]
    have e : nkD (tupI x) = some (rowK x) := keyN_nkD (keyN_row x)
    rw [e]
    by_cases h : x = t
    · subst h; simp
    · have h1 : ¬ rowK x = rowK t := fun e => h (rowK_inj e)
      have h2 : ¬ t = x := fun e => h e.symm
      simp [h1, h2]
theorem setU_rows {f : Nat} {M : Store} {xs : List (List Int)} {t : List Int} {QU : Unit → Store → Prop} {E : Exn → Store → Prop} (h : M[f]? = some (some (tabR xs))) (hl : xs.length < 16777216) : Post (setU (.loc f) (tupI t) (.bl true) M) QU E ↔ QU () (M.set f (some (tabR (addR t xs)))) := by
  cases xs with
  | nil =>
    rw [setU_n0 (h : M[f]? = some (some (.dk []))) (keyD_row t) (keyN_row t)]
    exact Iff.rfl
  | cons x r =>
    rw [setU_n (fn := (x :: r).map fun x => (tupI x, D.bl true)) h (keyN_row t)]
    have e : (MO.dkt (putN ((x :: r).map fun x => (tupI x, D.bl true)) (rowK t) (tupI t) (.bl true))) = tabR (addR t (x :: r)) := by
      unfold putN addR
      rw [any_row]
      by_cases ht : t ∈ x :: r
      · simp only [ht, decide_true, if_true]
        show MO.dkt _ = MO.dkt ((x :: r).map fun x => (tupI x, D.bl true))
        congr 1
        rw [List.map_map]
        refine List.map_congr_left fun y _ => ?_
        simp only [Function.comp]
        split <;> rfl
      · simp only [ht, decide_false, Bool.false_eq_true, if_false]
        show MO.dkt _ = MO.dkt (((x :: r) ++ [t]).map fun x => (tupI x, D.bl true))
        rw [List.map_append]; rfl
    rw [e]
    exact ⟨fun z => z.2, fun z => ⟨by rw [List.length_map, L3.sizeLine_eq]; exact hl, z⟩⟩
structure FoundK (n f : Nat) (m : Int) (c : Nat) (M : Store) : Prop where
  pot : Pot n M
  ne : n ≠ f
  ex : ∃ xs : List (List Int), xs.length ≤ c ∧ xs.Nodup ∧ M[f]? = some (some (tabR xs)) ∧ ∀ t ∈ xs, TieOk m t
theorem FoundK.more {n f : Nat} {m : Int} {c c' : Nat} {M : Store} (h : FoundK n f m c M) (hc : c ≤ c') : FoundK n f m c' M := by
  obtain ⟨a, b, xs, h1, h2⟩ := h
  exact ⟨a, b, xs, Nat.le_trans h1 hc, h2⟩
theorem FoundK.draw {n f : Nat} {m : Int} {c : Nat} {M M' : Store} (h : FoundK n f m c M) (p : Pot n M') (b : ButN n M M') : FoundK n f m c M' := by
  obtain ⟨_, ne, xs, h1, h2, h3, h4⟩ := h
  exact ⟨p, ne, xs, h1, h2, by rw [b.2 _ (Ne.symm ne)]; exact h3, h4⟩
theorem FoundK.put {n f : Nat} {m : Int} {c : Nat} {M : Store} {t : List Int} {QU : Unit → Store → Prop} {E : Exn → Store → Prop} (h : FoundK n f m c M) (ht : TieOk m t) (hc : c < 1000) (q : ∀ M', FoundK n f m (c + 1) M' → QU () M') : Post (setU (.loc f) (tupI t) (.bl true) M) QU E := by
  obtain ⟨p, ne, xs, h1, h2, h3, h4⟩ := h
  rw [setU_rows h3 (by omega)]
  have fl : f < M.length := (List.getElem?_eq_some_iff.mp h3).1
  refine q _ ⟨pot_other p ne, ne, addR t xs, ?_, ?_, List.getElem?_set_self fl, fun s hs => ?_⟩
  · unfold addR; split
    · omega
    · rw [List.length_append]; show xs.length + 1 ≤ c + 1; omega
  · unfold addR; split
    · exact h2
    · rename_i hn
      rw [List.nodup_append]
      refine ⟨h2, by simp, fun a ha b hb e => ?_⟩
      rw [List.mem_singleton] at hb; subst hb; subst e; exact hn ha
  · unfold addR at hs
    split at hs
    · exact h4 s hs
    · rcases List.mem_append.mp hs with hs | hs
      · exact h4 s hs
      · rw [List.mem_singleton] at hs; subst hs; exact ht
theorem rng_int {c : Int} {k : Nat} {d : D} (c0 : 0 ≤ c) (h : (rngD 0 c)[k]? = some d) : (k : Int) < c ∧ d = .int (k : Int) := by
  have w : k < (rngD 0 c).length := (List.getElem?_eq_some_iff.mp h).1
  rw [rngD_len] at w
  have e := rngD_get (lo := 0) (hi := c) (i := k) (by simpa using w)
  rw [h] at e
  exact ⟨by omega, by simpa using Option.some.inj e⟩
theorem parts_spec {n : Nat} {M : Store} (h : Pot n M) : Post (m__law_parts [.loc n, .int 7] M) (fun d M' => Pot n M' ∧ ∃ p, Good p ∧ d = p.d ∧ p.many ≤ 7) (fun _ _ => False) := by
  unfold m__law_parts b__law_parts
  rw [p_runD]
  simp
  refine (draw_spec h (by omega) (by omega)).use ?_
  rintro _ M1 ⟨q1, j, rfl, j0, j1⟩
  simp
  refine (any_spec q1 (by simp) (by simp)).use ?_
  rintro dk M2 ⟨q2, hk⟩
  obtain ⟨kinds, rfl, k1, k2⟩ : ∃ k : Int, dk = .int k ∧ 0 ≤ k ∧ k ≤ 4 := by
    simp at hk; rcases hk with rfl | rfl | rfl <;> exact ⟨_, rfl, by decide, by decide⟩
  simp
  refine (any_spec q2 (by simp) (by simp)).use ?_
  rintro df M3 ⟨q3, hf⟩
  obtain ⟨few, rfl, f1, f2⟩ : ∃ k : Int, df = .int k ∧ 0 < k ∧ k ≤ 10 := by
    simp at hf; rcases hf with rfl | rfl | rfl <;> exact ⟨_, rfl, by decide, by decide⟩
  try simp
  refine (any_spec q3 (by simp) (by simp)).use ?_
  rintro ds M4 ⟨q4, hs⟩
  obtain ⟨share, rfl⟩ : ∃ k : Int, ds = .int k := by
    simp at hs; rcases hs with rfl | rfl | rfl | rfl <;> exact ⟨_, rfl⟩
  try simp
  refine (draw_spec q4 (by omega) (by omega)).use ?_
  rintro _ M5 ⟨q5, b, rfl, b0, b1⟩
  simp
  refine ⟨by omega, ?_⟩
  refine lc_draw (fun M' => Pot n M') (fun _ d => ∃ j : Int, d = .int j ∧ 0 ≤ j ∧ j ≤ 9) (fun _ _ => trivial) (by rw [rngD_len]; simp; omega) q5 (fun q d M hd hM => ?_) ?_
  · simp
    refine (draw_spec hM f1 (by omega)).use ?_
    rintro _ M7 ⟨p7, x, rfl, x0, x1⟩
    exact ⟨p7, x, rfl, x0, by omega⟩
  rintro zs M6 q6 hlz hz
  obtain ⟨ns, rfl, hns⟩ := ints_of (P := fun j => 0 ≤ j ∧ j ≤ 9) fun d hd => by
    obtain ⟨q, hq⟩ := List.getElem?_of_mem hd
    exact hz q d hq
  rw [rngD_len, List.length_map] at hlz
  have hn : n < M6.length := by obtain ⟨_, _, _, _, _, e, _⟩ := q6; exact (List.getElem?_eq_some_iff.mp e).1
  have F0 : FoundK n M6.length (1 + j) 0 (M6 ++ [some (.dk [])]) := ⟨(Ext.refl.app _).pot q6, by omega, [], Nat.le_refl _, .nil, List.getElem?_concat_length .., by simp⟩
  generalize hF : M6.length = f at *
  generalize hX : M6 ++ [some (.dk [])] = M7 at *
  have hm : (1 + j).toNat ≤ 7 := by omega
  refine ⟨by omega, ?_⟩
  refine for_rule (all := rngD 0 kinds) (fun k ρ M => ∃ o9 o10 o11 o12, ρ = [some (.loc n), some (.int 7), some (.int (1 + j)), some (.int kinds), some (.int few), some (.int share), some (.bl (decide (b = 0))), some (.tup (ns.map .int)), some (.loc f), o9, o10, o11, o12] ∧ FoundK n f (1 + j) (98 * k) M) (fun _ _ _ _ => trivial) ⟨none, none, none, none, rfl, F0⟩ ?_ ?_
  · rintro k d ρ M hk' ⟨o9, o10, o11, o12, rfl, F⟩
    obtain ⟨kc, rfl⟩ := rng_int k1 hk'
    simp
    refine ⟨by omega, ?_⟩
    refine for_rule (all := rngD 0 (1 + j)) (fun i ρ M => ∃ o9 o11 o12, ρ = [some (.loc n), some (.int 7), some (.int (1 + j)), some (.int kinds), some (.int few), some (.int share), some (.bl (decide (b = 0))), some (.tup (ns.map .int)), some (.loc f), o9, some (.int (k : Int)), o11, o12] ∧ FoundK n f (1 + j) (98 * k + 14 * i) M) (fun _ _ _ _ => trivial) ⟨o9, o11, o12, rfl, F⟩ ?_ ?_
    · rintro i d ρ M hi' ⟨o9, o11, o12, rfl, F⟩
      obtain ⟨ic, rfl⟩ := rng_int (by omega) hi'
      simp
      refine ⟨by omega, ?_⟩
      refine for_rule (all := rngD 0 (1 + j)) (fun e ρ M => ∃ o9 o12, ρ = [some (.loc n), some (.int 7), some (.int (1 + j)), some (.int kinds), some (.int few), some (.int share), some (.bl (decide (b = 0))), some (.tup (ns.map .int)), some (.loc f), o9, some (.int (k : Int)), some (.int (i : Int)), o12] ∧ FoundK n f (1 + j) (98 * k + 14 * i + 2 * e) M) (fun _ _ _ _ => trivial) ⟨o9, o12, rfl, F⟩ ?_ ?_
      · rintro e d ρ M he' ⟨o9, o12, rfl, F⟩
        obtain ⟨ec, rfl⟩ := rng_int (by omega) he'
        simp
        refine (draw_specF F.pot (by omega) (by omega)).use ?_
        rintro _ M8 ⟨q8, b8, x, rfl, x0, x1⟩
        have F8 := F.draw q8 b8
        simp
        have t1 : TieOk (1 + j) [(k : Int), (i : Int), (e : Int)] := ⟨_, _, _, rfl, ⟨by omega, by omega⟩, ⟨by omega, by omega⟩, by omega, by omega⟩
        have t2 : TieOk (1 + j) [(k : Int), (e : Int), (i : Int)] := ⟨_, _, _, rfl, ⟨by omega, by omega⟩, ⟨by omega, by omega⟩, by omega, by omega⟩
        by_cases hx : x < share
        · rw [if_pos hx]
          refine F8.put t1 (by omega) fun M9 F9 => ?_
          by_cases hb : b = 0
          · rw [if_pos hb]
            refine F9.put t2 (by omega) fun M10 F10 => ?_
            exact F10.more (by omega)
          · rw [if_neg hb]
            exact F9.more (by omega)
        · rw [if_neg hx]
          exact F8.more (by omega)
      · rintro ρ M ⟨o9, o12, rfl, F⟩
        rw [rngD_len] at F
        simp
        exact F.more (by omega)
    · rintro ρ M ⟨o9, o11, o12, rfl, F⟩
      rw [rngD_len] at F
      simp
      exact F.more (by omega)
  · rintro ρ M ⟨o9, o10, o11, o12, rfl, F⟩
    rw [rngD_len] at F
    obtain ⟨q, ne, xs, hl, nd, hx, hxs⟩ := F
    rw [thenF_nx]
    simp
    refine sortKeys_rows (vf := fun _ => .bl true) hx (fun x hx e => ?_) ?_
    · obtain ⟨_, _, _, e2, _⟩ := hxs x hx
      rw [e] at e2; cases e2
    · simp
      have hl2 : (sortR xs).length = xs.length := (sortR_perm xs).length_eq
      exact ⟨q, ⟨1 + j, ns, sortR xs⟩, ⟨by show 1 ≤ 1 + j; omega, by show 1 + j ≤ 40; omega, by show (ns.length : Int) = 1 + j; omega, hns, by show (sortR xs).length ≤ 1600; omega, fun t ht => hxs t ((sortR_perm xs).mem_iff.mp ht), strict_of ((sortR_perm xs).nodup_iff.mpr nd) (sortR_asc xs)⟩, rfl, by show 1 + j ≤ 7; omega⟩
end Qk01
set_option Elab.async false
set_option linter.all false
set_option maxRecDepth 100000
set_option maxHeartbeats 4000000
set_option autoImplicit false
namespace Qk01
open PySem PySem.Spec L2 L3
open PyProof.Rows hiding St
abbrev NN : Nat := 16777216
theorem dat1 {a : D} (ha : Dat NN a) : Dat NN (.tup [a]) := .tup (show 1 ≤ 16777216 by decide) (by intro d hd; simp at hd; subst hd; exact ha)
theorem datL1 {a : D} (ha : Dat NN a) : Dat NN (.lst [a]) := .lst (show 1 ≤ 16777216 by decide) (by intro d hd; simp at hd; subst hd; exact ha)
theorem dat2 {a b : D} (ha : Dat NN a) (hb : Dat NN b) : Dat NN (.tup [a, b]) := .tup (show 2 ≤ 16777216 by decide) (by intro d hd; simp at hd; rcases hd with rfl | rfl <;> assumption)
theorem dat3 {a b c : D} (ha : Dat NN a) (hb : Dat NN b) (hc : Dat NN c) : Dat NN (.tup [a, b, c]) := .tup (show 3 ≤ 16777216 by decide) (by intro d hd; simp at hd; rcases hd with rfl | rfl | rfl <;> assumption)
theorem datL3 {a b c : D} (ha : Dat NN a) (hb : Dat NN b) (hc : Dat NN c) : Dat NN (.lst [a, b, c]) := .lst (show 3 ≤ 16777216 by decide) (by intro d hd; simp at hd; rcases hd with rfl | rfl | rfl <;> assumption)
theorem dat4 {a b c e : D} (ha : Dat NN a) (hb : Dat NN b) (hc : Dat NN c) (he : Dat NN e) : Dat NN (.tup [a, b, c, e]) := .tup (show 4 ≤ 16777216 by decide) (by intro d hd; simp at hd; rcases hd with rfl | rfl | rfl | rfl <;> assumption)
theorem any_specF {n : Nat} {xs : List D} {M : Store} (h : Pot n M) (h0 : xs ≠ []) (h1 : xs.length < 1073741824) : Post (m__law_any [.loc n, .lst xs] M) (fun d M' => Pot n M' ∧ ButN n M M' ∧ d ∈ xs) (fun _ _ => False) := by
  have hp : 0 < xs.length := List.length_pos_iff.mpr h0
  unfold m__law_any b__law_any
  simp [p_runD]
  refine (draw_specF h (by omega) (by omega)).use ?_
  rintro d M1 ⟨h2, b2, j, rfl, h3, h4⟩
  simp
  exact atP_all h3 h4 fun d hd => ⟨h2, b2, hd⟩
theorem deep_specF {n : Nat} {M : Store} (h : Pot n M) : Post (m__law_deep [.loc n] M) (fun d M' => Pot n M' ∧ ButN n M M' ∧ Dat NN d) (fun _ _ => False) := by
  unfold m__law_deep b__law_deep
  rw [p_runD]
  simp
  refine (any_specF h (by simp) (by simp)).use ?_
  rintro d M1 ⟨q1, b1, hd⟩
  have hd : Dat NN d := by
    simp at hd
    rcases hd with rfl | rfl | rfl | rfl
    · exact .non
    · exact .int _
    · exact .tup (by simp) (by simp)
    · exact .str _
  try simp
  refine (draw_specF q1 (by omega) (by omega)).use ?_
  rintro _ M2 ⟨q2, b2, j, rfl, j0, j1⟩
  simp
  refine ⟨by omega, ?_⟩
  refine for_rule (all := rngD 0 (20 + j)) (fun k ρ M' => Pot n M' ∧ ButN n M M' ∧ ∃ x o, Dat NN x ∧ ρ = [some (.loc n), some x, o]) (fun _ _ _ _ => trivial) ⟨q2, b1.trans b2, d, none, hd, rfl⟩ ?_ ?_
  · rintro k d ρ M3 hk ⟨q3, b3, x, o, hx, rfl⟩
    simp
    refine (draw_specF q3 (by omega) (by omega)).use ?_
    rintro _ M4 ⟨q4, b4, y, rfl, y0, y1⟩
    simp
    split
    · exact ⟨q4, b3.trans b4, dat1 hx⟩
    · exact ⟨q4, b3.trans b4, datL1 hx⟩
  · rintro ρ M3 ⟨q3, b3, x, o, hx, rfl⟩
    rw [thenF_nx]
    simp
    exact ⟨q3, b3, hx⟩
theorem odd_specF {n : Nat} {M : Store} (h : Pot n M) : Post (m__law_odd [.loc n] M) (fun d M' => Pot n M' ∧ ButN n M M' ∧ Dat NN d) (fun _ _ => False) := by
  unfold m__law_odd b__law_odd
  rw [p_runD]
  simp
  refine (deep_specF h).use ?_
  rintro d M1 ⟨q1, b1, hd⟩
  try simp
  refine (any_specF q1 (by simp) (by simp)).use ?_
  rintro x M2 ⟨q2, b2, hx⟩
  refine ⟨q2, b1.trans b2, ?_⟩
  simp at hx
  rcases hx with rfl | rfl | rfl | rfl | rfl | rfl | rfl | rfl | rfl | rfl | rfl | rfl | rfl | rfl
  all_goals first
    | exact .non
    | exact .bl _
    | exact .int _
    | exact .str _
    | exact .dk
    | exact hd
    | exact dat1 (.int _)
    | exact .tup (Nat.zero_le _) (fun _ h => nomatch h)
    | exact .lst (Nat.zero_le _) (fun _ h => nomatch h)
theorem dat_ints {l : List Int} (h : l.length ≤ NN) : Dat NN (.tup (l.map .int)) := .tup (by simpa using h) (by intro d hd; obtain ⟨i, _, rfl⟩ := List.mem_map.mp hd; exact .int i)
theorem dat_rows {l : List (List Int)} (h : l.length ≤ NN) (hs : ∀ t ∈ l, t.length ≤ 3) : Dat NN (.tup (l.map tupI)) := .tup (by simpa using h) (by
  intro d hd; obtain ⟨t, ht, rfl⟩ := List.mem_map.mp hd; exact dat_ints (by have := hs t ht; simp [NN]; omega))
@[simp] theorem locL_new {M : Store} {xs : List D} {P : List D → Prop} : LocL (M ++ [some (.lst xs)]) M.length P ↔ P xs := locL_of (List.getElem?_concat_length ..)
theorem any_locF {n f : Nat} {xs : List D} {M : Store} (h : Pot n M) (hf : M[f]? = some (some (.lst xs))) (ne : n ≠ f) (h0 : xs ≠ []) (h1 : xs.length < 1073741824) : Post (m__law_any [.loc n, .loc f] M) (fun d M' => Pot n M' ∧ ButN n M M' ∧ d ∈ xs) (fun _ _ => False) := by
  have hp : 0 < xs.length := List.length_pos_iff.mpr h0
  unfold m__law_any b__law_any
  simp [p_runD, locL_of hf]
  refine (draw_specF h (by omega) (by omega)).use ?_
  rintro d M1 ⟨h2, b2, j, rfl, h3, h4⟩
  have hf1 : M1[f]? = some (some (.lst xs)) := by rw [b2.2 _ (Ne.symm ne)]; exact hf
  simp [locL_of hf1]
  exact atP_all h3 h4 fun d hd => ⟨h2, b2, hd⟩
theorem Pot.lt {n : Nat} {M : Store} (h : Pot n M) : n < M.length := by obtain ⟨_, _, _, _, _, e, _⟩ := h; exact (List.getElem?_eq_some_iff.mp e).1
/-- small data: a list of data of ints and the like -/
theorem dat_small {xs : List D} (h : xs.length ≤ 100) (hx : ∀ d ∈ xs, Dat NN d) : Dat NN (.tup xs) := .tup (by simp [NN]; omega) hx
theorem dat_smallL {xs : List D} (h : xs.length ≤ 100) (hx : ∀ d ∈ xs, Dat NN d) : Dat NN (.lst xs) := .lst (by simp [NN]; omega) hx
theorem bent_tie_spec {n : Nat} {k b e m : Int} {M : Store} (h : Pot n M) : Post (m__law_bent_tie [.loc n, tupI [k, b, e], .int m] M) (fun d M' => Pot n M' ∧ Dat NN d) (fun _ _ => False) := by
  unfold m__law_bent_tie b__law_bent_tie
  rw [p_runD]
  simp [tupI]
  have hn : n < M.length := Pot.lt h
  refine (odd_specF ((Ext.refl.app _).pot h)).use ?_
  rintro x M1 ⟨q1, b1, hx⟩
  have e1 := b1.2 (M.length + 1) (by omega)
  rw [List.getElem?_append_right (by omega), show M.length + 1 - M.length = 1 by omega] at e1
  rw [locL_of e1]
  have l1 := b1.1
  simp
  have hn1 : n < M1.length := Pot.lt q1
  refine (odd_specF ((Ext.refl.app _).pot q1)).use ?_
  rintro y M2 ⟨q2, b2, hy⟩
  have e2 := b2.2 M1.length (by omega)
  rw [List.getElem?_concat_length] at e2
  rw [locL_of e2]
  simp
  have fl : M1.length < M2.length := (List.getElem?_eq_some_iff.mp e2).1
  refine (any_locF (pot_other q2 (by omega)) (List.getElem?_set_self fl) (by omega) (by simp) (by simp)).use ?_
  rintro d M3 ⟨q3, _, hd⟩
  refine ⟨q3, ?_⟩
  have hi : ∀ i : Int, Dat NN (.int i) := fun i => .int i
  simp at hd
  rcases hd with rfl | rfl | rfl | rfl | rfl | rfl | rfl | rfl | rfl | rfl | rfl | rfl | rfl | rfl | rfl
  all_goals first
    | exact hx
    | exact dat3 (.int _) (.int _) (.int _)
    | exact dat3 (.bl _) (.int _) (.int _)
    | exact datL3 (.int _) (.int _) (.int _)
    | exact dat4 (.int _) (.int _) (.int _) (.int _)
    | exact dat3 (.int _) (.int _) .non
    | exact dat3 (.int _) (.str _) (.int _)
    | exact dat2 (.int _) (.int _)
    | exact dat3 (.int _) (.bl _) (.int _)
    | exact dat3 hy (.int _) (.int _)
theorem cut_mem {xs : List D} {lo hi : Option Int} {d : D} (h : d ∈ L3.cutD xs lo hi) : d ∈ xs := List.mem_of_mem_drop (List.mem_of_mem_take h)
theorem cut_len {xs : List D} {lo hi : Option Int} : (L3.cutD xs lo hi).length ≤ xs.length := by
  unfold L3.cutD
  rw [List.length_take, List.length_drop]; omega
theorem datT {xs : List D} (h : xs.length ≤ 16777216) (hx : ∀ d ∈ xs, Dat NN d) : Dat NN (.tup xs) := .tup h hx
theorem datL {xs : List D} (h : xs.length ≤ 16777216) (hx : ∀ d ∈ xs, Dat NN d) : Dat NN (.lst xs) := .lst h hx
theorem at_split {P : D → Prop} {a b : List D} {x : D} (ha : ∀ d ∈ a, P d) (hx : P x) (hb : ∀ d ∈ b, P d) : ∀ d ∈ a ++ x :: b, P d := fun d hd => by
  rcases List.mem_append.mp hd with h | h
  · exact ha d h
  · rcases List.mem_cons.mp h with rfl | h
    · exact hx
    · exact hb d h
theorem bent_spec {n : Nat} {p : Parts} {M : Store} (h : Pot n M) (g : Good p) : Post (m__law_bent [.loc n, p.d] M) (fun d M' => Pot n M' ∧ ∃ a b c, d = .tup [a, b, c] ∧ Dat NN a ∧ Dat NN b ∧ Dat NN c) (fun _ _ => False) := by
  obtain ⟨m1, m2, hl, hh, tl, tt, ts⟩ := id g
  have HU : ∀ d ∈ p.hues.map D.int, Dat NN d := fun d hd => by obtain ⟨i, _, rfl⟩ := List.mem_map.mp hd; exact .int i
  have TI : ∀ d ∈ p.ties.map tupI, Dat NN d := fun d hd => by
    obtain ⟨t, ht, rfl⟩ := List.mem_map.mp hd
    obtain ⟨k, b, e, rfl, _⟩ := tt t ht
    exact dat3 (.int _) (.int _) (.int _)
  have LH : (p.hues.map D.int).length ≤ 40 := by rw [List.length_map]; omega
  have LT : (p.ties.map tupI).length ≤ 1600 := by rw [List.length_map]; exact tl
  have HB : Dat NN (.tup (p.hues.map .int)) := datT (by omega) HU
  have HC : Dat NN (.tup (p.ties.map tupI)) := datT (by omega) TI
  have l0 : (Str.ofString "0").length = 1 := by decide
  unfold m__law_bent b__law_bent
  rw [p_runD]
  unfold Parts.d
  simp
  refine (draw_specF h (by omega) (by omega)).use ?_
  rintro _ M1 ⟨q1, b1, kd, rfl, k0, k1⟩
  simp
  rw [l0]
  by_cases e0 : kd = 0
  · rw [if_pos e0]
    refine ⟨log_int (by omega) (by omega), (odd_specF q1).use ?_⟩
    rintro x M2 ⟨q2, b2, hx⟩
    refine (any_specF q2 (by simp) (by simp)).use ?_
    rintro d M3 ⟨q3, _, hd⟩
    refine ⟨q3, _, _, _, ⟨rfl, rfl, rfl⟩, ?_, HB, HC⟩
    simp at hd
    rcases hd with rfl | rfl | rfl | rfl | rfl | rfl | rfl | rfl | rfl
    all_goals first
      | exact .int _
      | exact .bl _
      | exact .str _
      | exact dat1 (.int _)
      | exact hx
  rw [if_neg e0]
  by_cases e1 : kd = 1
  · rw [if_pos e1]
    refine ⟨by omega, ⟨m1, by omega, by decide⟩, (odd_specF q1).use ?_⟩
    rintro x M2 ⟨q2, b2, hx⟩
    refine (any_specF q2 (by simp) (by simp)).use ?_
    rintro d M3 ⟨q3, _, hd⟩
    refine ⟨q3, _, _, _, ⟨rfl, rfl, rfl⟩, .int _, ?_, HC⟩
    simp at hd
    rcases hd with rfl | rfl | rfl | rfl | rfl | rfl
    · exact datL (by omega) HU
    · exact datT (by rw [List.length_append]; show _ + 1 ≤ _; omega) (at_split HU (.int 0) (fun _ h => nomatch h))
    · exact datT (Nat.le_trans cut_len (by omega)) fun d hd => HU d (cut_mem hd)
    · exact .str _
    · exact .int _
    · exact hx
  rw [if_neg e1]
  by_cases e2 : kd = 2
  · rw [if_pos e2]
    refine (draw_specF q1 (by omega) (by omega)).use ?_
    rintro _ M2 ⟨q2, b2, t, rfl, t0, t1⟩
    refine (odd_specF q2).use ?_
    rintro x M3 ⟨q3, b3, hx⟩
    refine (any_specF q3 (by simp) (by simp)).use ?_
    rintro d M4 ⟨q4, _, hd⟩
    have hd : Dat NN d := by
      simp at hd
      rcases hd with rfl | rfl | rfl | rfl | rfl | rfl | rfl | rfl | rfl
      all_goals first
        | exact .int _
        | exact .bl _
        | exact .non
        | exact .str _
        | exact dat1 (.int _)
        | exact hx
    have c1 := cut_len (xs := p.hues.map D.int) (lo := none) (hi := some t)
    have c2 := cut_len (xs := p.hues.map D.int) (lo := some (t + 1)) (hi := none)
    simp
    refine ⟨by omega, by omega, q4, ?_⟩
    refine ⟨_, _, _, ⟨rfl, rfl, rfl⟩, .int _, datT ?_ (at_split (fun d hd => HU d (cut_mem hd)) hd fun d hd => HU d (cut_mem hd)), HC⟩
    rw [List.length_append, List.length_cons]; omega
  rw [if_neg e2]
  by_cases e3 : kd = 3
  · rw [if_pos e3]
    have c1 := cut_len (xs := p.ties.map tupI) (lo := some (-1)) (hi := none)
    refine ⟨by omega, by omega, (odd_specF q1).use ?_⟩
    rintro x M2 ⟨q2, b2, hx⟩
    refine (any_specF q2 (by simp) (by simp)).use ?_
    rintro d M3 ⟨q3, _, hd⟩
    refine ⟨q3, _, _, _, ⟨rfl, rfl, rfl⟩, .int _, HB, ?_⟩
    simp at hd
    rcases hd with rfl | rfl | rfl | rfl | rfl | rfl
    · exact datL (by omega) TI
    · exact datT (by rw [List.length_append]; omega) fun d hd => by
        rcases List.mem_append.mp hd with hd | hd
        · exact TI d hd
        · exact TI d (cut_mem hd)
    · rw [← List.map_reverse]
      refine datT (by rw [List.length_map, List.length_reverse]; omega) fun d hd => ?_
      rw [List.map_reverse] at hd
      exact TI d (List.mem_reverse.mp hd)
    · exact datT (Nat.le_trans cut_len (by omega)) fun d hd => TI d (cut_mem hd)
    · exact datT (by rw [List.length_append]; show _ + 1 ≤ _; omega) (at_split TI (dat3 (.int 3) (.int 0) (.int 0)) (fun _ h => nomatch h))
    · exact hx
  rw [if_neg e3]
  by_cases et : p.ties = []
  · rw [if_pos et]
    refine (bent_tie_spec (k := 0) (b := 0) (e := 0) q1).use ?_
    rintro x M2 ⟨q2, hx⟩
    exact ⟨q2, _, _, _, ⟨rfl, rfl, rfl⟩, .int _, HB, dat1 hx⟩
  rw [if_neg et]
  have tp : 0 < p.ties.length := List.length_pos_iff.mpr et
  refine (draw_specF q1 (by omega) (by omega)).use ?_
  rintro _ M2 ⟨q2, b2, t, rfl, t0, t1⟩
  refine (draw_specF q2 (by omega) (by omega)).use ?_
  rintro _ M3 ⟨q3, b3, u, rfl, u0, u1⟩
  by_cases e4 : kd = 4
  · rw [if_pos e4]
    simp
    rw [atP_int t0 (by rw [List.length_map]; omega)]
    have ht : t.toNat < p.ties.length := by omega
    refine ⟨by rw [List.length_map]; exact ht, ?_⟩
    rw [List.getElem_map]
    obtain ⟨k, b, e, ee, _⟩ := tt _ (List.getElem_mem ht)
    rw [ee]
    refine (bent_tie_spec q3).use ?_
    rintro x M4 ⟨q4, hx⟩
    have c1 := cut_len (xs := p.ties.map tupI) (lo := none) (hi := some t)
    have c2 := cut_len (xs := p.ties.map tupI) (lo := some (t + 1)) (hi := none)
    refine ⟨by omega, by omega, q4, ?_⟩
    refine ⟨_, _, _, ⟨rfl, rfl, rfl⟩, .int _, HB, datT ?_ (at_split (fun d hd => TI d (cut_mem hd)) hx fun d hd => TI d (cut_mem hd))⟩
    rw [List.length_append, List.length_cons]; omega
  rw [if_neg e4]
  simp
  have ht : t.toNat < p.ties.length := by omega
  have hu : u.toNat < p.ties.length := by omega
  rw [atP_int u0 (by rw [List.length_map]; omega)]
  refine ⟨by rw [List.length_map]; exact hu, ?_⟩
  rw [atP_int t0 (by rw [List.length_map]; omega)]
  refine ⟨by rw [List.length_map]; exact ht, ?_⟩
  have ix : ∀ v : Int, 0 ≤ v → v < p.ties.length → ixN p.ties.length v = some v.toNat := fun v h0 h1 => by
    unfold ixN
    rw [if_pos h0, if_pos h1]
  refine ⟨_, ix t t0 t1, _, ix u u0 u1, (Ext.refl.app _).pot q3, _, _, _, ⟨rfl, rfl, rfl⟩, .int _, HB, datT (by rw [List.length_set, List.length_set]; omega) fun d hd => ?_⟩
  rcases List.mem_or_eq_of_mem_set hd with hd | rfl
  · rcases List.mem_or_eq_of_mem_set hd with hd | rfl
    · exact TI d hd
    · exact TI _ (List.getElem_mem _)
  · exact TI _ (List.getElem_mem _)
def EdgeP (e : D) : Prop := ∃ a b c, e = .tup [a, b, c] ∧ Dat NN a ∧ Dat NN b ∧ Dat NN c
theorem edges_spec {n : Nat} {p : Parts} {M : Store} (h : Pot n M) (g : Good p) : Post (m__law_edges [.loc n, p.d] M) (fun d M' => Pot n M' ∧ ∃ es, d = .lst es ∧ es.length ≤ 20 ∧ ∀ e ∈ es, EdgeP e) (fun _ _ => False) := by
  obtain ⟨m1, m2, hl, hh, tl, tt, ts⟩ := id g
  have HU : ∀ d ∈ p.hues.map D.int, Dat NN d := fun d hd => by obtain ⟨i, _, rfl⟩ := List.mem_map.mp hd; exact .int i
  have TI : ∀ d ∈ p.ties.map tupI, Dat NN d := fun d hd => by
    obtain ⟨t, ht, rfl⟩ := List.mem_map.mp hd
    obtain ⟨k, b, e, rfl, _⟩ := tt t ht
    exact dat3 (.int _) (.int _) (.int _)
  have LH : (p.hues.map D.int).length ≤ 40 := by rw [List.length_map]; omega
  have LT : (p.ties.map tupI).length ≤ 1600 := by rw [List.length_map]; exact tl
  have HB : Dat NN (.tup (p.hues.map .int)) := datT (by omega) HU
  have HC : Dat NN (.tup (p.ties.map tupI)) := datT (by omega) TI
  have mk : ∀ {a b c : D}, Dat NN a → Dat NN b → Dat NN c → EdgeP (.tup [a, b, c]) := fun ha hb hc => ⟨_, _, _, rfl, ha, hb, hc⟩
  unfold m__law_edges b__law_edges
  rw [p_runD]
  refine seq_mid (fun ρ M => ρ = [some (.loc n), some p.d, some (.int p.many), some (.tup (p.hues.map .int)), some (.tup (p.ties.map tupI)), none, none, none, none] ∧ Pot n M) ?_ ?_
  · unfold Parts.d
    simp
    exact h
  rintro _ M1 ⟨rfl, q1⟩
  refine seq_mid (fun ρ M => (∃ t : Int, 0 ≤ t ∧ t < p.many ∧ ρ = [some (.loc n), some p.d, some (.int p.many), some (.tup (p.hues.map .int)), some (.tup (p.ties.map tupI)), some (.int t), none, none, none]) ∧ Pot n M) ?_ ?_
  · simp
    refine (draw_specF q1 (by omega) (by omega)).use ?_
    rintro _ M2 ⟨q2, b2, t, rfl, t0, t1⟩
    exact ⟨⟨t, t0, t1, rfl⟩, q2⟩
  rintro _ M2 ⟨⟨t, t0, t1, rfl⟩, q2⟩
  refine seq_mid (fun ρ M => (∃ L, (∀ e ∈ L, EdgeP e) ∧ L.length ≤ 4 ∧ ρ = [some (.loc n), some p.d, some (.int p.many), some (.tup (p.hues.map .int)), some (.tup (p.ties.map tupI)), some (.int t), some (.lst L), none, none]) ∧ Pot n M) ?_ ?_
  · simp only [p_sSet, p_eLst, p_aCons, p_aNil, p_eTup, p_eOp, p_eC, p_mulU_tup]
    have z : ∀ (k : Nat) (i : Int), k ≤ 41 → Dat NN (.tup (List.replicate k [D.int i]).flatten) := fun k i hk => by
      rw [flat_one]
      exact datT (by rw [List.length_replicate]; omega) fun d hd => by rw [List.eq_of_mem_replicate hd]; exact .int i
    have e0 : Dat NN (.tup []) := .tup (Nat.zero_le _) (fun _ h => nomatch h)
    repeat (refine And.intro (by decide) ?_)
    refine And.intro ⟨_, ?_, ?_, rfl⟩ q2
    · intro e he
      simp only [List.mem_cons, List.not_mem_nil, or_false] at he
      rcases he with rfl | rfl | rfl | rfl
      · exact mk (.int _) (z _ _ (by decide)) e0
      · exact mk (.int _) e0 e0
      · exact mk (.int _) (z _ _ (by decide)) e0
      · exact mk (.int _) (dat1 (.int _)) (dat1 (dat3 (.int _) (.int _) (.int _)))
    · exact Nat.le_refl 4
  have base : ∀ (L : List D), some (D.lst L) = some (D.lst L) := fun _ => rfl
  have D3 : ∀ r : List Int, r.length ≤ 3 → Dat NN (tupI r) := fun r hr => dat_ints (by simp [NN]; omega)
  rintro _ M3 ⟨⟨L, hL, lL, rfl⟩, q3⟩
  refine seq_mid (fun ρ M => (∃ L o, (∀ e ∈ L, EdgeP e) ∧ L.length ≤ 7 ∧ ρ = [some (.loc n), some p.d, some (.int p.many), some (.tup (p.hues.map .int)), some (.tup (p.ties.map tupI)), some (.int t), some (.lst L), o, none]) ∧ Pot n M) ?_ ?_
  · simp
    have c1 := cut_len (xs := p.hues.map D.int) (lo := none) (hi := some t)
    have c2 := cut_len (xs := p.hues.map D.int) (lo := some (t + 1)) (hi := none)
    refine lc_mapA D.int (fun h => .tup [.int p.many, .tup (L3.cutD (p.hues.map D.int) none (some t) ++ .int h :: L3.cutD (p.hues.map D.int) (some (t + 1)) none), .tup (p.ties.map tupI)]) trivial [9, 10, -1] [] (by simp) (fun h hm => ?_) ?_
    · simp
      omega
    · simp
      refine ⟨by omega, ⟨fun e he => ?_, lL⟩, q3⟩
      have one : ∀ h : Int, EdgeP (.tup [.int p.many, .tup (L3.cutD (p.hues.map D.int) none (some t) ++ .int h :: L3.cutD (p.hues.map D.int) (some (t + 1)) none), .tup (p.ties.map tupI)]) := fun h => mk (.int _) (datT (by rw [List.length_append, List.length_cons]; omega) (at_split (fun d hd => HU d (cut_mem hd)) (.int h) fun d hd => HU d (cut_mem hd))) HC
      rcases he with he | rfl | rfl | rfl
      · exact hL e he
      · exact one _
      · exact one _
      · exact one _
  clear hL lL
  rintro _ M4 ⟨⟨L, o7, hL, lL, rfl⟩, q4⟩
  refine seq_mid (fun ρ M => (∃ L o o8, (∀ e ∈ L, EdgeP e) ∧ L.length ≤ 10 ∧ ρ = [some (.loc n), some p.d, some (.int p.many), some (.tup (p.hues.map .int)), some (.tup (p.ties.map tupI)), some (.int t), some (.lst L), o, o8]) ∧ Pot n M) ?_ ?_
  · simp
    refine lc_mapA tupI (fun r => .tup [.int p.many, .tup (p.hues.map D.int), .tup (p.ties.map tupI ++ [tupI r])]) trivial [[4, 0, 0], [3, p.many, 0], [3, p.many - 1, p.many]] [] (by simp) (fun r hm => ?_) ?_
    · simp
      omega
    · simp
      refine ⟨by omega, ⟨fun e he => ?_, lL⟩, q4⟩
      have one : ∀ r : List Int, r.length ≤ 3 → EdgeP (.tup [.int p.many, .tup (p.hues.map D.int), .tup (p.ties.map tupI ++ [tupI r])]) := fun r hr => mk (.int _) HB (datT (by rw [List.length_append]; show _ + 1 ≤ _; omega) (at_split TI (D3 r hr) fun _ h => nomatch h))
      rcases he with he | rfl | rfl | rfl
      · exact hL e he
      · exact one [_, _, _] (by simp)
      · exact one [_, _, _] (by simp)
      · exact one [_, _, _] (by simp)
  clear hL lL
  rintro _ M5 ⟨⟨L, o7, o8, hL, lL, rfl⟩, q5⟩
  refine seq_mid (fun ρ M => (∃ L o o8, (∀ e ∈ L, EdgeP e) ∧ L.length ≤ 13 ∧ ρ = [some (.loc n), some p.d, some (.int p.many), some (.tup (p.hues.map .int)), some (.tup (p.ties.map tupI)), some (.int t), some (.lst L), o, o8]) ∧ Pot n M) ?_ ?_
  · simp
    refine lc_mapA tupI (fun r => .tup [.int p.many, .tup (p.hues.map D.int), .tup (tupI r :: p.ties.map tupI)]) trivial [[-1, 0, 0], [0, -1, 0], [0, 0, -1]] [] (by simp) (fun r hm => ?_) ?_
    · simp
      omega
    · simp
      refine ⟨by omega, ⟨fun e he => ?_, lL⟩, q5⟩
      have one : ∀ r : List Int, r.length ≤ 3 → EdgeP (.tup [.int p.many, .tup (p.hues.map D.int), .tup (tupI r :: p.ties.map tupI)]) := fun r hr => mk (.int _) HB (datT (by rw [List.length_cons]; omega) (at_split (a := []) (fun _ h => nomatch h) (D3 r hr) TI))
      rcases he with he | rfl | rfl | rfl
      · exact hL e he
      · exact one [_, _, _] (by simp)
      · exact one [_, _, _] (by simp)
      · exact one [_, _, _] (by simp)
  clear hL lL
  rintro _ M6 ⟨⟨L, o7, o8, hL, lL, rfl⟩, q6⟩
  simp
  have c1 := cut_len (xs := p.ties.map tupI) (lo := some (-1)) (hi := none)
  refine ⟨by omega, by omega, by omega, q6, ?_, ?_⟩
  · omega
  · intro e he
    rcases he with he | rfl | rfl | rfl
    · exact hL e he
    · refine mk (.int _) HB (datT (by rw [List.length_append]; omega) fun d hd => ?_)
      rcases List.mem_append.mp hd with hd | hd
      · exact TI d hd
      · exact TI d (cut_mem hd)
    · exact mk (.int _) (datT (by rw [List.length_append]; show _ + 1 ≤ _; omega) (at_split HU (.int 0) fun _ h => nomatch h)) HC
    · exact mk (.int _) (datT (Nat.le_trans cut_len (by omega)) fun d hd => HU d (cut_mem hd)) HC
end Qk01
set_option Elab.async false
set_option linter.all false
set_option maxRecDepth 100000
set_option maxHeartbeats 4000000
set_option autoImplicit false
namespace Qk01
open PySem PySem.Spec L2 L3
open PyProof.Rows hiding St
theorem ltR_three {a b c d e f : Int} : ltR [a, b, c] [d, e, f] = true ↔ a < d ∨ (a = d ∧ (b < e ∨ (b = e ∧ c < f))) := by
  simp [ltR]
theorem rngD_nat {m : Nat} : rngD 0 (m : Int) = (List.range m).map fun e : Nat => D.int (e : Int) := by
  apply List.ext_getElem?
  intro i
  by_cases h : i < m
  · have := rngD_get (lo := 0) (hi := (m : Int)) (i := i) (by omega)
    rw [this, List.getElem?_map, List.getElem?_range h]; simp
  · rw [List.getElem?_eq_none (by rw [rngD_len]; omega), List.getElem?_eq_none (by rw [List.length_map, List.length_range]; omega)]
structure FullI (f m k b : Nat) (M0 M : Store) : Prop where
  ext : Ext M0 M
  ex : ∃ xs : List (List Int), xs.length = k * (m * m) + b * m ∧ M[f]? = some (some (.lst (xs.map tupI))) ∧ (xs.Pairwise fun a b => ltR a b = true) ∧ ∀ t ∈ xs, TieOk m t ∧ ltR t [(k : Int), (b : Int), 0] = true
theorem full_spec {m : Nat} {M : Store} (m1 : 2 ≤ m) (m2 : m ≤ 40) : Post (m__law_full [.int (m : Int)] M) (fun d M' => Ext M M' ∧ ∃ rows : List (List Int), d = .tup [.int (m : Int), .tup ((List.replicate m (0 : Int)).map .int), .tup (rows.map tupI)] ∧ rows.length = 4 * (m * m) ∧ (rows.Pairwise fun a b => ltR a b = true) ∧ ∀ t ∈ rows, TieOk m t) (fun _ _ => False) := by
  have hmm : m * m ≤ 40 * 40 := Nat.mul_le_mul m2 m2
  unfold m__law_full b__law_full
  rw [p_runD]
  simp
  refine for_rule (all := rngD 0 4) (fun k ρ M' => (∃ o2 o3 o4, ρ = [some (.int (m : Int)), some (.loc M.length), o2, o3, o4]) ∧ FullI M.length m k 0 M M') (fun _ _ _ _ => trivial) ⟨⟨none, none, none, rfl⟩, Ext.refl.app _, [], by simp, List.getElem?_concat_length .., .nil, by simp⟩ ?_ ?_
  · rintro k d ρ M3 hk ⟨⟨o2, o3, o4, rfl⟩, F⟩
    obtain ⟨kc, rfl⟩ : (k : Int) < 4 ∧ d = .int (k : Int) := by
      have w : k < (rngD 0 4).length := (List.getElem?_eq_some_iff.mp hk).1
      rw [rngD_len] at w
      have e := rngD_get (lo := 0) (hi := 4) (i := k) (by simpa using w)
      rw [hk] at e
      exact ⟨by omega, by simpa using Option.some.inj e⟩
    simp
    refine ⟨by omega, ?_⟩
    refine for_rule (all := rngD 0 (m : Int)) (fun b ρ M' => (∃ o3 o4, ρ = [some (.int (m : Int)), some (.loc M.length), some (.int (k : Int)), o3, o4]) ∧ FullI M.length m k b M M') (fun _ _ _ _ => trivial) ⟨⟨o3, o4, rfl⟩, F⟩ ?_ ?_
    · rintro b d ρ M4 hb ⟨⟨o3, o4, rfl⟩, F⟩
      obtain ⟨bc, rfl⟩ := rng_int (by omega) hb
      obtain ⟨x4, xs, hl, hx, hp, hxs⟩ := F
      simp [locL_of hx]
      refine ⟨by omega, ?_⟩
      rw [rngD_nat]
      refine lc_mapA (fun e : Nat => D.int (e : Int)) (fun e : Nat => tupI [(k : Int), (b : Int), (e : Int)]) trivial (List.range m) [] (by simp; omega) (fun e he => ?_) ?_
      · simp [tupI]
      · simp [locL_of hx]
        have k3 : k * (m * m) ≤ 3 * 1600 := Nat.mul_le_mul (by omega) (by omega)
        have b3 : b * m ≤ 39 * 40 := Nat.mul_le_mul (by omega) m2
        have fl : M.length < M4.length := (List.getElem?_eq_some_iff.mp hx).1
        refine ⟨by omega, x4.set (Nat.le_refl _), xs ++ (List.range m).map fun e : Nat => [(k : Int), (b : Int), (e : Int)], ?_, ?_, ?_, ?_⟩
        · rw [List.length_append, List.length_map, List.length_range, hl, Nat.succ_mul]; omega
        · rw [List.getElem?_set_self fl, List.map_append, List.map_map]; rfl
        · rw [List.pairwise_append]
          refine ⟨hp, ?_, fun a ha c hc => ?_⟩
          · rw [List.pairwise_map]
            refine List.pairwise_lt_range.imp fun {x y} hxy => ?_
            rw [ltR_three]; omega
          · obtain ⟨e, he, rfl⟩ := List.mem_map.mp hc
            obtain ⟨h1, h2⟩ := hxs a ha
            obtain ⟨x, y, z, rfl, h3, h4, h5⟩ := h1
            rw [ltR_three] at h2 ⊢
            omega
        · intro t ht
          rcases List.mem_append.mp ht with ht | ht
          · obtain ⟨h1, h2⟩ := hxs t ht
            refine ⟨h1, ?_⟩
            obtain ⟨x, y, z, rfl, h3, h4, h5⟩ := h1
            rw [ltR_three] at h2 ⊢
            omega
          · obtain ⟨e, he, rfl⟩ := List.mem_map.mp ht
            have := List.mem_range.mp he
            refine ⟨⟨_, _, _, rfl, ⟨by omega, by omega⟩, ⟨by omega, by omega⟩, by omega, by omega⟩, ?_⟩
            rw [ltR_three]; omega
    · rintro ρ M4 ⟨⟨o3, o4, rfl⟩, F⟩
      rw [rngD_len] at F
      simp
      obtain ⟨x4, xs, hl, hx, hp, hxs⟩ := F
      refine ⟨x4, xs, by rw [hl]; simp; rw [Nat.succ_mul], hx, hp, fun t ht => ?_⟩
      obtain ⟨h1, h2⟩ := hxs t ht
      refine ⟨h1, ?_⟩
      obtain ⟨a, b, c, rfl, h3, h4, h5⟩ := h1
      rw [ltR_three] at h2 ⊢
      omega
  · rintro ρ M3 ⟨⟨o2, o3, o4, rfl⟩, F⟩
    rw [rngD_len] at F
    obtain ⟨x3, xs, hl, hx, hp, hxs⟩ := F
    rw [thenF_nx]
    simp [locL_of hx]
    rw [show ((4 : Int) - 0).toNat = 4 from rfl] at hl
    refine ⟨⟨by omega, by omega⟩, x3, xs, rfl, by omega, hp, fun t ht => (hxs t ht).1⟩
/-! what can be told by repr -/
theorem ok_int {i : Int} (h0 : 0 ≤ i) (h1 : i ≤ 100000) : okD 8 (.int i) = true := by
  show decide (i.natAbs < 10 ^ 8) = true
  rw [decide_eq_true_eq]; omega
theorem ok_ints {l : List Int} (h : ∀ i ∈ l, 0 ≤ i ∧ i ≤ 100000) : okD 8 (.tup (l.map .int)) = true := by
  show okDs 8 (l.map .int) = true
  rw [okDs_iff]
  intro x hx
  obtain ⟨i, hi, rfl⟩ := List.mem_map.mp hx
  exact ok_int (h i hi).1 (h i hi).2
theorem tell_web {p : Parts} (g : Good p) : Tell (.tup [.str (Str.ofString "web"), p.d]) := by
  obtain ⟨m1, m2, hl, hh, tl, tt, ts⟩ := g
  have row : ∀ t ∈ p.ties, (∀ i ∈ t, 0 ≤ i ∧ i ≤ 100000) ∧ t.length = 3 := fun t ht => by
    obtain ⟨k, b, e, rfl, h1, h2, h3⟩ := tt t ht
    refine ⟨fun i hi => ?_, rfl⟩
    simp at hi; rcases hi with rfl | rfl | rfl <;> omega
  refine ⟨8, ?_, by decide, ?_, ?_, by decide⟩
  · show okDs 8 [.str (Str.ofString "web"), p.d] = true
    rw [okDs_iff]
    intro x hx
    simp at hx
    rcases hx with rfl | rfl
    · show PyData.strOk (Str.ofString "web") = true
      decide +kernel
    · show okDs 8 [.int p.many, .tup (p.hues.map .int), .tup (p.ties.map tupI)] = true
      rw [okDs_iff]
      intro x hx
      simp at hx
      rcases hx with rfl | rfl | rfl
      · exact ok_int (by omega) (by omega)
      · exact ok_ints fun i hi => by have := hh i hi; omega
      · show okDs 8 (p.ties.map tupI) = true
        rw [okDs_iff]
        intro x hx
        obtain ⟨t, ht, rfl⟩ := List.mem_map.mp hx
        exact ok_ints (row t ht).1
  · have d1 : ∀ l : List Int, depD (.tup (l.map .int)) ≤ 1 := fun l => by
      show depDs (l.map .int) + 1 ≤ 1
      have := depDs_le (n := 0) (xs := l.map D.int) fun x hx => by obtain ⟨i, _, rfl⟩ := List.mem_map.mp hx; exact Nat.le_refl 0
      omega
    have d2 : depD (.tup (p.ties.map tupI)) ≤ 2 := by
      show depDs (p.ties.map tupI) + 1 ≤ 2
      have := depDs_le (n := 1) (xs := p.ties.map tupI) fun x hx => by obtain ⟨t, _, rfl⟩ := List.mem_map.mp hx; exact d1 t
      omega
    have := d1 p.hues
    show max 0 (max (max 0 (max (depD (.tup (p.hues.map .int))) (max (depD (.tup (p.ties.map tupI))) 0)) + 1) 0) + 1 < 60
    omega
  · have w1 : ∀ l : List Int, wtD 8 (.tup (l.map .int)) ≤ 34 * l.length := fun l => by
      show wtDs 8 (l.map .int) ≤ _
      have := wtDs_le (B := 8) (n := 33) (xs := l.map D.int) fun x hx => by obtain ⟨i, _, rfl⟩ := List.mem_map.mp hx; exact Nat.le_refl 33
      rw [List.length_map] at this; exact this
    have w2 : wtD 8 (.tup (p.ties.map tupI)) ≤ 103 * 1600 := by
      show wtDs 8 (p.ties.map tupI) ≤ _
      have := wtDs_le (B := 8) (n := 102) (xs := p.ties.map tupI) fun x hx => by
        obtain ⟨t, ht, rfl⟩ := List.mem_map.mp hx
        have a := w1 t
        rw [(row t ht).2] at a
        exact a
      rw [List.length_map] at this
      exact Nat.le_trans this (Nat.mul_le_mul_left _ tl)
    have w3 := w1 p.hues
    have w4 : wtD 8 (.tup [.str (Str.ofString "web"), p.d]) = (Str.ofString "web").cps.size + 1 + ((4 * 8 + 1) + 1 + (wtD 8 (.tup (p.hues.map .int)) + 1 + (wtD 8 (.tup (p.ties.map tupI)) + 1 + 0)) + 1 + 0) := rfl
    have w5 : (Str.ofString "web").cps.size = 3 := by decide
    rw [w4, w5]
    omega
theorem wrong_cases {a b c w : D} (h : wrongO a b c = some w) : w = sMany ∨ w = sHues ∨ w = sTies ∨ ∃ i : Nat, i ≤ 1600 ∧ w = .int (i : Int) := by
  by_cases h1 : isNum a 1 40 = true
  · obtain ⟨m, rfl, m1, m2⟩ := isNum_int h1
    by_cases h2 : ∃ hs, b = .tup hs ∧ (hs.length : Int) = m ∧ (hs.all fun h => isNum h 0 9) = true
    · obtain ⟨hs, rfl, hl, hall⟩ := h2
      by_cases h3 : ∃ ts, c = .tup ts ∧ ts.length ≤ 1600
      · obtain ⟨ts, rfl, tl⟩ := h3
        rw [wrong_at m1 m2 hl hall tl] at h
        obtain ⟨i, h4, h5⟩ := Option.map_eq_some_iff.mp h
        have := List.mem_range.mp (List.mem_of_find?_eq_some h4)
        exact .inr (.inr (.inr ⟨i, by omega, h5.symm⟩))
      · rw [wrong_ties m1 m2 hl hall (fun ts e k => h3 ⟨ts, e, k⟩)] at h; cases h; exact .inr (.inr (.inl rfl))
    · rw [wrong_hues m1 m2 (fun hs e k => h2 ⟨hs, e, k.1, k.2⟩)] at h; cases h; exact .inr (.inl rfl)
  · rw [wrong_many h1] at h; cases h; exact .inl rfl
theorem tell_bad {w : D} (h : w = sMany ∨ w = sHues ∨ w = sTies ∨ ∃ i : Nat, i ≤ 1600 ∧ w = .int (i : Int)) : Tell (.tup [.str (Str.ofString "bad"), w]) := by
  have key : okD 8 w = true ∧ depD w = 0 ∧ wtD 8 w ≤ 100 := by
    rcases h with rfl | rfl | rfl | ⟨i, hi, rfl⟩
    · exact ⟨by show PyData.strOk (Str.ofString "many") = true; decide +kernel, rfl, by show (Str.ofString "many").cps.size ≤ 100; decide⟩
    · exact ⟨by show PyData.strOk (Str.ofString "hues") = true; decide +kernel, rfl, by show (Str.ofString "hues").cps.size ≤ 100; decide⟩
    · exact ⟨by show PyData.strOk (Str.ofString "ties") = true; decide +kernel, rfl, by show (Str.ofString "ties").cps.size ≤ 100; decide⟩
    · exact ⟨ok_int (by omega) (by omega), rfl, by show 4 * 8 + 1 ≤ 100; decide⟩
  obtain ⟨k1, k2, k3⟩ := key
  refine ⟨8, ?_, by decide, ?_, ?_, by decide⟩
  · show okDs 8 [.str (Str.ofString "bad"), w] = true
    rw [okDs_iff]
    intro x hx
    simp at hx
    rcases hx with rfl | rfl
    · show PyData.strOk (Str.ofString "bad") = true
      decide +kernel
    · exact k1
  · show max 0 (max (depD w) 0) + 1 < 60
    omega
  · have w4 : wtD 8 (.tup [.str (Str.ofString "bad"), w]) = (Str.ofString "bad").cps.size + 1 + (wtD 8 w + 1 + 0) := rfl
    have w5 : (Str.ofString "bad").cps.size = 3 := by decide
    rw [w4, w5]; omega
theorem tell_made {a b c : D} : Tell (madeD a b c) := by
  unfold madeD
  cases h : wrongO a b c with
  | none =>
    obtain ⟨p, g, rfl, rfl, rfl⟩ := good_of h
    exact tell_web g
  | some w => exact tell_bad (wrong_cases h)
theorem full_good {m : Nat} {rows : List (List Int)} (m1 : 1 ≤ m) (m2 : m ≤ 40) (l : rows.length ≤ 1600) (hp : rows.Pairwise fun a b => ltR a b = true) (hr : ∀ t ∈ rows, TieOk m t) : Good ⟨m, List.replicate m (0 : Int), rows⟩ :=
  ⟨by show (1 : Int) ≤ m; omega, by show (m : Int) ≤ 40; omega, by show ((List.replicate m (0 : Int)).length : Int) = m; rw [List.length_replicate], fun h hh => by rw [List.eq_of_mem_replicate hh]; decide, l, hr, hp⟩
theorem dat_rowsT {m : Int} {rows : List (List Int)} (l : rows.length ≤ 10000) (hr : ∀ t ∈ rows, TieOk m t) : ∀ d ∈ rows.map tupI, Dat NN d := fun d hd => by
  obtain ⟨t, ht, rfl⟩ := List.mem_map.mp hd
  obtain ⟨k, b, e, rfl, _⟩ := hr t ht
  exact dat3 (.int _) (.int _) (.int _)
theorem dat_zero {m : Nat} (h : m ≤ 40) : Dat NN (.tup ((List.replicate m (0 : Int)).map .int)) := dat_ints (by simp [NN]; omega)
theorem eq_bad {neg : Bool} {M : Store} {Q : D → Store → Prop} {E : Exn → Store → Prop} : Post (eqS neg (.tup [.str (Str.ofString "bad"), sTies]) (.tup [.str (Str.ofString "bad"), .str (Str.ofString "ties")]) M) Q E ↔ Q (.bl (!neg)) M := by
  have e : pyM M (.tup [.str (Str.ofString "bad"), .str (Str.ofString "ties")]) = some (.tuple [.str (Str.ofString "bad"), .str (Str.ofString "ties")]) := rfl
  refine (p_eqP (M := M) (Q := Q) (E := E) (neg := neg) e e ?_ ?_).trans ?_
  · decide +kernel
  · decide +kernel
  · have : PyData.eqv (.tuple [.str (Str.ofString "bad"), .str (Str.ofString "ties")]) (.tuple [.str (Str.ofString "bad"), .str (Str.ofString "ties")]) = true := by decide +kernel
    rw [this]
    cases neg <;> exact Iff.rfl
theorem wrong_long {m : Nat} {ts : List D} (m1 : 1 ≤ m) (m2 : m ≤ 40) (l : ¬ ts.length ≤ 1600) : wrongO (.int (m : Int)) (.tup ((List.replicate m (0 : Int)).map .int)) (.tup ts) = some sTies :=
  wrong_ties (by omega) (by omega) (by rw [List.length_map, List.length_replicate]) (by
    rw [List.all_eq_true]
    intro x hx
    obtain ⟨i, hi, rfl⟩ := List.mem_map.mp hx
    rw [List.eq_of_mem_replicate hi]; decide) (fun ts' e => by cases e; exact l)
theorem made_none {a b c : D} (h : wrongO a b c = none) : madeD a b c = .tup [.str (Str.ofString "web"), .tup [a, b, c]] := by unfold madeD; rw [h]
theorem made_some {a b c w : D} (h : wrongO a b c = some w) : madeD a b c = .tup [.str (Str.ofString "bad"), w] := by unfold madeD; rw [h]
theorem great_right {n : Nat} {M : Store} (h : Pot n M) : Post (m__law_great_right [.loc n] M) (fun d M' => Pot n M' ∧ d = .bl true) (fun _ _ => False) := by
  unfold m__law_great_right b__law_great_right
  rw [p_runD]
  simp
  refine (full_spec (m := 20) (by decide) (by decide)).use ?_
  rintro _ M1 ⟨x1, r20, rfl, l20, p20, t20⟩
  have W20 : wrongO (.int 20) (.tup ((List.replicate 20 (0 : Int)).map .int)) (.tup (r20.map tupI)) = none := good_none (full_good (m := 20) (by decide) (by decide) (by omega) p20 t20)
  have V20 : ∀ x, wrongO (.int 20) (.tup ((List.replicate 20 (0 : Int)).map .int)) (.tup (r20.map tupI ++ [x])) = some sTies := fun x => wrong_long (m := 20) (by decide) (by decide) (by rw [List.length_append, List.length_map]; show ¬ _ + 1 ≤ 1600; omega)
  have Z20 : Dat NN (.tup ((List.replicate 20 (0 : Int)).map .int)) := dat_zero (by decide)
  have e20 : ((20 : Nat) : Int) = 20 := rfl
  rw [e20]
  generalize D.tup ((List.replicate 20 (0 : Int)).map .int) = z20 at *
  simp
  refine (full_spec (m := 21) (by decide) (by decide)).use ?_
  rintro _ M2 ⟨x2, r21, rfl, l21, p21, t21⟩
  have W21 : wrongO (.int 21) (.tup ((List.replicate 21 (0 : Int)).map .int)) (.tup ((r21.take 1600).map tupI)) = none := good_none (full_good (m := 21) (by decide) (by decide) (by rw [List.length_take]; omega) (p21.sublist (List.take_sublist ..)) fun t ht => t21 t (List.mem_of_mem_take ht))
  have V21 : wrongO (.int 21) (.tup ((List.replicate 21 (0 : Int)).map .int)) (.tup (r21.map tupI)) = some sTies := wrong_long (m := 21) (by decide) (by decide) (by rw [List.length_map]; omega)
  have Z21 : Dat NN (.tup ((List.replicate 21 (0 : Int)).map .int)) := dat_zero (by decide)
  have e21 : ((21 : Nat) : Int) = 21 := rfl
  rw [e21]
  generalize D.tup ((List.replicate 21 (0 : Int)).map .int) = z21 at *
  have D20 := dat_rowsT (m := 20) (rows := r20) (by omega) t20
  have D21 := dat_rowsT (m := 21) (rows := r21) (by omega) t21
  simp
  refine (made_any (n := NN) (Nat.le_refl _) (.int 20) Z20 (datT (by rw [List.length_map]; omega) D20)).use ?_
  rintro _ M3 ⟨rfl, x3⟩
  rw [repr_eq tell_made, made_none W20]
  simp
  rw [repr_eq (by have := tell_made (a := .int 20) (b := z20) (c := .tup (r20.map tupI)); rw [made_none W20] at this; exact this)]
  simp
  have h3 : Pot n M3 := ((x1.trans x2).trans x3).pot h
  refine (any_specF h3 (by simp) (by simp)).use ?_
  rintro x M4 ⟨q4, _, hx⟩
  have hx : Dat NN x := by
    simp at hx
    rcases hx with rfl | rfl | rfl | rfl
    · exact dat3 (.int _) (.int _) (.int _)
    · exact .non
    · exact dat3 (.int _) (.int _) (.int _)
    · exact dat3 (.int _) (.int _) (.int _)
  refine ⟨by omega, (made_any (n := NN) (Nat.le_refl _) (.int 20) Z20 (datT (by rw [List.length_append, List.length_map]; show _ + 1 ≤ _; omega) (at_split (b := []) D20 hx fun _ h => nomatch h))).use ?_⟩
  rintro _ M5 ⟨rfl, x5⟩
  rw [made_some (V20 x), eq_bad]
  simp
  refine (made_any (n := NN) (Nat.le_refl _) (.int 21) Z21 (datT (by rw [List.length_map]; omega) D21)).use ?_
  rintro _ M6 ⟨rfl, x6⟩
  rw [made_some V21, eq_bad]
  simp
  have ec : L3.cutD (r21.map tupI) none (some 1600) = (r21.take 1600).map tupI := cut_to (by decide) (by omega)
  rw [ec]
  refine (made_any (n := NN) (Nat.le_refl _) (.int 21) Z21 (datT (by rw [List.length_map, List.length_take]; omega) fun d hd => D21 d (by rw [List.map_take] at hd; exact List.mem_of_mem_take hd))).use ?_
  rintro _ M7 ⟨rfl, x7⟩
  rw [repr_eq tell_made, made_none W21]
  simp
  rw [repr_eq (by have := tell_made (a := .int 21) (b := z21) (c := .tup ((r21.take 1600).map tupI)); rw [made_none W21, List.map_take] at this; exact this)]
  simp
  exact ((x5.trans x6).trans x7).pot q4
theorem madeW {a b c : D} : (if L3.isNon ((wrongO a b c).getD .non) = true then D.tup [.str (Str.ofString "web"), .tup [a, b, c]] else .tup [.str (Str.ofString "bad"), (wrongO a b c).getD .non]) = madeD a b c := by
  cases h : wrongO a b c with
  | none => rw [made_none h]; rfl
  | some w =>
    rw [made_some h]
    rcases wrong_cases h with rfl | rfl | rfl | ⟨i, _, rfl⟩ <;> rfl
/-- a web against what is none -/
theorem eq_other {p : Parts} {tp y : D} {t : String} {M : Store} {Q : D → Store → Prop} {E : Exn → Store → Prop} (h : tyN M y = some t) : Post (eqCx (Str.ofString "Web") m_Web___eq__ (webD p tp) y M) Q E ↔ Q (.bl false) M := by
  unfold webD
  rw [eqCx_dat (by rw [h]; rfl)]
  have e : m_Web___eq__ [.ins (Str.ofString "Web") (webF p tp), y] M = .ok (.bl false) M := by
    refine ok_of ?_
    unfold m_Web___eq__ b_Web___eq__
    rw [p_runD]
    simp
    rw [post_bnd]
    have e2 : isC (Str.ofString "Web") y M = .ok (.bl false) M := by
      unfold isC; rw [h]
    simp [e2]
  rw [e, post_ok, flagD_iff]
  exact ⟨fun h => h.2, fun h => ⟨rfl, h⟩⟩
theorem eq_web {p q : Parts} {tp tq : D} {M : Store} {Q : D → Store → Prop} {E : Exn → Store → Prop} : Post (eqCx (Str.ofString "Web") m_Web___eq__ (webD p tp) (webD q tq) M) Q E ↔ Q (.bl (decide (p = q))) M := by
  unfold webD
  rw [eqCx_ins]
  have e : m_Web___eq__ [.ins (Str.ofString "Web") (webF p tp), .ins (Str.ofString "Web") (webF q tq)] M = .ok (.bl (decide (p = q))) M := by
    refine ok_of ?_
    unfold m_Web___eq__ b_Web___eq__
    rw [p_runD]
    simp
    rw [post_bnd]
    simp
    refine (p_eqP (pyM_parts p) (pyM_parts q) (shaped_parts p) (shaped_parts q)).mpr ?_
    rw [eqv_parts]
    exact ⟨rfl, rfl⟩
  rw [e, post_ok, flagD_iff]
  exact ⟨fun h => h.2, fun h => ⟨rfl, h⟩⟩
theorem dat_ty {n : Nat} {d : D} (h : Dat n d) (M : Store) : ∃ t, tyN M d = some t := by
  cases h <;> exact ⟨_, rfl⟩
theorem tup_inj {α : Type} {f : α → D} (hf : ∀ x y, f x = f y → x = y) {a b : List α} (h : D.tup (a.map f) = .tup (b.map f)) : a = b := by
  have h2 : a.map f = b.map f := by injection h
  exact (List.map_inj_right hf).mp h2
theorem tupI_inj {a b : List Int} (h : tupI a = tupI b) : a = b := tup_inj (fun x y e => by injection e) h
theorem parts_eq {p q : Parts} (h1 : D.int p.many = .int q.many) (h2 : D.tup (p.hues.map .int) = .tup (q.hues.map .int)) (h3 : D.tup (p.ties.map tupI) = .tup (q.ties.map tupI)) : p = q := by
  obtain ⟨a, b, c⟩ := p
  obtain ⟨a', b', c'⟩ := q
  have e1 : a = a' := by injection h1
  have e2 : b = b' := tup_inj (fun x y e => by injection e) h2
  have e3 : c = c' := tup_inj (fun x y e => tupI_inj e) h3
  rw [e1, e2, e3]
theorem dat_parts {p : Parts} (g : Good p) : Dat NN (.int p.many) ∧ Dat NN (.tup (p.hues.map .int)) ∧ Dat NN (.tup (p.ties.map tupI)) := by
  obtain ⟨m1, m2, hl, hh, tl, tt, ts⟩ := g
  exact ⟨.int _, dat_ints (by show _ ≤ 16777216; omega), datT (by rw [List.length_map]; omega) (dat_rowsT (by omega) tt)⟩
theorem web_good {p : Parts} {M : Store} (g : Good p) : Post (m__law_web [p.d] M) (fun d M' => Ext M M' ∧ ∃ tp, d = webD p tp) (fun _ _ => False) := by
  obtain ⟨d1, d2, d3⟩ := dat_parts g
  refine (web_any (n := NN) (Nat.le_refl _) d1 d2 d3).mono ?_ ?_
  · rintro d M1 ⟨x, q, tp, k, e1, e2, e3, rfl⟩
    rw [parts_eq e1 e2 e3]
    exact ⟨x, tp, rfl⟩
  · rintro e M1 ⟨x, w, hw, _⟩
    rw [good_none g] at hw; cases hw
theorem edge_right {a b c : D} {M : Store} (ha : Dat NN a) (hb : Dat NN b) (hc : Dat NN c) {Q : Bool → Store → Prop} {E : Exn → Store → Prop} (q : ∀ M', Ext M M' → Q false M') :
    Post (m__law_made [.tup [a, b, c]] M) (fun x M1 => Post (reprD x M1) (fun x M1 => Post (reprD (madeD a b c) M1) (fun y M2 => Post (eqS true x y M2) (fun x M1 => Post (truB x M1) Q E) E) E) E) E := by
  refine (made_any (n := NN) (Nat.le_refl _) ha hb hc).use ?_
  rintro _ M1 ⟨rfl, x1⟩
  rw [repr_eq tell_made, post_ok, repr_eq tell_made, post_ok, p_eq_str]
  simp
  exact q M1 x1
theorem edge_if {a b c : D} {M : Store} (ha : Dat NN a) (hb : Dat NN b) (hc : Dat NN c) {Q : Bool → Store → Prop} {E : Exn → Store → Prop} (q : ∀ M', Ext M M' → Q false M') :
    Post (m__law_made [.tup [a, b, c]] M) (fun x M1 => Post (reprD x M1) (fun x M1 => if L3.isNon ((wrongO a b c).getD .non) = true then Post (reprD (.tup [.str (Str.ofString "web"), .tup [a, b, c]]) M1) (fun y M2 => Post (eqS true x y M2) (fun x M1 => Post (truB x M1) Q E) E) E
      else Post (reprD (.tup [.str (Str.ofString "bad"), (wrongO a b c).getD .non]) M1) (fun y M2 => Post (eqS true x y M2) (fun x M1 => Post (truB x M1) Q E) E) E) E) E := by
  cases h : wrongO a b c with
  | none =>
    have e : L3.isNon ((none : Option D).getD .non) = true := rfl
    simp only [e, if_true]
    rw [← made_none h]
    exact edge_right ha hb hc q
  | some w =>
    have e : L3.isNon w = false := by rcases wrong_cases h with rfl | rfl | rfl | ⟨i, _, rfl⟩ <;> rfl
    simp only [Option.getD_some, e, Bool.false_eq_true, if_false]
    rw [← made_some h]
    exact edge_right ha hb hc q
theorem isNon_wrong {a b c : D} : L3.isNon ((wrongO a b c).getD .non) = decide (wrongO a b c = none) := by
  cases h : wrongO a b c with
  | none => rfl
  | some w => rcases wrong_cases h with rfl | rfl | rfl | ⟨i, _, rfl⟩ <;> rfl
end Qk01
set_option Elab.async false
set_option linter.all false
set_option maxRecDepth 100000
set_option maxHeartbeats 4000000
set_option autoImplicit false
namespace Qk01
open PySem PySem.Spec L2 L3
open PyProof.Rows hiding St
theorem main (ns : List Int) (hl : ns.length ≤ 63) : Post (m_law [.ro (ns.map .int)] []) (fun d _ => d = .bl true) (fun _ _ => False) := by
  unfold m_law b_law
  rw [p_runD]
  refine seq_mid (fun ρ M => ρ = [some (.ro (ns.map .int)), some (.loc 0), none, none, none, none, none, none] ∧ Pot 0 M) ?_ ?_
  · simp
    refine (hand_spec hl).use ?_
    rintro _ M0 ⟨rfl, h0⟩
    exact ⟨rfl, h0⟩
  rintro _ M1 ⟨rfl, h1⟩
  refine seq_mid (fun ρ M => ρ = [some (.ro (ns.map .int)), some (.loc 0), none, none, none, none, none, none] ∧ Pot 0 M) ?_ ?_
  · simp
    refine (draw_spec h1 (by omega) (by omega)).use ?_
    rintro _ M2 ⟨h2, x, rfl, x0, x1⟩
    simp
    by_cases hx : x = 0
    · rw [if_pos hx]
      refine (great_right h2).use ?_
      rintro _ M3 ⟨h3, rfl⟩
      simp
      exact h3
    · rw [if_neg hx]
      exact h2
  rintro _ M2 ⟨rfl, h2⟩
  simp
  refine for_rule (all := rngD 0 6) (fun k ρ M => ∃ o2 o3 o4 o5 o6 o7, ρ = [some (.ro (ns.map .int)), some (.loc 0), o2, o3, o4, o5, o6, o7] ∧ Pot 0 M) (fun _ _ _ _ => trivial) ⟨none, none, none, none, none, none, rfl, h2⟩ ?_ ?_
  · rintro k d ρ M hk ⟨o2, o3, o4, o5, o6, o7, rfl, h⟩
    rw [p_gSet]
    refine seq_mid (fun ρ M => ∃ p, Good p ∧ ρ = [some (.ro (ns.map .int)), some (.loc 0), some d, some p.d, o4, o5, o6, o7] ∧ Pot 0 M) ?_ ?_
    · simp
      refine (parts_spec h).use ?_
      rintro _ M3 ⟨h3, p, g, rfl, _⟩
      exact ⟨p, g, rfl, h3⟩
    rintro _ M3 ⟨p, g, rfl, h3⟩
    have gn := good_none g
    refine seq_mid (fun ρ M => (∃ tp, ρ = [some (.ro (ns.map .int)), some (.loc 0), some d, some p.d, some (webD p tp), o5, o6, o7]) ∧ Pot 0 M) ?_ ?_
    · simp
      refine (web_good g).use ?_
      rintro _ M4 ⟨x4, tp, rfl⟩
      exact ⟨⟨tp, rfl⟩, x4.pot h3⟩
    rintro _ M4 ⟨⟨tp, rfl⟩, h4⟩
    refine seq_mid (fun ρ M => ρ = [some (.ro (ns.map .int)), some (.loc 0), some d, some p.d, some (webD p tp), o5, o6, o7] ∧ Pot 0 M) ?_ ?_
    · obtain ⟨d1, d2, d3⟩ := dat_parts g
      have em : D.tup [.str (Str.ofString "web"), p.d] = madeD (.int p.many) (.tup (p.hues.map .int)) (.tup (p.ties.map tupI)) := (made_none gn).symm
      simp
      rw [em]
      refine edge_right d1 d2 d3 fun M5 x5 => ?_
      simp
      refine (web_good g).use ?_
      rintro _ M6 ⟨x6, tq, rfl⟩
      rw [eq_web]
      simp
      rw [eq_other (t := "tuple") rfl]
      simp
      exact (x5.trans x6).pot h4
    rintro _ M5 ⟨rfl, h5⟩
    refine seq_mid (fun ρ M => ∃ o5 o6, ρ = [some (.ro (ns.map .int)), some (.loc 0), some d, some p.d, some (webD p tp), o5, o6, o7] ∧ Pot 0 M) ?_ ?_
    · simp
      refine (edges_spec h5 g).use ?_
      rintro _ M6 ⟨h6, es, rfl, le, hes⟩
      simp
      refine for_rule (all := es) (fun k ρ M => ∃ o5 o6, ρ = [some (.ro (ns.map .int)), some (.loc 0), some d, some p.d, some (webD p tp), o5, o6, o7] ∧ Pot 0 M) (fun _ _ _ _ => trivial) ⟨o5, o6, rfl, h6⟩ ?_ ?_
      · rintro j e ρ M7 hj ⟨o5, o6, rfl, h7⟩
        obtain ⟨a, b, c, rfl, ha, hb, hc⟩ := hes e (List.mem_of_getElem? hj)
        simp
        rw [wrong_eq (Nat.le_refl _) ha hb hc]
        simp
        refine edge_if ha hb hc fun M8 x8 => ?_
        exact ⟨rfl, x8.pot h7⟩
      · rintro ρ M7 ⟨o5, o6, rfl, h7⟩
        exact ⟨⟨o5, o6, rfl⟩, h7⟩
    rintro _ M6 ⟨o5, o6, rfl, h6⟩
    refine seq_mid (fun ρ M => (∃ e, EdgeP e ∧ ρ = [some (.ro (ns.map .int)), some (.loc 0), some d, some p.d, some (webD p tp), o5, o6, some e]) ∧ Pot 0 M) ?_ ?_
    · simp
      refine (bent_spec h6 g).use ?_
      rintro _ M7 ⟨h7, a, b, c, rfl, ha, hb, hc⟩
      exact ⟨⟨a, b, c, rfl, ha, hb, hc⟩, h7⟩
    rintro _ M7 ⟨⟨_, ⟨a, b, c, rfl, ha, hb, hc⟩, rfl⟩, h7⟩
    refine seq_mid (fun ρ M => (∃ e, EdgeP e ∧ ρ = [some (.ro (ns.map .int)), some (.loc 0), some d, some p.d, some (webD p tp), o5, o6, some e]) ∧ Pot 0 M) ?_ ?_
    · simp
      refine (draw_spec h7 (by omega) (by omega)).use ?_
      rintro _ M8 ⟨h8, x, rfl, x0, x1⟩
      simp
      by_cases hx : x = 0
      · rw [if_pos hx, wrong_eq (Nat.le_refl _) ha hb hc]
        simp
        rw [isNon_wrong]
        by_cases hw : wrongO a b c = none
        · rw [hw]
          simp
          obtain ⟨q, k', rfl, rfl, rfl⟩ := good_of hw
          refine (bent_spec h8 k').use ?_
          rintro _ M9 ⟨h9, a, b, c, rfl, ha, hb, hc⟩
          exact ⟨⟨a, b, c, rfl, ha, hb, hc⟩, h9⟩
        · simp [hw]
          exact ⟨⟨a, b, c, rfl, ha, hb, hc⟩, h8⟩
      · rw [if_neg hx]
        exact ⟨⟨a, b, c, rfl, ha, hb, hc⟩, h8⟩
    clear ha hb hc
    rintro _ M8 ⟨⟨_, ⟨a, b, c, rfl, ha, hb, hc⟩, rfl⟩, h8⟩
    refine seq_mid (fun ρ M => ρ = [some (.ro (ns.map .int)), some (.loc 0), some d, some p.d, some (webD p tp), o5, some ((wrongO a b c).getD .non), some (.tup [a, b, c])] ∧ Pot 0 M) ?_ ?_
    · simp
      rw [wrong_eq (Nat.le_refl _) ha hb hc]
      exact ⟨rfl, h8⟩
    rintro _ M9 ⟨rfl, h9⟩
    refine seq_mid (fun ρ M => ρ = [some (.ro (ns.map .int)), some (.loc 0), some d, some p.d, some (webD p tp), o5, some ((wrongO a b c).getD .non), some (.tup [a, b, c])] ∧ Pot 0 M) ?_ ?_
    · simp
      refine edge_if ha hb hc fun M10 x10 => ?_
      exact ⟨rfl, x10.pot h9⟩
    rintro _ M10 ⟨rfl, h10⟩
    refine seq_mid (fun ρ M => ρ = [some (.ro (ns.map .int)), some (.loc 0), some d, some p.d, some (webD p tp), o5, some ((wrongO a b c).getD .non), some (.tup [a, b, c])] ∧ Pot 0 M) ?_ ?_
    · simp
      rw [isNon_wrong]
      by_cases hw : wrongO a b c = none
      · rw [hw]
        simp
        obtain ⟨q, k', rfl, rfl, rfl⟩ := good_of hw
        refine (web_good k').use ?_
        rintro _ M11 ⟨x11, tq, rfl⟩
        rw [eq_web]
        try simp
        rw [show D.tup [D.int q.many, D.tup (List.map D.int q.hues), D.tup (List.map tupI q.ties)] = q.d from rfl]
        refine (p_eqP (pyM_parts q) (pyM_parts p) (shaped_parts q) (shaped_parts p)).mpr ?_
        rw [eqv_parts]
        have ed : decide (p = q) = decide (q = p) := by rw [decide_eq_decide]; exact eq_comm
        rw [ed]
        simp
        exact x11.pot h10
      · simp [hw]
        exact h10
    rintro _ M11 ⟨rfl, h11⟩
    simp
    refine (odd_specF h11).use ?_
    rintro y M12 ⟨h12, _, hy⟩
    obtain ⟨t, ht⟩ := dat_ty hy M12
    rw [eq_other ht]
    simp
    rw [eq_other (t := "str") rfl]
    simp
    exact h12
  · rintro ρ M3 ⟨o2, o3, o4, o5, o6, o7, rfl, h⟩
    rw [thenF_nx]
    simp
end Qk01
set_option Elab.async false
set_option linter.all false
set_option maxRecDepth 100000
set_option maxHeartbeats 0
set_option autoImplicit false
open PySem PySem.W PySem.Calls PyProof.Rows
theorem PySem.Challenge.cw_levelkin_k01_whole_webs_judged_holds : PySem.Challenge.rw_levelkin_k01_whole_webs_judged.Holds := by
  w_on; o_law
  refine HandSHeadRun.head_any (r := OpenLaw.row PySem.Challenge.rw_levelkin_k01_whole_webs_judged) (q := view (OpenLaw.row PySem.Challenge.rw_levelkin_k01_whole_webs_judged).prog [32]) (H := Qk01.hk) (ob := Qk01.ob) (M := 3000) (loose := Qk01.loo) (d := HandSHeadRun.topDef (OpenLaw.row PySem.Challenge.rw_levelkin_k01_whole_webs_judged).prog 32) (kwd := []) Qk01.ob_eq
    (by kernel_rfl) (fun s => by kernel_rfl) Qk01.run (by kernel_rfl) (by kernel_rfl) (by kernel_rfl) (by rfl) (by first | assumption | decide +kernel) (by decide +kernel) ⟨rfl, rfl, rfl, rfl, rfl, by decide +kernel⟩ ?hw ?hc
  case hw => w_witness2
  case hc =>
    refine L3.walkG (l := PySem.Challenge.rw_levelkin_k01_whole_webs_judged) (n := 63) (k := 11) (x := "script") (CX := fun w => L2.CX (PySem.Challenge.rw_levelkin_k01_whole_webs_judged).prog w) rfl (by decide) (by kernel_rfl) ⟨rfl, by decide, by decide⟩ ?F (fun w H s e s' z => by obtain ⟨_, _, _, _, _, _, _, _, _, _, _, _, z⟩ := z; exact z)
    intro w mg fa h Y G hmg0
    obtain ⟨K, KX, c⟩ := Y
    have hmg : mg ("law" : PySem.Str) = some (.ref fa) := by
      have e : (HandSHeadRun.topDef (OpenLaw.row PySem.Challenge.rw_levelkin_k01_whole_webs_judged).prog 32).name = ("law" : PySem.Str) := by kernel_rfl
      rw [← e]
      exact hmg0
    obtain ⟨fd, hb, hF⟩ := Qk01.facts (P := (PySem.Challenge.rw_levelkin_k01_whole_webs_judged).prog) (w := w) KX G hmg c (by kernel_rfl) (by kernel_rfl)
    exact ⟨K, fd, L3.spD K w 1 Qk01.m_law, KX, hb, fun H a ns hl _ hS => L3.sp_start hS (Qk01.main ns hl), hF⟩
