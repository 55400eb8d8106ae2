import PyProof.Rows.All
import Wide.All
import OpenK.AllK
import Wide.FinOn
import KE.KStateDown
import HandS.ForMost
import HandS.Exc
import PyProof.ReprReads
import KE.SortData
import KE.DataMinMax
import HandS.ExcOwn
import HandS.Flow
import HandS.Wide
import HandS.TupAny
import HandS.Deep
import HandS.TupMul
import PyProof.ListMulAny
import HandS.IsInst
import HandS.SortInts
import HandS.Spec
import HandS.RaiseMore
import PyProof.ReprRoads
import HandS.Zip
import KE.GoesEnum
import HandS.Conv
import HandS.More
import HandS.ExcInit
import HandS.Nested
import HandS.HeadWalk
import KE.KExcSuper
import HandS.TryMany
import HandS.CallSlots
import HandS.Small
import HandS.ExcField
import HandS.MakeKwOnly
import KE.KExcIs
import KE.DataFind
import KE.DatumIndex
import HandS.OwnEq
import HandS.HeadHook3
import HandS.Defaults
import HandS.HeadHook1
import HandS.HeadHook2
import HandS.Codes
import HandS.Ends
import HandS.Head0
import HandS.Head1
import HandS.Head2
import HandS.HeadEnd
import KE.DatumOrd
import PySem.Challenge.RW_searchedslopes_k09_errors
set_option Elab.async false
set_option linter.all false
set_option maxRecDepth 100000
set_option maxHeartbeats 4000000
set_option autoImplicit false
namespace Dn
open PySem PySem.Spec PyProof.Rows L2

/-- plain data: None, truths, numbers, texts, tuples, lists that change no more, instances that change no more; a handle of the store; a def -/
inductive D where
  | non | bl (b : Bool) | int (i : Int) | str (x : Str)
  | tup (xs : List D) | lst (xs : List D) | obj (c : Nat) (xs : List D)
  | ref (i : Nat) | fn (f : Nat)
  deriving Inhabited

/-- what may change: a list, an instance of class c (its fields by number) -/
inductive Ob where
  | lst (xs : List D) | ins (c : Nat) (fs : List (Nat × D))
  deriving Inhabited

abbrev Store := List (Option Ob)
abbrev Vars := List (Option D)

/-- an error at hand: the name's slot, its object, its dict; its class and fields -/
structure ErrX where
  sl : Nat
  a : Addr
  dd : Option Addr
  c : Nat
  xs : List D
/-- the program's places: defs, classes with their fields, error classes with theirs, names by number; the error at hand -/
structure Gx where
  K : PySem.W.Frag
  fa : Nat → Addr
  ca : Nat → Addr
  cf : Nat → List Nat
  xa : Nat → Addr
  xf : Nat → List Nat
  nm : Nat → Str
  isx : Nat → Bool
  ex : Option ErrX

structure Wd where
  H : Hp
  S : Store
  ρ : List Addr
  pv : List Addr

/-- what stands there may change: it has a handle, or a comprehension fills it -/
def Live (w : Wd) (a : Addr) : Prop := (∃ (i : Nat) (o : Ob), w.S[i]? = some (some o) ∧ w.ρ[i]? = some a) ∨ a ∈ w.pv

/-- a list that stands still -/
def FzL (K : PySem.W.Frag) (w : Wd) (a : Addr) (vs : List V) : Prop :=
  ((w.H a = some (.lst vs) ∨ ∃ o, w.H a = some (.frz o (.lst vs))) ∧ ¬ Live w a) ∨
    ∃ (o : Obj) (its : Array Value) (n : Nat), K.lookup a = some o ∧ o.cls = .type "list" ∧ o.dict = none ∧ o.data = .seq its n ∧ its.size ≤ sizeLine ∧ Vals vs its.toList
def FzT (K : PySem.W.Frag) (w : Wd) (a : Addr) (vs : List V) : Prop :=
  ((w.H a = some (.tup vs) ∨ ∃ o, w.H a = some (.frz o (.tup vs))) ∧ ¬ Live w a) ∨
    ∃ (o : Obj) (its : Array Value) (n : Nat), K.lookup a = some o ∧ o.cls = .type "tuple" ∧ o.data = .seq its n ∧ its.size ≤ sizeLine ∧ Vals vs its.toList

mutual
def Rep (G : Gx) (w : Wd) : D → V → Prop
  | .non, v => v = .non
  | .bl b, v => v = .bl b
  | .int i, v => v = .int i
  | .str x, v => v = .str x
  | .tup xs, v => ∃ a vs, v = .ref a ∧ FzT G.K w a vs ∧ Reps G w xs vs
  | .lst xs, v => ∃ a vs, v = .ref a ∧ FzL G.K w a vs ∧ Reps G w xs vs
  | .obj c xs, v => ∃ a dx vs, v = .ref a ∧ w.H a = some (.ins (G.ca c) dx (((G.cf c).map G.nm).zip vs)) ∧ ¬ Live w a ∧ vs.length = (G.cf c).length ∧ Reps G w xs vs
  | .ref i, v => ∃ a, v = .ref a ∧ w.ρ[i]? = some a
  | .fn f, v => v = .ref (G.fa f)
def Reps (G : Gx) (w : Wd) : List D → List V → Prop
  | [], vs => vs = []
  | d :: ds, vs => ∃ v r, vs = v :: r ∧ Rep G w d v ∧ Reps G w ds r
end

/-- the fields of an instance that may change -/
def Flds (G : Gx) (w : Wd) (fs : List (Nat × D)) (vfs : List (Str × V)) : Prop := Paired (fun (p : Nat × D) (q : Str × V) => q.1 = G.nm p.1 ∧ Rep G w p.2 q.2) fs vfs
def ObR (G : Gx) (w : Wd) (a : Addr) : Ob → Prop
  | .lst xs => ∃ vs, w.H a = some (.lst vs) ∧ Reps G w xs vs
  | .ins c fs => ∃ dx vfs, w.H a = some (.ins (G.ca c) dx vfs) ∧ Flds G w fs vfs

structure Rel (G : Gx) (w : Wd) : Prop where
  len : w.ρ.length = w.S.length
  nd : ∀ (i j : Nat) (a : Addr), w.ρ[i]? = some a → w.ρ[j]? = some a → i = j
  has : ∀ (i : Nat) (a : Addr), w.ρ[i]? = some a → ∃ o, w.H a = some o
  at_ : ∀ (i : Nat) (o : Ob), w.S[i]? = some (some o) → ∃ a : Addr, w.ρ[i]? = some a ∧ ObR G w a o
  pvh : ∀ a ∈ w.pv, ∃ xs, w.H a = some (.lst xs)
  pvn : ∀ a ∈ w.pv, ∀ i : Nat, w.ρ[i]? ≠ some a

structure Ext (w w' : Wd) : Prop where
  pre : ∀ (i : Nat) (a : Addr), w.ρ[i]? = some a → w'.ρ[i]? = some a
  keep : ∀ a o, w.H a = some o → ¬ Live w a → w'.H a = some o ∧ ¬ Live w' a
  pvk : ∀ a ∈ w.pv, a ∈ w'.pv ∧ w'.H a = w.H a
  som : ∀ a o, w.H a = some o → ∃ o', w'.H a = some o'

/-- what data lean on -/
structure Wk (w w' : Wd) : Prop where
  pre : ∀ (i : Nat) (a : Addr), w.ρ[i]? = some a → w'.ρ[i]? = some a
  keep : ∀ a o, w.H a = some o → ¬ Live w a → w'.H a = some o ∧ ¬ Live w' a
theorem Ext.wk {w w' : Wd} (e : Ext w w') : Wk w w' := ⟨e.pre, e.keep⟩
instance {w w' : Wd} : Coe (Ext w w') (Wk w w') := ⟨Ext.wk⟩
theorem Ext.refl (w : Wd) : Ext w w := ⟨fun _ _ h => h, fun _ _ h n => ⟨h, n⟩, fun _ h => ⟨h, rfl⟩, fun _ o h => ⟨o, h⟩⟩
theorem Ext.trans {w w1 w2 : Wd} (a : Ext w w1) (b : Ext w1 w2) : Ext w w2 :=
  ⟨fun i x h => b.pre i x (a.pre i x h), fun x o h n => let ⟨h1, n1⟩ := a.keep x o h n; b.keep x o h1 n1, fun x h => let ⟨h1, e1⟩ := a.pvk x h; let ⟨h2, e2⟩ := b.pvk x h1; ⟨h2, e2.trans e1⟩, fun x o h => let ⟨o1, h1⟩ := a.som x o h; b.som x o1 h1⟩

theorem FzL.ext {K : PySem.W.Frag} {w w' : Wd} (e : Wk w w') {a : Addr} {vs : List V} (h : FzL K w a vs) : FzL K w' a vs := by
  rcases h with ⟨h | ⟨o, h⟩, n⟩ | h
  · obtain ⟨h1, n1⟩ := e.keep _ _ h n; exact .inl ⟨.inl h1, n1⟩
  · obtain ⟨h1, n1⟩ := e.keep _ _ h n; exact .inl ⟨.inr ⟨o, h1⟩, n1⟩
  · exact .inr h
theorem FzT.ext {K : PySem.W.Frag} {w w' : Wd} (e : Wk w w') {a : Addr} {vs : List V} (h : FzT K w a vs) : FzT K w' a vs := by
  rcases h with ⟨h | ⟨o, h⟩, n⟩ | h
  · obtain ⟨h1, n1⟩ := e.keep _ _ h n; exact .inl ⟨.inl h1, n1⟩
  · obtain ⟨h1, n1⟩ := e.keep _ _ h n; exact .inl ⟨.inr ⟨o, h1⟩, n1⟩
  · exact .inr h
theorem FzL.sq {K : PySem.W.Frag} {w : Wd} {a : Addr} {vs : List V} (h : FzL K w a vs) : SqL K w.H a vs := by
  rcases h with ⟨h, _⟩ | h
  · exact .inl h
  · exact .inr h
theorem FzT.sq {K : PySem.W.Frag} {w : Wd} {a : Addr} {vs : List V} (h : FzT K w a vs) : SqT K w.H a vs := by
  rcases h with ⟨h, _⟩ | h
  · exact .inl h
  · exact .inr h

mutual
theorem Rep.ext {G : Gx} {w w' : Wd} (e : Wk w w') : ∀ (d : D) (v : V), Rep G w d v → Rep G w' d v
  | .non, _, h => by simpa [Rep] using h
  | .bl _, _, h => by simpa [Rep] using h
  | .int _, _, h => by simpa [Rep] using h
  | .str _, _, h => by simpa [Rep] using h
  | .tup xs, v, h => by
    simp only [Rep] at h ⊢
    obtain ⟨a, vs, e1, f, r⟩ := h
    exact ⟨a, vs, e1, f.ext e, Reps.ext e xs vs r⟩
  | .lst xs, v, h => by
    simp only [Rep] at h ⊢
    obtain ⟨a, vs, e1, f, r⟩ := h
    exact ⟨a, vs, e1, f.ext e, Reps.ext e xs vs r⟩
  | .obj c xs, v, h => by
    simp only [Rep] at h ⊢
    obtain ⟨a, dx, vs, e1, f, n, l, r⟩ := h
    obtain ⟨f1, n1⟩ := e.keep _ _ f n
    exact ⟨a, dx, vs, e1, f1, n1, l, Reps.ext e xs vs r⟩
  | .ref i, v, h => by
    simp only [Rep] at h ⊢
    obtain ⟨a, e1, f⟩ := h
    exact ⟨a, e1, e.pre _ _ f⟩
  | .fn _, _, h => by simpa [Rep] using h
theorem Reps.ext {G : Gx} {w w' : Wd} (e : Wk w w') : ∀ (ds : List D) (vs : List V), Reps G w ds vs → Reps G w' ds vs
  | [], _, h => by simpa [Reps] using h
  | d :: ds, vs, h => by
    simp only [Reps] at h ⊢
    obtain ⟨v, r, e1, h1, h2⟩ := h
    exact ⟨v, r, e1, Rep.ext e d v h1, Reps.ext e ds r h2⟩
end

mutual
theorem Rep.ex {G : Gx} {w : Wd} {e : Option ErrX} : ∀ (d : D) (v : V), Rep G w d v → Rep { G with ex := e } w d v
  | .non, _, h => by simpa [Rep] using h
  | .bl _, _, h => by simpa [Rep] using h
  | .int _, _, h => by simpa [Rep] using h
  | .str _, _, h => by simpa [Rep] using h
  | .tup xs, v, h => by
    simp only [Rep] at h ⊢
    obtain ⟨a, vs, e1, f, r⟩ := h
    exact ⟨a, vs, e1, f, Reps.ex xs vs r⟩
  | .lst xs, v, h => by
    simp only [Rep] at h ⊢
    obtain ⟨a, vs, e1, f, r⟩ := h
    exact ⟨a, vs, e1, f, Reps.ex xs vs r⟩
  | .obj c xs, v, h => by
    simp only [Rep] at h ⊢
    obtain ⟨a, dx, vs, e1, f, n, l, r⟩ := h
    exact ⟨a, dx, vs, e1, f, n, l, Reps.ex xs vs r⟩
  | .ref i, v, h => by simpa [Rep] using h
  | .fn _, _, h => by simpa [Rep] using h
theorem Reps.ex {G : Gx} {w : Wd} {e : Option ErrX} : ∀ (ds : List D) (vs : List V), Reps G w ds vs → Reps { G with ex := e } w ds vs
  | [], _, h => by simpa [Reps] using h
  | d :: ds, vs, h => by
    simp only [Reps] at h ⊢
    obtain ⟨v, r, e1, h1, h2⟩ := h
    exact ⟨v, r, e1, Rep.ex d v h1, Reps.ex ds r h2⟩
end
theorem Flds.ex {G : Gx} {w : Wd} {e : Option ErrX} {fs : List (Nat × D)} {vfs : List (Str × V)} (h : Flds G w fs vfs) : Flds { G with ex := e } w fs vfs := L2.Paired.mapP h fun p q z => ⟨z.1, Rep.ex _ _ z.2⟩
theorem Rel.ex {G : Gx} {w : Wd} {e : Option ErrX} (R : Rel G w) : Rel { G with ex := e } w := by
  refine ⟨R.len, R.nd, R.has, fun i o h => ?_, R.pvh, R.pvn⟩
  obtain ⟨a, h1, r⟩ := R.at_ i o h
  refine ⟨a, h1, ?_⟩
  cases o with
  | lst xs => obtain ⟨vs, h2, h3⟩ := r; exact ⟨vs, h2, Reps.ex _ _ h3⟩
  | ins c fs => obtain ⟨dx, vfs, h2, h3⟩ := r; exact ⟨dx, vfs, h2, h3.ex⟩

section
variable {G : Gx} {w w' : Wd}
theorem reps_nil {vs : List V} : Reps G w [] vs ↔ vs = [] := by simp [Reps]
theorem reps_cons {d : D} {ds : List D} {vs : List V} : Reps G w (d :: ds) vs ↔ ∃ v r, vs = v :: r ∧ Rep G w d v ∧ Reps G w ds r := by simp [Reps]
theorem Reps.mk {d : D} {ds : List D} {v : V} {vs : List V} (h : Rep G w d v) (hs : Reps G w ds vs) : Reps G w (d :: ds) (v :: vs) := reps_cons.mpr ⟨v, vs, rfl, h, hs⟩
theorem Reps.nil : Reps G w [] [] := reps_nil.mpr rfl
theorem Reps.length : ∀ {ds : List D} {vs : List V}, Reps G w ds vs → ds.length = vs.length
  | [], vs, h => by rw [reps_nil.mp h]; rfl
  | d :: ds, vs, h => by
    obtain ⟨v, r, rfl, _, h2⟩ := reps_cons.mp h
    simp [Reps.length h2]
theorem Reps.get : ∀ {ds : List D} {vs : List V} {i : Nat} {d : D}, Reps G w ds vs → ds[i]? = some d → ∃ v, vs[i]? = some v ∧ Rep G w d v
  | [], _, _, _, _, e => by simp at e
  | d :: ds, vs, 0, x, h, e => by
    obtain ⟨v, r, rfl, h1, _⟩ := reps_cons.mp h
    simp at e; subst e
    exact ⟨v, rfl, h1⟩
  | d :: ds, vs, i + 1, x, h, e => by
    obtain ⟨v, r, rfl, _, h2⟩ := reps_cons.mp h
    obtain ⟨u, e1, e2⟩ := Reps.get (i := i) (d := x) h2 (by simpa using e)
    exact ⟨u, by simpa using e1, e2⟩
theorem Reps.getV {ds : List D} {vs : List V} {i : Nat} {v : V} (h : Reps G w ds vs) (e : vs[i]? = some v) : ∃ d, ds[i]? = some d ∧ Rep G w d v := by
  have hi : i < ds.length := by
    rw [h.length]
    exact (List.getElem?_eq_some_iff.mp e).1
  obtain ⟨u, e1, e2⟩ := h.get (i := i) (d := ds[i]) (by simp [hi])
  rw [e] at e1; cases e1
  exact ⟨_, by simp [hi], e2⟩
theorem Reps.append : ∀ {ds es : List D} {vs us : List V}, Reps G w ds vs → Reps G w es us → Reps G w (ds ++ es) (vs ++ us)
  | [], es, vs, us, h, h' => by rw [reps_nil.mp h]; exact h'
  | d :: ds, es, vs, us, h, h' => by
    obtain ⟨v, r, rfl, h1, h2⟩ := reps_cons.mp h
    exact Reps.mk h1 (Reps.append h2 h')
theorem Reps.take : ∀ {ds : List D} {vs : List V} (n : Nat), Reps G w ds vs → Reps G w (ds.take n) (vs.take n)
  | _, _, 0, _ => by simp [Reps.nil]
  | [], vs, n + 1, h => by rw [reps_nil.mp h]; exact Reps.nil
  | d :: ds, vs, n + 1, h => by
    obtain ⟨v, r, rfl, h1, h2⟩ := reps_cons.mp h
    simpa using Reps.mk h1 (Reps.take n h2)
theorem Reps.drop : ∀ {ds : List D} {vs : List V} (n : Nat), Reps G w ds vs → Reps G w (ds.drop n) (vs.drop n)
  | _, _, 0, h => by simpa using h
  | [], vs, n + 1, h => by rw [reps_nil.mp h]; exact Reps.nil
  | d :: ds, vs, n + 1, h => by
    obtain ⟨v, r, rfl, h1, h2⟩ := reps_cons.mp h
    simpa using Reps.drop n h2
theorem Reps.set : ∀ {ds : List D} {vs : List V} {d : D} {v : V} (i : Nat), Rep G w d v → Reps G w ds vs → Reps G w (ds.set i d) (vs.set i v)
  | [], vs, _, _, _, _, h => by rw [reps_nil.mp h]; exact Reps.nil
  | e :: ds, vs, d, v, 0, h, h' => by
    obtain ⟨u, r, rfl, _, h2⟩ := reps_cons.mp h'
    exact Reps.mk h h2
  | e :: ds, vs, d, v, i + 1, h, h' => by
    obtain ⟨u, r, rfl, h1, h2⟩ := reps_cons.mp h'
    exact Reps.mk h1 (Reps.set i h h2)
theorem Reps.one {d : D} {v : V} (h : Rep G w d v) : Reps G w [d] [v] := Reps.mk h Reps.nil

theorem Flds.ext (e : Wk w w') {fs : List (Nat × D)} {vfs : List (Str × V)} (h : Flds G w fs vfs) : Flds G w' fs vfs := Paired.mapP h fun p q z => ⟨z.1, Rep.ext e _ _ z.2⟩

theorem Rel.lt (R : Rel G w) {i : Nat} {a : Addr} (h : w.ρ[i]? = some a) : i < w.S.length := by
  have := (List.getElem?_eq_some_iff.mp h).1
  rw [R.len] at this; exact this
theorem Rel.live_has (R : Rel G w) {a : Addr} (h : Live w a) : ∃ o, w.H a = some o := by
  rcases h with ⟨i, o, _, e⟩ | h
  · exact R.has i a e
  · obtain ⟨xs, e⟩ := R.pvh a h
    exact ⟨_, e⟩
theorem Rel.dead (R : Rel G w) {a : Addr} (h : w.H a = none) : ¬ Live w a := fun l => by
  obtain ⟨o, e⟩ := R.live_has l
  rw [h] at e; cases e
/-- what a live thing is -/
theorem Rel.live_kind (R : Rel G w) {a : Addr} (h : Live w a) : (∃ vs, w.H a = some (.lst vs)) ∨ ∃ C dx fs, w.H a = some (.ins C dx fs) := by
  rcases h with ⟨i, o, e1, e2⟩ | h
  case inr => exact .inl (R.pvh a h)
  obtain ⟨b, e3, r⟩ := R.at_ i o e1
  rw [e2] at e3; cases e3
  cases o with
  | lst xs => obtain ⟨vs, e, _⟩ := r; exact .inl ⟨vs, e⟩
  | ins c fs => obtain ⟨dx, vfs, e, _⟩ := r; exact .inr ⟨_, dx, vfs, e⟩

/-- a new thing that no handle names is laid -/
theorem Ext.laid (R : Rel G w) {p : Addr} {o : HO} (hp : w.H p = none) : Ext w ⟨upd w.H p o, w.S, w.ρ, w.pv⟩ :=
  ⟨fun _ _ h => h, fun a u h n => ⟨by show upd w.H p o a = _; rw [upd_ne (ne_of_none h hp)]; exact h, n⟩, fun a h => ⟨h, by
    obtain ⟨xs, e⟩ := R.pvh a h
    show upd w.H p o a = _
    rw [upd_ne (ne_of_none e hp)]⟩, fun a u h => ⟨u, by show upd w.H p o a = _; rw [upd_ne (ne_of_none h hp)]; exact h⟩⟩
theorem ObR.laid (R : Rel G w) {p : Addr} {o : HO} (hp : w.H p = none) {a : Addr} {u : Ob} (h : ObR G w a u) : ObR G ⟨upd w.H p o, w.S, w.ρ, w.pv⟩ a u := by
  have e := Ext.laid (o := o) R hp
  cases u with
  | lst xs =>
    obtain ⟨vs, h1, h2⟩ := h
    exact ⟨vs, by show upd w.H p o a = _; rw [upd_ne (ne_of_none h1 hp)]; exact h1, Reps.ext e _ _ h2⟩
  | ins c fs =>
    obtain ⟨dx, vfs, h1, h2⟩ := h
    exact ⟨dx, vfs, by show upd w.H p o a = _; rw [upd_ne (ne_of_none h1 hp)]; exact h1, h2.ext e⟩
theorem Rel.laid (R : Rel G w) {p : Addr} {o : HO} (hp : w.H p = none) : Rel G ⟨upd w.H p o, w.S, w.ρ, w.pv⟩ where
  len := R.len
  nd := R.nd
  has := fun i a h => by
    obtain ⟨u, e⟩ := R.has i a h
    exact ⟨u, by show upd w.H p o a = _; rw [upd_ne (ne_of_none e hp)]; exact e⟩
  at_ := fun i u h => by
    obtain ⟨a, e, r⟩ := R.at_ i u h
    exact ⟨a, e, ObR.laid R hp r⟩
  pvh := fun a h => by
    obtain ⟨xs, e⟩ := R.pvh a h
    exact ⟨xs, by show upd w.H p o a = _; rw [upd_ne (ne_of_none e hp)]; exact e⟩
  pvn := R.pvn

/-- a new handle -/
theorem getq_app {α : Type} {l : List α} {x : α} {i : Nat} {y : α} (h : (l ++ [x])[i]? = some y) : (l[i]? = some y) ∨ (i = l.length ∧ x = y) := by
  by_cases c : i < l.length
  · rw [List.getElem?_append_left c] at h; exact .inl h
  · rw [List.getElem?_append_right (by omega)] at h
    by_cases z : i = l.length
    · subst z; simp at h; exact .inr ⟨rfl, h⟩
    · rw [List.getElem?_eq_none (by simp; omega)] at h; cases h
theorem getq_pre {α : Type} {l : List α} {x : α} {i : Nat} {y : α} (h : l[i]? = some y) : (l ++ [x])[i]? = some y := by
  rw [List.getElem?_append_left (List.getElem?_eq_some_iff.mp h).1]; exact h
theorem Ext.handle (R : Rel G w) {p : Addr} {o : HO} {u : Option Ob} (hp : w.H p = none) : Ext w ⟨upd w.H p o, w.S ++ [u], w.ρ ++ [p], w.pv⟩ := by
  refine ⟨fun i a h => getq_pre h, fun a v h n => ⟨by show upd w.H p o a = _; rw [upd_ne (ne_of_none h hp)]; exact h, ?_⟩, fun a h => ⟨h, by
    obtain ⟨xs, e⟩ := R.pvh a h
    show upd w.H p o a = _
    rw [upd_ne (ne_of_none e hp)]⟩, fun a u h => ⟨u, by show upd w.H p o a = _; rw [upd_ne (ne_of_none h hp)]; exact h⟩⟩
  rintro (⟨i, x, e1, e2⟩ | hpv)
  · rcases getq_app e2 with e2 | ⟨_, e2⟩
    · have hi := R.lt e2
      rw [List.getElem?_append_left hi] at e1
      exact n (.inl ⟨i, x, e1, e2⟩)
    · rw [← e2, hp] at h; cases h
  · exact n (.inr hpv)
theorem Rel.handle (R : Rel G w) {p : Addr} {o : HO} {u : Ob} (hp : w.H p = none) (hu : ObR G ⟨upd w.H p o, w.S ++ [some u], w.ρ ++ [p], w.pv⟩ p u) : Rel G ⟨upd w.H p o, w.S ++ [some u], w.ρ ++ [p], w.pv⟩ := by
  have nm : ∀ i : Nat, w.ρ[i]? ≠ some p := fun i h => by
    obtain ⟨v, e⟩ := R.has i p h
    rw [hp] at e; cases e
  refine ⟨by simp [R.len], fun i j a h1 h2 => ?_, fun i a h => ?_, fun i v h => ?_, fun a h => ?_, fun a h i z => ?_⟩
  · rcases getq_app h1 with h1 | ⟨i1, h1⟩ <;> rcases getq_app h2 with h2 | ⟨i2, h2⟩
    · exact R.nd i j a h1 h2
    · subst h2; exact absurd h1 (nm _)
    · subst h1; exact absurd h2 (nm _)
    · rw [i1, i2]
  · show ∃ v, upd w.H p o a = some v
    rcases getq_app h with h | ⟨_, h⟩
    · obtain ⟨v, e⟩ := R.has i a h
      exact ⟨v, by rw [upd_ne (ne_of_none e hp)]; exact e⟩
    · subst h; exact ⟨o, upd_same⟩
  · have e := Ext.handle (o := o) (u := some u) R hp
    rcases getq_app h with h | ⟨i1, h⟩
    · obtain ⟨a, e1, r⟩ := R.at_ i v h
      refine ⟨a, getq_pre e1, ?_⟩
      cases v with
      | lst xs =>
        obtain ⟨vs, h1, h2⟩ := r
        exact ⟨vs, by show upd w.H p o a = _; rw [upd_ne (ne_of_none h1 hp)]; exact h1, Reps.ext e _ _ h2⟩
      | ins c fs =>
        obtain ⟨dx, vfs, h1, h2⟩ := r
        exact ⟨dx, vfs, by show upd w.H p o a = _; rw [upd_ne (ne_of_none h1 hp)]; exact h1, h2.ext e⟩
    · cases h
      refine ⟨p, ?_, hu⟩
      show (w.ρ ++ [p])[i]? = some p
      rw [i1, ← R.len]; simp
  · obtain ⟨xs, e⟩ := R.pvh a h
    exact ⟨xs, by show upd w.H p o a = _; rw [upd_ne (ne_of_none e hp)]; exact e⟩
  · obtain ⟨xs, e⟩ := R.pvh a h
    rcases getq_app z with z | ⟨_, z⟩
    · exact R.pvn a h i z
    · rw [← z, hp] at e; cases e

/-- the thing of a handle changes -/
theorem Ext.write (R : Rel G w) {i : Nat} {a : Addr} {o : HO} {u : Option Ob} {u0 : Ob} (hi : w.S[i]? = some (some u0)) (ha : w.ρ[i]? = some a) : Ext w ⟨upd w.H a o, w.S.set i u, w.ρ, w.pv⟩ := by
  refine ⟨fun _ _ h => h, fun b v h n => ?_, fun b h => ⟨h, by
    show upd w.H a o b = _
    rw [upd_ne (fun z => R.pvn b h i (by rw [z]; exact ha))]⟩, fun b u h => by
    show ∃ o', upd w.H a o b = some o'
    by_cases z : b = a
    · rw [z]; exact ⟨o, upd_same⟩
    · exact ⟨u, by rw [upd_ne z]; exact h⟩⟩
  have hne : b ≠ a := fun e => n (.inl ⟨i, u0, hi, by rw [e]; exact ha⟩)
  refine ⟨by show upd w.H a o b = _; rw [upd_ne hne]; exact h, ?_⟩
  rintro (⟨j, x, e1, e2⟩ | hpv)
  case inr => exact n (.inr hpv)
  by_cases hj : i = j
  · subst hj
    have e2' : w.ρ[i]? = some b := e2
    rw [ha] at e2'; cases e2'
    exact hne rfl
  · have e1' : (w.S.set i u)[j]? = some (some x) := e1
    rw [List.getElem?_set_ne hj] at e1'
    exact n (.inl ⟨j, x, e1', e2⟩)
theorem Rel.write (R : Rel G w) {i : Nat} {a : Addr} {o : HO} {u u0 : Ob} (hi : w.S[i]? = some (some u0)) (ha : w.ρ[i]? = some a) (hu : ObR G ⟨upd w.H a o, w.S.set i (some u), w.ρ, w.pv⟩ a u) :
    Rel G ⟨upd w.H a o, w.S.set i (some u), w.ρ, w.pv⟩ := by
  refine ⟨by simp [R.len], R.nd, fun j b h => ?_, fun j v h => ?_, fun b h => ?_, R.pvn⟩
  · show ∃ v, upd w.H a o b = some v
    by_cases hb : b = a
    · subst hb; exact ⟨o, upd_same⟩
    · obtain ⟨v, e⟩ := R.has j b h
      exact ⟨v, by rw [upd_ne hb]; exact e⟩
  · have e := Ext.write (o := o) (u := some u) R hi ha
    by_cases hj : i = j
    · subst hj
      have hlt := (List.getElem?_eq_some_iff.mp hi).1
      have h' : (w.S.set i (some u))[i]? = some (some v) := h
      rw [List.getElem?_set_self hlt] at h'
      cases h'
      exact ⟨a, ha, hu⟩
    · have h' : (w.S.set i (some u))[j]? = some (some v) := h
      rw [List.getElem?_set_ne hj] at h'
      obtain ⟨b, e1, r⟩ := R.at_ j v h'
      have hb : b ≠ a := fun z => hj (R.nd i j a ha (by rw [← z]; exact e1))
      refine ⟨b, e1, ?_⟩
      cases v with
      | lst xs =>
        obtain ⟨vs, h1, h2⟩ := r
        exact ⟨vs, by show upd w.H a o b = _; rw [upd_ne hb]; exact h1, Reps.ext e _ _ h2⟩
      | ins c fs =>
        obtain ⟨dx, vfs, h1, h2⟩ := r
        exact ⟨dx, vfs, by show upd w.H a o b = _; rw [upd_ne hb]; exact h1, h2.ext e⟩
  · obtain ⟨xs, e⟩ := R.pvh b h
    exact ⟨xs, by show upd w.H a o b = _; rw [upd_ne (fun z => R.pvn b h i (by rw [z]; exact ha))]; exact e⟩
/-- a handle is given up: its thing stands still from now on -/
theorem Live.give {i : Nat} {b : Addr} (h : Live ⟨w.H, w.S.set i none, w.ρ, w.pv⟩ b) : Live w b := by
  rcases h with ⟨j, x, e1, e2⟩ | h
  case inr => exact .inr h
  by_cases hj : i = j
  · subst hj
    have e1' : (w.S.set i none)[i]? = some (some x) := e1
    rw [List.getElem?_set] at e1'
    split at e1'
    · split at e1' <;> cases e1'
    · rename_i z; exact absurd rfl z
  · have e1' : (w.S.set i none)[j]? = some (some x) := e1
    rw [List.getElem?_set_ne hj] at e1'
    exact .inl ⟨j, x, e1', e2⟩
theorem Ext.give (i : Nat) : Ext w ⟨w.H, w.S.set i none, w.ρ, w.pv⟩ := ⟨fun _ _ h => h, fun _ _ h n => ⟨h, fun l => n l.give⟩, fun _ h => ⟨h, rfl⟩, fun _ o h => ⟨o, h⟩⟩
theorem Rel.give (R : Rel G w) (i : Nat) : Rel G ⟨w.H, w.S.set i none, w.ρ, w.pv⟩ := by
  refine ⟨by simp [R.len], R.nd, R.has, fun j v h => ?_, R.pvh, R.pvn⟩
  have e := Ext.give (w := w) i
  by_cases hj : i = j
  · subst hj
    have e1' : (w.S.set i none)[i]? = some (some v) := h
    rw [List.getElem?_set] at e1'
    split at e1'
    · split at e1' <;> cases e1'
    · rename_i z; exact absurd rfl z
  · have h' : (w.S.set i none)[j]? = some (some v) := h
    rw [List.getElem?_set_ne hj] at h'
    obtain ⟨b, e1, r⟩ := R.at_ j v h'
    refine ⟨b, e1, ?_⟩
    cases v with
    | lst xs => obtain ⟨vs, h1, h2⟩ := r; exact ⟨vs, h1, Reps.ext e _ _ h2⟩
    | ins c fs => obtain ⟨dx, vfs, h1, h2⟩ := r; exact ⟨dx, vfs, h1, h2.ext e⟩
theorem Rel.given (R : Rel G w) {i : Nat} {a : Addr} (ha : w.ρ[i]? = some a) : ¬ Live ⟨w.H, w.S.set i none, w.ρ, w.pv⟩ a := by
  rintro (⟨j, x, e1, e2⟩ | hpv)
  case inr => exact R.pvn a hpv i ha
  have hij := R.nd i j a ha e2
  subst hij
  have e1' : (w.S.set i none)[i]? = some (some x) := e1
  rw [List.getElem?_set] at e1'
  split at e1'
  · split at e1' <;> cases e1'
  · rename_i z; exact absurd rfl z
end

section
variable {G : Gx} {w w' : Wd}
def addP (w : Wd) (p : Addr) (vs : List V) : Wd := ⟨upd w.H p (.lst vs), w.S, w.ρ, p :: w.pv⟩
def dropP (w : Wd) (l : List Addr) : Wd := ⟨w.H, w.S, w.ρ, l⟩
theorem Live.mono {l : List Addr} (hl : ∀ a ∈ l, a ∈ w.pv) {a : Addr} (h : Live (dropP w l) a) : Live w a := by
  rcases h with h | h
  · exact .inl h
  · exact .inr (hl a h)
theorem Ext.addP (R : Rel G w) {p : Addr} {vs : List V} (hp : w.H p = none) : Ext w (addP w p vs) := by
  refine ⟨fun _ _ h => h, fun a o h n => ⟨by show upd w.H p (.lst vs) a = _; rw [upd_ne (ne_of_none h hp)]; exact h, ?_⟩, fun a h => ⟨List.mem_cons_of_mem _ h, by
    obtain ⟨xs, e⟩ := R.pvh a h
    show upd w.H p (.lst vs) a = _
    rw [upd_ne (ne_of_none e hp)]⟩, fun a u h => ⟨u, by show upd w.H p (.lst vs) a = _; rw [upd_ne (ne_of_none h hp)]; exact h⟩⟩
  rintro (l | l)
  · exact n (.inl l)
  · rcases List.mem_cons.mp l with z | l
    · rw [z, hp] at h; cases h
    · exact n (.inr l)
theorem Rel.addP (R : Rel G w) {p : Addr} {vs : List V} (hp : w.H p = none) : Rel G (addP w p vs) := by
  have e := Ext.addP (vs := vs) R hp
  refine ⟨R.len, R.nd, fun i a h => ?_, fun i u h => ?_, fun a h => ?_, fun a h i z => ?_⟩
  · obtain ⟨u, q⟩ := R.has i a h
    exact ⟨u, by show upd w.H p (.lst vs) a = _; rw [upd_ne (ne_of_none q hp)]; exact q⟩
  · obtain ⟨a, e1, r⟩ := R.at_ i u h
    refine ⟨a, e1, ?_⟩
    cases u with
    | lst xs =>
      obtain ⟨us, h1, h2⟩ := r
      exact ⟨us, by show upd w.H p (.lst vs) a = _; rw [upd_ne (ne_of_none h1 hp)]; exact h1, Reps.ext e _ _ h2⟩
    | ins c fs =>
      obtain ⟨dx, vfs, h1, h2⟩ := r
      exact ⟨dx, vfs, by show upd w.H p (.lst vs) a = _; rw [upd_ne (ne_of_none h1 hp)]; exact h1, h2.ext e⟩
  · show ∃ xs, upd w.H p (.lst vs) a = some (.lst xs)
    rcases List.mem_cons.mp h with z | h
    · subst z; exact ⟨vs, upd_same⟩
    · obtain ⟨xs, q⟩ := R.pvh a h
      exact ⟨xs, by rw [upd_ne (ne_of_none q hp)]; exact q⟩
  · rcases List.mem_cons.mp h with y | h
    · subst y
      obtain ⟨u, q⟩ := R.has i _ z
      rw [hp] at q; cases q
    · exact R.pvn a h i z
/-- .. grows -/
theorem grow_ne (R : Rel G w) {p : Addr} (hp : p ∈ w.pv) {i : Nat} {a : Addr} (h : w.ρ[i]? = some a) : a ≠ p := fun z => R.pvn p hp i (by rw [← z]; exact h)
def growP (w : Wd) (p : Addr) (vs : List V) : Wd := ⟨upd w.H p (.lst vs), w.S, w.ρ, w.pv⟩
theorem Wk.grow {p : Addr} {vs : List V} (hp : p ∈ w.pv) : Wk w (growP w p vs) :=
  ⟨fun _ _ h => h, fun a o h n => ⟨by
    show upd w.H p (.lst vs) a = _
    rw [upd_ne (fun z => n (.inr (by rw [z]; exact hp)))]; exact h, n⟩⟩
theorem Rep.grow (R : Rel G w) {p : Addr} {vs : List V} (hp : p ∈ w.pv) (d : D) (v : V) (h : Rep G w d v) : Rep G (growP w p vs) d v := Rep.ext (Wk.grow hp) d v h
theorem Reps.grow (R : Rel G w) {p : Addr} {vs : List V} (hp : p ∈ w.pv) (ds : List D) (us : List V) (h : Reps G w ds us) : Reps G (growP w p vs) ds us := Reps.ext (Wk.grow hp) ds us h
theorem Rel.grow (R : Rel G w) {p : Addr} {vs : List V} (hp : p ∈ w.pv) : Rel G (growP w p vs) := by
  have ne : ∀ {i : Nat} {a : Addr}, w.ρ[i]? = some a → a ≠ p := fun h => grow_ne R hp h
  refine ⟨R.len, R.nd, fun i a h => ?_, fun i u h => ?_, fun a h => ?_, R.pvn⟩
  · obtain ⟨u, q⟩ := R.has i a h
    exact ⟨u, by show upd w.H p (.lst vs) a = _; rw [upd_ne (ne h)]; exact q⟩
  · obtain ⟨a, e1, r⟩ := R.at_ i u h
    refine ⟨a, e1, ?_⟩
    cases u with
    | lst xs =>
      obtain ⟨us, h1, h2⟩ := r
      exact ⟨us, by show upd w.H p (.lst vs) a = _; rw [upd_ne (ne e1)]; exact h1, Reps.grow R hp _ _ h2⟩
    | ins c fs =>
      obtain ⟨dx, vfs, h1, h2⟩ := r
      exact ⟨dx, vfs, by show upd w.H p (.lst vs) a = _; rw [upd_ne (ne e1)]; exact h1, Paired.mapP h2 fun x y z => ⟨z.1, Rep.grow R hp _ _ z.2⟩⟩
  · show ∃ xs, upd w.H p (.lst vs) a = some (.lst xs)
    by_cases z : a = p
    · rw [z]; exact ⟨vs, upd_same⟩
    · obtain ⟨xs, q⟩ := R.pvh a h
      exact ⟨xs, by rw [upd_ne z]; exact q⟩
/-- seen from ahead of the comprehension, what it fills does not matter -/
theorem Ext.grow {w0 : Wd} (e : Ext w0 w) {p : Addr} {vs : List V} (hp : p ∈ w.pv) (h0 : w0.H p = none) (R0 : Rel G w0) : Ext w0 (growP w p vs) := by
  refine ⟨e.pre, fun a o h n => ?_, fun a h => ?_, fun a o h => ?_⟩
  · obtain ⟨h1, n1⟩ := e.keep a o h n
    exact ⟨by show upd w.H p (.lst vs) a = _; rw [upd_ne (ne_of_none h h0)]; exact h1, n1⟩
  · obtain ⟨h1, e1⟩ := e.pvk a h
    obtain ⟨xs, q⟩ := R0.pvh a h
    exact ⟨h1, by show upd w.H p (.lst vs) a = _; rw [upd_ne (ne_of_none q h0)]; exact e1⟩
  · obtain ⟨o', q⟩ := e.som a o h
    exact ⟨o', by show upd w.H p (.lst vs) a = _; rw [upd_ne (ne_of_none h h0)]; exact q⟩
/-- it stands still from now on -/
theorem Ext.dropP {w0 : Wd} (e : Ext w0 w) {l : List Addr} (hl : ∀ a ∈ l, a ∈ w.pv) (h0 : ∀ a ∈ w0.pv, a ∈ l) : Ext w0 (Dn.dropP w l) :=
  ⟨e.pre, fun a o h n => let ⟨h1, n1⟩ := e.keep a o h n; ⟨h1, fun z => n1 (Live.mono hl z)⟩, fun a h => ⟨h0 a h, (e.pvk a h).2⟩, e.som⟩
theorem Wk.dropP {l : List Addr} (hl : ∀ a ∈ l, a ∈ w.pv) : Wk w (Dn.dropP w l) := ⟨fun _ _ h => h, fun _ _ h n => ⟨h, fun z => n (Live.mono hl z)⟩⟩
theorem Rep.dropP {l : List Addr} (hl : ∀ a ∈ l, a ∈ w.pv) (d : D) (v : V) (h : Rep G w d v) : Rep G (Dn.dropP w l) d v := Rep.ext (Wk.dropP hl) d v h
theorem Reps.dropP {l : List Addr} (hl : ∀ a ∈ l, a ∈ w.pv) (ds : List D) (us : List V) (h : Reps G w ds us) : Reps G (Dn.dropP w l) ds us := Reps.ext (Wk.dropP hl) ds us h
/-- what a comprehension filled gets a handle -/
theorem getq_app2 {α : Type} {l : List α} {x : α} {i : Nat} {y : α} (h : (l ++ [x])[i]? = some y) (hi : i < l.length) : l[i]? = some y := by
  rw [List.getElem?_append_left hi] at h; exact h
def handP (w : Wd) (p : Addr) (xs : List D) (l : List Addr) : Wd := ⟨w.H, w.S ++ [some (.lst xs)], w.ρ ++ [p], l⟩
theorem Live.hand (R : Rel G w) {p : Addr} {xs : List D} {l : List Addr} (hl : w.pv = p :: l) {a : Addr} (h : Live (handP w p xs l) a) : Live w a := by
  rcases h with ⟨i, o, e1, e2⟩ | h
  · rcases getq_app e2 with e2 | ⟨i1, e2⟩
    · exact .inl ⟨i, o, getq_app2 e1 (R.lt e2), e2⟩
    · exact .inr (by rw [hl, ← e2]; exact List.mem_cons_self)
  · exact .inr (by rw [hl]; exact List.mem_cons_of_mem _ h)
theorem Wk.hand (R : Rel G w) {p : Addr} {xs : List D} {l : List Addr} (hl : w.pv = p :: l) : Wk w (handP w p xs l) := ⟨fun _ _ h => getq_pre h, fun _ _ h n => ⟨h, fun z => n (Live.hand R hl z)⟩⟩
theorem Rel.hand (R : Rel G w) {p : Addr} {xs : List D} {vs : List V} {l : List Addr} (hl : w.pv = p :: l) (hn : p ∉ l) (hp : w.H p = some (.lst vs)) (r : Reps G w xs vs) : Rel G (handP w p xs l) := by
  have e := Wk.hand (xs := xs) R hl
  have inp : p ∈ w.pv := by rw [hl]; exact List.mem_cons_self
  have no : ∀ i : Nat, w.ρ[i]? ≠ some p := R.pvn p inp
  refine ⟨by simp [handP, R.len], fun i j a h1 h2 => ?_, fun i a h => ?_, fun i u h => ?_, fun a h => R.pvh a (by rw [hl]; exact List.mem_cons_of_mem _ h), fun a h i z => ?_⟩
  · rcases getq_app h1 with h1 | ⟨i1, h1⟩ <;> rcases getq_app h2 with h2 | ⟨i2, h2⟩
    · exact R.nd i j a h1 h2
    · subst h2; exact absurd h1 (no _)
    · subst h1; exact absurd h2 (no _)
    · rw [i1, i2]
  · rcases getq_app h with h | ⟨_, h⟩
    · exact R.has i a h
    · subst h; exact ⟨_, hp⟩
  · rcases getq_app h with h | ⟨i1, h⟩
    · obtain ⟨a, e1, r⟩ := R.at_ i u h
      refine ⟨a, getq_pre e1, ?_⟩
      cases u with
      | lst xs => obtain ⟨us, h1, h2⟩ := r; exact ⟨us, h1, Reps.ext e _ _ h2⟩
      | ins c fs => obtain ⟨dx, vfs, h1, h2⟩ := r; exact ⟨dx, vfs, h1, h2.ext e⟩
    · cases h
      refine ⟨p, ?_, vs, hp, Reps.ext e _ _ r⟩
      show (w.ρ ++ [p])[i]? = some p
      rw [i1, ← R.len]; simp
  · rcases getq_app z with z | ⟨_, z⟩
    · exact R.pvn a (by rw [hl]; exact List.mem_cons_of_mem _ h) i z
    · rw [z] at hn; exact hn h
theorem Ext.hand {w0 : Wd} (R0 : Rel G w0) (R : Rel G w) (e : Ext w0 w) {p : Addr} {xs : List D} (hl : w.pv = p :: w0.pv) : Ext w0 (handP w p xs w0.pv) :=
  ⟨fun i a h => getq_pre (e.pre i a h), fun a o h n => let ⟨h1, n1⟩ := e.keep a o h n; ⟨h1, fun z => n1 (Live.hand R hl z)⟩, fun a h => ⟨h, (e.pvk a h).2⟩, e.som⟩
theorem Rel.dropP (R : Rel G w) {l : List Addr} (hl : ∀ a ∈ l, a ∈ w.pv) : Rel G (Dn.dropP w l) := by
  refine ⟨R.len, R.nd, R.has, fun i u h => ?_, fun a h => R.pvh a (hl a h), fun a h => R.pvn a (hl a h)⟩
  obtain ⟨a, e1, r⟩ := R.at_ i u h
  refine ⟨a, e1, ?_⟩
  cases u with
  | lst xs => obtain ⟨us, h1, h2⟩ := r; exact ⟨us, h1, Reps.dropP hl _ _ h2⟩
  | ins c fs => obtain ⟨dx, vfs, h1, h2⟩ := r; exact ⟨dx, vfs, h1, Paired.mapP h2 fun x y z => ⟨z.1, Rep.dropP hl _ _ z.2⟩⟩
end

mutual
def below (n : Nat) : D → Bool
  | .ref i => decide (i < n)
  | .tup xs => belows n xs
  | .lst xs => belows n xs
  | .obj _ xs => belows n xs
  | _ => true
def belows (n : Nat) : List D → Bool
  | [] => true
  | d :: ds => below n d && belows n ds
end
def Ob.below (n : Nat) : Ob → Bool
  | .lst xs => belows n xs
  | .ins _ fs => fs.all fun p => Dn.below n p.2
def sBelow (n : Nat) (S : Store) : Bool := S.all fun o => match o with
  | some u => u.below n
  | none => true
def cut (n : Nat) (w : Wd) : Wd := ⟨w.H, w.S.take n, w.ρ.take n, w.pv⟩
theorem Live.cut {n : Nat} {w : Wd} {a : Addr} (h : Live (cut n w) a) : Live w a := by
  rcases h with ⟨i, o, e1, e2⟩ | h
  case inr => exact .inr h
  have e1' : (w.S.take n)[i]? = some (some o) := e1
  have e2' : (w.ρ.take n)[i]? = some a := e2
  rw [List.getElem?_take] at e1' e2'
  by_cases hi : i < n
  · rw [if_pos hi] at e1' e2'; exact .inl ⟨i, o, e1', e2'⟩
  · rw [if_neg hi] at e1'; cases e1'
theorem FzL.cut {K : PySem.W.Frag} {n : Nat} {w : Wd} {a : Addr} {vs : List V} (h : FzL K w a vs) : FzL K (cut n w) a vs := by
  rcases h with ⟨h, m⟩ | h
  · exact .inl ⟨h, fun l => m l.cut⟩
  · exact .inr h
theorem FzT.cut {K : PySem.W.Frag} {n : Nat} {w : Wd} {a : Addr} {vs : List V} (h : FzT K w a vs) : FzT K (cut n w) a vs := by
  rcases h with ⟨h, m⟩ | h
  · exact .inl ⟨h, fun l => m l.cut⟩
  · exact .inr h
mutual
theorem Rep.cut {G : Gx} {n : Nat} {w : Wd} : ∀ (d : D) (v : V), below n d = true → Rep G w d v → Rep G (cut n w) d v
  | .non, _, _, h => by simpa [Rep] using h
  | .bl _, _, _, h => by simpa [Rep] using h
  | .int _, _, _, h => by simpa [Rep] using h
  | .str _, _, _, h => by simpa [Rep] using h
  | .tup xs, v, b, h => by
    simp only [Rep] at h ⊢
    obtain ⟨a, vs, e1, f, r⟩ := h
    exact ⟨a, vs, e1, f.cut, Reps.cut xs vs (by simpa [below] using b) r⟩
  | .lst xs, v, b, h => by
    simp only [Rep] at h ⊢
    obtain ⟨a, vs, e1, f, r⟩ := h
    exact ⟨a, vs, e1, f.cut, Reps.cut xs vs (by simpa [below] using b) r⟩
  | .obj c xs, v, b, h => by
    simp only [Rep] at h ⊢
    obtain ⟨a, dx, vs, e1, f, m, l, r⟩ := h
    exact ⟨a, dx, vs, e1, f, fun z => m z.cut, l, Reps.cut xs vs (by simpa [below] using b) r⟩
  | .ref i, v, b, h => by
    simp only [Rep] at h ⊢
    obtain ⟨a, e1, f⟩ := h
    refine ⟨a, e1, ?_⟩
    show (w.ρ.take n)[i]? = some a
    rw [List.getElem?_take, if_pos (by simpa [below] using b)]; exact f
  | .fn _, _, _, h => by simpa [Rep] using h
theorem Reps.cut {G : Gx} {n : Nat} {w : Wd} : ∀ (ds : List D) (vs : List V), belows n ds = true → Reps G w ds vs → Reps G (cut n w) ds vs
  | [], _, _, h => by simpa [Reps] using h
  | d :: ds, vs, b, h => by
    have b' : below n d = true ∧ belows n ds = true := by simpa [belows] using b
    obtain ⟨v, r, e1, h1, h2⟩ := reps_cons.mp h
    exact reps_cons.mpr ⟨v, r, e1, Rep.cut d v b'.1 h1, Reps.cut ds r b'.2 h2⟩
end
theorem paired_mem {α β : Type} {F : α → β → Prop} {l₁ : List α} {l₂ : List β} (h : Paired F l₁ l₂) : Paired (fun a b => a ∈ l₁ ∧ F a b) l₁ l₂ := by
  induction h with
  | nil => exact .nil
  | cons r _ ih => exact .cons ⟨List.mem_cons_self, r⟩ (Paired.mapP ih fun a b z => ⟨List.mem_cons_of_mem _ z.1, z.2⟩)
theorem Rel.cut {G : Gx} {w : Wd} (R : Rel G w) (n : Nat) (hb : sBelow n (w.S.take n) = true) : Rel G (cut n w) := by
  have rho : ∀ (i : Nat) (a : Addr), (Dn.cut n w).ρ[i]? = some a → w.ρ[i]? = some a := fun i a h => by
    have h' : (w.ρ.take n)[i]? = some a := h
    rw [List.getElem?_take] at h'
    split at h'
    · exact h'
    · cases h'
  refine ⟨by simp [Dn.cut, R.len], fun i j a h1 h2 => R.nd i j a (rho i a h1) (rho j a h2), fun i a h => R.has i a (rho i a h), fun i o h => ?_, R.pvh, fun a h i z => R.pvn a h i (rho i a z)⟩
  have h' : (w.S.take n)[i]? = some (some o) := h
  have hm := List.mem_of_getElem? h'
  have hbo : o.below n = true := by
    have := List.all_eq_true.mp hb _ hm
    simpa using this
  rw [List.getElem?_take] at h'
  by_cases hi : i < n
  · rw [if_pos hi] at h'
    obtain ⟨a, e1, r⟩ := R.at_ i o h'
    refine ⟨a, ?_, ?_⟩
    · show (w.ρ.take n)[i]? = some a
      rw [List.getElem?_take, if_pos hi]; exact e1
    · cases o with
      | lst xs => obtain ⟨vs, h1, h2⟩ := r; exact ⟨vs, h1, Reps.cut xs vs (by simpa [Ob.below] using hbo) h2⟩
      | ins c fs =>
        obtain ⟨dx, vfs, h1, h2⟩ := r
        refine ⟨dx, vfs, h1, Paired.mapP (paired_mem h2) fun p q z => ⟨z.2.1, Rep.cut _ _ ?_ z.2.2⟩⟩
        have hbo' : (fs.all fun p => Dn.below n p.2) = true := hbo
        exact List.all_eq_true.mp hbo' p z.1
  · rw [if_neg hi] at h'; cases h'
/-- back to the handles that were there ahead -/
theorem Ext.cut {G : Gx} {w w' : Wd} (R : Rel G w) (e : Ext w w') : Ext w (cut w.S.length w') := by
  refine ⟨fun i a h => ?_, fun a o h n => ?_, e.pvk, e.som⟩
  · show (w'.ρ.take _)[i]? = some a
    rw [List.getElem?_take, if_pos (R.lt h)]; exact e.pre i a h
  · obtain ⟨h1, n1⟩ := e.keep a o h n
    exact ⟨h1, fun l => n1 l.cut⟩
end Dn

set_option maxHeartbeats 4000000
namespace Dn
open PySem

/-- how an expression ends: a value and the store behind it; an error of the program's own (class, fields); or not known -/
inductive Out (α : Type) where
  | ok (a : α) (S : Store) | exn (c : Nat) (xs : List D) (S : Store) | stuck
def Out.bind {α β : Type} (o : Out α) (f : α → Store → Out β) : Out β := match o with
  | .ok a S => f a S
  | .exn c xs S => .exn c xs S
  | .stuck => .stuck
@[simp] theorem bind_ok {α β : Type} (a : α) (S : Store) (f : α → Store → Out β) : (Out.ok a S).bind f = f a S := rfl
@[simp] theorem bind_exn {α β : Type} (c : Nat) (xs : List D) (S : Store) (f : α → Store → Out β) : (Out.exn c xs S : Out α).bind f = .exn c xs S := rfl
@[simp] theorem bind_stuck {α β : Type} (f : α → Store → Out β) : (Out.stuck : Out α).bind f = .stuck := rfl
/-- how a statement ends -/
inductive SOut where
  | nx (Γ : Vars) (S : Store) | rt (d : D) (S : Store) | exn (c : Nat) (xs : List D) (Γ : Vars) (S : Store) | stuck

inductive Tg where
  | nm (i : Nat) | tup (ts : List Tg) | att (i f c : Nat)
inductive BOp where
  | add | sub | mul | fdiv | mod | pow
  deriving DecidableEq
inductive COp where
  | eq | ne | lt | le | gt | ge | isin | notin
  deriving DecidableEq
inductive Ty where
  | int | bool | str | list | tuple | cls (c : Nat)
  deriving DecidableEq
inductive F1 where
  | len | abs | int | tuple | list | sum | min | max | all | any | repr | str
  deriving DecidableEq

inductive Bm where
  | append | extend | insert | pop
  deriving DecidableEq

inductive E where
  | var (i : Nat) | cst (d : D)
  | bin (op : BOp) (a b : E) | neg (a : E)
  | cmp (op : COp) (a b : E) | cmp2 (op op2 : COp) (a b c : E) | isN (neg : Bool) (a : E)
  | bool (isAnd : Bool) (es : List E) | not (a : E) | ite (c a b : E)
  | tup (es : List E) | disp (es : List E) | comp (elt : E) (t : Tg) (it : E) (ifs : List E)
  | new (l : E)
  | idx (a i : E) | slice (a : E) (lo hi : List E)
  | attr (a : E) (f : Nat) | ef (f : Nat) | eis (k : Nat) | eib (b : Nat) | xat (c : Nat) (ks : List Nat) (es : List E) (f : Nat)
  | b1 (f : F1) (a : E) | mx (isMax : Bool) (a b : E)
  | bm (m : Bm) (o : E) (es : List E)
  | isi (a : E) (ts : List Ty) | fnv (f : Nat)
  | call (f : Nat) (es : List E) | callv (i : Nat) (es : List E)
  | mk (c : Nat) (es : List E) | meth (o : E) (m : Nat) (es : List E)
  | rng (es : List E) | enum (a : E) | zip (es : List E) | lrng (a b : E)
  | dget (i : Nat) (k : E) | din (neg : Bool) (i : Nat) (k : E) | dix (a k : E)
  | glc (i : Nat) | ceq (neg : Bool) (m : Nat) (a b : E) | m1 (cnt : Bool) (o a : E) | sorted (a : E)
  deriving Inhabited

inductive T where
  | asg (t : Tg) (e : E) | par (is : List Nat) (es : List E)
  | setI (o i e : E) | setA (o : E) (f c : Nat) (e : E)
  | aug (i : Nat) (op : BOp) (e : E)
  | ex (e : E)
  | ite (c : E) (a b : List T)
  | loop (t : Tg) (it : E) (b : List T) | whl (c : E) (b : List T)
  | ret (e : E) | retN
  | raise (c : Nat) (es : List E)
  | tryx (b : List T) (hs : List (Nat × Option Nat × List T))
  | pass | frz (i : Nat)
  deriving Inhabited

/-- the program's tables: fields of classes, of errors; the def of a class's method by its name's number; is an instance frozen behind its making; which errors a clause's class catches -/
structure Tab where
  cf : Nat → List Nat
  xf : Nat → List Nat
  mt : Nat → Nat → Option Nat
  sub : Nat → Nat → Bool
  ic : Nat → Bool
  /-- what the module's constants are -/
  gv : Nat → D
  /-- the module's dicts of text keys -/
  gd : Nat → List (Str × D)
  /-- classes that clauses name; that are raised -/
  cc : Nat → Bool
  xr : Nat → Bool
  /-- which built-in classes an error class comes from -/
  xb : Nat → Nat → Bool := fun _ _ => false
  /-- how error classes are called by keywords -/
  xk : Nat → List Nat → Bool := fun _ _ => false
  /-- error classes that isinstance asks for; is it asked at all; error classes without an __init__ of their own -/
  xi : Nat → Bool := fun _ => false
  xiu : Bool := false
  x0 : Nat → Bool := fun _ => false

/-- what the defs and the makers of classes do -/
structure Cal where
  err : Option (Nat × List D) := none
  has : Nat → Bool := fun _ => false
  call : Nat → List D → Store → Out D
  make : Nat → List D → Store → Out D
  /-- what == calls -/
  eqc : Nat → List D → Store → Out D := fun _ _ _ => .stuck

def big : Int := 18446744073709551616
def lineD : Nat := 16777216
def mulOk (i j : Int) : Bool := (decide (-big < i) && decide (i < big)) || (decide (-big < j) && decide (j < big))
def divOk (j : Int) : Bool := decide (0 < j) && decide (j < big)

def lstOf (d : D) (S : Store) : Option (List D) := match d with
  | .lst xs => some xs
  | .ref i => match S[i]? with
    | some (some (.lst xs)) => some xs
    | _ => none
  | _ => none
/-- the items of a list or tuple -/
def seqOf (d : D) (S : Store) : Option (List D) := match d with
  | .tup xs => some xs
  | d => lstOf d S

def opBin (op : BOp) (x y : D) (S : Store) : Out D := match op, x, y with
  | .add, .int i, .int j => .ok (.int (i + j)) S
  | .add, .str a, .str b => if a.length + b.length ≤ lineD then .ok (.str (a ++ b)) S else .stuck
  | .add, .tup a, .tup b => if a.length + b.length ≤ lineD then .ok (.tup (a ++ b)) S else .stuck
  | .add, x, y => match lstOf x S, lstOf y S with
    | some a, some b => if a.length + b.length ≤ lineD then .ok (.lst (a ++ b)) S else .stuck
    | _, _ => .stuck
  | .sub, .int i, .int j => .ok (.int (i - j)) S
  | .mul, .int i, .int j => if mulOk i j then .ok (.int (i * j)) S else .stuck
  | .mul, .lst a, .int n => if 0 ≤ n ∧ n ≤ 1000 ∧ a.length ≤ 1000 then .ok (.lst (List.replicate n.toNat a).flatten) S else .stuck
  | .mul, .tup a, .int n => if 2 ≤ n ∧ n ≤ 1000 ∧ a ≠ [] ∧ a.length ≤ 1000 then .ok (.tup (List.replicate n.toNat a).flatten) S else .stuck
  | .fdiv, .int i, .int j => if divOk j then .ok (.int (i / j)) S else .stuck
  | .mod, .int i, .int j => if 0 < j then .ok (.int (i % j)) S else .stuck
  | .pow, .int i, .int j => if 0 ≤ j ∧ j ≤ 1000 ∧ i.natAbs < 1000 then .ok (.int (i ^ j.toNat)) S else .stuck
  | _, _, _ => .stuck
def opNeg (x : D) (S : Store) : Out D := match x with
  | .int i => .ok (.int (-i)) S
  | _ => .stuck

mutual
/-- == of data (lists by what they hold now: handles are not looked through) -/
def eqv : D → D → Bool
  | .non, .non => true
  | .bl a, .bl b => a == b
  | .bl a, .int j => (if a then 1 else 0) == j
  | .int i, .bl b => i == (if b then 1 else 0)
  | .int i, .int j => i == j
  | .str x, .str y => x == y
  | .lst xs, .lst ys => eqvs xs ys
  | .tup xs, .tup ys => eqvs xs ys
  | _, _ => false
def eqvs : List D → List D → Bool
  | [], [] => true
  | x :: xs, y :: ys => eqv x y && eqvs xs ys
  | _, _ => false
end
mutual
/-- data that == looks at: how deep; texts are of the usual signs -/
def flat : Nat → D → Bool
  | _, .non => true
  | _, .bl _ => true
  | _, .int _ => true
  | _, .str x => x.cps.all (· < 0x110000)
  | 0, _ => false
  | n + 1, .lst xs => flats n xs
  | n + 1, .tup xs => flats n xs
  | _, _ => false
def flats : Nat → List D → Bool
  | _, [] => true
  | n, x :: xs => flat n x && flats n xs
end
/-- a handle of a list seen as its list, at the top -/
def seen (d : D) (S : Store) : D := match d with
  | .ref i => match S[i]? with
    | some (some (.lst xs)) => .lst xs
    | _ => .ref i
  | d => d
def opEq (x y : D) (S : Store) : Out Bool := if flat 60 (seen x S) && flat 60 (seen y S) then .ok (eqv (seen x S) (seen y S)) S else .stuck

def opCmp (op : COp) (x y : D) (S : Store) : Out Bool := match op with
  | .eq => opEq x y S
  | .ne => (opEq x y S).bind fun b S => .ok (!b) S
  | .lt => match x, y with
    | .int i, .int j => .ok (decide (i < j)) S
    | _, _ => .stuck
  | .le => match x, y with
    | .int i, .int j => .ok (decide (i ≤ j)) S
    | _, _ => .stuck
  | .gt => match x, y with
    | .int i, .int j => .ok (decide (j < i)) S
    | _, _ => .stuck
  | .ge => match x, y with
    | .int i, .int j => .ok (decide (j ≤ i)) S
    | _, _ => .stuck
  | .isin => match x, y with
    | .str a, .str z => match a.cps.toList with
      | [c] => .ok (decide (c ∈ z.cps.toList)) S
      | _ => .stuck
    | x, y => match seqOf y S with
      | some ys => if flat 60 x && flats 60 ys then .ok (ys.any fun z => eqv z x) S else .stuck
      | none => .stuck
  | .notin => match x, y with
    | .str a, .str z => match a.cps.toList with
      | [c] => .ok (!decide (c ∈ z.cps.toList)) S
      | _ => .stuck
    | x, y => match seqOf y S with
      | some ys => if flat 60 x && flats 60 ys then .ok (!ys.any fun z => eqv z x) S else .stuck
      | none => .stuck

def truth (d : D) (S : Store) : Out Bool := match d with
  | .non => .ok false S
  | .bl b => .ok b S
  | .int i => .ok (i != 0) S
  | .str x => if x.length ≤ lineD then .ok ((x.length : Int) != 0) S else .stuck
  | .tup xs => .ok (!xs.isEmpty) S
  | d => match lstOf d S with
    | some xs => .ok (!xs.isEmpty) S
    | none => .stuck

def ixD (n : Nat) (i : Int) : Option Nat := if 0 ≤ i then (if i < n then some i.toNat else none) else if -(n : Int) ≤ i then some (i + n).toNat else none
def opIdx (x y : D) (S : Store) : Out D := match x, y with
  | .str z, .int i => if z.length ≤ lineD then (match (ixD z.length i).bind fun j => z.cps.toList[j]? with
      | some c => .ok (.str ⟨#[c]⟩) S
      | none => .stuck) else .stuck
  | x, .int i => match seqOf x S with
    | some xs => match (ixD xs.length i).bind fun j => xs[j]? with
      | some d => .ok d S
      | none => .stuck
    | none => .stuck
  | _, _ => .stuck
/-- a slice's end among n, w where it is left out -/
def cutAt (n w : Nat) : Option Int → Nat
  | none => w
  | some i => if i < 0 then (i + n).toNat else min i.toNat n
def cutD {α : Type} (xs : List α) (lo hi : Option Int) : List α := (xs.drop (cutAt xs.length 0 lo)).take (cutAt xs.length xs.length hi - cutAt xs.length 0 lo)
def opSlice (x : D) (lo hi : Option Int) (S : Store) : Out D := match x with
  | .tup xs => .ok (.tup (cutD xs lo hi)) S
  | .str z => if z.length ≤ lineD then .ok (.str ⟨(cutD z.cps.toList lo hi).toArray⟩) S else .stuck
  | d => match lstOf d S with
    | some xs => .ok (.lst (cutD xs lo hi)) S
    | none => .stuck
def optInt (d : D) (S : Store) : Out (Option Int) := match d with
  | .int i => .ok (some i) S
  | _ => .stuck

def intsOf : List D → Option (List Int)
  | [] => some []
  | .int i :: r => (intsOf r).map (i :: ·)
  | _ :: _ => none
def boolsOf : List D → Option (List Bool)
  | [] => some []
  | .bl b :: r => (boolsOf r).map (b :: ·)
  | _ :: _ => none
/-- the greatest, the least of a row -/
def maxI (a : Int) (l : List Int) : Int := l.foldl (fun m x => if x > m then x else m) a
def minI (a : Int) (l : List Int) : Int := l.foldl (fun m x => if x < m then x else m) a
mutual
/-- data as the kit has them -/
def pyD : D → Option PyData
  | .non => some .none
  | .bl b => some (.bool b)
  | .int i => some (.int i)
  | .str x => some (.str x)
  | .tup xs => (pyDs xs).map .tuple
  | .lst xs => (pyDs xs).map .list
  | _ => none
def pyDs : List D → Option (List PyData)
  | [] => some []
  | d :: ds => match pyD d, pyDs ds with
    | some p, some ps => some (p :: ps)
    | _, _ => none
end
mutual
/-- .. and back -/
def unpy : PyData → D
  | .bool b => .bl b
  | .int i => .int i
  | .str x => .str x
  | .tuple xs => .tup (unpys xs)
  | .list xs => .lst (unpys xs)
  | _ => .non
def unpys : List PyData → List D
  | [] => []
  | p :: ps => unpy p :: unpys ps
end
def notNon : PyData → Bool
  | .none => false
  | _ => true
def opF1 (f : F1) (x : D) (S : Store) : Out D := match f with
  | .len => match x with
    | .str z => if z.length ≤ lineD then .ok (.int z.length) S else .stuck
    | x => match seqOf x S with
      | some xs => .ok (.int xs.length) S
      | none => .stuck
  | .abs => match x with
    | .int i => .ok (.int (if i < 0 then -i else i)) S
    | _ => .stuck
  | .int => match x with
    | .int i => .ok (.int i) S
    | .bl b => .ok (.int (if b then 1 else 0)) S
    | _ => .stuck
  | .tuple => match seqOf x S with
    | some xs => .ok (.tup xs) S
    | none => .stuck
  | .list => match seqOf x S with
    | some xs => .ok (.lst xs) S
    | none => .stuck
  | .sum => match (lstOf x S).bind intsOf with
    | some ns => .ok (.int ns.sum) S
    | none => .stuck
  | .max => match (lstOf x S).bind intsOf with
    | some (n :: ns) => .ok (.int (maxI n ns)) S
    | _ => .stuck
  | .min => match (lstOf x S).bind intsOf with
    | some (n :: ns) => .ok (.int (minI n ns)) S
    | _ => match (lstOf x S).bind pyDs with
      | some (p :: ps) => if (p :: ps).all (fun q => (p :: ps).all fun r => PySem.W.alike q r) && (p :: ps).all notNon && decide (PyData.depthAll (p :: ps) ≤ 60) then .ok (unpy (PySem.W.minD p ps)) S else .stuck
      | _ => .stuck
  | .all => match (lstOf x S).bind boolsOf with
    | some bs => .ok (.bl (bs.all id)) S
    | none => .stuck
  | .any => match (lstOf x S).bind boolsOf with
    | some bs => .ok (.bl (bs.any id)) S
    | none => .stuck
  | .repr => match pyD x with
    | some p => if p.showable && decide (p.depth ≤ 60) && decide (p.shown.length ≤ lineD) then .ok (.str p.shown) S else .stuck
    | none => .stuck
  | .str => match x with
    | .int i => if i.natAbs.log2 < 1920 then .ok (.str (toString i)) S else .stuck
    | .str z => .ok (.str z) S
    | _ => .stuck
def opDget (kvs : List (Str × D)) (k : D) (S : Store) : Out D := match k with
  | .str z => match kvs.lookup z with
    | some d => .ok d S
    | none => .stuck
  | _ => .stuck
def opDin (neg : Bool) (kvs : List (Str × D)) (k : D) (S : Store) : Out Bool := match k with
  | .str z => .ok ((kvs.lookup z).isSome != neg) S
  | _ => .stuck
def pairsOf : List D → Option (List (Str × D))
  | [] => some []
  | .tup [.str z, d] :: r => (pairsOf r).map ((z, d) :: ·)
  | _ :: _ => none
/-- dict(x), x a list of pairs with different texts in front -/
def dictOf (x : D) (S : Store) : Option (List (Str × D)) := match (lstOf x S).bind pairsOf with
  | some kvs => if decide ((kvs.map (·.1)).Nodup) && decide (kvs.length ≤ lineD) then some kvs else none
  | none => none
/-- x.index(y), x.count(y) -/
def opM1 (cnt : Bool) (x y : D) (S : Store) : Out D := match lstOf x S with
  | some xs => if flat 60 y && flats 60 xs && decide (xs.length ≤ lineD) then (if cnt then .ok (.int (xs.countP fun z => eqv z y : Nat)) S
      else if xs.any (fun z => eqv z y) then .ok (.int ((xs.map fun z => eqv z y).idxOf true : Nat)) S else .stuck) else .stuck
  | none => .stuck
def pyd (d : D) : PyData := (pyD d).getD .none
def tup1 : PyData → Bool
  | .tuple (_ :: _) => true
  | _ => false
def notTup : PyData → Bool
  | .tuple _ => false
  | .none => false
  | _ => true
/-- sorted(x) of data that can be compared -/
def opSorted (x : D) (S : Store) : Out (List D) := match lstOf x S with
  | some xs => match pyDs xs with
    | some ps => if ps.all (fun p => ps.all fun q => PySem.W.alike p q) && (ps.all tup1 || ps.all notTup) && decide (xs.length ≤ lineD) && decide (PyData.depthAll ps ≤ 60) then .ok (xs.mergeSort (PySem.W.dataLe false pyd)) S else .stuck
    | none => .stuck
  | none => .stuck
def opMx (isMax : Bool) (x y : D) (S : Store) : Out D := match x, y with
  | .int i, .int j => .ok (.int (if isMax then (if j > i then j else i) else (if j < i then j else i))) S
  | _, _ => .stuck
def clsOf (d : D) (S : Store) : Option Nat := match d with
  | .obj c _ => some c
  | .ref i => match S[i]? with
    | some (some (.ins c _)) => some c
    | _ => none
  | _ => none
/-- what kind of thing data are -/
inductive DT where
  | non | bl | int | str | tup | lst | ins (c : Nat)
def dtOf (ic : Nat → Bool) (d : D) (S : Store) : Option DT := match d with
  | .non => some .non
  | .bl _ => some .bl
  | .int _ => some .int
  | .str _ => some .str
  | .tup _ => some .tup
  | .lst _ => some .lst
  | .obj c _ => if ic c then some (.ins c) else none
  | .ref i => match S[i]? with
    | some (some (.lst _)) => some .lst
    | some (some (.ins c _)) => if ic c then some (.ins c) else none
    | _ => none
  | .fn _ => none
def Ty.ofD : Ty → DT → Bool
  | .int, .int => true
  | .int, .bl => true
  | .bool, .bl => true
  | .str, .str => true
  | .list, .lst => true
  | .tuple, .tup => true
  | .cls c, .ins k => k == c
  | _, _ => false
def opIsi (ic : Nat → Bool) (ts : List Ty) (d : D) (S : Store) : Out D := match dtOf ic d S with
  | some k => .ok (.bl (ts.any fun t => t.ofD k)) S
  | none => .stuck
def fieldAt (fs : List Nat) (xs : List D) (f : Nat) : Option D := (fs.idxOf? f).bind fun j => xs[j]?
def opAttr (tb : Tab) (f : Nat) (d : D) (S : Store) : Out D := match (match d with
    | .obj c xs => fieldAt (tb.cf c) xs f
    | .ref i => match S[i]? with
      | some (some (.ins c fs)) => if (tb.cf c).contains f then fs.lookup f else none
      | _ => none
    | _ => none) with
  | some d => .ok d S
  | none => .stuck

/-- C(k = e, ..).f of an error class: ks tells which parameter each value is for -/
def opXat (xf ks : List Nat) (f : Nat) (ds : List D) (S : Store) : Out D := if ds.length = xf.length ∧ ks.length = xf.length ∧ ((List.range xf.length).all fun j => ((ks.idxOf? j).bind fun i => ds[i]?).isSome) = true then (match (xf.idxOf? f).bind fun j => (ks.idxOf? j).bind fun i => ds[i]? with
    | some d => .ok d S
    | none => .stuck) else .stuck
/-- the def of a method -/
def opMeth (tb : Tab) (x : D) (m : Nat) (S : Store) : Option Nat := match x with
  | .obj c _ => if (tb.cf c).contains m then none else tb.mt c m
  | .ref i => match S[i]? with
    | some (some (.ins c fs)) => if fs.any (fun p => p.1 == m) then none else tb.mt c m
    | _ => none
  | _ => none
/-- == (or !=) of an instance by its class's own __eq__, the method of number m -/
def opCeq (tb : Tab) (φ : Nat → List D → Store → Out D) (neg : Bool) (m : Nat) (x y : D) (S : Store) : Out Bool := match opMeth tb x m S, (clsOf x S).bind fun c => if tb.ic c then dtOf tb.ic y S else none with
  | some f, some _ => (match φ f [x, y] S with
    | .ok (.bl k) S1 => .ok (k != neg) S1
    | _ => .stuck)
  | _, _ => .stuck
def Bm.ty (m : Bm) (x : D) (S : Store) : Bool := (lstOf x S).isSome
def opBm (m : Bm) (o : D) (ds : List D) (S : Store) : Out D := match o with
  | .ref h => match S[h]? with
    | some (some (.lst xs)) => match m, ds with
      | .append, [d] => if xs.length < lineD then .ok .non (S.set h (some (.lst (xs ++ [d])))) else .stuck
      | .extend, [d] => match seqOf d S with
        | some ys => if xs.length + ys.length ≤ lineD then .ok .non (S.set h (some (.lst (xs ++ ys)))) else .stuck
        | none => .stuck
      | .insert, [.int i, d] => if xs.length < lineD ∧ 0 ≤ i ∧ i < 9223372036854775808 then .ok .non (S.set h (some (.lst (xs.take i.toNat ++ [d] ++ xs.drop i.toNat)))) else .stuck
      | .pop, [] => match xs[xs.length - 1]? with
        | some d => .ok d (S.set h (some (.lst xs.dropLast)))
        | none => .stuck
      | _, _ => .stuck
    | _ => .stuck
  | _ => .stuck

/-- what a loop walks: items, or a list that stands at a handle -/
inductive Src where
  | items (xs : List D) | hnd (i : Nat)
def srcOf (d : D) (S : Store) : Out Src := match d with
  | .tup xs => .ok (.items xs) S
  | .lst xs => .ok (.items xs) S
  | .str z => if z.length ≤ lineD then .ok (.items (z.cps.toList.map fun c => .str ⟨#[c]⟩)) S else .stuck
  | .ref i => match lstOf (.ref i) S with
    | some _ => .ok (.hnd i) S
    | none => .stuck
  | _ => .stuck
def rngOk (i : Int) : Bool := decide (-4611686018427387904 ≤ i) && decide (i < 4611686018427387904)
def opRng (ds : List D) (S : Store) : Out Src := match ds with
  | [.int j] => if rngOk j && decide (j.toNat ≤ lineD) then .ok (.items ((List.range j.toNat).map fun k => .int (k : Nat))) S else .stuck
  | [.int i, .int j] => if rngOk i && rngOk j && decide ((j - i).toNat ≤ lineD) then .ok (.items ((List.range (j - i).toNat).map fun k => .int (i + (k : Nat)))) S else .stuck
  | [.int i, .int j, .int c] => if decide (c ≠ 0) && decide (c.natAbs < 1073741824) && Builtin.Range.small i j c && decide (0 ≤ Builtin.Range.rangeSize i j c) && decide ((Builtin.Range.rangeSize i j c).toNat ≤ lineD) then
      .ok (.items ((List.range (Builtin.Range.rangeSize i j c).toNat).map fun k => .int (i + (k : Nat) * c))) S else .stuck
  | _ => .stuck
/-- list(range(i, j)) -/
def opLrng (x y : D) (S : Store) : Out (List D) := match x, y with
  | .int i, .int j => if rngOk i && rngOk j && decide ((j - i).toNat ≤ lineD) then .ok ((List.range (j - i).toNat).map fun k => .int (i + (k : Nat))) S else .stuck
  | _, _ => .stuck
def compL (f : D → Store → Out (Option D)) : List D → Store → Out (List D)
  | [], S => .ok [] S
  | x :: xs, S => match f x S with
    | .ok (some y) S1 => (match compL f xs S1 with
      | .ok ys S2 => .ok (y :: ys) S2
      | _ => .stuck)
    | .ok none S1 => compL f xs S1
    | _ => .stuck
/-- over a list at a handle, which must keep its length: n turns are left -/
def compH (i len : Nat) (f : D → Store → Out (Option D)) : Nat → Store → Out (List D)
  | 0, S => match S[i]? with
    | some (some (.lst xs)) => if xs.length = len then .ok [] S else .stuck
    | _ => .stuck
  | n + 1, S => match S[i]? with
    | some (some (.lst xs)) => if xs.length = len then (match xs[len - (n + 1)]? with
        | some x => (match f x S with
          | .ok (some y) S1 => (match compH i len f n S1 with
            | .ok ys S2 => .ok (y :: ys) S2
            | _ => .stuck)
          | .ok none S1 => compH i len f n S1
          | _ => .stuck)
        | none => .stuck) else .stuck
    | _ => .stuck

def putFld (f : Nat) (v : D) : List (Nat × D) → List (Nat × D)
  | [] => [(f, v)]
  | (g, u) :: r => if g = f then (g, v) :: r else (g, u) :: putFld f v r
def opSetA (f k : Nat) (o v : D) (S : Store) : Out Unit := match o with
  | .ref h => match S[h]? with
    | some (some (.ins c fs)) => if fs.length < 900 ∧ c = k then .ok () (S.set h (some (.ins c (putFld f v fs)))) else .stuck
    | _ => .stuck
  | _ => .stuck
mutual
def setTg : Tg → D → Vars → Store → Option (Vars × Store)
  | .nm i, d, Γ, S => some (Γ.set i (some d), S)
  | .tup ts, .tup xs, Γ, S => setTgs ts xs Γ S
  | .tup _, _, _, _ => none
  | .att i f k, d, Γ, S => match Γ[i]? with
    | some (some o) => (match opSetA f k o d S with
      | .ok _ S1 => some (Γ, S1)
      | _ => none)
    | _ => none
def setTgs : List Tg → List D → Vars → Store → Option (Vars × Store)
  | [], [], Γ, S => some (Γ, S)
  | t :: ts, x :: xs, Γ, S => match setTg t x Γ S with
    | some (Γ, S) => setTgs ts xs Γ S
    | none => none
  | _, _, _, _ => none
end

mutual
def slotsTg : Tg → List Nat
  | .nm i => [i]
  | .tup ts => slotsTgs ts
  | .att _ _ _ => []
def slotsTgs : List Tg → List Nat
  | [] => []
  | t :: ts => slotsTg t ++ slotsTgs ts
end
def wipeV (Γ : Vars) : List Nat → Vars
  | [] => Γ
  | v :: vs => (wipeV Γ vs).set v none

structure Bx where
  v : Vars → Store → Out D
  t : Vars → Store → Out Bool
  l : Vars → Store → Out (List D)
  i : Vars → Store → Out Src
abbrev DenD := Vars → Store → Out D
def Bx.ofV (v : DenD) : Bx := ⟨v, fun Γ S => (v Γ S).bind truth, fun _ _ => .stuck, fun Γ S => (v Γ S).bind srcOf⟩
def Bx.ofT (t : Vars → Store → Out Bool) : Bx := ⟨fun Γ S => (t Γ S).bind fun b S => .ok (.bl b) S, t, fun _ _ => .stuck, fun _ _ => .stuck⟩
def Bx.ofL (l : Vars → Store → Out (List D)) : Bx := ⟨fun Γ S => (l Γ S).bind fun xs S => .ok (.lst xs) S, fun Γ S => (l Γ S).bind fun xs S => .ok (!xs.isEmpty) S, l, fun Γ S => (l Γ S).bind fun xs S => .ok (.items xs) S⟩
def Bx.ofI (i : Vars → Store → Out Src) : Bx := ⟨fun _ _ => .stuck, fun _ _ => .stuck, fun _ _ => .stuck, i⟩
def rdVar (i : Nat) : DenD := fun Γ S => match Γ[i]? with
  | some (some d) => .ok d S
  | _ => .stuck
def dArgs : List Bx → Vars → Store → Out (List D)
  | [], _, S => .ok [] S
  | b :: bs, Γ, S => (b.v Γ S).bind fun d S1 => (dArgs bs Γ S1).bind fun ds S2 => .ok (d :: ds) S2
/-- a list that is new: as a list that stands still -/
def dList (o : Out (List D)) : Out D := o.bind fun xs S => .ok (.lst xs) S
/-- .. or by a handle -/
def dNew (o : Out (List D)) : Out D := o.bind fun xs S => .ok (.ref S.length) (S ++ [some (.lst xs)])
def dBoolT (isAnd : Bool) : List Bx → Vars → Store → Out Bool
  | [], _, _ => .stuck
  | [b], Γ, S => b.t Γ S
  | b :: bs, Γ, S => (b.t Γ S).bind fun c S1 => if c == isAnd then dBoolT isAnd bs Γ S1 else .ok c S1
def dBoolV (isAnd : Bool) : List Bx → DenD
  | [], _, _ => .stuck
  | [b], Γ, S => b.v Γ S
  | b :: bs, Γ, S => (b.v Γ S).bind fun d S1 => (truth d S1).bind fun c S2 => if c == isAnd then dBoolV isAnd bs Γ S2 else .ok d S2
def dOpt : List Bx → Vars → Store → Out (Option Int)
  | [], _, S => .ok none S
  | [b], Γ, S => (b.v Γ S).bind optInt
  | _, _, _ => .stuck
def dTest : List Bx → Vars → Store → Out Bool
  | [], _, S => .ok true S
  | [b], Γ, S => b.t Γ S
  | _, _, _ => .stuck
def items (s : Src) (S : Store) : Option (List D) := match s with
  | .items xs => some xs
  | .hnd i => lstOf (.ref i) S
def compTurn (t : Tg) (ifs : List Bx) (elt : Bx) (Γ : Vars) (x : D) (S : Store) : Out (Option D) := match setTg t x (wipeV Γ (slotsTg t)) S with
  | none => .stuck
  | some (Γ, S) => (dTest ifs Γ S).bind fun c S1 => if c then (elt.v Γ S1).bind fun y S2 => .ok (some y) S2 else .ok none S1
/-- a comprehension -/
def dComp (elt : Bx) (t : Tg) (it : Bx) (ifs : List Bx) (Γ : Vars) (S : Store) : Out (List D) := (it.i Γ S).bind fun s S1 => match s with
  | .items xs => compL (compTurn t ifs elt Γ) xs S1
  | .hnd i => match lstOf (.ref i) S1 with
    | some xs => compH i xs.length (compTurn t ifs elt Γ) xs.length S1
    | none => .stuck
/-- the items of what stands still -/
def stillOf : D → Option (List D)
  | .tup xs => some xs
  | .lst xs => some xs
  | .str z => if z.length ≤ lineD then some (z.cps.toList.map fun c => .str ⟨#[c]⟩) else none
  | _ => none
def numb (k : Nat) : List D → List D
  | [] => []
  | x :: xs => .tup [.int (k : Nat), x] :: numb (k + 1) xs
def opEnum (d : D) (S : Store) : Out Src := match stillOf d with
  | some xs => .ok (.items (numb 0 xs)) S
  | none => .stuck
def opZip (ds : List D) (S : Store) : Out Src := match ds with
  | [.tup xs, .tup ys] => if xs.length ≤ lineD then .ok (.items ((xs.zip ys).map fun p => .tup [p.1, p.2])) S else .stuck
  | [.lst xs, .lst ys] => if xs.length ≤ lineD then .ok (.items ((xs.zip ys).map fun p => .tup [p.1, p.2])) S else .stuck
  | _ => .stuck
def dEnum (a : Bx) (Γ : Vars) (S : Store) : Out Src := (a.v Γ S).bind opEnum

mutual
def den (tb : Tab) (cl : Cal) : E → Bx
  | .var i => .ofV (rdVar i)
  | .cst d => .ofV fun _ S => .ok d S
  | .fnv f => .ofV fun _ S => .ok (.fn f) S
  | .bin op a b => .ofV fun Γ S => ((den tb cl a).v Γ S).bind fun x S1 => ((den tb cl b).v Γ S1).bind fun y S2 => opBin op x y S2
  | .neg a => .ofV fun Γ S => ((den tb cl a).v Γ S).bind opNeg
  | .cmp op a b => .ofT fun Γ S => ((den tb cl a).v Γ S).bind fun x S1 => ((den tb cl b).v Γ S1).bind fun y S2 => opCmp op x y S2
  | .cmp2 op op2 a b c => .ofT fun Γ S => ((den tb cl a).v Γ S).bind fun x S1 => ((den tb cl b).v Γ S1).bind fun y S2 => (opCmp op x y S2).bind fun k S3 =>
      if k then ((den tb cl c).v Γ S3).bind fun z S4 => opCmp op2 y z S4 else .ok false S3
  | .isN neg a => .ofT fun Γ S => ((den tb cl a).v Γ S).bind fun x S1 => .ok ((match x with | .non => true | _ => false) != neg) S1
  | .bool isAnd es => ⟨dBoolV isAnd (dens tb cl es), dBoolT isAnd (dens tb cl es), fun _ _ => .stuck, fun _ _ => .stuck⟩
  | .not a => ⟨fun Γ S => ((den tb cl a).v Γ S).bind fun d S1 => (truth d S1).bind fun c S2 => .ok (.bl (!c)) S2, fun Γ S => ((den tb cl a).t Γ S).bind fun c S1 => .ok (!c) S1, fun _ _ => .stuck, fun _ _ => .stuck⟩
  | .ite c a b => { Bx.ofV (fun Γ S => ((den tb cl c).t Γ S).bind fun k S1 => if k then (den tb cl a).v Γ S1 else (den tb cl b).v Γ S1) with t := fun _ _ => .stuck }
  | .tup es => .ofV fun Γ S => (dArgs (dens tb cl es) Γ S).bind fun ds S1 => if ds.length ≤ lineD then .ok (.tup ds) S1 else .stuck
  | .disp es => .ofL fun Γ S => (dArgs (dens tb cl es) Γ S).bind fun ds S1 => if ds.length ≤ lineD then .ok ds S1 else .stuck
  | .comp elt t it ifs => .ofL (dComp (den tb cl elt) t (den tb cl it) (dens tb cl ifs))
  | .new l => .ofV fun Γ S => dNew ((den tb cl l).l Γ S)
  | .idx a i => .ofV fun Γ S => ((den tb cl a).v Γ S).bind fun x S1 => ((den tb cl i).v Γ S1).bind fun y S2 => opIdx x y S2
  | .slice a lo hi => .ofV fun Γ S => ((den tb cl a).v Γ S).bind fun x S1 => (dOpt (dens tb cl lo) Γ S1).bind fun l S2 => (dOpt (dens tb cl hi) Γ S2).bind fun h S3 => opSlice x l h S3
  | .attr a f => .ofV fun Γ S => ((den tb cl a).v Γ S).bind (opAttr tb f)
  | .ef f => .ofV fun _ S => match cl.err with
      | some (c, xs) => (match fieldAt (tb.xf c) xs f with
        | some d => .ok d S
        | none => .stuck)
      | none => .stuck
  | .eis k => .ofV fun _ S => match cl.err with
      | some (c, _) => .ok (.bl (tb.sub c k)) S
      | none => .stuck
  | .eib b => .ofV fun _ S => match cl.err with
      | some (c, _) => .ok (.bl (tb.xb c b)) S
      | none => .stuck
  | .xat c ks es f => .ofV fun Γ S => (dArgs (dens tb cl es) Γ S).bind (opXat (tb.xf c) ks f)
  | .b1 .list a => .ofL fun Γ S => ((den tb cl a).v Γ S).bind fun x S1 => match seqOf x S1 with
      | some xs => .ok xs S1
      | none => .stuck
  | .b1 f a => .ofV fun Γ S => ((den tb cl a).v Γ S).bind (opF1 f)
  | .mx k a b => .ofV fun Γ S => ((den tb cl a).v Γ S).bind fun x S1 => ((den tb cl b).v Γ S1).bind fun y S2 => opMx k x y S2
  | .bm m o es => .ofV fun Γ S => ((den tb cl o).v Γ S).bind fun x S1 => if m.ty x S1 then (dArgs (dens tb cl es) Γ S1).bind fun ds S2 => opBm m x ds S2 else .stuck
  | .isi a ts => .ofV fun Γ S => ((den tb cl a).v Γ S).bind (opIsi tb.ic ts)
  | .call f es => .ofV fun Γ S => (dArgs (dens tb cl es) Γ S).bind fun ds S1 => cl.call f ds S1
  | .callv i es => .ofV fun Γ S => match Γ[i]? with
      | some (some (.fn f)) => if cl.has f then (dArgs (dens tb cl es) Γ S).bind fun ds S1 => cl.call f ds S1 else .stuck
      | _ => .stuck
  | .mk c es => .ofV fun Γ S => (dArgs (dens tb cl es) Γ S).bind fun ds S1 => cl.make c ds S1
  | .meth o m es => .ofV fun Γ S => ((den tb cl o).v Γ S).bind fun x S1 => match opMeth tb x m S1 with
      | some f => (dArgs (dens tb cl es) Γ S1).bind fun ds S2 => cl.call f (x :: ds) S2
      | none => .stuck
  | .rng es => .ofI fun Γ S => (dArgs (dens tb cl es) Γ S).bind opRng
  | .enum a => .ofI (dEnum (den tb cl a))
  | .zip es => .ofI fun Γ S => (dArgs (dens tb cl es) Γ S).bind opZip
  | .lrng a b => .ofL fun Γ S => ((den tb cl a).v Γ S).bind fun x S1 => ((den tb cl b).v Γ S1).bind (opLrng x)
  | .glc i => .ofV fun _ S => .ok (tb.gv i) S
  | .dget i k => .ofV fun Γ S => ((den tb cl k).v Γ S).bind (opDget (tb.gd i))
  | .din neg i k => .ofT fun Γ S => ((den tb cl k).v Γ S).bind (opDin neg (tb.gd i))
  | .dix a k => .ofV fun Γ S => ((den tb cl a).v Γ S).bind fun x S1 => match dictOf x S1 with
      | some kvs => ((den tb cl k).v Γ S1).bind (opDget kvs)
      | none => .stuck
  | .ceq neg m a b => .ofT fun Γ S => ((den tb cl a).v Γ S).bind fun x S1 => ((den tb cl b).v Γ S1).bind fun y S2 => opCeq tb cl.eqc neg m x y S2
  | .m1 cnt o a => .ofV fun Γ S => ((den tb cl o).v Γ S).bind fun x S1 => if (lstOf x S1).isSome then ((den tb cl a).v Γ S1).bind fun y S2 => opM1 cnt x y S2 else .stuck
  | .sorted a => .ofL fun Γ S => ((den tb cl a).v Γ S).bind opSorted
def dens (tb : Tab) (cl : Cal) : List E → List Bx
  | [] => []
  | e :: es => den tb cl e :: dens tb cl es
end

def SOut.then (o : SOut) (f : Vars → Store → SOut) : SOut := match o with
  | .nx Γ S => f Γ S
  | o => o
/-- an expression within a statement -/
def Out.st {α : Type} (o : Out α) (Γ : Vars) (f : α → Store → SOut) : SOut := match o with
  | .ok a S => f a S
  | .exn c xs S => .exn c xs Γ S
  | .stuck => .stuck
/-- behind a loop's turn the handles that it made are let go, where nothing names them -/
def gcV (n : Nat) (Γ : Vars) : Vars := Γ.map fun d => d.bind fun d => if below n d then some d else none
def gc (n : Nat) (Γ : Vars) (S : Store) : SOut := if S.length ≤ n then .nx Γ S else if sBelow n (S.take n) then .nx (gcV n Γ) (S.take n) else .nx Γ S
def forL (body : D → Vars → Store → SOut) : List D → Vars → Store → SOut
  | [], Γ, S => .nx Γ S
  | x :: xs, Γ, S => ((body x Γ S).then (gc S.length)).then (forL body xs)
/-- over a list at a handle, which must keep its length: n turns are left, at turn k -/
def forH (i : Nat) (len : Nat) (body : D → Vars → Store → SOut) : Nat → Vars → Store → SOut
  | 0, Γ, S => match S[i]? with
    | some (some (.lst xs)) => if xs.length = len then .nx Γ S else .stuck
    | _ => .stuck
  | n + 1, Γ, S => match S[i]? with
    | some (some (.lst xs)) => if xs.length = len then (match xs[len - (n + 1)]? with
        | some x => ((body x Γ S).then (gc S.length)).then (forH i len body n)
        | none => .stuck) else .stuck
    | _ => .stuck
/-- n turns at most -/
def whileN (c : Vars → Store → Out Bool) (b : Vars → Store → SOut) : Nat → Vars → Store → Option SOut
  | 0, _, _ => none
  | n + 1, Γ, S => match c Γ S with
    | .ok true S1 => (match (b Γ S1).then (gc S.length) with
      | .nx Γ2 S2 => whileN c b n Γ2 S2
      | o => some o)
    | .ok false S1 => some (.nx Γ S1)
    | .exn k xs S1 => some (.exn k xs Γ S1)
    | .stuck => some .stuck
open Classical in
noncomputable def whileL (c : Vars → Store → Out Bool) (b : Vars → Store → SOut) (Γ : Vars) (S : Store) : SOut :=
  if h : ∃ n o, whileN c b n Γ S = some o then h.choose_spec.choose else .stuck

def opAug (op : BOp) (x y : D) (S : Store) : Out D := match x, y with
  | .int a, .int b => opBin op (.int a) (.int b) S
  | _, _ => .stuck
def opSetI (o i v : D) (S : Store) : Out Unit := match o, i with
  | .ref h, .int k => match S[h]? with
    | some (some (.lst xs)) => match ixD xs.length k with
      | some j => .ok () (S.set h (some (.lst (xs.set j v))))
      | none => .stuck
    | _ => .stuck
  | _, _ => .stuck
def opFrz (i : Nat) (Γ : Vars) (S : Store) : SOut := match Γ[i]? with
  | some (some (.ref h)) => match S[h]? with
    | some (some (.lst xs)) => .nx (Γ.set i (some (.lst xs))) (S.set h none)
    | _ => .stuck
  | _ => .stuck
def setAllD : List Nat → List D → Vars → Vars
  | i :: is, d :: ds, Γ => setAllD is ds (Γ.set i (some d))
  | _, _, Γ => Γ
/-- stored from the right -/
def setPar (is : List Nat) (ds : List D) (Γ : Vars) : Option Vars := if is.length = ds.length then some (setAllD is.reverse ds.reverse Γ) else none
def optS : Option (Vars × Store) → SOut
  | some (Γ, S) => .nx Γ S
  | none => .stuck
/-- the first clause that takes the error -/
def dHand (tb : Tab) (c : Nat) (xs : List D) (Γ : Vars) (S : Store) : List (Nat × Option Nat × (Option (Nat × List D) → Vars → Store → SOut)) → SOut
  | [] => .exn c xs Γ S
  | (k, n, b) :: hs => if tb.sub c k then (match n with
      | none => (match b none Γ S with
        | .exn .. => .stuck
        | o => o)
      | some i => if decide (Γ.length ≤ i) then .stuck else match b (some (c, xs)) (Γ.set i none) S with
        | .nx Γ2 S2 => .nx (Γ2.set i none) S2
        | .exn .. => .stuck
        | o => o) else dHand tb c xs Γ S hs

mutual
noncomputable def denT (tb : Tab) (cl : Cal) : T → Vars → Store → SOut
  | .asg t e => fun Γ S => ((den tb cl e).v Γ S).st Γ fun d S1 => optS (setTg t d Γ S1)
  | .par is es => fun Γ S => (dArgs (dens tb cl es) Γ S).st Γ fun ds S1 => (match setPar is ds Γ with | some Γ => .nx Γ S1 | none => .stuck)
  | .setI o i e => fun Γ S => ((den tb cl e).v Γ S).st Γ fun v S1 => ((den tb cl o).v Γ S1).st Γ fun x S2 => ((den tb cl i).v Γ S2).st Γ fun k S3 => (opSetI x k v S3).st Γ fun _ S4 => .nx Γ S4
  | .setA o f k e => fun Γ S => ((den tb cl e).v Γ S).st Γ fun v S1 => ((den tb cl o).v Γ S1).st Γ fun x S2 => (opSetA f k x v S2).st Γ fun _ S3 => .nx Γ S3
  | .aug i op e => fun Γ S => (rdVar i Γ S).st Γ fun x S0 => ((den tb cl e).v Γ S0).st Γ fun y S1 => (opAug op x y S1).st Γ fun z S2 => .nx (Γ.set i (some z)) S2
  | .ex e => fun Γ S => ((den tb cl e).v Γ S).st Γ fun _ S1 => .nx Γ S1
  | .ite c a b => fun Γ S => ((den tb cl c).t Γ S).st Γ fun k S1 => if k then denB tb cl a Γ S1 else denB tb cl b Γ S1
  | .loop t it b => fun Γ S => ((den tb cl it).i Γ S).st Γ fun s S1 => match s with
      | .items xs => forL (fun x Γ S => (optS (setTg t x Γ S)).then (denB tb cl b)) xs Γ S1
      | .hnd i => match lstOf (.ref i) S1 with
        | some xs => forH i xs.length (fun x Γ S => (optS (setTg t x Γ S)).then (denB tb cl b)) xs.length Γ S1
        | none => .stuck
  | .whl c b => whileL (den tb cl c).t (denB tb cl b)
  | .ret e => fun Γ S => ((den tb cl e).v Γ S).st Γ fun d S1 => .rt d S1
  | .retN => fun _ S => .rt .non S
  | .raise c es => fun Γ S => (dArgs (dens tb cl es) Γ S).st Γ fun ds S1 => if ds.length = (tb.xf c).length then .exn c ds Γ S1 else .stuck
  | .tryx b hs => fun Γ S => match denB tb cl b Γ S with
      | .exn c xs Γ1 S1 => dHand tb c xs Γ1 S1 (denH tb cl hs)
      | o => o
  | .pass => .nx
  | .frz i => opFrz i
noncomputable def denB (tb : Tab) (cl : Cal) : List T → Vars → Store → SOut
  | [] => .nx
  | s :: r => fun Γ S => (denT tb cl s Γ S).then (denB tb cl r)
noncomputable def denH (tb : Tab) (cl : Cal) : List (Nat × Option Nat × List T) → List (Nat × Option Nat × (Option (Nat × List D) → Vars → Store → SOut))
  | [] => []
  | (k, n, b) :: r => (k, n, fun e => denB tb { cl with err := e } b) :: denH tb cl r
end

structure Dfn where
  np : Nat
  sz : Nat
  body : List T
structure Kls where
  ini : Nat
  frz : Bool
/-- an instance stands still from now on -/
def frzI (tb : Tab) (c h : Nat) (S : Store) : Out D := match S[h]? with
  | some (some (.ins k fs)) => if k = c ∧ fs.map (·.1) = tb.cf c then .ok (.obj c (fs.map (·.2))) (S.set h none) else .stuck
  | _ => .stuck
/-- an instance is made -/
def mkD (tb : Tab) (kl : Nat → Option Kls) (φ : Nat → List D → Store → Out D) (c : Nat) (ds : List D) (S : Store) : Out D := match kl c with
  | some k => (φ k.ini (.ref S.length :: ds) (S ++ [some (.ins c [])])).bind fun d S1 => match d with
    | .non => if k.frz then frzI tb c S.length S1 else .ok (.ref S.length) S1
    | _ => .stuck
  | none => .stuck
def trim (n : Nat) (o : SOut) : Out D := match o with
  | .rt d S => if S.length ≤ n then .ok d S else if below n d && sBelow n (S.take n) then .ok d (S.take n) else .ok d S
  | .nx _ S => if S.length ≤ n then .ok .non S else if sBelow n (S.take n) then .ok .non (S.take n) else .ok .non S
  | .exn c xs _ S => if S.length ≤ n then .exn c xs S else if belows n xs && sBelow n (S.take n) then .exn c xs (S.take n) else .exn c xs S
  | .stuck => .stuck
def vars0 (sz : Nat) (ds : List D) : Vars := ds.map some ++ List.replicate (sz - ds.length) none
noncomputable def runD (tb : Tab) (cl : Cal) (f : Dfn) (ds : List D) (S : Store) : Out D :=
  if ds.length = f.np then trim S.length (denB tb cl f.body (vars0 f.sz ds) S) else .stuck
/-- the defs by levels: a def calls those of the level below, a class's maker has its __init__ from two below -/
noncomputable def lvl (tb : Tab) (kl : Nat → Option Kls) (df : Nat → Option Dfn) : Nat → Nat → List D → Store → Out D
  | 0, _, _, _ => .stuck
  | 1, _, _, _ => .stuck
  | 2, _, _, _ => .stuck
  | k + 3, f, ds, S => match df f with
    | some d => runD tb { has := fun f => (df f).isSome, call := lvl tb kl df (k + 2), make := mkD tb kl (lvl tb kl df (k + 1)), eqc := lvl tb kl df (k + 1) } d ds S
    | none => .stuck
end Dn

set_option maxHeartbeats 4000000
namespace Dn
open PySem PySem.Spec PyProof.Rows L2
abbrev St : Type := L2.St

/-- the fields of an error: none, or in its dict -/
def ErrD (G : Gx) (w : Wd) (dd : Option Addr) (c : Nat) (xs : List D) : Prop :=
  (xs = [] ∧ G.xf c = [] ∧ dd = none) ∨ ∃ d fs vs, dd = some d ∧ w.H d = some (.xd fs) ∧ ¬ Live w d ∧ Paired (fun f v => fs.lookup (G.nm f) = some v) (G.xf c) vs ∧ Reps G w xs vs
theorem ErrD.ext {G : Gx} {w w1 : Wd} (e : Ext w w1) {dd : Option Addr} {c : Nat} {xs : List D} (h : ErrD G w dd c xs) : ErrD G w1 dd c xs := by
  rcases h with h | ⟨d, fs, vs, e1, e2, n, p, r⟩
  · exact .inl h
  · obtain ⟨e3, n3⟩ := e.keep _ _ e2 n
    exact .inr ⟨d, fs, vs, e1, e3, n3, p, Reps.ext e.wk _ _ r⟩
structure At (G : Gx) (σ : St) (Γ : Vars) (w : Wd) : Prop where
  rel : Rel G w
  env : ∀ (i : Nat) (d : D), Γ[i]? = some (some d) → ∃ v, σ[i]? = some (some v) ∧ Rep G w d v
  len : Γ.length = σ.length
  err : ∀ e, G.ex = some e → σ[e.sl]? = some (some (.ref e.a)) ∧ ErrD G w e.dd e.c e.xs
def ErrR (G : Gx) (w : Wd) (cls : Value) (dd : Option Addr) (c : Nat) (xs : List D) : Prop :=
  cls = .ref (G.xa c) ∧ G.isx c = true ∧ ErrD G w dd c xs
/-- what is wanted behind an expression that ends as o tells -/
def Fin {α β : Type} (G : Gx) (R : Wd → α → β → Prop) (w : Wd) (σ : St) (o : Out α) (Q : β → Hp → Prop) (W : WX) : Prop := match o with
  | .ok a S => ∀ (w' : Wd) (b : β), Ext w w' → Rel G w' → w'.S = S → w'.pv = w.pv → R w' a b → Q b w'.H
  | .exn c xs S => ∀ (w' : Wd) (cls : Value) (dd : Option Addr), Ext w w' → Rel G w' → w'.S = S → w'.pv = w.pv → ErrR G w' cls dd c xs → W cls dd σ w'.H
  | .stuck => False
/-- .. that raises nothing -/
def Fin0 {α β : Type} (G : Gx) (R : Wd → α → β → Prop) (w : Wd) (o : Out α) (Q : β → Hp → Prop) : Prop := match o with
  | .ok a S => ∀ (w' : Wd) (b : β), Ext w w' → Rel G w' → w'.S = S → w'.pv = w.pv → R w' a b → Q b w'.H
  | _ => False
abbrev RB : Wd → Bool → Bool → Prop := fun _ a b => a = b

section
variable {G : Gx} {w w1 : Wd} {σ : St} {Γ : Vars} {W : WX}
theorem At.ext (A : At G σ Γ w) (e : Ext w w1) (R : Rel G w1) : At G σ Γ w1 := ⟨R, fun i d h => by
  obtain ⟨v, h1, h2⟩ := A.env i d h
  exact ⟨v, h1, Rep.ext e.wk d v h2⟩, A.len, fun x hx => by
  obtain ⟨h1, h2⟩ := A.err x hx
  exact ⟨h1, h2.ext e⟩⟩
theorem ErrR.ext (e : Ext w w1) {cls : Value} {dd : Option Addr} {c : Nat} {xs : List D} (h : ErrR G w cls dd c xs) : ErrR G w1 cls dd c xs := by
  obtain ⟨h1, hx, h2⟩ := h
  exact ⟨h1, hx, h2.ext e⟩
variable {α β : Type} {R : Wd → α → β → Prop} {o : Out α} {Q Q' : β → Hp → Prop}
theorem Fin.mono (h : Fin G R w σ o Q W) (hq : ∀ b H, Q b H → Q' b H) : Fin G R w σ o Q' W := by
  cases o with
  | ok a S => exact fun w' b e r s p q => hq _ _ (h w' b e r s p q)
  | exn c xs S => exact h
  | stuck => exact h
theorem Fin.base (e : Ext w w1) (hp : w1.pv = w.pv) (h : Fin G R w σ o Q W) : Fin G R w1 σ o Q W := by
  cases o with
  | ok a S => exact fun w' b e' r s p q => h w' b (e.trans e') r s (p.trans hp) q
  | exn c xs S => exact fun w' cls dd e' r s p q => h w' cls dd (e.trans e') r s (p.trans hp) q
  | stuck => exact h
theorem Fin.bind {γ δ : Type} {R2 : Wd → γ → δ → Prop} {f : α → Store → Out γ} {Q2 : δ → Hp → Prop} (h : Fin G R2 w σ (o.bind f) Q2 W)
    (hq : ∀ (w' : Wd) (a : α) (b : β), Ext w w' → Rel G w' → w'.pv = w.pv → R w' a b → Fin G R2 w' σ (f a w'.S) Q2 W → Q b w'.H) : Fin G R w σ o Q W := by
  cases o with
  | ok a S => exact fun w' b e r s p q => hq w' a b e r p q (by rw [s]; exact Fin.base e p h)
  | exn c xs S => exact h
  | stuck => exact h
theorem Fin.ok {a : α} {b : β} (h : Fin G R w σ (.ok a w.S) Q W) (R0 : Rel G w) (r : R w a b) : Q b w.H := h w b (Ext.refl w) R0 rfl rfl r
/-- an operation that raises nothing -/
def NoX (o : Out α) : Prop := ∀ c xs S, o ≠ .exn c xs S
theorem Fin.zero (h : Fin G R w σ o Q W) (n : NoX o) : Fin0 G R w o Q := by
  cases o with
  | ok a S => exact h
  | exn c xs S => exact absurd rfl (n c xs S)
  | stuck => exact h
theorem Fin0.mono (h : Fin0 G R w o Q) (hq : ∀ b H, Q b H → Q' b H) : Fin0 G R w o Q' := by
  cases o with
  | ok a S => exact fun w' b e r s p q => hq _ _ (h w' b e r s p q)
  | exn c xs S => exact h
  | stuck => exact h
theorem Fin0.fin (h : Fin0 G R w o Q) : Fin G R w σ o Q W := by
  cases o with
  | ok a S => exact h
  | exn c xs S => exact h.elim
  | stuck => exact h
end

def tD (G : Gx) (W : WX) (m : DenD) : TE := fun σ H Q => ∃ Γ w, w.H = H ∧ At G σ Γ w ∧ Fin G (Rep G) w σ (m Γ w.S) Q W
def tDT (G : Gx) (W : WX) (m : Vars → Store → Out Bool) : TT := fun σ H Q => ∃ Γ w, w.H = H ∧ At G σ Γ w ∧ Fin G RB w σ (m Γ w.S) Q W
def tDA (G : Gx) (W : WX) (m : Vars → Store → Out (List D)) : TA := fun σ H Q => ∃ Γ w, w.H = H ∧ At G σ Γ w ∧ Fin G (Reps G) w σ (m Γ w.S) Q W
/-- a list that is new: it stands at p, which nothing names as yet -/
def FinL (G : Gx) (w : Wd) (σ : St) (o : Out (List D)) (Q : VK) (W : WX) : Prop := match o with
  | .ok xs S => ∀ (w' : Wd) (vs : List V) (p : Addr), Ext w w' → Rel G w' → w'.S = S → w'.pv = p :: w.pv → w.H p = none → w'.H p = some (.lst vs) → Reps G w' xs vs → Q (.ref p) w'.H
  | .exn c xs S => ∀ (w' : Wd) (cls : Value) (dd : Option Addr), Ext w w' → Rel G w' → w'.S = S → w'.pv = w.pv → ErrR G w' cls dd c xs → W cls dd σ w'.H
  | .stuck => False
def tDL (G : Gx) (W : WX) (m : Vars → Store → Out (List D)) : TE := fun σ H Q => ∃ Γ w, w.H = H ∧ At G σ Γ w ∧ FinL G w σ (m Γ w.S) Q W

def SimE (G : Gx) (X : Cx) (e : Expr) (m : DenD) : Prop := ∀ W : WX, Takes X W → PE X e (tD G W m)
def SimT (G : Gx) (X : Cx) (e : Expr) (m : Vars → Store → Out Bool) : Prop := ∀ W : WX, Takes X W → PT X e (tDT G W m)
def SimA (G : Gx) (X : Cx) (es : List Expr) (m : Vars → Store → Out (List D)) : Prop := ∀ W : WX, Takes X W → PA X es (tDA G W m)
def SimL (G : Gx) (X : Cx) (e : Expr) (m : Vars → Store → Out (List D)) : Prop := ∀ W : WX, Takes X W → PE X e (tDL G W m)

section
variable {G : Gx} {X : Cx} {e a b : Expr} {es : List Expr} {t t' : TE} {m ma mb : DenD}
theorem PE.imp (h : PE X e t) (hi : ∀ σ H Q, t' σ H Q → t σ H Q) : PE X e t' := ⟨fun pins s σ H Q I q => h.run pins s σ H Q I (hi _ _ _ q)⟩
theorem PT.imp {t t' : TT} (h : PT X e t) (hi : ∀ σ H Q, t' σ H Q → t σ H Q) : PT X e t' := ⟨fun pins s σ H Q I q => h.run pins s σ H Q I (hi _ _ _ q)⟩
theorem PW.imp {t t' : TT} (h : PW X e t) (hi : ∀ σ H Q, t' σ H Q → t σ H Q) : PW X e t' := ⟨fun wh pins s σ H Q I q => h.run wh pins s σ H Q I (hi _ _ _ q)⟩
theorem PA.imp {t t' : TA} (h : PA X es t) (hi : ∀ σ H Q, t' σ H Q → t σ H Q) : PA X es t' := ⟨fun pos pins s σ H Q I q => h.run pos pins s σ H Q I (hi _ _ _ q)⟩
theorem SimE.stuck : SimE G X e (fun _ _ => .stuck) := fun W _ => ⟨fun _ _ _ _ _ _ ⟨_, _, _, _, h⟩ => h.elim⟩
theorem SimT.stuck : SimT G X e (fun _ _ => .stuck) := fun W _ => ⟨fun _ _ _ _ _ _ ⟨_, _, _, _, h⟩ => h.elim⟩
theorem SimL.stuck : SimL G X e (fun _ _ => .stuck) := fun W _ => ⟨fun _ _ _ _ _ _ ⟨_, _, _, _, h⟩ => h.elim⟩

theorem sim_var {i : Nat} {x : Str} {pos : Pos} (hN : X.N[i]? = some x) (hv : Vis X.env.scope x) (hd : (x == ("__debug__" : Str)) = false) (hcd : (x == ("__classdict__" : Str)) = false) : SimE G X (.Name x pos) (rdVar i) := fun W _ => by
  refine PE.imp (pe_var hN hv hd hcd) fun σ H Q ⟨Γ, w, hw, A, h⟩ => ?_
  unfold rdVar at h
  split at h
  · rename_i d hd
    obtain ⟨v, e1, r⟩ := A.env i d hd
    subst hw
    exact ⟨v, e1, Fin.ok h A.rel r⟩
  · exact h.elim
/-- plain constants -/
def konst : D → Option V
  | .non => some .non
  | .bl b => some (.bl b)
  | .int i => some (.int i)
  | .str x => some (.str x)
  | _ => none
theorem konst_rep {d : D} {v : V} {w : Wd} (h : konst d = some v) : Rep G w d v := by
  cases d <;> simp [konst] at h <;> subst h <;> simp [Rep]
theorem sim_const {d : D} {v : V} (h : konst d = some v) (hp : PE X e (tC v)) : SimE G X e (fun _ S => .ok d S) := fun W _ => by
  refine PE.imp hp fun σ H Q ⟨Γ, w, hw, A, hf⟩ => ?_
  subst hw
  exact Fin.ok hf A.rel (konst_rep h)
theorem sim_fn {f : Nat} (hp : PE X e (tC (.ref (G.fa f)))) : SimE G X e (fun _ S => .ok (.fn f) S) := fun W _ => by
  refine PE.imp hp fun σ H Q ⟨Γ, w, hw, A, hf⟩ => ?_
  subst hw
  exact Fin.ok hf A.rel (by simp [Rep])

theorem tD.two {r : R2} {W : WX} {f : D → D → Store → Out D} {σ : St} {H : Hp} {Q : VK} (h : tD G W (fun Γ S => (ma Γ S).bind fun x S1 => (mb Γ S1).bind fun y S2 => f x y S2) σ H Q)
    (hr : ∀ (w : Wd) (dx dy : D) (x y : V), Rel G w → Rep G w dx x → Rep G w dy y → Fin G (Rep G) w σ (f dx dy w.S) Q W → r x y w.H Q) : tOp r (tD G W ma) (tD G W mb) σ H Q := by
  obtain ⟨Γ, w, hw, A, hf⟩ := h
  refine ⟨Γ, w, hw, A, hf.bind fun w1 dx x e1 R1 p1 rx h1 => ?_⟩
  exact ⟨Γ, w1, rfl, A.ext e1 R1, h1.bind fun w2 dy y e2 R2 p2 ry h2 => hr w2 dx dy x y R2 (Rep.ext e2.wk _ _ rx) ry h2⟩
theorem tD.twoB {r : R2} {W : WX} {f : D → D → Store → Out Bool} {σ : St} {H : Hp} {Q : Bool → Hp → Prop} (h : tDT G W (fun Γ S => (ma Γ S).bind fun x S1 => (mb Γ S1).bind fun y S2 => f x y S2) σ H Q)
    (hr : ∀ (w : Wd) (dx dy : D) (x y : V), Rel G w → Rep G w dx x → Rep G w dy y → Fin G RB w σ (f dx dy w.S) Q W → r x y w.H fun z H' => ∃ k, z = .bl k ∧ Q k H') : tTest (tOp r (tD G W ma) (tD G W mb)) σ H Q := by
  obtain ⟨Γ, w, hw, A, hf⟩ := h
  refine ⟨Γ, w, hw, A, hf.bind fun w1 dx x e1 R1 p1 rx h1 => ?_⟩
  exact ⟨Γ, w1, rfl, A.ext e1 R1, h1.bind fun w2 dy y e2 R2 p2 ry h2 => hr w2 dx dy x y R2 (Rep.ext e2.wk _ _ rx) ry h2⟩
end

section
variable {G : Gx} {w : Wd} {v : V}
theorem rep_int {i : Int} : Rep G w (.int i) v ↔ v = .int i := by simp [Rep]
theorem rep_str {i : Str} : Rep G w (.str i) v ↔ v = .str i := by simp [Rep]
theorem rep_bl {i : Bool} : Rep G w (.bl i) v ↔ v = .bl i := by simp [Rep]
theorem rep_non : Rep G w .non v ↔ v = .non := by simp [Rep]
theorem rep_tup {xs : List D} : Rep G w (.tup xs) v ↔ ∃ a vs, v = .ref a ∧ FzT G.K w a vs ∧ Reps G w xs vs := by simp [Rep]
theorem rep_lst {xs : List D} : Rep G w (.lst xs) v ↔ ∃ a vs, v = .ref a ∧ FzL G.K w a vs ∧ Reps G w xs vs := by simp [Rep]
theorem rep_ref {i : Nat} : Rep G w (.ref i) v ↔ ∃ a, v = .ref a ∧ w.ρ[i]? = some a := by simp [Rep]
/-- a list, standing still or by a handle, to be read -/
theorem rep_lstOf {d : D} {xs : List D} (R : Rel G w) (r : Rep G w d v) (h : lstOf d w.S = some xs) : ∃ a vs, v = .ref a ∧ SqL G.K w.H a vs ∧ Reps G w xs vs := by
  unfold lstOf at h
  split at h
  · cases h
    obtain ⟨a, vs, e, f, q⟩ := rep_lst.mp r
    exact ⟨a, vs, e, f.sq, q⟩
  · split at h
    · rename_i i o ys hs
      cases h
      obtain ⟨a, e, q⟩ := rep_ref.mp r
      obtain ⟨b, e2, vs, h1, h2⟩ := R.at_ i _ hs
      rw [q] at e2; cases e2
      exact ⟨a, vs, e, SqL.of h1, h2⟩
    · cases h
  · cases h
theorem rep_seqOf {d : D} {xs : List D} (R : Rel G w) (r : Rep G w d v) (h : seqOf d w.S = some xs) : ∃ a vs, v = .ref a ∧ (SqL G.K w.H a vs ∨ SqT G.K w.H a vs) ∧ Reps G w xs vs := by
  unfold seqOf at h
  split at h
  · cases h
    obtain ⟨a, vs, e, f, q⟩ := rep_tup.mp r
    exact ⟨a, vs, e, .inr f.sq, q⟩
  · obtain ⟨a, vs, e, f, q⟩ := rep_lstOf R r h
    exact ⟨a, vs, e, .inl f, q⟩
/-- a new tuple, list that nothing changes -/
theorem new_tup (R : Rel G w) {p : Addr} {xs : List D} {vs : List V} (hp : w.H p = none) (r : Reps G w xs vs) {Q : VK} {σ : St} {W : WX} (h : Fin G (Rep G) w σ (.ok (.tup xs) w.S) Q W) : Q (.ref p) (upd w.H p (.tup vs)) := by
  refine h ⟨upd w.H p (.tup vs), w.S, w.ρ, w.pv⟩ (.ref p) (Ext.laid R hp) (R.laid hp) rfl rfl ?_
  exact rep_tup.mpr ⟨p, vs, rfl, .inl ⟨.inl upd_same, fun l => R.dead hp l⟩, Reps.ext (Ext.laid R hp).wk _ _ r⟩
theorem new_lst (R : Rel G w) {p : Addr} {xs : List D} {vs : List V} (hp : w.H p = none) (r : Reps G w xs vs) {Q : VK} {σ : St} {W : WX} (h : Fin G (Rep G) w σ (.ok (.lst xs) w.S) Q W) : Q (.ref p) (upd w.H p (.lst vs)) := by
  refine h ⟨upd w.H p (.lst vs), w.S, w.ρ, w.pv⟩ (.ref p) (Ext.laid R hp) (R.laid hp) rfl rfl ?_
  exact rep_lst.mpr ⟨p, vs, rfl, .inl ⟨.inl upd_same, fun l => R.dead hp l⟩, Reps.ext (Ext.laid R hp).wk _ _ r⟩
theorem new_lst0 (R : Rel G w) {p : Addr} {xs : List D} {vs : List V} (hp : w.H p = none) (r : Reps G w xs vs) {Q : VK} (h : Fin0 G (Rep G) w (.ok (.lst xs) w.S) Q) : Q (.ref p) (upd w.H p (.lst vs)) :=
  new_lst (σ := []) (W := fun _ _ _ _ => False) R hp r h.fin
theorem new_tup0 (R : Rel G w) {p : Addr} {xs : List D} {vs : List V} (hp : w.H p = none) (r : Reps G w xs vs) {Q : VK} (h : Fin0 G (Rep G) w (.ok (.tup xs) w.S) Q) : Q (.ref p) (upd w.H p (.tup vs)) :=
  new_tup (σ := []) (W := fun _ _ _ _ => False) R hp r h.fin
end

section
variable {G : Gx} {X : Cx}
/-- an operation's reading by data -/
def rBin (G : Gx) (f : D → D → Store → Out D) : R2 := fun x y H Q => ∃ (w : Wd) (dx dy : D), w.H = H ∧ Rel G w ∧ Rep G w dx x ∧ Rep G w dy y ∧ Fin0 G (Rep G) w (f dx dy w.S) Q
def pyOp : BOp → Operator
  | .add => .Add | .sub => .Sub | .mul => .Mult | .fdiv => .FloorDiv | .mod => .Mod | .pow => .Pow
theorem noX_bin (op : BOp) (x y : D) (S : Store) : NoX (opBin op x y S) := by
  intro c xs S' h
  unfold opBin at h
  repeat' (split at h)
  all_goals cases h
theorem Fin0.ok {α β : Type} {R : Wd → α → β → Prop} {w : Wd} {Q : β → Hp → Prop} {a : α} {b : β} (h : Fin0 G R w (.ok a w.S) Q) (R0 : Rel G w) (r : R w a b) : Q b w.H := h w b (Ext.refl w) R0 rfl rfl r
end
end Dn

set_option maxHeartbeats 4000000
namespace Dn
open PySem PySem.Spec PyProof.Rows L2

theorem line_eq : lineD = sizeLine := by rw [sizeLine_eq]; rfl
section
variable {G : Gx} {X : Cx}

theorem raise_bin {f : Value → Value → Sem Value} {g g' : D → D → Store → Out D} (h : OpR X f (rBin G g)) (e : g = g') : OpR X f (rBin G g') := by rw [← e]; exact h

/-- a list and a list -/
theorem cat_any {pins : List (Addr × Obj)} {s : Shared} {σ : St} {H : Hp} {a b : Addr} {xs ys : List V} {Q : VK} (I : Inv X pins σ H s) (ha : SqL X.K H a xs) (hb : SqL X.K H b ys) (hz : xs.length + ys.length ≤ sizeLine)
    (q : ∀ p, H p = none → Q (.ref p) (upd H p (.lst (xs ++ ys)))) : wpAny (model X.prog X.w) X.A (binaryOp .Add (.ref a) (.ref b)) (EP X pins σ Q) X.xe s := by
  obtain ⟨its, r1, p1, _⟩ := I.list ha
  obtain ⟨its2, r2, p2, _⟩ := I.list hb
  obtain ⟨⟨cls, dd, data, sl⟩, n, ho, hc, hd0, hd⟩ := id p1
  obtain ⟨⟨cls2, dd2, data2, sl2⟩, n2, ho2, hc2, hd02, hd2⟩ := id p2
  simp only at hc hd hc2 hd2 hd0 hd02
  subst hc hd hc2 hd2 hd0 hd02
  have e : its.toArray ++ its2.toArray = (its ++ its2).toArray := by simp
  have l1 := r1.length
  have l2 := r2.length
  refine concat_meets ⟨_, ho, rfl⟩ ⟨_, ho2, rfl⟩ noFill_list_add seq_list_add PySem.F.slot_list_add PySem.F.entry_list_add (PySem.F.args_list_add_2 _ _) (list_addW a b its.toArray its2.toArray n n2 none none sl sl2 (by simp only [List.size_toArray]; omega)) ⟨ho, ho2, ?_⟩
  rw [e]
  exact ⟨.ref _, _, I.lnew (t' := s.toks) (r1.append r2) (by rw [List.length_append]; omega), rfl, q _ I.fresh⟩

theorem length_reps {w : Wd} {ds : List D} {vs : List V} (h : Reps G w ds vs) : vs.length = ds.length := h.length.symm

theorem ok_add (hK : X.K = G.K) : OpR X (binaryOp .Add) (rBin G (opBin .add)) := by
  intro pins s σ H x y v u Q I rx ry h
  obtain ⟨w, dx, dy, rfl, R, px, py, hf⟩ := h
  have lists : ∀ a b, lstOf dx w.S = some a → lstOf dy w.S = some b → Fin0 G (Rep G) w (if a.length + b.length ≤ lineD then .ok (.lst (a ++ b)) w.S else .stuck) Q → wpAny (model X.prog X.w) X.A (binaryOp .Add v u) (EP X pins σ Q) X.xe s := by
    intro a b ea eb hf
    split at hf
    · rename_i hz
      obtain ⟨pa, va, rfl, sa, qa⟩ := rep_lstOf R px ea
      obtain ⟨pb, vb, rfl, sb, qb⟩ := rep_lstOf R py eb
      cases rx
      cases ry
      refine cat_any I (by rw [hK]; exact sa) (by rw [hK]; exact sb) ?_ fun p hp => new_lst0 R hp (qa.append qb) hf
      rw [length_reps qa, length_reps qb, ← line_eq]; exact hz
    · exact hf.elim
  unfold opBin at hf
  split at hf
  · rw [rep_int] at px py
    subst px; subst py
    exact op_add pins s σ w.H _ _ v u Q I rx ry ⟨_, _, rfl, rfl, Fin0.ok hf R (by simp [Rep])⟩
  · rw [rep_str] at px py
    subst px; subst py
    split at hf
    · rename_i hz
      exact op_add_str pins s σ w.H _ _ v u Q I rx ry ⟨_, _, rfl, rfl, by rw [← line_eq]; exact hz, Fin0.ok hf R (by simp [Rep])⟩
    · exact hf.elim
  · split at hf
    · rename_i a b he hz
      obtain ⟨pa, va, rfl, fa, qa⟩ := rep_tup.mp px
      obtain ⟨pb, vb, rfl, fb, qb⟩ := rep_tup.mp py
      refine op_catA pins s σ w.H _ _ v u Q I rx ry ⟨pa, pb, va, vb, rfl, rfl, by rw [hK]; exact fa.sq, by rw [hK]; exact fb.sq, ?_, fun e => ?_, fun e e2 => ?_, fun _ _ p hp => new_tup0 R hp (qa.append qb) hf⟩
      · rw [length_reps qa, length_reps qb, ← line_eq]; exact hz
      · subst e
        have ea : a = [] := by
          have z := qa.length
          exact List.eq_nil_of_length_eq_zero z
        subst ea
        exact Fin0.ok hf R (by simpa using py)
      · subst e2
        have eb : b = [] := by
          have z := qb.length
          exact List.eq_nil_of_length_eq_zero z
        subst eb
        exact Fin0.ok hf R (by simpa using px)
    · exact hf.elim
  · split at hf
    · rename_i a b ea eb; exact lists a b ea eb hf
    · exact hf.elim
  all_goals first | exact hf.elim | (exfalso; simp_all)

theorem ok_sub : OpR X (binaryOp .Sub) (rBin G (opBin .sub)) := by
  intro pins s σ H x y v u Q I rx ry h
  obtain ⟨w, dx, dy, rfl, R, px, py, hf⟩ := h
  cases dx <;> cases dy <;> first | exact hf.elim | skip
  rw [rep_int] at px py
  subst px; subst py
  exact op_sub pins s σ w.H _ _ v u Q I rx ry ⟨_, _, rfl, rfl, Fin0.ok hf R (by simp [Rep])⟩
theorem big_eq : big = 2 ^ 64 := by decide
/-- a list k times -/
theorem rep_any {pins : List (Addr × Obj)} {s : Shared} {σ : St} {H : Hp} {l : Addr} {xs : List V} {k : Int} {t : Tok} {Q : VK} (I : Inv X pins σ H s) (hs : SqL X.K H l xs) (h1 : 0 ≤ k) (h2 : k ≤ 1000) (hz : xs.length ≤ 1000)
    (q : ∀ p, H p = none → Q (.ref p) (upd H p (.lst (List.replicate k.toNat xs).flatten))) : wpAny (model X.prog X.w) X.A (binaryOp .Mult (.ref l) (.int k t)) (EP X pins σ Q) X.xe s := by
  obtain ⟨its, r, p1, _⟩ := I.list hs
  obtain ⟨⟨cls, dd, data, sl⟩, n, ho, hc, hd0, hd⟩ := id p1
  simp only at hc hd hd0
  subst hc hd hd0
  have hl : its.toArray.size = xs.length := by rw [List.size_toArray, ← r.length]
  have hm : its.toArray.size * k.toNat ≤ 1000 * 1000 := Nat.mul_le_mul (by omega) (by omega)
  have hlen : its.toArray.size * k.toNat ≤ sizeLine := by rw [sizeLine_eq]; omega
  have hcap : ¬ its.toArray.size * k.toNat > (2 ^ 63 - 1) / 8 := by
    have : (sizeLine : Nat) ≤ (2 ^ 63 - 1) / 8 := by decide
    omega
  have hfit : ¬ (!Builtin.List.listFitsIndex k) = true := by
    rw [fitsIndex_both (by omega) (by omega)]
    exact Bool.false_ne_true
  have hlong : ¬ Builtin.List.listTooLong (its.toArray.size * k.toNat) = true := by
    rw [notLongL hlen]
    exact Bool.false_ne_true
  have hnew : List.foldl (fun x1 x2 => x1 ++ x2) #[] (List.replicate (if its.toArray.isEmpty = true then 0 else k.toNat) its.toArray) = (List.replicate k.toNat its).flatten.toArray := by
    have f0 : ∀ m : Nat, List.foldl (fun x1 x2 => x1 ++ x2) #[] (List.replicate m its.toArray) = (List.replicate m its).flatten.toArray := fun m => by
      have := foldl_rep its m []
      rw [List.nil_append] at this
      exact this
    rw [f0]
    cases its with
    | nil => simp
    | cons a r' => rw [if_neg (by simp)]
  refine wpAny_binaryOp_repeat_ref (T := "list") (U := "int") (by decide) ⟨_, ho, rfl⟩ (fun s' => typeIs_int s' k t) noFill_list_mul PySem.F.fills_int_mul PySem.F.slot_int_rmul repeat_list PySem.F.slot_int_index.lookup
    (call_meets PySem.F.slot_int_rmul (typeIs_int s k t) PySem.F.entry_int_rmul (PySem.F.args_int_rmul_2 _ _) (lm_int_rmul_list_any k t l its.toArray n none sl)
      ⟨ho, rfl, ⟨_, ho, rfl⟩, call_meets PySem.F.slot_list_mul ⟨_, ho, rfl⟩ PySem.F.entry_list_mul (PySem.F.args_list_mul_2 _ _) (lm_list_mul_any l its.toArray n none sl k t hfit hcap hlong) ⟨ho, ?_⟩⟩)
  rw [hnew]
  exact ⟨.ref _, _, I.lnew (t' := s.toks) (r.rep k.toNat) (by rw [PyProof.Rows.lm_len_rep_flat, Nat.mul_comm, ← hl]; exact hlen), rfl, q _ I.fresh⟩
theorem reps_rep {w : Wd} {ds : List D} {vs : List V} (r : Reps G w ds vs) : ∀ k : Nat, Reps G w (List.replicate k ds).flatten (List.replicate k vs).flatten
  | 0 => Reps.nil
  | k + 1 => by
    rw [List.replicate_succ, List.replicate_succ, List.flatten_cons, List.flatten_cons]
    exact Reps.append r (reps_rep r k)
theorem ok_mul (hK : X.K = G.K) : OpR X (binaryOp .Mult) (rBin G (opBin .mul)) := by
  intro pins s σ H x y v u Q I rx ry h
  obtain ⟨w, dx, dy, rfl, R, px, py, hf⟩ := h
  cases dx <;> cases dy <;> first | exact hf.elim | skip
  · rename_i i j
    have hf' : Fin0 G (Rep G) w (if mulOk i j then .ok (.int (i * j)) w.S else .stuck) Q := hf
    split at hf'
    · rename_i hm
      rw [rep_int] at px py
      subst px; subst py
      refine op_mul pins s σ w.H _ _ v u Q I rx ry ⟨i, j, rfl, rfl, ?_, Fin0.ok hf' R (by simp [Rep])⟩
      unfold mulOk at hm
      rw [big_eq] at hm
      simp only [Bool.or_eq_true, Bool.and_eq_true, decide_eq_true_eq] at hm
      exact hm
    · exact hf'.elim
  · rename_i a n
    have hf' : Fin0 G (Rep G) w (if 2 ≤ n ∧ n ≤ 1000 ∧ a ≠ [] ∧ a.length ≤ 1000 then .ok (.tup (List.replicate n.toNat a).flatten) w.S else .stuck) Q := hf
    split at hf'
    · rename_i hm
      obtain ⟨h1, h2, h3, h4⟩ := hm
      obtain ⟨pa, va, rfl, fa, qa⟩ := rep_tup.mp px
      rw [rep_int] at py
      subst py
      have hl := qa.length
      refine op_repT pins s σ w.H _ _ v u Q I rx ry ⟨pa, n, va, rfl, rfl, by rw [hK]; exact fa.sq, fun e => h3 ?_, h1, h2, by omega, fun p hp => new_tup0 R hp (reps_rep qa n.toNat) hf'⟩
      rw [e] at hl
      exact List.eq_nil_of_length_eq_zero hl
    · exact hf'.elim
  · rename_i a n
    have hf' : Fin0 G (Rep G) w (if 0 ≤ n ∧ n ≤ 1000 ∧ a.length ≤ 1000 then .ok (.lst (List.replicate n.toNat a).flatten) w.S else .stuck) Q := hf
    split at hf'
    · rename_i hm
      obtain ⟨h1, h2, h4⟩ := hm
      obtain ⟨pa, va, rfl, fa, qa⟩ := rep_lst.mp px
      rw [rep_int] at py
      subst py
      cases rx
      obtain ⟨t, rfl⟩ := ry
      have hl := qa.length
      exact rep_any I (by rw [hK]; exact fa.sq) h1 h2 (by omega) fun p hp => new_lst0 R hp (reps_rep qa n.toNat) hf'
    · exact hf'.elim
theorem ok_fdiv : OpR X (binaryOp .FloorDiv) (rBin G (opBin .fdiv)) := by
  intro pins s σ H x y v u Q I rx ry h
  obtain ⟨w, dx, dy, rfl, R, px, py, hf⟩ := h
  cases dx <;> cases dy <;> first | exact hf.elim | skip
  rename_i i j
  have hf' : Fin0 G (Rep G) w (if divOk j then .ok (.int (i / j)) w.S else .stuck) Q := hf
  split at hf'
  · rename_i hm
    rw [rep_int] at px py
    subst px; subst py
    unfold divOk at hm
    rw [big_eq] at hm
    simp only [Bool.and_eq_true, decide_eq_true_eq] at hm
    refine op_fdivW pins s σ w.H _ _ v u Q I rx ry ⟨i, j, rfl, rfl, wide_div (b := 64) hm.1 ?_ (by decide) (by decide), Fin0.ok hf' R (by simp [Rep])⟩
    have := hm.2
    omega
  · exact hf'.elim
theorem ok_mod : OpR X (binaryOp .Mod) (rBin G (opBin .mod)) := by
  intro pins s σ H x y v u Q I rx ry h
  obtain ⟨w, dx, dy, rfl, R, px, py, hf⟩ := h
  cases dx <;> cases dy <;> first | exact hf.elim | skip
  rename_i i j
  have hf' : Fin0 G (Rep G) w (if 0 < j then .ok (.int (i % j)) w.S else .stuck) Q := hf
  split at hf'
  · rename_i hm
    rw [rep_int] at px py
    subst px; subst py
    exact op_mod pins s σ w.H _ _ v u Q I rx ry ⟨i, j, rfl, rfl, hm, Fin0.ok hf' R (by simp [Rep])⟩
  · exact hf'.elim
theorem ok_pow : OpR X (binaryOp .Pow) (rBin G (opBin .pow)) := by
  intro pins s σ H x y v u Q I rx ry h
  obtain ⟨w, dx, dy, rfl, R, px, py, hf⟩ := h
  cases dx <;> cases dy <;> first | exact hf.elim | skip
  rename_i i j
  have hf' : Fin0 G (Rep G) w (if 0 ≤ j ∧ j ≤ 1000 ∧ i.natAbs < 1000 then .ok (.int (i ^ j.toNat)) w.S else .stuck) Q := hf
  split at hf'
  · rename_i hm
    rw [rep_int] at px py
    subst px; subst py
    refine op_pow pins s σ w.H _ _ v u Q I rx ry ⟨i, j, rfl, rfl, ⟨hm.1, by omega, ?_⟩, Fin0.ok hf' R (by simp [Rep])⟩
    exact Nat.lt_trans hm.2.2 (by decide)
  · exact hf'.elim
theorem ok_bin (hK : X.K = G.K) (op : BOp) : OpR X (binaryOp (pyOp op)) (rBin G (opBin op)) := by
  cases op
  · exact ok_add hK
  · exact ok_sub
  · exact ok_mul hK
  · exact ok_fdiv
  · exact ok_mod
  · exact ok_pow
theorem sim_bin {op : BOp} {a b : Expr} {ma mb : DenD} {pos : Pos} (hK : X.K = G.K) (ha : SimE G X a ma) (hb : SimE G X b mb) :
    SimE G X (.BinOp a (pyOp op) b pos) (fun Γ S => (ma Γ S).bind fun x S1 => (mb Γ S1).bind fun y S2 => opBin op x y S2) := fun W tk =>
  PE.imp (pe_op (ok_bin hK op) (ha W tk) (hb W tk)) fun σ H Q h => tD.two h fun w dx dy x y R px py hf => ⟨w, dx, dy, rfl, R, px, py, hf.zero (noX_bin op _ _ _)⟩

def rUn (G : Gx) (f : D → Store → Out D) : V → Hp → VK → Prop := fun x H Q => ∃ (w : Wd) (dx : D), w.H = H ∧ Rel G w ∧ Rep G w dx x ∧ Fin0 G (Rep G) w (f dx w.S) Q
theorem ok_neg : UnR X (unaryOp .USub) (rUn G opNeg) := by
  intro pins s σ H x v Q I rx h
  obtain ⟨w, dx, rfl, R, px, hf⟩ := h
  cases dx <;> first | exact hf.elim | skip
  rw [rep_int] at px
  subst px
  exact un_neg pins s σ w.H _ v Q I rx ⟨_, rfl, Fin0.ok hf R (by simp [Rep])⟩
theorem tD.one {W : WX} {m : DenD} {f : D → Store → Out D} {σ : St} {H : Hp} {Q : VK} {r : V → Hp → VK → Prop} (h : tD G W (fun Γ S => (m Γ S).bind f) σ H Q)
    (hr : ∀ (w : Wd) (dx : D) (x : V), Rel G w → Rep G w dx x → Fin G (Rep G) w σ (f dx w.S) Q W → r x w.H Q) : tD G W m σ H fun x H1 => r x H1 Q := by
  obtain ⟨Γ, w, hw, A, hf⟩ := h
  exact ⟨Γ, w, hw, A, hf.bind fun w1 dx x e1 R1 p1 rx h1 => hr w1 dx x R1 rx h1⟩
theorem noX_neg (x : D) (S : Store) : NoX (opNeg x S) := by
  intro c xs S' h
  unfold opNeg at h
  split at h <;> cases h
theorem sim_neg {a : Expr} {ma : DenD} {pos : Pos} (ha : SimE G X a ma) : SimE G X (.UnaryOp .USub a pos) (fun Γ S => (ma Γ S).bind opNeg) := fun W tk =>
  PE.imp (pe_un ok_neg (ha W tk)) fun σ H Q h => tD.one h fun w dx x R px hf => ⟨w, dx, rfl, R, px, hf.zero (noX_neg _ _)⟩

def rCmp (G : Gx) (f : D → D → Store → Out Bool) : R2 := fun x y H Q => ∃ (w : Wd) (dx dy : D), w.H = H ∧ Rel G w ∧ Rep G w dx x ∧ Rep G w dy y ∧ Fin0 G RB w (f dx dy w.S) fun b H' => Q (.bl b) H'
mutual
def toPy : D → PyData
  | .non => .none
  | .bl b => .bool b
  | .int i => .int i
  | .str x => .str x
  | .lst xs => .list (toPys xs)
  | .tup xs => .tuple (toPys xs)
  | _ => .none
def toPys : List D → List PyData
  | [] => []
  | d :: ds => toPy d :: toPys ds
end
mutual
theorem flat_dp {w : Wd} (hK : X.K = G.K) : ∀ (n : Nat) (d : D) (v : V), flat n d = true → Rep G w d v → Dp X.K w.H v (toPy d)
  | _, .non, v, _, r => by rw [rep_non.mp r]; simp only [toPy]; exact .non
  | _, .bl b, v, _, r => by rw [rep_bl.mp r]; simp only [toPy]; exact .bl b
  | _, .int i, v, _, r => by rw [rep_int.mp r]; simp only [toPy]; exact .int i
  | _, .str x, v, _, r => by rw [rep_str.mp r]; simp only [toPy]; exact .str x
  | 0, .lst _, _, h, _ => by simp [flat] at h
  | 0, .tup _, _, h, _ => by simp [flat] at h
  | n + 1, .lst xs, v, h, r => by
    obtain ⟨a, vs, rfl, f, q⟩ := rep_lst.mp r
    simp only [toPy]
    exact .lst (by rw [hK]; exact f.sq) (flats_dp hK n xs vs (by simpa [flat] using h) q)
  | n + 1, .tup xs, v, h, r => by
    obtain ⟨a, vs, rfl, f, q⟩ := rep_tup.mp r
    simp only [toPy]
    exact .tup (by rw [hK]; exact f.sq) (flats_dp hK n xs vs (by simpa [flat] using h) q)
  | 0, .obj _ _, _, h, _ => by simp [flat] at h
  | 0, .ref _, _, h, _ => by simp [flat] at h
  | 0, .fn _, _, h, _ => by simp [flat] at h
  | n + 1, .obj _ _, _, h, _ => by simp [flat] at h
  | n + 1, .ref _, _, h, _ => by simp [flat] at h
  | n + 1, .fn _, _, h, _ => by simp [flat] at h
theorem flats_dp {w : Wd} (hK : X.K = G.K) : ∀ (n : Nat) (ds : List D) (vs : List V), flats n ds = true → Reps G w ds vs → DpAll X.K w.H vs (toPys ds)
  | _, [], vs, _, r => by rw [reps_nil.mp r]; simp only [toPys]; exact .nil
  | n, d :: ds, vs, h, r => by
    obtain ⟨v, us, rfl, r1, r2⟩ := reps_cons.mp r
    have h' : flat n d = true ∧ flats n ds = true := by simpa [flats] using h
    simp only [toPys]
    exact .cons (flat_dp hK n d v h'.1 r1) (flats_dp hK n ds us h'.2 r2)
end
mutual
theorem flat_lay : ∀ (n : Nat) (d : D), flat n d = true → (toPy d).canLay0 = true ∧ (toPy d).depth ≤ n
  | _, .non, _ => by simp [toPy, PyData.canLay0, PyData.depth]
  | _, .bl b, _ => by simp [toPy, PyData.canLay0, PyData.depth]
  | _, .int i, _ => by simp [toPy, PyData.canLay0, PyData.depth]
  | n, .str x, h => by
    have h' : x.cps.all (· < 0x110000) = true := by cases n <;> simpa [flat] using h
    simp only [toPy, PyData.canLay0, PyData.depth]
    exact ⟨h', Nat.zero_le _⟩
  | 0, .lst _, h => by simp [flat] at h
  | 0, .tup _, h => by simp [flat] at h
  | n + 1, .lst xs, h => by
    obtain ⟨h1, h2⟩ := flats_lay n xs (by simpa [flat] using h)
    simp only [toPy, PyData.canLay0, PyData.depth]
    exact ⟨h1, by omega⟩
  | n + 1, .tup xs, h => by
    obtain ⟨h1, h2⟩ := flats_lay n xs (by simpa [flat] using h)
    simp only [toPy, PyData.canLay0, PyData.depth]
    exact ⟨h1, by omega⟩
  | _, .obj _ _, _ => by simp [toPy, PyData.canLay0, PyData.depth]
  | _, .ref _, _ => by simp [toPy, PyData.canLay0, PyData.depth]
  | _, .fn _, _ => by simp [toPy, PyData.canLay0, PyData.depth]
theorem flats_lay : ∀ (n : Nat) (ds : List D), flats n ds = true → PyData.canLayAll0 (toPys ds) = true ∧ PyData.depthAll (toPys ds) ≤ n
  | _, [], _ => by simp [toPys, PyData.canLayAll0, PyData.depthAll]
  | n, d :: ds, h => by
    have h' : flat n d = true ∧ flats n ds = true := by simpa [flats] using h
    obtain ⟨h1, h2⟩ := flat_lay n d h'.1
    obtain ⟨h3, h4⟩ := flats_lay n ds h'.2
    simp only [toPys, PyData.canLayAll0, PyData.depthAll, h1, h3]
    exact ⟨rfl, by omega⟩
end
theorem flat_shaped {d : D} (h : flat 60 d = true) : SeqAt.shaped (toPy d) = true := by
  obtain ⟨h1, h2⟩ := flat_lay 60 d h
  unfold SeqAt.shaped
  rw [h1, Bool.true_and]
  exact decide_eq_true (by omega)
theorem flats_shaped {ds : List D} (h : flats 60 ds = true) : SeqAt.shaped (.list (toPys ds)) = true := by
  obtain ⟨h1, h2⟩ := flats_lay 60 ds h
  unfold SeqAt.shaped
  rw [show PyData.canLay0 (.list (toPys ds)) = true by simpa only [PyData.canLay0] using h1, Bool.true_and]
  exact decide_eq_true (by simp only [PyData.depth]; omega)
mutual
theorem eqv_py : ∀ (n : Nat) (m : Nat) (d e : D), flat n d = true → flat m e = true → PyData.eqv (toPy d) (toPy e) = eqv d e
  | n, m, d, e, h1, h2 => by
    cases d with
    | lst xs =>
      cases n with
      | zero => simp [flat] at h1
      | succ n =>
        cases e with
        | lst ys =>
          cases m with
          | zero => simp [flat] at h2
          | succ m =>
            simp only [toPy, PyData.eqv, eqv]
            exact eqvs_py n m xs ys (by simpa [flat] using h1) (by simpa [flat] using h2)
        | _ => first | (simp [toPy, PyData.eqv, eqv]; done) | (cases m <;> simp [flat] at h2)
    | tup xs =>
      cases n with
      | zero => simp [flat] at h1
      | succ n =>
        cases e with
        | tup ys =>
          cases m with
          | zero => simp [flat] at h2
          | succ m =>
            simp only [toPy, PyData.eqv, eqv]
            exact eqvs_py n m xs ys (by simpa [flat] using h1) (by simpa [flat] using h2)
        | _ => first | (simp [toPy, PyData.eqv, eqv]; done) | (cases m <;> simp [flat] at h2)
    | obj c xs => cases n <;> simp [flat] at h1
    | ref i => cases n <;> simp [flat] at h1
    | fn i => cases n <;> simp [flat] at h1
    | _ => cases e <;> first | (simp [toPy, PyData.eqv, eqv]; done) | (cases m <;> simp [flat] at h2)
theorem eqvs_py : ∀ (n : Nat) (m : Nat) (ds es : List D), flats n ds = true → flats m es = true → PyData.eqvAll (toPys ds) (toPys es) = eqvs ds es
  | _, _, [], [], _, _ => by simp [toPys, PyData.eqvAll, eqvs]
  | _, _, [], _ :: _, _, _ => by simp [toPys, PyData.eqvAll, eqvs]
  | _, _, _ :: _, [], _, _ => by simp [toPys, PyData.eqvAll, eqvs]
  | n, m, d :: ds, e :: es, h1, h2 => by
    have h1' : flat n d = true ∧ flats n ds = true := by simpa [flats] using h1
    have h2' : flat m e = true ∧ flats m es = true := by simpa [flats] using h2
    simp only [toPys, PyData.eqvAll, eqvs]
    rw [eqv_py n m d e h1'.1 h2'.1, eqvs_py n m ds es h1'.2 h2'.2]
end
theorem toPys_any {d : D} (hd : flat 60 d = true) : ∀ {ds : List D}, flats 60 ds = true → ((toPys ds).any fun z => PyData.eqv z (toPy d)) = ds.any fun z => eqv z d
  | [], _ => by simp [toPys]
  | e :: es, h => by
    have h' : flat 60 e = true ∧ flats 60 es = true := by simpa [flats] using h
    simp only [toPys, List.any_cons, eqv_py 60 60 e d h'.1 hd, toPys_any hd h'.2]
end
section
variable {G : Gx} {X : Cx}
theorem room64 {k : Nat} {A : Around} (hr : Room k A) : A.units + 65 < cLine := by have := hr.un; omega
/-- a handle of a list seen as its list -/
theorem seen_ref {i : Nat} {S : Store} {xs : List D} (h : S[i]? = some (some (.lst xs))) : seen (.ref i) S = .lst xs := by simp [seen, h]
theorem seen_ref0 {i : Nat} {S : Store} (h : ∀ xs, S[i]? ≠ some (some (.lst xs))) : seen (.ref i) S = .ref i := by
  show (match S[i]? with | some (some (.lst xs)) => D.lst xs | _ => .ref i) = .ref i
  split
  · rename_i o xs hs; exact absurd hs (h xs)
  · rfl
theorem rep_seen {w : Wd} {d : D} {v : V} (R : Rel G w) (r : Rep G w d v) (hK : X.K = G.K) (n : Nat) (h : flat n (seen d w.S) = true) : Dp X.K w.H v (toPy (seen d w.S)) := by
  cases d with
  | ref i =>
    by_cases hs : ∃ xs, w.S[i]? = some (some (.lst xs))
    · obtain ⟨xs, hs⟩ := hs
      rw [seen_ref hs] at h ⊢
      obtain ⟨a, e, q⟩ := rep_ref.mp r
      obtain ⟨b, e2, vs, h1, h2⟩ := R.at_ i _ hs
      rw [q] at e2; cases e2
      subst e
      simp only [toPy]
      cases n with
      | zero => simp [flat] at h
      | succ n => exact .lst (SqL.of h1) (flats_dp hK n xs vs (by simpa [flat] using h) h2)
    · rw [seen_ref0 fun xs z => hs ⟨xs, z⟩] at h
      cases n <;> simp [flat] at h
  | _ => exact flat_dp hK n _ v h r
theorem ok_eq (hK : X.K = G.K) (hu : X.A.units + 65 < cLine) : OpR X (compareOp .Eq) (rCmp G (opCmp .eq)) := by
  intro pins s σ H x y v u Q I rx ry h
  obtain ⟨w, dx, dy, rfl, R, px, py, hf⟩ := h
  simp only [opCmp, opEq] at hf
  split at hf
  · rename_i hz
    rw [Bool.and_eq_true] at hz
    refine op_eqD (by omega) pins s σ w.H x y v u Q I rx ry ⟨_, _, rep_seen R px hK 60 hz.1, rep_seen R py hK 60 hz.2, flat_shaped hz.1, flat_shaped hz.2, ?_⟩
    rw [eqv_py 60 60 _ _ hz.1 hz.2]
    exact hf w _ (Ext.refl w) R rfl rfl rfl
  · exact hf.elim
theorem ok_ne (hK : X.K = G.K) (hu : X.A.units + 65 < cLine) : OpR X (compareOp .NotEq) (rCmp G (opCmp .ne)) := by
  intro pins s σ H x y v u Q I rx ry h
  obtain ⟨w, dx, dy, rfl, R, px, py, hf⟩ := h
  simp only [opCmp, opEq] at hf
  split at hf
  · rename_i hz
    rw [Bool.and_eq_true] at hz
    refine op_neD (by omega) pins s σ w.H x y v u Q I rx ry ⟨_, _, rep_seen R px hK 60 hz.1, rep_seen R py hK 60 hz.2, flat_shaped hz.1, flat_shaped hz.2, ?_⟩
    rw [eqv_py 60 60 _ _ hz.1 hz.2]
    exact hf w _ (Ext.refl w) R rfl rfl rfl
  · exact hf.elim
theorem ok_ord {op : CmpOp} {f : Int → Int → Bool} {c : COp} (ho : OpR X (compareOp op) (rI0 fun i j => .bl (f i j))) (hc : ∀ i j S, opCmp c (.int i) (.int j) S = .ok (f i j) S)
    (hn : ∀ x y S, (∀ i j, ¬ (x = .int i ∧ y = .int j)) → opCmp c x y S = .stuck) : OpR X (compareOp op) (rCmp G (opCmp c)) := by
  intro pins s σ H x y v u Q I rx ry h
  obtain ⟨w, dx, dy, rfl, R, px, py, hf⟩ := h
  by_cases hq : ∃ i j, dx = .int i ∧ dy = .int j
  · obtain ⟨i, j, rfl, rfl⟩ := hq
    rw [rep_int] at px py
    subst px; subst py
    rw [hc] at hf
    exact ho pins s σ w.H _ _ v u Q I rx ry ⟨i, j, rfl, rfl, hf w _ (Ext.refl w) R rfl rfl rfl⟩
  · rw [hn dx dy w.S fun i j z => hq ⟨i, j, z⟩] at hf
    exact hf.elim
theorem in_any {neg : Bool} {pins : List (Addr × Obj)} {s : Shared} {σ : St} {H : Hp} {x : V} {v : Value} {a : Addr} {Q : VK} (I : Inv X pins σ H s) {d : PyData} {ds : List PyData} {vs : List V} (hu : X.A.units + 65 < cLine)
    (rx : RelV x v) (hd : Dp X.K H x d) (hs : SqT X.K H a vs) (hds : DpAll X.K H vs ds) (sd : SeqAt.shaped d = true) (se : SeqAt.shaped (.list ds) = true) (q : Q (.bl (if neg then !ds.any fun z => PyData.eqv z d else ds.any fun z => PyData.eqv z d)) H) :
    wpAny (model X.prog X.w) X.A (compareOp (if neg then .NotIn else .In) v (.ref a)) (EP X pins σ Q) X.xe s := by
  obtain ⟨as, r1⟩ := Dp.reads I d x v hd rx
  obtain ⟨its, rv, ⟨o, ho, hc, n, hdt⟩, hlen⟩ := I.tuple hs
  obtain ⟨bs, r2⟩ := Dp.readsAll I ds vs its hds rv
  have r3 : Reads s.heap (.ref a) (.tuple ds) _ := Reads.tuple ho hc hdt r2
  cases neg with
  | true => exact SeqAt.notIn_tuple_reads r3 r1 (SeqAt.canLay_of_shaped (d := .list ds) se) (SeqAt.canLay_of_shaped sd) (room_in_shaped sd hu) ⟨.bl _, H, I, rfl, q⟩
  | false => exact SeqAt.in_tuple_reads r3 r1 (SeqAt.canLay_of_shaped (d := .list ds) se) (SeqAt.canLay_of_shaped sd) (room_in_shaped sd hu) ⟨.bl _, H, I, rfl, q⟩
theorem ok_in (neg : Bool) (hK : X.K = G.K) (hu : X.A.units + 65 < cLine) : OpR X (compareOp (if neg then .NotIn else .In)) (rCmp G (opCmp (if neg then .notin else .isin))) := by
  intro pins s σ H x y v u Q I rx ry h
  obtain ⟨w, dx, dy, rfl, R, px, py, hf⟩ := h
  have key : ∀ ys, seqOf dy w.S = some ys → (flat 60 dx && flats 60 ys) = true → Q (.bl (if neg then !ys.any fun z => eqv z dx else ys.any fun z => eqv z dx)) w.H → wpAny (model X.prog X.w) X.A (compareOp (if neg then .NotIn else .In) v u) (EP X pins σ Q) X.xe s := by
    intro ys e hz q
    rw [Bool.and_eq_true] at hz
    obtain ⟨a, vs, rfl, hs, hq⟩ := rep_seqOf R py e
    cases ry
    have hdx := flat_dp (X := X) hK 60 dx x hz.1 px
    have hds := flats_dp (X := X) hK 60 ys vs hz.2 hq
    rw [← toPys_any hz.1 hz.2] at q
    rcases hs with hs | hs
    · have hl : Dp X.K w.H (.ref a) (.list (toPys ys)) := .lst (by rw [hK]; exact hs) hds
      cases neg with
      | true => exact op_notInD hu pins s σ w.H x (.ref a) v (.ref a) Q I rx rfl ⟨_, _, hdx, hl, flat_shaped hz.1, flats_shaped hz.2, q⟩
      | false => exact op_inD hu pins s σ w.H x (.ref a) v (.ref a) Q I rx rfl ⟨_, _, hdx, hl, flat_shaped hz.1, flats_shaped hz.2, q⟩
    · exact in_any I hu rx hdx (by rw [hK]; exact hs) hds (flat_shaped hz.1) (flats_shaped hz.2) q
  have sgn : ∀ a z c, dx = .str a → dy = .str z → a.cps.toList = [c] → Q (.bl (if neg then !decide (c ∈ z.cps.toList) else decide (c ∈ z.cps.toList))) w.H → wpAny (model X.prog X.w) X.A (compareOp (if neg then .NotIn else .In) v u) (EP X pins σ Q) X.xe s := by
    intro a z c e1 e2 e3 q
    subst e1 e2
    have ea : a = ⟨#[c]⟩ := by
      obtain ⟨⟨l⟩⟩ := a
      have : l = [c] := e3
      rw [this]
    subst ea
    rw [rep_str.mp px] at rx
    rw [rep_str.mp py] at ry
    cases neg with
    | true => exact op_notIn_sign pins s σ w.H _ _ v u Q I rx ry ⟨c, z, rfl, rfl, q⟩
    | false => exact op_in_sign pins s σ w.H _ _ v u Q I rx ry ⟨c, z, rfl, rfl, q⟩
  cases neg with
  | true =>
    simp only [opCmp, if_true] at hf
    split at hf
    · rename_i a z
      split at hf
      · rename_i c e
        exact sgn a z c rfl rfl e (hf w _ (Ext.refl w) R rfl rfl rfl)
      · exact hf.elim
    · split at hf
      · rename_i ys e
        split at hf
        · rename_i hz
          exact key ys e hz (hf w _ (Ext.refl w) R rfl rfl rfl)
        · exact hf.elim
      · exact hf.elim
  | false =>
    simp only [opCmp, Bool.false_eq_true, if_false] at hf
    split at hf
    · rename_i a z
      split at hf
      · rename_i c e
        exact sgn a z c rfl rfl e (hf w _ (Ext.refl w) R rfl rfl rfl)
      · exact hf.elim
    · split at hf
      · rename_i ys e
        split at hf
        · rename_i hz
          exact key ys e hz (hf w _ (Ext.refl w) R rfl rfl rfl)
        · exact hf.elim
      · exact hf.elim
def pyCmp : COp → CmpOp
  | .eq => .Eq | .ne => .NotEq | .lt => .Lt | .le => .LtE | .gt => .Gt | .ge => .GtE | .isin => .In | .notin => .NotIn
theorem ok_cmp (hK : X.K = G.K) (hu : X.A.units + 65 < cLine) (op : COp) : OpR X (compareOp (pyCmp op)) (rCmp G (opCmp op)) := by
  cases op with
  | eq => exact ok_eq hK hu
  | ne => exact ok_ne hK hu
  | lt => exact ok_ord (f := fun i j => decide (i < j)) op_lt (fun _ _ _ => rfl) (fun x y S h => by cases x <;> cases y <;> first | rfl | exact absurd ⟨rfl, rfl⟩ (h _ _))
  | le => exact ok_ord (f := fun i j => decide (i ≤ j)) op_le (fun _ _ _ => rfl) (fun x y S h => by cases x <;> cases y <;> first | rfl | exact absurd ⟨rfl, rfl⟩ (h _ _))
  | gt => exact ok_ord (f := fun i j => decide (j < i)) op_gt (fun _ _ _ => rfl) (fun x y S h => by cases x <;> cases y <;> first | rfl | exact absurd ⟨rfl, rfl⟩ (h _ _))
  | ge => exact ok_ord (f := fun i j => decide (j ≤ i)) op_ge (fun _ _ _ => rfl) (fun x y S h => by cases x <;> cases y <;> first | rfl | exact absurd ⟨rfl, rfl⟩ (h _ _))
  | isin => exact ok_in false hK hu
  | notin => exact ok_in true hK hu
end
end Dn

set_option maxHeartbeats 4000000
namespace Dn
open PySem PySem.Spec PyProof.Rows L2
section
variable {G : Gx} {X : Cx} {a b c e : Expr} {es : List Expr} {ma mb mc : DenD} {pos : Pos}

theorem bind_assoc' {α β γ : Type} (o : Out α) (f : α → Store → Out β) (g : β → Store → Out γ) : (o.bind f).bind g = o.bind fun a S => (f a S).bind g := by
  cases o <;> rfl
theorem noX_eq (x y : D) (S : Store) : NoX (opEq x y S) := by
  intro c xs S' h
  unfold opEq at h
  split at h <;> cases h
theorem noX_cmp (op : COp) (x y : D) (S : Store) : NoX (opCmp op x y S) := by
  intro c xs S' h
  unfold opCmp opEq at h
  repeat' (split at h)
  all_goals first | cases h | (simp only [Out.bind] at h; repeat' (split at h)) <;> first | cases h | skip
  all_goals first | cases h | skip
/-- a truth as a value -/
theorem Fin.vals {w : Wd} {σ : St} {o : Out Bool} {Q : VK} {W : WX} (h : Fin G (Rep G) w σ (o.bind fun b S => .ok (.bl b) S) Q W) : Fin G RB w σ o (fun b H' => Q (.bl b) H') W :=
  h.bind fun w' a b e R p r h' => by
    have r' : a = b := r
    subst r'
    exact Fin.ok h' R (by simp [Rep])
theorem sim_cmp {op : COp} (hK : X.K = G.K) (hu : X.A.units + 65 < cLine) (ha : SimE G X a ma) (hb : SimE G X b mb) (hm : behindInMarks (pyCmp op) b = false) :
    SimE G X (.Compare a [pyCmp op] [b] pos) (fun Γ S => ((ma Γ S).bind fun x S1 => (mb Γ S1).bind fun y S2 => opCmp op x y S2).bind fun b S => .ok (.bl b) S) := fun W tk => by
  refine PE.imp (pe_cmpR (ok_cmp hK hu op) (ha W tk) (hb W tk) hm) fun σ H Q h => ?_
  have h2 : tD G W (fun Γ S => (ma Γ S).bind fun x S1 => (mb Γ S1).bind fun y S2 => (opCmp op x y S2).bind fun b S => .ok (.bl b) S) σ H Q := by
    simpa only [bind_assoc'] using h
  exact tD.two h2 fun w dx dy x y R px py hf => ⟨w, dx, dy, rfl, R, px, py, hf.vals.zero (noX_cmp op _ _ _)⟩
theorem sim_cmpT {op : COp} (hK : X.K = G.K) (hu : X.A.units + 65 < cLine) (ha : SimE G X a ma) (hb : SimE G X b mb) (hm : behindInMarks (pyCmp op) b = false) :
    SimT G X (.Compare a [pyCmp op] [b] pos) (fun Γ S => (ma Γ S).bind fun x S1 => (mb Γ S1).bind fun y S2 => opCmp op x y S2) := fun W tk =>
  PT.imp (pt_cmpR (ok_cmp hK hu op) (ha W tk) (hb W tk) hm) fun σ H Q h => tD.twoB h fun w dx dy x y R px py hf => ⟨w, dx, dy, rfl, R, px, py, (hf.zero (noX_cmp op _ _ _)).mono fun b H' q => ⟨b, rfl, q⟩⟩
/-- two comparisons in a row -/
def chainF (op op2 : COp) (mc : Vars → Store → Out D) (Γ : Vars) (x y : D) (S : Store) : Out Bool := (opCmp op x y S).bind fun k S3 => if k then (mc Γ S3).bind fun z S4 => opCmp op2 y z S4 else .ok false S3
theorem tD.chain {op op2 : COp} {W : WX} {σ : St} {H : Hp} {Q : VK} {f : Bool → V} (hf : ∀ b, f b = .bl b)
    (h : ∃ Γ w, w.H = H ∧ At G σ Γ w ∧ Fin G RB w σ ((ma Γ w.S).bind fun x S1 => (mb Γ S1).bind fun y S2 => chainF op op2 mc Γ x y S2) (fun b H' => Q (.bl b) H') W) :
    tChain (rCmp G (opCmp op)) (rCmp G (opCmp op2)) (tD G W ma) (tD G W mb) (tD G W mc) σ H Q := by
  obtain ⟨Γ, w, hw, A, hf⟩ := h
  refine ⟨Γ, w, hw, A, hf.bind fun w1 dx x e1 R1 p1 rx h1 => ?_⟩
  refine ⟨Γ, w1, rfl, A.ext e1 R1, h1.bind fun w2 dy y e2 R2 p2 ry h2 => ?_⟩
  refine ⟨w2, dx, dy, rfl, R2, Rep.ext e2.wk _ _ rx, ry, ?_⟩
  unfold chainF at h2
  refine Fin.zero (σ := σ) (W := W) ?_ (noX_cmp op _ _ _)
  refine h2.bind fun w3 k k' e3 R3 p3 rk h3 => ?_
  have rk' : k = k' := rk
  subst rk'
  refine ⟨k, rfl, ?_⟩
  cases k with
  | false =>
    rw [if_neg (by decide)] at h3 ⊢
    exact Fin.ok (Q := fun b H' => Q (.bl b) H') h3 R3 rfl
  | true =>
    rw [if_pos rfl] at h3 ⊢
    refine ⟨Γ, w3, rfl, ((A.ext e1 R1).ext e2 R2).ext e3 R3, h3.bind fun w4 dz z e4 R4 p4 rz h4 => ?_⟩
    exact ⟨w4, dy, dz, rfl, R4, Rep.ext e4.wk _ _ (Rep.ext e3.wk _ _ ry), rz, h4.zero (noX_cmp op2 _ _ _)⟩
theorem sim_cmp2 {op op2 : COp} (hK : X.K = G.K) (hu : X.A.units + 65 < cLine) (ha : SimE G X a ma) (hb : SimE G X b mb) (hc : SimE G X c mc) (hm : lastMarks [pyCmp op, pyCmp op2] [b, c] = false) :
    SimE G X (.Compare a [pyCmp op, pyCmp op2] [b, c] pos) (fun Γ S => ((ma Γ S).bind fun x S1 => (mb Γ S1).bind fun y S2 => chainF op op2 mc Γ x y S2).bind fun b S => .ok (.bl b) S) := fun W tk => by
  refine PE.imp (pe_chain (ok_cmp hK hu op) (ok_cmp hK hu op2) (ha W tk) (hb W tk) (hc W tk) hm) fun σ H Q h => ?_
  obtain ⟨Γ, w, hw, A, hf⟩ := h
  exact tD.chain (f := .bl) (fun _ => rfl) ⟨Γ, w, hw, A, hf.vals⟩
theorem sim_cmp2T {op op2 : COp} (hK : X.K = G.K) (hu : X.A.units + 65 < cLine) (ha : SimE G X a ma) (hb : SimE G X b mb) (hc : SimE G X c mc) (hm : lastMarks [pyCmp op, pyCmp op2] [b, c] = false) :
    SimT G X (.Compare a [pyCmp op, pyCmp op2] [b, c] pos) (fun Γ S => (ma Γ S).bind fun x S1 => (mb Γ S1).bind fun y S2 => chainF op op2 mc Γ x y S2) := fun W tk => by
  refine PT.imp (pt_chain (ok_cmp hK hu op) (ok_cmp hK hu op2) (ha W tk) (hb W tk) (hc W tk) hm) fun σ H Q h => ?_
  obtain ⟨Γ, w, hw, A, hf⟩ := h
  exact tD.chain (f := .bl) (fun _ => rfl) ⟨Γ, w, hw, A, hf.mono fun b H' q => ⟨b, rfl, q⟩⟩

def isNon : D → Bool
  | .non => true
  | _ => false
theorem rep_isNon {w : Wd} {d : D} {v : V} (r : Rep G w d v) : decide (v = .non) = isNon d := by
  cases d <;> simp only [Rep] at r <;> first | (subst r; rfl) | (obtain ⟨a, r⟩ := r; simp [isNon]; intro z; simp [z] at r) | (simp [isNon]; intro z; simp [z] at r)
theorem sim_isN (neg : Bool) (ha : SimE G X a ma) {j : Nat} {pos' : Pos} :
    SimE G X (.Compare a [if neg then .IsNot else .Is] [.Constant .none j pos'] pos) (fun Γ S => ((ma Γ S).bind fun x S1 => .ok (isNon x != neg) S1).bind fun b S => .ok (.bl b) S) := fun W tk => by
  have key : ∀ (w : Wd) (dx : D) (x : V) (σ : St) (Q : VK), Rel G w → Rep G w dx x → Fin G (Rep G) w σ (.ok (.bl (isNon dx != neg)) w.S) Q W → Q (.bl (if neg then !decide (x = .non) else decide (x = .non))) w.H := by
    intro w dx x σ Q R rx h
    rw [rep_isNon rx]
    have e : (isNon dx != neg) = (if neg then !isNon dx else isNon dx) := by cases neg <;> cases isNon dx <;> rfl
    rw [e] at h
    exact Fin.ok h R (by simp [Rep])
  cases neg with
  | true =>
    refine PE.imp (pe_cmp (pc_notN (ha W tk)) rfl) fun σ H Q h => ?_
    have h2 : tD G W (fun Γ S => (ma Γ S).bind fun x S1 => .ok (.bl (isNon x != true)) S1) σ H Q := by simpa only [bind_assoc', bind_ok] using h
    exact tD.one (r := fun x H Q => Q (.bl (!decide (x = .non))) H) h2 fun w dx x R px hf => key w dx x σ Q R px hf
  | false =>
    refine PE.imp (pe_cmp (pc_isN (ha W tk)) rfl) fun σ H Q h => ?_
    have h2 : tD G W (fun Γ S => (ma Γ S).bind fun x S1 => .ok (.bl (isNon x != false)) S1) σ H Q := by simpa only [bind_assoc', bind_ok] using h
    exact tD.one (r := fun x H Q => Q (.bl (decide (x = .non))) H) h2 fun w dx x R px hf => key w dx x σ Q R px hf
/-- a test from a value that is a truth, where the Python test asks the comparison -/
theorem sim_isNT (neg : Bool) (ha : SimE G X a ma) {j : Nat} {pos' : Pos} :
    SimT G X (.Compare a [if neg then .IsNot else .Is] [.Constant .none j pos'] pos) (fun Γ S => (ma Γ S).bind fun x S1 => .ok (isNon x != neg) S1) := fun W tk => by
  have key : ∀ (w : Wd) (dx : D) (x : V) (σ : St) (Q : Bool → Hp → Prop), Rel G w → Rep G w dx x → Fin G RB w σ (.ok (isNon dx != neg) w.S) Q W → Q (if neg then !decide (x = .non) else decide (x = .non)) w.H := by
    intro w dx x σ Q R rx h
    rw [rep_isNon rx]
    have e : (isNon dx != neg) = (if neg then !isNon dx else isNon dx) := by cases neg <;> cases isNon dx <;> rfl
    rw [e] at h
    exact Fin.ok h R rfl
  cases neg with
  | true =>
    refine PT.imp (pt_cmp (pc_notN (ha W tk)) rfl) fun σ H Q h => ?_
    obtain ⟨Γ, w, hw, A, hf⟩ := h
    exact ⟨Γ, w, hw, A, hf.bind fun w1 dx x e1 R1 p1 rx h1 => ⟨_, rfl, key w1 dx x σ Q R1 rx h1⟩⟩
  | false =>
    refine PT.imp (pt_cmp (pc_isN (ha W tk)) rfl) fun σ H Q h => ?_
    obtain ⟨Γ, w, hw, A, hf⟩ := h
    exact ⟨Γ, w, hw, A, hf.bind fun w1 dx x e1 R1 p1 rx h1 => ⟨_, rfl, key w1 dx x σ Q R1 rx h1⟩⟩

theorem noX_truth (d : D) (S : Store) : NoX (truth d S) := by
  intro c xs S' h
  unfold truth at h
  repeat' (split at h)
  all_goals cases h
theorem isEmpty_reps {w : Wd} {ds : List D} {vs : List V} (h : Reps G w ds vs) : vs.isEmpty = ds.isEmpty := by
  cases ds with
  | nil => rw [reps_nil.mp h]; rfl
  | cons d ds => obtain ⟨v, r, rfl, _⟩ := reps_cons.mp h; rfl
theorem tru_rep {w : Wd} {d : D} {v : V} (hK : X.K = G.K) (R : Rel G w) (r : Rep G w d v) {Q : Bool → Hp → Prop} (h : Fin0 G RB w (truth d w.S) Q) : ∃ k, TruV X.K v w.H k ∧ Q k w.H := by
  have lists : ∀ xs, lstOf d w.S = some xs → Fin0 G RB w (.ok (!xs.isEmpty) w.S) Q → ∃ k, TruV X.K v w.H k ∧ Q k w.H := by
    intro xs e h
    obtain ⟨a, vs, rfl, s, q⟩ := rep_lstOf R r e
    exact ⟨!xs.isEmpty, .inl ⟨vs, by rw [hK]; exact s, by rw [isEmpty_reps q]⟩, Fin0.ok h R rfl⟩
  unfold truth at h
  split at h
  · rw [rep_non.mp r]; exact ⟨false, rfl, Fin0.ok h R rfl⟩
  · rw [rep_bl.mp r]; exact ⟨_, rfl, Fin0.ok h R rfl⟩
  · rw [rep_int.mp r]; exact ⟨_, rfl, Fin0.ok h R rfl⟩
  · rw [rep_str.mp r]
    split at h
    · rename_i hz
      exact ⟨_, ⟨by rw [← line_eq]; exact hz, rfl⟩, Fin0.ok h R rfl⟩
    · exact h.elim
  · obtain ⟨a, vs, rfl, f, q⟩ := rep_tup.mp r
    exact ⟨_, .inr (.inl ⟨vs, by rw [hK]; exact f.sq, rfl⟩), by rw [isEmpty_reps q]; exact Fin0.ok h R rfl⟩
  · split at h
    · rename_i xs e; exact lists xs e h
    · exact h.elim
theorem sim_truth (hK : X.K = G.K) (ha : SimE G X a ma) (he : ∀ whole, isTrue a X.env whole = (do let v ← whole; standAt a.pos; holding [v] (truthy v))) : SimT G X a (fun Γ S => (ma Γ S).bind truth) := fun W tk => by
  refine PT.imp (pt_truth (ha W tk) he) fun σ H Q h => ?_
  obtain ⟨Γ, w, hw, A, hf⟩ := h
  exact ⟨Γ, w, hw, A, hf.bind fun w1 dx x e1 R1 p1 rx h1 => tru_rep hK R1 rx (h1.zero (noX_truth _ _))⟩
theorem sim_notT {t : Vars → Store → Out Bool} (ha : SimT G X a t) : SimT G X (.UnaryOp .Not a pos) (fun Γ S => (t Γ S).bind fun c S1 => .ok (!c) S1) := fun W tk => by
  refine PT.imp (pt_not (ha W tk)) fun σ H Q h => ?_
  obtain ⟨Γ, w, hw, A, hf⟩ := h
  refine ⟨Γ, w, hw, A, hf.bind fun w1 k k' e1 R1 p1 rk h1 => ?_⟩
  have rk' : k = k' := rk
  subst rk'
  exact Fin.ok h1 R1 rfl
theorem sim_notV (hK : X.K = G.K) (ha : SimE G X a ma) : SimE G X (.UnaryOp .Not a pos) (fun Γ S => (ma Γ S).bind fun d S1 => (truth d S1).bind fun c S2 => .ok (.bl (!c)) S2) := fun W tk => by
  refine PE.imp (pe_notT (ha W tk)) fun σ H Q h => ?_
  obtain ⟨Γ, w, hw, A, hf⟩ := h
  refine ⟨Γ, w, hw, A, hf.bind fun w1 dx x e1 R1 p1 rx h1 => tru_rep hK R1 rx (Q := fun k H' => Q (.bl (!k)) H') ?_⟩
  refine Fin.zero (σ := σ) (W := W) (h1.bind fun w2 k k' e2 R2 p2 rk h2 => ?_) (noX_truth _ _)
  have rk' : k = k' := rk
  subst rk'
  exact Fin.ok h2 R2 (by simp [Rep])
theorem sim_ite {t : Vars → Store → Out Bool} (hc : SimT G X c t) (ha : SimE G X a ma) (hb : SimE G X b mb) : SimE G X (.IfExp c a b pos) (fun Γ S => (t Γ S).bind fun k S1 => if k then ma Γ S1 else mb Γ S1) := fun W tk => by
  refine PE.imp (pe_ifExp (hc W tk) (ha W tk) (hb W tk)) fun σ H Q h => ?_
  obtain ⟨Γ, w, hw, A, hf⟩ := h
  refine ⟨Γ, w, hw, A, hf.bind fun w1 k k' e1 R1 p1 rk h1 => ?_⟩
  have rk' : k = k' := rk
  subst rk'
  cases k with
  | true => rw [if_pos rfl] at h1 ⊢; exact ⟨Γ, w1, rfl, A.ext e1 R1, h1⟩
  | false => rw [if_neg (by decide)] at h1 ⊢; exact ⟨Γ, w1, rfl, A.ext e1 R1, h1⟩

def pyBool (isAnd : Bool) : BoolOp := if isAnd then .And else .Or
theorem simT_bool1 (isAnd : Bool) {t : Vars → Store → Out Bool} (ha : SimT G X a t) {W : WX} (tk : Takes X W) : PW X (.BoolOp (pyBool isAnd) [a] pos) (tDT G W t) := by
  cases isAnd with
  | true => exact pw_and1 (ha W tk)
  | false => exact pw_or1 (ha W tk)
theorem simT_bool2 (isAnd : Bool) {t u : Vars → Store → Out Bool} {rest : List Expr} (ha : SimT G X a t) {W : WX} (tk : Takes X W) (hb : PW X (.BoolOp (pyBool isAnd) (b :: rest) pos) (tDT G W u)) :
    PW X (.BoolOp (pyBool isAnd) (a :: b :: rest) pos) (tDT G W fun Γ S => (t Γ S).bind fun c S1 => if c == isAnd then u Γ S1 else .ok c S1) := by
  cases isAnd with
  | true =>
    refine PW.imp (pw_and (ha W tk) hb) fun σ H Q h => ?_
    obtain ⟨Γ, w, hw, A, hf⟩ := h
    refine ⟨Γ, w, hw, A, hf.bind fun w1 k k' e1 R1 p1 rk h1 => ?_⟩
    have rk' : k = k' := rk
    subst rk'
    cases k with
    | true => exact ⟨Γ, w1, rfl, A.ext e1 R1, h1⟩
    | false => exact Fin.ok (Q := Q) (show Fin G RB w1 σ (.ok false w1.S) Q W from h1) R1 rfl
  | false =>
    refine PW.imp (pw_or (ha W tk) hb) fun σ H Q h => ?_
    obtain ⟨Γ, w, hw, A, hf⟩ := h
    refine ⟨Γ, w, hw, A, hf.bind fun w1 k k' e1 R1 p1 rk h1 => ?_⟩
    have rk' : k = k' := rk
    subst rk'
    cases k with
    | true => exact Fin.ok (Q := Q) (show Fin G RB w1 σ (.ok true w1.S) Q W from h1) R1 rfl
    | false => exact ⟨Γ, w1, rfl, A.ext e1 R1, h1⟩
theorem simV_bool2 (isAnd : Bool) {rest : List Expr} (hK : X.K = G.K) (ha : SimE G X a ma) {W : WX} (tk : Takes X W) (hb : PE X (.BoolOp (pyBool isAnd) (b :: rest) pos) (tD G W mb)) :
    PE X (.BoolOp (pyBool isAnd) (a :: b :: rest) pos) (tD G W fun Γ S => (ma Γ S).bind fun d S1 => (truth d S1).bind fun c S2 => if c == isAnd then mb Γ S2 else .ok d S2) := by
  have key : ∀ (σ : St) (Q : VK) (Γ : Vars) (w1 : Wd) (dx : D) (x : V), At G σ Γ w1 → Rep G w1 dx x → Fin G (Rep G) w1 σ ((truth dx w1.S).bind fun c S2 => if c == isAnd then mb Γ S2 else .ok dx S2) Q W →
      ∃ k, TruV X.K x w1.H k ∧ (if (k == isAnd) = true then tD G W mb σ w1.H Q else Q x w1.H) := by
    intro σ Q Γ w1 dx x A rx h1
    refine tru_rep hK A.rel rx (Q := fun k H' => if (k == isAnd) = true then tD G W mb σ H' Q else Q x H') ?_
    refine Fin.zero (σ := σ) (W := W) (h1.bind fun w2 k k' e2 R2 p2 rk h2 => ?_) (noX_truth _ _)
    have rk' : k = k' := rk
    subst rk'
    by_cases hc : (k == isAnd) = true
    · rw [if_pos hc] at h2 ⊢
      exact ⟨Γ, w2, rfl, A.ext e2 R2, h2⟩
    · rw [if_neg hc] at h2 ⊢
      exact Fin.ok h2 R2 (Rep.ext e2.wk _ _ rx)
  cases isAnd with
  | true =>
    refine PE.imp (pe_andT (ha W tk) hb) fun σ H Q h => ?_
    obtain ⟨Γ, w, hw, A, hf⟩ := h
    refine ⟨Γ, w, hw, A, hf.bind fun w1 dx x e1 R1 p1 rx h1 => ?_⟩
    obtain ⟨k, t, q⟩ := key σ Q Γ w1 dx x (A.ext e1 R1) rx h1
    refine ⟨k, t, ?_⟩
    cases k <;> simpa using q
  | false =>
    refine PE.imp (pe_orT (ha W tk) hb) fun σ H Q h => ?_
    obtain ⟨Γ, w, hw, A, hf⟩ := h
    refine ⟨Γ, w, hw, A, hf.bind fun w1 dx x e1 R1 p1 rx h1 => ?_⟩
    obtain ⟨k, t, q⟩ := key σ Q Γ w1 dx x (A.ext e1 R1) rx h1
    refine ⟨k, t, ?_⟩
    cases k <;> simpa using q

theorem sim_nil : SimA G X [] (fun _ S => .ok [] S) := fun W tk => by
  refine PA.imp pa_nil fun σ H Q h => ?_
  obtain ⟨Γ, w, hw, A, hf⟩ := h
  subst hw
  exact Fin.ok hf A.rel Reps.nil
theorem sim_cons {m : Vars → Store → Out (List D)} (ha : SimE G X e ma) (hs : SimA G X es m) (hst : starEach (e :: es) X.env = (false, eval e X.env) :: starEach es X.env) :
    SimA G X (e :: es) (fun Γ S => (ma Γ S).bind fun d S1 => (m Γ S1).bind fun ds S2 => .ok (d :: ds) S2) := fun W tk => by
  refine PA.imp (pa_cons (ha W tk) (hs W tk) hst) fun σ H Q h => ?_
  obtain ⟨Γ, w, hw, A, hf⟩ := h
  refine ⟨Γ, w, hw, A, hf.bind fun w1 dx x e1 R1 p1 rx h1 => ?_⟩
  exact ⟨Γ, w1, rfl, A.ext e1 R1, h1.bind fun w2 ds xs e2 R2 p2 rs h2 => Fin.ok h2 R2 (Reps.mk (Rep.ext e2.wk _ _ rx) rs)⟩
theorem sim_tup {m : Vars → Store → Out (List D)} {k : Nat} (hs : SimA G X es m) : SimE G X (.Tuple es k pos) (fun Γ S => (m Γ S).bind fun ds S1 => if ds.length ≤ lineD then .ok (.tup ds) S1 else .stuck) := fun W tk => by
  refine PE.imp (pe_tup (hs W tk)) fun σ H Q h => ?_
  obtain ⟨Γ, w, hw, A, hf⟩ := h
  refine ⟨Γ, w, hw, A, hf.bind fun w1 ds xs e1 R1 p1 rs h1 => ?_⟩
  split at h1
  · rename_i hz
    exact ⟨by rw [length_reps rs, ← line_eq]; exact hz, fun p hp => new_tup R1 hp rs h1⟩
  · exact h1.elim
/-- behind a new list -/
theorem Fin.ofL {w : Wd} {σ : St} {xs : List D} {vs : List V} {p : Addr} {Q : VK} {W : WX} (R : Rel G w) (hp : w.H p = none) (r : Reps G w xs vs) (h : FinL G w σ (.ok xs w.S) Q W) : Q (.ref p) (upd w.H p (.lst vs)) :=
  h (addP w p vs) vs p (Ext.addP R hp) (R.addP hp) rfl rfl hp upd_same (Reps.ext (Ext.addP R hp).wk _ _ r)
theorem FinL.base {w w1 : Wd} {σ : St} {o : Out (List D)} {Q : VK} {W : WX} (e : Ext w w1) (hp : w1.pv = w.pv) (hn : ∀ p, w1.H p = none → w.H p = none) (h : FinL G w σ o Q W) : FinL G w1 σ o Q W := by
  cases o with
  | ok xs S => exact fun w' vs p e' r s q hp0 hp1 rs => h w' vs p (e.trans e') r s (q.trans (by rw [hp])) (hn p hp0) hp1 rs
  | exn c xs S => exact fun w' cls dd e' r s q er => h w' cls dd (e.trans e') r s (q.trans hp) er
  | stuck => exact h
theorem Ext.none {w w1 : Wd} (e : Ext w w1) {p : Addr} (h : w1.H p = none) : w.H p = none := by
  cases q : w.H p with
  | none => rfl
  | some o =>
    obtain ⟨o', z⟩ := e.som p o q
    rw [h] at z; cases z
end
end Dn

set_option maxHeartbeats 4000000
namespace Dn
open PySem PySem.Spec PyProof.Rows L2
section
variable {G : Gx} {X : Cx} {a b c e : Expr} {es : List Expr} {ma mb mc : DenD} {pos : Pos}

theorem sim_disp {m : Vars → Store → Out (List D)} (hs : SimA G X es m) : SimL G X (.List es pos) (fun Γ S => (m Γ S).bind fun ds S1 => if ds.length ≤ lineD then .ok ds S1 else .stuck) := fun W tk => by
  refine PE.imp (pe_lst (hs W tk)) fun σ H Q h => ?_
  obtain ⟨Γ, w, hw, A, hf⟩ := h
  refine ⟨Γ, w, hw, A, ?_⟩
  dsimp only at hf
  cases hm : m Γ w.S with
  | ok ds S =>
    rw [hm, bind_ok] at hf
    intro w1 xs e1 R1 s1 p1 rs
    subst s1
    split at hf
    · rename_i hz
      exact ⟨by rw [length_reps rs, ← line_eq]; exact hz, fun p hp => Fin.ofL R1 hp rs (FinL.base e1 p1 (fun p h => e1.none h) hf)⟩
    · exact hf.elim
  | exn c xs S => rw [hm] at hf; exact hf
  | stuck => rw [hm] at hf; exact hf
theorem sim_lf {l : Vars → Store → Out (List D)} (h : SimL G X e l) : SimE G X e (fun Γ S => (l Γ S).bind fun xs S => .ok (.lst xs) S) := fun W tk => by
  refine PE.imp (h W tk) fun σ H Q h => ?_
  obtain ⟨Γ, w, hw, A, hf⟩ := h
  refine ⟨Γ, w, hw, A, ?_⟩
  dsimp only at hf
  cases hm : l Γ w.S with
  | ok xs S =>
    rw [hm, bind_ok] at hf
    intro w' vs p e R s hpv hp0 hp rs
    have sub : ∀ a ∈ w.pv, a ∈ w'.pv := fun a h => by rw [hpv]; exact List.mem_cons_of_mem _ h
    have inp : p ∈ w'.pv := by rw [hpv]; exact List.mem_cons_self
    refine hf (dropP w' w.pv) (.ref p) (e.dropP sub fun _ h => h) (R.dropP sub) s rfl (rep_lst.mpr ⟨p, vs, rfl, .inl ⟨.inl hp, ?_⟩, Reps.dropP sub _ _ rs⟩)
    rintro (⟨i, o, _, e2⟩ | h)
    · exact R.pvn p inp i e2
    · obtain ⟨ys, q⟩ := A.rel.pvh p h
      rw [hp0] at q; cases q
  | exn c xs S => rw [hm] at hf; exact hf
  | stuck => rw [hm] at hf; exact hf
theorem sim_new {l : Vars → Store → Out (List D)} (h : SimL G X e l) : SimE G X e (fun Γ S => dNew (l Γ S)) := fun W tk => by
  refine PE.imp (h W tk) fun σ H Q h => ?_
  obtain ⟨Γ, w, hw, A, hf⟩ := h
  refine ⟨Γ, w, hw, A, ?_⟩
  dsimp only at hf
  unfold dNew at hf
  cases hm : l Γ w.S with
  | ok xs S =>
    rw [hm, bind_ok] at hf
    intro w' vs p e R s hpv hp0 hp rs
    have hn : p ∉ w.pv := fun h => by
      obtain ⟨ys, q⟩ := A.rel.pvh p h
      rw [hp0] at q; cases q
    refine hf (handP w' p xs w.pv) (.ref p) (Ext.hand A.rel R e hpv) (R.hand hpv hn hp rs) (by rw [← s]; rfl) rfl (rep_ref.mpr ⟨p, rfl, ?_⟩)
    show (w'.ρ ++ [p])[S.length]? = some p
    rw [← s, ← R.len]
    simp
  | exn c xs S => rw [hm] at hf; exact hf
  | stuck => rw [hm] at hf; exact hf

theorem noX_idx (x y : D) (S : Store) : NoX (opIdx x y S) := by
  intro c xs S' h
  unfold opIdx at h
  repeat' (split at h)
  all_goals cases h
theorem ixD_ixN (n : Nat) (i : Int) : ixD n i = ixN n i := rfl
theorem atI_of {α : Type} {xs : List α} {i : Int} {v : α} (h : ((ixD xs.length i).bind fun j => xs[j]?) = some v) : atI xs i = some v := h
theorem reps_at {w : Wd} {ds : List D} {vs : List V} {i : Int} {d : D} (r : Reps G w ds vs) (h : ((ixD ds.length i).bind fun j => ds[j]?) = some d) : ∃ v, atI vs i = some v ∧ Rep G w d v := by
  obtain ⟨j, h1, h2⟩ := Option.bind_eq_some_iff.mp h
  obtain ⟨v, e, q⟩ := r.get h2
  refine ⟨v, ?_, q⟩
  unfold atI
  rw [length_reps r, ← ixD_ixN, h1]
  exact e
theorem ix_data (hK : X.K = G.K) : IxR X (rBin G opIdx) := by
  have seqs : ∀ (pins : List (Addr × Obj)) (s : Shared) (σ : St) (x y : V) (v u : Value) (Q : VK) (w : Wd) (dx : D) (i : Int) (xs : List D), Inv X pins σ w.H s → RelV x v → RelV y u → Rel G w → Rep G w dx x → y = .int i → seqOf dx w.S = some xs →
      Fin0 G (Rep G) w (match (ixD xs.length i).bind fun j => xs[j]? with | some d => .ok d w.S | none => .stuck) Q → rIx X.K x y w.H Q := by
    intro pins s σ x y v u Q w dx i xs I rx ry R px py e hf
    split at hf
    · rename_i d hd
      obtain ⟨a, vs, rfl, sq, q⟩ := rep_seqOf R px e
      obtain ⟨vv, e1, r1⟩ := reps_at q hd
      rcases sq with sq | sq
      · exact .inl ⟨a, vs, i, vv, rfl, py, by rw [hK]; exact sq, e1, Fin0.ok hf R r1⟩
      · exact .inr (.inl ⟨a, vs, i, vv, rfl, py, by rw [hK]; exact sq, e1, Fin0.ok hf R r1⟩)
    · exact hf.elim
  intro value slice pins s σ H x y v u Q I rx ry h hs
  refine ix_seq value slice pins s σ H x y v u Q I rx ry ?_ hs
  obtain ⟨w, dx, dy, rfl, R, px, py, hf⟩ := h
  unfold opIdx at hf
  split at hf
  · rename_i z i
    split at hf
    · rename_i hz
      split at hf
      · rename_i c hc
        rw [rep_str.mp px, rep_int.mp py]
        refine .inr (.inr ⟨z, i, c, rfl, rfl, by rw [← line_eq]; exact hz, ?_, Fin0.ok hf R (by simp [Rep])⟩)
        have : z.length = z.cps.toList.length := by simp [Str.length]
        rw [this] at hc
        exact hc
      · exact hf.elim
    · exact hf.elim
  · rename_i x' i hx
    split at hf
    · rename_i xs e
      exact seqs pins s σ x y v u Q w _ i xs I rx ry R px (rep_int.mp py) e hf
    · exact hf.elim
  · exact hf.elim
theorem sim_idx (hK : X.K = G.K) (ha : SimE G X a ma) (hb : SimE G X b mb) (hs : PlainIx b) : SimE G X (.Subscript a b pos) (fun Γ S => (ma Γ S).bind fun x S1 => (mb Γ S1).bind fun y S2 => opIdx x y S2) := fun W tk =>
  PE.imp (pe_ix (ix_data hK) (ha W tk) (hb W tk) hs) fun σ H Q h => tD.two h fun w dx dy x y R px py hf => ⟨w, dx, dy, rfl, R, px, py, hf.zero (noX_idx _ _ _)⟩

theorem noX_slice (x : D) (lo hi : Option Int) (S : Store) : NoX (opSlice x lo hi S) := by
  intro c xs S' h
  unfold opSlice at h
  repeat' (split at h)
  all_goals cases h
theorem cutAt_sIx (n w : Nat) (hw : w ≤ n) (o : Option Int) : cutAt n w o = HT.sIx n w o := by
  cases o with
  | none => rfl
  | some i =>
    have h := HT.clip_eq i n w
    unfold cutAt
    dsimp only
    have h2 : ((if i < 0 then (i + (n : Int)).toNat else min i.toNat n : Nat) : Int) = ((HT.sIx n w (some i) : Nat) : Int) := by
      rw [← h]
      split <;> omega
    exact_mod_cast h2
theorem cutD_cutV {w : Wd} {ds : List D} {vs : List V} (r : Reps G w ds vs) (lo hi : Option Int) : Reps G w (cutD ds lo hi) (cutV vs lo hi) := by
  unfold cutD cutV
  rw [length_reps r, cutAt_sIx _ 0 (Nat.zero_le _), cutAt_sIx _ _ (Nat.le_refl _)]
  exact (r.drop _).take _
theorem cutD_whole {α : Type} {xs : List α} {lo hi : Option Int} (h1 : cutAt xs.length 0 lo = 0) (h2 : cutAt xs.length xs.length hi = xs.length) : cutD xs lo hi = xs := by
  unfold cutD
  rw [h1, h2]
  simp
def rSlD (G : Gx) : V → Option Int → Option Int → Hp → VK → Prop := fun x lo hi H Q => ∃ (w : Wd) (dx : D), w.H = H ∧ Rel G w ∧ Rep G w dx x ∧ Fin0 G (Rep G) w (opSlice dx lo hi w.S) Q

theorem sl_data (hK : X.K = G.K) : SlR X (rSlD G) := by
  intro pins s σ H x v vl vu lo hi sl Q I rx hs pl pu h
  obtain ⟨w, dx, rfl, R, px, hf⟩ := h
  unfold opSlice at hf
  split at hf
  · rename_i xs
    obtain ⟨a, vs, rfl, f, q⟩ := rep_tup.mp px
    refine sl_tupA pins s σ w.H _ v vl vu lo hi sl Q I rx hs pl pu ⟨a, vs, rfl, by rw [hK]; exact f.sq, fun hw => ?_, fun _ p hp => new_tup0 R hp (cutD_cutV q lo hi) hf⟩
    rw [length_reps q, ← cutAt_sIx _ 0 (Nat.zero_le _), ← cutAt_sIx _ _ (Nat.le_refl _)] at hw
    rw [cutD_whole hw.1 hw.2] at hf
    exact Fin0.ok hf R px
  · rename_i z
    split at hf
    · rename_i hz
      rw [rep_str.mp px] at rx
      refine sl_str pins s σ w.H _ v vl vu lo hi sl Q I rx hs pl pu ⟨z, rfl, by rw [← line_eq]; exact hz, ?_⟩
      have e : cutS z lo hi = ⟨(cutD z.cps.toList lo hi).toArray⟩ := by
        unfold cutS cutD
        have hl : z.length = z.cps.toList.length := by simp [Str.length]
        rw [cutAt_sIx _ 0 (Nat.zero_le _), cutAt_sIx _ _ (Nat.le_refl _), hl]
      rw [e]
      exact Fin0.ok hf R (by simp [Rep])
    · exact hf.elim
  · split at hf
    · rename_i xs e
      obtain ⟨a, vs, rfl, f, q⟩ := rep_lstOf R px e
      exact sl_list pins s σ w.H _ v vl vu lo hi sl Q I rx hs pl pu ⟨a, vs, rfl, by rw [hK]; exact f, fun p hp => new_lst0 R hp (cutD_cutV q lo hi) hf⟩
    · exact hf.elim
def SimO (G : Gx) (X : Cx) (e : Option Expr) (m : Vars → Store → Out (Option Int)) : Prop := ∀ W : WX, Takes X W → ∃ t, PO X e t ∧ ∀ σ H Q, (∃ Γ w, w.H = H ∧ At G σ Γ w ∧ Fin G (fun _ a b => a = b) w σ (m Γ w.S) Q W) → t σ H Q
theorem simO_none : SimO G X none (fun _ S => .ok none S) := fun W tk => ⟨_, po_none, fun σ H Q ⟨Γ, w, hw, A, hf⟩ => by
  subst hw
  exact Fin.ok hf A.rel rfl⟩
theorem simO_some (ha : SimE G X a ma) : SimO G X (some a) (fun Γ S => (ma Γ S).bind optInt) := fun W tk => ⟨_, po_some (ha W tk), fun σ H Q ⟨Γ, w, hw, A, hf⟩ => by
  refine ⟨Γ, w, hw, A, Fin.bind hf fun w1 dx x e1 R1 p1 rx h1 => ?_⟩
  unfold optInt at h1
  split at h1
  · exact ⟨_, rep_int.mp rx, Fin.ok h1 R1 rfl⟩
  · exact h1.elim⟩
theorem sim_slice {lo hi : Option Expr} {ml mh : Vars → Store → Out (Option Int)} {p2 : Pos} (hK : X.K = G.K) (ha : SimE G X a ma) (hl : SimO G X lo ml) (hh : SimO G X hi mh) :
    SimE G X (.Subscript a (.Slice lo hi none p2) pos) (fun Γ S => (ma Γ S).bind fun x S1 => (ml Γ S1).bind fun l S2 => (mh Γ S2).bind fun h S3 => opSlice x l h S3) := fun W tk => by
  obtain ⟨tl, hl1, hl2⟩ := hl W tk
  obtain ⟨th, hh1, hh2⟩ := hh W tk
  refine PE.imp (pe_slice (sl_data hK) (ha W tk) hl1 hh1) fun σ H Q h => ?_
  obtain ⟨Γ, w, hw, A, hf⟩ := h
  refine ⟨Γ, w, hw, A, hf.bind fun w1 dx x e1 R1 p1 rx h1 => ?_⟩
  have A1 := A.ext e1 R1
  refine hl2 _ _ _ ⟨Γ, w1, rfl, A1, h1.bind fun w2 l l' e2 R2 p2 rl h2 => ?_⟩
  have rl' : l = l' := rl
  subst rl'
  have A2 := A1.ext e2 R2
  refine hh2 _ _ _ ⟨Γ, w2, rfl, A2, h2.bind fun w3 k k' e3 R3 p3 rk h3 => ?_⟩
  have rk' : k = k' := rk
  subst rk'
  exact ⟨w3, dx, rfl, R3, Rep.ext e3.wk _ _ (Rep.ext e2.wk _ _ rx), h3.zero (noX_slice _ _ _ _)⟩

def rCall (G : Gx) (f : D → Store → Out D) : List V → Hp → VK → Prop := fun xs H Q => ∃ (w : Wd) (dx : D) (x : V), xs = [x] ∧ w.H = H ∧ Rel G w ∧ Rep G w dx x ∧ Fin0 G (Rep G) w (f dx w.S) Q
theorem noX_f1 (f : F1) (x : D) (S : Store) : NoX (opF1 f x S) := by
  intro c xs S' h
  unfold opF1 at h
  repeat' (split at h)
  all_goals cases h
theorem intsOf_map : ∀ {ds : List D} {ns : List Int}, intsOf ds = some ns → ds = ns.map D.int
  | [], ns, h => by simp [intsOf] at h; subst h; rfl
  | d :: ds, ns, h => by
    cases d <;> simp [intsOf] at h
    obtain ⟨ms, h1, rfl⟩ := h
    rw [intsOf_map h1]; rfl
theorem boolsOf_map : ∀ {ds : List D} {ns : List Bool}, boolsOf ds = some ns → ds = ns.map D.bl
  | [], ns, h => by simp [boolsOf] at h; subst h; rfl
  | d :: ds, ns, h => by
    cases d <;> simp [boolsOf] at h
    obtain ⟨ms, h1, rfl⟩ := h
    rw [boolsOf_map h1]; rfl
theorem reps_ints {w : Wd} : ∀ {ns : List Int} {vs : List V}, Reps G w (ns.map D.int) vs → vs = ns.map V.int
  | [], vs, h => reps_nil.mp h
  | n :: ns, vs, h => by
    obtain ⟨v, r, rfl, h1, h2⟩ := reps_cons.mp h
    rw [rep_int.mp h1, reps_ints h2]; rfl
theorem reps_bls {w : Wd} : ∀ {ns : List Bool} {vs : List V}, Reps G w (ns.map D.bl) vs → vs = ns.map V.bl
  | [], vs, h => reps_nil.mp h
  | n :: ns, vs, h => by
    obtain ⟨v, r, rfl, h1, h2⟩ := reps_cons.mp h
    rw [rep_bl.mp h1, reps_bls h2]; rfl
/-- a list of ints, to be read -/
theorem rep_ints {w : Wd} {d : D} {v : V} {ns : List Int} (hK : X.K = G.K) (R : Rel G w) (r : Rep G w d v) (h : (lstOf d w.S).bind intsOf = some ns) : ∃ a, v = .ref a ∧ SqL X.K w.H a (ns.map V.int) := by
  obtain ⟨ds, h1, h2⟩ := Option.bind_eq_some_iff.mp h
  obtain ⟨a, vs, rfl, s, q⟩ := rep_lstOf R r h1
  rw [intsOf_map h2] at q
  rw [reps_ints q] at s
  exact ⟨a, rfl, by rw [hK]; exact s⟩
theorem rep_bls' {w : Wd} {d : D} {v : V} {ns : List Bool} (hK : X.K = G.K) (R : Rel G w) (r : Rep G w d v) (h : (lstOf d w.S).bind boolsOf = some ns) : ∃ a, v = .ref a ∧ SqL X.K w.H a (ns.map V.bl) := by
  obtain ⟨ds, h1, h2⟩ := Option.bind_eq_some_iff.mp h
  obtain ⟨a, vs, rfl, s, q⟩ := rep_lstOf R r h1
  rw [boolsOf_map h2] at q
  rw [reps_bls q] at s
  exact ⟨a, rfl, by rw [hK]; exact s⟩
theorem maxI_spec (a : Int) (l : List Int) : maxI a l ∈ a :: l ∧ ∀ y ∈ a :: l, y ≤ maxI a l := by
  induction l generalizing a with
  | nil => exact ⟨by simp [maxI], by simp [maxI]⟩
  | cons x l ih =>
    have h : maxI a (x :: l) = maxI (if x > a then x else a) l := rfl
    obtain ⟨h1, h2⟩ := ih (if x > a then x else a)
    rw [h]
    have h3 := h2 _ List.mem_cons_self
    refine ⟨?_, fun y hy => ?_⟩
    · rcases List.mem_cons.mp h1 with e | e
      · rw [e]; split <;> simp
      · exact List.mem_cons_of_mem _ (List.mem_cons_of_mem _ e)
    · rcases List.mem_cons.mp hy with e | hy
      · subst e; split at h3 <;> (rename_i c; split <;> omega)
      · rcases List.mem_cons.mp hy with e | hy
        · subst e; split at h3 <;> (rename_i c; split <;> omega)
        · exact h2 y (List.mem_cons_of_mem _ hy)
theorem minI_spec (a : Int) (l : List Int) : minI a l ∈ a :: l ∧ ∀ y ∈ a :: l, minI a l ≤ y := by
  induction l generalizing a with
  | nil => exact ⟨by simp [minI], by simp [minI]⟩
  | cons x l ih =>
    have h : minI a (x :: l) = minI (if x < a then x else a) l := rfl
    obtain ⟨h1, h2⟩ := ih (if x < a then x else a)
    rw [h]
    have h3 := h2 _ List.mem_cons_self
    refine ⟨?_, fun y hy => ?_⟩
    · rcases List.mem_cons.mp h1 with e | e
      · rw [e]; split <;> simp
      · exact List.mem_cons_of_mem _ (List.mem_cons_of_mem _ e)
    · rcases List.mem_cons.mp hy with e | hy
      · subst e; split at h3 <;> (rename_i c; split <;> omega)
      · rcases List.mem_cons.mp hy with e | hy
        · subst e; split at h3 <;> (rename_i c; split <;> omega)
        · exact h2 y (List.mem_cons_of_mem _ hy)
theorem ok_len (hK : X.K = G.K) : CallR X (.builtin "len") (rCall G (opF1 .len)) := by
  intro pins s σ H xs us Q I rs h
  obtain ⟨w, dx, x, rfl, rfl, R, px, hf⟩ := h
  simp only [opF1] at hf
  split at hf
  · rename_i z
    split at hf
    · rename_i hz
      rw [rep_str.mp px] at rs
      exact call_len_str pins s σ w.H _ us Q I rs ⟨z, rfl, by rw [← line_eq]; exact hz, Fin0.ok hf R (by simp [Rep])⟩
    · exact hf.elim
  · split at hf
    · rename_i xs e
      obtain ⟨a, vs, rfl, sq, q⟩ := rep_seqOf R px e
      refine call_len_seq pins s σ w.H _ us Q I rs ⟨a, vs, rfl, by rw [hK]; exact sq, ?_⟩
      rw [length_reps q]
      exact Fin0.ok hf R (by simp [Rep])
    · exact hf.elim
theorem ok_abs : CallR X (.builtin "abs") (rCall G (opF1 .abs)) := by
  intro pins s σ H xs us Q I rs h
  obtain ⟨w, dx, x, rfl, rfl, R, px, hf⟩ := h
  simp only [opF1] at hf
  split at hf
  · rename_i i
    rw [rep_int.mp px] at rs
    exact call_abs pins s σ w.H _ us Q I rs ⟨i, rfl, Fin0.ok hf R (by simp [Rep])⟩
  · exact hf.elim
theorem ok_int : CallR X (.type "int") (rCall G (opF1 .int)) := by
  intro pins s σ H xs us Q I rs h
  obtain ⟨w, dx, x, rfl, rfl, R, px, hf⟩ := h
  simp only [opF1] at hf
  split at hf
  · rename_i i
    rw [rep_int.mp px] at rs
    exact call_int1 pins s σ w.H _ us Q I rs (.inl ⟨i, rfl, Fin0.ok hf R (by simp [Rep])⟩)
  · rename_i i
    rw [rep_bl.mp px] at rs
    exact call_int1 pins s σ w.H _ us Q I rs (.inr ⟨i, rfl, Fin0.ok hf R (by simp [Rep])⟩)
  · exact hf.elim
theorem ok_tuple (hK : X.K = G.K) : CallR X (.type "tuple") (rCall G (opF1 .tuple)) := by
  intro pins s σ H xs us Q I rs h
  obtain ⟨w, dx, x, rfl, rfl, R, px, hf⟩ := h
  simp only [opF1] at hf
  split at hf
  · rename_i xs e
    unfold seqOf at e
    split at e
    · cases e
      obtain ⟨a, vs, rfl, f, q⟩ := rep_tup.mp px
      exact call_tuple_of pins s σ w.H _ us Q I rs ⟨a, vs, rfl, .inr ⟨by rw [hK]; exact f.sq, Fin0.ok hf R px⟩⟩
    · obtain ⟨a, vs, rfl, f, q⟩ := rep_lstOf R px e
      exact call_tuple_of pins s σ w.H _ us Q I rs ⟨a, vs, rfl, .inl ⟨by rw [hK]; exact f, fun p hp => new_tup0 R hp q hf⟩⟩
  · exact hf.elim
theorem ok_sum (hK : X.K = G.K) (hc : X.calm = true) : CallR X (.builtin "sum") (rCall G (opF1 .sum)) := by
  intro pins s σ H xs us Q I rs h
  obtain ⟨w, dx, x, rfl, rfl, R, px, hf⟩ := h
  simp only [opF1] at hf
  split at hf
  · rename_i ns e
    obtain ⟨a, rfl, sq⟩ := rep_ints hK R px e
    exact cr_sum hc pins s σ w.H _ us Q I rs ⟨a, ns, rfl, sq, Fin0.ok hf R (by simp [Rep])⟩
  · exact hf.elim
theorem ok_max (hK : X.K = G.K) (hc : X.calm = true) : CallR X (.builtin "max") (rCall G (opF1 .max)) := by
  intro pins s σ H xs us Q I rs h
  obtain ⟨w, dx, x, rfl, rfl, R, px, hf⟩ := h
  simp only [opF1] at hf
  split at hf
  · rename_i n ns e
    obtain ⟨a, rfl, sq⟩ := rep_ints hK R px e
    refine cr_max hc pins s σ w.H _ us Q I rs ⟨a, n :: ns, rfl, sq, by simp, fun m h1 h2 => ?_⟩
    obtain ⟨g1, g2⟩ := maxI_spec n ns
    have em : m = maxI n ns := Int.le_antisymm (g2 m h1) (h2 _ g1)
    rw [em]
    exact Fin0.ok hf R (by simp [Rep])
  · exact hf.elim
theorem ok_all (hK : X.K = G.K) (hc : X.calm = true) : CallR X (.builtin "all") (rCall G (opF1 .all)) := by
  intro pins s σ H xs us Q I rs h
  obtain ⟨w, dx, x, rfl, rfl, R, px, hf⟩ := h
  simp only [opF1] at hf
  split at hf
  · rename_i ns e
    obtain ⟨a, rfl, sq⟩ := rep_bls' hK R px e
    exact cr_all hc pins s σ w.H _ us Q I rs ⟨a, ns, rfl, sq, Fin0.ok hf R (by simp [Rep])⟩
  · exact hf.elim
theorem ok_any (hK : X.K = G.K) (hc : X.calm = true) : CallR X (.builtin "any") (rCall G (opF1 .any)) := by
  intro pins s σ H xs us Q I rs h
  obtain ⟨w, dx, x, rfl, rfl, R, px, hf⟩ := h
  simp only [opF1] at hf
  split at hf
  · rename_i ns e
    obtain ⟨a, rfl, sq⟩ := rep_bls' hK R px e
    exact cr_any hc pins s σ w.H _ us Q I rs ⟨a, ns, rfl, sq, Fin0.ok hf R (by simp [Rep])⟩
  · exact hf.elim
mutual
theorem noDict : ∀ {d : Dn.D} {p : PyData}, pyD d = some p → p.hasDict = false
  | .non, _, h => by cases h; simp [PyData.hasDict]
  | .bl _, _, h => by cases h; simp [PyData.hasDict]
  | .int _, _, h => by cases h; simp [PyData.hasDict]
  | .str _, _, h => by cases h; simp [PyData.hasDict]
  | .tup xs, p, h => by
    simp only [pyD, Option.map_eq_some_iff] at h
    obtain ⟨ps, h1, rfl⟩ := h
    simp only [PyData.hasDict]; exact noDicts h1
  | .lst xs, p, h => by
    simp only [pyD, Option.map_eq_some_iff] at h
    obtain ⟨ps, h1, rfl⟩ := h
    simp only [PyData.hasDict]; exact noDicts h1
  | .obj _ _, _, h => by simp [pyD] at h
  | .ref _, _, h => by simp [pyD] at h
  | .fn _, _, h => by simp [pyD] at h
theorem noDicts : ∀ {ds : List Dn.D} {ps : List PyData}, pyDs ds = some ps → PyData.hasDictAll ps = false
  | [], _, h => by cases h; simp [PyData.hasDictAll]
  | d :: ds, ps, h => by
    unfold pyDs at h
    split at h
    · rename_i p q h1 h2
      cases h
      simp only [PyData.hasDictAll, Bool.or_eq_false_iff]
      exact ⟨noDict h1, noDicts h2⟩
    · cases h
end
mutual
theorem reads_of {P : Program} {wd : World} {w : Wd} {h : Heap} (hok : HOk P wd w.H h) (KX : G.K.In h) : ∀ {d : Dn.D} {p : PyData} {v : V} {u : Value}, pyD d = some p → Rep G w d v → RelV v u → ∃ as, Reads h u p as
  | .non, _, v, u, e, r, ru => by
    cases e; rw [rep_non.mp r] at ru; cases (show u = Value.none from ru); exact ⟨_, .none⟩
  | .bl b, _, v, u, e, r, ru => by
    cases e; rw [rep_bl.mp r] at ru; cases (show u = Value.bool b from ru); exact ⟨_, .bool b⟩
  | .int i, _, v, u, e, r, ru => by
    cases e; rw [rep_int.mp r] at ru; obtain ⟨t, rfl⟩ := (show ∃ t, u = Value.int i t from ru); exact ⟨_, .int i t⟩
  | .str x, _, v, u, e, r, ru => by
    cases e; rw [rep_str.mp r] at ru; obtain ⟨t, rfl⟩ := (show ∃ t, u = Value.str x t from ru); exact ⟨_, .str x t⟩
  | .tup xs, p, v, u, e, r, ru => by
    simp only [pyD, Option.map_eq_some_iff] at e
    obtain ⟨ps, h1, rfl⟩ := e
    obtain ⟨a, vs, rfl, f, q⟩ := rep_tup.mp r
    cases (show u = Value.ref a from ru)
    obtain ⟨its, o, n, rv, e1, e2, e3⟩ := sqT_at hok KX f.sq
    obtain ⟨as, q2⟩ := readsAll_of hok KX h1 q rv
    exact ⟨_, .tuple e1 e2 e3 q2⟩
  | .lst xs, p, v, u, e, r, ru => by
    simp only [pyD, Option.map_eq_some_iff] at e
    obtain ⟨ps, h1, rfl⟩ := e
    obtain ⟨a, vs, rfl, f, q⟩ := rep_lst.mp r
    cases (show u = Value.ref a from ru)
    obtain ⟨its, o, n, rv, e1, e2, e3⟩ := sqL_at hok KX f.sq
    obtain ⟨as, q2⟩ := readsAll_of hok KX h1 q rv
    exact ⟨_, .list e1 e2 e3 q2⟩
  | .obj _ _, _, _, _, e, _, _ => by simp [pyD] at e
  | .ref _, _, _, _, e, _, _ => by simp [pyD] at e
  | .fn _, _, _, _, e, _, _ => by simp [pyD] at e
theorem readsAll_of {P : Program} {wd : World} {w : Wd} {h : Heap} (hok : HOk P wd w.H h) (KX : G.K.In h) : ∀ {ds : List Dn.D} {ps : List PyData} {vs : List V} {us : List Value}, pyDs ds = some ps → Reps G w ds vs → Vals vs us → ∃ as, ReadsAll h us ps as
  | [], _, vs, us, e, r, rv => by
    cases e
    rw [reps_nil.mp r] at rv
    cases rv
    exact ⟨_, .nil⟩
  | d :: ds, ps, vs, us, e, r, rv => by
    unfold pyDs at e
    split at e
    · rename_i p q h1 h2
      cases e
      obtain ⟨v, rr, rfl, r1, r2⟩ := reps_cons.mp r
      cases rv with
      | cons x y =>
        obtain ⟨as, a1⟩ := reads_of hok KX h1 r1 x
        obtain ⟨bs, a2⟩ := readsAll_of hok KX h2 r2 y
        exact ⟨_, .cons a1 a2⟩
    · cases e
end
mutual
theorem unpy_pyD : ∀ {d : Dn.D} {p : PyData}, pyD d = some p → unpy p = d
  | .non, _, e => by cases e; simp [unpy]
  | .bl _, _, e => by cases e; simp [unpy]
  | .int _, _, e => by cases e; simp [unpy]
  | .str _, _, e => by cases e; simp [unpy]
  | .tup xs, p, e => by
    simp only [pyD, Option.map_eq_some_iff] at e
    obtain ⟨ps, h1, rfl⟩ := e
    simp only [unpy, unpys_pyDs h1]
  | .lst xs, p, e => by
    simp only [pyD, Option.map_eq_some_iff] at e
    obtain ⟨ps, h1, rfl⟩ := e
    simp only [unpy, unpys_pyDs h1]
  | .obj _ _, _, e => by simp [pyD] at e
  | .ref _, _, e => by simp [pyD] at e
  | .fn _, _, e => by simp [pyD] at e
theorem unpys_pyDs : ∀ {ds : List Dn.D} {ps : List PyData}, pyDs ds = some ps → unpys ps = ds
  | [], _, e => by cases e; simp [unpys]
  | d :: ds, ps, e => by
    unfold pyDs at e
    split at e
    · rename_i p q h1 h2
      cases e
      simp only [unpys, unpy_pyD h1, unpys_pyDs h2]
    · cases e
end
theorem pyDs_get : ∀ {ds : List Dn.D} {ps : List PyData}, pyDs ds = some ps → ps.length = ds.length ∧ ∀ (i : Nat) (p : PyData), ps[i]? = some p → ∃ d, ds[i]? = some d ∧ pyD d = some p
  | [], _, e => by cases e; exact ⟨rfl, fun i p h => by simp at h⟩
  | d :: ds, ps, e => by
    unfold pyDs at e
    split at e
    · rename_i p q h1 h2
      cases e
      obtain ⟨l, g⟩ := pyDs_get h2
      refine ⟨by simp [l], fun i p' h => ?_⟩
      cases i with
      | zero => simp at h; subst h; exact ⟨d, rfl, h1⟩
      | succ i => simp at h; obtain ⟨d', z1, z2⟩ := g i p' h; exact ⟨d', by simpa using z1, z2⟩
    · cases e
theorem notNon_ok {p : PyData} (h : notNon p = true) : p ≠ .none := fun e => by subst e; cases h
theorem ok_min (hK : X.K = G.K) (un : X.A.units + 65 < cLine) (hc : X.calm = true) : CallR X (.builtin "min") (rCall G (opF1 .min)) := by
  intro pins s σ H xs us Q I rs h
  obtain ⟨w, dx, x, rfl, rfl, R, px, hf⟩ := h
  simp only [opF1] at hf
  split at hf
  · rename_i n ns e
    obtain ⟨a, rfl, sq⟩ := rep_ints hK R px e
    refine cr_min hc pins s σ w.H _ us Q I rs ⟨a, n :: ns, rfl, sq, by simp, fun m h1 h2 => ?_⟩
    obtain ⟨g1, g2⟩ := minI_spec n ns
    have em : m = minI n ns := Int.le_antisymm (h2 _ g1) (g2 m h1)
    rw [em]
    exact Fin0.ok hf R (by simp [Rep])
  · split at hf
    · rename_i p ps e
      split at hf
      · rename_i hcnd
        simp only [Bool.and_eq_true, decide_eq_true_eq] at hcnd
        obtain ⟨⟨h1, h2⟩, h3⟩ := hcnd
        cases hl : lstOf dx w.S with
        | none => rw [hl] at e; cases e
        | some ds =>
        rw [hl] at e
        have e' : pyDs ds = some (p :: ps) := e
        obtain ⟨a, vs, rfl, sq, q⟩ := rep_lstOf R px hl
        obtain ⟨u, rfl, rx⟩ := vals1 rs
        cases (show u = Value.ref a from rx)
        obtain ⟨its, rv, pl, hz⟩ := I.list (by rw [hK]; exact sq)
        obtain ⟨as, ra⟩ := readsAll_of I.hok (by rw [← hK]; exact I.kIn) e' q rv
        have al : PySem.W.AlikeAll (p :: ps) := ⟨fun x hx y hy => List.all_eq_true.mp (List.all_eq_true.mp h1 x hx) y hy, fun x hx => notNon_ok (List.all_eq_true.mp h2 x hx)⟩
        refine PySem.W.min_list_data (I.ok.hd hc) pl.isList (x := p) (xs := ps) (by simpa using ra) al (by omega) fun i v h' tk bs hv rd kp => ?_
        obtain ⟨hlen, hget⟩ := pyDs_get e'
        have hi : i < its.length := by simpa using (List.getElem?_eq_some_iff.mp (show its[i]? = some v by simpa using hv)).1
        have hv' : its[i]? = some v := by simpa using hv
        have hin : i < ds.length := by rw [q.length, rv.length]; exact hi
        have hip : i < (p :: ps).length := by rw [hlen]; exact hin
        obtain ⟨d, hd1, hd2⟩ := hget i (p :: ps)[i] (List.getElem?_eq_getElem hip)
        obtain ⟨v1, hv1, rv1⟩ := q.get hd1
        obtain ⟨v2, hv2, rv2⟩ := rv.get hv1
        rw [hv'] at hv2
        cases hv2
        obtain ⟨cs, r1⟩ := reads_of I.hok (by rw [← hK]; exact I.kIn) hd2 rv1 rv2
        have mem1 : (p :: ps)[i] ∈ p :: ps := List.getElem_mem hip
        have mem2 : PySem.W.minD p ps ∈ p :: ps := by
          have key : ∀ (l : List PyData) (a : PyData), l.foldl (fun a y => if PySem.W.dataLt y a then y else a) a = a ∨ l.foldl (fun a y => if PySem.W.dataLt y a then y else a) a ∈ l := by
            intro l
            induction l with
            | nil => intro a; exact .inl rfl
            | cons b l ih =>
              intro a
              rw [List.foldl_cons]
              rcases ih (if PySem.W.dataLt b a then b else a) with z | z
              · rw [z]
                split
                · exact .inr List.mem_cons_self
                · exact .inl rfl
              · exact .inr (List.mem_cons_of_mem _ z)
          rcases key ps p with z | z
          · exact List.mem_cons.mpr (.inl z)
          · exact List.mem_cons_of_mem _ z
        have eq1 : (p :: ps)[i] = PySem.W.minD p ps := PySem.W.alike_unique _ _ v cs bs (al.1 _ mem1 _ mem2) (PySem.W.reads_keeps kp r1) rd
        have ed : unpy (PySem.W.minD p ps) = d := by rw [← eq1]; exact unpy_pyD hd2
        rw [ed] at hf
        exact ⟨v1, w.H, I.kept kp, rv2, Fin0.ok hf R rv1⟩
      · exact hf.elim
    · exact hf.elim
theorem ok_repr (hK : X.K = G.K) (gd : X.A.guards = some []) (un : X.A.units + 65 < cLine) : CallR X (.builtin "repr") (rCall G (opF1 .repr)) := by
  intro pins s σ H xs us Q I rs h
  obtain ⟨w, dx, x, rfl, rfl, R, px, hf⟩ := h
  simp only [opF1] at hf
  split at hf
  case h_2 => exact hf.elim
  rename_i p hp
  split at hf
  case isFalse => exact hf.elim
  rename_i hc
  simp only [Bool.and_eq_true, decide_eq_true_eq] at hc
  obtain ⟨⟨h1, h2⟩, h3⟩ := hc
  cases rs with
  | cons ru rn =>
  cases rn
  rename_i u
  have hz : p.shown.length ≤ sizeLine := by rw [← line_eq]; exact h3
  have fin := Fin0.ok hf R (b := V.str p.shown) (by simp [Rep])
  cases dx with
  | non =>
    rw [rep_non.mp px] at ru; cases (show u = Value.none from ru); cases hp
    exact PySem.P.repr_of_none ⟨.str _, w.H, I.tok _, ⟨_, rfl⟩, by simpa [PyData.shown] using fin⟩
  | bl b =>
    rw [rep_bl.mp px] at ru; cases (show u = Value.bool b from ru); cases hp
    exact PySem.P.repr_of_bool ⟨.str _, w.H, I.tok _, ⟨_, rfl⟩, by simpa [PyData.shown] using fin⟩
  | int i =>
    rw [rep_int.mp px] at ru; obtain ⟨t, rfl⟩ := (show ∃ t, u = Value.int i t from ru); cases hp
    exact PySem.P.repr_of_int (by simpa [PyData.showable] using h1) ⟨.str _, w.H, I.tok _, ⟨_, rfl⟩, by simpa [PyData.shown] using fin⟩
  | str z =>
    rw [rep_str.mp px] at ru; obtain ⟨t, rfl⟩ := (show ∃ t, u = Value.str z t from ru); cases hp
    exact PySem.P.repr_of_str (hsz := by simpa [PyData.shown] using hz) ⟨.str _, w.H, I.tok _, ⟨_, rfl⟩, by simpa [PyData.shown] using fin⟩
  | tup ys =>
    obtain ⟨as, rd⟩ := reads_of I.hok (by rw [← hK]; exact I.kIn) hp px ru
    obtain ⟨a, vs, rfl, f, q⟩ := rep_tup.mp px
    cases (show u = Value.ref a from ru)
    exact PySem.repr_of_reads' rd h1 (PyData.noDict_hsm (noDict hp)) gd (by omega) (fun _ _ e => e) (fun h' t tk kp => ⟨.str _, w.H, I.kept kp, ⟨_, rfl⟩, fin⟩) hz
  | lst ys =>
    obtain ⟨as, rd⟩ := reads_of I.hok (by rw [← hK]; exact I.kIn) hp px ru
    obtain ⟨a, vs, rfl, f, q⟩ := rep_lst.mp px
    cases (show u = Value.ref a from ru)
    exact PySem.repr_of_reads' rd h1 (PyData.noDict_hsm (noDict hp)) gd (by omega) (fun _ _ e => e) (fun h' t tk kp => ⟨.str _, w.H, I.kept kp, ⟨_, rfl⟩, fin⟩) hz
  | obj c ys => simp [pyD] at hp
  | ref i => simp [pyD] at hp
  | fn i => simp [pyD] at hp
theorem ok_str : CallR X (.type "str") (rCall G (opF1 .str)) := by
  intro pins s σ H xs us Q I rs h
  obtain ⟨w, dx, x, rfl, rfl, R, px, hf⟩ := h
  simp only [opF1] at hf
  split at hf
  · rename_i i
    split at hf
    · rename_i hz
      rw [rep_int.mp px] at rs
      exact call_str_int pins s σ w.H _ us Q I rs ⟨i, rfl, hz, Fin0.ok hf R (by simp [Rep])⟩
    · exact hf.elim
  · rename_i z
    rw [rep_str.mp px] at rs
    exact SkE.call_str_str pins s σ w.H _ us Q I rs ⟨z, rfl, Fin0.ok hf R (by simp [Rep])⟩
  · exact hf.elim
/-- how Python names them: is it a class?, its name -/
def F1.py : F1 → Bool × String
  | .len => (false, "len") | .abs => (false, "abs") | .int => (true, "int") | .tuple => (true, "tuple") | .list => (true, "list") | .sum => (false, "sum") | .max => (false, "max") | .min => (false, "min") | .all => (false, "all") | .any => (false, "any") | .repr => (false, "repr") | .str => (true, "str")
def pyV (p : Bool × String) : Value := if p.1 then .type p.2 else .builtin p.2
/-- called in an except suite too -/
def F1.hot : F1 → Bool
  | .len => true | .abs => true | .int => true | .tuple => true | .list => true | .repr => true | .str => true | _ => false
theorem ok_f1 (hK : X.K = G.K) (gd : X.A.guards = some []) (un : X.A.units + 65 < cLine) (f : F1) (hf : f ≠ .list) (hc : X.calm = true ∨ f.hot = true) : CallR X (pyV f.py) (rCall G (opF1 f)) := by
  cases f with
  | len => exact ok_len hK
  | abs => exact ok_abs
  | int => exact ok_int
  | tuple => exact ok_tuple hK
  | list => exact absurd rfl hf
  | sum => exact ok_sum hK (hc.resolve_right (by decide))
  | max => exact ok_max hK (hc.resolve_right (by decide))
  | min => exact ok_min hK un (hc.resolve_right (by decide))
  | all => exact ok_all hK (hc.resolve_right (by decide))
  | any => exact ok_any hK (hc.resolve_right (by decide))
  | repr => exact ok_repr hK gd un
  | str => exact ok_str
/-- a built-in by its name -/
theorem pe_py {x : Str} {p : Pos} {pv : Bool × String} {r : List V → Hp → VK → Prop} {t : TA} (hc : CallR X (pyV pv) r) (hg : Gl X x) (hm : X.mg x = none) (hv : bootBuiltins x = some (pyV pv)) (ha : PA X (e :: es) t) (hn : x ≠ "__name__") (hdb : (x == ("__debug__" : Str)) = false)
    (he : starEach (e :: es) X.env = (false, eval e X.env) :: starEach es X.env) (hpl : (backTo pos (starEach es X.env)).any (·.1) = false) : PE X (.Call (.Name x p) (e :: es) [] pos) (tCB r t) := by
  obtain ⟨b, n⟩ := pv
  cases b with
  | true => exact pe_callTy hc hg hm hv ha hn hdb he hpl
  | false => exact pe_callB hc hg hm hv ha hn hdb he hpl
theorem sim_b1 {f : F1} {x : Str} {p : Pos} (gd : X.A.guards = some []) (un : X.A.units + 65 < cLine) (hK : X.K = G.K) (hf : f ≠ .list) (hc : X.calm = true ∨ f.hot = true) (hg : Gl X x) (hm : X.mg x = none) (hv : bootBuiltins x = some (pyV f.py)) (ha : SimE G X a ma) (hn : x ≠ "__name__") (hdb : (x == ("__debug__" : Str)) = false)
    (he : starEach [a] X.env = (false, eval a X.env) :: starEach [] X.env) : SimE G X (.Call (.Name x p) [a] [] pos) (fun Γ S => (ma Γ S).bind (opF1 f)) := fun W tk => by
  refine PE.imp (pe_py (ok_f1 hK gd un f hf hc) hg hm hv (pa_cons (ha W tk) pa_nil he) hn hdb he rfl) fun σ H Q h => ?_
  obtain ⟨Γ, w, hw, A, hf⟩ := h
  exact ⟨Γ, w, hw, A, hf.bind fun w1 dx x e1 R1 p1 rx h1 => ⟨w1, dx, x, rfl, rfl, R1, rx, h1.zero (noX_f1 _ _ _)⟩⟩
/-- list(e): a new list -/
theorem sim_list {x : Str} {p : Pos} (hK : X.K = G.K) (hg : Gl X x) (hm : X.mg x = none) (hv : bootBuiltins x = some (pyV F1.list.py)) (ha : SimE G X a ma) (hn : x ≠ "__name__") (hdb : (x == ("__debug__" : Str)) = false)
    (he : starEach [a] X.env = (false, eval a X.env) :: starEach [] X.env) : SimL G X (.Call (.Name x p) [a] [] pos) (fun Γ S => (ma Γ S).bind fun x S1 => match seqOf x S1 with | some xs => .ok xs S1 | none => .stuck) := fun W tk => by
  refine PE.imp (pe_callTy (T := "list") call_list_of hg hm hv (pa_cons (ha W tk) pa_nil he) hn hdb he rfl) fun σ H Q h => ?_
  obtain ⟨Γ, w, hw, A, hf⟩ := h
  refine ⟨Γ, w, hw, A, ?_⟩
  dsimp only at hf
  cases hm : ma Γ w.S with
  | ok d S =>
    rw [hm, bind_ok] at hf
    intro w1 x e1 R1 s1 p1 rx
    subst s1
    split at hf
    · rename_i xs e
      obtain ⟨a, vs, rfl, sq, q⟩ := rep_seqOf R1 rx e
      exact ⟨a, vs, rfl, by rw [hK]; exact sq, fun p hp => Fin.ofL R1 hp q (FinL.base e1 p1 (fun p h => e1.none h) hf)⟩
    · exact hf.elim
  | exn c xs S => rw [hm] at hf; exact hf
  | stuck => rw [hm] at hf; exact hf
theorem sim_mx {isMax : Bool} {x : Str} {p : Pos} (hc : X.calm = true) (hg : Gl X x) (hm : X.mg x = none) (hv : bootBuiltins x = some (pyV (false, if isMax then "max" else "min"))) (ha : SimE G X a ma) (hb : SimE G X b mb) (hn : x ≠ "__name__") (hdb : (x == ("__debug__" : Str)) = false)
    (he : starEach [a, b] X.env = (false, eval a X.env) :: starEach [b] X.env) (he2 : starEach [b] X.env = (false, eval b X.env) :: starEach [] X.env) :
    SimE G X (.Call (.Name x p) [a, b] [] pos) (fun Γ S => (ma Γ S).bind fun x S1 => (mb Γ S1).bind fun y S2 => opMx isMax x y S2) := fun W tk => by
  have key : CallR X (pyV (false, if isMax then "max" else "min")) (fun xs H Q => ∃ i j, xs = [.int i, .int j] ∧ Q (.int (if isMax then (if j > i then j else i) else (if j < i then j else i))) H) := by
    cases isMax with
    | true => exact call_max2 hc
    | false => exact call_min2 hc
  refine PE.imp (pe_py key hg hm hv (pa_cons (ha W tk) (pa_cons (hb W tk) pa_nil he2) he) hn hdb he (by rw [he2]; rfl)) fun σ H Q h => ?_
  obtain ⟨Γ, w, hw, A, hf⟩ := h
  refine ⟨Γ, w, hw, A, hf.bind fun w1 dx x e1 R1 p1 rx h1 => ?_⟩
  refine ⟨Γ, w1, rfl, A.ext e1 R1, h1.bind fun w2 dy y e2 R2 p2 ry h2 => ?_⟩
  unfold opMx at h2
  split at h2
  · rename_i i j
    exact ⟨i, j, by rw [rep_int.mp rx, rep_int.mp ry], Fin.ok h2 R2 (by simp [Rep])⟩
  · exact h2.elim
end
end Dn

set_option maxHeartbeats 4000000
namespace PySem
open Sem (wp)
open AutoSeq1 (wpAny_loadPart')
theorem dn_meets_enum {v : Value} {o : Obj} {Hh : Heap → Prop} (B : Begins v o Hh) :
    Meets (Builtin.«enumerate.__new__» ⟨[.type "enumerate", v], []⟩) (fun _ R s => Hh s.heap ∧ R (.ok (.ret (.ref (s.heap.push o).objs.size)))
        { s with heap := (s.heap.push o).push { cls := .type "enumerate", data := .fields #[.none, .bool false, .ref s.heap.objs.size, rawInt 0, .none, .none] } }) :=
  .of_wp fun prog w A R s h => by
    obtain ⟨hp, g, d, tk, os⟩ := s; obtain ⟨h1, h⟩ := h
    have hsub := sub_enumerate
    have q1 : ∀ {A' : Around} {E : Value → Shared → Prop} {Q : Value → Shared → Prop}, Q (.ref hp.objs.size) ⟨hp.push o, g, d, tk, os⟩ → wpAny (model prog w) A' (pyIter v) Q E ⟨hp, g, d, tk, os⟩ :=
      fun q => B.iter prog w _ _ ⟨hp, g, d, tk, os⟩ _ h1 q
    wp_walk using q1
    refine wpAny_stack_any fun st => wpAny_pure ?_
    split
    · rename_i c _ _ _ _ _
      cases (c == Value.type "enumerate")
      · wp_walk using q1
        exact ⟨_, rfl, h⟩
      · wp_walk using q1
        exact ⟨_, rfl, h⟩
    · wp_walk using q1
      exact ⟨_, rfl, h⟩
section
variable {prog : Program} {w : World} {A : Around} {E : Value → Shared → Prop} {s : Shared}
theorem dn_enum_begins {v : Value} {o : Obj} {Hh : Heap → Prop} {Q : Value → Shared → Prop} (B : Begins v o Hh) (h1 : Hh s.heap)
    (h : ∀ h', IsEnum h' (s.heap.objs.size + 1) s.heap.objs.size 0 .none → h'.get? s.heap.objs.size = some o → h'.objs.size = s.heap.objs.size + 2 →
      (∀ b o, s.heap.get? b = some o → h'.get? b = some o) → Q (.ref (s.heap.objs.size + 1)) { s with heap := h' }) :
    wpAny (model prog w) A (call (.type "enumerate") [v]) Q E s := by
  refine callType_new F.called_enumerate (by decide) (F.typeCall_enumerate_1 _) (F.newCall_enumerate_1 _) (fun obj => F.args_object_init_2 obj _) F.entry_enumerate_new
    (dn_meets_enum B) ⟨h1, ?_⟩
  have hz : (s.heap.push o).objs.size = s.heap.objs.size + 1 := Heap.size_push ..
  show _ ∧ _
  rw [hz]
  have he : IsEnum ((s.heap.push o).push { cls := .type "enumerate", data := .fields #[.none, .bool false, .ref s.heap.objs.size, rawInt 0, .none, .none] }) (s.heap.objs.size + 1) s.heap.objs.size 0 .none := by
    have := Heap.get?_push_size (s.heap.push o) (o := { cls := .type "enumerate", data := .fields #[.none, .bool false, .ref s.heap.objs.size, rawInt 0, .none, .none] }) rfl
    rw [hz] at this; exact this
  refine ⟨⟨_, he, rfl⟩, h _ he (Heap.get?_push_of_some _ (Heap.get?_push_size _ B.free)) (by rw [Heap.size_push, hz]) fun b o x => Heap.get?_push_of_some _ (Heap.get?_push_of_some _ x)⟩
end
end PySem
namespace Dn
open PySem PySem.Spec PyProof.Rows L2

def Src.get (s : Src) (len : Nat) (S : Store) (k : Nat) : Option D := match s with
  | .items xs => xs[k]?
  | .hnd i => match S[i]? with
    | some (some (.lst xs)) => if xs.length = len then xs[k]? else none
    | _ => none
def Src.fine (s : Src) (len : Nat) (S : Store) : Bool := match s with
  | .items xs => true
  | .hnd i => match S[i]? with
    | some (some (.lst xs)) => decide (xs.length = len)
    | _ => false
/-- J yields the n items of s, as long as what stood at w stands -/
structure YG (G : Gx) (w : Wd) (s : Src) (n : Nat) (J : It) : Prop where
  len : n ≤ lineD
  cnt : (items s w.S).map (·.length) = some n
  go : ∀ (i : Nat) (w2 : Wd), Ext w w2 → Rel G w2 → i < n → s.fine n w2.S = true → J.go i w2.H
  yl : ∀ (i : Nat) (w2 : Wd) (x : V) (H2 : Hp), Ext w w2 → Rel G w2 → J.yld i w2.H x H2 → i < n → s.fine n w2.S = true → ∃ (w3 : Wd) (d : D), w3.H = H2 ∧ Ext w2 w3 ∧ Rel G w3 ∧ w3.S = w2.S ∧ w3.pv = w2.pv ∧ s.get n w2.S i = some d ∧ Rep G w3 d x
  st : ∀ (w2 : Wd), Ext w w2 → Rel G w2 → s.fine n w2.S = true → J.stop n w2.H
def Walks (G : Gx) (w : Wd) (s : Src) (J : It) : Prop := ∃ n, YG G w s n J
def FinI (G : Gx) (w : Wd) (σ : St) (o : Out Src) (R : It → Hp → Prop) (W : WX) : Prop := match o with
  | .ok s S => ∀ (w' : Wd) (J : It), Ext w w' → Rel G w' → w'.S = S → w'.pv = w.pv → Walks G w' s J → R J w'.H
  | .exn c xs S => ∀ (w' : Wd) (cls : Value) (dd : Option Addr), Ext w w' → Rel G w' → w'.S = S → w'.pv = w.pv → ErrR G w' cls dd c xs → W cls dd σ w'.H
  | .stuck => False
def iD (G : Gx) (W : WX) (m : Vars → Store → Out Src) : TI := fun σ H R => ∃ Γ w, w.H = H ∧ At G σ Γ w ∧ FinI G w σ (m Γ w.S) R W
def SimI (G : Gx) (X : Cx) (tg e : Expr) (m : Vars → Store → Out Src) : Prop := ∀ W : WX, Takes X W → PI X tg e (iD G W m)

section
variable {G : Gx} {X : Cx} {a b c e tg : Expr} {es : List Expr} {ma mb mc : DenD} {pos : Pos}
theorem PI.imp {wi wi' : TI} (h : PI X tg e wi) (hi : ∀ σ H R, wi' σ H R → wi σ H R) : PI X tg e wi' := ⟨fun pins s σ H R I q => h.run pins s σ H R I (hi _ _ _ q)⟩
theorem FinI.bind {α β : Type} {R : Wd → α → β → Prop} {w : Wd} {σ : St} {o : Out α} {f : α → Store → Out Src} {Q : β → Hp → Prop} {R2 : It → Hp → Prop} {W : WX} (h : FinI G w σ (o.bind f) R2 W)
    (hq : ∀ (w' : Wd) (a : α) (b : β), Ext w w' → Rel G w' → w'.pv = w.pv → R w' a b → FinI G w' σ (f a w'.S) R2 W → Q b w'.H) : Fin G R w σ o Q W := by
  cases o with
  | ok a S =>
    intro w' b e r s p q
    refine hq w' a b e r p q ?_
    rw [s]
    have h' : FinI G w σ (f a S) R2 W := h
    cases hf : f a S with
    | ok s2 S2 => rw [hf] at h'; exact fun w2 J e2 r2 s2' p2 y => h' w2 J (e.trans e2) r2 s2' (p2.trans p) y
    | exn c xs S2 => rw [hf] at h'; exact fun w2 cls dd e2 r2 s2' p2 y => h' w2 cls dd (e.trans e2) r2 s2' (p2.trans p) y
    | stuck => rw [hf] at h'; exact h'
  | exn c xs S => exact h
  | stuck => exact h
theorem FinI.ok {w : Wd} {σ : St} {s : Src} {R : It → Hp → Prop} {W : WX} {J : It} (h : FinI G w σ (.ok s w.S) R W) (R0 : Rel G w) (y : Walks G w s J) : R J w.H := h w J (Ext.refl w) R0 rfl rfl y

theorem yg_list {w : Wd} {p : Addr} {vs : List V} {xs : List D} (hf : FzL G.K w p vs) (r : Reps G w xs vs) (hz : vs.length ≤ sizeLine) : YG G w (.items xs) xs.length (Itl G.K p) where
  len := by rw [r.length, line_eq]; exact hz
  cnt := rfl
  go := fun i w2 e R hi _ => by
    have hi' : i < vs.length := by rw [← r.length]; exact hi
    exact ⟨vs, vs[i], (hf.ext e.wk).sq, by simp [hi']⟩
  yl := fun i w2 x H2 e R y hi _ => by
    obtain ⟨rfl, y⟩ := y
    have q := y vs (hf.ext e.wk).sq
    obtain ⟨d, h1, h2⟩ := (Reps.ext e.wk _ _ r).getV q
    exact ⟨w2, d, rfl, Ext.refl _, R, rfl, rfl, h1, h2⟩
  st := fun w2 e R _ => ⟨vs, (hf.ext e.wk).sq, by rw [r.length]; exact Nat.le_refl _⟩
theorem yg_tup {w : Wd} {p : Addr} {vs : List V} {xs : List D} (hf : FzT G.K w p vs) (r : Reps G w xs vs) (hz : vs.length ≤ sizeLine) : YG G w (.items xs) xs.length (Itt G.K p) where
  len := by rw [r.length, line_eq]; exact hz
  cnt := rfl
  go := fun i w2 e R hi _ => by
    have hi' : i < vs.length := by rw [← r.length]; exact hi
    exact ⟨vs, vs[i], (hf.ext e.wk).sq, by simp [hi']⟩
  yl := fun i w2 x H2 e R y hi _ => by
    obtain ⟨rfl, y⟩ := y
    have q := y vs (hf.ext e.wk).sq
    obtain ⟨d, h1, h2⟩ := (Reps.ext e.wk _ _ r).getV q
    exact ⟨w2, d, rfl, Ext.refl _, R, rfl, rfl, h1, h2⟩
  st := fun w2 e R _ => ⟨vs, (hf.ext e.wk).sq, by rw [r.length]; exact Nat.le_refl _⟩
theorem yg_rngC {w : Wd} {lo c : Int} {n : Nat} (hn : n ≤ lineD) : YG G w (.items ((List.range n).map fun k => .int (lo + (k : Nat) * c))) n (Itc lo c n) where
  len := hn
  cnt := by simp [items]
  go := fun i w2 e R hi _ => hi
  yl := fun i w2 x H2 e R y hi _ => by
    obtain ⟨rfl, rfl⟩ := y
    exact ⟨w2, .int (lo + (i : Nat) * c), rfl, Ext.refl _, R, rfl, rfl, by simp [Src.get, hi], by simp [Rep]⟩
  st := fun w2 e R _ => Nat.le_refl _
theorem yg_rng {w : Wd} {lo : Int} {n : Nat} (hn : n ≤ lineD) : YG G w (.items ((List.range n).map fun k => .int (lo + (k : Nat)))) n (Itr lo n) where
  len := hn
  cnt := by simp [items]
  go := fun i w2 e R hi _ => hi
  yl := fun i w2 x H2 e R y hi _ => by
    obtain ⟨rfl, rfl⟩ := y
    exact ⟨w2, .int (lo + (i : Nat)), rfl, Ext.refl _, R, rfl, rfl, by simp [Src.get, hi], by simp [Rep]⟩
  st := fun w2 e R _ => Nat.le_refl _
theorem yg_str {w : Wd} {z : Str} (hz : z.length ≤ lineD) : YG G w (.items (z.cps.toList.map fun c => .str ⟨#[c]⟩)) z.cps.size (Its z) where
  len := hz
  cnt := by simp [items]
  go := fun i w2 e R hi _ => hi
  yl := fun i w2 x H2 e R y hi _ => by
    obtain ⟨rfl, c, hc, rfl⟩ := y
    refine ⟨w2, .str ⟨#[c]⟩, rfl, Ext.refl _, R, rfl, rfl, ?_, by simp [Rep]⟩
    have : z.cps.toList[i]? = some c := by simpa using hc
    show (z.cps.toList.map _)[i]? = _
    rw [List.getElem?_map, this]; rfl
  st := fun w2 e R _ => Nat.le_refl _
theorem yg_hnd {w : Wd} {i : Nat} {a : Addr} {xs : List D} {vs : List V} (R0 : Rel G w) (e1 : w.ρ[i]? = some a) (hs : w.S[i]? = some (some (.lst xs))) (hl : vs.length ≤ sizeLine) (r : Reps G w xs vs) : YG G w (.hnd i) xs.length (Itl G.K a) := by
  have key : ∀ (w2 : Wd), Ext w w2 → Rel G w2 → (Src.hnd i).fine xs.length w2.S = true → ∃ ys us, w2.S[i]? = some (some (.lst ys)) ∧ ys.length = xs.length ∧ w2.H a = some (.lst us) ∧ Reps G w2 ys us := by
    intro w2 e R hf
    unfold Src.fine at hf
    simp only at hf
    split at hf
    · rename_i ys hy
      obtain ⟨b, e2, us, h1, h2⟩ := R.at_ i _ hy
      have e3 := e.pre i a e1
      rw [e3] at e2; cases e2
      exact ⟨ys, us, hy, by simpa using hf, h1, h2⟩
    · cases hf
  refine ⟨by rw [r.length, line_eq]; exact hl, by simp [items, lstOf, hs], fun j w2 e R hj hf => ?_, fun j w2 x H2 e R y hj hf => ?_, fun w2 e R hf => ?_⟩
  · obtain ⟨ys, us, h1, h2, h3, h4⟩ := key w2 e R hf
    have hj' : j < us.length := by rw [← h4.length, h2]; exact hj
    exact ⟨us, us[j], SqL.of h3, by simp [hj']⟩
  · obtain ⟨ys, us, h1, h2, h3, h4⟩ := key w2 e R hf
    obtain ⟨rfl, y⟩ := y
    have q := y us (SqL.of h3)
    obtain ⟨d, g1, g2⟩ := h4.getV q
    refine ⟨w2, d, rfl, Ext.refl _, R, rfl, rfl, ?_, g2⟩
    simp only [Src.get, h1, h2, if_true, g1]
  · obtain ⟨ys, us, h1, h2, h3, h4⟩ := key w2 e R hf
    exact ⟨us, SqL.of h3, by rw [← h4.length, h2]; exact Nat.le_refl _⟩

/-- the value of an expression is walked -/
theorem sim_iv (hK : X.K = G.K) (ha : SimE G X e ma) : SimI G X tg e (fun Γ S => (ma Γ S).bind srcOf) := fun W tk => by
  refine ⟨fun pins s σ H R I h => ?_⟩
  obtain ⟨Γ, w, hw, A, hf⟩ := h
  refine thn ((ha W tk).run pins s σ H (fun v H1 => ∃ w1 d, w1.H = H1 ∧ Rel G w1 ∧ Rep G w1 d v ∧ FinI G w1 σ (srcOf d w1.S) R W) I ⟨Γ, w, hw, A, FinI.bind hf fun w1 d v e1 R1 p1 rv h1 => ⟨w1, d, rfl, R1, rv, h1⟩⟩) fun v s1 ⟨x, H1, I1, rx, w1, d, hw1, R1, rd, h1⟩ => ?_
  subst hw1
  unfold srcOf at h1
  have lists : ∀ (a : Addr) (vs : List V), x = .ref a → SqL X.K w1.H a vs → R (Itl X.K a) w1.H → wpAny (model X.prog X.w) X.A (pyIter v) (PIE X pins σ tg R) X.xe s1 := by
    intro a vs ex hq q
    subst ex
    cases rx
    obtain ⟨its, rv, p, hz⟩ := I1.list hq
    exact wpAny_pyIter_list p.isList (pi_one (tk := s1.toks) I1 _ (turn_list a _) ⟨_, Heap.get?_push_size _ rfl, rfl, rfl⟩ q)
  split at h1
  · rename_i xs
    obtain ⟨a, vs, rfl, f, q⟩ := rep_tup.mp rd
    cases rx
    obtain ⟨its, rv, p, hz⟩ := I1.tuple (by rw [hK]; exact f.sq)
    refine wpAny_pyIter_tuple (show s1.heap.IsTuple a its.toArray from p) (pi_one (tk := s1.toks) I1 _ (turn_tuple a _) ⟨_, Heap.get?_push_size _ rfl, rfl, rfl⟩ ?_)
    rw [hK]
    exact FinI.ok h1 R1 ⟨_, yg_tup f q hz⟩
  · rename_i xs
    obtain ⟨a, vs, rfl, f, q⟩ := rep_lst.mp rd
    have hs : SqL X.K w1.H a vs := by rw [hK]; exact f.sq
    obtain ⟨_, _, _, hz⟩ := I1.list hs
    refine lists a vs rfl hs ?_
    rw [hK]
    exact FinI.ok h1 R1 ⟨_, yg_list f q hz⟩
  · rename_i z
    split at h1
    · rename_i hz
      rw [rep_str.mp rd] at rx
      obtain ⟨t, rfl⟩ := rx
      have q := FinI.ok h1 R1 ⟨_, yg_str hz⟩
      cases hA : z.cps.all (· < 128)
      · exact wpAny_pyIter_wide hA (pi_one (tk := s1.toks) I1 _ (turn_str _ z t "str_iterator" (.inr rfl)) ⟨_, Heap.get?_push_size _ rfl, rfl, rfl⟩ q)
      · exact wpAny_pyIter_ascii hA (pi_one (tk := s1.toks) I1 _ (turn_str _ z t "str_ascii_iterator" (.inl rfl)) ⟨_, Heap.get?_push_size _ rfl, rfl, rfl⟩ q)
    · exact h1.elim
  · rename_i i
    obtain ⟨a, rfl, e1⟩ := rep_ref.mp rd
    split at h1
    · rename_i xs hx
      unfold lstOf at hx
      simp only at hx
      split at hx
      · rename_i ys hS
        cases hx
        obtain ⟨b, e2, vs, g1, g2⟩ := R1.at_ i _ hS
        rw [e1] at e2; cases e2
        have hs : SqL X.K w1.H a vs := SqL.of g1
        obtain ⟨_, _, _, hz⟩ := I1.list hs
        refine lists a vs rfl hs ?_
        rw [hK]
        exact FinI.ok h1 R1 ⟨_, yg_hnd R1 e1 hS hz g2⟩
      · cases hx
    · exact h1.elim
  · exact h1.elim
end
end Dn

set_option maxHeartbeats 4000000
namespace Dn
open PySem PySem.Spec PyProof.Rows L2

/-- no starred argument -/
def NS (e : Expr) : Prop := ∀ (es : List Expr) (env : Env), starEach (e :: es) env = (false, eval e env) :: starEach es env
theorem ns_any {pos : Pos} {env : Env} : ∀ {es : List Expr}, (∀ e ∈ es, NS e) → (backTo pos (starEach es env)).any (·.1) = false
  | [], _ => rfl
  | e :: es, h => by
    rw [h e List.mem_cons_self]
    have ih := ns_any (pos := pos) (env := env) (es := es) fun x hx => h x (List.mem_cons_of_mem _ hx)
    show (false || (backTo pos (starEach es env)).any (·.1)) = false
    rw [ih]; rfl

section
variable {G : Gx} {X : Cx} {a b c e tg : Expr} {es : List Expr} {m : Vars → Store → Out (List D)} {ma mb : DenD} {pos p : Pos}
theorem iD.one {W : WX} {f : D → Store → Out Src} {σ : St} {H : Hp} {R : It → Hp → Prop} {Q : VK} (h : iD G W (fun Γ S => (ma Γ S).bind f) σ H R)
    (hq : ∀ (w1 : Wd) (d : D) (v : V), Rel G w1 → Rep G w1 d v → FinI G w1 σ (f d w1.S) R W → Q v w1.H) : tD G W ma σ H Q := by
  obtain ⟨Γ, w, hw, A, hf⟩ := h
  exact ⟨Γ, w, hw, A, FinI.bind hf fun w1 d v e1 R1 p1 rs h1 => hq w1 d v R1 rs h1⟩
theorem iD.two {W : WX} {f : D → D → Store → Out Src} {σ : St} {H : Hp} {R : It → Hp → Prop} {Q : V → V → Hp → Prop} (h : iD G W (fun Γ S => (ma Γ S).bind fun x S1 => (mb Γ S1).bind (f x)) σ H R)
    (hq : ∀ (w1 : Wd) (d d2 : D) (v v2 : V), Rel G w1 → Rep G w1 d v → Rep G w1 d2 v2 → FinI G w1 σ (f d d2 w1.S) R W → Q v v2 w1.H) : tD G W ma σ H fun x H1 => tD G W mb σ H1 fun y H2 => Q x y H2 := by
  obtain ⟨Γ, w, hw, A, hf⟩ := h
  refine ⟨Γ, w, hw, A, FinI.bind hf fun w1 d v e1 R1 p1 rs h1 => ?_⟩
  exact ⟨Γ, w1, rfl, A.ext e1 R1, FinI.bind h1 fun w2 d2 v2 e2 R2 p2 rs2 h2 => hq w2 d d2 v v2 R2 (Rep.ext e2.wk _ _ rs) rs2 h2⟩
theorem iD.three {mc : DenD} {W : WX} {f : D → D → D → Store → Out Src} {σ : St} {H : Hp} {R : It → Hp → Prop} {Q : V → V → V → Hp → Prop} (h : iD G W (fun Γ S => (ma Γ S).bind fun x S1 => (mb Γ S1).bind fun y S2 => (mc Γ S2).bind (f x y)) σ H R)
    (hq : ∀ (w1 : Wd) (d d2 d3 : D) (v v2 v3 : V), Rel G w1 → Rep G w1 d v → Rep G w1 d2 v2 → Rep G w1 d3 v3 → FinI G w1 σ (f d d2 d3 w1.S) R W → Q v v2 v3 w1.H) :
    tD G W ma σ H fun x H1 => tD G W mb σ H1 fun y H2 => tD G W mc σ H2 fun z H3 => Q x y z H3 := by
  obtain ⟨Γ, w, hw, A, hf⟩ := h
  refine ⟨Γ, w, hw, A, FinI.bind hf fun w1 d v e1 R1 p1 rs h1 => ?_⟩
  refine ⟨Γ, w1, rfl, A.ext e1 R1, FinI.bind h1 fun w2 d2 v2 e2 R2 p2 rs2 h2 => ?_⟩
  exact ⟨Γ, w2, rfl, (A.ext e1 R1).ext e2 R2, FinI.bind h2 fun w3 d3 v3 e3 R3 p3 rs3 h3 => hq w3 d d2 d3 v v2 v3 R3 (Rep.ext (e2.trans e3).wk _ _ rs) (Rep.ext e3.wk _ _ rs2) rs3 h3⟩
theorem reps1 {w : Wd} {d : D} {vs : List V} (r : Reps G w [d] vs) : ∃ v, vs = [v] ∧ Rep G w d v := by
  obtain ⟨v, rr, rfl, h1, h2⟩ := reps_cons.mp r
  rw [reps_nil.mp h2]; exact ⟨v, rfl, h1⟩
theorem reps2 {w : Wd} {d d2 : D} {vs : List V} (r : Reps G w [d, d2] vs) : ∃ v v2, vs = [v, v2] ∧ Rep G w d v ∧ Rep G w d2 v2 := by
  obtain ⟨v, rr, rfl, h1, h2⟩ := reps_cons.mp r
  obtain ⟨v2, rfl, h3⟩ := reps1 h2
  exact ⟨v, v2, rfl, h1, h3⟩
theorem reps3 {w : Wd} {d d2 d3 : D} {vs : List V} (r : Reps G w [d, d2, d3] vs) : ∃ v v2 v3, vs = [v, v2, v3] ∧ Rep G w d v ∧ Rep G w d2 v2 ∧ Rep G w d3 v3 := by
  obtain ⟨v, rr, rfl, h1, h2⟩ := reps_cons.mp r
  obtain ⟨v2, v3, rfl, h3, h4⟩ := reps2 h2
  exact ⟨v, v2, v3, rfl, h1, h3, h4⟩
theorem rngOk_bd {i : Int} (h : rngOk i = true) : -(2 ^ 62) ≤ i ∧ i < 2 ^ 62 := by
  unfold rngOk at h
  simp only [Bool.and_eq_true, decide_eq_true_eq] at h
  have e1 : (-(2 ^ 62) : Int) = -4611686018427387904 := by decide
  have e2 : ((2 : Int) ^ 62) = 4611686018427387904 := by decide
  rw [e1, e2]; exact h
theorem FinL.bindF {α β : Type} {w : Wd} {σ : St} {W : WX} {Q : VK} {R : Wd → α → β → Prop} {o : Out α} {f : α → Store → Out (List Dn.D)} {Q2 : β → Hp → Prop} (h : FinL G w σ (o.bind f) Q W)
    (hq : ∀ (w' : Wd) (a : α) (b : β), Ext w w' → Rel G w' → w'.pv = w.pv → R w' a b → FinL G w' σ (f a w'.S) Q W → Q2 b w'.H) : Fin G R w σ o Q2 W := by
  cases o with
  | ok a S => exact fun w' b e r s p q => hq w' a b e r p q (by rw [s]; exact FinL.base e p (fun p h => e.none h) h)
  | exn c xs S => exact h
  | stuck => exact h
theorem rg_reps {w : Wd} {i j : Int} : Reps G w ((List.range (j - i).toNat).map fun k => .int (i + (k : Nat))) (rgV i j) := by
  unfold rgV
  generalize List.range (j - i).toNat = l
  induction l with
  | nil => exact Reps.nil
  | cons k l ih => exact reps_cons.mpr ⟨_, _, rfl, rep_int.mpr rfl, ih⟩
/-- list(range(i, j)) -/
theorem sim_lrng {p2 pos2 : Pos} (hc : X.calm = true) (hg : Gl X "list") (hm : X.mg "list" = none) (hg2 : Gl X "range") (hm2 : X.mg "range" = none) (ha : SimE G X a ma) (hb : SimE G X b mb) (na : NS a) (nb : NS b) :
    SimL G X (.Call (.Name "list" p) [.Call (.Name "range" p2) [a, b] [] pos2] [] pos) (fun Γ S => (ma Γ S).bind fun x S1 => (mb Γ S1).bind (opLrng x)) := fun W tk => by
  refine PE.imp (pe_listRg hc hg hm (prg_2 hg2 hm2 (ha W tk) (hb W tk) (na _ _) (nb _ _) (by rw [nb]; rfl))) fun σ H Q h => ?_
  obtain ⟨Γ, w, hw, A, hf⟩ := h
  refine ⟨Γ, w, hw, A, FinL.bindF hf fun w1 d v e1 R1 p1 r1 h1 => ⟨Γ, w1, rfl, A.ext e1 R1, FinL.bindF h1 fun w2 d2 v2 e2 R2 p2 r2 h2 => ?_⟩⟩
  unfold opLrng at h2
  split at h2
  case h_2 => exact h2.elim
  rename_i i j
  split at h2
  case isFalse => exact h2.elim
  rename_i hcc
  simp only [Bool.and_eq_true, decide_eq_true_eq] at hcc
  obtain ⟨⟨c1, c2⟩, c3⟩ := hcc
  obtain ⟨b1, b2⟩ := rngOk_bd c1
  obtain ⟨b3, b4⟩ := rngOk_bd c2
  have r1' := Rep.ext e2.wk _ _ r1
  refine ⟨i, j, rep_int.mp r1', rep_int.mp r2, ⟨by omega, by omega, by omega, by omega, by unfold lineD at c3; omega⟩, fun q hq => Fin.ofL R2 hq rg_reps h2⟩
theorem sim_rng1 (hg : Gl X "range") (hm : X.mg "range" = none) (ha : SimE G X a ma) (na : NS a) : SimI G X tg (.Call (.Name "range" p) [a] [] pos) (fun Γ S => (ma Γ S).bind fun x S1 => opRng [x] S1) := fun W tk => by
  refine PI.imp (pi_range1 hg hm (pa_cons (ha W tk) pa_nil (na [] _)) (na [] _)) fun σ H R h => iD.one h fun w1 d v R1 rv h1 => ?_
  unfold opRng at h1
  split at h1
  · rename_i j ex
    cases ex
    split at h1
    · rename_i hc
      simp only [Bool.and_eq_true, decide_eq_true_eq] at hc
      rw [rep_int.mp rv]
      obtain ⟨b1, b2⟩ := rngOk_bd hc.1
      refine ⟨j, rfl, b1, b2, FinI.ok h1 R1 ⟨j.toNat, ?_⟩⟩
      have := yg_rng (G := G) (w := w1) (lo := 0) hc.2
      simpa using this
    · exact h1.elim
  · rename_i ex; cases ex
  · rename_i ex; cases ex
  · exact h1.elim
theorem sim_rng2 (hg : Gl X "range") (hm : X.mg "range" = none) (ha : SimE G X a ma) (hb : SimE G X b mb) (na : NS a) (nb : NS b) : SimI G X tg (.Call (.Name "range" p) [a, b] [] pos) (fun Γ S => (ma Γ S).bind fun x S1 => (mb Γ S1).bind fun y S2 => opRng [x, y] S2) := fun W tk => by
  refine PI.imp (pi_range2 hg hm (pa_cons (ha W tk) (pa_cons (hb W tk) pa_nil (nb [] _)) (na _ _)) (by rw [na, nb]; rfl) (nb [] _)) fun σ H R h => iD.two h fun w1 d d2 v v2 R1 rv rv2 h1 => ?_
  unfold opRng at h1
  split at h1
  · rename_i ex; cases ex
  · rename_i i j ex
    cases ex
    split at h1
    · rename_i hc
      simp only [Bool.and_eq_true, decide_eq_true_eq] at hc
      rw [rep_int.mp rv, rep_int.mp rv2]
      obtain ⟨b1, b2⟩ := rngOk_bd hc.1.1
      obtain ⟨b3, b4⟩ := rngOk_bd hc.1.2
      exact ⟨i, j, rfl, ⟨b1, b2, b3, b4⟩, FinI.ok h1 R1 ⟨_, yg_rng hc.2⟩⟩
    · exact h1.elim
  · rename_i ex; cases ex
  · exact h1.elim
theorem sim_rng3 (hg : Gl X "range") (hm : X.mg "range" = none) (ha : SimE G X a ma) (hb : SimE G X b mb) {mc : DenD} (hc : SimE G X c mc) (na : NS a) (nb : NS b) (nc : NS c) :
    SimI G X tg (.Call (.Name "range" p) [a, b, c] [] pos) (fun Γ S => (ma Γ S).bind fun x S1 => (mb Γ S1).bind fun y S2 => (mc Γ S2).bind fun z S3 => opRng [x, y, z] S3) := fun W tk => by
  refine PI.imp (pi_range3 hg hm (pa_cons (ha W tk) (pa_cons (hb W tk) (pa_cons (hc W tk) pa_nil (nc [] _)) (nb _ _)) (na _ _)) (na _ _) (by rw [nb, nc]; rfl)) fun σ H R h => iD.three h fun w1 d d2 d3 v v2 v3 R1 rv rv2 rv3 h1 => ?_
  unfold opRng at h1
  split at h1
  · rename_i ex; cases ex
  · rename_i ex; cases ex
  · rename_i i j k ex
    cases ex
    split at h1
    · rename_i hc
      simp only [Bool.and_eq_true, decide_eq_true_eq] at hc
      rw [rep_int.mp rv, rep_int.mp rv2, rep_int.mp rv3]
      obtain ⟨⟨⟨⟨c1, c2⟩, c3⟩, c4⟩, c5⟩ := hc
      exact ⟨i, j, k, _, rfl, ⟨c1, c2, c3, (Int.toNat_of_nonneg c4).symm⟩, FinI.ok h1 R1 ⟨_, yg_rngC c5⟩⟩
    · exact h1.elim
  · exact h1.elim

theorem numb_get : ∀ (xs : List D) (k i : Nat), (numb k xs)[i]? = (xs[i]?).map fun x => D.tup [.int ((k + i : Nat) : Int), x]
  | [], _, _ => by simp [numb]
  | x :: xs, k, 0 => by simp [numb]
  | x :: xs, k, i + 1 => by
    have := numb_get xs (k + 1) i
    simp only [numb, List.getElem?_cons_succ, this]
    congr 2
    funext y
    congr 4
    omega
theorem numb_len : ∀ (xs : List D) (k : Nat), (numb k xs).length = xs.length
  | [], _ => rfl
  | x :: xs, k => by simp [numb, numb_len xs (k + 1)]
/-- .. over what draws the i-th item as P tells -/
def IteD (n : Nat) (P : Nat → V → Prop) (L : Hp → Prop) : It :=
  ⟨fun i H => i < n ∧ L H, fun i H v H' => ∃ T x, v = .ref T ∧ H T = none ∧ H' = upd H T (.tup [.int (i : Nat), x]) ∧ P i x, fun i H => i = n ∧ L H⟩
theorem turn_enumT {P : Program} {w : World} {K : PySem.W.Frag} {elts : List Expr} {kk : Nat} {tpos : Pos} (a e it : Addr) (xs : List V) (hne : e ≠ it) :
    Turn P w K (.Tuple elts kk tpos) (IteD xs.length (fun i x => xs[i]? = some x) fun H => SqT K H a xs) [e, it] e (fun i h => (∃ old, IsEnum h e it ((i : Nat) : Int) old) ∧ h.IsTupleIter it a i) where
  mem := by simp
  obj := fun i h st b hb => by
    obtain ⟨⟨old, he⟩, ⟨o, ho, hc, hd⟩⟩ := st
    have e' : b = e ∨ b = it := by simpa using hb
    rcases e' with z | z
    · rw [z]; exact ⟨_, he, fun v q => nomatch q⟩
    · rw [z]; exact ⟨o, ho, fun v q => by rw [hd] at q; cases q⟩
  keep := fun i h h' st k => let ⟨⟨old, he⟩, hi⟩ := st; ⟨⟨old, k e (by simp) _ he⟩, hi.at fun o q => k it (by simp) o q⟩
  item := by
    intro X hP hw hK hc i pins s σ H E I hf st hg
    subst hP hw hK
    obtain ⟨⟨old, he⟩, hit⟩ := st
    obtain ⟨hi, hq⟩ := hg
    obtain ⟨its, rv, p, hz⟩ := I.tuple hq
    obtain ⟨u, hu, ru⟩ := rv.get (List.getElem?_eq_getElem hi)
    have hel : e < s.heap.objs.size := Heap.lt_size he
    have hil : it < s.heap.objs.size := by obtain ⟨_, q, _⟩ := hit; exact Heap.lt_size q
    have hai : a ≠ it := fun z => by
      obtain ⟨o1, q1, c1, _⟩ := p
      obtain ⟨o2, q2, c2, _⟩ := hit
      rw [z, q2] at q1
      cases q1
      rw [c1] at c2; revert c2; decide
    have hae : a ≠ e := fun z => by
      obtain ⟨o1, q1, c1, _⟩ := p
      rw [z] at q1
      have he' : s.heap.get? e = _ := he
      rw [he'] at q1
      cases q1
      simp at c1
    have hlen : xs.length = its.toArray.size := by simpa using rv.length
    refine wpAny_pyNext_enum_itemD (Draws.tuple (show X.A.in1.handled = none from I.ok.hd hc) it a hai its.toArray) he ⟨hit, p⟩ (by rw [← hlen]; exact hi) hne (by simp [hne, Ne.symm hae]) fun x h' tk hPx ho hit' hT hsz hk => ?_
    have ex : x = u := by
      have : its.toArray[i]? = some u := by simpa using hu
      rw [this] at hPx; exact (Option.some.inj hPx).symm
    subst ex
    refine ⟨_, rfl, wpAny_letOwnedTupleGo_enum (s := { s with heap := h', toks := tk + 1 }) ho fun h'' he' sb => ?_⟩
    have hT2 : h''.get? s.heap.objs.size = some { cls := .type "tuple", data := .seq #[.int i tk, x] } := (sb.2 _ (Nat.ne_of_gt hel)).trans hT
    have new : ObjOk X.prog X.w (upd H s.heap.objs.size (.tup [.int (i : Nat), xs[i]])) h'' s.heap.objs.size (.tup [.int (i : Nat), xs[i]]) :=
      ⟨by show 2 ≤ sizeLine; decide, [.int i tk, x], .cons ⟨_, rfl⟩ (.cons ru .nil), ⟨_, hT2, rfl, _, rfl⟩⟩
    have I1 : Inv X pins σ (upd H s.heap.objs.size (.tup [.int (i : Nat), xs[i]])) { s with heap := h'', toks := tk + 1 } :=
      I.turnedNew (ch := [e, it]) (fun b ob hb q => (sb.2 b (fun z => hb (by simp [z]))).trans (hk b ob (fun z => hb (by simp [z])) (fun z => hb (by simp [z])) q)) hf (Nat.le_refl _) new
    refine ⟨.ref s.heap.objs.size, _, I1, rfl, ⟨_, xs[i], rfl, I.hok.fresh (Nat.le_refl _), rfl, by simp [hi]⟩, ⟨⟨x, ?_⟩, hit'.1.at fun o q => (sb.2 it (Ne.symm hne)).trans q⟩, fun b hb => ?_⟩
    · have e1 : ((i + 1 : Nat) : Int) = (i : Int) + 1 := by omega
      rw [e1]; exact he'
    · have hb' : b < s.heap.objs.size := by
        have e' : b = e ∨ b = it := by simpa using hb
        rcases e' with z | z
        · rw [z]; exact hel
        · rw [z]; exact hil
      rw [upd_ne (Nat.ne_of_lt hb')]
      exact (hf b hb).1
  done := by
    intro X hP hw hK hc i pins s σ H E I hf st hg
    subst hP hw hK
    obtain ⟨⟨old, he⟩, hit⟩ := st
    obtain ⟨hi, hq⟩ := hg
    subst hi
    obtain ⟨its, rv, p, hz⟩ := I.tuple hq
    obtain ⟨f0, f1, f2, f3, f4, f5⟩ := hf it (by simp)
    have hlen : xs.length = its.toArray.size := by simpa using rv.length
    have hai : a ≠ it := fun z => by
      obtain ⟨o1, q1, c1, _⟩ := p
      obtain ⟨o2, q2, c2, _⟩ := hit
      rw [z, q2] at q1
      cases q1
      rw [c1] at c2; revert c2; decide
    refine wpAny_pyNext_enum_endD (Draws.tuple (show X.A.in1.handled = none from I.ok.hd hc) it a hai its.toArray) he ⟨by rw [← hlen]; exact hit, p⟩ fun h' eb => ⟨rfl, I.turned (t' := s.toks) (fun b o hb q => eb b o hb q) f0 f1 f3 f4 f5⟩
  self := fun A i s Q E st h => let ⟨⟨_, he⟩, _⟩ := st; wpAny_pyIter_enum he h
theorem turn_enumL {P : Program} {w : World} {K : PySem.W.Frag} {elts : List Expr} {kk : Nat} {tpos : Pos} (a e it : Addr) (xs : List V) (hne : e ≠ it) :
    Turn P w K (.Tuple elts kk tpos) (IteD xs.length (fun i x => xs[i]? = some x) fun H => SqL K H a xs) [e, it] e (fun i h => (∃ old, IsEnum h e it ((i : Nat) : Int) old) ∧ h.IsListIter it a i) where
  mem := by simp
  obj := fun i h st b hb => by
    obtain ⟨⟨old, he⟩, ⟨o, ho, hc, hd⟩⟩ := st
    have e' : b = e ∨ b = it := by simpa using hb
    rcases e' with z | z
    · rw [z]; exact ⟨_, he, fun v q => nomatch q⟩
    · rw [z]; exact ⟨o, ho, fun v q => by rw [hd] at q; cases q⟩
  keep := fun i h h' st k => let ⟨⟨old, he⟩, hi⟩ := st; ⟨⟨old, k e (by simp) _ he⟩, hi.at fun o q => k it (by simp) o q⟩
  item := by
    intro X hP hw hK hc i pins s σ H E I hf st hg
    subst hP hw hK
    obtain ⟨⟨old, he⟩, hit⟩ := st
    obtain ⟨hi, hq⟩ := hg
    obtain ⟨its, rv, p, hz⟩ := I.list hq
    obtain ⟨u, hu, ru⟩ := rv.get (List.getElem?_eq_getElem hi)
    have hel : e < s.heap.objs.size := Heap.lt_size he
    have hil : it < s.heap.objs.size := by obtain ⟨_, q, _⟩ := hit; exact Heap.lt_size q
    refine wpAny_pyNext_enum_item he hit p.isList (x := u) (by simpa using hu) hne fun h' ho hit' hT hsz hk => ?_
    refine ⟨_, rfl, wpAny_letOwnedTupleGo_enum (s := { s with heap := h', toks := s.toks + 1 }) ho fun h'' he' sb => ?_⟩
    have hT2 : h''.get? s.heap.objs.size = some { cls := .type "tuple", data := .seq #[.int i s.toks, u] } := (sb.2 _ (Nat.ne_of_gt hel)).trans hT
    have new : ObjOk X.prog X.w (upd H s.heap.objs.size (.tup [.int (i : Nat), xs[i]])) h'' s.heap.objs.size (.tup [.int (i : Nat), xs[i]]) :=
      ⟨by show 2 ≤ sizeLine; decide, [.int i s.toks, u], .cons ⟨_, rfl⟩ (.cons ru .nil), ⟨_, hT2, rfl, _, rfl⟩⟩
    have I1 : Inv X pins σ (upd H s.heap.objs.size (.tup [.int (i : Nat), xs[i]])) { s with heap := h'', toks := s.toks + 1 } :=
      I.turnedNew (ch := [e, it]) (fun b ob hb q => (sb.2 b (fun z => hb (by simp [z]))).trans (hk b ob (fun z => hb (by simp [z])) (fun z => hb (by simp [z])) q)) hf (Nat.le_refl _) new
    refine ⟨.ref s.heap.objs.size, _, I1, rfl, ⟨_, xs[i], rfl, I.hok.fresh (Nat.le_refl _), rfl, by simp [hi]⟩, ⟨⟨u, ?_⟩, hit'.at fun o q => (sb.2 it (Ne.symm hne)).trans q⟩, fun b hb => ?_⟩
    · have e1 : ((i + 1 : Nat) : Int) = (i : Int) + 1 := by omega
      rw [e1]; exact he'
    · have hb' : b < s.heap.objs.size := by
        have e' : b = e ∨ b = it := by simpa using hb
        rcases e' with z | z
        · rw [z]; exact hel
        · rw [z]; exact hil
      rw [upd_ne (Nat.ne_of_lt hb')]
      exact (hf b hb).1
  done := by
    intro X hP hw hK hc i pins s σ H E I hf st hg
    subst hP hw hK
    obtain ⟨⟨old, he⟩, hit⟩ := st
    obtain ⟨hi, hq⟩ := hg
    subst hi
    obtain ⟨its, rv, p, hz⟩ := I.list hq
    obtain ⟨f0, f1, f2, f3, f4, f5⟩ := hf it (by simp)
    have hl := rv.length
    exact wpAny_pyNext_enum_end (I.ok.hd hc) he hit p.isList (by simp; omega) fun h' eb => ⟨rfl, I.turned (t' := s.toks) (fun b o hb q => eb b o hb q) f0 f1 f3 f4 f5⟩
  self := fun A i s Q E st h => let ⟨⟨_, he⟩, _⟩ := st; wpAny_pyIter_enum he h
theorem turn_enumS {P : Program} {w : World} {K : PySem.W.Frag} {elts : List Expr} {kk : Nat} {tpos : Pos} (z : Str) (t : Tok) (e it : Addr) (hne : e ≠ it) :
    Turn P w K (.Tuple elts kk tpos) (IteD z.cps.size (fun i x => ∃ c, z.cps[i]? = some c ∧ x = .str ⟨#[c]⟩) fun H => True) [e, it] e (fun i h => (∃ old, IsEnum h e it ((i : Nat) : Int) old) ∧ h.IsStrIter it (strIterType z) z t i) where
  mem := by simp
  obj := fun i h st b hb => by
    obtain ⟨⟨old, he⟩, ⟨o, ho, hc, hd⟩⟩ := st
    have e' : b = e ∨ b = it := by simpa using hb
    rcases e' with z | z
    · rw [z]; exact ⟨_, he, fun v q => nomatch q⟩
    · rw [z]; exact ⟨o, ho, fun v q => by rw [hd] at q; cases q⟩
  keep := fun i h h' st k => let ⟨⟨old, he⟩, ⟨o, ho, hr⟩⟩ := st; ⟨⟨old, k e (by simp) _ he⟩, ⟨o, k it (by simp) _ ho, hr⟩⟩
  item := by
    intro X hP hw hK hc i pins s σ H E I hf st hg
    subst hP hw hK
    obtain ⟨⟨old, he⟩, hit⟩ := st
    obtain ⟨hi, _⟩ := hg
    have hel : e < s.heap.objs.size := Heap.lt_size he
    have hil : it < s.heap.objs.size := by obtain ⟨_, q, _⟩ := hit; exact Heap.lt_size q
    refine wpAny_pyNext_enum_itemD (Draws.text (show X.A.in1.handled = none from I.ok.hd hc) it z t) he hit hi hne (by simp [hne]) fun x h' tk hPx ho hit' hT hsz hk => ?_
    obtain ⟨c, ct, hcx, rfl⟩ := hPx
    refine ⟨_, rfl, wpAny_letOwnedTupleGo_enum (s := { s with heap := h', toks := tk + 1 }) ho fun h'' he' sb => ?_⟩
    have hT2 : h''.get? s.heap.objs.size = some { cls := .type "tuple", data := .seq #[.int i tk, .str ⟨#[c]⟩ ct] } := (sb.2 _ (Nat.ne_of_gt hel)).trans hT
    have new : ObjOk X.prog X.w (upd H s.heap.objs.size (.tup [.int (i : Nat), .str ⟨#[c]⟩])) h'' s.heap.objs.size (.tup [.int (i : Nat), .str ⟨#[c]⟩]) :=
      ⟨by show 2 ≤ sizeLine; decide, [.int i tk, .str ⟨#[c]⟩ ct], .cons ⟨_, rfl⟩ (.cons ⟨_, rfl⟩ .nil), ⟨_, hT2, rfl, _, rfl⟩⟩
    have I1 : Inv X pins σ (upd H s.heap.objs.size (.tup [.int (i : Nat), .str ⟨#[c]⟩])) { s with heap := h'', toks := tk + 1 } :=
      I.turnedNew (ch := [e, it]) (fun b ob hb q => (sb.2 b (fun z => hb (by simp [z]))).trans (hk b ob (fun z => hb (by simp [z])) (fun z => hb (by simp [z])) q)) hf (Nat.le_refl _) new
    refine ⟨.ref s.heap.objs.size, _, I1, rfl, ⟨_, .str ⟨#[c]⟩, rfl, I.hok.fresh (Nat.le_refl _), rfl, c, hcx, rfl⟩, ⟨⟨.str ⟨#[c]⟩ ct, ?_⟩, ?_⟩, fun b hb => ?_⟩
    · have e1 : ((i + 1 : Nat) : Int) = (i : Int) + 1 := by omega
      rw [e1]; exact he'
    · obtain ⟨o, ho, hr⟩ := hit'
      exact ⟨o, (sb.2 it (Ne.symm hne)).trans ho, hr⟩
    · have hb' : b < s.heap.objs.size := by
        have e' : b = e ∨ b = it := by simpa using hb
        rcases e' with z | z
        · rw [z]; exact hel
        · rw [z]; exact hil
      rw [upd_ne (Nat.ne_of_lt hb')]
      exact (hf b hb).1
  done := by
    intro X hP hw hK hc i pins s σ H E I hf st hg
    subst hP hw hK
    obtain ⟨⟨old, he⟩, hit⟩ := st
    obtain ⟨hi, _⟩ := hg
    subst hi
    obtain ⟨f0, f1, f2, f3, f4, f5⟩ := hf it (by simp)
    exact wpAny_pyNext_enum_endD (Draws.text (show X.A.in1.handled = none from I.ok.hd hc) it z t) he hit fun h' eb => ⟨rfl, I.turned (t' := s.toks) (fun b o hb q => eb b o hb q) f0 f1 f3 f4 f5⟩
  self := fun A i s Q E st h => let ⟨⟨_, he⟩, _⟩ := st; wpAny_pyIter_enum he h
theorem yg_enum {w : Wd} {xs : List D} {P : Nat → V → Prop} {L : Hp → Prop} (hn : xs.length ≤ lineD) (hP : ∀ (w2 : Wd) (i : Nat) (x : V), Ext w w2 → P i x → ∃ d, xs[i]? = some d ∧ Rep G w2 d x) (hL : ∀ w2 : Wd, Ext w w2 → L w2.H) :
    YG G w (.items (numb 0 xs)) xs.length (IteD xs.length P L) where
  len := hn
  cnt := by simp [items, numb_len]
  go := fun i w2 e R hi _ => ⟨hi, hL w2 e⟩
  yl := fun i w2 x H2 e R y hi _ => by
    obtain ⟨T, v, rfl, hT, rfl, hp⟩ := y
    obtain ⟨d, h1, h2⟩ := hP w2 i v e hp
    have e3 := Ext.laid (o := .tup [.int (i : Nat), v]) R hT
    refine ⟨⟨upd w2.H T (.tup [.int (i : Nat), v]), w2.S, w2.ρ, w2.pv⟩, .tup [.int (i : Nat), d], rfl, e3, R.laid hT, rfl, rfl, ?_, ?_⟩
    · simp [Src.get, numb_get, h1]
    · exact rep_tup.mpr ⟨T, _, rfl, .inl ⟨.inl upd_same, fun l => R.dead hT l⟩, Reps.mk (by simp [Rep]) (Reps.one (Rep.ext e3.wk _ _ h2))⟩
  st := fun w2 e R _ => ⟨rfl, hL w2 e⟩
theorem sim_enum {elts : List Expr} {kk : Nat} {tpos : Pos} (hK : X.K = G.K) (hg : Gl X "enumerate") (hm : X.mg "enumerate" = none) (ha : SimE G X a ma) (na : NS a) :
    SimI G X (.Tuple elts kk tpos) (.Call (.Name "enumerate" p) [a] [] pos) (fun Γ S => (ma Γ S).bind opEnum) := fun W tk => by
  refine ⟨fun pins s σ H R I h => ?_⟩
  refine Call_ (ld_blt I hg hm boot_enumerate (PyProof.Rows.callWith_type1 (thn ((pa_cons (ha W tk) pa_nil (na [] _)).run pos pins s σ H (fun vs H1 => ∃ w1 d v, vs = [v] ∧ w1.H = H1 ∧ Rel G w1 ∧ Rep G w1 d v ∧ FinI G w1 σ (opEnum d w1.S) R W) I (iD.one h fun w1 d v R1 rv h1 => ⟨w1, d, v, rfl, rfl, R1, rv, h1⟩)) fun us s1 ⟨vs, H1, I1, r1, w1, d, v, ex, hw1, R1, rd, h1⟩ => ?_) (na [] _) rfl))
  subst ex hw1
  obtain ⟨u, rfl, rx⟩ := vals1 r1
  unfold opEnum at h1
  have fin : ∀ (J : It) (o : Obj) (tn : Nat → Heap → Prop) (Hh : Heap → Prop) (B : Begins u o Hh) (h1 : Hh s1.heap) (T : Turn X.prog X.w X.K (.Tuple elts kk tpos) J [s1.heap.objs.size + 1, s1.heap.objs.size] (s1.heap.objs.size + 1) tn) (st : ∀ h', IsEnum h' (s1.heap.objs.size + 1) s1.heap.objs.size 0 .none → h'.get? s1.heap.objs.size = some o → tn 0 h') (q : R J w1.H),
      wpAny (model X.prog X.w) X.A (call (.type "enumerate") [u]) (fun v s2 => wpAny (model X.prog X.w) X.A (pyIter v) (PIE X pins σ (.Tuple elts kk tpos) R) X.xe s2) X.xe s1 := by
    intro J o tn Hh B hb T st q
    refine dn_enum_begins B hb fun h' he ho hsz hk => wpAny_pyIter_enum he ?_
    have I2 : Inv X pins σ w1.H { s1 with heap := h' } := I1.kept (t' := s1.toks) hk
    refine ⟨s1.heap.objs.size + 1, [s1.heap.objs.size + 1, s1.heap.objs.size], _, _, w1.H, rfl, I2, T, st h' he ho, fun b hb => ?_, q⟩
    have e' : b = s1.heap.objs.size + 1 ∨ b = s1.heap.objs.size := by simpa using hb
    have hle : s1.heap.objs.size ≤ b := by
      rcases e' with z | z
      · rw [z]; exact Nat.le_add_right _ _
      · rw [z]; exact Nat.le_refl _
    exact I1.fpOk hle (I1.hok.fresh hle)
  unfold stillOf at h1
  cases d with
  | tup xs =>
    obtain ⟨a, vs, rfl, f, q⟩ := rep_tup.mp rd
    cases rx
    have hs : SqT X.K w1.H a vs := by rw [hK]; exact f.sq
    obtain ⟨its, rv, p', hz⟩ := I1.tuple hs
    refine fin _ _ _ _ (begins_tuple a its.toArray) p' (turn_enumT a _ _ vs (Nat.succ_ne_self _)) (fun h' he ho => ⟨⟨.none, he⟩, ⟨_, ho, rfl, rfl⟩⟩) ?_
    have hl : vs.length = xs.length := q.length.symm
    rw [hl, hK]
    exact FinI.ok h1 R1 ⟨_, yg_enum (by rw [← hl, line_eq]; exact hz) (fun w2 i x e hx => (Reps.ext e.wk _ _ q).getV hx) fun w2 e => (f.ext e.wk).sq⟩
  | lst xs =>
    obtain ⟨a, vs, rfl, f, q⟩ := rep_lst.mp rd
    cases rx
    have hs : SqL X.K w1.H a vs := by rw [hK]; exact f.sq
    obtain ⟨its, rv, p', hz⟩ := I1.list hs
    refine fin _ _ _ _ (begins_list a its.toArray) p'.isList (turn_enumL a _ _ vs (Nat.succ_ne_self _)) (fun h' he ho => ⟨⟨.none, he⟩, ⟨_, ho, rfl, rfl⟩⟩) ?_
    have hl : vs.length = xs.length := q.length.symm
    rw [hl, hK]
    exact FinI.ok h1 R1 ⟨_, yg_enum (by rw [← hl, line_eq]; exact hz) (fun w2 i x e hx => (Reps.ext e.wk _ _ q).getV hx) fun w2 e => (f.ext e.wk).sq⟩
  | str z =>
    rw [rep_str.mp rd] at rx
    obtain ⟨t, rfl⟩ := rx
    dsimp only at h1
    split at h1
    · rename_i ys hy
      split at hy
      · rename_i hz
        cases hy
        refine fin _ _ _ _ (begins_text z t) trivial (turn_enumS z t _ _ (Nat.succ_ne_self _)) (fun h' he ho => ⟨⟨.none, he⟩, ⟨_, ho, rfl, rfl⟩⟩) ?_
        have hl : z.cps.size = (z.cps.toList.map fun c => D.str ⟨#[c]⟩).length := by simp
        rw [hl]
        refine FinI.ok h1 R1 ⟨_, yg_enum (by rw [← hl]; exact hz) (fun w2 i x e hx => ?_) fun w2 e => trivial⟩
        obtain ⟨c, hc, rfl⟩ := hx
        refine ⟨.str ⟨#[c]⟩, ?_, by simp [Rep]⟩
        have : z.cps.toList[i]? = some c := by simpa using hc
        rw [List.getElem?_map, this]; rfl
      · cases hy
    · exact h1.elim
  | _ => exact h1.elim

theorem reps_zip {w : Wd} {xs ys : List D} {vs us : List V} (q : Reps G w xs vs) (q2 : Reps G w ys us) : vs.length = xs.length ∧ us.length = ys.length := ⟨q.length.symm, q2.length.symm⟩
theorem yg_zipL {w : Wd} {a b : Addr} {xs ys : List D} {vs us : List V} (f : FzL G.K w a vs) (f2 : FzL G.K w b us) (q : Reps G w xs vs) (q2 : Reps G w ys us) (hz : xs.length ≤ lineD) :
    YG G w (.items ((xs.zip ys).map fun p => .tup [p.1, p.2])) (min xs.length ys.length) (Itz G.K a b) where
  len := by omega
  cnt := by simp [items]
  go := fun i w2 e R hi _ => by
    have h1 : i < vs.length := by have := q.length; omega
    have h2 : i < us.length := by have := q2.length; omega
    exact ⟨vs, us, vs[i], us[i], (f.ext e.wk).sq, (f2.ext e.wk).sq, by simp [h1], by simp [h2]⟩
  yl := fun i w2 x H2 e R y hi _ => by
    obtain ⟨T, x, y, rfl, hT, rfl, g1, g2⟩ := y
    obtain ⟨d, k1, k2⟩ := (Reps.ext e.wk _ _ q).getV (g1 vs (f.ext e.wk).sq)
    obtain ⟨d2, k3, k4⟩ := (Reps.ext e.wk _ _ q2).getV (g2 us (f2.ext e.wk).sq)
    have e3 := Ext.laid (o := .tup [x, y]) R hT
    refine ⟨⟨upd w2.H T (.tup [x, y]), w2.S, w2.ρ, w2.pv⟩, .tup [d, d2], rfl, e3, R.laid hT, rfl, rfl, ?_, ?_⟩
    · have z : (xs.zip ys)[i]? = some (d, d2) := List.getElem?_zip_eq_some.mpr ⟨k1, k3⟩
      simp [Src.get, z]
    · exact rep_tup.mpr ⟨T, _, rfl, .inl ⟨.inl upd_same, fun l => R.dead hT l⟩, Reps.mk (Rep.ext e3.wk _ _ k2) (Reps.one (Rep.ext e3.wk _ _ k4))⟩
  st := fun w2 e R _ => ⟨vs, us, (f.ext e.wk).sq, (f2.ext e.wk).sq, by have := q.length; have := q2.length; omega⟩
theorem yg_zipT {w : Wd} {a b : Addr} {xs ys : List D} {vs us : List V} (f : FzT G.K w a vs) (f2 : FzT G.K w b us) (q : Reps G w xs vs) (q2 : Reps G w ys us) (hz : xs.length ≤ lineD) :
    YG G w (.items ((xs.zip ys).map fun p => .tup [p.1, p.2])) (min xs.length ys.length) (RZ.ItzT G.K a b) where
  len := by omega
  cnt := by simp [items]
  go := fun i w2 e R hi _ => by
    have h1 : i < vs.length := by have := q.length; omega
    have h2 : i < us.length := by have := q2.length; omega
    exact ⟨vs, us, vs[i], us[i], (f.ext e.wk).sq, (f2.ext e.wk).sq, by simp [h1], by simp [h2]⟩
  yl := fun i w2 x H2 e R y hi _ => by
    obtain ⟨T, x, y, rfl, hT, rfl, g1, g2⟩ := y
    obtain ⟨d, k1, k2⟩ := (Reps.ext e.wk _ _ q).getV (g1 vs (f.ext e.wk).sq)
    obtain ⟨d2, k3, k4⟩ := (Reps.ext e.wk _ _ q2).getV (g2 us (f2.ext e.wk).sq)
    have e3 := Ext.laid (o := .tup [x, y]) R hT
    refine ⟨⟨upd w2.H T (.tup [x, y]), w2.S, w2.ρ, w2.pv⟩, .tup [d, d2], rfl, e3, R.laid hT, rfl, rfl, ?_, ?_⟩
    · have z : (xs.zip ys)[i]? = some (d, d2) := List.getElem?_zip_eq_some.mpr ⟨k1, k3⟩
      simp [Src.get, z]
    · exact rep_tup.mpr ⟨T, _, rfl, .inl ⟨.inl upd_same, fun l => R.dead hT l⟩, Reps.mk (Rep.ext e3.wk _ _ k2) (Reps.one (Rep.ext e3.wk _ _ k4))⟩
  st := fun w2 e R _ => ⟨vs, us, (f.ext e.wk).sq, (f2.ext e.wk).sq, by have := q.length; have := q2.length; omega⟩
theorem sim_zip {elts : List Expr} {kk : Nat} {tpos : Pos} (hK : X.K = G.K) (hg : Gl X "zip") (hm : X.mg "zip" = none) (ha : SimE G X a ma) (hb : SimE G X b mb) (na : NS a) (nb : NS b) :
    SimI G X (.Tuple elts kk tpos) (.Call (.Name "zip" p) [a, b] [] pos) (fun Γ S => (ma Γ S).bind fun x S1 => (mb Γ S1).bind fun y S2 => opZip [x, y] S2) := fun W tk => by
  refine PI.imp (RZ.pi_zipA hg hm (pa_cons (ha W tk) (pa_cons (hb W tk) pa_nil (nb [] _)) (na _ _)) (na _ _) (by rw [nb]; rfl)) fun σ H R h => iD.two h fun w1 d d2 v v2 R1 rv rv2 h1 => ?_
  unfold opZip at h1
  split at h1
  · rename_i xs ys ex
    cases ex
    split at h1
    · rename_i hl
      obtain ⟨a, vs, rfl, f, q⟩ := rep_tup.mp rv
      obtain ⟨b, us, rfl, f2, q2⟩ := rep_tup.mp rv2
      exact ⟨a, b, vs, us, rfl, .inr ⟨by rw [hK]; exact f.sq, by rw [hK]; exact f2.sq, by rw [hK]; exact FinI.ok h1 R1 ⟨_, yg_zipT f f2 q q2 hl⟩⟩⟩
    · exact h1.elim
  · rename_i xs ys ex
    cases ex
    split at h1
    · rename_i hl
      obtain ⟨a, vs, rfl, f, q⟩ := rep_lst.mp rv
      obtain ⟨b, us, rfl, f2, q2⟩ := rep_lst.mp rv2
      exact ⟨a, b, vs, us, rfl, .inl ⟨by rw [hK]; exact f.sq, by rw [hK]; exact f2.sq, by rw [hK]; exact FinI.ok h1 R1 ⟨_, yg_zipL f f2 q q2 hl⟩⟩⟩
    · exact h1.elim
  · exact h1.elim
end
end Dn

set_option maxHeartbeats 4000000
namespace Dn
open PySem PySem.Spec PyProof.Rows L2

theorem wipe_get {σ : St} {k : Nat} : ∀ {us : List Nat}, (wipe σ us)[k]? = if k ∈ us then (σ[k]?).map fun _ => none else σ[k]?
  | [] => by simp [wipe]
  | u :: us => by
    show ((wipe σ us).set u none)[k]? = _
    by_cases hu : u = k
    · subst hu
      rw [List.getElem?_set]
      simp only [if_true, wipe_length]
      by_cases hl : u < σ.length
      · simp [hl]
      · simp [hl]
    · rw [List.getElem?_set_ne hu, wipe_get]
      simp [Ne.symm hu]
theorem wipe_set_in {σ : St} {i : Nat} {v : Option V} {vs : List Nat} (h : i ∈ vs) : wipe (σ.set i v) vs = wipe σ vs := by
  apply List.ext_getElem?
  intro k
  rw [wipe_get, wipe_get]
  by_cases hk : k ∈ vs
  · simp only [hk, if_true]
    by_cases hik : i = k
    · subst hik
      by_cases hl : i < σ.length
      · simp [hl]
      · simp [hl]
    · rw [List.getElem?_set_ne hik]
  · simp only [hk, if_false]
    have hik : i ≠ k := fun z => hk (z ▸ h)
    rw [List.getElem?_set_ne hik]
theorem wipe_wipe {σ : St} {vs : List Nat} : wipe (wipe σ vs) vs = wipe σ vs := by
  apply List.ext_getElem?
  intro k
  rw [wipe_get, wipe_get]
  by_cases h : k ∈ vs
  · simp only [h, if_true]; cases σ[k]? <;> rfl
  · simp only [h, if_false]
theorem wipeV_get {Γ : Vars} {k : Nat} : ∀ {us : List Nat}, (wipeV Γ us)[k]? = if k ∈ us then (Γ[k]?).map fun _ => none else Γ[k]?
  | [] => by simp [wipeV]
  | u :: us => by
    have hlen : ∀ us : List Nat, (wipeV Γ us).length = Γ.length := by
      intro us
      induction us with
      | nil => rfl
      | cons u us ih => simp [wipeV, ih]
    show ((wipeV Γ us).set u none)[k]? = _
    by_cases hu : u = k
    · subst hu
      rw [List.getElem?_set]
      simp only [if_true, hlen]
      by_cases hl : u < Γ.length
      · simp [hl]
      · simp [hl]
    · rw [List.getElem?_set_ne hu, wipeV_get]
      simp [Ne.symm hu]
theorem wipeV_len {Γ : Vars} : ∀ us : List Nat, (wipeV Γ us).length = Γ.length
  | [] => rfl
  | u :: us => by simp [wipeV, wipeV_len us]
section
variable {G : Gx} {X : Cx} {w : Wd} {σ : St} {Γ : Vars}
theorem At.wipe (A : At G σ Γ w) (hx : G.ex = none) (vs : List Nat) : At G (L2.wipe σ vs) (wipeV Γ vs) w := by
  refine ⟨A.rel, fun i d h => ?_, by rw [wipeV_len, wipe_length]; exact A.len, fun e he => by rw [hx] at he; cases he⟩
  rw [wipeV_get] at h
  by_cases hi : i ∈ vs
  · simp only [hi, if_true] at h
    cases hG : Γ[i]? with
    | none => rw [hG] at h; cases h
    | some o => rw [hG] at h; cases h
  · simp only [hi, if_false] at h
    obtain ⟨v, h1, h2⟩ := A.env i d h
    exact ⟨v, by rw [wipe_out hi]; exact h1, h2⟩
theorem At.set (A : At G σ Γ w) {i : Nat} (hx : ∀ e, G.ex = some e → e.sl ≠ i) {d : D} {v : V} (r : Rep G w d v) : At G (σ.set i (some v)) (Γ.set i (some d)) w := by
  refine ⟨A.rel, fun j e h => ?_, by simp [A.len], fun e he => by rw [List.getElem?_set_ne (Ne.symm (hx e he))]; exact A.err e he⟩
  by_cases hij : i = j
  · subst hij
    rw [List.getElem?_set] at h
    simp only [if_true] at h
    split at h
    · rename_i hl
      cases h
      refine ⟨v, ?_, r⟩
      rw [A.len] at hl
      simp [List.getElem?_set, hl]
    · cases h
  · rw [List.getElem?_set_ne hij] at h
    obtain ⟨u, h1, h2⟩ := A.env j e h
    exact ⟨u, by rw [List.getElem?_set_ne hij]; exact h1, h2⟩
theorem At.drop (A : At G σ Γ w) (i : Nat) : At G σ (Γ.set i none) w := by
  refine ⟨A.rel, fun j e h => ?_, by simp [A.len], A.err⟩
  by_cases hij : i = j
  · subst hij
    rw [List.getElem?_set] at h
    simp only [if_true] at h
    split at h <;> cases h
  · rw [List.getElem?_set_ne hij] at h
    exact A.env j e h

def gD (G : Gx) (t : Tg) : TG := fun v σ H Q => ∃ Γ w d Γ' S', w.H = H ∧ At G σ Γ w ∧ Rep G w d v ∧ setTg t d Γ w.S = some (Γ', S') ∧
  ∀ σ' w', Ext w w' → w'.S = S' → w'.pv = w.pv → At G σ' Γ' w' → (∀ vs, (∀ i ∈ slotsTg t, i ∈ vs) → L2.wipe σ' vs = L2.wipe σ vs) → Q σ' w'.H
def gDs (G : Gx) (ts : List Tg) : TGs := fun us σ H Q => ∃ Γ w ds Γ' S', w.H = H ∧ At G σ Γ w ∧ Reps G w ds us ∧ setTgs ts ds Γ w.S = some (Γ', S') ∧
  ∀ σ' w', Ext w w' → w'.S = S' → w'.pv = w.pv → At G σ' Γ' w' → (∀ vs, (∀ i ∈ slotsTgs ts, i ∈ vs) → L2.wipe σ' vs = L2.wipe σ vs) → Q σ' w'.H
theorem PG.imp {t t' : TG} {e : Expr} (h : PG X e t) (hi : ∀ v σ H Q, t' v σ H Q → t v σ H Q) : PG X e t' := ⟨fun pins s σ H v u Q I r q => h.run pins s σ H v u Q I r (hi _ _ _ _ q)⟩
theorem PGs.imp {t t' : TGs} {es : List Expr} (h : PGs X es t) (hi : ∀ v σ H Q, t' v σ H Q → t v σ H Q) : PGs X es t' := ⟨fun pins s σ H v u Q I r q => h.run pins s σ H v u Q I r (hi _ _ _ _ q)⟩
theorem simG_nm {i : Nat} {x : Str} {pos : Pos} (hex : ∀ e, G.ex = some e → e.sl ≠ i) (hN : X.N.Nodup) (hi : X.N[i]? = some x) (hx : Loc X.env.scope x) (hf : X.fn x = true ∨ X.env.scope.names.lookup x = some .local) : PG X (.Name x pos) (gD G (.nm i)) := by
  refine PG.imp (pg_name hN hi hx hf) fun v σ H Q ⟨Γ, w, d, Γ', S', hw, A, r, hs, q⟩ => ?_
  simp only [setTg, Option.some.injEq, Prod.mk.injEq] at hs
  obtain ⟨h1, h2⟩ := hs
  subst h1 h2 hw
  exact q _ w (Ext.refl w) rfl rfl (A.set hex r) fun vs hv => wipe_set_in (hv i (by simp [slotsTg]))
theorem simG_nil : PGs X [] (gDs G []) := PGs.imp pgs_nil fun us σ H Q ⟨Γ, w, ds, Γ', S', hw, A, r, hs, q⟩ => by
  cases ds with
  | nil =>
    simp only [setTgs, Option.some.injEq, Prod.mk.injEq] at hs
    obtain ⟨h1, h2⟩ := hs
    subst h1 h2 hw
    exact ⟨reps_nil.mp r, q _ w (Ext.refl w) rfl rfl A fun _ _ => rfl⟩
  | cons d ds => simp [setTgs] at hs
theorem simG_cons {e : Expr} {es : List Expr} {t : Tg} {ts : List Tg} (h1 : PG X e (gD G t)) (h2 : PGs X es (gDs G ts)) (hs : (assignEach (e :: es) X.env).map (·.2) = assign e X.env :: (assignEach es X.env).map (·.2)) :
    PGs X (e :: es) (gDs G (t :: ts)) := PGs.imp (pgs_cons h1 h2 hs) fun us σ H Q ⟨Γ, w, ds, Γ', S', hw, A, r, hs, q⟩ => by
  cases ds with
  | nil => simp [setTgs] at hs
  | cons d ds =>
    obtain ⟨v, rr, rfl, r1, r2⟩ := reps_cons.mp r
    simp only [setTgs] at hs
    cases h : setTg t d Γ w.S with
    | none => rw [h] at hs; cases hs
    | some p =>
      obtain ⟨Γ1, S1⟩ := p
      rw [h] at hs
      dsimp only at hs
      subst hw
      refine ⟨v, rr, rfl, Γ, w, d, Γ1, S1, rfl, A, r1, h, fun σ1 w1 e1 s1 p1 A1 f1 => ?_⟩
      subst s1
      refine ⟨Γ1, w1, ds, Γ', S', rfl, A1, Reps.ext e1.wk _ _ r2, hs, fun σ2 w2 e2 s2 p2 A2 f2 => q σ2 w2 (e1.trans e2) s2 (p2.trans p1) A2 fun vs hv => ?_⟩
      rw [f2 vs fun i hi => hv i (by simp [slotsTgs, hi]), f1 vs fun i hi => hv i (by simp [slotsTgs, hi])]
theorem setTgs_len : ∀ {ts : List Tg} {ds : List D} {Γ : Vars} {S : Store} {p : Vars × Store}, setTgs ts ds Γ S = some p → ds.length = ts.length
  | [], [], _, _, _, _ => rfl
  | [], _ :: _, _, _, _, h => by simp [setTgs] at h
  | _ :: _, [], _, _, _, h => by simp [setTgs] at h
  | t :: ts, d :: ds, Γ, S, p, h => by
    simp only [setTgs] at h
    cases h1 : setTg t d Γ S with
    | none => rw [h1] at h; cases h
    | some p1 =>
      rw [h1] at h
      simp [setTgs_len h]
theorem simG_tup {es : List Expr} {ts : List Tg} {k : Nat} {pos : Pos} (hc : X.calm = true) (hK : X.K = G.K) (h : PGs X es (gDs G ts)) (hn : (assignEach es X.env).length = ts.length) (hst : (assignEach es X.env).findIdx? (·.1) = none) :
    PG X (.Tuple es k pos) (gD G (.tup ts)) := PG.imp (pg_tup hc h hn hst) fun v σ H Q ⟨Γ, w, d, Γ', S', hw, A, r, hs, q⟩ => by
  cases d with
  | tup xs =>
    obtain ⟨a, vs, rfl, f, r'⟩ := rep_tup.mp r
    subst hw
    simp only [setTg] at hs
    exact ⟨a, vs, rfl, by rw [hK]; exact f.sq, by rw [← r'.length, setTgs_len hs], Γ, w, xs, Γ', S', rfl, A, r', hs, fun σ' w' e' s' p' A' f' => q σ' w' e' s' p' A' f'⟩
  | _ => simp [setTg] at hs
end

def compG (s : Src) (len : Nat) (f : D → Store → Out (Option D)) : Nat → Store → Out (List D)
  | 0, S => match s.fine len S with
    | true => .ok [] S
    | false => .stuck
  | n + 1, S => match s.fine len S with
    | true => (match s.get len S (len - (n + 1)) with
      | some x => (match f x S with
        | .ok (some y) S1 => (match compG s len f n S1 with
          | .ok ys S2 => .ok (y :: ys) S2
          | _ => .stuck)
        | .ok none S1 => compG s len f n S1
        | _ => .stuck)
      | none => .stuck)
    | false => .stuck
theorem drop_at {α : Type} {xs : List α} {n : Nat} (h : n + 1 ≤ xs.length) : xs.drop (xs.length - (n + 1)) = xs[xs.length - (n + 1)]'(by omega) :: xs.drop (xs.length - n) := by
  have h1 : xs.length - (n + 1) < xs.length := by omega
  have e : xs.length - (n + 1) + 1 = xs.length - n := by omega
  rw [List.drop_eq_getElem_cons h1, e]
theorem compL_G (xs : List D) (f : D → Store → Out (Option D)) : ∀ (n : Nat) (S : Store), n ≤ xs.length → compL f (xs.drop (xs.length - n)) S = compG (.items xs) xs.length f n S
  | 0, S, _ => by simp [compL, compG, Src.fine]
  | n + 1, S, h => by
    have h1 : xs.length - (n + 1) < xs.length := by omega
    rw [drop_at h]
    unfold compG compL
    simp only [Src.fine, Src.get, List.getElem?_eq_getElem h1]
    cases hf : f (xs[xs.length - (n + 1)]'h1) S with
    | ok o S1 =>
      cases o with
      | none => exact compL_G xs f n S1 (by omega)
      | some y =>
        dsimp only
        rw [compL_G xs f n S1 (by omega)]
        all_goals (cases compG (Src.items xs) xs.length f n S1 <;> rfl)
    | exn c ys S1 => rfl
    | stuck => rfl
theorem compH_G (i len : Nat) (f : D → Store → Out (Option D)) : ∀ (n : Nat) (S : Store), compH i len f n S = compG (.hnd i) len f n S
  | 0, S => by
    unfold compH compG
    simp only [Src.fine]
    cases h : S[i]? with
    | none => rfl
    | some o => cases o with
      | none => rfl
      | some u => cases u with
        | ins c fs => rfl
        | lst xs =>
          by_cases hl : xs.length = len
          · simp [hl]
          · simp [hl]
  | n + 1, S => by
    unfold compH compG
    simp only [Src.fine, Src.get]
    cases h : S[i]? with
    | none => rfl
    | some o => cases o with
      | none => rfl
      | some u => cases u with
        | ins c fs => rfl
        | lst xs =>
          by_cases hl : xs.length = len
          · simp only [hl, if_true, decide_true]
            cases xs[len - (n + 1)]? with
            | none => rfl
            | some x =>
              dsimp only
              cases f x S with
              | ok o S1 =>
                cases o with
                | none => exact compH_G i len f n S1
                | some y =>
                  dsimp only
                  rw [compH_G i len f n S1]
                  all_goals (cases compG (Src.hnd i) len f n S1 <;> rfl)
              | exn c ys S1 => rfl
              | stuck => rfl
          · simp [hl]
theorem compG_noexn {s : Src} {len : Nat} {f : D → Store → Out (Option D)} : ∀ (n : Nat) (S : Store) (c : Nat) (xs : List D) (S' : Store), compG s len f n S ≠ .exn c xs S'
  | 0, S, c, xs, S', h => by
    unfold compG at h
    split at h <;> cases h
  | n + 1, S, c, xs, S', h => by
    unfold compG at h
    split at h
    · split at h
      · split at h
        · split at h <;> cases h
        · exact compG_noexn n _ _ _ _ h
        · cases h
      · cases h
    · cases h
section
variable {G : Gx} {X : Cx} {elt tg iter : Expr} {ifs : List Expr} {mi : Vars → Store → Out Src} {mt : Vars → Store → Out Bool} {me : DenD} {t : Tg}
abbrev noW : WX := fun _ _ _ _ => False
def turnM (t : Tg) (mt : Vars → Store → Out Bool) (me : DenD) (Γ : Vars) (x : D) (S : Store) : Out (Option D) := match setTg t x (wipeV Γ (slotsTg t)) S with
  | none => .stuck
  | some (Γ, S) => (mt Γ S).bind fun c S1 => if c then (me Γ S1).bind fun y S2 => .ok (some y) S2 else .ok none S1
def compS (f : D → Store → Out (Option D)) (s : Src) (S1 : Store) : Out (List D) := match s with
  | .items xs => compL f xs S1
  | .hnd i => match lstOf (.ref i) S1 with
    | some xs => compH i xs.length f xs.length S1
    | none => .stuck
def compM (me : DenD) (t : Tg) (mi : Vars → Store → Out Src) (mt : Vars → Store → Out Bool) (Γ : Vars) (S : Store) : Out (List D) := (mi Γ S).bind (compS (turnM t mt me Γ))
theorem dComp_M (elt : Bx) (t : Tg) (it : Bx) (ifs : List Bx) : dComp elt t it ifs = compM elt.v t it.i (dTest ifs) := rfl
theorem compM_G {s : Src} {w : Wd} {J : It} {n : Nat} (y : YG G w s n J) (f : D → Store → Out (Option D)) : compS f s w.S = compG s n f n w.S := by
  have hc := y.cnt
  cases s with
  | items xs =>
    have hn : xs.length = n := by simpa [items] using hc
    subst hn
    have := compL_G xs f xs.length w.S (Nat.le_refl _)
    rw [Nat.sub_self, List.drop_zero] at this
    exact this
  | hnd i =>
    simp only [items] at hc
    unfold compS
    simp only
    cases hl : lstOf (.ref i) w.S with
    | none => rw [hl] at hc; cases hc
    | some xs =>
      rw [hl] at hc
      have hn : xs.length = n := by simpa using hc
      subst hn
      exact compH_G _ _ _ _ _
theorem comp_key (hx : G.ex = none) {W : WX} {σ : St} {H : Hp} {Q : VK} (h : tDL G W (compM me t mi mt) σ H Q) : tLc (iD G W mi) (gD G t) (tDT G noW mt) (tD G noW me) (slotsTg t) σ H Q := by
  obtain ⟨Γ, w, hw, A, hf⟩ := h
  refine ⟨Γ, w, hw, A, ?_⟩
  unfold compM at hf
  cases hmi : mi Γ w.S with
  | stuck => rw [hmi] at hf; exact hf
  | exn c xs S => rw [hmi] at hf; exact hf
  | ok s S =>
  rw [hmi] at hf
  rw [bind_ok] at hf
  intro w1 J e1 R1 s1 p1 wk
  obtain ⟨n, Y⟩ := wk
  subst s1
  rw [compM_G Y] at hf
  have A1 := A.ext e1 R1
  intro D hD
  have hDw : w.H D = none := e1.none hD
  cases hco : compG s n (turnM t mt me Γ) n w1.S with
  | stuck => rw [hco] at hf; exact hf.elim
  | exn c xs S => exact absurd hco (compG_noexn n _ _ _ _)
  | ok tot S' =>
  rw [hco] at hf
  have fin : ∀ (w' : Wd) (vs : List V), Ext w1 w' → Rel G w' → w'.S = S' → w'.pv = D :: w1.pv → w'.H D = some (.lst vs) → Reps G w' tot vs → Q (.ref D) w'.H :=
    fun w' vs e r s p h q => hf w' vs D (e1.trans e) r s (by rw [p, p1]) hDw h q
  clear hf
  let Inv : Nat → Hp → Prop := fun i H => i ≤ n ∧ ∃ (w2 : Wd) (acc : List V) (ys zs : List Dn.D), w2.H = H ∧ Ext w1 w2 ∧ Rel G w2 ∧ w2.pv = D :: w1.pv ∧ w2.H D = some (.lst acc) ∧ Reps G w2 ys acc ∧ acc.length ≤ i ∧
    compG s n (turnM t mt me Γ) (n - i) w2.S = .ok zs S' ∧ tot = ys ++ zs
  refine ⟨fun i m H => m = n - i ∧ Inv i H, ⟨n, by omega, by omega, addP w1 D [], [], [], tot, rfl, Ext.addP R1 hD, Rel.addP R1 hD, rfl, upd_same, Reps.nil, Nat.zero_le _, hco, rfl⟩, ?_⟩
  rintro i m H ⟨rfl, hi, w2, acc, ys, zs, rfl, e2, R2, p2, hDa, ra, la, hz, htot⟩
  by_cases hlt : i < n
  · obtain ⟨k, hk⟩ : ∃ k, n - i = k + 1 := ⟨n - i - 1, by omega⟩
    rw [hk] at hz
    unfold compG at hz
    cases hfine : s.fine n w2.S with
    | false => rw [hfine] at hz; cases hz
    | true =>
    rw [hfine] at hz
    dsimp only at hz
    have hix : n - (k + 1) = i := by omega
    rw [hix] at hz
    refine .inr ⟨Y.go i w2 e2 R2 hlt hfine, fun H' => Inv (i + 1) H', fun H' p => ⟨n - (i + 1), by omega, rfl, p⟩, fun x H' hy => ?_⟩
    obtain ⟨w3, d, rfl, e3, R3, s3, p3, hget, rd⟩ := Y.yl i w2 x H' e2 R2 hy hlt hfine
    rw [hget] at hz
    simp only at hz
    have A3 : At G (L2.wipe σ (slotsTg t)) (wipeV Γ (slotsTg t)) w3 := ((A1.ext e2 R2).ext e3 R3).wipe hx _
    have hDp : D ∈ w2.pv := by rw [p2]; exact List.mem_cons_self
    have hDp3 : D ∈ w3.pv := (e3.pvk D hDp).1
    have hk' : n - (i + 1) = k := by omega
    -- the turn
    cases hst : setTg t d (wipeV Γ (slotsTg t)) w3.S with
    | none =>
      have : turnM t mt me Γ d w2.S = .stuck := by unfold turnM; rw [← s3, hst]
      rw [this] at hz; cases hz
    | some pp =>
    obtain ⟨Γ1, Sg⟩ := pp
    have hturn : turnM t mt me Γ d w2.S = (mt Γ1 Sg).bind fun c S1 => if c then (me Γ1 S1).bind fun y S2 => .ok (some y) S2 else .ok none S1 := by unfold turnM; rw [← s3, hst]
    rw [hturn] at hz
    refine ⟨wipeV Γ (slotsTg t), w3, d, Γ1, Sg, rfl, A3, rd, hst, fun σ2 wg eg sg pg A2 fw => ⟨by rw [fw _ fun i h => h, wipe_wipe], ?_⟩⟩
    subst sg
    have hDpg : D ∈ wg.pv := (eg.pvk D hDp3).1
    have hDg : wg.H D = w3.H D := (eg.pvk D hDp3).2
    refine ⟨Γ1, wg, rfl, A2, ?_⟩
    cases hmt : mt Γ1 wg.S with
    | stuck => rw [hmt] at hz; cases hz
    | exn c xs S => rw [hmt] at hz; cases hz
    | ok b S4 =>
    rw [hmt, bind_ok] at hz
    intro w4 b' e4 R4 s4 p4 hb
    cases hb
    cases b with
    | false =>
      simp only [Bool.false_eq_true, if_false] at hz ⊢
      subst s4
      have hDp4 := e4.pvk D hDpg
      refine ⟨by omega, w4, acc, ys, zs, rfl, ((e2.trans e3).trans eg).trans e4, R4, by rw [p4, pg, p3, p2], by rw [hDp4.2, hDg, (e3.pvk D hDp).2]; exact hDa, Reps.ext ((e3.trans eg).trans e4).wk _ _ ra, by omega, by rw [hk']; exact hz, htot⟩
    | true =>
      simp only [if_true] at hz ⊢
      refine ⟨Γ1, w4, rfl, A2.ext e4 R4, ?_⟩
      subst s4
      cases hme : me Γ1 w4.S with
      | stuck => rw [hme] at hz; cases hz
      | exn c xs S => rw [hme] at hz; cases hz
      | ok y S5 =>
      rw [hme, bind_ok] at hz
      simp only at hz
      intro w5 v e5 R5 s5 p5 rv
      subst s5
      have hDp4 := e4.pvk D hDpg
      have hDp5 := e5.pvk D hDp4.1
      have hD5 : w5.H D = some (.lst acc) := by rw [hDp5.2, hDp4.2, hDg, (e3.pvk D hDp).2]; exact hDa
      have hn := Y.len
      rw [line_eq] at hn
      refine ⟨acc, hD5, by omega, ?_⟩
      cases hrest : compG s n (turnM t mt me Γ) k w5.S with
      | stuck => rw [hrest] at hz; cases hz
      | exn c xs S => rw [hrest] at hz; cases hz
      | ok zs' S6 =>
      rw [hrest] at hz
      simp only [Out.ok.injEq] at hz
      obtain ⟨hz1, hz2⟩ := hz
      subst hz2
      have e15 : Ext w1 w5 := (((e2.trans e3).trans eg).trans e4).trans e5
      refine ⟨by omega, growP w5 D (acc ++ [v]), acc ++ [v], ys ++ [y], zs', rfl, e15.grow hDp5.1 hD R1, R5.grow hDp5.1, by show w5.pv = _; rw [p5, p4, pg, p3, p2], upd_same, ?_, by simp; omega, by rw [hk']; exact hrest, by rw [htot, ← hz1]; simp⟩
      exact Reps.append (Reps.grow R5 hDp5.1 _ _ (Reps.ext (((e3.trans eg).trans e4).trans e5).wk _ _ ra)) (Reps.one (Rep.grow R5 hDp5.1 _ _ rv))
  · have hin : i = n := by omega
    subst hin
    have h0 : i - i = 0 := by omega
    rw [h0] at hz
    unfold compG at hz
    cases hfine : s.fine i w2.S with
    | false => rw [hfine] at hz; cases hz
    | true =>
      rw [hfine] at hz
      dsimp only at hz
      cases hz
      refine .inl ⟨Y.st w2 e2 R2 hfine, fin w2 acc e2 R2 rfl p2 hDa ?_⟩
      rw [htot]; simpa using ra
variable {scope : Scope} {own : List (Str × Nat)} {pos : Pos}
theorem sim_comp (hx : G.ex = none) (hc : X.calm = true) (hN : X.N.Nodup) (hi : SimI G X tg iter mi) (ok : BlkOk X.N X.env.scope scope own) (hown : own.map (·.2) = slotsTg t)
    (hg : ∀ (s : Shared) (H : Hp) (C : Addr) (cl : List (Str × Addr)) (fp : List Addr), PG (X.blk s H scope (compEnvC scope cl C X.env) fp) tg (gD G t))
    (ht : ∀ (s : Shared) (H : Hp) (C : Addr) (cl : List (Str × Addr)) (fp : List Addr), PTs (X.blk s H scope (compEnvC scope cl C X.env) fp) ifs (tDT G noW mt))
    (he : ∀ (s : Shared) (H : Hp) (C : Addr) (cl : List (Str × Addr)) (fp : List Addr), PE (X.blk s H scope (compEnvC scope cl C X.env) fp) elt (tD G noW me))
    (hs : ∀ x, foldedSetIterable iter X.env x = pure x) : SimL G X (.ListComp elt [⟨tg, iter, ifs, 0⟩] scope pos) (compM me t mi mt) := fun W tk => by
  refine PE.imp (pe_lc hc hN (hi W tk) ok hg ht he hs) fun σ H Q h => ?_
  rw [hown]
  exact comp_key hx h
end
end Dn

set_option maxHeartbeats 4000000
namespace PySem
open Sem (wp)
open AutoSeq1 (wpAny_loadPart')
theorem dn_extend_list (l : Addr) (items : Array Value) (n : Nat) (b : Addr) (items2 : Array Value) (n2 : Nat) (dct : Option Addr) (sl : Array (Option Value)) (hc0 : ¬(!items.isEmpty && Builtin.List.listTooLong (items.size + items2.size)) = true) (hc1 : items.size ≤ sizeLine) (hs2 : items.size + items2.size ≤ sizeLine + 1) :
    Meets (Builtin.«list.extend» ⟨[.ref l, .ref b], []⟩) (fun _ R s => s.heap.get? l = some { cls := .type "list", dict := none, data := .seq items n, slots := #[] } ∧ s.heap.get? b = some { cls := .type "list", dict := dct, data := .seq items2 n2, slots := sl } ∧ R (.ok (.ret Value.none)) { s with heap := s.heap.update l (Obj.mapSeq fun x => x ++ items2), toks := s.toks }) :=
  .of_wp fun prog w A R s h => by
    obtain ⟨hp, g, d, tk, os⟩ := s; obtain ⟨hl, hb, h⟩ := h; have f1 := AutoSeq1.idx_int; have f2 := AutoSeq1.sub_tuple_tuple; have f3 := AutoSeq1.sub_list_list; have f4 := AutoSeq1.sub_tuple_list; have f5 := AutoSeq1.sub_list_tuple
    have hz' : (items ++ items2).size ≤ sizeLine + 1 := by rw [Array.size_append]; exact hs2
    wp_walk using (wpAny_updateSeq hl rfl (hz := hc1) (_hz' := hz')), wpAny_loadPart' hl, wpAny_loadPart' hb; exact ⟨_, rfl, h⟩
theorem dn_extend_tup (l : Addr) (items : Array Value) (n : Nat) (b : Addr) (items2 : Array Value) (n2 : Nat) (dct : Option Addr) (sl : Array (Option Value)) (hs0 : ¬(!items.isEmpty && Builtin.List.listTooLong (items.size + items2.size)) = true) (hs1 : items.size ≤ sizeLine) (hs2 : items.size + items2.size ≤ sizeLine + 1) :
    Meets (Builtin.«list.extend» ⟨[.ref l, .ref b], []⟩) (fun _ R s => s.heap.get? l = some { cls := .type "list", dict := none, data := .seq items n, slots := #[] } ∧ s.heap.get? b = some { cls := .type "tuple", dict := dct, data := .seq items2 n2, slots := sl } ∧ R (.ok (.ret Value.none)) { s with heap := s.heap.update l (Obj.mapSeq fun x => x ++ items2), toks := s.toks }) :=
  .of_wp fun prog w A R s h => by
    obtain ⟨hp, g, d, tk, os⟩ := s; obtain ⟨hl, hb, h⟩ := h; have f1 := AutoSeq1.idx_int; have f2 := AutoSeq1.sub_tuple_tuple; have f3 := AutoSeq1.sub_list_list; have f4 := AutoSeq1.sub_tuple_list; have f5 := AutoSeq1.sub_list_tuple
    have hz' : (items ++ items2).size ≤ sizeLine + 1 := by rw [Array.size_append]; exact hs2
    wp_walk using (wpAny_updateSeq hl rfl (hz := hs1) (_hz' := hz')), wpAny_loadPart' hl, wpAny_loadPart' hb; exact ⟨_, rfl, h⟩
end PySem
namespace Dn
open PySem PySem.Spec PyProof.Rows L2

section
variable {G : Gx} {X : Cx}
def rBm (G : Gx) (m : Bm) : V → List V → Hp → VK → Prop := fun x vs H Q => ∃ w d ds, w.H = H ∧ Rel G w ∧ Rep G w d x ∧ Reps G w ds vs ∧ Fin0 G (Rep G) w (opBm m d ds w.S) Q
theorem noX_bm (m : Bm) (d : D) (ds : List D) (S : Store) : NoX (opBm m d ds S) := by
  intro c xs S' h
  unfold opBm at h
  repeat' (split at h)
  all_goals cases h
/-- a list's handle is written -/
theorem wr_lst {w : Wd} {h : Nat} {a : Addr} {xs ys : List D} {us : List V} (R : Rel G w) (hS : w.S[h]? = some (some (.lst xs))) (ha : w.ρ[h]? = some a) (r : Reps G w ys us) :
    Ext w ⟨upd w.H a (.lst us), w.S.set h (some (.lst ys)), w.ρ, w.pv⟩ ∧ Rel G ⟨upd w.H a (.lst us), w.S.set h (some (.lst ys)), w.ρ, w.pv⟩ := by
  have e := Ext.write (o := .lst us) (u := some (.lst ys)) R hS ha
  exact ⟨e, R.write hS ha ⟨us, upd_same, Reps.ext e.wk _ _ r⟩⟩
theorem reps_dropLast {w : Wd} {ds : List D} {vs : List V} (r : Reps G w ds vs) : Reps G w ds.dropLast vs.dropLast := by
  rw [List.dropLast_eq_take, List.dropLast_eq_take, r.length]
  exact r.take _
def Bm.py : Bm → Str × String
  | .append => ("append", "list.append")
  | .extend => ("extend", "list.extend")
  | .insert => ("insert", "list.insert")
  | .pop => ("pop", "list.pop")
theorem bm_slot (m : Bm) : Slot "list" m.py.1 m.py.2 := by
  cases m
  · exact F.slot_list_append
  · exact F.slot_list_extend
  · exact F.slot_list_insert
  · exact F.slot_list_pop
theorem bm_type (m : Bm) : typeOf (.builtin m.py.2) = pure (.type "method_descriptor") := by
  cases m
  · exact F.type_list_append
  · exact F.type_list_extend
  · exact F.type_list_insert
  · exact F.type_list_pop
/-- xs.extend(a list or a tuple) -/
theorem mt_ext : MtR X "list.extend" (fun x vs H Q => ∃ l b xs zs, x = .ref l ∧ vs = [.ref b] ∧ H l = some (.lst xs) ∧ (SqL X.K H b zs ∨ SqT X.K H b zs) ∧ xs.length + zs.length ≤ sizeLine ∧ Q .non (upd H l (.lst (xs ++ zs)))) := by
  intro pins s σ H x vs v us Q I rx rv h
  obtain ⟨l, b, xs, zs, rfl, rfl, hH, hB, hz, q⟩ := h
  cases rx
  obtain ⟨u, rfl, ru⟩ := rv.one
  cases ru
  obtain ⟨z, its, n, r, hl, e⟩ := I.lstM hH
  have hlong : ∀ m : Nat, its.toArray.size + m ≤ sizeLine → ¬ (!its.toArray.isEmpty && Builtin.List.listTooLong (its.toArray.size + m)) = true := fun m hsz => by
    rw [notLongL hsz, Bool.and_false]
    exact Bool.false_ne_true
  rcases hB with hB | hB
  · obtain ⟨its2, r2, p, hz2⟩ := I.list hB
    obtain ⟨⟨c, dct, dt, sl⟩, n2, e2, hc, hd, hdat⟩ := p
    dsimp only at hc hd hdat
    subst hc hd hdat
    have hl2 := r2.length
    have hsz : its.toArray.size + its2.toArray.size ≤ sizeLine := by rw [List.size_toArray, List.size_toArray]; omega
    refine call_meets F.slot_list_extend ⟨_, e, rfl⟩ F.entry_list_extend (F.args_list_extend_2 _ _)
      (dn_extend_list l its.toArray n b its2.toArray n2 none sl (hlong _ hsz) (by rw [List.size_toArray]; omega) (by omega)) ⟨e, e2, ?_⟩
    refine ⟨.non, _, I.lset (its' := its ++ its2) hH e (by simp) (r.append r2) ?_, rfl, q⟩
    rw [List.length_append]
    omega
  · obtain ⟨its2, r2, p, hz2⟩ := I.tuple hB
    obtain ⟨⟨c, dct, dt, sl⟩, e2, hc, n2, hdat⟩ := p
    dsimp only at hc hdat
    subst hc hdat
    have hl2 := r2.length
    have hsz : its.toArray.size + its2.toArray.size ≤ sizeLine := by rw [List.size_toArray, List.size_toArray]; omega
    refine call_meets F.slot_list_extend ⟨_, e, rfl⟩ F.entry_list_extend (F.args_list_extend_2 _ _)
      (dn_extend_tup l its.toArray n b its2.toArray n2 dct sl (hlong _ hsz) (by rw [List.size_toArray]; omega) (by omega)) ⟨e, e2, ?_⟩
    refine ⟨.non, _, I.lset (its' := its ++ its2) hH e (by simp) (r.append r2) ?_, rfl, q⟩
    rw [List.length_append]
    omega
theorem ok_bm (hK : X.K = G.K) (m : Bm) : MtR X m.py.2 (rBm G m) := by
  intro pins s σ H x vs v us Q I rx rv h
  obtain ⟨w, d, ds, hw, R, rd, rs, hf⟩ := h
  subst hw
  unfold opBm at hf
  split at hf
  case h_2 => exact hf.elim
  rename_i h
  obtain ⟨a, rfl, ha⟩ := rep_ref.mp rd
  split at hf
  case h_2 => exact hf.elim
  rename_i xs hS
  obtain ⟨b, hb, ws, hH, rw'⟩ := R.at_ h _ hS
  rw [ha] at hb; cases hb
  have hlen := rw'.length
  split at hf
  · rename_i d1
    split at hf
    · rename_i hlt
      obtain ⟨v1, rfl, r1⟩ := reps1 rs
      have q := wr_lst R hS ha (Reps.append rw' (Reps.one r1))
      exact mt_append pins s σ _ _ _ v us Q I rx rv ⟨a, ws, v1, rfl, rfl, hH, by rw [line_eq] at hlt; omega, hf ⟨_, _, _, _⟩ .non q.1 q.2 rfl rfl (by simp [Rep])⟩
    · exact hf.elim
  · rename_i d1
    split at hf
    · rename_i ys hys
      split at hf
      · rename_i hlt
        obtain ⟨v1, rfl, r1⟩ := reps1 rs
        obtain ⟨b, zs, rfl, sq, r2⟩ := rep_seqOf R r1 hys
        have q := wr_lst R hS ha (Reps.append rw' r2)
        have hl2 := r2.length
        exact mt_ext pins s σ _ _ _ v us Q I rx rv ⟨a, b, ws, zs, rfl, rfl, hH, by rw [hK]; exact sq, by rw [line_eq] at hlt; omega, hf ⟨_, _, _, _⟩ .non q.1 q.2 rfl rfl (by simp [Rep])⟩
      · exact hf.elim
    · exact hf.elim
  · rename_i i d1
    split at hf
    · rename_i hlt
      obtain ⟨v1, v2, rfl, r1, r2⟩ := reps2 rs
      rw [rep_int.mp r1] at rv
      have q := wr_lst R hS ha (Reps.append (Reps.append (rw'.take i.toNat) (Reps.one r2)) (rw'.drop i.toNat))
      have hz1 : ws.length < sizeLine := by
        have := hlt.1
        rw [line_eq] at this
        omega
      have hi2 : i < 2 ^ 63 := by
        have e : (2 : Int) ^ 63 = 9223372036854775808 := by decide
        rw [e]
        exact hlt.2.2
      exact mt_insert pins s σ _ _ _ v us Q I rx rv ⟨a, ws, i, v2, rfl, rfl, hH, hz1, hlt.2.1, hi2, hf ⟨_, _, _, _⟩ .non q.1 q.2 rfl rfl (by simp [Rep])⟩
    · exact hf.elim
  · split at hf
    · rename_i d1 hd
      rw [reps_nil.mp rs] at rv
      obtain ⟨v1, hv1, r1⟩ := rw'.get hd
      have q := wr_lst R hS ha (reps_dropLast rw')
      exact mt_pop pins s σ _ _ _ v us Q I rx rv ⟨a, ws, v1, rfl, rfl, hH, by rw [← hlen]; exact hv1, hf ⟨_, _, _, _⟩ v1 q.1 q.2 rfl rfl (Rep.ext q.1.wk _ _ r1)⟩
    · exact hf.elim
  · exact hf.elim
theorem bm_ty {w : Wd} {m : Bm} {d : D} {v : V} (hK : X.K = G.K) (R : Rel G w) (r : Rep G w d v) (h : m.ty d w.S = true) : tyV X.K "list" v w.H := by
  unfold Bm.ty at h
  cases hl : lstOf d w.S with
  | none => rw [hl] at h; cases h
  | some xs =>
    obtain ⟨a, vs, rfl, sq, _⟩ := rep_lstOf R r hl
    exact .inl ⟨rfl, vs, by rw [hK]; exact sq⟩
def bmM (m : Bm) (mo : DenD) (ma : Vars → Store → Out (List D)) : DenD := fun Γ S => (mo Γ S).bind fun x S1 => if m.ty x S1 then (ma Γ S1).bind fun ds S2 => opBm m x ds S2 else .stuck
variable {o e : Expr} {es : List Expr} {mo : DenD} {ma : Vars → Store → Out (List D)} {apos cpos : Pos}
theorem sim_bm (m : Bm) (hK : X.K = G.K) (ho : SimE G X o mo) (ha : SimA G X (e :: es) ma) (ns : ∀ x ∈ e :: es, NS x) (hbase : attributeBase o m.py.1 X.env (eval o X.env) = eval o X.env) (hline : (apos.endLine == cpos.line) = true) (hlen : (e :: es).length < 30) :
    SimE G X (.Call (.Attribute o m.py.1 apos) (e :: es) [] cpos) (bmM m mo ma) := fun W tk => by
  have hany := ns_any (pos := cpos) (env := X.env) ns
  refine PE.imp (pe_bm F.plainAttrs_list (bm_slot m) (bm_type m) (ok_bm hK m) (ho W tk) (ha W tk) hbase ?_ hline (ns e List.mem_cons_self _ _) (ns_any fun x hx => ns x (List.mem_cons_of_mem _ hx))) fun σ H Q h => ?_
  · have h1 : (backTo cpos (starEach (e :: es) X.env)).all (fun x => !x.1) = true := by
      rw [List.all_eq_not_any_not]
      simpa using hany
    rw [h1]
    simp only [List.length_nil, List.isEmpty_nil, Bool.true_and, Bool.and_eq_true]
    refine ⟨rfl, ?_⟩
    simpa using hlen
  · obtain ⟨Γ, w, hw, A, hf⟩ := h
    refine ⟨Γ, w, hw, A, hf.bind fun w1 d x e1 R1 p1 rx h1 => ?_⟩
    split at h1
    · rename_i hty
      refine ⟨bm_ty hK R1 rx hty, Γ, w1, rfl, A.ext e1 R1, h1.bind fun w2 ds vs e2 R2 p2 rs h2 => ?_⟩
      exact ⟨w2, d, ds, rfl, R2, Rep.ext e2.wk _ _ rx, rs, h2.zero (noX_bm _ _ _ _)⟩
    · exact h1.elim
theorem sim_bm0 (m : Bm) (hK : X.K = G.K) (ho : SimE G X o mo) (hbase : attributeBase o m.py.1 X.env (eval o X.env) = eval o X.env) (hline : (apos.endLine == cpos.line) = true) :
    SimE G X (.Call (.Attribute o m.py.1 apos) [] [] cpos) (bmM m mo fun _ S => .ok [] S) := fun W tk => by
  refine PE.imp (pe_bm0 F.plainAttrs_list (bm_slot m) (bm_type m) (ok_bm hK m) (ho W tk) hbase hline) fun σ H Q h => ?_
  obtain ⟨Γ, w, hw, A, hf⟩ := h
  refine ⟨Γ, w, hw, A, hf.bind fun w1 d x e1 R1 p1 rx h1 => ?_⟩
  split at h1
  · rename_i hty
    exact ⟨bm_ty hK R1 rx hty, w1, d, [], rfl, R1, rx, Reps.nil, h1.zero (noX_bm _ _ _ _)⟩
  · exact h1.elim
end
end Dn

set_option maxHeartbeats 4000000
namespace Dn
open PySem PySem.Spec PyProof.Rows L2

def FinS (G : Gx) (w : Wd) (o : SOut) (D : Ends) (W : WX) : Prop := match o with
  | .nx Γ S => ∀ (σ' : St) (w' : Wd), Ext w w' → w'.S = S → w'.pv = w.pv → At G σ' Γ w' → D.nx σ' w'.H
  | .rt d S => ∀ (w' : Wd) (v : V), Ext w w' → Rel G w' → w'.S = S → w'.pv = w.pv → Rep G w' d v → D.rt v w'.H
  | .exn c xs Γ S => ∀ (σ' : St) (w' : Wd) (cls : Value) (dd : Option Addr), Ext w w' → w'.S = S → w'.pv = w.pv → At G σ' Γ w' → ErrR G w' cls dd c xs → W cls dd σ' w'.H
  | .stuck => False
def tS (G : Gx) (W : WX) (m : Vars → Store → SOut) : TS := fun D σ H => ∃ Γ w, w.H = H ∧ At G σ Γ w ∧ FinS G w (m Γ w.S) D W
def SimS (G : Gx) (X : Cx) (st : Stmt) (m : Vars → Store → SOut) : Prop := ∀ W : WX, Takes X W → PS X st (tS G W m)
def SimSs (G : Gx) (X : Cx) (st : List Stmt) (m : Vars → Store → SOut) : Prop := ∀ W : WX, Takes X W → PSs X st (tS G W m)

section
variable {G : Gx} {X : Cx} {w w1 : Wd} {σ : St} {Γ : Vars} {D : Ends} {W : WX} {o : SOut}
theorem PS.imp {st : Stmt} {t t' : TS} (h : PS X st t) (hi : ∀ D σ H, t' D σ H → t D σ H) : PS X st t' := ⟨fun pins s σ H D I q => h.run pins s σ H D I (hi _ _ _ q)⟩
theorem PSs.imp {st : List Stmt} {t t' : TS} (h : PSs X st t) (hi : ∀ D σ H, t' D σ H → t D σ H) : PSs X st t' := ⟨fun pins s σ H D I q => h.run pins s σ H D I (hi _ _ _ q)⟩
theorem FinS.base (e : Ext w w1) (hp : w1.pv = w.pv) (h : FinS G w o D W) : FinS G w1 o D W := by
  cases o with
  | nx Γ S => exact fun σ' w' e' s p A => h σ' w' (e.trans e') s (p.trans hp) A
  | rt d S => exact fun w' v e' R s p r => h w' v (e.trans e') R s (p.trans hp) r
  | exn c xs Γ S => exact fun σ' w' cls dd e' s p A r => h σ' w' cls dd (e.trans e') s (p.trans hp) A r
  | stuck => exact h
theorem FinS.st {α β : Type} {R : Wd → α → β → Prop} {oe : Out α} {f : α → Store → SOut} {Q : β → Hp → Prop} (h : FinS G w (oe.st Γ f) D W) (A : At G σ Γ w)
    (hq : ∀ (w' : Wd) (a : α) (b : β), Ext w w' → Rel G w' → w'.pv = w.pv → R w' a b → At G σ Γ w' → FinS G w' (f a w'.S) D W → Q b w'.H) : Fin G R w σ oe Q W := by
  cases oe with
  | ok a S => exact fun w' b e r s p q => hq w' a b e r p q (A.ext e r) (by rw [s]; exact FinS.base e p h)
  | exn c xs S => exact fun w' cls dd e r s p q => h σ w' cls dd e s p (A.ext e r) q
  | stuck => exact h
theorem FinS.then {f : Vars → Store → SOut} (h : FinS G w (o.then f) D W) {D' : Ends} (hrt : D'.rt = D.rt)
    (hnx : ∀ (σ' : St) (Γ' : Vars) (w' : Wd), Ext w w' → w'.pv = w.pv → At G σ' Γ' w' → FinS G w' (f Γ' w'.S) D W → D'.nx σ' w'.H) : FinS G w o D' W := by
  cases o with
  | nx Γ S => exact fun σ' w' e s p A => hnx σ' Γ w' e p A (by rw [s]; exact FinS.base e p h)
  | rt d S =>
    have h' : ∀ (w' : Wd) (v : V), Ext w w' → Rel G w' → w'.S = S → w'.pv = w.pv → Rep G w' d v → D.rt v w'.H := h
    intro w' v e R s p r
    rw [hrt]
    exact h' w' v e R s p r
  | exn c xs Γ S => exact h
  | stuck => exact h
theorem FinS.nx {Γ' : Vars} (h : FinS G w (.nx Γ' w.S) D W) {σ' : St} (A : At G σ' Γ' w) : D.nx σ' w.H := h σ' w (Ext.refl w) rfl rfl A
theorem FinS.rt {d : Dn.D} {v : V} (h : FinS G w (.rt d w.S) D W) (R : Rel G w) (r : Rep G w d v) : D.rt v w.H := h w v (Ext.refl w) R rfl rfl r

theorem FinS.thenB {f : Vars → Store → SOut} {w0 : Wd} (e0 : Ext w0 w) (p0 : w.pv = w0.pv) (h : FinS G w0 (o.then f) D W) {D' : Ends} (hrt : D'.rt = D.rt)
    (hnx : ∀ (σ' : St) (Γ' : Vars) (w' : Wd), Ext w0 w' → w'.pv = w0.pv → At G σ' Γ' w' → FinS G w0 (f Γ' w'.S) D W → D'.nx σ' w'.H) : FinS G w o D' W := by
  cases o with
  | nx Γ S => exact fun σ' w' e s p A => hnx σ' Γ w' (e0.trans e) (p.trans p0) A (by rw [s]; exact h)
  | rt d S =>
    have h' : ∀ (w' : Wd) (v : V), Ext w0 w' → Rel G w' → w'.S = S → w'.pv = w0.pv → Rep G w' d v → D.rt v w'.H := h
    intro w' v e R s p r
    rw [hrt]
    exact h' w' v (e0.trans e) R s (p.trans p0) r
  | exn c xs Γ S => exact FinS.base (D := D) e0 p0 h
  | stuck => exact h

theorem sim_nilS : SimSs G X [] .nx := fun W tk => PSs.imp pss_nil fun D σ H ⟨Γ, w, hw, A, hf⟩ => by
  subst hw
  exact FinS.nx hf A
theorem sim_consS {st : Stmt} {rest : List Stmt} {m mr : Vars → Store → SOut} (h1 : SimS G X st m) (h2 : SimSs G X rest mr) : SimSs G X (st :: rest) (fun Γ S => (m Γ S).then mr) := fun W tk =>
  PSs.imp (pss_cons (h1 W tk) (h2 W tk)) fun D σ H ⟨Γ, w, hw, A, hf⟩ => by
    refine ⟨Γ, w, hw, A, FinS.then hf rfl fun σ' Γ' w' e p A' h' => ⟨Γ', w', rfl, A', h'⟩⟩
/-- a list at a handle stands still from now on -/
theorem sim_frz {rest : List Stmt} {mr : Vars → Store → SOut} {i : Nat} (h : SimSs G X rest mr) : SimSs G X rest (fun Γ S => (opFrz i Γ S).then mr) := fun W tk => PSs.imp (h W tk) fun D σ H ⟨Γ, w, hw, A, hf⟩ => by
  subst hw
  dsimp only at hf
  unfold opFrz at hf
  split at hf
  · rename_i h hG
    split at hf
    · rename_i xs hS
      obtain ⟨v, hσ, rv⟩ := A.env i _ hG
      obtain ⟨a, rfl, ha⟩ := rep_ref.mp rv
      obtain ⟨b, hb, vs, hH, rs⟩ := A.rel.at_ h _ hS
      rw [ha] at hb; cases hb
      have e := Ext.give (w := w) h
      have R' := A.rel.give h
      have n := A.rel.given ha
      refine ⟨Γ.set i (some (.lst xs)), ⟨w.H, w.S.set h none, w.ρ, w.pv⟩, rfl, ⟨R', fun j d hj => ?_, by simp [A.len], fun x hx => by
        obtain ⟨h1, h2⟩ := A.err x hx
        exact ⟨h1, h2.ext e⟩⟩, ?_⟩
      · by_cases hij : i = j
        · subst hij
          have hlt := (List.getElem?_eq_some_iff.mp hG).1
          rw [List.getElem?_set_self hlt] at hj
          cases hj
          exact ⟨_, hσ, rep_lst.mpr ⟨a, vs, rfl, .inl ⟨.inl hH, n⟩, Reps.ext e.wk _ _ rs⟩⟩
        · rw [List.getElem?_set_ne hij] at hj
          obtain ⟨u, h1, h2⟩ := A.env j d hj
          exact ⟨u, h1, Rep.ext e.wk _ _ h2⟩
      · have hf' : FinS G w (mr (Γ.set i (some (.lst xs))) (w.S.set h none)) D W := hf
        exact FinS.base (w1 := ⟨w.H, w.S.set h none, w.ρ, w.pv⟩) e rfl hf'
    · exact hf.elim
  · exact hf.elim

variable {e a b : Expr} {me ma mb : DenD} {pos : Pos}
theorem sim_pass : SimS G X (.Pass pos) .nx := fun W tk => PS.imp ps_pass fun D σ H ⟨Γ, w, hw, A, hf⟩ => by
  subst hw
  exact FinS.nx hf A
theorem sim_doc {x : Str} {j : Nat} {pos' : Pos} : SimS G X (.Expr (.Constant (.str x) j pos) pos') .nx := fun W tk => PS.imp ps_doc fun D σ H ⟨Γ, w, hw, A, hf⟩ => by
  subst hw
  exact FinS.nx hf A
theorem sim_ret (he : SimE G X e me) : SimS G X (.Return (some e) pos) (fun Γ S => (me Γ S).st Γ fun d S1 => .rt d S1) := fun W tk => PS.imp (ps_ret (he W tk)) fun D σ H ⟨Γ, w, hw, A, hf⟩ =>
  ⟨Γ, w, hw, A, hf.st A fun w' d v e' R' p' r' A' h' => FinS.rt h' R' r'⟩
theorem sim_retN : SimS G X (.Return none pos) (fun _ S => .rt .non S) := fun W tk => PS.imp ps_retN fun D σ H ⟨Γ, w, hw, A, hf⟩ => by
  subst hw
  exact FinS.rt hf A.rel (by simp [Rep])
theorem sim_ex (he : SimE G X e me) (hs : swapsWith e none pos.line X.env = pure false) : SimS G X (.Expr e pos) (fun Γ S => (me Γ S).st Γ fun _ S1 => .nx Γ S1) := fun W tk => PS.imp (ps_expr (he W tk) hs) fun D σ H ⟨Γ, w, hw, A, hf⟩ =>
  ⟨Γ, w, hw, A, hf.st A fun w' d v e' R' p' r' A' h' => FinS.nx h' A'⟩
theorem sim_asg {tg : Expr} {t : Tg} (he : SimE G X e me) (hg : PG X tg (gD G t)) (hs : swapsWithSole [tg] e pos.line X.env = pure false) (hw : swappedStores [tg] e X.env = pure none) (h1 : (assignEach [tg] X.env).map (·.2) = [assign tg X.env]) :
    SimS G X (.Assign [tg] e pos) (fun Γ S => (me Γ S).st Γ fun d S1 => optS (setTg t d Γ S1)) := fun W tk => PS.imp (ps_asg (he W tk) hg hs hw h1) fun D σ H ⟨Γ, w, hw, A, hf⟩ => by
  refine ⟨Γ, w, hw, A, hf.st A fun w' d v e' R' p' r' A' h' => ?_⟩
  cases hst : setTg t d Γ w'.S with
  | none => rw [hst] at h'; exact h'.elim
  | some q =>
    obtain ⟨Γ1, S1⟩ := q
    rw [hst] at h'
    exact ⟨Γ, w', d, Γ1, S1, rfl, A', r', hst, fun σ2 w2 e2 s2 p2 A2 _ => h' σ2 w2 e2 s2 p2 A2⟩
theorem sim_if {c : Expr} {x y : List Stmt} {mc : Vars → Store → Out Bool} {mx my : Vars → Store → SOut} (hc : SimT G X c mc) (hx : SimSs G X x mx) (hy : SimSs G X y my) :
    SimS G X (.If c x y pos) (fun Γ S => (mc Γ S).st Γ fun k S1 => if k then mx Γ S1 else my Γ S1) := fun W tk => PS.imp (ps_if (hc W tk) (hx W tk) (hy W tk)) fun D σ H ⟨Γ, w, hw, A, hf⟩ => by
  refine ⟨Γ, w, hw, A, hf.st A fun w' k k' e' R' p' r' A' h' => ?_⟩
  cases r'
  cases k with
  | true => exact ⟨Γ, w', rfl, A', h'⟩
  | false => exact ⟨Γ, w', rfl, A', h'⟩
/-- o[i] = e -/
theorem noX_setI (o i v : Dn.D) (S : Store) : NoX (opSetI o i v S) := by
  intro c xs S' h
  unfold opSetI at h
  repeat' (split at h)
  all_goals cases h
theorem sim_setI {p2 : Pos} (ha : SimE G X a ma) (hb : SimE G X b mb) (he : SimE G X e me) (hs : swapsWithSole [.Subscript a b p2] e pos.line X.env = pure false) (hw : swappedStores [.Subscript a b p2] e X.env = pure none)
    (hasg : ∀ v, assign (.Subscript a b p2) X.env v = (do let ov ← holding [v] (eval a X.env); let iv ← holding [v, ov] (eval b X.env); standAt p2; holding [v, ov, iv] (setItem ov iv v); release [v, ov, iv] [])) :
    SimS G X (.Assign [.Subscript a b p2] e pos) (fun Γ S => (me Γ S).st Γ fun v S1 => (ma Γ S1).st Γ fun x S2 => (mb Γ S2).st Γ fun k S3 => (opSetI x k v S3).st Γ fun _ S4 => .nx Γ S4) := fun W tk => by
  refine PS.imp (ps_asg (he W tk) (pg_sub (ha W tk) (hb W tk) set_list hasg) hs hw rfl) fun D σ H ⟨Γ, w, hw, A, hf⟩ => ?_
  refine ⟨Γ, w, hw, A, hf.st A fun w1 d v e1 R1 p1 r1 A1 h1 => ?_⟩
  refine ⟨Γ, w1, rfl, A1, h1.st A1 fun w2 dx x e2 R2 p2 r2 A2 h2 => ?_⟩
  refine ⟨Γ, w2, rfl, A2, h2.st A2 fun w3 dk k e3 R3 p3 r3 A3 h3 => ?_⟩
  have rx := Rep.ext e3.wk _ _ r2
  have rv := Rep.ext (e2.trans e3).wk _ _ r1
  unfold opSetI at h3
  split at h3
  · rename_i h z
    split at h3
    · rename_i xs hS
      split at h3
      · rename_i j hj
        obtain ⟨a, rfl, ha⟩ := rep_ref.mp rx
        obtain ⟨b, hb, vs, hH, rs⟩ := R3.at_ h _ hS
        rw [ha] at hb; cases hb
        have q := wr_lst R3 hS ha (Reps.set j rv rs)
        refine ⟨a, vs, z, j, rfl, rep_int.mp r3, hH, by rw [← rs.length]; exact hj, ?_⟩
        exact h3 σ ⟨_, _, _, _⟩ q.1 rfl rfl (A3.ext q.1 q.2)
      · exact h3.elim
    · exact h3.elim
  · exact h3.elim

def setAllV : List Nat → List V → St → St
  | i :: is, v :: vs, σ => setAllV is vs (σ.set i (some v))
  | _, _, σ => σ
theorem At.setAll (hx : G.ex = none) : ∀ {is : List Nat} {ds : List Dn.D} {vs : List V} {σ : St} {Γ : Vars}, At G σ Γ w → Reps G w ds vs → At G (setAllV is vs σ) (setAllD is ds Γ) w
  | [], _, _, _, _, A, _ => A
  | i :: is, [], vs, σ, Γ, A, r => by
    rw [reps_nil.mp r]; exact A
  | i :: is, d :: ds, vs, σ, Γ, A, r => by
    obtain ⟨v, rr, rfl, r1, r2⟩ := reps_cons.mp r
    have q := At.setAll hx (is := is) (A.set (i := i) (fun e he => by rw [hx] at he; cases he) r1) r2
    exact q
theorem store_many {M : Model} {A : Around} {E : Value → Shared → Prop} {pins : List (Addr × Obj)} {H : Hp} {Q : Unit → Shared → Prop} (hN : X.N.Nodup) : ∀ {is : List Nat} {xs : List Str} {vs : List V} {us : List Value} {σ : St} {s : Shared}, L2.Inv X pins σ H s → Vals vs us → is.length = vs.length →
    is.map (X.N[·]?) = xs.map some → (∀ x ∈ xs, X.env.scope.names.lookup x = some .local) → (∀ s', L2.Inv X pins (setAllV is vs σ) H s' → Q () s') → wpAny M A (assignInOrder (xs.map fun n v => bindName X.env n v) us) Q E s
  | [], xs, vs, us, σ, s, I, r, hl, hx, _, q => by
    cases xs with
    | nil =>
      cases vs with
      | nil => cases r; exact assignInOrder_nil (q s I)
      | cons => simp at hl
    | cons => simp at hx
  | i :: is, [], _, _, _, _, _, _, _, hx, _, _ => by simp at hx
  | i :: is, x :: xs, [], us, σ, s, I, r, hl, hx, _, q => by simp at hl
  | i :: is, x :: xs, v :: vs, us, σ, s, I, r, hl, hx, hc, q => by
    cases r with
    | cons r1 r2 =>
      simp only [List.map_cons, List.cons.injEq] at hx
      have hxl := hc x List.mem_cons_self
      exact assignInOrder_cons (wpAny_bindName (store_ok I hN hx.1 (.inl hxl) r1 (fun s2 I2 => store_many hN I2 r2 (by simpa using hl) hx.2 (fun y hy => hc y (List.mem_cons_of_mem _ hy)) q) (.inr hxl)))
theorem Vals.rev : ∀ {vs : List V} {us : List Value}, Vals vs us → Vals vs.reverse us.reverse := fun h => L2.Vals.reverse h
theorem Reps.rev : ∀ {ds : List Dn.D} {vs : List V}, Reps G w ds vs → Reps G w ds.reverse vs.reverse
  | [], vs, h => by rw [reps_nil.mp h]; exact Reps.nil
  | d :: ds, vs, h => by
    obtain ⟨v, r, rfl, h1, h2⟩ := reps_cons.mp h
    rw [List.reverse_cons, List.reverse_cons]
    exact Reps.append (Reps.rev h2) (Reps.one h1)
theorem sim_par {es tgs : List Expr} {m : Vars → Store → Out (List Dn.D)} {is : List Nat} {xs : List Str} {kt k2 : Nat} {pt pt2 : Pos} (hx : G.ex = none) (hc : X.calm = true) (hN : X.N.Nodup) (ha : SimA G X es m) (hix : is.map (X.N[·]?) = xs.map some) (hloc : ∀ x ∈ xs, X.env.scope.names.lookup x = some .local)
    (hes : xs.length ≤ lineD) (hw : swappedStores [.Tuple tgs kt pt] (.Tuple es k2 pt2) X.env = pure (some xs)) (hs : swapsWithSole [.Tuple tgs kt pt] (.Tuple es k2 pt2) pos.line X.env = pure false) :
    SimS G X (.Assign [.Tuple tgs kt pt] (.Tuple es k2 pt2) pos) (fun Γ S => (m Γ S).st Γ fun ds S1 => (match setPar is ds Γ with | some Γ => .nx Γ S1 | none => .stuck)) := fun W tk => by
  refine ⟨fun pins s σ H D I h => ?_⟩
  obtain ⟨Γ, w, hw', A, hf⟩ := h
  have hf' : Fin G (Reps G) w σ (m Γ w.S) (fun vs H1 => ∃ ds w1, w1.H = H1 ∧ Reps G w1 ds vs ∧ At G σ Γ w1 ∧ FinS G w1 (match setPar is ds Γ with | some Γ => .nx Γ w1.S | none => .stuck) D W) W :=
    hf.st A fun w1 ds vs e1 R1 p1 r1 A1 h1 => ⟨ds, w1, rfl, r1, A1, h1⟩
  rw [exec_Assign_arm]
  refine wpAny_bind (wpAny_standAt ?_)
  rw [hs]
  refine wpAny_bind (wpAny_pure ?_)
  rw [if_neg (by decide)]
  refine wpAny_bind (Tuple_ (thn ((ha W tk).run _ pins s σ H _ I ⟨Γ, w, hw', A, hf'⟩) fun us s1 ⟨vs, H1, I1, r1, ds, w1, hw1, rs, A1, h1⟩ => ?_))
  subst hw1
  unfold setPar at h1
  split at h1
  case h_2 => exact h1.elim
  rename_i Γ2 hset
  split at hset
  case isFalse => cases hset
  rename_i hl
  cases hset
  have hlen : us.length = xs.length := by
    have h1 := congrArg List.length hix
    simp at h1
    rw [← r1.length, ← rs.length, ← hl, h1]
  have hul : us.length ≤ sizeLine := by
    rw [hlen, ← line_eq]; exact hes
  refine wpAny_newObj_type ?_ (by show us.toArray.size ≤ sizeLine; simpa using hul)
  have I2 : L2.Inv X pins σ w1.H { s1 with heap := s1.heap.push { cls := .type "tuple", data := .seq us.toArray } } := I1.kept (t' := s1.toks) fun b o e => Heap.get?_push_of_some _ e
  rw [hw]
  refine wpAny_bind (wpAny_pure ?_)
  show wpAny (model X.prog X.w) X.A (do rule "assign.swapped-stores"; let items ← unpackItems (.ref s1.heap.objs.size) xs.length none; assignInOrder (xs.reverse.map fun n => bindName X.env n) items.reverse; pure Flow.next) _ _ _
  have hsz : xs.length = us.toArray.size := by simp [hlen]
  rw [hsz]
  refine wpAny_bind (wpAny_rule (wpAny_bind (unpackItems_tuple (items := us.toArray) (I.ok.hd hc) (IsTup.new s1.heap _) fun h' hx' => ?_)))
  have I3 := I2.kept (h' := h') (t' := s1.toks) fun b o e => hx' b o (Nat.ne_of_lt (Heap.lt_size e)) e
  refine wpAny_bind ?_
  have hrl : is.reverse.length = vs.reverse.length := by
    rw [List.length_reverse, List.length_reverse, hl, rs.length]
  refine store_many hN I3 (is := is.reverse) (vs := vs.reverse) (Vals.rev r1) hrl (by rw [List.map_reverse, hix, List.map_reverse]) (fun x hx => hloc x (by simpa using hx)) fun s2 I4 => wpAny_pure ?_
  exact ⟨_, _, I4, FinS.nx h1 (A1.setAll hx (Reps.rev rs))⟩

theorem sim_aug {i : Nat} {x : Str} {op : BOp} {pos' : Pos} (hex : ∀ e, G.ex = some e → e.sl ≠ i) (hop : op = .add ∨ op = .sub) (hN : X.N.Nodup) (hi : X.N[i]? = some x) (hx : Loc X.env.scope x) (hf : X.fn x = true ∨ X.env.scope.names.lookup x = some .local) (he : SimE G X e me) :
    SimS G X (.AugAssign (.Name x pos') (pyOp op) e pos) (fun Γ S => (rdVar i Γ S).st Γ fun x S0 => (me Γ S0).st Γ fun y S1 => (opAug op x y S1).st Γ fun z S2 => .nx (Γ.set i (some z)) S2) := fun W tk => by
  have key : PIp X (pyOp op) (ipI fun i j => if op = .add then i + j else i - j) := by
    rcases hop with rfl | rfl
    · exact ip_add
    · exact ip_sub
  refine PS.imp (ps_aug hN hi hx (he W tk) key hf) fun D σ H ⟨Γ, w, hw, A, hf⟩ => ?_
  subst hw
  unfold rdVar at hf
  dsimp only at hf
  split at hf
  case h_2 => exact hf.elim
  rename_i d hd
  obtain ⟨v, hv, rv⟩ := A.env i d hd
  have hf' : FinS G w ((me Γ w.S).st Γ fun y S1 => (opAug op d y S1).st Γ fun z S2 => .nx (Γ.set i (some z)) S2) D W := hf
  refine ⟨v, hv, Γ, w, rfl, A, hf'.st A fun w1 dy y e1 R1 p1 ry A1 h1 => ?_⟩
  unfold opAug at h1
  split at h1
  · rename_i a b
    refine ⟨a, b, rep_int.mp rv, rep_int.mp ry, ?_⟩
    rcases hop with rfl | rfl
    · exact FinS.nx (Γ' := Γ.set i (some (.int (a + b)))) h1 (A1.set hex (by simp [Rep]))
    · exact FinS.nx (Γ' := Γ.set i (some (.int (a - b)))) h1 (A1.set hex (by simp [Rep]))
  · exact h1.elim

theorem At.cut (hx : G.ex = none) (A : At G σ Γ w) (n : Nat) (hb : sBelow n (w.S.take n) = true) : At G σ (gcV n Γ) (Dn.cut n w) := by
  refine ⟨A.rel.cut n hb, fun i d h => ?_, by simp [gcV, A.len], fun e he => by rw [hx] at he; cases he⟩
  unfold gcV at h
  rw [List.getElem?_map] at h
  cases hG : Γ[i]? with
  | none => rw [hG] at h; cases h
  | some o =>
    rw [hG] at h
    cases o with
    | none => cases h
    | some d0 =>
      simp only [Option.map_some, Option.bind_some, Option.some.injEq] at h
      split at h
      · rename_i hbl
        cases h
        obtain ⟨v, h1, h2⟩ := A.env i _ hG
        exact ⟨v, h1, Rep.cut _ _ hbl h2⟩
      · cases h
/-- behind a turn -/
theorem FinS.gc (hx : G.ex = none) {f : Vars → Store → SOut} {w0 : Wd} (R0 : Rel G w0) (e0 : Ext w0 w) (p0 : w.pv = w0.pv) (A : At G σ Γ w) (h : FinS G w0 ((gc w0.S.length Γ w.S).then f) D W) :
    ∃ Γ' w', w'.H = w.H ∧ Ext w0 w' ∧ w'.pv = w0.pv ∧ At G σ Γ' w' ∧ FinS G w' (f Γ' w'.S) D W := by
  unfold Dn.gc at h
  split at h
  · exact ⟨Γ, w, rfl, e0, p0, A, FinS.base e0 p0 h⟩
  · split at h
    · rename_i hb
      have e1 := Ext.cut R0 e0
      exact ⟨gcV w0.S.length Γ, Dn.cut w0.S.length w, rfl, e1, p0, At.cut hx A _ hb, FinS.base (w1 := Dn.cut w0.S.length w) e1 p0 h⟩
    · exact ⟨Γ, w, rfl, e0, p0, A, FinS.base e0 p0 h⟩
def forG (s : Src) (len : Nat) (body : Dn.D → Vars → Store → SOut) : Nat → Vars → Store → SOut
  | 0, Γ, S => match s.fine len S with
    | true => .nx Γ S
    | false => .stuck
  | n + 1, Γ, S => match s.fine len S with
    | true => (match s.get len S (len - (n + 1)) with
      | some x => ((body x Γ S).then (Dn.gc S.length)).then (forG s len body n)
      | none => .stuck)
    | false => .stuck
theorem forL_G (xs : List Dn.D) (f : Dn.D → Vars → Store → SOut) : ∀ (n : Nat), n ≤ xs.length → forL f (xs.drop (xs.length - n)) = forG (.items xs) xs.length f n
  | 0, _ => by
    funext Γ S
    simp [forL, forG, Src.fine]
  | n + 1, h => by
    have h1 : xs.length - (n + 1) < xs.length := by omega
    funext Γ S
    rw [drop_at h]
    unfold forG forL
    simp only [Src.fine, Src.get, List.getElem?_eq_getElem h1]
    rw [forL_G xs f n (by omega)]
theorem forH_G (i len : Nat) (f : Dn.D → Vars → Store → SOut) : ∀ (n : Nat), forH i len f n = forG (.hnd i) len f n
  | 0 => by
    funext Γ S
    unfold forH forG
    simp only [Src.fine]
    cases h : S[i]? with
    | none => rfl
    | some o => cases o with
      | none => rfl
      | some u => cases u with
        | ins c fs => rfl
        | lst xs =>
          by_cases hl : xs.length = len
          · simp [hl]
          · simp [hl]
  | n + 1 => by
    funext Γ S
    unfold forH forG
    simp only [Src.fine, Src.get]
    cases h : S[i]? with
    | none => rfl
    | some o => cases o with
      | none => rfl
      | some u => cases u with
        | ins c fs => rfl
        | lst xs =>
          by_cases hl : xs.length = len
          · simp only [hl, if_true, decide_true]
            cases xs[len - (n + 1)]? with
            | none => rfl
            | some x => dsimp only; rw [forH_G i len f n]
          · simp [hl]
def forS (f : Dn.D → Vars → Store → SOut) (Γ : Vars) (s : Src) (S1 : Store) : SOut := match s with
  | .items xs => forL f xs Γ S1
  | .hnd i => match lstOf (.ref i) S1 with
    | some xs => forH i xs.length f xs.length Γ S1
    | none => .stuck
theorem forS_G {s : Src} {J : It} {n : Nat} (y : YG G w s n J) (f : Dn.D → Vars → Store → SOut) (Γ : Vars) : forS f Γ s w.S = forG s n f n Γ w.S := by
  have hc := y.cnt
  cases s with
  | items xs =>
    have hn : xs.length = n := by simpa [items] using hc
    subst hn
    have := forL_G xs f xs.length (Nat.le_refl _)
    rw [Nat.sub_self, List.drop_zero] at this
    show forL f xs Γ w.S = _
    rw [this]
  | hnd i =>
    simp only [items] at hc
    unfold forS
    simp only
    cases hl : lstOf (.ref i) w.S with
    | none => rw [hl] at hc; cases hc
    | some xs =>
      rw [hl] at hc
      have hn : xs.length = n := by simpa using hc
      subst hn
      dsimp only
      rw [forH_G]
theorem sim_for {tg it : Expr} {t : Tg} {body : List Stmt} {mi : Vars → Store → Out Src} {mb : Vars → Store → SOut} (hx : G.ex = none) (hp : PassesOwn (model X.prog X.w) X.A X.env X.xe) (hc : X.calm = true) (hi : SimI G X tg it mi) (hg : PG X tg (gD G t)) (hb : SimSs G X body mb)
    (hs : ∀ x, foldedSetIterable it X.env x = pure x) :
    SimS G X (.For tg it body [] pos) (fun Γ S => (mi Γ S).st Γ (forS (fun x Γ S => (optS (setTg t x Γ S)).then mb) Γ)) := fun W tk => by
  refine PS.imp (ps_for hp hc (hi W tk) hg (hb W tk) hs) fun D σ H ⟨Γ, w, hw, A, hf⟩ => ?_
  refine ⟨Γ, w, hw, A, ?_⟩
  dsimp only at hf
  cases hmi : mi Γ w.S with
  | stuck => rw [hmi] at hf; exact hf
  | exn c xs S =>
    rw [hmi] at hf
    exact fun w' cls dd e r s p q => hf σ w' cls dd e s p (A.ext e r) q
  | ok s S =>
  rw [hmi] at hf
  intro w1 J e1 R1 s1 p1 wk
  obtain ⟨n, Y⟩ := wk
  subst s1
  have hf1 : FinS G w1 (forS (fun x Γ S => (optS (setTg t x Γ S)).then mb) Γ s w1.S) D W := FinS.base e1 p1 hf
  rw [forS_G Y] at hf1
  clear hf
  have A1 := A.ext e1 R1
  let Inv : Nat → St → Hp → Prop := fun i σ H => i ≤ n ∧ ∃ (Γ : Vars) (w2 : Wd), w2.H = H ∧ Ext w1 w2 ∧ w2.pv = w1.pv ∧ At G σ Γ w2 ∧ FinS G w2 (forG s n (fun x Γ S => (optS (setTg t x Γ S)).then mb) (n - i) Γ w2.S) D W
  refine ⟨fun i m σ H => m = n - i ∧ Inv i σ H, ⟨n, by omega, by omega, Γ, w1, rfl, Ext.refl _, rfl, A1, hf1⟩, ?_⟩
  rintro i m σ H ⟨rfl, hi, Γ2, w2, rfl, e2, p2, A2, hz⟩
  by_cases hlt : i < n
  · obtain ⟨k, hk⟩ : ∃ k, n - i = k + 1 := ⟨n - i - 1, by omega⟩
    rw [hk] at hz
    unfold forG at hz
    cases hfine : s.fine n w2.S with
    | false => rw [hfine] at hz; exact hz.elim
    | true =>
    rw [hfine] at hz
    dsimp only at hz
    have hix : n - (k + 1) = i := by omega
    rw [hix] at hz
    have hk' : n - (i + 1) = k := by omega
    refine .inr ⟨Y.go i w2 e2 A2.rel hlt hfine, fun σ' H' => Inv (i + 1) σ' H', fun σ' H' p => ⟨n - (i + 1), by omega, rfl, p⟩, fun x H' hy => ?_⟩
    obtain ⟨w3, d, rfl, e3, R3, s3, p3, hget, rd⟩ := Y.yl i w2 x H' e2 A2.rel hy hlt hfine
    rw [hget] at hz
    dsimp only at hz
    cases hst : setTg t d Γ2 w3.S with
    | none =>
      rw [← s3, hst] at hz
      exact hz.elim
    | some pp =>
    obtain ⟨Γ3, S3⟩ := pp
    rw [← s3, hst] at hz
    refine ⟨Γ2, w3, d, Γ3, S3, rfl, A2.ext e3 R3, rd, hst, fun σ4 w4 e4 s4 p4 A4 _ => ?_⟩
    subst s4
    refine ⟨Γ3, w4, rfl, A4, ?_⟩
    have hz' : FinS G w2 (((mb Γ3 w4.S).then (Dn.gc w3.S.length)).then (forG s n (fun x Γ S => (optS (setTg t x Γ S)).then mb) k)) D W := hz
    rw [s3] at hz'
    have assoc : ∀ (o : SOut) (f g : Vars → Store → SOut), (o.then f).then g = o.then fun Γ S => (f Γ S).then g := by
      intro o f g
      cases o <;> rfl
    rw [assoc] at hz'
    have e24 : Ext w2 w4 := e3.trans e4
    refine FinS.thenB (f := fun Γ S => (Dn.gc w2.S.length Γ S).then (forG s n (fun x Γ S => (optS (setTg t x Γ S)).then mb) k)) (D := D) e24 (by rw [p4, p3]) hz' rfl fun σ5 Γ5 w5 e5 p5 A5 h5 => ?_
    obtain ⟨Γ6, w6, hH6, e6, p6, A6, h6⟩ := FinS.gc hx A2.rel e5 p5 A5 h5
    exact ⟨by omega, Γ6, w6, hH6, e2.trans e6, by rw [p6, p2], A6, by rw [hk']; exact h6⟩
  · have hin : i = n := by omega
    subst hin
    have h0 : i - i = 0 := by omega
    rw [h0] at hz
    unfold forG at hz
    cases hfine : s.fine i w2.S with
    | false => rw [hfine] at hz; exact hz.elim
    | true =>
      rw [hfine] at hz
      dsimp only at hz
      exact .inl ⟨Y.st w2 e2 A2.rel hfine, FinS.nx hz A2⟩

theorem whileN_mono {c : Vars → Store → Out Bool} {b : Vars → Store → SOut} : ∀ {n : Nat} {Γ : Vars} {S : Store} {o : SOut}, whileN c b n Γ S = some o → whileN c b (n + 1) Γ S = some o
  | 0, _, _, _, h => by simp [whileN] at h
  | n + 1, Γ, S, o, h => by
    unfold whileN at h ⊢
    split at h
    · split at h
      · exact whileN_mono h
      · exact h
    · exact h
    · exact h
    · exact h
theorem whileL_some {c : Vars → Store → Out Bool} {b : Vars → Store → SOut} {Γ : Vars} {S : Store} : whileL c b Γ S = .stuck ∨ ∃ n, whileN c b n Γ S = some (whileL c b Γ S) := by
  unfold whileL
  split
  · rename_i h
    exact .inr ⟨h.choose, h.choose_spec.choose_spec⟩
  · exact .inl rfl
theorem sim_while {c : Expr} {body : List Stmt} {mc : Vars → Store → Out Bool} {mb : Vars → Store → SOut} (hx : G.ex = none) (hp : PassesOwn (model X.prog X.w) X.A X.env X.xe) (hc : SimT G X c mc) (hb : SimSs G X body mb) :
    SimS G X (.While c body [] pos) (whileL mc mb) := fun W tk => by
  refine PS.imp (ps_while hp (hc W tk) (hb W tk)) fun D σ H ⟨Γ, w, hw, A, hf⟩ => ?_
  subst hw
  rcases whileL_some (c := mc) (b := mb) (Γ := Γ) (S := w.S) with h0 | ⟨n, hn⟩
  · rw [h0] at hf; exact hf.elim
  generalize whileL mc mb Γ w.S = o at hf hn
  refine ⟨fun m σ H => ∃ (Γ : Vars) (w2 : Wd), w2.H = H ∧ Ext w w2 ∧ w2.pv = w.pv ∧ At G σ Γ w2 ∧ ∃ o, whileN mc mb m Γ w2.S = some o ∧ FinS G w2 o D W, ⟨n, Γ, w, rfl, Ext.refl _, rfl, A, o, hn, hf⟩, ?_⟩
  rintro m σ H ⟨Γ2, w2, rfl, e2, p2, A2, o2, hm, h2⟩
  cases m with
  | zero => simp [whileN] at hm
  | succ m =>
    unfold whileN at hm
    refine ⟨Γ2, w2, rfl, A2, ?_⟩
    cases hcs : mc Γ2 w2.S with
    | stuck => rw [hcs] at hm; cases hm; exact h2.elim
    | exn k xs S =>
      rw [hcs] at hm
      cases hm
      exact fun w' cls dd e r s p q => h2 σ w' cls dd e s p (A2.ext e r) q
    | ok k S =>
      rw [hcs] at hm
      intro w3 k' e3 R3 s3 p3 hk
      cases hk
      have A3 := A2.ext e3 R3
      cases k with
      | false =>
        cases hm
        exact h2 σ w3 e3 s3 p3 A3
      | true =>
        dsimp only at hm
        refine ⟨fun σ H => ∃ (Γ : Vars) (w2 : Wd), w2.H = H ∧ Ext w w2 ∧ w2.pv = w.pv ∧ At G σ Γ w2 ∧ ∃ o, whileN mc mb m Γ w2.S = some o ∧ FinS G w2 o D W, fun σ' H' p => ⟨m, Nat.lt_succ_self m, p⟩, Γ2, w3, rfl, A3, ?_⟩
        subst s3
        -- the turn's end
        have key : ∀ (o1 : SOut), (match (o1.then (Dn.gc w2.S.length)) with
            | .nx Γ2 S2 => whileN mc mb m Γ2 S2
            | o => some o) = some o2 → FinS G w3 o1 { D with nx := fun σ H => ∃ (Γ : Vars) (w2 : Wd), w2.H = H ∧ Ext w w2 ∧ w2.pv = w.pv ∧ At G σ Γ w2 ∧ ∃ o, whileN mc mb m Γ w2.S = some o ∧ FinS G w2 o D W, ct := fun σ H => ∃ (Γ : Vars) (w2 : Wd), w2.H = H ∧ Ext w w2 ∧ w2.pv = w.pv ∧ At G σ Γ w2 ∧ ∃ o, whileN mc mb m Γ w2.S = some o ∧ FinS G w2 o D W, bk := D.nx } W := by
          intro o1 hk
          cases o1 with
          | stuck => cases hk; exact h2.elim
          | rt d S =>
            cases hk
            exact fun w' v e R s p r => h2 w' v (e3.trans e) R s (p.trans p3) r
          | exn k xs Γ4 S =>
            cases hk
            exact fun σ' w' cls dd e s p A' r => h2 σ' w' cls dd (e3.trans e) s (p.trans p3) A' r
          | nx Γ4 S =>
            intro σ4 w4 e4 s4 p4 A4
            subst s4
            have e24 := e3.trans e4
            have p24 : w4.pv = w2.pv := by rw [p4, p3]
            have hk' : (match (Dn.gc w2.S.length Γ4 w4.S) with
              | .nx Γ2 S2 => whileN mc mb m Γ2 S2
              | o => some o) = some o2 := hk
            unfold Dn.gc at hk'
            by_cases hle : w4.S.length ≤ w2.S.length
            · rw [if_pos hle] at hk'
              exact ⟨Γ4, w4, rfl, e2.trans e24, by rw [p24, p2], A4, o2, hk', FinS.base e24 p24 h2⟩
            · by_cases hb : sBelow w2.S.length (w4.S.take w2.S.length) = true
              · rw [if_neg hle, if_pos hb] at hk'
                have e1 := Ext.cut A2.rel e24
                exact ⟨gcV w2.S.length Γ4, Dn.cut w2.S.length w4, rfl, e2.trans e1, by show w4.pv = _; rw [p24, p2], At.cut hx A4 _ hb, o2, hk', FinS.base (w1 := Dn.cut w2.S.length w4) e1 p24 h2⟩
              · rw [if_neg hle, if_neg hb] at hk'
                exact ⟨Γ4, w4, rfl, e2.trans e24, by rw [p24, p2], A4, o2, hk', FinS.base e24 p24 h2⟩
        exact key _ hm
end
end Dn

set_option maxHeartbeats 4000000
namespace Dn
open PySem PySem.Spec PyProof.Rows L2 NdefX

/-- a method's call on one line -/
theorem ev_meth {o : Expr} {name : Str} {apos pos : Pos} {args : List Expr} {env : Env} (ns : ∀ x ∈ args, NS x) (hl : (apos.endLine == pos.line) = true) (hn : args.length < 29) :
    eval (.Call (.Attribute o name apos) args [] pos) env = (do
      let ov ← attributeBase o name env (eval o env)
      standAt apos.atName
      let (f, first) ← holding [ov] (getMethod ov name (plainOf o env))
      callWith pos f first (backTo pos (starEach args env)) []) := by
  have hf : methodCallForm (args.length + ([] : List Keyword).length) (backTo pos (starEach args env)) (backToKw pos (keywordEach [] env)) = true := by
    unfold methodCallForm
    have hany := ns_any (pos := pos) (env := env) ns
    have h1 : (backTo pos (starEach args env)).all (fun x => !x.1) = true := by
      rw [List.all_eq_not_any_not]
      simpa using hany
    rw [h1]
    simp only [Bool.true_and, Bool.and_eq_true, List.length_nil, Nat.add_zero, decide_eq_true_eq]
    refine ⟨rfl, ?_⟩
    show args.length + 0 < 30
    omega
  show (do
      let ov ← attributeBase o name env (eval o env)
      standAt apos.atName
      methodCall o name apos pos env ov (args.length + ([] : List Keyword).length) (backTo pos (starEach args env)) (backToKw pos (keywordEach [] env))) = _
  congr 1
  funext ov
  congr 1
  funext _
  rw [mcall_line hf hl]
  rfl

/-- what the written part says of an error class's __init__ -/
structure XIni (K : PySem.W.Frag) (prog : Program) (C fI cc cda : Addr) (name qual : Str) (params : Arguments) (body : List Stmt) (scope : Scope) : Prop where
  fn : ∃ (od : Option Addr) (dV kV doc pm ctv : Value) (an : Option Addr) (osl : Array (Option Value)), K.lookup fI = some ⟨.type "function", od, .func (PySem.W.fnX name qual params body scope [("__class__", cc)] dV kV doc pm an (.ref cda) ctv), osl⟩
  cell : ∃ (ccl : Value) (cd : Option Addr) (sl : Array (Option Value)), K.lookup cc = some ⟨ccl, cd, .cell (some (.ref C)), sl⟩
  code : PySem.W.codeIn K (.ref cda) qual = true
  file : ∃ (ccl : Value) (cd : Option Addr) (vs : Array Value) (sl : Array (Option Value)) (file : Str) (tf : Tok), K.lookup cda = some ⟨ccl, cd, .fields vs, sl⟩ ∧ vs[2]? = some (.str file tf) ∧ ((prog.main.file : Str) == file) = true
  self : ∃ ar, (params.posonlyargs ++ params.args).head? = some ar ∧ ar.arg = "self"
  cls : ∃ cdD, PySem.W.clsIn K C = some cdD
  mro : PySem.W.mroIn K C (.ref C) = some true
  sup : PySem.W.ks_superIn K C C "__init__" = some (some (.builtin "ValueError.__init__"))
  sub : PySem.W.subIn K (.ref C) (.type "ValueError") = some true
  opq : PySem.W.nsIn K cStatics "thirdparty.any" = some none
  oex : OexC K C
  top : (prog.main.scope.names.lookup ("super" : Str)).isSome = false
  ksup : scope.names.lookup ("super" : Str) = some .globalImplicit
  kcls : scope.names.lookup ("__class__" : Str) = some .free
  kslf : scope.names.lookup ("self" : Str) = some .local

section
variable {K : PySem.W.Frag} {C fI cc cda : Addr} {name qual : Str} {params : Arguments} {body : List Stmt} {scope : Scope}
variable {X : Cx} {H : Hp} {σ : St} {s : Shared} {a : Addr}
/-- super().__init__(e, ..) within it -/
theorem sup_stmt (F : XIni X.K X.prog C fI cc cda name qual params body scope) (henv : X.env = PySem.W.envX qual scope X.env.locals fI (.ref cda) [("__class__", cc)]) (hm : X.mg "super" = none) (hN : X.N[0]? = some ("self" : Str)) (I : L2.Inv X [] σ H s)
    (hσ : σ[0]? = some (some (.ref a))) (ha : H a = some (exo a C none)) {p0 p1 p2 p3 p4 : Pos} {e : Expr} {es : List Expr} {t : TA} {vs : List V} (hA : PA X (e :: es) t) (ht : t σ H fun us H1 => us = vs ∧ H1 = H) (ns : ∀ x ∈ e :: es, NS x)
    (hl : (p2.endLine == p3.line) = true) (hn : (e :: es).length < 29) (hz : vs.length ≤ sizeLine) {Q : Flow → Shared → Prop} {E : Value → Shared → Prop} (hE : ∀ u s', X.xe u s' → E u s')
    (hQ : ∀ s', L2.Inv X [] σ H s' → Q .next s') :
    _root_.PySem.wpAt (model X.prog X.w) X.A (.func body X.env) (exec (.Expr (.Call (.Attribute (.Call (.Name "super" p0) [] [] p1) "__init__" p2) (e :: es) [] p3) p4) X.env) Q E s := by
  obtain ⟨od, dV, kV, doc, pm, ctv, an, osl, hfn⟩ := F.fn
  obtain ⟨ccl, cdx, csl, hcell⟩ := F.cell
  obtain ⟨ccl2, cd2, fvs, sl2, file, tf, hcode, hvs, hfile⟩ := F.file
  obtain ⟨ar, har, harg⟩ := F.self
  obtain ⟨cdD, hcd⟩ := F.cls
  have hks : X.env.kindOf "super" = some .globalImplicit := by rw [henv]; exact F.ksup
  have hkc : X.env.kindOf "__class__" = some .free := by rw [henv]; exact F.kcls
  have hslf : X.env.scope.names.lookup ("self" : Str) = some .local := by rw [henv]; exact F.kslf
  refine ks_wpAt_Expr_any ?_ I.quiet rfl
  refine ks_wpAt_MethodCall (pl := plainOf (.Call (.Name "super" p0) [] [] p1) X.env) ?_ (ev_meth ns hl hn)
  refine ks_wpAt_super_base (f := fI) (cc := cda) (file := file) hks hkc (by decide) (by rw [henv]) (I.kIn _ _ hfn) rfl har (by rw [henv]) (I.kIn _ _ hcode) rfl hvs hfile F.top ?_
  obtain ⟨mb, hb1, hb2⟩ := I.mod.blt
  refine PySem.W.ks_loadName_global I.ok.kind hks (PySem.Calls.loadGlobal_builtin (by rw [I.ok.glob]; exact I.mod.glob.keeps I.bk) hm (by rw [I.ok.blt]; exact hb1.keeps I.bk) ((hb2 _ (by decide)).trans (by kernel_rfl)) ⟨rfl, ?_⟩)
  refine wpAny_loadName_free I.ok.kind hkc (c := cc) (by rw [henv]; rfl) ⟨_, I.kIn _ _ hcell, rfl⟩ ?_
  rw [harg]
  obtain ⟨m, hns, hlk⟩ := I.loc
  obtain ⟨u, ru, lk⟩ := hlk 0 "self" _ hN hσ (.inl hslf)
  cases ru
  have hms : m "self" = some (.ref a) := by
    rcases lk with ⟨_, h⟩ | ⟨h, _⟩
    · exact h
    · rcases h with h | h
      · have : X.env.scope.names.lookup ("self" : Str) = some .cell := h
        rw [hslf] at this; cases this
      · have : X.env.scope.names.lookup ("self" : Str) = some .free := h
        rw [hslf] at this; cases this
  refine wpAny_loadName_local I.ok.kind hslf hns hms ?_
  obtain ⟨oD, hD1, hD2⟩ : ∃ oD, s.heap.get? C = some oD ∧ oD.data = .cls cdD := by
    unfold PySem.W.clsIn at hcd
    split at hcd
    · rename_i c d cd' sl ho
      cases hcd
      exact ⟨_, I.kIn _ _ ho, rfl⟩
    · cases hcd
  obtain ⟨t1, ho⟩ := exo_at I.hok ha
  obtain ⟨hp, g, d, tk, os⟩ := s
  refine PySem.ks_wpAny_isType_cls hD1 hD2 ⟨rfl, ?_⟩
  refine ks_wpAny_call_super hD1 hD2 ho rfl (fun c z => by cases z) (PySem.W.looks_mroIn I.kIn F.mro) (fun h1 e1 k1 => ?_)
  have I1 : L2.Inv X [] σ H ⟨h1, g, d, tk, os⟩ := I.kept (t' := tk) k1
  have ho1 := k1 _ _ ho
  have hne : a ≠ C := fun z => by
    rw [← z] at hD1
    have ho' : hp.get? a = _ := ho
    rw [ho'] at hD1
    cases hD1
    cases hD2
  have hmm : ∃ cd, PySem.W.clsIn X.K C = some cd ∧ PySem.W.alongIn X.K "__init__" ((cd.mro.dropWhile (· != .ref C)).drop 1) = some (some (.builtin "ValueError.__init__")) := by
    have := F.sup
    unfold PySem.W.ks_superIn at this
    rw [hcd] at this
    exact ⟨cdD, hcd, this⟩
  obtain ⟨cd, hcd', hal⟩ := hmm
  have hin : PySem.W.Looks (model X.prog X.w) h1 (isInstance (.ref a) (.type "ValueError")) true := by
    have LT : PySem.W.Looks (model X.prog X.w) h1 (typeOf (.ref a)) (.ref C) := fun A Q E s k q => wpAny_typeOf_ref (k _ _ ho1) q
    exact LT.andThen (PySem.W.looks_subIn I1.kIn F.sub)
  refine PySem.W.kxs_getMethod PySem.W.kxs_ValueError e1 (PySem.W.looks_opaque I1.kIn F.opq) (l₀ := cd.mro) (fun A Q E s k q => wpAny_bind ((PySem.W.looks_clsIn I1.kIn hcd') A _ E s k (wpAny_pure q))) rfl I1.kIn hal hin hne (by decide) ?_
  have k2 : ∀ b o, h1.get? b = some o → (h1.push (PySem.W.kxs_mw "ValueError.__init__" a)).get? b = some o := fun b o e => Heap.get?_push_of_some _ e
  have I2 : L2.Inv X [] σ H ⟨h1.push (PySem.W.kxs_mw "ValueError.__init__" a), g, d, tk + 1, os⟩ := I1.kept (t' := tk + 1) k2
  have hu2 : (h1.push (PySem.W.kxs_mw "ValueError.__init__" a)).get? h1.objs.size = some (PySem.W.kxs_mw "ValueError.__init__" a) := Heap.get?_push_size _ rfl
  -- pinned: the wrapper stays
  have fu : FpOk X [] H h1.objs.size := I1.fpOk (Nat.le_refl _) (I1.hok.fresh (Nat.le_refl _))
  have I3 := I2.pinned (fp := [h1.objs.size]) (fun b hb => by rw [List.mem_singleton.mp hb]; exact fu) (fun b hb => by rw [List.mem_singleton.mp hb]; exact ⟨_, hu2, fun v z => by cases z⟩)
  have hns : starEach (e :: es) X.env = (false, eval e X.env) :: starEach es X.env := ns e List.mem_cons_self _ _
  have hpl : (backTo p3 (starEach es X.env)).any (·.1) = false := ns_any fun x hx => ns x (List.mem_cons_of_mem _ hx)
  have key : ∀ (us : List Value) (s1 : Shared), L2.Inv X ([] ++ pinsAt [h1.objs.size] (h1.push (PySem.W.kxs_mw "ValueError.__init__" a))) σ H s1 → us.length ≤ sizeLine → s1.heap.get? h1.objs.size = some (PySem.W.kxs_mw "ValueError.__init__" a) →
      wpAny (model X.prog X.w) X.A (call (.ref h1.objs.size) us) (fun _ s' => Q .next s') E s1 := by
    intro us s1 I4 hus hu4
    obtain ⟨nm, q, N, bs, bm, sn, sub, ab, col, dd, k0, k1, k2, k3, k5, hC, hbm⟩ := F.oex.cls
    obtain ⟨t4, ho4⟩ := exo_at I4.hok ha
    obtain ⟨hp4, g4, d4, tk4, os4⟩ := s1
    refine wpAny_call (codeAny_of_tree ?_)
    show wpAny _ X.A.in1 (callAny (.ref h1.objs.size) ⟨us, []⟩) _ _ _
    simp only [callAny]
    refine wpAny_bind (wpAny_load hu4 ?_)
    simp only [PySem.W.kxs_mw, show (Value.type "method-wrapper" == Value.type "method" || Value.type "method-wrapper" == Value.type "builtin_function_or_method" || Value.type "method-wrapper" == Value.type "method-wrapper") = true by decide, if_true]
    refine PySem.W.KFB.if_so (by decide) ?_
    refine wpAny_bind (PySem.W.check_bound_init PySem.F.excBase_ValueError.toExcCallFacts (I4.kIn _ _ hC) ho4 rfl ?_)
    refine wpAny_bind (wpAny_pure (wpAny_pure ?_))
    refine ⟨plainId_quiet PySem.F.excBase_ValueError.init.plain _, codeAny_builtin PySem.F.excBase_ValueError.initEntry ?_⟩
    refine PySem.W.exc_init_tree (cls := .ref C) (t0 := t4) (dv := none) (c2 := .none) (c3 := .none) (b4 := .bool false) ho4 hus (fun h' k e' t' => ?_)
    have J := I4.write (t' := tk4) (x := a) (e := a) (o := exo a C none) (by rw [ha]; exact True.intro) (.inl rfl) k ⟨_, e'⟩ (exo_ok e')
    have eu : upd H a (exo a C none) = H := by
      funext b
      by_cases hb : b = a
      · rw [hb, upd_same, ha]
      · rw [upd_ne hb]
    rw [eu] at J
    exact hQ _ J.unpinned
  have hA2 := hA.run p3 _ _ σ H (fun us H1 => us = vs ∧ H1 = H) I3 ht
  rw [hns] at hA2 ⊢
  refine PySem.W.kxs_callWith (i := "ValueError.__init__") (x := a) (by show (false || (backTo p3 (starEach es X.env)).any (·.1)) = false; rw [hpl]; rfl) (PySem.Calls.evalArgs_plain ?_)
  refine wpAny_mono hA2 (fun us s1 ⟨vs1, H1, I4, r1, e1, e2⟩ => ?_) hE
  subst e1 e2
  have hu4 : s1.heap.get? h1.objs.size = some (PySem.W.kxs_mw "ValueError.__init__" a) := by
    have hm := mem_pinsAt (fp := [h1.objs.size]) (List.mem_singleton.mpr rfl) hu2
    exact (I4.pin _ (List.mem_append_right _ (List.mem_append_right _ hm))).1
  exact ⟨hu4, key us s1 I4 (by rw [← r1.length]; exact hz) hu4⟩
def pushF : List (Str × V) → List (Str × V) → List (Str × V)
  | [], fs => fs
  | p :: r, fs => pushF r (p :: fs)
theorem pushF_eq : ∀ (l fs : List (Str × V)), pushF l fs = l.reverse ++ fs
  | [], fs => rfl
  | p :: r, fs => by rw [pushF, pushF_eq r]; simp
theorem pushF_len : ∀ (l fs : List (Str × V)), (pushF l fs).length = l.length + fs.length
  | [], fs => by simp [pushF]
  | p :: r, fs => by rw [pushF, pushF_len r]; simp; omega
/-- self.f = q, .. -/
def xRest : List Stmt → List (Str × Str) → Bool
  | [], [] => true
  | .Assign [.Attribute (.Name x _) f _] (.Name q _) _ :: r, (g, p) :: ps => decide (x = "self") && decide (f = g) && decide (q = p) && xRest r ps
  | _, _ => false
def xArgs : List Expr → List Str → Bool
  | [], [] => true
  | .Name q _ :: r, p :: ps => decide (q = p) && xArgs r ps
  | _, _ => false
def tM (K : PySem.W.Frag) : List (Str × Nat) → TS
  | [] => tNext
  | (f, j) :: r => tSeq (tOst K f (tVar 0) (tVar j)) (tM K r)
/-- names that are plain locals, by their slots -/
def LocAt (X : Cx) (q : Str) (j : Nat) : Prop := X.N[j]? = some q ∧ X.env.scope.names.lookup q = some .local ∧ (q == ("__debug__" : Str)) = false ∧ (q == ("__classdict__" : Str)) = false
theorem pss_flds (h0 : LocAt X "self" 0) : ∀ {sts : List Stmt} {ps : List (Str × Str)} {js : List Nat}, xRest sts ps = true → ps.length = js.length → (∀ (i : Nat) (p : Str × Str) (j : Nat), ps[i]? = some p → js[i]? = some j → LocAt X p.2 j) → PSs X sts (tM X.K ((ps.map (·.1)).zip js))
  | [], [], js, _, hl, _ => by
    cases js with
    | nil => exact pss_nil
    | cons => simp at hl
  | [], _ :: _, _, h, _, _ => by simp [xRest] at h
  | st :: sts, ps, js, h, hl, hq => by
    unfold xRest at h
    split at h
    · rename_i hh; cases hh
    · rename_i x p1 f p2 q p3 p4 r g p ps' e1
      cases e1
      simp only [Bool.and_eq_true, decide_eq_true_eq] at h
      obtain ⟨⟨⟨rfl, rfl⟩, rfl⟩, hr⟩ := h
      cases js with
      | nil => simp at hl
      | cons j js =>
        have hj := hq 0 _ j rfl rfl
        exact pss_cons (ps_ost (pe_var h0.1 (.inl h0.2.1) h0.2.2.1 h0.2.2.2) (pe_var hj.1 (.inl hj.2.1) hj.2.2.1 hj.2.2.2))
          (pss_flds h0 hr (by simpa using hl) fun i p j a b => hq (i + 1) p j (by simpa using a) (by simpa using b))
    · cases h
theorem more_ok {D : Ends} {dx : Addr} {K : PySem.W.Frag} (T : OexC K C) (hσ : σ[0]? = some (some (.ref a))) (hne : dx ≠ a) : ∀ {prs : List (Str × Nat)} {ys : List V} {H : Hp} {fs : List (Str × V)}, prs.map (fun p => σ[p.2]?) = ys.map (fun y => some (some y)) → (∀ p ∈ prs, PySem.W.findIn K (.ref C) p.1 = some none) →
    H a = some (exo a C (some dx)) → H dx = some (exd dx fs) → fs.length + prs.length ≤ 900 → D.nx σ (upd H dx (exd dx (pushF ((prs.map (·.1)).zip ys) fs))) → tM K prs D σ H
  | [], ys, H, fs, hy, _, _, hd, _, q => by
    cases ys with
    | nil =>
      have e : upd H dx (exd dx fs) = H := by
        funext b
        by_cases hb : b = dx
        · rw [hb, upd_same, hd]
        · rw [upd_ne hb]
      have q' : D.nx σ (upd H dx (exd dx fs)) := q
      rw [e] at q'
      exact q'
    | cons => simp at hy
  | (f, j) :: prs, ys, H, fs, hy, hn, hx, hd, hl, q => by
    cases ys with
    | nil => simp at hy
    | cons y ys =>
      simp only [List.map_cons, List.cons.injEq] at hy
      simp only [List.length_cons] at hl
      refine ⟨y, hy.1, .ref a, hσ, a, C, rfl, T, hn _ List.mem_cons_self, .inr ⟨dx, fs, hx, hd, by omega, ?_⟩⟩
      refine more_ok T hσ hne hy.2 (fun p hp => hn p (List.mem_cons_of_mem _ hp)) (by rw [upd_ne (Ne.symm hne)]; exact hx) upd_same (by simp; omega) ?_
      rw [upd_upd]
      exact q
theorem flds_ok {D : Ends} {K : PySem.W.Frag} (T : OexC K C) (hσ : σ[0]? = some (some (.ref a))) {f : Str} {j : Nat} {prs : List (Str × Nat)} {y : V} {ys : List V} (hj : σ[j]? = some (some y)) (hy : prs.map (fun p => σ[p.2]?) = ys.map (fun y => some (some y)))
    (hn : ∀ p ∈ (f, j) :: prs, PySem.W.findIn K (.ref C) p.1 = some none) (hx : H a = some (exo a C none)) (hl : prs.length < 800)
    (q : ∀ dx, H dx = none → dx ≠ a → D.nx σ (upd (upd H dx (exd dx (((f :: prs.map (·.1)).zip (y :: ys)).reverse))) a (exo a C (some dx)))) : tM K ((f, j) :: prs) D σ H := by
  refine ⟨y, hj, .ref a, hσ, a, C, rfl, T, hn _ List.mem_cons_self, .inl ⟨hx, fun dx hd hne => ?_⟩⟩
  refine more_ok T hσ hne hy (fun p hp => hn p (List.mem_cons_of_mem _ hp)) upd_same (by rw [upd_ne hne, upd_same]) (by simp; omega) ?_
  have e : upd (upd (upd H dx (exd dx [(f, y)])) a (exo a C (some dx))) dx (exd dx (pushF ((prs.map (·.1)).zip ys) [(f, y)])) = upd (upd H dx (exd dx (((f :: prs.map (·.1)).zip (y :: ys)).reverse))) a (exo a C (some dx)) := by
    funext b
    by_cases hb : b = dx
    · subst hb
      rw [upd_same, upd_ne hne, upd_same, pushF_eq]
      simp
    · rw [upd_ne hb]
      by_cases hba : b = a
      · subst hba
        rw [upd_same, upd_same]
      · rw [upd_ne hba, upd_ne hba, upd_ne hb, upd_ne hb]
  rw [e]
  exact q dx hd hne

def tNames (js : List Nat) : TA := fun σ H Q => ∃ ws : List V, js.map (fun j => σ[j]?) = ws.map (fun y => some (some y)) ∧ Q ws H
theorem ns_name {q : Str} {p : Pos} : NS (.Name q p) := fun _ _ => rfl
theorem xArgs_ns : ∀ {args : List Expr} {qs : List Str}, xArgs args qs = true → (∀ e ∈ args, NS e) ∧ args.length = qs.length
  | [], [], _ => ⟨fun e h => (by cases h), rfl⟩
  | [], _ :: _, h => by simp [xArgs] at h
  | e :: r, qs, h => by
    unfold xArgs at h
    split at h
    · rename_i hh; cases hh
    · rename_i q p r' p' ps e1
      cases e1
      simp only [Bool.and_eq_true, decide_eq_true_eq] at h
      obtain ⟨a, b⟩ := xArgs_ns h.2
      exact ⟨fun x hx => by
        rcases List.mem_cons.mp hx with z | z
        · rw [z]; exact ns_name
        · exact a x z, by simp [b]⟩
    · cases h
theorem PA.imp' {es : List Expr} {t t' : TA} (h : PA X es t) (hi : ∀ σ H Q, t' σ H Q → t σ H Q) : PA X es t' := ⟨fun pos pins s σ H Q I q => h.run pos pins s σ H Q I (hi _ _ _ q)⟩
theorem pa_names : ∀ {args : List Expr} {qs : List Str} {js : List Nat}, xArgs args qs = true → qs.length = js.length → (∀ (i : Nat) (q : Str) (j : Nat), qs[i]? = some q → js[i]? = some j → LocAt X q j) → PA X args (tNames js)
  | [], [], js, _, hl, _ => by
    cases js with
    | nil =>
      refine PA.imp' pa_nil fun σ H Q h => ?_
      obtain ⟨ws, h1, h2⟩ := h
      have hw : ws = [] := by
        cases ws with
        | nil => rfl
        | cons w ws => simp at h1
      subst hw
      exact h2
    | cons => simp at hl
  | [], _ :: _, _, h, _, _ => by simp [xArgs] at h
  | e :: r, qs, js, h, hl, hq => by
    unfold xArgs at h
    split at h
    · rename_i hh; cases hh
    · rename_i q p r' p' ps e1
      cases e1
      simp only [Bool.and_eq_true, decide_eq_true_eq] at h
      obtain ⟨rfl, hr⟩ := h
      cases js with
      | nil => simp at hl
      | cons j js =>
        have hj := hq 0 _ j rfl rfl
        refine PA.imp' (pa_cons (pe_var hj.1 (.inl hj.2.1) hj.2.2.1 hj.2.2.2) (pa_names hr (by simpa using hl) fun i p j a b => hq (i + 1) p j (by simpa using a) (by simpa using b)) rfl) fun σ H Q ⟨ws, h1, h2⟩ => ?_
        cases ws with
        | nil => simp at h1
        | cons w ws =>
          simp only [List.map_cons, List.cons.injEq] at h1
          exact ⟨w, h1.1, ws, h1.2, h2⟩
    · cases h

end
theorem lookup_one {x y : Str} {c : Addr} : List.lookup x [(y, c)] = if x = y then some c else none := by
  by_cases h : x = y
  · subst h; simp [List.lookup]
  · have e : (x == y) = false := by simpa using h
    rw [if_neg h]; simp [List.lookup, e]
section
variable {P : Program} {w : World} {K : PySem.W.Frag} {mg : Str → Option Value} {base : Heap} {C fI cc cda : Addr} {name qual : Str} {params : Arguments} {body : List Stmt} {scope : Scope}
/-- what __init__ promises: the fields fl hold the arguments -/
def spX (C : Addr) (fl : List Str) : Sp := fun vs H Q _ => ∃ (a : Addr) (ws : List V), vs = .ref a :: ws ∧ ws.length = fl.length ∧ H a = some (exo a C none) ∧ ∀ d, H d = none → d ≠ a → Q .non (upd (upd H d (exd d ((fl.zip ws).reverse))) a (exo a C (some d)))
def xBody : List Stmt → List Str → List Str → Bool
  | .Expr (.Call (.Attribute (.Call (.Name sp _) [] [] _) it p2) args [] p3) _ :: rest, qs, fl => decide (sp = "super") && decide (it = "__init__") && xArgs args qs && decide ((p2.endLine == p3.line) = true) && xRest rest (fl.zip qs)
  | _, _, _ => false
theorem xini_ok {qs fl : List Str} {k : Nat} {fd : FuncData} (F : XIni K P C fI cc cda name qual params body scope) (hfd : ∃ (od : Option Addr) (osl : Array (Option Value)), K.lookup fI = some ⟨.type "function", od, .func fd, osl⟩) (hm : mg "super" = none)
    (S : NScope (("self" : Str) :: (qs ++ [("__class__" : Str)])) (("self" : Str) :: qs) [("__class__" : Str)] scope) (hb : xBody body qs fl = true) (hl : fl.length = qs.length) (h1 : 1 ≤ fl.length) (h2 : fl.length < 28) (hn : ∀ f ∈ fl, PySem.W.findIn K (.ref C) f = some none)
    (hd : ∀ q ∈ qs, (q == ("__debug__" : Str)) = false ∧ (q == ("__classdict__" : Str)) = false) :
    FnOk P w K mg base (L2.CX P w) (k + 1) fI fd (("self" : Str) :: qs) (spX C fl) := by
  refine ⟨fun vs H Q E h => ?_, fun A outer s H args us vs Q E hr e0 hbd r h => ?_⟩
  · obtain ⟨a, ws, rfl, h, _⟩ := h
    simp [h, hl]
  obtain ⟨a, ws, rfl, hwl, ha, hq⟩ := h
  obtain ⟨od, dV, kV, doc, pm, ctv, an, osl, hfn⟩ := F.fn
  obtain ⟨od', osl', hfn'⟩ := hfd
  rw [hfn] at hfn'
  have efd : fd = PySem.W.fnX name qual params body scope [("__class__", cc)] dV kV doc pm an (.ref cda) ctv := by
    cases hfn'; rfl
  subst efd
  let NF0 : NF := ⟨name, qual, params, body, scope, [("__class__", cc)], cda⟩
  have KX : K.In s.heap := e0.mod.kin.keeps fun b o e => (e0.bs b o e).1
  have lim : s.heap.NoLimit := e0.mod.nolimit.keeps fun b o e => (e0.bs b o e).1
  obtain ⟨ccl, cdx, csl, hcell⟩ := F.cell
  have hcb : base.get? cc = some _ := e0.mod.kin _ _ hcell
  have Cat : CellsAt NF0.cl [("__class__" : Str)] [some (V.ref C)] s.heap H := by
    refine ⟨rfl, fun y c hy => ?_, fun x y c h1 h2 => ?_, fun i y hi => ?_⟩
    · have hc : c = cc := by
        have hy' : List.lookup y [(("__class__" : Str), cc)] = some c := hy
        rw [lookup_one] at hy'
        split at hy'
        · cases hy'; rfl
        · cases hy'
      subst hc
      exact ⟨(e0.bs _ _ hcb).2, some (.ref C), _, (e0.bs _ _ hcb).1, rfl⟩
    · have h1' : List.lookup x [(("__class__" : Str), cc)] = some c := h1
      have h2' : List.lookup y [(("__class__" : Str), cc)] = some c := h2
      rw [lookup_one] at h1' h2'
      split at h1'
      · split at h2'
        · rename_i e1 e2; rw [e1, e2]
        · cases h2'
      · cases h1'
    · cases i with
      | zero =>
        simp at hi
        subst hi
        refine ⟨cc, ?_, fun v hv => ?_⟩
        · show List.lookup _ [(("__class__" : Str), cc)] = some cc
          rw [lookup_one, if_pos rfl]
        · simp at hv
          subst hv
          exact ⟨.ref C, rfl, _, (e0.bs _ _ hcb).1, rfl⟩
      | succ i => simp at hi
  have hwq : ws.length = qs.length := by rw [hwl, hl]
  have hlv : (V.ref a :: ws).length = (("self" : Str) :: qs).length := by simp [hwq]
  have s0 : (startF (("self" : Str) :: (qs ++ [("__class__" : Str)])) (V.ref a :: ws) [some (V.ref C)])[0]? = some (some (V.ref a)) := by simp [startF]
  have sj : ∀ (i : Nat) (y : V), ws[i]? = some y → (startF (("self" : Str) :: (qs ++ [("__class__" : Str)])) (V.ref a :: ws) [some (V.ref C)])[i + 1]? = some (some y) := by
    intro i y hy
    have hi := (List.getElem?_eq_some_iff.mp hy).1
    show ((V.ref a :: ws).map some ++ _)[i + 1]? = _
    rw [List.getElem?_append_left (by simp; omega)]
    simp [hy]
  refine ks_codeAny_call_defAt (fd := PySem.W.fnX name qual params body scope [("__class__", cc)] dV kV doc pm an (.ref cda) ctv) (body := body) (binds := (("self" : Str) :: qs).zip us) hr.depth (KX _ _ hfn) rfl lim (PySem.W.codeRec_of KX F.code) rfl hbd S.nocell
    (fun ⟨n, _⟩ hy => S.par n (List.of_mem_zip hy).1) (fun h₁ hns kp => ?_) S.co S.gen S.kind
  have I : L2.Inv (ncx (L2.CX P w) P w K mg base (("self" : Str) :: (qs ++ [("__class__" : Str)])) NF0 fI A outer s H E) [] (startF (("self" : Str) :: (qs ++ [("__class__" : Str)])) (V.ref a :: ws) [some (V.ref C)]) H
    { s with heap := h₁, toks := s.toks + ((("self" : Str) :: qs).zip us).length } := inv_startN S hr.hd e0 hlv r Cat hns kp
  generalize hX : ncx (L2.CX P w) P w K mg base (("self" : Str) :: (qs ++ [("__class__" : Str)])) NF0 fI A outer s H E = X at I
  have xK : X.K = K := by rw [← hX]; rfl
  have xp : X.prog = P := by rw [← hX]; rfl
  have xw : X.w = w := by rw [← hX]; rfl
  have xm : X.mg = mg := by rw [← hX]; rfl
  have xN : X.N = ("self" : Str) :: (qs ++ [("__class__" : Str)]) := by rw [← hX]; rfl
  have xenv : X.env = PySem.W.envX qual scope s.heap.objs.size fI (.ref cda) [("__class__", cc)] := by rw [← hX]; rfl
  have xA : X.A = A.deeper (PySem.W.envX qual scope s.heap.objs.size fI (.ref cda) [("__class__", cc)]) := by rw [← hX]; rfl
  have loc0 : LocAt X "self" 0 := ⟨by rw [xN]; rfl, by rw [xenv]; exact S.par _ List.mem_cons_self, by decide, by decide⟩
  have locq : ∀ (i : Nat) (q : Str), qs[i]? = some q → LocAt X q (i + 1) := by
    intro i q hi
    have hm := List.mem_of_getElem? hi
    refine ⟨?_, by rw [xenv]; exact S.par _ (List.mem_cons_of_mem _ hm), (hd q hm).1, (hd q hm).2⟩
    rw [xN]
    simp only [List.getElem?_cons_succ]
    rw [List.getElem?_append_left (List.getElem?_eq_some_iff.mp hi).1]
    exact hi
  unfold xBody at hb
  split at hb
  case h_2 => cases hb
  rename_i spn p0 p1 itn p2 al p3 p4 rest
  simp only [Bool.and_eq_true, decide_eq_true_eq] at hb
  obtain ⟨⟨⟨⟨rfl, rfl⟩, hxa⟩, hline⟩, hxr⟩ := hb
  have hxe : X.xe = fun e s' => wpAny (model P w) (A.deeper (PySem.W.envX qual scope s.heap.objs.size fI (.ref cda) [("__class__", cc)])) (leaving (PySem.W.envX qual scope s.heap.objs.size fI (.ref cda) [("__class__", cc)]) e) (fun _ s'' => L2.CX P w outer H s E e s'') (fun e' s'' => L2.CX P w outer H s E e' s'') s' := by
    rw [← hX]; rfl
  obtain ⟨hns', hal⟩ := xArgs_ns hxa
  cases al with
  | nil => simp at hal; omega
  | cons e es =>
  have js : List Nat := []
  have hqj : ∀ (i : Nat) (q : Str) (j : Nat), qs[i]? = some q → ((List.range qs.length).map (· + 1))[i]? = some j → LocAt X q j := by
    intro i q j h1 h2
    have hi := (List.getElem?_eq_some_iff.mp h1).1
    simp [hi] at h2
    subst h2
    exact locq i q h1
  have pa := pa_names (X := X) hxa (by simp) hqj
  have hslots : ((List.range qs.length).map (· + 1)).map (fun j => (startF (("self" : Str) :: (qs ++ [("__class__" : Str)])) (V.ref a :: ws) [some (V.ref C)])[j]?) = ws.map fun y => some (some y) := by
    apply List.ext_getElem?
    intro i
    by_cases hi : i < ws.length
    · have hi2 : i < qs.length := by omega
      have := sj i ws[i] (by simp [hi])
      simp [hi, hi2, this]
    · have hi2 : ¬ i < qs.length := by omega
      rw [List.getElem?_eq_none (by simp; omega), List.getElem?_eq_none (by simp; omega)]
  have hs := sup_stmt (X := X) (a := a) (by rw [xK, xp]; exact F) (by rw [xenv]) (by rw [xm]; exact hm) loc0.1 I s0 ha (p0 := p0) (p1 := p1) (p2 := p2) (p3 := p3) (p4 := p4) pa ⟨ws, hslots, rfl, rfl⟩ hns' (by simpa using hline) (by rw [hal]; omega) (by rw [sizeLine_eq]; omega)
    (Q := fun f s' => match f with
      | .next => _root_.PySem.wpAt (model P w) (A.deeper (PySem.W.envX qual scope s.heap.objs.size fI (.ref cda) [("__class__", cc)])) (.func (Stmt.Expr (.Call (.Attribute (.Call (.Name ("super" : Str) p0) [] [] p1) ("__init__" : Str) p2) (e :: es) [] p3) p4 :: rest) (PySem.W.envX qual scope s.heap.objs.size fI (.ref cda) [("__class__", cc)])) (execs rest (PySem.W.envX qual scope s.heap.objs.size fI (.ref cda) [("__class__", cc)]))
          (fun f s' => CR (L2.CX P w) outer P w H s Q E (.ok (.ret (match f with | .ret v => v | _ => .none))) s') X.xe s'
      | f => CR (L2.CX P w) outer P w H s Q E (.ok (.ret (match f with | .ret v => v | _ => .none))) s') (E := X.xe) (fun u s' h => h) (fun s1 I1 => ?_)
  · rw [xp, xw, xA, xenv] at hs
    refine ks_wpAt_execs_cons ?_
    rw [hxe] at hs
    exact hs
  · refine wpAt_of_wpAny ?_
    have pf := pss_flds (X := X) loc0 (js := (List.range qs.length).map (· + 1)) hxr (by simp [hl]) fun i p j h1 h2 => by
      rw [List.getElem?_zip_eq_some] at h1
      exact hqj i p.2 j h1.2 h2
    have hfst : (fl.zip qs).map (·.1) = fl := by
      rw [List.map_fst_zip]; omega
    rw [hfst] at pf
    have run := pf.run [] s1 (startF (("self" : Str) :: (qs ++ [("__class__" : Str)])) (V.ref a :: ws) [some (V.ref C)]) H { nx := fun _ H' => Q .non H', rt := fun _ _ => False } I1 ?_
    · rw [xp, xw, xA, xenv] at run
      refine wpAny_mono run (fun f s2 hs2 => ?_) fun _ _ z => z
      cases f with
      | next =>
        obtain ⟨σ', H', J, q⟩ := hs2
        refine ⟨V.non, H', ?_, ?_, ?_, ?_, rfl, q⟩
        · have := J.os; rw [← hX] at this; exact this
        · exact J.bare
        · have := J.base; rw [← hX] at this; exact this
        · have := J.hok; rw [xp, xw] at this; exact this
      | ret u => obtain ⟨v, σ', H', J, rv, q⟩ := hs2; exact q.elim
      | brk => obtain ⟨_, _, _, q⟩ := hs2; exact q.elim
      | cont => obtain ⟨_, _, _, q⟩ := hs2; exact q.elim
    · cases fl with
      | nil => simp at h1
      | cons f fl =>
      cases ws with
      | nil => simp at hwl
      | cons y ys =>
      have hlq : qs.length = fl.length + 1 := by simpa using hl.symm
      have hr1 : (List.range qs.length).map (· + 1) = 1 :: (List.range fl.length).map (· + 2) := by
        rw [hlq, List.range_succ_eq_map]
        simp
      rw [hr1, List.zip_cons_cons, xK]
      have hyl : ys.length = fl.length := by simpa using hwl
      refine flds_ok F.oex s0 (sj 0 y rfl) (ys := ys) ?_ ?_ ha (by simp; simp at h2; omega) ?_
      · apply List.ext_getElem?
        intro i
        by_cases hi : i < ys.length
        · have hi2 : i < fl.length := by omega
          have := sj (i + 1) ys[i] (by simp [hi])
          simp [hi, hi2, this, List.getElem?_zip_eq_some]
        · rw [List.getElem?_eq_none (by simp; omega), List.getElem?_eq_none (by simp; omega)]
      · intro p hp
        rcases List.mem_cons.mp hp with z | z
        · rw [z]; exact hn f List.mem_cons_self
        · exact hn p.1 (List.mem_cons_of_mem _ (List.of_mem_zip z).1)
      · have hf2 : (fl.zip ((List.range fl.length).map (· + 2))).map (·.1) = fl := by rw [List.map_fst_zip]; simp
        rw [hf2]
        exact hq
end
end Dn

set_option maxHeartbeats 4000000
namespace Dn
open PySem PySem.Spec PyProof.Rows L2

theorem zip_sub {α β : Type} : ∀ (l : List α) (m : List β), ((l.zip m).map (·.1)).Sublist l
  | [], _ => by simp
  | a :: l, [] => by simp
  | a :: l, b :: m => by simpa using zip_sub l m
theorem look_rev {fl : List Str} {vs : List V} {i : Nat} {f : Str} {v : V} (hn : fl.Nodup) (hf : fl[i]? = some f) (hv : vs[i]? = some v) : ((fl.zip vs).reverse).lookup f = some v := by
  have hm : (f, v) ∈ (fl.zip vs).reverse := by
    rw [List.mem_reverse]
    exact List.mem_of_getElem? (List.getElem?_zip_eq_some.mpr ⟨hf, hv⟩ : (fl.zip vs)[i]? = some (f, v))
  have hk : ((fl.zip vs).reverse.map (·.1)).Nodup := by
    rw [List.map_reverse]
    have h0 : ((fl.zip vs).map (·.1)).Nodup := by
      exact hn.sublist (zip_sub fl vs)
    exact List.pairwise_reverse.mpr (h0.imp Ne.symm)
  have key : ∀ {l : List (Str × V)}, (l.map (·.1)).Nodup → (f, v) ∈ l → l.lookup f = some v := by
    intro l
    induction l with
    | nil => intro _ h; cases h
    | cons p l ih =>
      intro hn h
      obtain ⟨g, u⟩ := p
      rcases List.mem_cons.mp h with z | z
      · cases z; simp [List.lookup]
      · simp only [List.map_cons, List.nodup_cons] at hn
        have hne : f ≠ g := fun e => hn.1 (by rw [← e]; exact List.mem_map_of_mem z)
        have : (f == g) = false := by simpa using hne
        simp [List.lookup, this, ih hn.2 z]
  exact key hk hm
section
variable {G : Gx} {X : Cx} {e : Expr} {es : List Expr} {m : Vars → Store → Out (List Dn.D)} {pos p p2 : Pos}
theorem paired_fields {w : Wd} {nm : Nat → Str} : ∀ {xf : List Nat} {vs : List V} {F : Str → V → Prop}, xf.length = vs.length → (∀ (i : Nat) (f : Nat) (v : V), xf[i]? = some f → vs[i]? = some v → F (nm f) v) → Paired (fun f v => F (nm f) v) xf vs
  | [], [], _, _, _ => .nil
  | [], _ :: _, _, h, _ => by simp at h
  | _ :: _, [], _, h, _ => by simp at h
  | f :: xf, v :: vs, F, h, hF => .cons (hF 0 f v rfl rfl) (paired_fields (w := w) (by simpa using h) fun i f v a b => hF (i + 1) f v (by simpa using a) (by simpa using b))
/-- raise C(e, ..) -/
theorem sim_raise {x : Str} {c fI : Nat} {k : Nat} {fd : FuncData} {ps : List Str} (hc : X.calm = true) (T : OexC X.K (G.xa c)) (iC : PySem.W.findIn X.K (.ref (G.xa c)) "__init__" = some (some (.ref fI))) (tI : PySem.W.typeIn X.K (.ref fI) = some (.type "function"))
    (F1 : FnOk X.prog X.w X.K X.mg X.base (L2.CX X.prog X.w) k fI fd ps (spX (G.xa c) ((G.xf c).map G.nm))) (hr : Room (k + 1) X.A) (hb : Binds X.K fd ps []) (hg : Gl X x) (hm : X.mg x = some (.ref (G.xa c))) (ha : SimA G X (e :: es) m)
    (hdb : (x == ("__debug__" : Str)) = false) (ns : ∀ x ∈ e :: es, NS x) (hn : ((G.xf c).map G.nm).Nodup) (hl : (G.xf c).length ≤ 900) (hx : G.isx c = true) (h1 : 1 ≤ (G.xf c).length) :
    SimS G X (.Raise (some (.Call (.Name x p) (e :: es) [] p2)) none pos) (fun Γ S => (m Γ S).st Γ fun ds S1 => if ds.length = (G.xf c).length then .exn c ds Γ S1 else .stuck) := fun W tk => by
  refine PS.imp (ps_raise hc tk (pmk_oex T iC tI F1 hr hb .nil (passes_call tk fun _ _ _ _ h => h.elim) hg hm (ha W tk) hdb (ns e List.mem_cons_self _ _) (ns_any fun x hx => ns x (List.mem_cons_of_mem _ hx)))) fun D σ H ⟨Γ, w, hw, A, hf⟩ => ?_
  refine ⟨Γ, w, hw, A, hf.st A fun w1 ds vs e1 R1 p1 rs A1 h1 => ?_⟩
  split at h1
  case isFalse => exact h1.elim
  rename_i hlen
  have hvl : vs.length = (G.xf c).length := by rw [← rs.length, hlen]
  refine ⟨by omega, fun a ha0 => ⟨a, vs, by simp, by simp [hvl], upd_same, fun d hd hne => ⟨rfl, d, ((((G.xf c).map G.nm).zip vs).reverse), upd_same, by rw [upd_ne hne, upd_same], ?_, ?_⟩⟩⟩
  · rw [upd_ne hne] at hd; exact hd
  · have hd1 : w1.H d = none := by rw [upd_ne hne] at hd; exact hd
    have eH : upd (del (upd (upd (upd w1.H a (exo a (G.xa c) none)) d (exd d ((((G.xf c).map G.nm).zip vs).reverse))) a (exo a (G.xa c) (some d))) a) d (.xd ((((G.xf c).map G.nm).zip vs).reverse)) = upd w1.H d (.xd ((((G.xf c).map G.nm).zip vs).reverse)) := by
      funext b
      by_cases hb : b = d
      · rw [hb, upd_same, upd_same]
      · rw [upd_ne hb, upd_ne hb]
        by_cases hba : b = a
        · rw [hba, del_same, ha0]
        · rw [del_ne hba, upd_ne hba, upd_ne hb, upd_ne hba]
    rw [eH]
    have e2 := Ext.laid (o := .xd ((((G.xf c).map G.nm).zip vs).reverse)) R1 hd1
    have R2 := R1.laid (o := .xd ((((G.xf c).map G.nm).zip vs).reverse)) hd1
    refine h1 σ ⟨_, w1.S, w1.ρ, w1.pv⟩ (.ref (G.xa c)) (some d) e2 rfl rfl (A1.ext e2 R2) ⟨rfl, hx, .inr ⟨d, _, vs, rfl, upd_same, fun l => R1.dead hd1 l, ?_, Reps.ext e2.wk _ _ rs⟩⟩
    refine paired_fields (w := w1) (F := fun f v => ((((G.xf c).map G.nm).zip vs).reverse).lookup f = some v) hvl.symm fun i f v a b => look_rev hn (by rw [List.getElem?_map, a]; rfl) b
end

abbrev ClT := Value × Option (Nat × Str) × (Addr → Value → Option Addr → TS)
def wMx (K : PySem.W.Frag) (Wout : WX) (D : Ends) : List ClT → WX
  | [] => Wout
  | (c, n, ts) :: r => fun cls d σ H => ∃ b, PySem.W.exmOne K cls c = some b ∧ (b = true → ∀ a, H a = none → match n with
      | none => ts a cls d D σ H
      | some (i, _) => ts a cls d { nx := fun σ' H' => D.nx (σ'.set i none) H', rt := D.rt, bk := fun σ' H' => D.bk (σ'.set i none) H', ct := fun σ' H' => D.ct (σ'.set i none) H' } (σ.set i (some (.ref a))) H) ∧ (b = false → wMx K Wout D r cls d σ H)
inductive HdsM (X : Cx) : List ExceptHandler → List ClT → Prop
  | nil : HdsM X [] []
  | cons {x : Str} {c : Value} {n : Option (Nat × Str)} {ts : Addr → Value → Option Addr → TS} {b₀ : Stmt} {suite : List Stmt} {np pos' : Pos} {hds : List ExceptHandler} {l : List ClT} (hc : Names X x c)
      (hn : ∀ i y, n = some (i, y) → X.N[i]? = some y ∧ X.env.kindOf y = some .local)
      (hsu : ∀ (a : Addr) (oe : Obj) (cls : Value) (d : Option Addr) (pn : List (Addr × Obj)), Zc cls d oe → (∃ vs, oe.data = .fields vs) → PSs (X.suite a ((a, oe) :: pn)) (b₀ :: suite) (ts a cls d)) (r : HdsM X hds l) :
      HdsM X (.ExceptHandler (some (.Name x np)) (n.map (·.2)) (b₀ :: suite) pos' :: hds) ((c, n, ts) :: l)
section
variable {X : Cx} {body : List Stmt} {h₀ : ExceptHandler} {hds : List ExceptHandler} {l : List ClT} {pos : Pos} {tb : WX → TS} {Wout : WX}
theorem ps_try_mix (hN : X.N.Nodup) (hs : X.stack = X.env :: X.outer) (hf : X.env.frame = some X.env.locals) (tk : Takes X Wout)
    (hb : ∀ (W : WX) (pn : List (Addr × Obj)) (xe : Value → Shared → Prop), Takes (X.tr pn xe) W → PassesOwn (model X.prog X.w) X.A X.env xe → PSs (X.tr pn xe) body (tb W))
    (hh : HdsM X (h₀ :: hds) l) : PS X (.Try body (h₀ :: hds) [] [] pos) (fun D σ H => tb (wMx X.K Wout D l) D σ H) := by
  refine ⟨fun pins s σ H D I h => ?_⟩
  have ok := I.ok
  have hfr : X.A.frames = some (X.env :: X.outer) := by rw [ok.frames, hs]
  refine wpAny_Try_except ?_
  refine wpAny_mono ((hb (wMx X.K Wout D l) (X.pn ++ pins) (fun e s₁ => wpAny (model X.prog X.w) X.A (noteFrame e X.env) (fun _ s₂ => wpAny (model X.prog X.w) X.A (setFlight e none) (fun _ s₃ =>
    wpAny (model X.prog X.w) X.A (handleBy e X.env (h₀ :: hds)) (SP X pins D) X.xe s₃) X.xe s₂) X.xe s₁) (fun u s' xx => ?_) PassesOwn.looking).run [] s σ H D (I.toTry _) h) (fun f s1 hsp => ?_) (fun e s1 he => he)
  · obtain ⟨a, B, sI, pins', σ', H', cls, d, rfl, J', nb, up, sky, na, os, ag, w⟩ := xx
    have J : L2.Inv X pins σ' H' sI := J'.ofTry ok
    have sky' : Sky B (X.env :: X.outer) a (Zc cls d) X.env.locals s'.heap := by rw [← hs]; exact sky
    show wpAny (model X.prog X.w) X.A (noteFrame (.ref a) X.env) _ _ _
    refine Sky.land Zc.steady hfr hf sky' fun h3 fl3 up3 => ?_
    have J3 : L2.Inv X pins σ' H' { s' with heap := h3 } := J.landed nb fl3.1 (up.trans up3) os ag
    obtain ⟨oe3, vs3, he3, hz3, hd3⟩ := fl3.there
    have notFr : ∀ {h : Heap} {o : Obj} {vs : Array Value}, h.FunFrames B (X.env :: X.outer) → h.get? a = some o → o.data = .fields vs → a ∉ frs (X.env :: X.outer) := fun {h o vs} ff e dd hm => by
      obtain ⟨_, o', e', hnf⟩ := ff.mem hm
      rw [e] at e'; cases e'
      exact hnf _ dd
    have nfr := notFr fl3.2.2.1 he3 hd3
    have nL : a ≠ X.env.locals := fun z => nfr (List.mem_filterMap.mpr ⟨X.env, List.mem_cons_self, by rw [hf, z]⟩)
    have nF : a ∉ X.fs := fun hm => by
      obtain ⟨e, he, q⟩ := List.mem_filterMap.mp hm
      exact nfr (List.mem_filterMap.mpr ⟨e, List.mem_cons_of_mem _ he, q⟩)
    have S3 := J3.suite he3 hd3 na nL nF
    have go : ∀ {hds' : List ExceptHandler} {l' : List ClT}, HdsM X hds' l' → wMx X.K Wout D l' cls d σ' H' →
        wpAny (model X.prog X.w) X.A (handleBy (.ref a) X.env hds') (SP X pins D) X.xe { s' with heap := h3 } := by
      intro hds' l' hk
      induction hk with
      | nil =>
        intro w
        refine wpAny_handleBy_nil ?_
        obtain ⟨k1, k2, k3, oe, vs, T, oT, ts', he, hz, hd, h1, hr⟩ := id fl3
        unfold PySem.passOn
        refine wpAny_bind (wpAny_field he hd h1 ?_)
        rw [if_neg (show ¬ ((Value.ref T == Value.none) = true) from by simp)]
        have fin : wpAny (model X.prog X.w) X.A (setFlight (.ref a) X.env.frame) (fun _ s4 => wpAny (model X.prog X.w) X.A (throw (.ref a) : Sem Flow) (SP X pins D) X.xe s4) X.xe { s' with heap := h3 } := by
          rw [hf]
          refine HandSPX.setFlight_upZ fl3 fun h4 hh4 up4 => wpAny_throw (tk _ _ ?_)
          exact ⟨a, B, sI, pins, σ', H', cls, d, rfl, J, nb, (up.trans up3).trans up4, .inr (.inr (by rw [hs]; exact hh4)), na, os, ag, w⟩
        first
          | exact wpAny_bind (wpAny_pure (wpAny_bind fin))
          | exact wpAny_bind fin
      | @cons x c n ts b₀ suite np pos' hds2 l2 hc hn hsu r ih =>
        intro w
        obtain ⟨b, hb1, hyes, hno⟩ := w
        refine wpAny_handleBy_cons (codeAny_handlers_test ?_) (by intro q; cases q)
        have LT : PySem.W.Looks (model X.prog X.w) h3 (typeOf (.ref a)) cls := fun A Q E s k q => wpAny_typeOf_ref (k _ _ he3) (by rw [hz3.1]; exact q)
        have LM := PySem.W.exm_one (M := model X.prog X.w) (J3.kIn) LT hb1
        have test : ∀ {Q : Value → Shared → Prop} {E : Value → Shared → Prop}, Q c { s' with heap := h3 } → wpAny (model X.prog X.w) (X.A.mark (some (.ref a))) (eval (.Name x np) X.env) Q E { s' with heap := h3 } := fun {Q E} q => by
          obtain ⟨hg, hdbg, hm | ⟨hm, hv, hnn⟩⟩ := hc
          · exact ld_glob (X := X.suite a ((a, oe3) :: (X.pn ++ pins))) S3 hg hm q hdbg
          · exact ld_blt (X := X.suite a ((a, oe3) :: (X.pn ++ pins))) S3 hg hm hv q hnn hdbg
        refine test (LM.here ?_)
        cases b with
        | true =>
          cases n with
          | none =>
            refine codeAny_handlers_suite ?_
            refine HandSPX.lands_againZ fl3 fun h4 fl4 up4 => ?_
            have J4 : L2.Inv X pins σ' H' { s' with heap := h4 } := J.landed nb fl4.1 ((up.trans up3).trans up4) os ag
            obtain ⟨oe4, vs4, he4, hz4, hd4⟩ := fl4.there
            have S4 := J4.suite he4 hd4 na nL nF
            refine wpAny_mono ((hsu a oe4 cls d (X.pn ++ pins) hz4 ⟨_, hd4⟩).run [] _ _ H' _ S4 (hyes rfl a na)) (fun f s6 hsp => ?_) (fun _ _ z => False.elim z)
            cases f with
            | next =>
              obtain ⟨σ6, H6, S6, q6⟩ := hsp
              exact ⟨_, _, S6.unsuite ok, q6⟩
            | brk =>
              obtain ⟨σ6, H6, S6, q6⟩ := hsp
              exact ⟨_, _, S6.unsuite ok, q6⟩
            | cont =>
              obtain ⟨σ6, H6, S6, q6⟩ := hsp
              exact ⟨_, _, S6.unsuite ok, q6⟩
            | ret u =>
              obtain ⟨v6, σ6, H6, S6, r6, q6⟩ := hsp
              exact ⟨_, _, _, S6.unsuite ok, r6, q6⟩
          | some iy =>
            obtain ⟨i, y⟩ := iy
            obtain ⟨hi, hln⟩ := hn i y rfl
            have hloc : Loc X.env.scope y := .inl hln
            refine codeAny_handlers_suite_as ?_
            refine HandSPX.lands_againZ fl3 fun h4 fl4 up4 => ?_
            have J4 : L2.Inv X pins σ' H' { s' with heap := h4 } := J.landed nb fl4.1 ((up.trans up3).trans up4) os ag
            obtain ⟨oe4, vs4, he4, hz4, hd4⟩ := fl4.there
            have S4 := J4.suite he4 hd4 na nL nF
            refine store_ok (X := X.suite a ((a, oe4) :: (X.pn ++ pins))) (v := .ref a) S4 hN hi hloc rfl (fun s5 S5 => ?_) (.inr hln)
            refine wpAny_mono ((hsu a oe4 cls d (X.pn ++ pins) hz4 ⟨_, hd4⟩).run [] s5 _ H' _ S5 (hyes rfl a na)) (fun f s6 hsp => ?_) (fun _ _ z => False.elim z)
            have end_ : ∀ {σ6 : St} {H6 : Hp} {Q : Shared → Prop}, L2.Inv (X.suite a ((a, oe4) :: (X.pn ++ pins))) [] σ6 H6 s6 → (∀ s7, L2.Inv X pins (σ6.set i none) H6 s7 → Q s7) →
                wpAny (model X.prog X.w) X.A (do bindName X.env y .none; unbindBehindTheSuite X.env y pos') (fun _ s7 => Q s7) X.xe s6 := fun {σ6 H6 Q} S6 hq => gone_ok (S6.unsuite ok) hN hi hln hq
            cases f with
            | next =>
              obtain ⟨σ6, H6, S6, q6⟩ := hsp
              exact end_ S6 fun s7 J7 => ⟨_, _, J7, q6⟩
            | brk =>
              obtain ⟨σ6, H6, S6, q6⟩ := hsp
              exact end_ S6 fun s7 J7 => ⟨_, _, J7, q6⟩
            | cont =>
              obtain ⟨σ6, H6, S6, q6⟩ := hsp
              exact end_ S6 fun s7 J7 => ⟨_, _, J7, q6⟩
            | ret u =>
              obtain ⟨v6, σ6, H6, S6, r6, q6⟩ := hsp
              exact end_ S6 fun s7 J7 => ⟨_, _, _, J7, r6, q6⟩
        | false =>
          show wpAny _ X.A (handleBy (.ref a) X.env hds2) _ _ _
          exact ih (hno rfl)
    exact go hh w
  · cases f with
    | next =>
      obtain ⟨σ', H', J', q⟩ := hsp
      exact wpAny_execs_nil ⟨σ', H', J'.ofTry ok, q⟩
    | brk =>
      obtain ⟨σ', H', J', q⟩ := hsp
      exact ⟨σ', H', J'.ofTry ok, q⟩
    | cont =>
      obtain ⟨σ', H', J', q⟩ := hsp
      exact ⟨σ', H', J'.ofTry ok, q⟩
    | ret u =>
      obtain ⟨v, σ', H', J', r, q⟩ := hsp
      exact ⟨v, σ', H', J'.ofTry ok, r, q⟩
end

abbrev ClD := Nat × Option Nat × (Option (Nat × List D) → Vars → Store → SOut)
def errG (G : Gx) (i a : Nat) (d : Option Addr) (c : Nat) (xs : List D) : Gx := { G with ex := some ⟨i, a, d, c, xs⟩ }
/-- one clause, by data -/
structure ClOk (G : Gx) (X : Cx) (sub : Nat → Nat → Bool) (x : Str) (y : Option Str) (sts : List Stmt) (k : Nat) (n : Option Nat) (mb : Option (Nat × List D) → Vars → Store → SOut) : Prop where
  nms : Names X x (.ref (G.xa k))
  exm : ∀ c, G.isx c = true → PySem.W.exmOne X.K (.ref (G.xa c)) (.ref (G.xa k)) = some (sub c k)
  slot : ∀ i, n = some i → ∃ z, y = some z ∧ X.N[i]? = some z ∧ X.env.kindOf z = some .local
  none_ : n = none → y = none
  suite : ∀ (a : Addr) (oe : Obj) (pn : List (Addr × Obj)), n = none → SimSs G (X.suite a ((a, oe) :: pn)) sts (mb none)
  suiteN : ∀ (i a : Nat) (d : Option Addr) (c : Nat) (xs : List D) (oe : Obj) (pn : List (Addr × Obj)), n = some i → Zc (.ref (G.xa c)) d oe → (∃ vs, oe.data = .fields vs) → G.isx c = true → SimSs (errG G i a d c xs) (X.suite a ((a, oe) :: pn)) sts (mb (some (c, xs)))
inductive HdsS (G : Gx) (X : Cx) (sub : Nat → Nat → Bool) : List ExceptHandler → List ClD → Prop
  | nil : HdsS G X sub [] []
  | cons {x : Str} {y : Option Str} {b₀ : Stmt} {suite : List Stmt} {np pos' : Pos} {k : Nat} {n : Option Nat} {mb : Option (Nat × List D) → Vars → Store → SOut} {hds : List ExceptHandler} {l : List ClD}
      (c : ClOk G X sub x y (b₀ :: suite) k n mb) (r : HdsS G X sub hds l) : HdsS G X sub (.ExceptHandler (some (.Name x np)) y (b₀ :: suite) pos' :: hds) ((k, n, mb) :: l)
section
variable {G : Gx} {X : Cx} {sub : Nat → Nat → Bool}
def tsOf (G : Gx) (n : Option Nat) (mb : Option (Nat × List D) → Vars → Store → SOut) : Addr → Value → Option Addr → TS := fun a cls d D σ H => match n with
  | none => tS G noW (mb none) D σ H
  | some i => ∃ c xs, cls = .ref (G.xa c) ∧ G.isx c = true ∧ tS (errG G i a d c xs) noW (mb (some (c, xs))) D σ H
def convC (G : Gx) (N : List Str) : List ClD → List ClT
  | [] => []
  | (k, n, mb) :: r => (.ref (G.xa k), n.map fun i => (i, N.getD i ("" : Str)), tsOf G n mb) :: convC G N r
theorem hds_conv {hds : List ExceptHandler} {l : List ClD} (h : HdsS G X sub hds l) : HdsM X hds (convC G X.N l) := by
  induction h with
  | nil => exact .nil
  | @cons x y b₀ suite np pos' k n mb hds l c r ih =>
    have hy : y = (n.map fun i => (i, X.N.getD i ("" : Str))).map (·.2) := by
      cases n with
      | none => rw [c.none_ rfl]; rfl
      | some i =>
        obtain ⟨z, e1, e2, e3⟩ := c.slot i rfl
        rw [e1]
        simp [List.getD, e2]
    rw [hy]
    refine HdsM.cons c.nms (fun i z hz => ?_) (fun a oe cls d pn hzc hd => ?_) ih
    · cases n with
      | none => cases hz
      | some i' =>
        obtain ⟨z', e1, e2, e3⟩ := c.slot i' rfl
        simp only [Option.map_some, Option.some.injEq, Prod.mk.injEq] at hz
        obtain ⟨rfl, hz2⟩ := hz
        have : X.N.getD i' ("" : Str) = z' := by simp [List.getD, e2]
        rw [this] at hz2
        subst hz2
        exact ⟨e2, e3⟩
    · cases n with
      | none => exact c.suite a oe pn rfl noW takes_none5
      | some i =>
        refine ⟨fun pins s σ H D I hq => ?_⟩
        obtain ⟨c', xs, rfl, hx, q⟩ := hq
        exact (c.suiteN i a d c' xs oe pn rfl hzc hd hx noW takes_none5).run pins s σ H D I q
theorem gx_eta {G : Gx} (hx : G.ex = none) (e : Option ErrX) : { ({ G with ex := e } : Gx) with ex := none } = G := by
  cases G; simp at hx; simp [hx]
theorem rep_back {i a : Nat} {d : Option Addr} {c : Nat} {xs : List D} {w : Wd} {dd : D} {v : V} (hx : G.ex = none) (h : Rep (errG G i a d c xs) w dd v) : Rep G w dd v := by
  have := Rep.ex (e := none) dd v h
  rw [show ({ errG G i a d c xs with ex := none } : Gx) = G from gx_eta hx _] at this
  exact this
theorem rel_back {i a : Nat} {d : Option Addr} {c : Nat} {xs : List D} {w : Wd} (hx : G.ex = none) (h : Rel (errG G i a d c xs) w) : Rel G w := by
  have := Rel.ex (e := none) h
  rw [show ({ errG G i a d c xs with ex := none } : Gx) = G from gx_eta hx _] at this
  exact this
theorem hand_ok {tb : Tab} (hsub : tb.sub = sub) (hx : G.ex = none) {hds : List ExceptHandler} {l : List ClD} (h : HdsS G X sub hds l) : ∀ {σ : St} {w : Wd} {Γ : Vars} {c : Nat} {xs : List D} {cls : Value} {dd : Option Addr} {D : Ends} {W : WX},
    At G σ Γ w → ErrR G w cls dd c xs → FinS G w (dHand tb c xs Γ w.S l) D W → wMx X.K W D (convC G X.N l) cls dd σ w.H := by
  induction h with
  | nil =>
    intro σ w Γ c xs cls dd D W A er hf
    exact hf σ w cls dd (Ext.refl w) rfl rfl A er
  | @cons x y b₀ suite np pos' k n mb hds l cl r ih =>
    intro σ w Γ c xs cls dd D W A er hf
    have er0 := er
    obtain ⟨rfl, hxc, er⟩ := er
    refine ⟨sub c k, cl.exm c hxc, fun hb a ha => ?_, fun hb => ?_⟩
    · unfold dHand at hf
      rw [hsub, if_pos hb] at hf
      cases n with
      | none =>
        refine ⟨Γ, w, rfl, A, ?_⟩
        show FinS G w (mb none Γ w.S) D noW
        cases hm : mb none Γ w.S with
        | nx Γ2 S2 => rw [hm] at hf; exact hf
        | rt d S2 => rw [hm] at hf; exact hf
        | exn c2 xs2 Γ2 S2 => rw [hm] at hf; exact hf.elim
        | stuck => rw [hm] at hf; exact hf
      | some i =>
        dsimp only at hf
        split at hf
        · exact hf.elim
        rename_i hg
        simp only [decide_eq_true_eq, Nat.not_le] at hg
        have hlt := hg
        refine ⟨c, xs, rfl, hxc, Γ.set i none, w, rfl, ⟨A.rel.ex, fun j e hj => ?_, by simp [A.len], fun e he => ?_⟩, ?_⟩
        · by_cases hij : i = j
          · subst hij
            rw [List.getElem?_set_self hlt] at hj
            cases hj
          · rw [List.getElem?_set_ne hij] at hj
            obtain ⟨v, h1, h2⟩ := A.env j e hj
            exact ⟨v, by rw [List.getElem?_set_ne hij]; exact h1, Rep.ex _ _ h2⟩
        · cases he
          refine ⟨?_, ?_⟩
          rotate_left
          · rcases er with er | ⟨d, fs, vs, e1, hd, hnl, hp, hr⟩
            · exact .inl er
            · exact .inr ⟨d, fs, vs, e1, hd, hnl, hp, Reps.ex _ _ hr⟩
          show (σ.set i (some (V.ref a)))[i]? = _
          rw [List.getElem?_set_self (by rw [← A.len]; exact hlt)]
        · cases hm : mb (some (c, xs)) (Γ.set i none) w.S with
          | nx Γ2 S2 =>
            rw [hm] at hf
            intro σ2 w2 e2 s2 p2 A2
            refine hf (σ2.set i none) w2 e2 s2 p2 ⟨rel_back hx A2.rel, fun j e hj => ?_, by simp [A2.len], fun e he => by rw [hx] at he; cases he⟩
            by_cases hij : i = j
            · subst hij
              rw [List.getElem?_set] at hj
              simp only [if_true] at hj
              split at hj <;> cases hj
            · rw [List.getElem?_set_ne hij] at hj
              obtain ⟨v, h1, h2⟩ := A2.env j e hj
              exact ⟨v, by rw [List.getElem?_set_ne hij]; exact h1, rep_back hx h2⟩
          | rt d2 S2 =>
            rw [hm] at hf
            intro w2 v e2 R2 s2 p2 r2
            exact hf w2 v e2 (rel_back hx R2) s2 p2 (rep_back hx r2)
          | exn c2 xs2 Γ2 S2 => rw [hm] at hf; exact hf.elim
          | stuck => rw [hm] at hf; exact hf
    · unfold dHand at hf
      rw [hsub, if_neg (by rw [hb]; exact Bool.false_ne_true)] at hf
      exact ih A er0 hf
theorem sim_try {tb : Tab} {body : List Stmt} {h₀ : ExceptHandler} {hds : List ExceptHandler} {l : List ClD} {pos : Pos} {mb : Vars → Store → SOut} (hsub : tb.sub = sub) (hx : G.ex = none) (hN : X.N.Nodup) (hs : X.stack = X.env :: X.outer) (hf : X.env.frame = some X.env.locals)
    (hb : ∀ (pn : List (Addr × Obj)) (xe : Value → Shared → Prop), PassesOwn (model X.prog X.w) X.A X.env xe → SimSs G (X.tr pn xe) body mb) (hh : HdsS G X sub (h₀ :: hds) l) :
    SimS G X (.Try body (h₀ :: hds) [] [] pos) (fun Γ S => match mb Γ S with
      | .exn c xs Γ1 S1 => dHand tb c xs Γ1 S1 l
      | o => o) := fun W tk => by
  refine PS.imp (ps_try_mix hN hs hf tk (tb := fun W => tS G W mb) (fun W pn xe t p => hb pn xe p W t) (hds_conv hh)) fun D σ H ⟨Γ, w, hw, A, hfin⟩ => ?_
  refine ⟨Γ, w, hw, A, ?_⟩
  dsimp only at hfin
  cases hm : mb Γ w.S with
  | nx Γ2 S2 => rw [hm] at hfin; exact hfin
  | rt d S2 => rw [hm] at hfin; exact hfin
  | stuck => rw [hm] at hfin; exact hfin
  | exn c xs Γ1 S1 =>
    rw [hm] at hfin
    intro σ2 w2 cls dd e2 s2 p2 A2 er
    subst s2
    exact hand_ok hsub hx hh A2 er (FinS.base e2 p2 hfin)
end
end Dn

set_option maxHeartbeats 4000000
namespace Dn
open PySem PySem.Spec PyProof.Rows L2

/-- what the program's tables and the written part say -/
structure Pf (G : Gx) (tb : Tab) (kl : Nat → Option Kls) : Prop where
  cf : tb.cf = G.cf
  xf : tb.xf = G.xf
  injM : ∀ c m g i, tb.mt c m = some g → G.nm i = G.nm m → i = m
  injF : ∀ c f i, f ∈ G.cf c → G.nm i = G.nm f → i = f
  fld : ∀ c f, f ∈ G.cf c → Cls G.K (G.ca c) ∧ NoAttr G.K (G.ca c) (G.nm f)
  mth : ∀ c m g, tb.mt c m = some g → Cls G.K (G.ca c) ∧ Meth G.K (G.ca c) (G.nm m) (G.fa g)
  mak : ∀ c k, kl c = some k → Mk G.K (G.ca c) (G.fa k.ini)

def FinC (G : Gx) (w : Wd) (o : Out D) (Q : VK) (E : XK) : Prop := match o with
  | .ok d S => ∀ (w' : Wd) (v : V), Ext w w' → Rel G w' → w'.S = S → w'.pv = w.pv → Rep G w' d v → Q v w'.H
  | .exn c xs S => ∀ (w' : Wd) (cls : Value) (dd : Option Addr), Ext w w' → Rel G w' → w'.S = S → w'.pv = w.pv → ErrR G w' cls dd c xs → E cls dd w'.H
  | .stuck => False
theorem FinC.of {G : Gx} {w : Wd} {σ : St} {o : Out D} {Q : VK} {W : WX} (h : Fin G (Rep G) w σ o Q W) : FinC G w o Q (WE W σ) := by
  cases o <;> exact h
/-- what a def promises -/
def spD (G : Gx) (np : Nat) (φ : List D → Store → Out D) : Sp := fun vs H Q E => vs.length = np ∧ ∃ (w : Wd) (ds : List D), w.H = H ∧ Rel G w ∧ Reps G w ds vs ∧ FinC G w (φ ds w.S) Q E
/-- as the kit's FnOk, where no guard is under way -/
structure FnG (P : Program) (w : World) (K : PySem.W.Frag) (mg : Str → Option Value) (base : Heap) (CX : CXT) (k : Nat) (f : Addr) (fd : FuncData) (ps : List Str) (sp : Sp) : Prop where
  len : ∀ vs H Q E, sp vs H Q E → vs.length = ps.length
  run : ∀ (A : Around) (outer : List Env) (s : Shared) (H : Hp) (args : Args) (us : List Value) (vs : List V) (Q : VK) (E : XK), A.guards = some [] → Room k A → Env0 P w K mg base A outer s H → BindsTo s fd args (ps.zip us) →
    Vals vs us → sp vs H Q E → codeAny (model P w) A (.call (.ref f) args) (CR CX outer P w H s Q E) s
structure Callee (G : Gx) (X : Cx) (k f : Nat) (φ : List D → Store → Out D) : Prop where
  ex : ∃ (np : Nat) (fd : FuncData) (ps : List Str), FnG X.prog X.w X.K X.mg X.base (L2.CX X.prog X.w) k (G.fa f) fd ps (spD G np φ) ∧ Binds X.K fd ps [] ∧ ∀ ds S, ds.length ≠ np → φ ds S = .stuck
  kp : PySem.W.keepIn X.K (.ref (G.fa f)) = true

section
variable {G : Gx} {X : Cx} {a o e : Expr} {es : List Expr} {ma mo : DenD} {m : Vars → Store → Out (List D)} {pos p apos : Pos} {tb : Tab} {kl : Nat → Option Kls}

theorem noX_attr (f : Nat) (d : D) (S : Store) : NoX (opAttr tb f d S) := by
  intro c xs S' h
  unfold opAttr at h
  split at h <;> cases h
theorem look_zip : ∀ {xf : List Nat} {vs : List V} {nm : Nat → Str} {i f : Nat} {v : V}, (∀ g, g ∈ xf → nm g = nm f → g = f) → xf.idxOf? f = some i → vs[i]? = some v → ((xf.map nm).zip vs).lookup (nm f) = some v
  | [], _, _, _, _, _, _, h, _ => by simp at h
  | g :: xf, vs, nm, i, f, v, hinj, h, hv => by
    cases vs with
    | nil => simp at hv
    | cons u vs =>
      by_cases hgf : g = f
      · subst hgf
        simp [List.idxOf?_cons] at h
        subst h
        simp at hv
        simp [hv]
      · have hne : nm g ≠ nm f := fun z => hgf (hinj g List.mem_cons_self z)
        have hb : (g == f) = false := by simpa using hgf
        rw [List.idxOf?_cons, hb] at h
        simp at h
        obtain ⟨j, hj, rfl⟩ := h
        have hb2 : (nm f == nm g) = false := by simpa using Ne.symm hne
        simp only [List.map_cons, List.zip_cons_cons, List.lookup, hb2]
        exact look_zip (fun g hg => hinj g (List.mem_cons_of_mem _ hg)) hj (by simpa using hv)
theorem mem_idx : ∀ {xf : List Nat} {f i : Nat}, xf.idxOf? f = some i → f ∈ xf
  | [], _, _, h => by simp at h
  | g :: xf, f, i, h => by
    by_cases hgf : g = f
    · rw [hgf]; exact List.mem_cons_self
    · have hb : (g == f) = false := by simpa using hgf
      rw [List.idxOf?_cons, hb] at h
      simp at h
      obtain ⟨j, hj, _⟩ := h
      exact List.mem_cons_of_mem _ (mem_idx hj)
theorem look_flds {w : Wd} {f : Nat} (hinj : ∀ i, G.nm i = G.nm f → i = f) : ∀ {fs : List (Nat × Dn.D)} {vfs : List (Str × V)} {d : Dn.D}, Flds G w fs vfs → fs.lookup f = some d → ∃ v, vfs.lookup (G.nm f) = some v ∧ Rep G w d v := by
  intro fs vfs d h
  induction h with
  | nil => intro h; cases h
  | @cons p q fs vfs hpq _ ih =>
    intro h
    obtain ⟨g, dg⟩ := p
    obtain ⟨x, v⟩ := q
    obtain ⟨hx, hr⟩ := hpq
    have hx' : x = G.nm g := hx
    by_cases hgf : f = g
    · subst hgf
      simp [List.lookup] at h
      subst h
      exact ⟨v, by simp [hx'], hr⟩
    · have hb : (f == g) = false := by simpa using hgf
      simp [List.lookup, hb] at h
      obtain ⟨u, hu, ru⟩ := ih h
      have hne : G.nm f ≠ G.nm g := fun z => hgf (hinj g z.symm).symm
      have hb2 : (G.nm f == x) = false := by rw [hx']; simpa using hne
      exact ⟨u, by simp [List.lookup, hb2, hu], ru⟩
theorem sim_attr {f : Nat} {fx : Str} (pf : Pf G tb kl) (hK : X.K = G.K) (hfx : fx = G.nm f) (ha : SimE G X a ma) (hb : attributeBase a fx X.env (eval a X.env) = eval a X.env) : SimE G X (.Attribute a fx pos) (fun Γ S => (ma Γ S).bind (opAttr tb f)) := fun W tk => by
  subst hfx
  refine PE.imp (pe_fld (ha W tk) hb) fun σ H Q ⟨Γ, w, hw, A, hf⟩ => ?_
  refine ⟨Γ, w, hw, A, hf.bind fun w1 d x e1 R1 p1 rx h1 => ?_⟩
  unfold opAttr at h1
  split at h1
  case h_2 => exact h1.elim
  rename_i r hr
  split at hr
  · rename_i c xs
    obtain ⟨a, dx, vs, rfl, hH, hn, hl, rs⟩ := (by simpa [Rep] using rx : ∃ a dx vs, x = .ref a ∧ w1.H a = some (.ins (G.ca c) dx (((G.cf c).map G.nm).zip vs)) ∧ ¬ Live w1 a ∧ vs.length = (G.cf c).length ∧ Reps G w1 xs vs)
    unfold fieldAt at hr
    rw [pf.cf] at hr
    cases hi : (G.cf c).idxOf? f with
    | none => rw [hi] at hr; cases hr
    | some i =>
      rw [hi] at hr
      obtain ⟨v, hv, rv⟩ := rs.get (i := i) (d := r) (by simpa using hr)
      obtain ⟨c1, c2⟩ := pf.fld c f (mem_idx hi)
      rw [hK]
      exact ⟨a, G.ca c, dx, _, v, rfl, hH, c1, c2, look_zip (fun g hg z => pf.injF c f g (mem_idx hi) z) hi hv, Fin.ok h1 R1 rv⟩
  · rename_i i
    split at hr
    · rename_i c fs hS
      split at hr
      · rename_i hc
        rw [pf.cf] at hc
        have hm : f ∈ G.cf c := by simpa using hc
        obtain ⟨a, rfl, ha⟩ := rep_ref.mp rx
        obtain ⟨b, hb, dx, vfs, hH, hfl⟩ := R1.at_ i _ hS
        rw [ha] at hb; cases hb
        obtain ⟨v, hv, rv⟩ := look_flds (fun i z => pf.injF c f i hm z) hfl hr
        obtain ⟨c1, c2⟩ := pf.fld c f hm
        rw [hK]
        exact ⟨a, G.ca c, dx, vfs, v, rfl, hH, c1, c2, hv, Fin.ok h1 R1 rv⟩
      · cases hr
    · cases hr
  · cases hr

theorem flds_put {w : Wd} {f : Nat} {d : Dn.D} {v : V} (hinj : ∀ i, G.nm i = G.nm f → i = f) (rv : Rep G w d v) : ∀ {fs : List (Nat × Dn.D)} {vfs : List (Str × V)}, Flds G w fs vfs → Flds G w (putFld f d fs) (putF (G.nm f) v vfs) := by
  intro fs vfs h
  induction h with
  | nil => exact .cons ⟨rfl, rv⟩ .nil
  | @cons p q fs vfs hpq hr ih =>
    obtain ⟨g, dg⟩ := p
    obtain ⟨x, u⟩ := q
    obtain ⟨hx, hru⟩ := hpq
    have hx' : x = G.nm g := hx
    by_cases hgf : g = f
    · subst hgf
      have e1 : putFld g d ((g, dg) :: fs) = (g, d) :: fs := by simp [putFld]
      have e2 : putF (G.nm g) v ((x, u) :: vfs) = (G.nm g, v) :: vfs := by rw [hx']; simp [putF]
      rw [e1, e2]
      exact .cons ⟨rfl, rv⟩ hr
    · have hne : G.nm g ≠ G.nm f := fun z => hgf (hinj g z)
      have e1 : putFld f d ((g, dg) :: fs) = (g, dg) :: putFld f d fs := by simp [putFld, hgf]
      have e2 : putF (G.nm f) v ((x, u) :: vfs) = (x, u) :: putF (G.nm f) v vfs := by rw [hx']; simp [putF, hne]
      rw [e1, e2]
      exact .cons ⟨hx, hru⟩ ih
theorem wr_ins {w : Wd} {h c f : Nat} {a : Addr} {fs : List (Nat × Dn.D)} {d : Dn.D} {v : V} {dx : Addr} {vfs : List (Str × V)} (R : Rel G w) (hinj : ∀ i, G.nm i = G.nm f → i = f) (hS : w.S[h]? = some (some (.ins c fs))) (ha : w.ρ[h]? = some a) (hH : w.H a = some (.ins (G.ca c) dx vfs)) (hfl : Flds G w fs vfs) (rv : Rep G w d v) :
    Ext w ⟨upd w.H a (.ins (G.ca c) dx (putF (G.nm f) v vfs)), w.S.set h (some (.ins c (putFld f d fs))), w.ρ, w.pv⟩ ∧ Rel G ⟨upd w.H a (.ins (G.ca c) dx (putF (G.nm f) v vfs)), w.S.set h (some (.ins c (putFld f d fs))), w.ρ, w.pv⟩ := by
  have e := Ext.write (o := .ins (G.ca c) dx (putF (G.nm f) v vfs)) (u := some (.ins c (putFld f d fs))) R hS ha
  exact ⟨e, R.write hS ha ⟨dx, _, upd_same, (flds_put hinj rv hfl).ext e.wk⟩⟩
theorem flds_len {w : Wd} {fs : List (Nat × Dn.D)} {vfs : List (Str × V)} (h : Flds G w fs vfs) : fs.length = vfs.length := Paired.length h
theorem simG_att {i f c : Nat} {x fx : Str} {q : Pos} (pf : Pf G tb kl) (hK : X.K = G.K) (hfx : fx = G.nm f) (hm : f ∈ G.cf c) (hN : X.N[i]? = some x) (hv : Vis X.env.scope x) (hd : (x == ("__debug__" : Str)) = false) (hcd : (x == ("__classdict__" : Str)) = false) : PG X (.Attribute (.Name x p) fx q) (gD G (.att i f c)) := by
  subst hfx
  refine ⟨fun pins s σ H v u Q I r h => ?_⟩
  obtain ⟨Γ, w, d, Γ', S', hw, A, rd, hs, hq⟩ := h
  subst hw
  simp only [setTg] at hs
  split at hs
  case h_2 => cases hs
  rename_i o hG
  split at hs
  case h_2 => cases hs
  rename_i S1 ho
  simp only [Option.some.injEq, Prod.mk.injEq] at hs
  obtain ⟨rfl, rfl⟩ := hs
  unfold opSetA at ho
  split at ho
  case h_2 => cases ho
  rename_i h
  split at ho
  case h_2 => cases ho
  rename_i c' fs hS
  split at ho
  case isFalse => cases ho
  rename_i hlc
  obtain ⟨hl, rfl⟩ := hlc
  cases ho
  obtain ⟨vo, hσ, ro⟩ := A.env i _ hG
  obtain ⟨a, rfl, ha⟩ := rep_ref.mp ro
  obtain ⟨b, hb, dx, vfs, hH, hfl⟩ := A.rel.at_ h _ hS
  rw [ha] at hb; cases hb
  obtain ⟨c1, c2⟩ := pf.fld c' f hm
  have wr := wr_ins (f := f) A.rel (fun i z => pf.injF c' f i hm z) hS ha hH hfl rd
  show wpAny _ _ (do
    let ov ← holding [u] (eval (.Name x p) X.env)
    standAt q.atName
    holding [u, ov] (setAttr ov (G.nm f) u)
    release [u, ov] []) _ _ _
  refine wpAny_bind (wpAny_holding (thn ((pe_var (pos := p) hN hv hd hcd).run pins s σ w.H (fun v H1 => v = .ref a ∧ H1 = w.H) I ⟨_, hσ, rfl, rfl⟩) fun ov s1 ⟨vv, H1, I1, r1, e1, e2⟩ => ?_))
  subst e1 e2
  cases r1
  refine wpAny_bind (wpAny_standAt (wpAny_bind (wpAny_holding ?_)))
  refine setattr_ok I1 hH (by rw [hK]; exact c1) (by rw [hK]; exact c2) (by rw [← flds_len hfl]; omega) r fun s2 I2 => ?_
  exact wpAny_release ⟨σ, _, I2, hq σ ⟨_, _, _, _⟩ wr.1 rfl rfl (A.ext wr.1 wr.2) fun _ _ => rfl⟩

theorem sp_of {k f : Nat} {φ : List Dn.D → Store → Out Dn.D} {np : Nat} {w : Wd} {ds : List Dn.D} {vs : List V} {σ : St} {Q : VK} {W : WX} (R : Rel G w) (rs : Reps G w ds vs) (har : ∀ ds S, ds.length ≠ np → φ ds S = .stuck) (h : Fin G (Rep G) w σ (φ ds w.S) Q W) : spD G np φ vs w.H Q (WE W σ) := by
  refine ⟨?_, w, ds, rfl, R, rs, FinC.of h⟩
  rw [← rs.length]
  by_cases hl : ds.length = np
  · exact hl
  · rw [har ds w.S hl] at h; exact h.elim
theorem run_fnG {k f : Nat} {fd : FuncData} {ps : List Str} {sp : Sp} {E : XK} {pins : List (Addr × Obj)} {σ : St} {H : Hp} {s : Shared} {Q : VK} {us : List Value} {vs : List V} (F : FnG X.prog X.w X.K X.mg X.base (L2.CX X.prog X.w) k f fd ps sp) (gd : X.A.guards = some []) (hr : Room k X.A) (hb : Binds X.K fd ps [])
    (hx : PassesAt (L2.CX X.prog X.w) X σ E) (I : L2.Inv X pins σ H s) (r : Vals vs us) (h : sp vs H Q E) : wpAny (model X.prog X.w) X.A (call (.ref f) us) (EP X pins σ Q) X.xe s := by
  have hl : (us ++ []).length = ps.length := by rw [List.append_nil, ← r.length]; exact F.len _ _ _ _ h
  have b := hb s us I.kIn hl
  rw [List.append_nil] at b
  refine wpAny_call (codeAny_mono (F.run X.A X.stack s H ⟨us, []⟩ us vs Q E gd hr I.env0 b r h) fun r s' hq => ?_)
  cases r with
  | error e => exact hx pins H s e s' I hq
  | ok fl => cases fl <;> first | exact I.after hq | exact False.elim hq
theorem sim_call {x : Str} {k f : Nat} {φ : List Dn.D → Store → Out Dn.D} (gd : X.A.guards = some []) (c : Callee G X k f φ) (hr : Room k X.A) (hg : Gl X x) (hm : X.mg x = some (.ref (G.fa f))) (ha : SimA G X (e :: es) m) (hdb : (x == ("__debug__" : Str)) = false) (ns : ∀ x ∈ e :: es, NS x) :
    SimE G X (.Call (.Name x p) (e :: es) [] pos) (fun Γ S => (m Γ S).bind φ) := fun W tk => by
  refine ⟨fun pins s σ H Q I h => ?_⟩
  obtain ⟨Γ, w, hw, A, hf⟩ := h
  obtain ⟨np, fd, ps, F, hb, har⟩ := c.ex
  refine wpAny_Call_Name_kw (ld_glob I hg hm ?_ hdb)
  refine PySem.W.callWith_K (h₀ := X.base) I.ok.mod.kin c.kp (thn ((ha W tk).run pos pins s σ H (fun vs H2 => spD G np φ vs H2 Q (WE W σ)) I ⟨Γ, w, hw, A, hf.bind fun w1 ds vs e1 R1 p1 rs h1 => sp_of (k := k) (f := f) R1 rs har h1⟩) fun us s2 ⟨vs, H2, I2, r, q⟩ => ⟨I2.kIn, ?_⟩)
    (ns e List.mem_cons_self _ _) (ns_any fun x hx => ns x (List.mem_cons_of_mem _ hx))
  exact run_fnG F gd hr hb (passAt tk σ) I2 r q
/-- .. that a local name holds -/
theorem sim_callv {x : Str} {i k : Nat} {φ : Nat → List Dn.D → Store → Out Dn.D} {has : Nat → Bool} (gd : X.A.guards = some []) (c : ∀ f, has f = true → Callee G X k f (φ f)) (hr : Room k X.A) (hN : X.N[i]? = some x) (hv : Vis X.env.scope x) (ha : SimA G X (e :: es) m) (hdb : (x == ("__debug__" : Str)) = false) (hcd : (x == ("__classdict__" : Str)) = false) (ns : ∀ x ∈ e :: es, NS x) :
    SimE G X (.Call (.Name x p) (e :: es) [] pos) (fun Γ S => match Γ[i]? with
      | some (some (.fn f)) => if has f then (m Γ S).bind fun ds S1 => φ f ds S1 else .stuck
      | _ => .stuck) := fun W tk => by
  refine ⟨fun pins s σ H Q I h => ?_⟩
  obtain ⟨Γ, w, hw, A, hf⟩ := h
  dsimp only at hf
  split at hf
  case h_2 => exact hf.elim
  rename_i f hG
  split at hf
  case isFalse => exact hf.elim
  rename_i hst
  obtain ⟨v, hσ, rv⟩ := A.env i _ hG
  have ev : v = .ref (G.fa f) := by simpa [Rep] using rv
  subst ev
  refine wpAny_Call_Name_kw (thn ((pe_var (pos := p) hN hv hdb hcd).run pins s σ H (fun v H1 => v = .ref (G.fa f) ∧ H1 = H) I ⟨_, hσ, rfl, rfl⟩) fun u s1 ⟨v, H1, I1, r1, e1, e2⟩ => ?_)
  subst e1 e2
  cases r1
  obtain ⟨np, fd, ps, F, hb, har⟩ := (c f hst).ex
  refine PySem.W.callWith_K (h₀ := X.base) I.ok.mod.kin (c f hst).kp (thn ((ha W tk).run pos pins s1 σ H1 (fun vs H2 => spD G np (φ f) vs H2 Q (WE W σ)) I1 ⟨Γ, w, hw, A, hf.bind fun w1 ds vs e1 R1 p1 rs h1 => sp_of (k := k) (f := f) R1 rs har h1⟩) fun us s2 ⟨vs, H2, I2, r, q⟩ => ⟨I2.kIn, ?_⟩)
    (ns e List.mem_cons_self _ _) (ns_any fun x hx => ns x (List.mem_cons_of_mem _ hx))
  exact run_fnG F gd hr hb (passAt tk σ) I2 r q

theorem meth_at {w : Wd} {x : Dn.D} {v : V} {mm g : Nat} (pf : Pf G tb kl) (R : Rel G w) (r : Rep G w x v) (h : opMeth tb x mm w.S = some g) :
    ∃ a C dx fs, v = .ref a ∧ w.H a = some (.ins C dx fs) ∧ Cls G.K C ∧ Meth G.K C (G.nm mm) (G.fa g) ∧ fs.lookup (G.nm mm) = none := by
  have no : ∀ {l : List (Str × V)}, (∀ p ∈ l, p.1 ≠ G.nm mm) → l.lookup (G.nm mm) = none := by
    intro l
    induction l with
    | nil => intro _; rfl
    | cons p l ih =>
      intro hl
      obtain ⟨y, u⟩ := p
      have hne := hl (y, u) List.mem_cons_self
      have hb : (G.nm mm == y) = false := by simpa using Ne.symm hne
      simp [List.lookup, hb, ih fun p hp => hl p (List.mem_cons_of_mem _ hp)]
  unfold opMeth at h
  split at h
  · rename_i c xs
    split at h
    · cases h
    · rename_i hc
      obtain ⟨a, dx, vs, rfl, hH, hn, hl, rs⟩ := (by simpa [Rep] using r : ∃ a dx vs, v = .ref a ∧ w.H a = some (.ins (G.ca c) dx (((G.cf c).map G.nm).zip vs)) ∧ ¬ Live w a ∧ vs.length = (G.cf c).length ∧ Reps G w xs vs)
      obtain ⟨c1, c2⟩ := pf.mth c mm g h
      refine ⟨a, G.ca c, dx, _, rfl, hH, c1, c2, no fun p hp => ?_⟩
      have := (List.of_mem_zip (show (p.1, p.2) ∈ _ from hp)).1
      obtain ⟨i, hi, e⟩ := List.mem_map.mp this
      intro z
      have := pf.injM c mm g i h (e.trans z)
      rw [this, ← pf.cf] at hi
      exact hc (by simpa using hi)
  · rename_i i
    split at h
    · rename_i c fs hS
      split at h
      · cases h
      · rename_i hc
        obtain ⟨a, rfl, ha⟩ := rep_ref.mp r
        obtain ⟨b, hb, dx, vfs, hH, hfl⟩ := R.at_ i _ hS
        rw [ha] at hb; cases hb
        obtain ⟨c1, c2⟩ := pf.mth c mm g h
        refine ⟨a, G.ca c, dx, vfs, rfl, hH, c1, c2, no fun p hp z => ?_⟩
        have key : ∀ {fs : List (Nat × Dn.D)} {vfs : List (Str × V)}, Flds G w fs vfs → p ∈ vfs → ∃ q ∈ fs, p.1 = G.nm q.1 := by
          intro fs vfs hf
          induction hf with
          | nil => intro hp; cases hp
          | @cons q r fs vfs hq _ ih =>
            intro hp
            rcases List.mem_cons.mp hp with e | e
            · exact ⟨q, List.mem_cons_self, by rw [e]; exact hq.1⟩
            · obtain ⟨q', h1, h2⟩ := ih e
              exact ⟨q', List.mem_cons_of_mem _ h1, h2⟩
        obtain ⟨q, hq, e⟩ := key hfl hp
        have := pf.injM c mm g q.1 h (e.symm.trans z)
        exact hc (List.any_eq_true.mpr ⟨q, hq, by simp [this]⟩)
    · cases h
  · cases h
def methM (tb : Tab) (φ : Nat → List Dn.D → Store → Out Dn.D) (mo : DenD) (mm : Nat) (m : Vars → Store → Out (List Dn.D)) : DenD := fun Γ S => (mo Γ S).bind fun x S1 => match opMeth tb x mm S1 with
      | some f => (m Γ S1).bind fun ds S2 => φ f (x :: ds) S2
      | none => .stuck
theorem sim_meth {mx : Str} {k mm : Nat} {φ : Nat → List Dn.D → Store → Out Dn.D} (gd : X.A.guards = some []) (pf : Pf G tb kl) (hK : X.K = G.K) (hmx : mx = G.nm mm) (c : ∀ c' g, tb.mt c' mm = some g → Callee G X k g (φ g)) (hr : Room k X.A) (ho : SimE G X o mo) (ha : SimA G X es m)
    (hbase : attributeBase o mx X.env (eval o X.env) = eval o X.env) (hl : (apos.endLine == pos.line) = true) (hn : es.length < 29) (ns : ∀ x ∈ es, NS x) (h0 : es = [] → m = fun _ S => .ok [] S) :
    SimE G X (.Call (.Attribute o mx apos) es [] pos) (methM tb φ mo mm m) := fun W tk => by
  subst hmx
  refine ⟨fun pins s σ H Q I h => ?_⟩
  obtain ⟨Γ, w, hw, A, hf⟩ := h
  have ht := ev_meth (o := o) (name := G.nm mm) (apos := apos) (pos := pos) (env := X.env) ns hl hn
  rw [hbase] at ht
  refine PySem.W.methodCall_KW (pl := plainOf o X.env) (thn ((ho W tk).run pins s σ H (fun v H1 => ∃ w1 x g, w1.H = H1 ∧ At G σ Γ w1 ∧ Rep G w1 x v ∧ opMeth tb x mm w1.S = some g ∧ Fin G (Rep G) w1 σ ((m Γ w1.S).bind fun ds S2 => φ g (x :: ds) S2) Q W) I
    ⟨Γ, w, hw, A, hf.bind fun w1 x v e1 R1 p1 rx h1 => ?_⟩) fun u s1 ⟨v, H1, I1, r1, w1, x, g, hw1, A1, rx, hg, h1⟩ => ?_) ht
  · split at h1
    · rename_i g hg
      exact ⟨w1, x, g, rfl, A.ext e1 R1, rx, hg, h1⟩
    · exact h1.elim
  · subst hw1
    obtain ⟨a, C, dx, fs, rfl, hH, c1, c2, hl0⟩ := meth_at pf A1.rel rx hg
    obtain rfl : u = Value.ref a := r1
    refine getmeth_ok I1 hH (by rw [hK]; exact c1) (by rw [hK]; exact c2) hl0 ?_
    have cal : ∃ c', tb.mt c' mm = some g := by
      unfold opMeth at hg
      split at hg
      · split at hg
        · cases hg
        · exact ⟨_, hg⟩
      · split at hg
        · split at hg
          · cases hg
          · exact ⟨_, hg⟩
        · cases hg
      · cases hg
    obtain ⟨c', hc'⟩ := cal
    obtain ⟨np, fd, ps, F, hb, har⟩ := (c c' g hc').ex
    have run : ∀ us s2 vs H2, L2.Inv X pins σ H2 s2 → Vals vs us → spD G np (φ g) (.ref a :: vs) H2 Q (WE W σ) → wpAny (model X.prog X.w) X.A (call (.ref (G.fa g)) (.ref a :: us)) (EP X pins σ Q) X.xe s2 := fun us s2 vs H2 I2 r q =>
      run_fnG F gd hr hb (passAt tk σ) I2 (vs := .ref a :: vs) (.cons rfl r) q
    have hargs := (ha W tk).run pos pins s1 σ w1.H (fun vs H2 => spD G np (φ g) (.ref a :: vs) H2 Q (WE W σ)) I1 ⟨Γ, w1, rfl, A1, h1.bind fun w2 ds vs e2 R2 p2 rs h2 => sp_of (k := k) (f := g) (ds := x :: ds) R2 (Reps.mk (Rep.ext e2.wk _ _ rx) rs) har h2⟩
    cases es with
    | nil =>
      refine PySem.W.callWith_K0 (first := [.ref a]) I1.kIn (by rw [hK]; exact c2.kp) ?_
      rw [h0 rfl] at h1
      exact run [] s1 [] w1.H I1 .nil (sp_of (k := k) (f := g) (ds := [x]) A1.rel (Reps.one rx) har h1)
    | cons e es =>
      refine PySem.W.callWith_K (first := [.ref a]) (h₀ := X.base) I1.ok.mod.kin (by rw [hK]; exact c2.kp) (thn hargs fun us s2 ⟨vs, H2, I2, r, q⟩ => ⟨I2.kIn, ?_⟩) (ns e List.mem_cons_self _ _) (ns_any fun x hx => ns x (List.mem_cons_of_mem _ hx))
      exact run us s2 vs H2 I2 r q

theorem run_makeS {C f : Addr} {k : Nat} {fd : FuncData} {ps : List Str} {sp : Sp} {E : XK} {pins : List (Addr × Obj)} {σ : St} {H : Hp} {s : Shared} {Q : VK} {us : List Value} {vs : List V} (gd : X.A.guards = some []) (M : Mk X.K C f) (F : FnG X.prog X.w X.K X.mg X.base (L2.CX X.prog X.w) k f fd ps sp) (hr : Room (k + 1) X.A) (hb : Binds X.K fd ps [])
    (hx : PassesAt (L2.CX X.prog X.w) X σ E) (I : L2.Inv X pins σ H s) (r : Vals vs us)
    (h : ∀ x dx, H x = none → H dx = none → dx ≠ x → sp (.ref x :: vs) (upd (upd H dx (.own x)) x (.ins C dx [])) (fun v H2 => v = .non ∧ Q (.ref x) H2) E) :
    wpAny (model X.prog X.w) X.A (call (.ref C) us) (EP X pins σ Q) X.xe s := by
  have hq := h (s.heap.objs.size + 1) s.heap.objs.size (I.hok.fresh (Nat.le_succ _)) (I.hok.fresh (Nat.le_refl _)) (Nat.ne_of_lt (Nat.lt_succ_self _))
  have I2 := L2.Inv.made (C := C) I
  have r2 : Vals (V.ref (s.heap.objs.size + 1) :: vs) (Value.ref (s.heap.objs.size + 1) :: us) := .cons rfl r
  have hl : (Value.ref (s.heap.objs.size + 1) :: us).length = ps.length := by
    have e := r2.length
    rw [F.len _ _ _ _ hq] at e
    exact e.symm
  have b := hb _ (Value.ref (s.heap.objs.size + 1) :: us) I2.kIn (by rw [List.append_nil]; exact hl)
  rw [List.append_nil] at b
  refine wpAny_call (make_map (f := f) I.kIn M.makes M.init (beq_iff_eq.mp M.fn) (codeAny_mono (F.run _ X.stack _ _ ⟨Value.ref (s.heap.objs.size + 1) :: us, []⟩ (Value.ref (s.heap.objs.size + 1) :: us) _ _ E gd (hr.make C us [])
    (I2.env0.make C us []) b r2 hq) fun r s' hq' => ?_))
  cases r with
  | error e => exact hx pins _ _ e s' I2 hq'
  | ok fl =>
    cases fl with
    | ret u =>
      obtain ⟨v, H', I3, rv, ev, q3⟩ := I2.after hq'
      subst ev
      exact ⟨rv, ⟨V.ref (s.heap.objs.size + 1), H', I3, rfl, q3⟩⟩
    | next => exact False.elim hq'
    | brk => exact False.elim hq'
    | cont => exact False.elim hq'
theorem sim_mk {x : Str} {k c : Nat} (hkl : (kl c).isSome = true) {φ : Nat → List Dn.D → Store → Out Dn.D} (gd : X.A.guards = some []) (pf : Pf G tb kl) (hK : X.K = G.K) (cal : ∀ kk, kl c = some kk → Callee G X k kk.ini (φ kk.ini)) (hr : Room (k + 1) X.A) (hg : Gl X x) (hm : X.mg x = some (.ref (G.ca c))) (ha : SimA G X (e :: es) m) (hdb : (x == ("__debug__" : Str)) = false)
    (ns : ∀ x ∈ e :: es, NS x) : SimE G X (.Call (.Name x p) (e :: es) [] pos) (fun Γ S => (m Γ S).bind (mkD tb kl φ c)) := fun W tk => by
  refine ⟨fun pins s σ H Q I h => ?_⟩
  obtain ⟨Γ, w, hw, A, hf⟩ := h
  refine wpAny_Call_Name_kw (ld_glob I hg hm ?_ hdb)
  have hkp : PySem.W.keepIn X.K (.ref (G.ca c)) = true := by
    cases hk : kl c with
    | none => rw [hk] at hkl; cases hkl
    | some kk => rw [hK]; exact (pf.mak c kk hk).kp
  refine PySem.W.callWith_K (h₀ := X.base) I.ok.mod.kin hkp (thn ((ha W tk).run pos pins s σ H (fun vs H1 => ∃ w1 ds, w1.H = H1 ∧ At G σ Γ w1 ∧ Reps G w1 ds vs ∧ Fin G (Rep G) w1 σ (mkD tb kl φ c ds w1.S) Q W) I ⟨Γ, w, hw, A, hf.bind fun w1 ds vs e1 R1 p1 rs h1 => ⟨w1, ds, rfl, A.ext e1 R1, rs, h1⟩⟩)
    fun us s1 ⟨vs, H1, I1, r, w1, ds, hw1, A1, rs, h1⟩ => ⟨I1.kIn, ?_⟩) (ns e List.mem_cons_self _ _) (ns_any fun x hx => ns x (List.mem_cons_of_mem _ hx))
  subst hw1
  unfold mkD at h1
  split at h1
  case h_2 => exact h1.elim
  rename_i kk hk
  obtain ⟨np, fd, ps, F, hb, har⟩ := (cal kk hk).ex
  have M := pf.mak c kk hk
  show wpAny _ _ (call (.ref (G.ca c)) us) _ _ _
  refine run_makeS (E := WE W σ) gd (by rw [hK]; exact M) F hr hb (passAt tk σ) I1 r fun a dx hxa hdx hne => ?_
  have R1 := A1.rel
  -- the new instance
  have e1 := Ext.laid (o := .own a) R1 hdx
  have R2 := R1.laid (o := .own a) hdx
  have ha2 : upd w1.H dx (.own a) a = none := by rw [upd_ne (Ne.symm hne)]; exact hxa
  have e2 : Ext _ ⟨upd (upd w1.H dx (.own a)) a (.ins (G.ca c) dx []), w1.S ++ [some (.ins c [])], w1.ρ ++ [a], w1.pv⟩ := Ext.handle (o := .ins (G.ca c) dx []) (u := some (.ins c [])) R2 ha2
  have R3 : Rel G ⟨upd (upd w1.H dx (.own a)) a (.ins (G.ca c) dx []), w1.S ++ [some (.ins c [])], w1.ρ ++ [a], w1.pv⟩ := R2.handle (o := .ins (G.ca c) dx []) (u := .ins c []) ha2 ⟨dx, [], upd_same, .nil⟩
  have e12 := e1.trans e2
  have rself : Rep G ⟨upd (upd w1.H dx (.own a)) a (.ins (G.ca c) dx []), w1.S ++ [some (.ins c [])], w1.ρ ++ [a], w1.pv⟩ (.ref w1.S.length) (.ref a) := rep_ref.mpr ⟨a, rfl, by show (w1.ρ ++ [a])[w1.S.length]? = some a; rw [← R1.len]; simp⟩
  have h2 : Fin G (Rep G) ⟨upd (upd w1.H dx (.own a)) a (.ins (G.ca c) dx []), w1.S ++ [some (.ins c [])], w1.ρ ++ [a], w1.pv⟩ σ ((φ kk.ini (.ref w1.S.length :: ds) (w1.S ++ [some (.ins c [])])).bind fun d S1 => match d with
    | .non => if kk.frz then frzI tb c w1.S.length S1 else .ok (.ref w1.S.length) S1
    | _ => .stuck) Q W := Fin.base e12 rfl h1
  have h3 : Fin G (Rep G) ⟨upd (upd w1.H dx (.own a)) a (.ins (G.ca c) dx []), w1.S ++ [some (.ins c [])], w1.ρ ++ [a], w1.pv⟩ σ (φ kk.ini (.ref w1.S.length :: ds) (w1.S ++ [some (.ins c [])])) (fun v H2 => v = .non ∧ Q (.ref a) H2) W := by
    refine h2.bind fun w4 d v e4 R4 p4 rv h4 => ?_
    have ra := Rep.ext e4.wk _ _ rself
    split at h4
    · refine ⟨by simpa [Rep] using rv, ?_⟩
      split at h4
      · unfold frzI at h4
        split at h4
        · rename_i c' fs hS
          split at h4
          · rename_i hcc
            obtain ⟨rfl, hfs⟩ := hcc
            obtain ⟨b, hb', hρ⟩ := rep_ref.mp ra
            cases hb'
            obtain ⟨b2, hb2, dx2, vfs, hH, hfl⟩ := R4.at_ _ _ hS
            rw [hρ] at hb2; cases hb2
            have e5 := Ext.give (w := w4) w1.S.length
            refine h4 ⟨w4.H, w4.S.set w1.S.length none, w4.ρ, w4.pv⟩ (.ref a) e5 (R4.give _) rfl rfl ?_
            have nl := R4.given hρ
            -- its fields
            have key : ∀ {fs : List (Nat × Dn.D)} {vfs : List (Str × V)}, Flds G w4 fs vfs → vfs = (fs.map fun p => G.nm p.1).zip (vfs.map (·.2)) ∧ Reps G w4 (fs.map (·.2)) (vfs.map (·.2)) := by
              intro fs vfs hf
              induction hf with
              | nil => exact ⟨rfl, Reps.nil⟩
              | @cons p q fs vfs hpq _ ih =>
                refine ⟨?_, Reps.mk hpq.2 ih.2⟩
                obtain ⟨x, u⟩ := q
                have hx : x = G.nm p.1 := hpq.1
                simp only [List.map_cons, List.zip_cons_cons, ← ih.1, hx]
            obtain ⟨k1, k2⟩ := key hfl
            have hl := flds_len hfl
            rw [pf.cf] at hfs
            simp only [Rep]
            refine ⟨a, dx2, vfs.map (·.2), rfl, ?_, nl, ?_, Reps.ext e5.wk _ _ k2⟩
            · show w4.H a = _
              rw [hH]
              have : (G.cf c').map G.nm = fs.map fun p => G.nm p.1 := by rw [← hfs]; simp
              rw [this, ← k1]
            · rw [← hfs]; simp [hl]
          · exact h4.elim
        · exact h4.elim
      · exact Fin.ok h4 R4 ra
    · exact h4.elim
  have := sp_of (k := k) (f := kk.ini) (np := np) (φ := φ kk.ini) (ds := .ref w1.S.length :: ds) (vs := .ref a :: vs) (w := ⟨upd (upd w1.H dx (.own a)) a (.ins (G.ca c) dx []), w1.S ++ [some (.ins c [])], w1.ρ ++ [a], w1.pv⟩) R3 (Reps.mk rself (Reps.ext e12.wk _ _ rs)) har h3
  exact this
end
end Dn

set_option maxHeartbeats 4000000
namespace Dn
open PySem PySem.Spec PyProof.Rows L2

def DT.v (G : Gx) : DT → Value
  | .non => .type "NoneType"
  | .bl => .type "bool"
  | .int => .type "int"
  | .str => .type "str"
  | .tup => .type "tuple"
  | .lst => .type "list"
  | .ins c => .ref (G.ca c)
def Ty.nm : Ty → String
  | .int => "int"
  | .bool => "bool"
  | .str => "str"
  | .list => "list"
  | .tuple => "tuple"
  | .cls _ => ""
def Ty.v (G : Gx) : Ty → Value
  | .cls c => .ref (G.ca c)
  | t => .type t.nm
def Ty.w (G : Gx) : Ty → V
  | .cls c => .ref (G.ca c)
  | t => .ty t.nm
def DT.good (ic : Nat → Bool) : DT → Bool
  | .ins c => ic c
  | _ => true
def Ty.good (ic : Nat → Bool) : Ty → Bool
  | .cls c => ic c
  | _ => true
/-- the facts -/
structure Pk (G : Gx) (ic : Nat → Bool) : Prop where
  ins : ∀ c, ic c = true → ∀ (H : Hp) (a dx : Addr) (fs : List (Str × V)), H a = some (.ins (G.ca c) dx fs) → TyOf G.K H (.ref a) (.ref (G.ca c))
  kit : ∀ (k : DT) (t : Ty), k.good ic = true → t.good ic = true → PySem.W.kitOne G.K (k.v G) (t.v G) = some (t.ofD k)
section
variable {G : Gx} {X : Cx} {a b : Expr} {ma : DenD} {pos p : Pos} {ic : Nat → Bool}
theorem ty_clsV (t : Ty) : ClsV (t.w G) (t.v G) := by
  cases t <;> first | exact .ty _ | exact .own _
theorem ty_data {w : Wd} {d : Dn.D} {v : V} {k : DT} (pk : Pk G ic) (R : Rel G w) (r : Rep G w d v) (h : dtOf ic d w.S = some k) : k.good ic = true ∧ TyX G.K w.H v (k.v G) := by
  unfold dtOf at h
  cases d with
  | non => cases h; rw [rep_non.mp r]; exact ⟨rfl, .base .non⟩
  | bl x => cases h; rw [rep_bl.mp r]; exact ⟨rfl, .base (.bl _)⟩
  | int x => cases h; rw [rep_int.mp r]; exact ⟨rfl, .base (.int _)⟩
  | str x => cases h; rw [rep_str.mp r]; exact ⟨rfl, .base (.str _)⟩
  | tup xs =>
    cases h
    obtain ⟨a, vs, rfl, f, q⟩ := rep_tup.mp r
    rcases f with ⟨h | ⟨o, h⟩, _⟩ | ⟨o, its, n, h1, h2, _⟩
    · exact ⟨rfl, .base (.tup h)⟩
    · exact ⟨rfl, .fTuple h⟩
    · exact ⟨rfl, .kTuple h1 h2⟩
  | lst xs =>
    cases h
    obtain ⟨a, vs, rfl, f, q⟩ := rep_lst.mp r
    rcases f with ⟨h | ⟨o, h⟩, _⟩ | ⟨o, its, n, h1, h2, _⟩
    · exact ⟨rfl, .base (.lst h)⟩
    · exact ⟨rfl, .base (.frz h)⟩
    · exact ⟨rfl, .kList h1 h2⟩
  | obj c xs =>
    dsimp only at h
    split at h
    · rename_i hc
      cases h
      obtain ⟨a, dx, vs, rfl, hH, _⟩ := (by simpa [Rep] using r : ∃ a dx vs, v = .ref a ∧ w.H a = some (.ins (G.ca c) dx (((G.cf c).map G.nm).zip vs)) ∧ ¬ Live w a ∧ vs.length = (G.cf c).length ∧ Reps G w xs vs)
      exact ⟨hc, .base (pk.ins c hc _ _ _ _ hH)⟩
    · cases h
  | ref i =>
    dsimp only at h
    obtain ⟨a, rfl, ha⟩ := rep_ref.mp r
    split at h
    · rename_i ys hS
      cases h
      obtain ⟨b, hb, us, h1, h2⟩ := R.at_ i _ hS
      rw [ha] at hb; cases hb
      exact ⟨rfl, .base (.lst h1)⟩
    · rename_i c fs hS
      split at h
      · rename_i hc
        cases h
        obtain ⟨b, hb, dx, vfs, h1, h2⟩ := R.at_ i _ hS
        rw [ha] at hb; cases hb
        exact ⟨hc, .base (pk.ins c hc _ _ _ _ h1)⟩
      · cases h
    · cases h
  | fn f => cases h
/-- an expression that names a class -/
def PCls (X : Cx) (e : Expr) (v : V) : Prop := PE X e (tC v)
theorem noX_isi (ts : List Ty) (d : Dn.D) (S : Store) : NoX (opIsi ic ts d S) := by
  intro c xs S' h
  unfold opIsi at h
  split at h <;> cases h
theorem sim_isi1 {t : Ty} (pk : Pk G ic) (hK : X.K = G.K) (ht : t.good ic = true) (hg : Gl X "isinstance") (hm : X.mg "isinstance" = none) (ha : SimE G X a ma) (hb : PE X b (tC (t.w G))) (na : NS a) (nb : NS b) :
    SimE G X (.Call (.Name "isinstance" p) [a, b] [] pos) (fun Γ S => (ma Γ S).bind (opIsi ic [t])) := fun W tk => by
  refine PE.imp (pe_callB call_isi hg hm PyProof.Rows.boot_isinstance (pa_cons (ha W tk) (pa_cons hb pa_nil (nb _ _)) (na _ _)) (by decide) (by decide) (na _ _) (by rw [nb]; rfl)) fun σ H Q ⟨Γ, w, hw, A, hf⟩ => ?_
  refine ⟨Γ, w, hw, A, hf.bind fun w1 d x e1 R1 p1 rx h1 => ?_⟩
  unfold opIsi at h1
  split at h1
  · rename_i k hk
    obtain ⟨g1, g2⟩ := ty_data pk R1 rx hk
    refine ⟨x, t.w G, k.v G, t.v G, t.ofD k, rfl, ty_clsV t, by rw [hK]; exact g2, by rw [hK]; exact pk.kit k t g1 ht, ?_⟩
    refine Fin.ok h1 R1 ?_
    simp [Rep]
  · exact h1.elim
theorem kit_all {k : DT} (pk : Pk G ic) (hk : k.good ic = true) : ∀ {ts : List Ty}, (∀ t ∈ ts, t.good ic = true) → PySem.W.kitAny G.K (k.v G) (ts.map (Ty.v G)) = some (ts.any fun t => t.ofD k)
  | [], _ => rfl
  | t :: ts, h => by
    have h1 := pk.kit k t hk (h t List.mem_cons_self)
    have ih := kit_all pk hk (ts := ts) fun x hx => h x (List.mem_cons_of_mem _ hx)
    show PySem.W.kitAny G.K (k.v G) (t.v G :: ts.map (Ty.v G)) = _
    cases hb : t.ofD k with
    | true =>
      rw [hb] at h1
      simp [PySem.W.kitAny, h1, hb]
    | false =>
      rw [hb] at h1
      simp [PySem.W.kitAny, h1, hb, ih]
theorem cls_all : ∀ (ts : List Ty), Paired ClsV (ts.map (Ty.w G)) (ts.map (Ty.v G))
  | [] => .nil
  | t :: ts => .cons (ty_clsV t) (cls_all ts)
def tTys (G : Gx) (ts : List Ty) : TA := fun _ H Q => Q (ts.map (Ty.w G)) H
theorem sim_isiT {bs : List Expr} {kk : Nat} {q : Pos} {ts : List Ty} (pk : Pk G ic) (hK : X.K = G.K) (ht : ∀ t ∈ ts, t.good ic = true) (hg : Gl X "isinstance") (hm : X.mg "isinstance" = none) (ha : SimE G X a ma) (hb : PA X bs (tTys G ts)) (hl : ts.length ≤ lineD) (na : NS a) :
    SimE G X (.Call (.Name "isinstance" p) [a, .Tuple bs kk q] [] pos) (fun Γ S => (ma Γ S).bind (opIsi ic ts)) := fun W tk => by
  have nb : NS (.Tuple bs kk q) := fun _ _ => rfl
  refine PE.imp (pe_callB call_isiT hg hm PyProof.Rows.boot_isinstance (pa_cons (ha W tk) (pa_cons (pe_tup hb) pa_nil (nb _ _)) (na _ _)) (by decide) (by decide) (na _ _) (by rw [nb]; rfl)) fun σ H Q ⟨Γ, w, hw, A, hf⟩ => ?_
  refine ⟨Γ, w, hw, A, hf.bind fun w1 d x e1 R1 p1 rx h1 => ?_⟩
  unfold opIsi at h1
  split at h1
  · rename_i k hk
    obtain ⟨g1, g2⟩ := ty_data pk R1 rx hk
    refine ⟨by rw [List.length_map, ← line_eq]; exact hl, fun tp htp => ?_⟩
    have e2 := Ext.laid (o := .tup (ts.map (Ty.w G))) R1 htp
    have R2 := R1.laid (o := .tup (ts.map (Ty.w G))) htp
    obtain ⟨_, g3⟩ := ty_data pk R2 (Rep.ext e2.wk _ _ rx) hk
    refine ⟨x, tp, ts.map (Ty.w G), k.v G, ts.map (Ty.v G), ts.any fun t => t.ofD k, rfl, upd_same, cls_all ts, by rw [hK]; exact g3, by rw [hK]; exact kit_all pk g1 ht, ?_⟩
    exact h1 ⟨_, w1.S, w1.ρ, w1.pv⟩ _ e2 R2 rfl rfl (by simp [Rep])
  · exact h1.elim
end
end Dn

set_option maxHeartbeats 4000000
namespace DnX
open PySem PySem.W PySem.Calls
section
variable {M : Model} {A : Around} {E : Value → Shared → Prop} {h : Heap} {g : Array GenState} {d : Drawn} {t : Nat} {os : OsState}
variable {nm q : Str} {C N : Addr} {bs bm bmB : List Value} {hdct : Bool} {sn : List Str} {sub : List Value} {ab : Bool} {col : Option Bool} {dd : Option Addr} {k0 k1 k2 k3 k5 : Option Value} {B newId initId : String}
variable (F : ExcBaseFacts B newId initId bmB) (hT : ∀ X : String, bm.contains (.type X) = bmB.contains (.type X))
include F hT
theorem tail_has {X : String} {b : Bool} (e : bmB.contains (.type X) = b) : (Value.ref C :: bm).contains (.type X) = b := by
  rw [List.contains_cons, hT, e]; cases b <;> rfl
/-- the check ahead of B.__new__, keywords too -/
theorem xk_check {us : List Value} {kw : List (Str × Value)} {Q : Unit → Shared → Prop} (hC : h.get? C = some (excClassObj nm q C N bs bm hdct sn sub ab col dd k0 k1 k2 k3 k5 newId)) (hq : Q () ⟨h, g, d, t, os⟩) :
    wpAny M A (checkBuiltinCall newId ⟨.ref C :: us, kw⟩) Q E ⟨h, g, d, t, os⟩ := by
  have c1 := tail_has (C := C) F hT F.hasB
  have c2 := F.noStar
  simp only [checkBuiltinCall, F.newKind, F.newSplit, F.newRow]
  repeat (first
    | refine wpAny_loadPart_at hC ?_
    | (refine wpAny_isSubtype_exc hC ?_; rw [c1])
    | refine wpAny_staticBase_exc hC ?_
    | refine wpAny_madeBy_exc hC ?_
    | simp only [bne_self_eq_false, Bool.false_eq_true, if_false]
    | wp_step)
  exact hq
end
section
variable {prog : Program} {w : World} {A : Around} {E : Value → Shared → Prop} {R : Result → Shared → Prop} {h : Heap} {g : Array GenState} {d : Drawn} {t : Nat} {os : OsState}
variable {nm q : Str} {C N : Addr} {bs bm bmB : List Value} {hdct : Bool} {sn : List Str} {sub : List Value} {ab : Bool} {col : Option Bool} {dd : Option Addr} {k0 k1 k2 k3 k5 : Option Value} {B newId initId : String}
variable (F : ExcBaseFacts B newId initId bmB) (hT : ∀ X : String, bm.contains (.type X) = bmB.contains (.type X))
include F hT
/-- B.__new__(C, .., k = v): the keywords are not looked at -/
theorem xk_new {us : List Value} {kw : List (Str × Value)} (hC : h.get? C = some (excClassObj nm q C N bs bm hdct sn sub ab col dd k0 k1 k2 k3 k5 newId))
    (hq : R (.ok (.ret (.ref (h.objs.size + 1)))) ⟨(h.push (kdv_tup us)).push (PySem.HandSPX.excO C h.objs.size), g, d, t, os⟩) (hu : us.length ≤ sizeLine) :
    codeAny (model prog w) A (.builtin newId ⟨.ref C :: us, kw⟩) R ⟨h, g, d, t, os⟩ := by
  have f0 := F.ends
  have c1 := tail_has (C := C) F hT F.hasB
  have c2 := tail_has (C := C) F hT F.noAttr
  have c3 := tail_has (C := C) F hT F.noName
  refine codeAny_builtinAt F.entry ?_
  unfold Builtin.«BaseException.__new__»
  refine wpAt_bind ?_
  show wpAt _ _ _ (stack >>= _) _ _ _
  refine wpAt_bind (wpAt_stack fun p below => wpAt_of_wpAny ?_)
  wp_walk
  refine wpAt_of_wpAny ?_
  rw [F.owner]
  repeat (first
    | with_reducible refine wpAny_madeHere_exc F.canon hC ?_
    | with_reducible refine wpAny_loadPart_at hC ?_
    | (with_reducible refine wpAny_isSubtype_exc hC ?_; first | rw [c1] | rw [c2] | rw [c3])
    | wp_step)
  show R _ _
  rw [Heap.size_push]
  exact hq
theorem xk_type {us : List Value} {kw : List (Str × Value)} {fI : Addr} {Q : Fin → Shared → Prop} (hC : h.get? C = some (excClassObj nm q C N bs bm hdct sn sub ab col dd k0 k1 k2 k3 k5 newId))
    (hi : Looks (model prog w) h (typeLookup (.ref C) "__init__") (some (.ref fI))) (hb : ∀ x, Looks (model prog w) h (bindSpecial (.ref fI) x) (.ref fI, [x])) (hu : us.length ≤ sizeLine)
    (hq : codeAny (model prog w) A (.call (.ref fI) ⟨.ref (h.objs.size + 1) :: us, kw⟩)
      (fun r s' => match r with | .ok (.ret v) => v = .none ∧ Q (.done (.ret (.ref (h.objs.size + 1)))) s' | .ok _ => False | .error e => E e s')
      ⟨(h.push (kdv_tup us)).push (PySem.HandSPX.excO C h.objs.size), g, d, t, os⟩) :
    wpAny (model prog w) A (Builtin.«type.__call__» ⟨.ref C :: us, kw⟩) Q E ⟨h, g, d, t, os⟩ := by
  repeat (first
    | with_reducible refine wpAny_loadPart_at hC ?_
    | with_reducible refine wpAny_madeBy_exc hC ?_
    | wp_step)
  refine codeAny_call_builtin_code (Code.quiet_builtin _ F.quiet) (xk_check F hT hC ?_)
  refine xk_new F hT hC ?_ hu
  show wpAny _ _ _ _ _ _
  have kk : ∀ b o, h.get? b = some o → ((h.push (kdv_tup us)).push (PySem.HandSPX.excO C h.objs.size)).get? b = some o := fun b o e =>
    Heap.get?_push_of_some _ (Heap.get?_push_of_some _ e)
  have hC1 := kk _ _ hC
  have hx : ((h.push (kdv_tup us)).push (PySem.HandSPX.excO C h.objs.size)).get? (h.objs.size + 1) = some (PySem.HandSPX.excO C h.objs.size) := by
    heap_get
  have c1 : (Value.ref C :: bm).contains (.ref C) = true := by
    simp
  have i1 := hi.keeps kk
  have b1 := (hb (.ref (h.objs.size + 1))).keeps kk
  unfold isInstance
  repeat (first
    | with_reducible refine wpAny_loadPart_at hx ?_
    | (with_reducible refine wpAny_isSubtype_exc hC1 ?_; rw [c1])
    | wp_step)
  show wpAny _ _ (typeLookup (.ref C) _) _ _ _
  refine i1.at ?_
  refine wpAny_holding (wpAny_bind (b1.at ?_))
  refine wpAny_bind (wpAny_call (codeAny_mono hq fun r s' z => ?_))
  cases r with
  | error e => exact z
  | ok fl =>
    cases fl with
    | ret v =>
      obtain ⟨rfl, z⟩ := z
      first
        | exact wpAny_pure (wpAny_pure z)
        | (wp_walk; exact z)
    | _ => exact z.elim
theorem xk_call {us : List Value} {kw : List (Str × Value)} {fI : Addr} (hC : h.get? C = some (excClassObj nm q C N bs bm hdct sn sub ab col dd k0 k1 k2 k3 k5 newId))
    (hi : Looks (model prog w) h (typeLookup (.ref C) "__init__") (some (.ref fI))) (hb : ∀ x, Looks (model prog w) h (bindSpecial (.ref fI) x) (.ref fI, [x])) (hu : us.length ≤ sizeLine)
    (hq : codeAny (model prog w) (A.under (.builtin "type.__call__" ⟨.ref C :: us, kw⟩)) (.call (.ref fI) ⟨.ref (h.objs.size + 1) :: us, kw⟩) (InitBack (h.objs.size + 1) R)
      ⟨(h.push (kdv_tup us)).push (PySem.HandSPX.excO C h.objs.size), g, d, t, os⟩) :
    codeAny (model prog w) A (.call (.ref C) ⟨us, kw⟩) R ⟨h, g, d, t, os⟩ := by
  have f1 := tc_lookup
  have f2 := tc_bind (.ref C)
  have f3 : (⟨h, g, d, t, os⟩ : Shared).TypeIs (.ref C) "type" := ⟨_, hC, rfl⟩
  refine codeAny_of_tree ?_
  show wpAny _ _ (callAny (.ref C) _) _ _ _
  repeat (any_goals (first
    | assumption
    | with_reducible refine wpAny_loadPart_at hC ?_
    | wp_step))
  refine ⟨rfl, ?_⟩
  refine codeAny_call_builtin_at (Code.quiet_builtin _ (by decide +kernel)) entry_typeCall (wpAny_check_type_call_sub hC (xk_type F hT hC hi hb hu ?_))
  refine codeAny_mono hq fun r s' z => ?_
  rcases r with e | (v | _ | _ | _) <;> exact z
end
end DnX
namespace Dn
open PySem PySem.Spec PyProof.Rows L2
/-- keywords' values, put where they belong -/
def gP {α : Type} (ks : List Nat) (us ws : List α) : List α := us ++ (List.range ks.length).filterMap fun j => (ks.idxOf? j).bind fun i => ws[i]?
theorem fm_get {α β : Type} {f : α → Option β} : ∀ {l : List α}, (∀ a ∈ l, (f a).isSome = true) → ∀ k : Nat, (l.filterMap f)[k]? = l[k]?.bind f
  | [], _, k => by simp
  | a :: l, h, k => by
    obtain ⟨b, hb⟩ := Option.isSome_iff_exists.mp (h a List.mem_cons_self)
    rw [List.filterMap_cons, hb]
    cases k with
    | zero => simp [hb]
    | succ k => simpa using fm_get (fun x hx => h x (List.mem_cons_of_mem _ hx)) k
theorem fm_len {α β : Type} {f : α → Option β} : ∀ {l : List α}, (∀ a ∈ l, (f a).isSome = true) → (l.filterMap f).length = l.length
  | [], _ => rfl
  | a :: l, h => by
    obtain ⟨b, hb⟩ := Option.isSome_iff_exists.mp (h a List.mem_cons_self)
    rw [List.filterMap_cons, hb]
    simp [fm_len fun x hx => h x (List.mem_cons_of_mem _ hx)]
theorem vals_get : ∀ {zs : List V} {ws : List Value}, Vals zs ws → ∀ i : Nat, (zs[i]? = none ∧ ws[i]? = none) ∨ ∃ z u, zs[i]? = some z ∧ ws[i]? = some u ∧ RelV z u
  | _, _, .nil, i => .inl ⟨by simp, by simp⟩
  | _, _, .cons r t, 0 => .inr ⟨_, _, rfl, rfl, r⟩
  | _, _, .cons r t, i + 1 => by simpa using vals_get t i
theorem vals_pick {zs : List V} {ws : List Value} (r : Vals zs ws) {ks : List Nat} : ∀ {js : List Nat}, Vals (js.filterMap fun j => (ks.idxOf? j).bind fun i => zs[i]?) (js.filterMap fun j => (ks.idxOf? j).bind fun i => ws[i]?)
  | [] => .nil
  | j :: js => by
    rw [List.filterMap_cons, List.filterMap_cons]
    cases hk : ks.idxOf? j with
    | none => exact vals_pick r
    | some i =>
      rcases vals_get r i with ⟨h1, h2⟩ | ⟨z, u, h1, h2, h3⟩
      · simp only [Option.bind_some, h1, h2]
        exact vals_pick r
      · simp only [Option.bind_some, h1, h2]
        exact .cons h3 (vals_pick r)
theorem vals_gP {vs zs : List V} {us ws : List Value} {ks : List Nat} (r : Vals vs us) (rz : Vals zs ws) : Vals (gP ks vs zs) (gP ks us ws) := r.append (vals_pick rz)
/-- what C(k = e, ..) makes -/
def tOxK (C : Addr) (sp : Sp) (gV : List V → List V → List V) (n : Nat) (tk : TA) : TE := fun σ H Q => tk σ H fun zs H1 => zs.length = n ∧ ∀ a, H1 a = none → sp (gV [.ref a] zs) (upd H1 a (exo a C none)) (fun v H2 => v = .non ∧ Q (.ref a) H2) (fun _ _ _ => False)
section
variable {X : Cx} {k : Nat} {fI C : Addr} {fd : FuncData} {ps kn : List Str} {sp : Sp} {x : Str} {p pos : Pos} {kws : List Keyword} {tk : TA} {g : List Value → List Value → List Value} {gV : List V → List V → List V}
theorem pe_oexK {CX : CXT} (T : OexC X.K C) (iC : PySem.W.findIn X.K (.ref C) "__init__" = some (some (.ref fI))) (tI : PySem.W.typeIn X.K (.ref fI) = some (.type "function")) (F1 : FnOk X.prog X.w X.K X.mg X.base CX k fI fd ps sp)
    (hr : Room (k + 1) X.A) (hb : KBn X.K fd ps 1 kn g gV) (hx : Passes CX X (fun _ _ _ => False)) (hg : Gl X x) (hm : X.mg x = some (.ref C)) (hkw : PK X kws tk) (hall : (backToKw pos (keywordEach kws X.env)).all (·.1.isSome) = true)
    (hks : (backToKw pos (keywordEach kws X.env)).filterMap (·.1) = kn) (hdb : (x == ("__debug__" : Str)) = false) (hpl : ((backTo pos (starEach [] X.env)).any (·.1) || (backToKw pos (keywordEach kws X.env)).any (·.1.isNone)) = false) :
    PE X (.Call (.Name x p) [] kws pos) (tOxK C sp gV kn.length tk) := by
  refine ⟨fun pins s σ H Q I h => ?_⟩
  obtain ⟨nm, q, N, bs, bm, sn, sub, ab, col, dd, k0, k1, k2, k3, k5, hC, hbm⟩ := T.cls
  refine wpAny_Call_Name_kw (ld_glob I hg hm ?_ hdb)
  refine PySem.W.callWith_KW0 (h₀ := X.base) I.ok.mod.kin T.kC hall ?_ hpl
  refine thn (hkw.run pos pins s σ H _ I h) fun ws s1 ⟨zs, H1, I1, rz, hl, q1⟩ => ⟨I1.kIn, ?_⟩
  rw [hks]
  show wpAny _ _ (call (.ref C) [] (kn.zip ws)) _ _ _
  obtain ⟨hp, gg, dr, tk', os⟩ := s1
  have hz : hp.objs.size ≤ hp.objs.size + 1 := Nat.le_succ _
  have hn : H1 (hp.objs.size + 1) = none := I1.hok.fresh hz
  have hq := q1 (hp.objs.size + 1) hn
  have kk : ∀ b o, hp.get? b = some o → ((hp.push (PySem.W.kdv_tup [])).push (PySem.HandSPX.excO C hp.objs.size)).get? b = some o := fun b o e =>
    Heap.get?_push_of_some _ (Heap.get?_push_of_some _ e)
  have ha : ((hp.push (PySem.W.kdv_tup [])).push (PySem.HandSPX.excO C hp.objs.size)).get? (hp.objs.size + 1) = some (PySem.HandSPX.excO C hp.objs.size) := by
    heap_get
  have I2 : Inv X pins σ (upd H1 (hp.objs.size + 1) (exo (hp.objs.size + 1) C none)) ⟨(hp.push (PySem.W.kdv_tup [])).push (PySem.HandSPX.excO C hp.objs.size), gg, dr, tk', os⟩ :=
    I1.laid (t' := tk') (a := hp.objs.size + 1) (o := exo (hp.objs.size + 1) C none) (h' := (hp.push (PySem.W.kdv_tup [])).push (PySem.HandSPX.excO C hp.objs.size)) kk hz (exo_ok ha)
  have r1 : Vals [V.ref (hp.objs.size + 1)] [Value.ref (hp.objs.size + 1)] := .cons rfl .nil
  have r2 := hb.rel r1 rz
  have hlw : ws.length = kn.length := rz.length.symm.trans hl
  refine wpAny_call (DnX.xk_call PySem.F.excBase_ValueError (fun Y => PySem.HandSPX.refsVE_contains Y bm hbm) (I1.kIn _ _ hC) (PySem.W.looks_findIn I1.kIn iC) (fun self => PySem.W.bind_fn I1.kIn self tI) (Nat.zero_le _)
    (codeAny_mono (F1.run _ X.stack _ _ ⟨[Value.ref (hp.objs.size + 1)], kn.zip ws⟩ (g [Value.ref (hp.objs.size + 1)] ws) _ _ (fun _ _ _ => False) (hr.make C [] (kn.zip ws)) (I2.env0.make C [] (kn.zip ws)) (hb.to _ [Value.ref (hp.objs.size + 1)] ws I2.kIn rfl hlw) r2 hq) fun r s' hq' => ?_))
  cases r with
  | error er => exact hx pins σ _ _ er s' I2 hq'
  | ok fl =>
    cases fl with
    | ret u =>
      obtain ⟨v, H', I3, rv, ev, q3⟩ := I2.after hq'
      subst ev
      exact ⟨rv, ⟨V.ref (hp.objs.size + 1), H', I3, rfl, q3⟩⟩
    | _ => exact False.elim hq'
/-- e.f, e an error that is at hand as a value -/
def tXo (K : PySem.W.Frag) (n : Str) (te : TE) : TE := fun σ H Q => te σ H fun x H1 => ∃ (a C d : Addr) (fs : List (Str × V)) (y : V), x = .ref a ∧ XfC K C ∧ PySem.W.findIn K (.ref C) n = some none ∧ H1 a = some (exo a C (some d)) ∧ H1 d = some (exd d fs) ∧ fs.lookup n = some y ∧ Q y H1
theorem pe_xo {e : Expr} {te : TE} {n : Str} (he : PE X e te) (hb : attributeBase e n X.env (eval e X.env) = eval e X.env) : PE X (.Attribute e n pos) (tXo X.K n te) := by
  refine ⟨fun pins s σ H Q I h => ?_⟩
  refine attr_of hb (thn (he.run pins s σ H _ I h) fun u s1 ⟨x, H1, I1, rx, a, C, d, fs, y, ex, T, hno, ea, ed, hl, q⟩ => ?_)
  subst ex
  obtain rfl : u = Value.ref a := rx
  obtain ⟨t0, h1⟩ := exo_at I1.hok ea
  obtain ⟨mA, hns, hr⟩ := exd_at I1.hok ed
  obtain ⟨od, ho, hlk⟩ := lookIn_ns hns
  obtain ⟨z, hz, rz⟩ := RelO.some_of (v := y) (o := mA n) (by rw [← hl]; exact hr n)
  have J : PySem.W.InstAt s1.heap a _ C (some od) := ⟨h1, rfl, rfl, ho⟩
  exact HandSPX.exc_get I1.kIn J T.ga T.gg T.exC (PySem.W.findObj_own T.hdC hno rfl (by rw [hlk, hz])) (handed_of rz) ⟨y, H1, I1.tok _, rz, q⟩
end
end Dn
namespace Dn
open PySem PySem.Spec PyProof.Rows L2
/-- what the heap must show of C(k = e, ..).f -/
structure XatOk (G : Gx) (X : Cx) (k c : Nat) (ks : List Nat) (kn : List Str) : Prop where
  oex : OexC X.K (G.xa c)
  ini : ∃ (fI : Addr) (fd : FuncData) (ps : List Str), PySem.W.findIn X.K (.ref (G.xa c)) "__init__" = some (some (.ref fI)) ∧ PySem.W.typeIn X.K (.ref fI) = some (.type "function") ∧
    FnOk X.prog X.w X.K X.mg X.base (L2.CX X.prog X.w) k fI fd ps (spX (G.xa c) ((G.xf c).map G.nm)) ∧ KBn X.K fd ps 1 kn (gP ks) (gP ks)
  nd : ((G.xf c).map G.nm).Nodup
  xfc : XfC X.K (G.xa c)
  fnd : ∀ f ∈ G.xf c, PySem.W.findIn X.K (.ref (G.xa c)) (G.nm f) = some none
  lk : kn.length = ks.length
def SimK (G : Gx) (X : Cx) (kws : List Keyword) (m : Vars → Store → Out (List D)) : Prop := ∀ W : WX, Takes X W → PK X kws (tDA G W m)
section
variable {G : Gx} {X : Cx} {k c f : Nat} {ks : List Nat} {kn : List Str} {x fx : Str} {p p2 p3 : Pos} {kws : List Keyword} {m : Vars → Store → Out (List Dn.D)}
theorem noX_xat (xf ks : List Nat) (f : Nat) (ds : List Dn.D) (S : Store) : NoX (opXat xf ks f ds S) := by
  intro c xs S' h
  unfold opXat at h
  repeat' (split at h)
  all_goals cases h
theorem sim_xat (R : XatOk G X k c ks kn) (hr : Room (k + 1) X.A) (hg : Gl X x) (hm : X.mg x = some (.ref (G.xa c))) (hk : SimK G X kws m) (hfx : fx = G.nm f) (hall : (backToKw p2 (keywordEach kws X.env)).all (·.1.isSome) = true)
    (hks : (backToKw p2 (keywordEach kws X.env)).filterMap (·.1) = kn) (hdb : (x == ("__debug__" : Str)) = false) (hpl : ((backTo p2 (starEach [] X.env)).any (·.1) || (backToKw p2 (keywordEach kws X.env)).any (·.1.isNone)) = false)
    (hab : attributeBase (.Call (.Name x p) [] kws p2) fx X.env (eval (.Call (.Name x p) [] kws p2) X.env) = eval (.Call (.Name x p) [] kws p2) X.env) :
    SimE G X (.Attribute (.Call (.Name x p) [] kws p2) fx p3) (fun Γ S => (m Γ S).bind (opXat (G.xf c) ks f)) := fun W tk => by
  obtain ⟨fI, fd, ps, h1, h2, h3, h4⟩ := R.ini
  refine PE.imp (pe_xo (pe_oexK R.oex h1 h2 h3 hr h4 (passes_call tk fun _ _ _ _ h => h.elim) hg hm (hk W tk) hall hks hdb hpl) hab) fun σ H Q ⟨Γ, w, hw, A, hf⟩ => ?_
  refine ⟨Γ, w, hw, A, hf.bind fun w1 ds vs e1 R1 p1 rs h1 => ?_⟩
  unfold opXat at h1
  split at h1
  case isFalse => exact h1.elim
  rename_i hc
  obtain ⟨c1, c2, c3⟩ := hc
  split at h1
  case h_2 => exact h1.elim
  rename_i d hd
  have hvl := rs.length
  rw [List.all_eq_true] at c3
  have some_ : ∀ j ∈ List.range ks.length, ((ks.idxOf? j).bind fun i => vs[i]?).isSome = true := fun j hj => by
    have := c3 j (by rw [← c2]; exact hj)
    cases hi : ks.idxOf? j with
    | none => rw [hi] at this; cases this
    | some i =>
      rw [hi] at this
      simp only [Option.bind_some] at this ⊢
      obtain ⟨d', hd'⟩ := Option.isSome_iff_exists.mp this
      obtain ⟨v, hv, _⟩ := rs.get hd'
      rw [hv]; rfl
  refine ⟨by rw [← hvl, c1, R.lk, c2], fun a ha => ?_⟩
  refine ⟨a, (List.range ks.length).filterMap fun j => (ks.idxOf? j).bind fun i => vs[i]?, rfl, by rw [fm_len some_]; simp [c2], upd_same, fun dx hdx hne => ⟨rfl, ?_⟩⟩
  have hdx1 : w1.H dx = none := by rw [upd_ne hne] at hdx; exact hdx
  -- the value
  cases hj : (G.xf c).idxOf? f with
  | none => rw [hj] at hd; cases hd
  | some j =>
    rw [hj] at hd
    simp only [Option.bind_some] at hd
    cases hi : ks.idxOf? j with
    | none => rw [hi] at hd; cases hd
    | some i =>
      rw [hi] at hd
      simp only [Option.bind_some] at hd
      obtain ⟨v, hv, rv⟩ := rs.get hd
      obtain ⟨hjl, hjf, _⟩ := List.idxOf?_eq_some_iff.mp hj
      have hfm : f ∈ G.xf c := by rw [← hjf]; exact List.getElem_mem hjl
      have hws : ((List.range ks.length).filterMap fun j => (ks.idxOf? j).bind fun i => vs[i]?)[j]? = some v := by
        rw [fm_get some_, List.getElem?_range (by rw [c2]; exact hjl)]
        simp only [Option.bind_some, hi, hv]
      have hlk := look_rev (vs := (List.range ks.length).filterMap fun j => (ks.idxOf? j).bind fun i => vs[i]?) R.nd (i := j) (f := G.nm f) (by rw [List.getElem?_map, List.getElem?_eq_getElem hjl, hjf]; rfl) hws
      refine ⟨a, G.xa c, dx, _, v, rfl, R.xfc, by rw [hfx]; exact R.fnd f hfm, upd_same, by rw [upd_ne hne, upd_same], by rw [hfx]; exact hlk, ?_⟩
      have e2 := Ext.laid (o := exd dx ((((G.xf c).map G.nm).zip ((List.range ks.length).filterMap fun j => (ks.idxOf? j).bind fun i => vs[i]?)).reverse)) R1 hdx1
      have R2 := R1.laid (o := exd dx ((((G.xf c).map G.nm).zip ((List.range ks.length).filterMap fun j => (ks.idxOf? j).bind fun i => vs[i]?)).reverse)) hdx1
      have ha2 : upd w1.H dx (exd dx ((((G.xf c).map G.nm).zip ((List.range ks.length).filterMap fun j => (ks.idxOf? j).bind fun i => vs[i]?)).reverse)) a = none := by rw [upd_ne (Ne.symm hne)]; exact ha
      have e3 := Ext.laid (o := exo a (G.xa c) (some dx)) R2 ha2
      have R3 := R2.laid (o := exo a (G.xa c) (some dx)) ha2
      have eH : upd (upd (upd w1.H a (exo a (G.xa c) none)) dx (exd dx ((((G.xf c).map G.nm).zip ((List.range ks.length).filterMap fun j => (ks.idxOf? j).bind fun i => vs[i]?)).reverse))) a (exo a (G.xa c) (some dx)) = upd (upd w1.H dx (exd dx ((((G.xf c).map G.nm).zip ((List.range ks.length).filterMap fun j => (ks.idxOf? j).bind fun i => vs[i]?)).reverse))) a (exo a (G.xa c) (some dx)) := by
        funext b
        by_cases hb : b = a
        · rw [hb, upd_same, upd_same]
        · rw [upd_ne hb, upd_ne hb]
          by_cases hbd : b = dx
          · rw [hbd, upd_same, upd_same]
          · rw [upd_ne hbd, upd_ne hbd, upd_ne hb]
      rw [eH]
      exact h1 ⟨_, w1.S, w1.ρ, w1.pv⟩ v (e2.trans e3) R3 rfl rfl (Rep.ext (e2.trans e3).wk _ _ rv)
end
abbrev veT : List Value := [.type "ValueError", .type "Exception", .type "BaseException", .type "object"]
structure Oex0 (K : PySem.W.Frag) (C : Addr) : Prop where
  ex : PySem.W.excIn K C veT "ValueError.__new__" = true
  kC : PySem.W.keepIn K (.ref C) = true
  sC : PySem.W.subIn K (.ref C) (.type "BaseException") = some true
  tC : PySem.W.typeIn K (.ref C) = some (.type "type")
def oex0B (K : PySem.W.Frag) (C : Addr) : Bool := PySem.W.excIn K C veT "ValueError.__new__" && (PySem.W.keepIn K (.ref C) && (decide (PySem.W.subIn K (.ref C) (.type "BaseException") = some true) && decide (PySem.W.typeIn K (.ref C) = some (.type "type"))))
theorem oex0B_ok {K : PySem.W.Frag} {C : Addr} (h : oex0B K C = true) : Oex0 K C := by
  unfold oex0B at h
  simp only [Bool.and_eq_true, decide_eq_true_eq] at h
  exact ⟨h.1, h.2.1, h.2.2.1, h.2.2.2⟩
section
variable {G : Gx} {X : Cx} {c : Nat} {x : Str} {p p2 pos : Pos} {C : Addr}
theorem pmk_own0 (F : Oex0 X.K C) (hm : X.mg x = some (.ref C)) (hg : Gl X x) (hdb : (x == ("__debug__" : Str)) = false) : PMk X (.Call (.Name x p) [] [] pos) (fun _ H Q => Q (.ref C) none H) := by
  intro pins s σ H Q I h
  refine wpAny_Call_Name_kw (ld_glob I hg hm ?_ hdb)
  obtain ⟨hp, gg, dr, tk, os⟩ := s
  obtain ⟨bm, N, nm, qn, bs, hdct, sn, sub, ab, col, dd, k0, k1, k2, k3, k5, mN, hC, hN, hni, T⟩ := exc_obj I.kIn F.ex
  refine PySem.W.callWith_K0 I.kIn F.kC ?_
  exact wpAny_call_exc_subT PySem.F.excBase_ValueError T hC hN hni (fun h' e hm => mk_of I hm (raises_own F.sC F.tC) h (I.hok.gone hm.new)) (Nat.zero_le _)
theorem sim_raise0 (hc : X.calm = true) (F : Oex0 X.K (G.xa c)) (hg : Gl X x) (hm : X.mg x = some (.ref (G.xa c))) (hdb : (x == ("__debug__" : Str)) = false) (hx : G.isx c = true) (h0 : G.xf c = []) :
    SimS G X (.Raise (some (.Call (.Name x p) [] [] p2)) none pos) (fun Γ S => .exn c [] Γ S) := fun W tk => by
  refine PS.imp (ps_raise hc tk (pmk_own0 F hm hg hdb)) fun D σ H ⟨Γ, w, hw, A, hf⟩ => ?_
  subst hw
  exact hf σ w _ _ (Ext.refl w) rfl rfl A ⟨rfl, hx, .inl ⟨rfl, h0, rfl⟩⟩
end
structure EisC (K : PySem.W.Frag) (C : Addr) : Prop where
  cl : (PySem.W.clsIn K C).isSome = true
  ga : PySem.W.findIn K (.ref C) "__getattribute__" = some (some (.builtin "BaseException.__getattribute__"))
  gg : PySem.W.findIn K (.ref C) "__getattr__" = some none
  su : PySem.W.subIn K (.ref C) (.type "BaseException") = some true
  ca : PySem.W.findIn K (.ref C) "__class__" = some (some (.builtin "object.__class__"))
  cg : PySem.W.specialIn K (.builtin "object.__class__") "__get__" = some (some (.builtin "getset_descriptor.__get__"))
  ct : PySem.W.takesIn K (.builtin "object.__class__") = some true
  mr : PySem.W.mroIn K C (.type "object") = some true
section
variable {G : Gx} {X0 : Cx} {a C : Addr} {oe : Obj} {d : Option Addr} {pn : List (Addr × Obj)}
def rIsE (K : PySem.W.Frag) (a C : Addr) (d : Option Addr) : List V → Hp → VK → Prop := fun xs H Q => ∃ (vt : V) (t : Value) (b : Bool), xs = [.ref a, vt] ∧ ClsV vt t ∧ (d = none ∨ ∃ dd fs, d = some dd ∧ H dd = some (.xd fs)) ∧ PySem.W.kitOne K (.ref C) t = some b ∧ Q (.bl b) H
theorem call_isE (F : EisC X0.K C) (hz : Zc (.ref C) d oe) (hf : ∃ vs, oe.data = .fields vs) : CallR (X0.suite a ((a, oe) :: pn)) (.builtin "isinstance") (rIsE X0.K a C d) := by
  intro pins s σ H xs us Q I r h
  obtain ⟨vt, t, b, rfl, hc, hd, hk, q⟩ := h
  obtain ⟨u1, u2, rfl, r1, r2⟩ := vals2 r
  obtain rfl : u1 = Value.ref a := r1
  have e2 := hc.eq r2
  subst e2
  obtain ⟨ha, _⟩ := I.pin (a, oe) (List.mem_append_left _ List.mem_cons_self)
  obtain ⟨vs, hdat⟩ := hf
  have J : ∃ od, PySem.W.InstAt s.heap a oe C od := by
    rcases hd with rfl | ⟨dd, fs, rfl, hH⟩
    · exact ⟨none, ha, hz.1, by unfold PySem.W.notCls; rw [hdat] <;> rfl, by rw [hz.2]; trivial⟩
    · have hx : ObjOk X0.prog X0.w H s.heap dd (.xd fs) := I.hok dd _ hH
      obtain ⟨mA, hns, hr⟩ := hx
      obtain ⟨od, ho, hl⟩ := lookIn_ns hns
      exact ⟨some od, ha, hz.1, by unfold PySem.W.notCls; rw [hdat] <;> rfl, by rw [hz.2]; exact ho⟩
  obtain ⟨od, J⟩ := J
  exact PySem.W.kia_one (PySem.W.kitx_exc F.cl F.ga F.gg F.su F.ca F.cg F.ct F.mr) I.kIn J hk (fun z => nomatch z) fun tk => ⟨.bl b, H, I.tok tk, rfl, q⟩
theorem sim_eis {er : ErrX} {oe : Obj} {x : Str} {p p2 pos : Pos} {e : Expr} {vt : V} {t : Value} {r : Bool} (F : EisC X0.K (G.xa er.c)) (hz : Zc (.ref (G.xa er.c)) er.dd oe) (hf : ∃ vs, oe.data = .fields vs) (z1 : G.ex = some er)
    (hg : Gl (X0.suite er.a ((er.a, oe) :: pn)) "isinstance") (hm : X0.mg "isinstance" = none) (hv : PE (X0.suite er.a ((er.a, oe) :: pn)) (.Name x p2) (tVar er.sl)) (hb : PE (X0.suite er.a ((er.a, oe) :: pn)) e (tC vt)) (nb : NS e) (hc : ClsV vt t)
    (hk : PySem.W.kitOne X0.K (.ref (G.xa er.c)) t = some r) : SimE G (X0.suite er.a ((er.a, oe) :: pn)) (.Call (.Name "isinstance" p) [.Name x p2, e] [] pos) (fun _ S => .ok (.bl r) S) := fun W tk => by
  have nx : NS (.Name x p2) := fun _ _ => rfl
  refine PE.imp (pe_callB (call_isE F hz hf) hg hm PyProof.Rows.boot_isinstance (pa_cons hv (pa_cons hb pa_nil (nb _ _)) (nx _ _)) (by decide) (by decide) (nx _ _) (by rw [nb]; rfl)) fun σ H Q ⟨Γ, w, hw, A, hf⟩ => ?_
  subst hw
  obtain ⟨s1, s2⟩ := A.err er z1
  refine ⟨_, s1, vt, t, r, rfl, hc, ?_, hk, Fin.ok hf A.rel (by simp [Rep])⟩
  rcases s2 with ⟨_, _, h⟩ | ⟨dd, fs, vs, h1, h2, _⟩
  · exact .inl h
  · exact .inr ⟨dd, fs, h1, h2⟩
end
end Dn

set_option maxHeartbeats 4000000
namespace PySem.W
open PySem Builtin
section
variable {prog : Program} {w : World} {A : Around} {E : Value → Shared → Prop} {s : Shared} {K : Frag} {x C f L : Addr} {ox : Obj} {od : Option Obj} {b tb : Value} {h₀ : Heap} {m : Str → Option Value}
theorem dn_ifBound_objNe {M : Model} {args : List Value} {Q : Option Value → Shared → Prop} (X : K.In s.heap) (I : InstAt s.heap x ox C od) (hs : findIn K (.ref C) "__ne__" = some (some (.builtin "object.__ne__")))
    (h : wpAny M A (call (.builtin "object.__ne__") (.ref x :: args)) (fun v => Q (some v)) E s) : wpAny M A (callSpecialIfBound? (.ref x) "__ne__" args) Q E s := by
  simp only [callSpecialIfBound?, bindSpecialIfBound?]
  refine wpAny_holding (wpAny_bind (wpAny_bind (wpAny_bind (I.type.here ((looks_findIn X hs).here ?_)))))
  refine wpAny_bind (wpAny_askSetting (wpAny_ite ?_))
  have fin : wpAny M A (call (.builtin "object.__ne__") ([.ref x] ++ args) >>= fun v => pure (some v)) Q E s := wpAny_bind (wpAny_mono h (fun v s' h' => wpAny_pure h') fun _ _ h' => h')
  split
  · exact wpAny_bind (wpAny_of_eq (F.cmp_object.ne.bind _) (wpAny_pure (by exact fin)))
  · exact wpAny_tryCatch (wpAny_bind (wpAny_of_eq (F.cmp_object.ne.bind _) (wpAny_pure (by exact fin))))
theorem dn_objNe_entry (X : K.In s.heap) (I : InstAt s.heap x ox C od) (hs : findIn K (.ref C) "__eq__" = some (some (.ref f))) (hf : isFn K (.ref f) = true) (hu : A.units < cLine) {Q : Fin → Shared → Prop}
    (hcall : wpAny (model prog w) A (call (.ref f) [.ref x, b]) (fun v s' => ∃ k, v = .bool k ∧ Q (.done (.ret (.bool (!k)))) s') E s) :
    wpAny (model prog w) A (Builtin.«object.__ne__» ⟨[.ref x, b], []⟩) Q E s := by
  unfold Builtin.«object.__ne__»
  repeat (first
    | with_reducible refine wpAny_cRoomFor hu ?_
    | (refine wpAny_bind (m := callSpecialIfBound? (.ref x) (Str.ofString "__eq__") [b])
        (ifBound_K X I hs hf (wpAny_mono hcall (fun r s' hr => by
          obtain ⟨k, rfl, hq⟩ := hr
          repeat (first | exact hq | exact wpAny_pure hq | exact wpAny_truthy_bool hq | (refine wpAny_bind (m := truthy (.bool _)) (wpAny_truthy_bool ?_)) | wp_step)) fun _ _ e => e)))
    | wp_step)
theorem dn_call_objNe {Q : Value → Shared → Prop} (X : K.In s.heap) (I : InstAt s.heap x ox C od) (hm : mroIn K C (.type "object") = some true) (hs : findIn K (.ref C) "__eq__" = some (some (.ref f))) (hf : isFn K (.ref f) = true) (hu : A.in1.units < cLine)
    (hcall : wpAny (model prog w) A.in1 (call (.ref f) [.ref x, b]) (fun v s' => ∃ k, v = .bool k ∧ Q (.bool (!k)) s') E s) :
    wpAny (model prog w) A (call (.builtin "object.__ne__") [.ref x, b]) Q E s := by
  refine wpAny_call (codeAny_call_builtin F.cmp_object.ne.plain F.cmpEntry_ne (check_slot F.cmpKind_ne F.cmpSplit_ne (I.type.andThen (looks_mroIn X hm)) (F.cmpArgs_ne _ _) (dn_objNe_entry (A := A.in1) X I hs hf hu (wpAny_mono hcall (fun v s' hv => ?_) fun _ _ e => e))))
  obtain ⟨k, rfl, hq⟩ := hv
  first | exact ⟨k, rfl, hq⟩ | exact ⟨k, rfl, wpAny_pure hq⟩
theorem dn_cmp_ne {Q : Value → Shared → Prop} (hu : A.units + 1 < cLine) (Fh : PyProof.Rows.Fr h₀ L s.heap m) (X₀ : K.In h₀) (I : InstAt s.heap x ox C od) (hb : Looks (model prog w) s.heap (typeOf b) tb) (hn : notFirst K C tb = true)
    (hs : findIn K (.ref C) "__eq__" = some (some (.ref f))) (hne : findIn K (.ref C) "__ne__" = some (some (.builtin "object.__ne__"))) (hm : mroIn K C (.type "object") = some true) (hf : isFn K (.ref f) = true)
    (h : wpAny (model prog w) A.in1 (call (.ref f) [.ref x, b]) (fun v s' => ∃ k, v = .bool k ∧ Q (.bool (!k)) s') E s) : wpAny (model prog w) A (richCompare .NotEq (.ref x) b) Q E s := by
  have X := X₀.keeps Fh.keep
  have one : wpAny (model prog w) A (tryCompare (.ref x) "__ne__" b) (fun r s' => ∃ v, r = some v ∧ Q v s') E s := by
    unfold tryCompare
    refine wpAny_bind (dn_ifBound_objNe X I hne (dn_call_objNe X I hm hs hf hu (wpAny_mono h (fun v s' hv => ?_) fun _ _ e => e)))
    obtain ⟨k, rfl, hq⟩ := hv
    exact ⟨k, rfl, wpAny_pure ⟨_, rfl, hq⟩⟩
  unfold richCompare
  simp only [oneThing_ref]
  refine wpAny_holding (wpAny_bind (wpAny_cRoomFor (Nat.lt_of_succ_lt hu) ?_))
  rw [cmpInfo_NotEq]
  dsimp only
  refine wpAny_bind (I.type.here (wpAny_bind (hb.here ?_)))
  split
  · rename_i q
    have e : subIn K tb (.ref C) = some false := by
      rcases Bool.or_eq_true_iff.mp hn with e | e
      · rw [beq_iff_eq.mp e] at q; simp at q
      · exact beq_iff_eq.mp e
    refine wpAny_bind ((looks_subIn X e).here ?_)
    simp only [Bool.false_eq_true, if_false]
    refine wpAny_bind (wpAny_mono one (fun r s' z => ?_) fun _ _ e => e)
    obtain ⟨v, rfl, hq⟩ := z
    exact wpAny_pure hq
  · refine wpAny_bind (wpAny_pure ?_)
    simp only [Bool.false_eq_true, if_false]
    refine wpAny_bind (wpAny_mono one (fun r s' z => ?_) fun _ _ e => e)
    obtain ⟨v, rfl, hq⟩ := z
    exact wpAny_pure hq
end
end PySem.W
namespace Dn
open PySem PySem.Spec PyProof.Rows L2
section
variable {G : Gx} {X : Cx} {a b o e : Expr} {ma mb mo : DenD} {pos p apos : Pos} {tb : Tab} {kl : Nat → Option Kls}
/-- the value u stands for d, whatever stands in the heap -/
def CstR (G : Gx) (d : Dn.D) (u : Value) : Prop := ∃ v : V, RelV v u ∧ ∀ w : Wd, Rep G w d v
theorem sim_glc {x : Str} {d : Dn.D} {u : Value} (hg : Gl X x) (hm : X.mg x = some u) (h : CstR G d u) (hdb : (x == ("__debug__" : Str)) = false) : SimE G X (.Name x p) (fun _ S => .ok d S) := fun W _ => by
  obtain ⟨v, r, hr⟩ := h
  refine PE.imp (pe_glob hg hm r hdb) fun σ H Q ⟨Γ, w, hw, A, hf⟩ => ?_
  subst hw
  exact Fin.ok hf A.rel (hr w)

mutual
/-- a value of the written part stands for d -/
def repKB (K : PySem.W.Frag) : Dn.D → Value → Bool
  | .non, .none => true
  | .bl b, .bool c => b == c
  | .int i, .int j _ => decide (i = j)
  | .str x, .str y _ => decide (x = y)
  | .tup ds, .ref a => match K.lookup a with
    | some ⟨.type c, _, .seq its _, _⟩ => decide (c = "tuple") && (decide (its.size ≤ 1000) && repKBs K ds its.toList)
    | _ => false
  | _, _ => false
def repKBs (K : PySem.W.Frag) : List Dn.D → List Value → Bool
  | [], [] => true
  | d :: ds, u :: us => repKB K d u && repKBs K ds us
  | _, _ => false
end
mutual
theorem repKB_ok : ∀ {d : Dn.D} {u : Value}, repKB G.K d u = true → CstR G d u
  | .non, u, h => by
    cases u <;> simp [repKB] at h
    exact ⟨.non, rfl, fun w => by simp [Rep]⟩
  | .bl b, u, h => by
    cases u <;> simp [repKB] at h
    subst h
    exact ⟨.bl _, rfl, fun w => by simp [Rep]⟩
  | .int i, u, h => by
    cases u <;> simp [repKB] at h
    subst h
    exact ⟨.int _, ⟨_, rfl⟩, fun w => by simp [Rep]⟩
  | .str x, u, h => by
    cases u <;> simp [repKB] at h
    subst h
    exact ⟨.str _, ⟨_, rfl⟩, fun w => by simp [Rep]⟩
  | .tup ds, u, h => by
    cases u <;> simp only [repKB] at h <;> try cases h
    rename_i a
    split at h
    · rename_i c dd its n sl hl
      simp only [Bool.and_eq_true, decide_eq_true_eq] at h
      obtain ⟨h1, h2, h3⟩ := h
      subst h1
      obtain ⟨vs, r, hr⟩ := repKBs_ok h3
      refine ⟨.ref a, rfl, fun w => rep_tup.mpr ⟨a, vs, rfl, .inr ⟨_, its, n, hl, rfl, rfl, by rw [sizeLine_eq]; omega, r⟩, hr w⟩⟩
    · cases h
  | .lst _, u, h => by cases u <;> simp [repKB] at h
  | .obj _ _, u, h => by cases u <;> simp [repKB] at h
  | .ref _, u, h => by cases u <;> simp [repKB] at h
  | .fn _, u, h => by cases u <;> simp [repKB] at h
theorem repKBs_ok : ∀ {ds : List Dn.D} {us : List Value}, repKBs G.K ds us = true → ∃ vs : List V, Vals vs us ∧ ∀ w : Wd, Reps G w ds vs
  | [], us, h => by
    cases us with
    | nil => exact ⟨[], .nil, fun w => Reps.nil⟩
    | cons u us => simp [repKBs] at h
  | d :: ds, us, h => by
    cases us with
    | nil => simp [repKBs] at h
    | cons u us =>
      simp only [repKBs, Bool.and_eq_true] at h
      obtain ⟨v, r, hr⟩ := repKB_ok h.1
      obtain ⟨vs, rs, hrs⟩ := repKBs_ok h.2
      exact ⟨v :: vs, .cons r rs, fun w => reps_cons.mpr ⟨v, vs, rfl, hr w, hrs w⟩⟩
end

def entB (K : PySem.W.Frag) : List DictEntry → List (Str × Dn.D) → Bool
  | [], [] => true
  | e :: r, p :: q => (match e.key with
    | .str x _ => decide (x = p.1)
    | _ => false) && (repKB K p.2 e.val && entB K r q)
  | _, _ => false
theorem ent_find : ∀ {l : List DictEntry} {kvs : List (Str × Dn.D)}, entB G.K l kvs = true → l.any (·.refKey) = false ∧ ∀ z : Str, (match kvs.lookup z with
    | some d => ∃ e, l.find? (·.key.isStr z) = some e ∧ CstR G d e.val
    | none => l.find? (·.key.isStr z) = none)
  | [], [], _ => ⟨rfl, fun z => rfl⟩
  | [], _ :: _, h => by simp [entB] at h
  | _ :: _, [], h => by simp [entB] at h
  | e :: r, (k, d) :: q, h => by
    simp only [entB, Bool.and_eq_true] at h
    obtain ⟨h1, h2, h3⟩ := h
    obtain ⟨i1, i2⟩ := ent_find h3
    obtain ⟨hash, key, val⟩ := e
    cases key <;> try (simp at h1; done)
    rename_i x t
    have hx : x = k := of_decide_eq_true h1
    subst hx
    refine ⟨by rw [List.any_cons, i1]; rfl, fun z => ?_⟩
    have hz := i2 z
    have es : True := trivial
    by_cases e : z = x
    · subst e
      have e1 : List.lookup z ((z, d) :: q) = some d := by simp [List.lookup]
      rw [e1]
      exact ⟨_, by rw [List.find?_cons]; simp [Value.isStr], repKB_ok h2⟩
    · have e1 : List.lookup z ((x, d) :: q) = List.lookup z q := by
        have : (z == x) = false := by simpa using e
        simp [List.lookup, this]
      have e2 : (({ hash := hash, key := Value.str x t, val := val } : DictEntry) :: r).find? (·.key.isStr z) = r.find? (·.key.isStr z) := by
        rw [List.find?_cons]
        have : (Value.str x t).isStr z = false := by
          have : ¬x = z := fun q => e q.symm
          simp [Value.isStr, this]
        simp [this]
      rw [e1, e2]
      exact hz
/-- at a: the dict kvs of the module -/
structure DctR (G : Gx) (w : World) (kvs : List (Str × Dn.D)) (a : Addr) : Prop where
  ex : ∃ es n, KDict G.K w a es n ∧ entB G.K es.toList kvs = true
theorem DctR.at_ {w : World} {kvs : List (Str × Dn.D)} {a : Addr} (h : DctR G w kvs a) : ∃ es n, KDict G.K w a es n ∧ ∀ z : Str, ∃ r, PySem.W.nsIn G.K a z = some r ∧ (match kvs.lookup z with
    | some d => ∃ u, r = some u ∧ CstR G d u
    | none => r = none) := by
  obtain ⟨es, n, D, he⟩ := h.ex
  refine ⟨es, n, D, fun z => ?_⟩
  obtain ⟨i1, i2⟩ := ent_find he
  have hz := i2 z
  have en : PySem.W.nsIn G.K a z = (match es.toList.find? (·.key.isStr z) with
      | some e => some (some e.val)
      | none => if es.toList.any (·.refKey) then none else some none) := by
    unfold PySem.W.nsIn
    rw [D.at_] <;> rfl
  rw [en]
  cases hk : kvs.lookup z with
  | some d =>
    rw [hk] at hz
    obtain ⟨e, e1, e2⟩ := hz
    rw [e1]
    exact ⟨_, rfl, _, rfl, e2⟩
  | none =>
    rw [hk] at hz
    have hz' : es.toList.find? (·.key.isStr z) = none := hz
    rw [hz', i1]
    exact ⟨_, rfl, rfl⟩
theorem noX_dget (kvs : List (Str × Dn.D)) (k : Dn.D) (S : Store) : NoX (opDget kvs k S) := by
  intro c xs S' h
  unfold opDget at h
  repeat' (split at h)
  all_goals cases h
theorem noX_din (neg : Bool) (kvs : List (Str × Dn.D)) (k : Dn.D) (S : Store) : NoX (opDin neg kvs k S) := by
  intro c xs S' h
  unfold opDin at h
  split at h <;> cases h
theorem sim_dget {x : Str} {kvs : List (Str × Dn.D)} {ad : Addr} (hK : X.K = G.K) (hg : Gl X x) (hm : X.mg x = some (.ref ad)) (h : DctR G X.w kvs ad) (hb : SimE G X b mb) (hs : PlainIx b) (hdb : (x == ("__debug__" : Str)) = false) :
    SimE G X (.Subscript (.Name x p) b pos) (fun Γ S => (mb Γ S).bind (opDget kvs)) := fun W tk => by
  obtain ⟨es, n, D, hz⟩ := h.at_
  refine PE.imp (pe_ix ix_kdict (pe_glob (v := .ref ad) hg hm rfl hdb) (hb W tk) hs) fun σ H Q ⟨Γ, w, hw, A, hf⟩ => ?_
  subst hw
  refine ⟨Γ, w, rfl, A, hf.bind fun w1 dk k e1 R1 p1 rk h1 => ?_⟩
  have h1' := h1.zero (noX_dget _ _ _)
  cases dk <;> try exact h1'.elim
  rename_i z
  rw [rep_str.mp rk]
  obtain ⟨r, hr, hd⟩ := hz z
  unfold opDget at h1'
  dsimp only at h1'
  cases hk : kvs.lookup z with
  | none => rw [hk] at h1'; exact h1'.elim
  | some d =>
    rw [hk] at hd h1'
    obtain ⟨u, rfl, v, rv, hv⟩ := hd
    exact ⟨ad, z, v, rfl, rfl, ⟨es, n, u, by rw [hK]; exact D.at_, D.lit, by rw [hK]; exact hr, rv⟩, Fin0.ok h1' R1 (hv w1)⟩
theorem sim_din {x : Str} {kvs : List (Str × Dn.D)} {ad : Addr} (neg : Bool) (hK : X.K = G.K) (hg : Gl X x) (hm : X.mg x = some (.ref ad)) (h : DctR G X.w kvs ad) (hb : SimE G X b mb) (hdb : (x == ("__debug__" : Str)) = false) :
    SimE G X (.Compare b [if neg then .NotIn else .In] [.Name x p] pos) (fun Γ S => ((mb Γ S).bind (opDin neg kvs)).bind fun b S => .ok (.bl b) S) := fun W tk => by
  obtain ⟨es, n, D, hz⟩ := h.at_
  have fin : ∀ σ H Q (F : V → Hp → Prop), (∀ z r H1, PySem.W.nsIn X.K ad z = some r → Q (.bl (r.isSome != neg)) H1 → F (.str z) H1) → tD G W (fun Γ S => ((mb Γ S).bind (opDin neg kvs)).bind fun b S => .ok (.bl b) S) σ H Q → tD G W mb σ H F := fun σ H Q F hF hq => by
    rw [show (fun Γ S => ((mb Γ S).bind (opDin neg kvs)).bind fun b S => Out.ok (Dn.D.bl b) S) = fun Γ S => (mb Γ S).bind fun k S1 => (opDin neg kvs k S1).bind fun b S => .ok (.bl b) S from by funext Γ S; rw [bind_assoc']] at hq
    obtain ⟨Γ, w, hw, A, hf⟩ := hq
    refine ⟨Γ, w, hw, A, hf.bind fun w1 dk k e1 R1 p1 rk h1 => ?_⟩
    cases dk <;> try exact h1.elim
    rename_i z
    obtain ⟨r, hr, hd⟩ := hz z
    have h2 : Fin G (Rep G) w1 σ (.ok (.bl ((kvs.lookup z).isSome != neg)) w1.S) Q W := h1
    have er : r.isSome = (kvs.lookup z).isSome := by
      cases hk : kvs.lookup z with
      | none => rw [hk] at hd; rw [show r = none from hd]; rfl
      | some d => rw [hk] at hd; obtain ⟨u, rfl, _⟩ := hd; rfl
    rw [rep_str.mp rk]
    refine hF z r _ (by rw [hK]; exact hr) ?_
    rw [er]
    exact Fin.ok h2 R1 (by simp [Rep])
  have D' : KDict X.K X.w ad es n := by rw [hK]; exact D
  cases neg with
  | true => exact PE.imp (pe_cmpR (op_notIn_kd D') (hb W tk) (pe_glob (v := .ref ad) hg hm rfl hdb) rfl) fun σ H Q hq => fin σ H Q _ (fun z r H1 hr q => ⟨z, r, rfl, rfl, hr, by simpa using q⟩) hq
  | false => exact PE.imp (pe_cmpR (op_in_kd D') (hb W tk) (pe_glob (v := .ref ad) hg hm rfl hdb) rfl) fun σ H Q hq => fin σ H Q _ (fun z r H1 hr q => ⟨z, r, rfl, rfl, hr, by simpa using q⟩) hq
theorem sim_dinT {x : Str} {kvs : List (Str × Dn.D)} {ad : Addr} (neg : Bool) (hK : X.K = G.K) (hg : Gl X x) (hm : X.mg x = some (.ref ad)) (h : DctR G X.w kvs ad) (hb : SimE G X b mb) (hdb : (x == ("__debug__" : Str)) = false) :
    SimT G X (.Compare b [if neg then .NotIn else .In] [.Name x p] pos) (fun Γ S => (mb Γ S).bind (opDin neg kvs)) := fun W tk => by
  obtain ⟨es, n, D, hz⟩ := h.at_
  have fin : ∀ σ H Q (F : V → Hp → Prop), (∀ z r H1, PySem.W.nsIn X.K ad z = some r → Q (r.isSome != neg) H1 → F (.str z) H1) → tDT G W (fun Γ S => (mb Γ S).bind (opDin neg kvs)) σ H Q → tD G W mb σ H F := fun σ H Q F hF hq => by
    obtain ⟨Γ, w, hw, A, hf⟩ := hq
    refine ⟨Γ, w, hw, A, hf.bind fun w1 dk k e1 R1 p1 rk h1 => ?_⟩
    cases dk <;> try exact h1.elim
    rename_i z
    obtain ⟨r, hr, hd⟩ := hz z
    have h2 : Fin G RB w1 σ (.ok ((kvs.lookup z).isSome != neg) w1.S) Q W := h1
    have er : r.isSome = (kvs.lookup z).isSome := by
      cases hk : kvs.lookup z with
      | none => rw [hk] at hd; rw [show r = none from hd]; rfl
      | some d => rw [hk] at hd; obtain ⟨u, rfl, _⟩ := hd; rfl
    rw [rep_str.mp rk]
    refine hF z r _ (by rw [hK]; exact hr) ?_
    rw [er]
    exact h2 w1 _ (Ext.refl w1) R1 rfl rfl rfl
  have D' : KDict X.K X.w ad es n := by rw [hK]; exact D
  cases neg with
  | true => exact PT.imp (pt_cmpR (op_notIn_kd D') (hb W tk) (pe_glob (v := .ref ad) hg hm rfl hdb) rfl) fun σ H Q hq => fin σ H Q _ (fun z r H1 hr q => ⟨z, r, rfl, rfl, hr, _, rfl, by simpa using q⟩) hq
  | false => exact PT.imp (pt_cmpR (op_in_kd D') (hb W tk) (pe_glob (v := .ref ad) hg hm rfl hdb) rfl) fun σ H Q hq => fin σ H Q _ (fun z r H1 hr q => ⟨z, r, rfl, rfl, hr, _, rfl, by simpa using q⟩) hq
theorem val_merge : ∀ {prs : List (Str × V)} {acc : List (L2.Key × V)} {z : Str}, (prs.map (·.1)).Nodup → L2.valV (mergeK acc (prs.map fun p => (Sum.inr p.1, p.2))) (.inr z) = (match prs.lookup z with
    | some v => some v
    | none => L2.valV acc (.inr z))
  | [], acc, z, _ => rfl
  | p :: prs, acc, z, h => by
    obtain ⟨k, v⟩ := p
    simp only [List.map_cons, List.nodup_cons] at h
    have ih := val_merge (prs := prs) (acc := L2.putK acc (.inr k) v) (z := z) h.2
    have e0 : mergeK acc ((((k, v) :: prs).map fun p => ((Sum.inr p.1, p.2) : L2.Key × V))) = mergeK (L2.putK acc (.inr k) v) (prs.map fun p => (Sum.inr p.1, p.2)) := rfl
    rw [e0, ih, L2.valV_put]
    by_cases e : z = k
    · subst e
      have e1 : List.lookup z ((z, v) :: prs) = some v := by simp [List.lookup]
      rw [e1]
      cases hl : prs.lookup z with
      | none => simp
      | some u =>
        exfalso
        apply h.1
        have key : ∀ {l : List (Str × V)}, l.lookup z = some u → z ∈ l.map (·.1) := by
          intro l
          induction l with
          | nil => intro h; simp at h
          | cons q l ih2 =>
            intro hq
            by_cases ez : z = q.1
            · rw [ez]; simp
            · have : (z == q.1) = false := by simpa using ez
              simp only [List.lookup, this] at hq
              exact List.mem_map.mpr (by obtain ⟨a, b, c⟩ := List.mem_map.mp (ih2 hq); exact ⟨a, List.mem_cons_of_mem _ b, c⟩)
        exact key hl
    · have : (z == k) = false := by simpa using e
      have e1 : List.lookup z ((k, v) :: prs) = List.lookup z prs := by simp [List.lookup, this]
      have e2 : ¬(Sum.inr z : L2.Key) = Sum.inr k := fun q => e (Sum.inr.inj q)
      rw [e1]
      simp [e2]
theorem pairsOf_cons {d : Dn.D} {ds : List Dn.D} {kvs : List (Str × Dn.D)} (h : pairsOf (d :: ds) = some kvs) : ∃ z d1 kv, d = .tup [.str z, d1] ∧ pairsOf ds = some kv ∧ kvs = (z, d1) :: kv := by
  cases d with
  | tup l =>
    match l, h with
    | [.str z, d1], h =>
      cases hp : pairsOf ds with
      | none => unfold pairsOf at h; rw [hp] at h; cases h
      | some kv => unfold pairsOf at h; rw [hp] at h; cases h; exact ⟨z, d1, kv, rfl, rfl, rfl⟩
    | [], h => cases h
    | [x], h => cases x <;> cases h
    | [.non, _], h => cases h
    | [.bl _, _], h => cases h
    | [.int _, _], h => cases h
    | [.tup _, _], h => cases h
    | [.lst _, _], h => cases h
    | [.obj _ _, _], h => cases h
    | [.ref _, _], h => cases h
    | [.fn _, _], h => cases h
    | x :: _ :: _ :: _, h => cases x <;> cases h
  | _ => cases h
theorem pairs_reps {w : Wd} : ∀ {ds : List Dn.D} {vs : List V} {kvs : List (Str × Dn.D)}, pairsOf ds = some kvs → Reps G w ds vs →
    ∃ (ps : List Addr) (prs : List (Str × V)), vs = ps.map V.ref ∧ prs.map (·.1) = kvs.map (·.1) ∧ Paired (fun p (kv : L2.Key × V) => SqT G.K w.H p [L2.kV kv.1, kv.2]) ps (prs.map fun p => (Sum.inr p.1, p.2)) ∧ ∀ z d, kvs.lookup z = some d → ∃ v, prs.lookup z = some v ∧ Rep G w d v
  | [], vs, kvs, h, r => by
    cases h
    rw [reps_nil.mp r]
    exact ⟨[], [], rfl, rfl, .nil, fun z d h => by simp at h⟩
  | d0 :: ds, vs, kvs, h, r => by
    obtain ⟨v, rr, rfl, r1, r2⟩ := reps_cons.mp r
    obtain ⟨z0, d1, kv, rfl, hp, rfl⟩ := pairsOf_cons h
    obtain ⟨ps, prs, rfl, h2, h3, h4⟩ := pairs_reps hp r2
    obtain ⟨a, us, rfl, f, q⟩ := rep_tup.mp r1
    obtain ⟨u1, u2, rfl, q1, q2⟩ := reps2 q
    rw [rep_str.mp q1] at f
    refine ⟨a :: ps, (z0, u2) :: prs, rfl, by simp [h2], .cons f.sq h3, fun z d hl => ?_⟩
    by_cases e : z = z0
    · subst e
      have e1 : List.lookup z ((z, d1) :: kv) = some d1 := by simp [List.lookup]
      rw [e1] at hl
      cases hl
      exact ⟨u2, by simp [List.lookup], q2⟩
    · have : (z == z0) = false := by simpa using e
      simp only [List.lookup, this] at hl ⊢
      exact h4 z d hl
theorem sim_dix {x : Str} {p2 : Pos} (hc : X.calm = true) (un : X.A.units + 65 < cLine) (hK : X.K = G.K) (hg : Gl X x) (hx : x = "dict") (hm : X.mg x = none) (ha : SimE G X a ma) (hb : SimE G X b mb) (na : NS a) (hs : NoSl b) :
    SimE G X (.Subscript (.Call (.Name x p) [a] [] p2) b pos) (fun Γ S => (ma Γ S).bind fun x S1 => match dictOf x S1 with
      | some kvs => (mb Γ S1).bind (opDget kvs)
      | none => .stuck) := fun W tk => by
  subst hx
  refine PE.imp (pe_dget (by omega) (pe_callTy (T := "dict") (call_dictP hc) hg hm (by rfl) (pa_cons (ha W tk) pa_nil (na _ _)) (by decide) (by decide) (na _ _) rfl) (hb W tk) hs) fun σ H Q ⟨Γ, w, hw, A, hf⟩ => ?_
  subst hw
  refine ⟨Γ, w, rfl, A, hf.bind fun w1 dx x e1 R1 p1 rx h1 => ?_⟩
  cases hl : dictOf dx w1.S with
  | none => rw [hl] at h1; exact h1.elim
  | some kvs =>
    rw [hl] at h1
    dsimp only at h1
    unfold dictOf at hl
    cases hl2 : (lstOf dx w1.S).bind pairsOf with
    | none => rw [hl2] at hl; cases hl
    | some kv =>
      rw [hl2] at hl
      dsimp only at hl
      split at hl
      case isFalse => cases hl
      rename_i hc2
      cases hl
      simp only [Bool.and_eq_true, decide_eq_true_eq] at hc2
      cases hl3 : lstOf dx w1.S with
      | none => rw [hl3] at hl2; cases hl2
      | some ds =>
        rw [hl3] at hl2
        have hp : pairsOf ds = some kvs := hl2
        obtain ⟨a0, vs, rfl, sq, q⟩ := rep_lstOf R1 rx hl3
        obtain ⟨ps, prs, rfl, g1, g2, g3⟩ := pairs_reps hp q
        refine ⟨a0, ps, prs.map fun p => (Sum.inr p.1, p.2), rfl, by rw [hK]; exact sq, by rw [hK]; exact g2, fun p hp0 => ?_⟩
        have e2 := Ext.laid (o := .dK (mergeK [] (prs.map fun p => (Sum.inr p.1, p.2)))) R1 hp0
        have R2 := R1.laid (o := .dK (mergeK [] (prs.map fun p => (Sum.inr p.1, p.2)))) hp0
        refine ⟨Γ, ⟨_, w1.S, w1.ρ, w1.pv⟩, rfl, (A.ext e1 R1).ext e2 R2, ?_⟩
        have h2 : Fin G (Rep G) (⟨upd w1.H p (.dK (mergeK [] (prs.map fun p => (Sum.inr p.1, p.2)))), w1.S, w1.ρ, w1.pv⟩ : Wd) σ ((mb Γ w1.S).bind (opDget kvs)) Q W := h1.base e2 rfl
        refine h2.bind fun w3 dk k e3 R3 p3 rk h3 => ?_
        have h3' := h3.zero (noX_dget _ _ _)
        cases dk <;> try exact h3'.elim
        rename_i z
        unfold opDget at h3'
        dsimp only at h3'
        cases hk : kvs.lookup z with
        | none => rw [hk] at h3'; exact h3'.elim
        | some d =>
          rw [hk] at h3'
          obtain ⟨v, hv, rv⟩ := g3 z d hk
          have nl : ¬ Live (⟨upd w1.H p (.dK (mergeK [] (prs.map fun p => (Sum.inr p.1, p.2)))), w1.S, w1.ρ, w1.pv⟩ : Wd) p := fun hlv => by
            rcases hlv with ⟨i, o, hS, hρ⟩ | hpv
            · obtain ⟨u, hu⟩ := R1.has i p hρ
              rw [hp0] at hu; cases hu
            · obtain ⟨u, hu⟩ := R1.pvh p hpv
              rw [hp0] at hu; cases hu
          obtain ⟨k1, _⟩ := e3.keep p _ upd_same nl
          rw [rep_str.mp rk]
          have hm2 := val_merge (prs := prs) (acc := []) (z := z) (by rw [g1]; exact hc2.1)
          rw [hv] at hm2
          refine ⟨p, v, rfl, ?_, Fin0.ok h3' R3 (Rep.ext e3.wk _ _ (Rep.ext e2.wk _ _ rv))⟩
          have hD := DGet.k (k := Sum.inr z) k1
          rw [hm2] at hD
          exact hD
theorem noX_m1 (cnt : Bool) (x y : Dn.D) (S : Store) : NoX (opM1 cnt x y S) := by
  intro c xs S' h
  unfold opM1 at h
  repeat' (split at h)
  all_goals cases h
def m1Id (cnt : Bool) : String := if cnt then "list.count" else "list.index"
def m1Nm (cnt : Bool) : Str := if cnt then "count" else "index"
def rM1 (G : Gx) (cnt : Bool) : V → List V → Hp → VK → Prop := fun x vs H Q => ∃ (w : Wd) (dx dy : Dn.D) (y : V), vs = [y] ∧ w.H = H ∧ Rel G w ∧ Rep G w dx x ∧ Rep G w dy y ∧ Fin0 G (Rep G) w (opM1 cnt dx dy w.S) Q
mutual
theorem flat_plain : ∀ (n : Nat) (d : Dn.D), flat n d = true → (toPy d).plain = true
  | _, .non, _ => by simp [toPy, PyData.plain]
  | _, .bl _, _ => by simp [toPy, PyData.plain]
  | _, .int _, _ => by simp [toPy, PyData.plain]
  | _, .str _, _ => by simp [toPy, PyData.plain]
  | n + 1, .lst xs, h => by
    simp only [flat] at h
    simp only [toPy, PyData.plain]
    exact flats_plain n xs h
  | n + 1, .tup xs, h => by
    simp only [flat] at h
    simp only [toPy, PyData.plain]
    exact flats_plain n xs h
  | 0, .lst _, h => by simp [flat] at h
  | 0, .tup _, h => by simp [flat] at h
  | n, .obj _ _, h => by cases n <;> simp [flat] at h
  | n, .ref _, h => by cases n <;> simp [flat] at h
  | n, .fn _, h => by cases n <;> simp [flat] at h
theorem flats_plain : ∀ (n : Nat) (ds : List Dn.D), flats n ds = true → PyData.plainAll (toPys ds) = true
  | _, [], _ => by simp [toPys, PyData.plainAll]
  | n, d :: ds, h => by
    simp only [flats, Bool.and_eq_true] at h
    simp only [toPys, PyData.plainAll, Bool.and_eq_true]
    exact ⟨flat_plain n d h.1, flats_plain n ds h.2⟩
end
theorem toPys_len : ∀ ds : List Dn.D, (toPys ds).length = ds.length
  | [] => by simp [toPys]
  | d :: ds => by simp [toPys, toPys_len ds]
theorem toPys_get : ∀ (ds : List Dn.D) (j : Nat), (toPys ds)[j]? = (ds[j]?).map toPy
  | [], j => by simp [toPys]
  | d :: ds, 0 => by simp [toPys]
  | d :: ds, j + 1 => by simp [toPys, toPys_get ds j]
theorem toPys_count {d : Dn.D} (hd : flat 60 d = true) : ∀ {ds : List Dn.D}, flats 60 ds = true → ((toPys ds).countP fun z => PyData.eqv z (toPy d)) = ds.countP fun z => eqv z d
  | [], _ => by simp [toPys]
  | z :: ds, h => by
    simp only [flats, Bool.and_eq_true] at h
    simp only [toPys, List.countP_cons, toPys_count hd h.2, eqv_py 60 60 z d h.1 hd]
theorem flats_at : ∀ {ds : List Dn.D}, flats 60 ds = true → ∀ d ∈ ds, flat 60 d = true
  | z :: ds, h, d, hd => by
    simp only [flats, Bool.and_eq_true] at h
    rcases List.mem_cons.mp hd with e | e
    · rw [e]; exact h.1
    · exact flats_at h.2 d e
theorem ok_m1 (hK : X.K = G.K) (hu : X.A.units + 65 < cLine) (cnt : Bool) : MtR X (m1Id cnt) (rM1 G cnt) := by
  intro pins s σ H x vs v us Q I rx rv h
  obtain ⟨w, dx, dy, y, rfl, rfl, R, px, py, hf⟩ := h
  cases rv with
  | cons ry rn =>
  cases rn
  rename_i uy
  unfold opM1 at hf
  split at hf
  case h_2 => exact hf.elim
  rename_i xs hxs
  split at hf
  case isFalse => exact hf.elim
  rename_i hc
  simp only [Bool.and_eq_true, decide_eq_true_eq] at hc
  obtain ⟨⟨h1, h2⟩, h3⟩ := hc
  obtain ⟨a, ws, rfl, sq, q⟩ := rep_lstOf R px hxs
  cases rx
  obtain ⟨bs, rb⟩ := Dp.reads I _ y uy (flat_dp hK 60 dy y h1 py) ry
  obtain ⟨its, rv, pl, hz⟩ := I.list (by rw [hK]; exact sq)
  obtain ⟨as, ra⟩ := Dp.readsAll I _ ws its (flats_dp hK 60 xs ws h2 q) rv
  have l1 := flat_lay 60 dy h1
  have l2 := flats_lay 60 xs h2
  cases cnt with
  | true =>
    rw [if_pos rfl] at hf
    refine SeqAt.count_list_data pl.isList (by simpa using ra) rb (flats_plain 60 xs h2) (flat_plain 60 dy h1) (by omega) ?_
    rw [toPys_count h1 h2]
    exact ⟨.int _, w.H, I.tok _, ⟨_, rfl⟩, Fin0.ok hf R (by simp [Rep])⟩
  | false =>
    rw [if_neg (by decide)] at hf
    split at hf
    · rename_i hany
      have hlen : its.length = (xs.map fun z => eqv z dy).length := by rw [List.length_map, q.length, rv.length]
      refine SeqAt.call_list_index pl.isList (ks := xs.map fun z => eqv z dy) (k := true) ⟨hlen, fun j h1' h2' => ?_⟩ (by rw [List.length_map, ← line_eq]; exact h3) ?_ ?_
      · rw [List.length_map] at h2'
        have hx : flat 60 xs[j] = true := flats_at h2 _ (List.getElem_mem h2')
        obtain ⟨v1, hv1, rv1⟩ := q.get (List.getElem?_eq_getElem h2')
        obtain ⟨u1, hu1, ru1⟩ := rv.get hv1
        have e1 : u1 = its[j] := by
          rw [List.getElem?_eq_getElem h1'] at hu1
          exact (Option.some.inj hu1).symm
        subst e1
        obtain ⟨cs, rc⟩ := Dp.reads I _ v1 its[j] (flat_dp hK 60 _ v1 hx rv1) ru1
        have l3 := flat_lay 60 _ hx
        have q2 : SeqAt.EqAt X.A.in1 s its[j] uy (PyData.eqv (toPy xs[j]) (toPy dy)) := SeqAt.eqAt_reads (toPy xs[j]) (toPy dy) X.A.in1 s its[j] uy cs bs rc rb l3.1 l1.1 (by show X.A.units + 1 + _ < _; omega)
        rw [eqv_py 60 60 _ dy hx h1] at q2
        simp only [List.getElem_map]
        cases hh : eqv xs[j] dy <;> (rw [hh] at q2; simpa using q2)
      · obtain ⟨z, hz1, hz2⟩ := List.any_eq_true.mp hany
        exact List.mem_map.mpr ⟨z, hz1, hz2⟩
      · exact ⟨.int _, w.H, I.tok _, ⟨_, rfl⟩, Fin0.ok hf R (by simp [Rep])⟩
    · exact hf.elim
theorem m1_slot (cnt : Bool) : Slot "list" (m1Nm cnt) (m1Id cnt) := by
  cases cnt
  · exact PySem.F.slot_list_index
  · exact PySem.F.slot_list_count
theorem m1_type (cnt : Bool) : typeOf (.builtin (m1Id cnt)) = pure (.type "method_descriptor") := by
  cases cnt
  · exact PySem.F.type_list_index
  · exact PySem.F.type_list_count
theorem sim_m1 {cpos : Pos} (cnt : Bool) (hK : X.K = G.K) (hu : X.A.units + 65 < cLine) (ho : SimE G X o mo) (ha : SimE G X a ma) (na : NS a) (hbase : attributeBase o (m1Nm cnt) X.env (eval o X.env) = eval o X.env) (hline : (apos.endLine == cpos.line) = true) :
    SimE G X (.Call (.Attribute o (m1Nm cnt) apos) [a] [] cpos) (fun Γ S => (mo Γ S).bind fun x S1 => if (lstOf x S1).isSome then (ma Γ S1).bind fun y S2 => opM1 cnt x y S2 else .stuck) := fun W tk => by
  have ns : ∀ x ∈ [a], NS x := fun x hx => by rw [List.mem_singleton.mp hx]; exact na
  have hany := ns_any (pos := cpos) (env := X.env) ns
  refine PE.imp (pe_bm PySem.F.plainAttrs_list (m1_slot cnt) (m1_type cnt) (ok_m1 hK hu cnt) (ho W tk) (pa_cons (ha W tk) pa_nil (na _ _)) hbase ?_ hline (na _ _) rfl) fun σ H Q h => ?_
  · have h1 : (backTo cpos (starEach [a] X.env)).all (fun x => !x.1) = true := by
      rw [List.all_eq_not_any_not]
      simpa using hany
    rw [h1]
    rfl
  · obtain ⟨Γ, w, hw, A, hf⟩ := h
    refine ⟨Γ, w, hw, A, hf.bind fun w1 d x e1 R1 p1 rx h1 => ?_⟩
    split at h1
    · rename_i hty
      refine ⟨?_, Γ, w1, rfl, A.ext e1 R1, h1.bind fun w2 dy y e2 R2 p2 ry h2 => ⟨w2, d, dy, y, rfl, rfl, R2, Rep.ext e2.wk _ _ rx, ry, h2.zero (noX_m1 _ _ _ _)⟩⟩
      cases hl : lstOf d w1.S with
      | none => rw [hl] at hty; cases hty
      | some xs =>
        obtain ⟨b, vs, rfl, sq, _⟩ := rep_lstOf R1 rx hl
        exact .inl ⟨rfl, vs, by rw [hK]; exact sq⟩
    · exact h1.elim
theorem noX_sorted (x : Dn.D) (S : Store) : ∀ c xs S', opSorted x S ≠ .exn c xs S' := by
  intro c xs S' h
  unfold opSorted at h
  repeat' (split at h)
  all_goals cases h
theorem pyDs_mem : ∀ {ds : List Dn.D} {ps : List PyData}, pyDs ds = some ps → ps = ds.map pyd ∧ ∀ d ∈ ds, pyD d = some (pyd d)
  | [], _, e => by cases e; exact ⟨rfl, fun d h => by cases h⟩
  | d :: ds, ps, e => by
    unfold pyDs at e
    split at e
    · rename_i p q h1 h2
      cases e
      obtain ⟨i1, i2⟩ := pyDs_mem h2
      have e1 : pyd d = p := by unfold pyd; rw [h1]; rfl
      refine ⟨by rw [List.map_cons, e1, ← i1], fun d' hd => ?_⟩
      rcases List.mem_cons.mp hd with z | z
      · rw [z, e1]; exact h1
      · exact i2 d' z
    · cases e
theorem each_of {w : Wd} {h : Heap} {P : Program} {wd : World} (hok : HOk P wd w.H h) (KX : G.K.In h) : ∀ {ds : List Dn.D} {vs : List V} {us : List Value}, (∀ d ∈ ds, pyD d = some (pyd d)) → Reps G w ds vs → Vals vs us →
    ∃ bs : List (Dn.D × V), bs.map (·.1) = ds ∧ PySem.W.EachIs (fun (u : Value) (b : Dn.D × V) => RelV b.2 u ∧ Rep G w b.1 b.2) us bs ∧ PySem.W.EachIs (fun (u : Value) (b : Dn.D × V) => ∃ as, Reads h u (pyd b.1) as) us bs
  | [], vs, us, _, r, rv => by
    rw [reps_nil.mp r] at rv
    cases rv
    exact ⟨[], rfl, .nil, .nil⟩
  | d :: ds, vs, us, hp, r, rv => by
    obtain ⟨v, rr, rfl, r1, r2⟩ := reps_cons.mp r
    cases rv with
    | cons x y =>
      obtain ⟨bs, h1, h2, h3⟩ := each_of hok KX (fun d' hd => hp d' (List.mem_cons_of_mem _ hd)) r2 y
      exact ⟨(d, v) :: bs, by simp [h1], .cons ⟨x, r1⟩ h2, .cons (reads_of hok KX (hp d List.mem_cons_self) r1 x) h3⟩
theorem each_back {w : Wd} : ∀ {us : List Value} {bs : List (Dn.D × V)}, PySem.W.EachIs (fun (u : Value) (b : Dn.D × V) => RelV b.2 u ∧ Rep G w b.1 b.2) us bs → Vals (bs.map (·.2)) us ∧ Reps G w (bs.map (·.1)) (bs.map (·.2))
  | _, _, .nil => ⟨.nil, Reps.nil⟩
  | _, _, .cons h t => by
    obtain ⟨h1, h2⟩ := each_back t
    exact ⟨.cons h.1 h1, reps_cons.mpr ⟨_, _, rfl, h.2, h2⟩⟩
def rSortD (G : Gx) : List V → Hp → VK → Prop := fun xs H Q => ∃ (w : Wd) (dx : Dn.D) (x : V) (ds : List Dn.D), xs = [x] ∧ w.H = H ∧ Rel G w ∧ Rep G w dx x ∧ opSorted dx w.S = .ok ds w.S ∧ ∀ (vs : List V) (p : Addr), w.H p = none → Reps G w ds vs → Q (.ref p) (upd w.H p (.lst vs))
theorem ok_sorted (hK : X.K = G.K) (un : X.A.units + 65 < cLine) : CallR X (.builtin "sorted") (rSortD G) := by
  intro pins s σ H xs us Q I rs h
  obtain ⟨w, dx, x, ds, rfl, rfl, R, px, ho, q⟩ := h
  unfold opSorted at ho
  split at ho
  case h_2 => cases ho
  rename_i ys hys
  split at ho
  case h_2 => cases ho
  rename_i ps hps
  split at ho
  case isFalse => cases ho
  rename_i hc
  simp only [Bool.and_eq_true, decide_eq_true_eq, Bool.or_eq_true] at hc
  obtain ⟨⟨⟨c1, c2⟩, c3⟩, c4⟩ := hc
  cases ho
  obtain ⟨a, vs, rfl, sq, qv⟩ := rep_lstOf R px hys
  obtain ⟨u, rfl, rx⟩ := vals1 rs
  cases (show u = Value.ref a from rx)
  obtain ⟨its, rv, pl, hz⟩ := I.list (by rw [hK]; exact sq)
  obtain ⟨e1, e2⟩ := pyDs_mem hps
  obtain ⟨bs, b1, b2, b3⟩ := each_of I.hok (by rw [← hK]; exact I.kIn) e2 qv rv
  have em : bs.map (fun b => pyd b.1) = ps := by rw [e1, ← b1, List.map_map]; rfl
  have hal : PySem.W.AllAlike (bs.map fun b => pyd b.1) := by
    rw [em]
    exact fun x hx y hy => List.all_eq_true.mp (List.all_eq_true.mp c1 x hx) y hy
  have hso : PySem.W.Sortable (bs.map fun b => pyd b.1) := by
    rw [em]
    rcases c2 with c2 | c2
    · refine .inl fun d hd => ?_
      have := List.all_eq_true.mp c2 d hd
      unfold tup1 at this
      split at this
      · exact ⟨_, _, rfl⟩
      · cases this
    · refine .inr fun d hd => ?_
      have := List.all_eq_true.mp c2 d hd
      unfold notTup at this
      split at this
      · cases this
      · cases this
      · rename_i n1 n2
        exact ⟨fun z => n2 z, fun xs z => n1 xs z⟩
  have hlen : bs.length = ys.length := by rw [← b1, List.length_map]
  refine PySem.W.sorted_data pl.isList b2 b3 hal hso (by rw [hlen, ← line_eq]; exact c3) (fun b hb => ?_) fun out ho he => ?_
  · have hb' : pyd b.1 ∈ ps := by rw [← em]; exact List.mem_map.mpr ⟨b, hb, rfl⟩
    have : (pyd b.1).depth ≤ PyData.depthAll ps := by
      clear c1 c2 hal hso hps e1 em
      induction ps with
      | nil => cases hb'
      | cons p ps ih =>
        rw [PyData.depthAll]
        rcases List.mem_cons.mp hb' with z | z
        · rw [z]; exact Nat.le_max_left _ _
        · rw [PyData.depthAll] at c4
          exact Nat.le_trans (ih (by omega) z) (Nat.le_max_right _ _)
    omega
  · obtain ⟨r1, r2⟩ := each_back he
    obtain ⟨ep, he'⟩ := PyProof.Rows.sortedAll_at s.heap its out.toArray
    have hd : (bs.mergeSort (PySem.W.dataLe false fun b => pyd b.1)).map (·.1) = ys.mergeSort (PySem.W.dataLe false pyd) := by
      have q0 := List.map_mergeSort (r := PySem.W.dataLe false fun b : Dn.D × V => pyd b.1) (s := PySem.W.dataLe false pyd) (f := fun b : Dn.D × V => b.1) (l := bs) fun a _ b _ => rfl
      rw [b1] at q0
      exact q0
    rw [hd] at r2
    have hl2 : ((bs.mergeSort (PySem.W.dataLe false fun b => pyd b.1)).map (·.2)).length ≤ sizeLine := by
      rw [List.length_map, List.length_mergeSort, hlen, ← line_eq]
      exact c3
    refine ⟨.ref _, _, I.laid (t' := s.toks) (a := s.heap.objs.size + 1) (o := .lst ((bs.mergeSort (PySem.W.dataLe false fun b => pyd b.1)).map (·.2))) (fun _ _ => PyProof.Rows.sortedAll_old) (Nat.le_succ _) ⟨hl2, out, ep, r1, he'⟩, rfl, q _ _ (I.hok.fresh (Nat.le_succ _)) r2⟩
theorem sim_sorted {x : Str} (hK : X.K = G.K) (un : X.A.units + 65 < cLine) (hg : Gl X x) (hx : x = "sorted") (hm : X.mg x = none) (ha : SimE G X a ma) (na : NS a) :
    SimL G X (.Call (.Name x p) [a] [] pos) (fun Γ S => (ma Γ S).bind opSorted) := fun W tk => by
  subst hx
  refine PE.imp (pe_callB (ok_sorted hK un) hg hm (by rfl) (pa_cons (ha W tk) pa_nil (na _ _)) (by decide) (by decide) (na _ _) rfl) fun σ H Q h => ?_
  obtain ⟨Γ, w, hw, A, hf⟩ := h
  refine ⟨Γ, w, hw, A, ?_⟩
  dsimp only at hf
  cases hm : ma Γ w.S with
  | ok d S =>
    rw [hm, bind_ok] at hf
    intro w1 x e1 R1 s1 p1 rx
    subst s1
    cases ho : opSorted d w1.S with
    | ok ds S2 =>
      have hS : S2 = w1.S := by
        unfold opSorted at ho
        repeat' (split at ho)
        all_goals first | (cases ho; rfl) | cases ho
      subst hS
      rw [ho] at hf
      exact ⟨w1, d, x, ds, rfl, rfl, R1, rx, ho, fun vs p hp q => Fin.ofL R1 hp q (FinL.base e1 p1 (fun p h => e1.none h) hf)⟩
    | exn c xs S2 => exact absurd ho (noX_sorted _ _ _ _ _)
    | stuck => rw [ho] at hf; exact hf.elim
  | exn c xs S => rw [hm] at hf; exact hf
  | stuck => rw [hm] at hf; exact hf
/-- what the classes with an own __eq__ must show -/
def EqF (G : Gx) (tb : Tab) (m : Nat) : Prop := ∀ c g, tb.mt c m = some g → tb.ic c = true → PySem.W.findIn G.K (.ref (G.ca c)) "__ne__" = some (some (.builtin "object.__ne__")) ∧ PySem.W.mroIn G.K (G.ca c) (.type "object") = some true ∧ ∀ k : DT, k.good tb.ic = true → PySem.W.notFirst G.K (G.ca c) (k.v G) = true
theorem noX_ceq (φ : Nat → List Dn.D → Store → Out Dn.D) (neg : Bool) (m : Nat) (x y : Dn.D) (S : Store) : NoX (opCeq tb φ neg m x y S) := by
  intro c xs S' h
  unfold opCeq at h
  repeat' (split at h)
  all_goals cases h
theorem cls_at {w : Wd} {x : Dn.D} {v : V} {c : Nat} (R : Rel G w) (r : Rep G w x v) (h : clsOf x w.S = some c) : ∃ a dx fs, v = .ref a ∧ w.H a = some (.ins (G.ca c) dx fs) := by
  unfold clsOf at h
  cases x with
  | obj c' xs =>
    cases h
    obtain ⟨a, dx, vs, rfl, hH, _⟩ := (by simpa [Rep] using r : ∃ a dx vs, v = .ref a ∧ w.H a = some (.ins (G.ca c) dx (((G.cf c).map G.nm).zip vs)) ∧ ¬ Live w a ∧ vs.length = (G.cf c).length ∧ Reps G w xs vs)
    exact ⟨a, dx, _, rfl, hH⟩
  | ref i =>
    dsimp only at h
    obtain ⟨a, rfl, ha⟩ := rep_ref.mp r
    split at h
    · rename_i c' fs hS
      cases h
      obtain ⟨b, hb, dx, vfs, h1, h2⟩ := R.at_ i _ hS
      rw [ha] at hb; cases hb
      exact ⟨a, dx, vfs, rfl, h1⟩
    · cases h
  | _ => cases h
theorem ok_ceq {k m : Nat} {φ : Nat → List Dn.D → Store → Out Dn.D} (neg : Bool) (gd : X.A.guards = some []) (pf : Pf G tb kl) (pk : Pk G tb.ic) (hK : X.K = G.K) (hm : G.nm m = "__eq__") (ef : EqF G tb m) (cal : ∀ c' g, tb.mt c' m = some g → Callee G X k g (φ g)) (hr : Room (k + 1) X.A) :
    OpR X (compareOp (if neg then .NotEq else .Eq)) (rCmp G (opCeq tb φ neg m)) := by
  intro pins s σ H x y v u Q I rx ry h
  obtain ⟨w, dx, dy, rfl, R, px, py, hf⟩ := h
  unfold opCeq at hf
  split at hf
  case h_2 => exact hf.elim
  rename_i g kt hg hkt
  split at hf
  case h_2 => exact hf.elim
  rename_i b S1 hφ
  obtain ⟨a, C, dxx, fs, rfl, hH, c1, c2, hl0⟩ := meth_at pf R px hg
  rw [hm] at c2
  cases hcl : clsOf dx w.S with
  | none => rw [hcl] at hkt; cases hkt
  | some c =>
  rw [hcl] at hkt
  have hkt' : (if tb.ic c then dtOf tb.ic dy w.S else none) = some kt := hkt
  split at hkt'
  case isFalse => cases hkt'
  rename_i hic
  obtain ⟨a', dx', fs', e, hH'⟩ := cls_at R px hcl
  cases e
  rw [hH] at hH'
  cases hH'
  have hmt : tb.mt c m = some g := by
    unfold opMeth at hg
    unfold clsOf at hcl
    cases dx with
    | obj c' xs =>
      cases hcl
      dsimp only at hg
      split at hg
      · cases hg
      · exact hg
    | ref i =>
      dsimp only at hg hcl
      split at hcl
      · rename_i c' fs2 hS
        cases hcl
        rw [hS] at hg
        dsimp only at hg
        split at hg
        · cases hg
        · exact hg
      · cases hcl
    | _ => cases hcl
  obtain ⟨ef1, ef2, ef3⟩ := ef c g hmt hic
  obtain ⟨g1, g2⟩ := ty_data pk R py hkt'
  cases (show v = Value.ref a from rx)
  obtain ⟨PP, Z, pp, _⟩ := kit_of I ry (by rw [hK]; exact g2)
  obtain ⟨mA, J, _⟩ := ins_get I.hok hH
  obtain ⟨od, J, _⟩ := J.look
  obtain ⟨mF, hF⟩ := I.fr
  obtain ⟨np, fd, ps, F, hb, har⟩ := (cal c g hmt).ex
  have r2 : Vals [V.ref a, y] [Value.ref a, u] := .cons rfl (.cons ry .nil)
  have hsp : spD G np (φ g) [.ref a, y] w.H (fun z H' => z = .bl b ∧ ∃ w' : Wd, w'.H = H' ∧ Ext w w' ∧ Rel G w' ∧ w'.S = S1 ∧ w'.pv = w.pv) (WE (fun _ _ _ _ => False) σ) := by
    refine sp_of (k := k) (f := g) (ds := [dx, dy]) R (reps_cons.mpr ⟨_, _, rfl, px, Reps.one py⟩) har ?_
    rw [hφ]
    exact fun w' z e1 R1 s1 p1 rz => ⟨rep_bl.mp rz, w', rfl, e1, R1, s1, p1⟩
  have run : ∀ A : Around, A.guards = some [] → Room k A → A.frames = X.A.frames → wpAny (model X.prog X.w) A (call (.ref (G.fa g)) [.ref a, u]) (fun r s' => ∃ H', L2.Inv X pins σ H' s' ∧ r = .bool b ∧ ∃ w' : Wd, w'.H = H' ∧ Ext w w' ∧ Rel G w' ∧ w'.S = S1 ∧ w'.pv = w.pv) X.xe s := by
    intro A gA rA fA
    have e0 : Env0 X.prog X.w X.K X.mg X.base A X.stack s w.H := by
      have e := I.env0
      exact ⟨by rw [fA]; exact e.frames, e.mod, e.bs, e.bsz, e.funs, e.frf, e.hok, e.bare⟩
    have hl := F.len _ _ _ _ hsp
    refine wpAny_call (codeAny_mono (F.run A X.stack s w.H ⟨[.ref a, u], []⟩ [.ref a, u] [.ref a, y] _ (fun _ _ _ => False) gA rA e0 (by
      have := hb s [.ref a, u] I.kIn (by simpa using hl)
      simpa using this) r2 hsp) fun r s' hq => ?_)
    cases r with
    | error e =>
      exfalso
      obtain ⟨_, _, _, _, _, _, _, _, _, _, _, _, z⟩ := hq
      exact z.elim
    | ok fl =>
      cases fl with
      | ret z =>
        obtain ⟨zz, H', I', rz, ez, ex⟩ := I.after hq
        subst ez
        cases rz
        exact ⟨H', I', rfl, ex⟩
      | next => exact False.elim hq
      | brk => exact False.elim hq
      | cont => exact False.elim hq
  have fin : ∀ (q : Bool) (s' : Shared) (w' : Wd), L2.Inv X pins σ w'.H s' → Ext w w' → Rel G w' → w'.S = S1 → w'.pv = w.pv → q = (b != neg) → EP X pins σ Q (.bool q) s' := fun q s' w' I' e1 R1 s1 p1 hq => by
    refine ⟨.bl q, w'.H, I', rfl, ?_⟩
    have := hf w' (b != neg) e1 R1 (by rw [s1]) p1 rfl
    rw [hq]
    exact this
  cases neg with
  | false =>
    refine PySem.W.cmp_K (op := .Eq) (tb := kt.v G) hr.units0 hF I.ok.mod.kin J (Z.ty _ _ I.kIn pp) (by rw [hK]; exact ef3 kt g1) (by rw [hK]; exact c2.at_) (by rw [hK]; exact c2.fn) ?_
    refine wpAny_mono (run X.A gd (hr.mono (Nat.le_succ _)) rfl) (fun r s' h => ?_) fun _ _ x => x
    obtain ⟨H', I', rfl, w', rfl, e1, R1, s1, p1⟩ := h
    exact fin b s' w' I' e1 R1 s1 p1 (by simp)
  | true =>
    refine PySem.W.dn_cmp_ne (tb := kt.v G) (by have := hr.un; omega) hF I.ok.mod.kin J (Z.ty _ _ I.kIn pp) (by rw [hK]; exact ef3 kt g1) (by rw [hK]; exact c2.at_) (by rw [hK]; exact ef1) (by rw [hK]; exact ef2) (by rw [hK]; exact c2.fn) ?_
    refine wpAny_mono (run X.A.in1 gd hr.in1 rfl) (fun r s' h => ?_) fun _ _ x => x
    obtain ⟨H', I', rfl, w', rfl, e1, R1, s1, p1⟩ := h
    exact ⟨b, rfl, fin (!b) s' w' I' e1 R1 s1 p1 (by simp)⟩
theorem sim_ceq {k m : Nat} {φ : Nat → List Dn.D → Store → Out Dn.D} (neg : Bool) (gd : X.A.guards = some []) (pf : Pf G tb kl) (pk : Pk G tb.ic) (hK : X.K = G.K) (hm : G.nm m = "__eq__") (ef : EqF G tb m) (cal : ∀ c' g, tb.mt c' m = some g → Callee G X k g (φ g)) (hr : Room (k + 1) X.A)
    (ha : SimE G X a ma) (hb : SimE G X b mb) (hmk : behindInMarks (if neg then .NotEq else .Eq) b = false) :
    SimE G X (.Compare a [if neg then .NotEq else .Eq] [b] pos) (fun Γ S => ((ma Γ S).bind fun x S1 => (mb Γ S1).bind fun y S2 => opCeq tb φ neg m x y S2).bind fun b S => .ok (.bl b) S) := fun W tk => by
  refine PE.imp (pe_cmpR (ok_ceq neg gd pf pk hK hm ef cal hr) (ha W tk) (hb W tk) hmk) fun σ H Q h => ?_
  have h2 : tD G W (fun Γ S => (ma Γ S).bind fun x S1 => (mb Γ S1).bind fun y S2 => (opCeq tb φ neg m x y S2).bind fun b S => .ok (.bl b) S) σ H Q := by
    simpa only [bind_assoc'] using h
  exact tD.two h2 fun w dx dy x y R px py hf => ⟨w, dx, dy, rfl, R, px, py, hf.vals.zero (noX_ceq _ _ _ _ _ _)⟩
theorem sim_ceqT {k m : Nat} {φ : Nat → List Dn.D → Store → Out Dn.D} (neg : Bool) (gd : X.A.guards = some []) (pf : Pf G tb kl) (pk : Pk G tb.ic) (hK : X.K = G.K) (hm : G.nm m = "__eq__") (ef : EqF G tb m) (cal : ∀ c' g, tb.mt c' m = some g → Callee G X k g (φ g)) (hr : Room (k + 1) X.A)
    (ha : SimE G X a ma) (hb : SimE G X b mb) (hmk : behindInMarks (if neg then .NotEq else .Eq) b = false) :
    SimT G X (.Compare a [if neg then .NotEq else .Eq] [b] pos) (fun Γ S => (ma Γ S).bind fun x S1 => (mb Γ S1).bind fun y S2 => opCeq tb φ neg m x y S2) := fun W tk =>
  PT.imp (pt_cmpR (ok_ceq neg gd pf pk hK hm ef cal hr) (ha W tk) (hb W tk) hmk) fun σ H Q h => tD.twoB h fun w dx dy x y R px py hf => ⟨w, dx, dy, rfl, R, px, py, (hf.zero (noX_ceq _ _ _ _ _ _)).mono fun b H' q => ⟨b, rfl, q⟩⟩
end
end Dn

set_option maxHeartbeats 4000000
namespace Dn
open PySem PySem.Spec PyProof.Rows L2

structure Nt where
  /-- a global def's name -/
  fn : Nat → Option Str
  /-- a class's -/
  cn : Nat → Option Str
  nm : Nat → Str
  /-- a constant's; a dict's -/
  gn : Nat → Option Str := fun _ => none
  dn : Nat → Option Str := fun _ => none
  /-- the names of the parameters of an error class's __init__, in an order -/
  kn : Nat → List Nat → List Str := fun _ _ => []
structure Cfg where
  N : List Str
  sc : Scope
  calm : Bool
  esl : Option Nat := none
  raw : Option Scope := none
/-- a captured name that may be stored -/
def Cfg.cel (c : Cfg) (x : Str) : Bool := match c.raw with
  | none => true
  | some s => s.names.lookup x == some .cell
def visB (sc : Scope) (x : Str) : Bool := match sc.names.lookup x with
  | some .local => true
  | some .cell => true
  | some .free => true
  | _ => false
def locB (sc : Scope) (x : Str) : Bool := match sc.names.lookup x with
  | some .local => true
  | some .cell => true
  | _ => false
def okNm (x : Str) : Bool := !(x == ("__debug__" : Str)) && !(x == ("__classdict__" : Str)) && !(x == ("__name__" : Str))
def nmB (c : Cfg) (i : Nat) (x : Str) : Bool := decide (c.N[i]? = some x) && visB c.sc x && okNm x
def glB (c : Cfg) (x : Str) : Bool := decide (c.sc.names.lookup x = some .globalImplicit) && okNm x
/-- the built-ins that are leaned on: the module binds none of them -/
def blts : List Str := ["len", "abs", "int", "tuple", "list", "sum", "min", "max", "all", "any", "range", "enumerate", "zip", "isinstance", "str", "bool", "repr", "sorted", "dict", "ValueError", "LookupError", "RuntimeError"]
/-- built-in classes that errors are asked for -/
def xbs : List String := ["ValueError", "LookupError", "RuntimeError"]
def nsB : Expr → Bool
  | .Starred _ _ => false
  | _ => true
theorem nsB_ok : ∀ {e : Expr}, nsB e = true → NS e := by
  intro e h es env
  cases e <;> first | rfl | cases h
def baseB : Expr → Bool
  | .Call (.Name _ _) [] [] _ => false
  | _ => true
theorem baseB_ok {o : Expr} {f : Str} {env : Env} {w : Sem Value} (h : baseB o = true) : attributeBase o f env w = w := by
  unfold attributeBase
  split
  · simp [baseB] at h
  · rfl
def bOp : BOp → Operator → Bool
  | .add, .Add => true | .sub, .Sub => true | .mul, .Mult => true | .fdiv, .FloorDiv => true | .mod, .Mod => true | .pow, .Pow => true
  | _, _ => false
theorem bOp_ok {a : BOp} {b : Operator} (h : bOp a b = true) : b = pyOp a := by
  cases a <;> cases b <;> first | rfl | cases h
def idxB : Expr → Bool
  | .Slice _ _ _ _ => false
  | _ => true
def tyB (nt : Nt) (c : Cfg) : Ty → Expr → Bool
  | .cls k, .Name x _ => glB c x && decide (nt.cn k = some x)
  | t, .Name x _ => glB c x && decide (x = t.nm) && decide (t.nm ≠ "")
  | _, _ => false
def tysB (nt : Nt) (c : Cfg) : List Ty → List Expr → Bool
  | [], [] => true
  | t :: ts, e :: es => tyB nt c t e && tysB nt c ts es
  | _, _ => false
mutual
def tgB (nt : Nt) (tb : Tab) (c : Cfg) : Tg → Expr → Bool
  | .nm i, .Name x _ => decide (c.N[i]? = some x) && (decide (c.sc.names.lookup x = some .local) || (decide (c.sc.names.lookup x = some .cell) && c.cel x)) && decide (c.esl ≠ some i)
  | .tup ts, .Tuple es _ _ => c.calm && tgsB nt tb c ts es
  | .att i f k, .Attribute (.Name x _) fx _ => nmB c i x && decide (fx = nt.nm f) && (tb.cf k).contains f
  | _, _ => false
def tgsB (nt : Nt) (tb : Tab) (c : Cfg) : List Tg → List Expr → Bool
  | [], [] => true
  | t :: ts, e :: es => tgB nt tb c t e && tgsB nt tb c ts es
  | _, _ => false
end
def Tg.plain : Tg → Bool
  | .att _ _ _ => false
  | _ => true
def cstB : D → Const → Bool
  | .non, .none => true
  | .bl a, .bool b => a == b
  | .int a, .int b => decide (a = b)
  | .str a, .str b => decide (a = b)
  | _, _ => false
def isTupB : Expr → Bool
  | .Tuple _ _ _ => true
  | _ => false
/-- what may be walked only by a pair of names -/
def pairE : E → Bool
  | .enum _ => true
  | .zip _ => true
  | _ => false
def lstE : E → Bool
  | .disp _ => true
  | .comp _ _ _ _ => true
  | .b1 .list _ => true
  | .lrng _ _ => true
  | .sorted _ => true
  | _ => false
def ownB (N : List Str) (is : List Nat) : List (Str × Nat) := is.map fun i => (N.getD i ("" : Str), i)
/-- the name of the error at hand -/
def eslB (c : Cfg) (x : Str) : Bool := match c.esl with
  | some i => decide (c.N[i]? = some x) && visB c.sc x && okNm x
  | none => false
mutual
def encE (nt : Nt) (tb : Tab) (kl : Nat → Option Kls) (c : Cfg) : E → Expr → Bool
  | .var i, .Name x _ => nmB c i x
  | .cst d, .Constant k _ _ => cstB d k
  | .fnv f, .Name x _ => glB c x && decide (nt.fn f = some x)
  | .bin op a b, .BinOp x o y _ => bOp op o && encE nt tb kl c a x && encE nt tb kl c b y
  | .neg a, .UnaryOp o x _ => decide (o = .USub) && encE nt tb kl c a x
  | .cmp op a b, .Compare x [o] [y] _ => decide (o = pyCmp op) && !behindInMarks o y && encE nt tb kl c a x && encE nt tb kl c b y
  | .cmp2 op op2 a b d, .Compare x [o, o2] [y, z] _ => decide (o = pyCmp op) && decide (o2 = pyCmp op2) && !lastMarks [o, o2] [y, z] && encE nt tb kl c a x && encE nt tb kl c b y && encE nt tb kl c d z
  | .isN neg a, .Compare x [o] [.Constant .none _ _] _ => decide (o = if neg then .IsNot else .Is) && encE nt tb kl c a x
  | .bool isAnd es, .BoolOp o vs _ => decide (o = pyBool isAnd) && !es.isEmpty && encEs nt tb kl c es vs
  | .not a, .UnaryOp o x _ => decide (o = .Not) && encE nt tb kl c a x
  | .ite a b d, .IfExp x y z _ => encE nt tb kl c a x && encE nt tb kl c b y && encE nt tb kl c d z
  | .tup es, .Tuple xs _ _ => encEs nt tb kl c es xs
  | .disp es, .List xs _ => encEs nt tb kl c es xs
  | .comp elt t it ifs, .ListComp x [⟨tg, y, fs, 0⟩] scope _ => c.calm && t.plain && (!pairE it || isTupB tg) && decide (fs.length ≤ 1) && blkC c.N c.sc scope (ownB c.N (slotsTg t)) && encE nt tb kl c it y &&
      tgB nt tb { c with sc := relS scope c.sc, raw := some scope } t tg && encE nt tb kl { c with sc := relS scope c.sc, raw := some scope } elt x && encEs nt tb kl { c with sc := relS scope c.sc, raw := some scope } ifs fs
  | .new l, x => lstE l && encE nt tb kl c l x
  | .idx a b, .Subscript x y _ => idxB y && encE nt tb kl c a x && encE nt tb kl c b y
  | .slice a lo hi, .Subscript x (.Slice l h none _) _ => encE nt tb kl c a x && encO nt tb kl c lo l && encO nt tb kl c hi h
  | .attr a f, .Attribute x fx _ => decide (fx = nt.nm f) && baseB x && encE nt tb kl c a x
  | .ef f, .Attribute (.Name x _) fx _ => decide (fx = nt.nm f) && (match c.esl with
      | some i => decide (c.N[i]? = some x) && visB c.sc x && okNm x
      | none => false)
  | .eis k, .Call (.Name x _) [.Name y _, .Name z _] [] _ => glB c x && decide (x = "isinstance") && eslB c y && glB c z && decide (nt.cn k = some z) && tb.xi k && tb.xiu
  | .eib b, .Call (.Name x _) [.Name y _, .Name z _] [] _ => glB c x && decide (x = "isinstance") && eslB c y && glB c z && decide (z = (xbs.getD b "" : String)) && decide (b < xbs.length) && tb.xiu
  | .xat k ks es f, .Attribute (.Call (.Name x _) [] (kw :: kws) _) fx _ => c.calm && decide (fx = nt.nm f) && glB c x && decide (nt.cn k = some x) && tb.xk k ks && decide ((kw :: kws).map (·.arg) = (nt.kn k ks).map some) && encEs nt tb kl c es ((kw :: kws).map (·.value))
  | .b1 f a, .Call (.Name x _) [y] [] _ => glB c x && decide (x = f.py.2) && (c.calm || f.hot) && nsB y && encE nt tb kl c a y
  | .mx k a b, .Call (.Name x _) [y, z] [] _ => glB c x && c.calm && decide (x = if k then "max" else "min") && nsB y && nsB z && encE nt tb kl c a y && encE nt tb kl c b z
  | .bm m o es, .Call (.Attribute x nx ap) ys [] cp => decide (nx = m.py.1) && baseB x && decide ((ap.endLine == cp.line) = true) && decide (ys.length < 29) && ys.all nsB && encE nt tb kl c o x && encEs nt tb kl c es ys
  | .isi a [t], .Call (.Name x _) [y, .Name z p] [] _ => glB c x && decide (x = "isinstance") && nsB y && t.good tb.ic && tyB nt c t (.Name z p) && encE nt tb kl c a y
  | .isi a ts, .Call (.Name x _) [y, .Tuple zs _ _] [] _ => glB c x && decide (x = "isinstance") && nsB y && decide (ts.length ≤ 30) && ts.all (Ty.good tb.ic) && tysB nt c ts zs && encE nt tb kl c a y
  | .call f es, .Call (.Name x _) (y :: ys) [] _ => c.calm && glB c x && decide (nt.fn f = some x) && (y :: ys).all nsB && encEs nt tb kl c es (y :: ys)
  | .callv i es, .Call (.Name x _) (y :: ys) [] _ => c.calm && nmB c i x && (y :: ys).all nsB && encEs nt tb kl c es (y :: ys)
  | .mk k es, .Call (.Name x _) (y :: ys) [] _ => c.calm && glB c x && decide (nt.cn k = some x) && (kl k).isSome && (y :: ys).all nsB && encEs nt tb kl c es (y :: ys)
  | .meth o m es, .Call (.Attribute x mx ap) ys [] cp => c.calm && decide (mx = nt.nm m) && baseB x && decide ((ap.endLine == cp.line) = true) && decide (ys.length < 29) && ys.all nsB && encE nt tb kl c o x && encEs nt tb kl c es ys
  | .glc i, .Name x _ => glB c x && decide (nt.gn i = some x)
  | .dget i b, .Subscript (.Name x _) y _ => glB c x && decide (nt.dn i = some x) && idxB y && encE nt tb kl c b y
  | .din neg i b, .Compare y [o] [.Name x _] _ => decide (o = if neg then .NotIn else .In) && glB c x && decide (nt.dn i = some x) && encE nt tb kl c b y
  | .dix a b, .Subscript (.Call (.Name x _) [y] [] _) z _ => c.calm && glB c x && decide (x = "dict") && nsB y && idxB z && encE nt tb kl c a y && encE nt tb kl c b z
  | .m1 cnt o a, .Call (.Attribute x nx ap) [y] [] cp => decide (nx = m1Nm cnt) && baseB x && decide ((ap.endLine == cp.line) = true) && nsB y && encE nt tb kl c o x && encE nt tb kl c a y
  | .sorted a, .Call (.Name x _) [y] [] _ => glB c x && decide (x = "sorted") && nsB y && encE nt tb kl c a y
  | .ceq neg m a b, .Compare x [o] [y] _ => c.calm && decide (o = if neg then .NotEq else .Eq) && !behindInMarks o y && decide (nt.nm m = "__eq__") && encE nt tb kl c a x && encE nt tb kl c b y
  | .rng es, .Call (.Name x _) ys [] _ => glB c x && decide (x = "range") && decide (1 ≤ ys.length ∧ ys.length ≤ 3) && ys.all nsB && encEs nt tb kl c es ys
  | .lrng a b, .Call (.Name x _) [.Call (.Name r _) [y, z] [] _] [] _ => c.calm && glB c x && decide (x = "list") && glB c r && decide (r = "range") && nsB y && nsB z && encE nt tb kl c a y && encE nt tb kl c b z
  | .enum a, .Call (.Name x _) [y] [] _ => glB c x && decide (x = "enumerate") && nsB y && encE nt tb kl c a y
  | .zip es, .Call (.Name x _) [y, z] [] _ => glB c x && decide (x = "zip") && nsB y && nsB z && encEs nt tb kl c es [y, z]
  | _, _ => false
def encEs (nt : Nt) (tb : Tab) (kl : Nat → Option Kls) (c : Cfg) : List E → List Expr → Bool
  | [], [] => true
  | e :: es, x :: xs => nsB x && encE nt tb kl c e x && encEs nt tb kl c es xs
  | _, _ => false
def encO (nt : Nt) (tb : Tab) (kl : Nat → Option Kls) (c : Cfg) : List E → Option Expr → Bool
  | [], none => true
  | [e], some x => encE nt tb kl c e x
  | _, _ => false
end

structure CtxOk (G : Gx) (tb : Tab) (kl : Nat → Option Kls) (nt : Nt) (cl : Cal) (k : Nat) (X : Cx) (c : Cfg) : Prop where
  K : X.K = G.K
  N : X.N = c.N
  nd : c.N.Nodup
  sc : X.env.scope = c.sc
  un : X.A.units + 65 < cLine
  gd : X.A.guards = some []
  hot : c.calm = true → X.calm = true ∧ G.ex = none ∧ Room (k + 1) X.A
  esl : (G.ex = none ∧ c.esl = none ∧ cl.err = none) ∨ ∃ e, G.ex = some e ∧ c.esl = some e.sl ∧ cl.err = some (e.c, e.xs) ∧ ∃ (X0 : Cx) (oe : Obj) (pn : List (Addr × Obj)), X = X0.suite e.a ((e.a, oe) :: pn) ∧ Zc (.ref (G.xa e.c)) e.dd oe ∧ (∃ vs, oe.data = .fields vs) ∧ G.isx e.c = true
  fn : ∀ x, c.sc.names.lookup x = some .cell → c.cel x = true → X.fn x = true
  mgf : ∀ f x, nt.fn f = some x → X.mg x = some (.ref (G.fa f))
  mgc : ∀ f x, nt.cn f = some x → X.mg x = some (.ref (G.ca f))
  blt : ∀ x ∈ blts, X.mg x = none
  gc : ∀ i x, nt.gn i = some x → ∃ u, X.mg x = some u ∧ CstR G (tb.gv i) u
  gd' : ∀ i x, nt.dn i = some x → ∃ a, X.mg x = some (.ref a) ∧ DctR G X.w (tb.gd i) a
  cal : c.calm = true → ∀ f x, nt.fn f = some x → Callee G X (k + 1) f (cl.call f)
  calv : c.calm = true → ∀ f, cl.has f = true → Callee G X (k + 1) f (cl.call f)
  calm_ : c.calm = true → ∀ c m g, tb.mt c m = some g → Callee G X (k + 1) g (cl.call g)
  mak : c.calm = true → ∃ φ : Nat → List D → Store → Out D, cl.make = mkD tb kl φ ∧ ∀ c kk, kl c = some kk → Callee G X k kk.ini (φ kk.ini)
  eqc : c.calm = true → ∀ c m g, tb.mt c m = some g → Callee G X k g (cl.eqc g)
  rx : c.calm = true → ∀ cc ks, tb.xk cc ks = true → XatOk G X k cc ks (nt.kn cc ks)
structure Pr (G : Gx) (tb : Tab) (kl : Nat → Option Kls) (nt : Nt) : Prop where
  pf : Pf G tb kl
  pk : Pk G tb.ic
  nm : nt.nm = G.nm
  xa : G.xa = G.ca
  isx : G.isx = tb.xr
  exm : ∀ c k, tb.xr c = true → tb.cc k = true → PySem.W.exmOne G.K (.ref (G.xa c)) (.ref (G.xa k)) = some (tb.sub c k)
  eqf : ∀ m, G.nm m = "__eq__" → EqF G tb m
  eis : tb.xiu = true → ∀ c, tb.xr c = true → EisC G.K (G.xa c)
  kio : tb.xiu = true → ∀ c k, tb.xr c = true → tb.xi k = true → PySem.W.kitOne G.K (.ref (G.xa c)) (.ref (G.ca k)) = some (tb.sub c k)
  kib : tb.xiu = true → ∀ c b, tb.xr c = true → b < xbs.length → PySem.W.kitOne G.K (.ref (G.xa c)) (.type (xbs.getD b "")) = some (tb.xb c b)
  px : ∀ c, G.isx c = true → XfC G.K (G.xa c) ∧ ∀ f ∈ G.xf c, PySem.W.findIn G.K (.ref (G.xa c)) (G.nm f) = some none
section
variable {G : Gx} {tb : Tab} {kl : Nat → Option Kls} {nt : Nt} {cl : Cal} {k : Nat} {X : Cx} {c : Cfg}
theorem lookup_vis {x : Str} (h : visB c.sc x = true) : Vis c.sc x := by
  unfold visB at h
  split at h
  · rename_i e; exact .inl e
  · rename_i e; exact .inr (.inl e)
  · rename_i e; exact .inr (.inr e)
  · cases h
theorem lookup_loc {x : Str} (h : locB c.sc x = true) : Loc c.sc x := by
  unfold locB at h
  split at h
  · rename_i e; exact .inl e
  · rename_i e; exact .inr e
  · cases h
theorem okNm_ok {x : Str} (h : okNm x = true) : (x == ("__debug__" : Str)) = false ∧ (x == ("__classdict__" : Str)) = false ∧ x ≠ "__name__" := by
  unfold okNm at h
  simp only [Bool.and_eq_true, Bool.not_eq_true', beq_eq_false_iff_ne] at h
  refine ⟨?_, ?_, h.2⟩
  · rw [beq_eq_false_iff_ne]; exact h.1.1
  · rw [beq_eq_false_iff_ne]; exact h.1.2
theorem CtxOk.var (C : CtxOk G tb kl nt cl k X c) {i : Nat} {x : Str} (h : nmB c i x = true) : X.N[i]? = some x ∧ Vis X.env.scope x ∧ (x == ("__debug__" : Str)) = false ∧ (x == ("__classdict__" : Str)) = false := by
  unfold nmB at h
  simp only [Bool.and_eq_true, decide_eq_true_eq] at h
  obtain ⟨⟨h1, h2⟩, h3⟩ := h
  obtain ⟨h4, h5, _⟩ := okNm_ok h3
  exact ⟨by rw [C.N]; exact h1, by rw [C.sc]; exact lookup_vis h2, h4, h5⟩
theorem CtxOk.gl (C : CtxOk G tb kl nt cl k X c) {x : Str} (h : glB c x = true) : Gl X x ∧ (x == ("__debug__" : Str)) = false ∧ x ≠ "__name__" := by
  unfold glB at h
  simp only [Bool.and_eq_true, decide_eq_true_eq] at h
  obtain ⟨h4, h5, h6⟩ := okNm_ok h.2
  exact ⟨by show X.env.scope.names.lookup x = _; rw [C.sc]; exact h.1, h4, h6⟩
end
end Dn

set_option maxHeartbeats 4000000
namespace Dn
open PySem PySem.Spec PyProof.Rows L2

structure Good (G : Gx) (X : Cx) (e : Expr) (b : Bx) (pr : Bool) : Prop where
  v : SimE G X e b.v
  t : SimT G X e b.t
  l : SimL G X e b.l
  i : ∀ tg, (pr = true → isTupB tg = true) → SimI G X tg e b.i
  ns : NS e
  hs : ∀ env x, foldedSetIterable e env x = pure x
section
variable {G : Gx} {X : Cx} {e : Expr} {pr : Bool}
theorem SimI.stuck {tg : Expr} : SimI G X tg e (fun _ _ => .stuck) := fun W _ => ⟨fun _ _ _ _ _ _ ⟨_, _, _, _, h⟩ => h.elim⟩
theorem Good.ofV {v : DenD} (hK : X.K = G.K) (h : SimE G X e v) (he : ∀ whole, isTrue e X.env whole = (do let v ← whole; standAt e.pos; holding [v] (truthy v))) (ns : NS e) (hs : ∀ env x, foldedSetIterable e env x = pure x) : Good G X e (Bx.ofV v) pr :=
  ⟨h, sim_truth hK h he, SimL.stuck, fun _ _ => sim_iv hK h, ns, hs⟩
theorem Good.ofT {t : Vars → Store → Out Bool} (h : SimE G X e fun Γ S => (t Γ S).bind fun b S => .ok (.bl b) S) (ht : SimT G X e t) (ns : NS e) (hs : ∀ env x, foldedSetIterable e env x = pure x) : Good G X e (Bx.ofT t) pr :=
  ⟨h, ht, SimL.stuck, fun _ _ => SimI.stuck, ns, hs⟩
theorem Good.ofL {l : Vars → Store → Out (List Dn.D)} (hK : X.K = G.K) (h : SimL G X e l) (he : ∀ whole, isTrue e X.env whole = (do let v ← whole; standAt e.pos; holding [v] (truthy v))) (ns : NS e) (hs : ∀ env x, foldedSetIterable e env x = pure x) : Good G X e (Bx.ofL l) pr := by
  have hv := sim_lf h
  refine ⟨hv, ?_, h, fun tg _ => ?_, ns, hs⟩
  · have := sim_truth hK hv he
    have e1 : (fun Γ S => ((fun Γ S => (l Γ S).bind fun xs S => Out.ok (Dn.D.lst xs) S) Γ S).bind truth) = fun Γ S => (l Γ S).bind fun xs S => .ok (!xs.isEmpty) S := by
      funext Γ S
      dsimp only
      cases l Γ S <;> rfl
    rw [e1] at this
    exact this
  · have := sim_iv (tg := tg) hK hv
    have e1 : (fun Γ S => ((fun Γ S => (l Γ S).bind fun xs S => Out.ok (Dn.D.lst xs) S) Γ S).bind srcOf) = fun Γ S => (l Γ S).bind fun xs S => .ok (.items xs) S := by
      funext Γ S
      dsimp only
      cases l Γ S <;> rfl
    rw [e1] at this
    exact this
theorem Good.ofI {i : Vars → Store → Out Src} (h : ∀ tg, (pr = true → isTupB tg = true) → SimI G X tg e i) (ns : NS e) (hs : ∀ env x, foldedSetIterable e env x = pure x) : Good G X e (Bx.ofI i) pr :=
  ⟨SimE.stuck, SimT.stuck, SimL.stuck, h, ns, hs⟩
/-- rows -/
inductive GoodL (G : Gx) (X : Cx) : List Expr → List Bx → Prop where
  | nil : GoodL G X [] []
  | cons {e : Expr} {b : Bx} {pr : Bool} {es : List Expr} {bs : List Bx} (h : Good G X e b pr) (r : GoodL G X es bs) : GoodL G X (e :: es) (b :: bs)
theorem GoodL.args {es : List Expr} {bs : List Bx} (h : GoodL G X es bs) : SimA G X es (dArgs bs) := by
  induction h with
  | nil => exact sim_nil
  | cons h _ ih => exact sim_cons h.v ih (h.ns _ _)
theorem PK.imp {kws : List Keyword} {t t' : TA} (h : PK X kws t) (hi : ∀ σ H Q, t' σ H Q → t σ H Q) : PK X kws t' := ⟨fun pos pins s σ H Q I q => h.run pos pins s σ H Q I (hi _ _ _ q)⟩
theorem GoodL.pk : ∀ {kws : List Keyword} {bs : List Bx}, GoodL G X (kws.map (·.value)) bs → SimK G X kws (dArgs bs)
  | [], bs, h => by
    cases h
    intro W tk
    refine PK.imp pk_nil fun σ H Q ⟨Γ, w, hw, A, hf⟩ => ?_
    subst hw
    exact Fin.ok hf A.rel Reps.nil
  | ⟨ka, kv, kp⟩ :: kws, bs, h => by
    cases h with
    | cons h r =>
      intro W tk
      refine PK.imp (pk_cons (h.v W tk) (GoodL.pk r W tk)) fun σ H Q ⟨Γ, w, hw, A, hf⟩ => ?_
      refine ⟨Γ, w, hw, A, hf.bind fun w1 d x e1 R1 p1 rx h1 => ?_⟩
      exact ⟨Γ, w1, rfl, A.ext e1 R1, h1.bind fun w2 ds xs e2 R2 p2 rs h2 => Fin.ok h2 R2 (Reps.mk (Rep.ext e2.wk _ _ rx) rs)⟩
theorem kw_names {env : Env} {pos : Pos} : ∀ {kws : List Keyword} {kn : List Str}, kws.map (·.arg) = kn.map some →
    (backToKw pos (keywordEach kws env)).all (·.1.isSome) = true ∧ (backToKw pos (keywordEach kws env)).filterMap (·.1) = kn ∧ (backToKw pos (keywordEach kws env)).any (·.1.isNone) = false
  | [], [], _ => ⟨rfl, rfl, rfl⟩
  | [], _ :: _, h => by cases h
  | _ :: _, [], h => by cases h
  | ⟨a, v, p⟩ :: kws, n :: kn, h => by
    simp only [List.map_cons, List.cons.injEq] at h
    obtain ⟨rfl, h⟩ := h
    obtain ⟨h1, h2, h3⟩ := kw_names (env := env) (pos := pos) h
    refine ⟨?_, ?_, ?_⟩
    · show (true && (backToKw pos (keywordEach kws env)).all _) = true
      rw [h1]; rfl
    · show n :: (backToKw pos (keywordEach kws env)).filterMap _ = _
      rw [h2]
    · show (false || (backToKw pos (keywordEach kws env)).any _) = false
      rw [h3]; rfl
theorem GoodL.ns {es : List Expr} {bs : List Bx} (h : GoodL G X es bs) : ∀ e ∈ es, NS e := by
  induction h with
  | nil => intro e he; cases he
  | cons h _ ih =>
    intro e he
    rcases List.mem_cons.mp he with z | z
    · rw [z]; exact h.ns
    · exact ih e z
theorem GoodL.boolT {isAnd : Bool} {pos : Pos} : ∀ {es : List Expr} {bs : List Bx}, GoodL G X es bs → es ≠ [] → ∀ W, Takes X W → PW X (.BoolOp (pyBool isAnd) es pos) (tDT G W (dBoolT isAnd bs))
  | _, _, .nil, h, _, _ => absurd rfl h
  | _, _, .cons h .nil, _, W, tk => simT_bool1 isAnd h.t tk
  | _, _, .cons h (.cons h2 r), _, W, tk => simT_bool2 isAnd h.t tk (GoodL.boolT (.cons h2 r) (by simp) W tk)
theorem GoodL.boolV {isAnd : Bool} {pos : Pos} (hK : X.K = G.K) : ∀ {es : List Expr} {bs : List Bx}, GoodL G X es bs → es ≠ [] → ∀ W, Takes X W → PE X (.BoolOp (pyBool isAnd) es pos) (tD G W (dBoolV isAnd bs))
  | _, _, .nil, h, _, _ => absurd rfl h
  | _, _, .cons h .nil, _, W, tk => pe_one (h.v W tk)
  | _, _, .cons h (.cons h2 r), _, W, tk => simV_bool2 isAnd hK h.v tk (GoodL.boolV hK (.cons h2 r) (by simp) W tk)
end

section
variable {G : Gx} {tb : Tab} {kl : Nat → Option Kls} {nt : Nt} {cl : Cal} {k : Nat}
theorem tyB_ok {X : Cx} {c : Cfg} (C : CtxOk G tb kl nt cl k X c) {t : Ty} {x : Expr} (h : tyB nt c t x = true) : PE X x (tC (t.w G)) ∧ NS x := by
  cases x with
  | Name x p =>
    refine ⟨?_, fun _ _ => rfl⟩
    cases t with
    | cls kk =>
      have h' : (glB c x && decide (nt.cn kk = some x)) = true := h
      simp only [Bool.and_eq_true, decide_eq_true_eq] at h'
      obtain ⟨g1, g2, g3⟩ := C.gl h'.1
      exact pe_glob g1 (C.mgc _ _ h'.2) rfl g2
    | _ =>
      all_goals
        have h' : (glB c x && decide (x = (_ : Str)) && decide (_ ≠ "")) = true := h
        simp only [Bool.and_eq_true, decide_eq_true_eq] at h'
        obtain ⟨g1, g2, g3⟩ := C.gl h'.1.1
        have hx := h'.1.2
        subst hx
        refine pe_bltn g1 (C.blt _ (by decide)) (by decide +kernel) rfl (by decide) (by decide)
  | _ => cases t <;> cases h
theorem blk_ok {X : Cx} {c : Cfg} (C : CtxOk G tb kl nt cl k X c) (hc : c.calm = true) (s : Shared) (H : Hp) (scope : Scope) (D : Addr) (cls : List (Str × Addr)) (fp : List Addr) :
    CtxOk G tb kl nt cl k (X.blk s H scope (compEnvC scope cls D X.env) fp) { c with sc := relS scope c.sc, raw := some scope } := by
  obtain ⟨h1, h2, h3⟩ := C.hot hc
  refine ⟨C.K, C.N, C.nd, ?_, C.un, C.gd, fun _ => ⟨h1, h2, h3⟩, ?_, fun x _ hx => hx, C.mgf, C.mgc, C.blt, C.gc, C.gd', fun _ f x h => ⟨(C.cal hc f x h).ex, (C.cal hc f x h).kp⟩, fun _ f h => ⟨(C.calv hc f h).ex, (C.calv hc f h).kp⟩, fun _ a b g h => ⟨(C.calm_ hc a b g h).ex, (C.calm_ hc a b g h).kp⟩, fun _ => ?_, fun _ a b g h => ⟨(C.eqc hc a b g h).ex, (C.eqc hc a b g h).kp⟩, fun _ cc ks h => let R := C.rx hc cc ks h; ⟨R.oex, R.ini, R.nd, R.xfc, R.fnd, R.lk⟩⟩
  · show relabel scope X.env = _
    rw [← C.sc]; rfl
  · rcases C.esl with h | ⟨e, he, _⟩
    · exact .inl h
    · rw [h2] at he; cases he
  · obtain ⟨φ, e1, e2⟩ := C.mak hc
    exact ⟨φ, e1, fun c kk h => ⟨(e2 c kk h).ex, (e2 c kk h).kp⟩⟩
mutual
theorem tgt_ok (pr : Pr G tb kl nt) {X : Cx} {c : Cfg} (C : CtxOk G tb kl nt cl k X c) : ∀ (t : Tg) (e : Expr), tgB nt tb c t e = true → PG X e (gD G t) ∧ assignEach [e] X.env = [(false, assign e X.env)] ∧ ∀ es, assignEach (e :: es) X.env = (false, assign e X.env) :: assignEach es X.env
  | .nm i, e, h => by
    cases e with
    | Name x p =>
      have h' : (decide (c.N[i]? = some x) && (decide (c.sc.names.lookup x = some .local) || (decide (c.sc.names.lookup x = some .cell) && c.cel x)) && decide (c.esl ≠ some i)) = true := h
      simp only [Bool.and_eq_true, Bool.or_eq_true, decide_eq_true_eq] at h'
      obtain ⟨⟨h1, h2⟩, h3⟩ := h'
      refine ⟨simG_nm (fun e he => ?_) (by rw [C.N]; exact C.nd) (by rw [C.N]; exact h1) ?_ ?_, rfl, fun _ => rfl⟩
      · rcases C.esl with ⟨z, _⟩ | ⟨e', z, z2, _⟩
        · rw [z] at he; cases he
        · rw [z] at he; cases he
          intro hh
          rw [hh] at z2
          exact h3 z2
      · rw [C.sc]
        rcases h2 with z | z
        · exact .inl z
        · exact .inr z.1
      · rcases h2 with z | z
        · exact .inr (by rw [C.sc]; exact z)
        · exact .inl (C.fn x z.1 z.2)
    | _ => cases h
  | .tup ts, e, h => by
    cases e with
    | Tuple es kk p =>
      have h' : (c.calm && tgsB nt tb c ts es) = true := h
      simp only [Bool.and_eq_true] at h'
      obtain ⟨h1, h2, h3⟩ := C.hot h'.1
      obtain ⟨a1, a2, a3⟩ := tgts_ok pr C ts es h'.2
      exact ⟨simG_tup h1 C.K a1 a2 a3, rfl, fun _ => rfl⟩
    | _ => cases h
  | .att i f kk, e, h => by
    cases e with
    | Attribute o fx p =>
      cases o with
      | Name x p2 =>
        have h' : (nmB c i x && decide (fx = nt.nm f) && (tb.cf kk).contains f) = true := h
        simp only [Bool.and_eq_true, decide_eq_true_eq] at h'
        obtain ⟨⟨h1, h2⟩, h3⟩ := h'
        obtain ⟨v1, v2, v3, v4⟩ := C.var h1
        rw [pr.pf.cf] at h3
        exact ⟨simG_att pr.pf C.K (by rw [h2, pr.nm]) (by simpa using h3) v1 v2 v3 v4, rfl, fun _ => rfl⟩
      | _ => cases h
    | _ => cases h
theorem tgts_ok (pr : Pr G tb kl nt) {X : Cx} {c : Cfg} (C : CtxOk G tb kl nt cl k X c) : ∀ (ts : List Tg) (es : List Expr), tgsB nt tb c ts es = true → PGs X es (gDs G ts) ∧ (assignEach es X.env).length = ts.length ∧ (assignEach es X.env).findIdx? (·.1) = none
  | [], es, h => by
    cases es with
    | nil => exact ⟨simG_nil, rfl, rfl⟩
    | cons => cases h
  | t :: ts, es, h => by
    cases es with
    | nil => cases h
    | cons e es =>
      have h' : (tgB nt tb c t e && tgsB nt tb c ts es) = true := h
      simp only [Bool.and_eq_true] at h'
      obtain ⟨a1, _, a2⟩ := tgt_ok pr C t e h'.1
      obtain ⟨b1, b2, b3⟩ := tgts_ok pr C ts es h'.2
      refine ⟨simG_cons a1 b1 (by rw [a2]; rfl), by rw [a2]; simp [b2], ?_⟩
      rw [a2]
      rw [List.findIdx?_cons]
      simp [b3]
end
theorem PTs.imp {X : Cx} {ifs : List Expr} {t t' : TT} (h : PTs X ifs t) (hi : ∀ σ H Q, t' σ H Q → t σ H Q) : PTs X ifs t' := ⟨fun pins s σ H Q I q => h.run pins s σ H Q I (hi _ _ _ q)⟩
theorem pts_ok {X : Cx} {fs : List Expr} {bs : List Bx} (h : GoodL G X fs bs) (hl : fs.length ≤ 1) : PTs X fs (tDT G noW (dTest bs)) := by
  cases h with
  | nil =>
    refine PTs.imp pts_nil fun σ H Q ⟨Γ, w, hw, A, hf⟩ => ?_
    subst hw
    exact Fin.ok hf A.rel rfl
  | cons h r =>
    cases r with
    | nil => exact pts_one (h.t noW takes_none5)
    | cons => simp at hl
theorem own_ok {N : List Str} {is : List Nat} : (ownB N is).map (·.2) = is := by
  unfold ownB
  rw [List.map_map]
  exact List.map_id _
theorem subscr_plain {b : Expr} (h : idxB b = true) : PlainIx b := by
  intro o i
  cases b <;> first | rfl | cases h
end
end Dn

set_option maxHeartbeats 8000000
namespace Dn
open PySem PySem.Spec PyProof.Rows L2
section
variable {G : Gx} {tb : Tab} {kl : Nat → Option Kls} {nt : Nt} {cl : Cal} {k : Nat}
theorem f1_boot (f : F1) : bootBuiltins (f.py.2 : Str) = some (pyV f.py) := by
  cases f <;> decide +kernel
theorem f1_blt (f : F1) : (f.py.2 : Str) ∈ blts := by
  cases f <;> decide
theorem GoodL.len {X : Cx} {es : List Expr} {bs : List Bx} (h : GoodL G X es bs) : es.length = bs.length := by
  induction h with
  | nil => rfl
  | cons _ _ ih => simp [ih]
theorem dens_len : ∀ es : List Dn.E, (dens tb cl es).length = es.length
  | [] => rfl
  | e :: es => by simp [dens, dens_len es]
theorem dArgs1 {α : Type} (b : Bx) (f : List Dn.D → Store → Out α) : (fun Γ S => (dArgs [b] Γ S).bind f) = fun Γ S => (b.v Γ S).bind fun x S1 => f [x] S1 := by
  funext Γ S
  simp only [dArgs, bind_assoc', bind_ok]
theorem dArgs2 {α : Type} (a b : Bx) (f : List Dn.D → Store → Out α) : (fun Γ S => (dArgs [a, b] Γ S).bind f) = fun Γ S => (a.v Γ S).bind fun x S1 => (b.v Γ S1).bind fun y S2 => f [x, y] S2 := by
  funext Γ S
  simp only [dArgs, bind_assoc', bind_ok]
theorem dArgs3 {α : Type} (a b d : Bx) (f : List Dn.D → Store → Out α) : (fun Γ S => (dArgs [a, b, d] Γ S).bind f) = fun Γ S => (a.v Γ S).bind fun x S1 => (b.v Γ S1).bind fun y S2 => (d.v Γ S2).bind fun z S3 => f [x, y, z] S3 := by
  funext Γ S
  simp only [dArgs, bind_assoc', bind_ok]
theorem ns_call {f : Expr} {a : List Expr} {kw : List Keyword} {p : Pos} : NS (.Call f a kw p) := fun _ _ => rfl
mutual
theorem sound (pr : Pr G tb kl nt) : ∀ (E : Dn.E) (X : Cx) (c : Cfg), CtxOk G tb kl nt cl k X c → ∀ (e : Expr), encE nt tb kl c E e = true → Good G X e (den tb cl E) (pairE E)
  | .var i, X, c, C, e, h => by
    cases e with
    | Name x p =>
      obtain ⟨h1, h2, h3, h4⟩ := C.var (show nmB c i x = true from h)
      exact Good.ofV C.K (sim_var h1 h2 h3 h4) (fun _ => rfl) (fun _ _ => rfl) fun _ _ => rfl
    | _ => cases h
  | .cst d, X, c, C, e, h => by
    cases e with
    | Constant kk j p =>
      have h' : cstB d kk = true := h
      refine Good.ofV C.K ?_ (fun _ => rfl) (fun _ _ => rfl) fun _ _ => rfl
      cases d <;> cases kk <;> first | (cases h'; done) | skip
      · exact sim_const rfl pe_non
      · have e1 := beq_iff_eq.mp h'
        subst e1
        exact sim_const rfl pe_bl
      · have e1 := of_decide_eq_true h'
        subst e1
        exact sim_const rfl pe_int
      · have e1 := of_decide_eq_true h'
        subst e1
        exact sim_const rfl pe_str
    | _ => cases d <;> cases h
  | .fnv f, X, c, C, e, h => by
    cases e with
    | Name x p =>
      have h' : (glB c x && decide (nt.fn f = some x)) = true := h
      simp only [Bool.and_eq_true, decide_eq_true_eq] at h'
      obtain ⟨g1, g2, g3⟩ := C.gl h'.1
      exact Good.ofV C.K (sim_fn (pe_glob g1 (C.mgf _ _ h'.2) rfl g2)) (fun _ => rfl) (fun _ _ => rfl) fun _ _ => rfl
    | _ => cases h
  | .bin op a b, X, c, C, e, h => by
    cases e with
    | BinOp x o y p =>
      have h' : (bOp op o && encE nt tb kl c a x && encE nt tb kl c b y) = true := h
      simp only [Bool.and_eq_true] at h'
      have e1 := bOp_ok h'.1.1
      subst e1
      exact Good.ofV C.K (sim_bin C.K (sound pr a X c C x h'.1.2).v (sound pr b X c C y h'.2).v) (fun _ => rfl) (fun _ _ => rfl) fun _ _ => rfl
    | _ => cases h
  | .neg a, X, c, C, e, h => by
    cases e with
    | UnaryOp o x p =>
      have h' : (decide (o = .USub) && encE nt tb kl c a x) = true := h
      simp only [Bool.and_eq_true, decide_eq_true_eq] at h'
      obtain ⟨rfl, h2⟩ := h'
      exact Good.ofV C.K (sim_neg (sound pr a X c C x h2).v) (fun _ => rfl) (fun _ _ => rfl) fun _ _ => rfl
    | _ => cases h
  | .cmp op a b, X, c, C, e, h => by
    cases e with
    | Compare x os ys p =>
      rcases os with _ | ⟨o, _ | ⟨o2, os⟩⟩ <;> rcases ys with _ | ⟨y, _ | ⟨y2, ys⟩⟩ <;> first | (cases h; done) | skip
      have h' : (decide (o = pyCmp op) && !behindInMarks o y && encE nt tb kl c a x && encE nt tb kl c b y) = true := h
      simp only [Bool.and_eq_true, decide_eq_true_eq, Bool.not_eq_true'] at h'
      obtain ⟨⟨⟨rfl, h2⟩, h3⟩, h4⟩ := h'
      have ga := sound pr a X c C x h3
      have gb := sound pr b X c C y h4
      exact Good.ofT (sim_cmp C.K C.un ga.v gb.v h2) (sim_cmpT C.K C.un ga.v gb.v h2) (fun _ _ => rfl) fun _ _ => rfl
    | _ => cases h
  | .cmp2 op op2 a b d, X, c, C, e, h => by
    cases e with
    | Compare x os ys p =>
      rcases os with _ | ⟨o, _ | ⟨o2, _ | ⟨o3, os⟩⟩⟩ <;> rcases ys with _ | ⟨y, _ | ⟨y2, _ | ⟨y3, ys⟩⟩⟩ <;> first | (cases h; done) | skip
      have h' : (decide (o = pyCmp op) && decide (o2 = pyCmp op2) && !lastMarks [o, o2] [y, y2] && encE nt tb kl c a x && encE nt tb kl c b y && encE nt tb kl c d y2) = true := h
      simp only [Bool.and_eq_true, decide_eq_true_eq, Bool.not_eq_true'] at h'
      obtain ⟨⟨⟨⟨⟨rfl, rfl⟩, h2⟩, h3⟩, h4⟩, h5⟩ := h'
      have ga := sound pr a X c C x h3
      have gb := sound pr b X c C y h4
      have gd := sound pr d X c C y2 h5
      exact Good.ofT (sim_cmp2 C.K C.un ga.v gb.v gd.v h2) (sim_cmp2T C.K C.un ga.v gb.v gd.v h2) (fun _ _ => rfl) fun _ _ => rfl
    | _ => cases h
  | .isN neg a, X, c, C, e, h => by
    cases e with
    | Compare x os ys p =>
      rcases os with _ | ⟨o, _ | ⟨o2, os⟩⟩ <;> rcases ys with _ | ⟨y, r⟩ <;> first | (cases h; done) | skip
      cases y with
      | Constant kk j p2 =>
        cases kk with
        | none =>
          cases r with
          | nil =>
            have h' : (decide (o = if neg then .IsNot else .Is) && encE nt tb kl c a x) = true := h
            simp only [Bool.and_eq_true, decide_eq_true_eq] at h'
            obtain ⟨rfl, h3⟩ := h'
            have ga := sound pr a X c C x h3
            exact Good.ofT (sim_isN neg ga.v) (sim_isNT neg ga.v) (fun _ _ => rfl) fun _ _ => rfl
          | cons => cases h
        | _ => cases h
      | _ => cases h
    | _ => cases h
  | .bool isAnd es, X, c, C, e, h => by
    cases e with
    | BoolOp o vs p =>
      have h' : (decide (o = pyBool isAnd) && !es.isEmpty && encEs nt tb kl c es vs) = true := h
      simp only [Bool.and_eq_true, decide_eq_true_eq] at h'
      obtain ⟨⟨rfl, h2⟩, h3⟩ := h'
      have g := sounds pr es X c C vs h3
      have hne : vs ≠ [] := by
        intro z
        subst z
        cases es with
        | nil => cases h2
        | cons => cases h3
      exact ⟨fun W tk => g.boolV C.K hne W tk, fun W tk => (g.boolT hne W tk).pt, SimL.stuck, fun _ _ => SimI.stuck, fun _ _ => rfl, fun _ _ => rfl⟩
    | _ => cases h
  | .not a, X, c, C, e, h => by
    cases e with
    | UnaryOp o x p =>
      have h' : (decide (o = .Not) && encE nt tb kl c a x) = true := h
      simp only [Bool.and_eq_true, decide_eq_true_eq] at h'
      obtain ⟨rfl, h2⟩ := h'
      have g := sound pr a X c C x h2
      exact ⟨sim_notV C.K g.v, sim_notT g.t, SimL.stuck, fun _ _ => SimI.stuck, fun _ _ => rfl, fun _ _ => rfl⟩
    | _ => cases h
  | .ite a b d, X, c, C, e, h => by
    cases e with
    | IfExp x y z p =>
      have h' : (encE nt tb kl c a x && encE nt tb kl c b y && encE nt tb kl c d z) = true := h
      simp only [Bool.and_eq_true] at h'
      have hv := sim_ite (pos := p) (sound pr a X c C x h'.1.1).t (sound pr b X c C y h'.1.2).v (sound pr d X c C z h'.2).v
      exact ⟨hv, SimT.stuck, SimL.stuck, fun _ _ => sim_iv C.K hv, fun _ _ => rfl, fun _ _ => rfl⟩
    | _ => cases h
  | .tup es, X, c, C, e, h => by
    cases e with
    | Tuple xs kk p =>
      have g := sounds pr es X c C xs (show encEs nt tb kl c es xs = true from h)
      exact Good.ofV C.K (sim_tup g.args) (fun _ => rfl) (fun _ _ => rfl) fun _ _ => rfl
    | _ => cases h
  | .disp es, X, c, C, e, h => by
    cases e with
    | List xs p =>
      have g := sounds pr es X c C xs (show encEs nt tb kl c es xs = true from h)
      exact Good.ofL C.K (sim_disp g.args) (fun _ => rfl) (fun _ _ => rfl) fun _ _ => rfl
    | _ => cases h
  | .comp elt t it ifs, X, c, C, e, h => by
    cases e with
    | ListComp x gs scope p =>
      rcases gs with _ | ⟨⟨tg, y, fs, ia⟩, gs⟩
      · cases h
      have hia : ia = 0 ∧ gs = [] := by
        revert h
        unfold encE
        split <;> simp_all
      obtain ⟨rfl, rfl⟩ := hia
      have h' : (c.calm && t.plain && (!pairE it || isTupB tg) && decide (fs.length ≤ 1) && blkC c.N c.sc scope (ownB c.N (slotsTg t)) && encE nt tb kl c it y &&
        tgB nt tb { c with sc := relS scope c.sc, raw := some scope } t tg && encE nt tb kl { c with sc := relS scope c.sc, raw := some scope } elt x && encEs nt tb kl { c with sc := relS scope c.sc, raw := some scope } ifs fs) = true := h
      simp only [Bool.and_eq_true, decide_eq_true_eq] at h'
      obtain ⟨⟨⟨⟨⟨⟨⟨⟨h1, h2⟩, h3⟩, h4⟩, h5⟩, h6⟩, h7⟩, h8⟩, h9⟩ := h'
      obtain ⟨hot1, hot2, hot3⟩ := C.hot h1
      have gi := sound pr it X c C y h6
      have hb := blkOk_by h5
      refine Good.ofL C.K ?_ (fun _ => rfl) (fun _ _ => rfl) fun _ _ => rfl
      exact sim_comp hot2 hot1 (by rw [C.N]; exact C.nd) (gi.i tg fun z => by rw [z] at h3; simpa using h3) (by rw [C.N, C.sc]; exact hb) own_ok
        (fun s H D cls fp => (tgt_ok pr (blk_ok C h1 s H scope D cls fp) t tg h7).1)
        (fun s H D cls fp => pts_ok (sounds pr ifs _ _ (blk_ok C h1 s H scope D cls fp) fs h9) h4)
        (fun s H D cls fp => (sound pr elt _ _ (blk_ok C h1 s H scope D cls fp) x h8).v noW takes_none5) fun x => gi.hs _ x
    | _ => cases h
  | .new l, X, c, C, e, h => by
    have h' : (lstE l && encE nt tb kl c l e) = true := h
    simp only [Bool.and_eq_true] at h'
    have g := sound pr l X c C e h'.2
    refine Good.ofV C.K (sim_new g.l) ?_ g.ns g.hs
    intro whole
    have h2 := h'.2
    have h1 := h'.1
    cases l <;> first | (cases h1; done) | skip
    · cases e <;> first | rfl | cases h2
    · cases e <;> first | rfl | cases h2
    · rename_i f a
      cases f <;> first | (cases h1; done) | skip
      cases e <;> first | rfl | cases h2
    · cases e <;> first | rfl | cases h2
    · cases e <;> first | rfl | cases h2
  | .idx a b, X, c, C, e, h => by
    cases e with
    | Subscript x y p =>
      have h' : (idxB y && encE nt tb kl c a x && encE nt tb kl c b y) = true := h
      simp only [Bool.and_eq_true] at h'
      exact Good.ofV C.K (sim_idx C.K (sound pr a X c C x h'.1.2).v (sound pr b X c C y h'.2).v (subscr_plain h'.1.1)) (fun _ => rfl) (fun _ _ => rfl) fun _ _ => rfl
    | _ => cases h
  | .slice a lo hi, X, c, C, e, h => by
    cases e with
    | Subscript x y p =>
      cases y with
      | Slice l hh st p2 =>
        cases st with
        | none =>
          have h' : (encE nt tb kl c a x && encO nt tb kl c lo l && encO nt tb kl c hi hh) = true := h
          simp only [Bool.and_eq_true] at h'
          have o1 : SimO G X l (dOpt (dens tb cl lo)) := by
            have hz := h'.1.2
            rcases lo with _ | ⟨e1, _ | ⟨e2, lo⟩⟩ <;> cases l <;> first | (cases hz; done) | skip
            · exact simO_none
            · exact simO_some (sound pr e1 X c C _ hz).v
          have o2 : SimO G X hh (dOpt (dens tb cl hi)) := by
            have hz := h'.2
            rcases hi with _ | ⟨e1, _ | ⟨e2, hi⟩⟩ <;> cases hh <;> first | (cases hz; done) | skip
            · exact simO_none
            · exact simO_some (sound pr e1 X c C _ hz).v
          exact Good.ofV C.K (sim_slice C.K (sound pr a X c C x h'.1.1).v o1 o2) (fun _ => rfl) (fun _ _ => rfl) fun _ _ => rfl
        | some => cases h
      | _ => cases h
    | _ => cases h
  | .attr a f, X, c, C, e, h => by
    cases e with
    | Attribute x fx p =>
      have h' : (decide (fx = nt.nm f) && baseB x && encE nt tb kl c a x) = true := h
      simp only [Bool.and_eq_true, decide_eq_true_eq] at h'
      exact Good.ofV C.K (sim_attr pr.pf C.K (by rw [h'.1.1, pr.nm]) (sound pr a X c C x h'.2).v (baseB_ok h'.1.2)) (fun _ => rfl) (fun _ _ => rfl) fun _ _ => rfl
    | _ => cases h
  | .eis kk, X, c, C, e, h => by
    cases e with
    | Call fe ys kw p =>
      rcases fe with _ | _ | _ | _ | _ | _ | _ | _ | _ | _ | _ | _ | _ | _ | _ | _ | _ | _ | _ | _ | _ | _ | _ | _ | _ | _ | _ | _ <;> try (cases h; done)
      rename_i x p1
      rcases ys with _ | ⟨y, _ | ⟨z, _ | ⟨_, _⟩⟩⟩ <;> try (cases h; done)
      all_goals try (cases y <;> cases h; done)
      all_goals try (cases y <;> first | (cases h; done) | (cases z <;> (cases h; done)); done)
      cases y <;> try (cases h; done)
      cases z <;> try (cases h; done)
      rename_i y p2 z p3
      cases kw <;> try (cases h; done)
      have h' : (glB c x && decide (x = "isinstance") && eslB c y && glB c z && decide (nt.cn kk = some z) && tb.xi kk && tb.xiu) = true := h
      simp only [Bool.and_eq_true, decide_eq_true_eq] at h'
      obtain ⟨⟨⟨⟨⟨⟨h1, rfl⟩, h3⟩, h4⟩, h5⟩, h6⟩, h7⟩ := h'
      obtain ⟨g1, g2, g3⟩ := C.gl h1
      obtain ⟨k1, k2, k3⟩ := C.gl h4
      unfold eslB at h3
      rcases C.esl with ⟨_, zz, _⟩ | ⟨er, z1, z2, z3, X0, oe, pn, rfl, hz, hd, hx⟩
      · rw [zz] at h3; cases h3
      rw [z2] at h3
      simp only [Bool.and_eq_true, decide_eq_true_eq] at h3
      obtain ⟨⟨n1, n2⟩, n3⟩ := h3
      obtain ⟨m1, m2, _⟩ := okNm_ok n3
      have hx' : tb.xr er.c = true := by rw [← pr.isx]; exact hx
      have hv := pe_var (X := X0.suite er.a ((er.a, oe) :: pn)) (pos := p2) (by rw [C.N]; exact n1) (by rw [C.sc]; exact lookup_vis n2) m1 m2
      have q := sim_eis (G := G) (pos := p) (p := p1) (by rw [show X0.K = G.K from C.K]; exact pr.eis h7 _ hx') hz hd z1 g1 (C.blt _ (by decide)) hv (pe_glob (v := .ref (G.ca kk)) (pos := p3) k1 (C.mgc _ _ h5) rfl k2) (fun _ _ => rfl) (.own (G.ca kk)) (by rw [show X0.K = G.K from C.K]; exact pr.kio h7 _ _ hx' h6)
      have ed : den tb cl (.eis kk) = Bx.ofV fun _ S => .ok (.bl (tb.sub er.c kk)) S := by
        show Bx.ofV (fun (_ : Vars) (S : Store) => match cl.err with
          | some (c, _) => Out.ok (Dn.D.bl (tb.sub c kk)) S
          | none => .stuck) = _
        rw [z3]
      rw [ed]
      exact Good.ofV C.K q (fun _ => rfl) (fun _ _ => rfl) fun _ _ => rfl
    | _ => cases h
  | .eib b, X, c, C, e, h => by
    cases e with
    | Call fe ys kw p =>
      rcases fe with _ | _ | _ | _ | _ | _ | _ | _ | _ | _ | _ | _ | _ | _ | _ | _ | _ | _ | _ | _ | _ | _ | _ | _ | _ | _ | _ | _ <;> try (cases h; done)
      rename_i x p1
      rcases ys with _ | ⟨y, _ | ⟨z, _ | ⟨_, _⟩⟩⟩ <;> try (cases h; done)
      all_goals try (cases y <;> cases h; done)
      all_goals try (cases y <;> first | (cases h; done) | (cases z <;> (cases h; done)); done)
      cases y <;> try (cases h; done)
      cases z <;> try (cases h; done)
      rename_i y p2 z p3
      cases kw <;> try (cases h; done)
      have h' : (glB c x && decide (x = "isinstance") && eslB c y && glB c z && decide (z = (xbs.getD b "" : String)) && decide (b < xbs.length) && tb.xiu) = true := h
      simp only [Bool.and_eq_true, decide_eq_true_eq] at h'
      obtain ⟨⟨⟨⟨⟨⟨h1, rfl⟩, h3⟩, h4⟩, h5⟩, h6⟩, h7⟩ := h'
      obtain ⟨g1, g2, g3⟩ := C.gl h1
      obtain ⟨k1, k2, k3⟩ := C.gl h4
      unfold eslB at h3
      rcases C.esl with ⟨_, zz, _⟩ | ⟨er, z1, z2, z3, X0, oe, pn, rfl, hz, hd, hx⟩
      · rw [zz] at h3; cases h3
      rw [z2] at h3
      simp only [Bool.and_eq_true, decide_eq_true_eq] at h3
      obtain ⟨⟨n1, n2⟩, n3⟩ := h3
      obtain ⟨m1, m2, _⟩ := okNm_ok n3
      have hx' : tb.xr er.c = true := by rw [← pr.isx]; exact hx
      have hv := pe_var (X := X0.suite er.a ((er.a, oe) :: pn)) (pos := p2) (by rw [C.N]; exact n1) (by rw [C.sc]; exact lookup_vis n2) m1 m2
      have hcl : PE (X0.suite er.a ((er.a, oe) :: pn)) (.Name z p3) (tC (.ty (xbs.getD b ""))) := by
        subst h5
        match b, h6 with
        | 0, _ => exact pe_bltn k1 (C.blt _ (by decide)) (by decide +kernel) rfl (by decide) (by decide)
        | 1, _ => exact pe_bltn k1 (C.blt _ (by decide)) (by decide +kernel) rfl (by decide) (by decide)
        | 2, _ => exact pe_bltn k1 (C.blt _ (by decide)) (by decide +kernel) rfl (by decide) (by decide)
      have q := sim_eis (G := G) (pos := p) (p := p1) (by rw [show X0.K = G.K from C.K]; exact pr.eis h7 _ hx') hz hd z1 g1 (C.blt _ (by decide)) hv hcl (fun _ _ => rfl) (.ty _) (by rw [show X0.K = G.K from C.K]; exact pr.kib h7 _ _ hx' h6)
      have ed : den tb cl (.eib b) = Bx.ofV fun _ S => .ok (.bl (tb.xb er.c b)) S := by
        show Bx.ofV (fun (_ : Vars) (S : Store) => match cl.err with
          | some (c, _) => Out.ok (Dn.D.bl (tb.xb c b)) S
          | none => .stuck) = _
        rw [z3]
      rw [ed]
      exact Good.ofV C.K q (fun _ => rfl) (fun _ _ => rfl) fun _ _ => rfl
    | _ => cases h
  | .xat kk ks es f, X, c, C, e, h => by
    cases e with
    | Attribute o fx p =>
      cases o with
      | Call fe ys kw p2 =>
        rcases fe with _ | _ | _ | _ | _ | _ | _ | _ | _ | _ | _ | _ | _ | _ | _ | _ | _ | _ | _ | _ | _ | _ | _ | _ | _ | _ | _ | _ <;> try (cases h; done)
        rename_i x p1
        cases ys <;> try (cases h; done)
        rcases kw with _ | ⟨kw, kws⟩ <;> try (cases h; done)
        have h' : (c.calm && decide (fx = nt.nm f) && glB c x && decide (nt.cn kk = some x) && tb.xk kk ks && decide ((kw :: kws).map (·.arg) = (nt.kn kk ks).map some) && encEs nt tb kl c es ((kw :: kws).map (·.value))) = true := h
        simp only [Bool.and_eq_true, decide_eq_true_eq] at h'
        obtain ⟨⟨⟨⟨⟨⟨h1, h2⟩, h3⟩, h4⟩, h5⟩, h6⟩, h7⟩ := h'
        obtain ⟨hot1, hot2, hot3⟩ := C.hot h1
        obtain ⟨g1, g2, g3⟩ := C.gl h3
        obtain ⟨k1, k2, k3⟩ := kw_names (env := X.env) (pos := p2) h6
        have R := C.rx h1 kk ks h5
        have q := sim_xat (fx := fx) (p := p1) (p3 := p) R hot3 g1 (by rw [pr.xa]; exact C.mgc _ _ h4) (GoodL.pk (sounds pr es X c C _ h7)) (by rw [h2, pr.nm]) k1 k2 g2 (by rw [k3]; rfl) rfl
        rw [← pr.pf.xf] at q
        exact Good.ofV C.K q (fun _ => rfl) (fun _ _ => rfl) fun _ _ => rfl
      | _ => cases h
    | _ => cases h
  | .ef f, X, c, C, e, h => by
    cases e with
    | Attribute o fx p =>
      cases o with
      | Name x p2 =>
        have h' : (decide (fx = nt.nm f) && (match c.esl with
          | some i => decide (c.N[i]? = some x) && visB c.sc x && okNm x
          | none => false)) = true := h
        simp only [Bool.and_eq_true, decide_eq_true_eq] at h'
        obtain ⟨h1, h2⟩ := h'
        rcases C.esl with ⟨_, z, _⟩ | ⟨er, z1, z2, z3, X0, oe, pn, rfl, hz, hd, hx⟩
        · rw [z] at h2; cases h2
        rw [z2] at h2
        simp only [Bool.and_eq_true, decide_eq_true_eq] at h2
        obtain ⟨⟨h3, h4⟩, h5⟩ := h2
        obtain ⟨n1, n2, _⟩ := okNm_ok h5
        obtain ⟨x1, x2⟩ := pr.px er.c hx
        refine Good.ofV C.K (fun W tk => ?_) (fun _ => rfl) (fun _ _ => rfl) fun _ _ => rfl
        have hv := pe_var (X := X0.suite er.a ((er.a, oe) :: pn)) (pos := p2) (by rw [C.N]; exact h3) (by rw [C.sc]; exact lookup_vis h4) n1 n2
        by_cases hm : f ∈ G.xf er.c
        · refine PE.imp (pe_xf (X := X0) (cls := .ref (G.xa er.c)) (d := er.dd) (C := G.xa er.c) (by have := C.K; rw [show X0.K = G.K from this]; exact x1) (by rw [h1, pr.nm, show X0.K = G.K from C.K]; exact x2 f hm) hz hd hv rfl) fun σ H Q ⟨Γ, w, hw, A, hf⟩ => ?_
          subst hw
          obtain ⟨s1, sx⟩ := A.err er z1
          rcases sx with ⟨_, sx, _⟩ | ⟨dd, fs, vs, sd, s2, s3, s4, s5⟩
          · rw [sx] at hm; cases hm
          refine ⟨_, s1, rfl, rfl, dd, fs, ?_⟩
          dsimp only at hf
          rw [z3] at hf
          dsimp only at hf
          rw [pr.pf.xf] at hf
          split at hf
          · rename_i d hfd
            unfold fieldAt at hfd
            cases hi : (G.xf er.c).idxOf? f with
            | none => rw [hi] at hfd; cases hfd
            | some i =>
              rw [hi] at hfd
              obtain ⟨v, hv, rv⟩ := s5.get (i := i) (d := d) (by simpa using hfd)
              have key : ∀ {xf : List Nat} {vs : List V} {i : Nat} {v : V}, Paired (fun f v => fs.lookup (G.nm f) = some v) xf vs → xf.idxOf? f = some i → vs[i]? = some v → fs.lookup (G.nm f) = some v := by
                intro xf vs i v hp
                induction hp generalizing i with
                | nil => intro hi; simp at hi
                | @cons g u xf vs hg _ ih =>
                  intro hi hv
                  by_cases hgf : g = f
                  · subst hgf
                    simp [List.idxOf?_cons] at hi
                    subst hi
                    simp at hv
                    rw [← hv]; exact hg
                  · have hb : (g == f) = false := by simpa using hgf
                    rw [List.idxOf?_cons, hb] at hi
                    simp at hi
                    obtain ⟨j, hj, rfl⟩ := hi
                    exact ih hj (by simpa using hv)
              exact ⟨v, sd, s2, by rw [h1, pr.nm]; exact key s4 hi hv, Fin.ok hf A.rel rv⟩
          · exact hf.elim
        · refine PE.imp (SimE.stuck (G := G) W tk) fun σ H Q ⟨Γ, w, hw, A, hf⟩ => ?_
          refine ⟨Γ, w, hw, A, ?_⟩
          dsimp only at hf
          rw [z3] at hf
          dsimp only at hf
          rw [pr.pf.xf] at hf
          have : fieldAt (G.xf er.c) er.xs f = none := by
            unfold fieldAt
            have : (G.xf er.c).idxOf? f = none := by
              cases hi : (G.xf er.c).idxOf? f with
              | none => rfl
              | some i => exact absurd (mem_idx hi) hm
            rw [this]; rfl
          rw [this] at hf
          exact hf
      | _ => cases h
    | _ => cases h
  | .b1 f a, X, c, C, e, h => by
    cases e with
    | Call g ys kw p =>
      cases g with
      | Name x p2 =>
        rcases ys with _ | ⟨y, _ | ⟨y2, ys⟩⟩ <;> cases kw <;> first | (cases h; done) | skip
        have h' : (glB c x && decide (x = f.py.2) && (c.calm || f.hot) && nsB y && encE nt tb kl c a y) = true := h
        simp only [Bool.and_eq_true, Bool.or_eq_true, decide_eq_true_eq] at h'
        obtain ⟨⟨⟨⟨h1, h2⟩, h3⟩, h4⟩, h5⟩ := h'
        obtain ⟨g1, g2, g3⟩ := C.gl h1
        have ga := sound pr a X c C y h5
        have hb : X.mg x = none := by rw [h2]; exact C.blt _ (f1_blt f)
        have hv : bootBuiltins x = some (pyV f.py) := by rw [h2]; exact f1_boot f
        by_cases hf : f = .list
        · subst hf
          exact Good.ofL C.K (sim_list C.K g1 hb hv ga.v g3 g2 (ga.ns _ _)) (fun _ => rfl) (fun _ _ => rfl) fun _ _ => rfl
        · have hd : den tb cl (.b1 f a) = .ofV fun Γ S => ((den tb cl a).v Γ S).bind (opF1 f) := by
            cases f <;> first | rfl | exact absurd rfl hf
          rw [hd]
          exact Good.ofV C.K (sim_b1 C.gd C.un C.K hf (h3.imp (fun z => (C.hot z).1) id) g1 hb hv ga.v g3 g2 (ga.ns _ _)) (fun _ => rfl) (fun _ _ => rfl) fun _ _ => rfl
      | _ => cases h
    | _ => cases h
  | .mx kk a b, X, c, C, e, h => by
    cases e with
    | Call g ys kw p =>
      cases g with
      | Name x p2 =>
        rcases ys with _ | ⟨y, _ | ⟨z, _ | ⟨y2, ys⟩⟩⟩ <;> cases kw <;> first | (cases h; done) | skip
        have h' : (glB c x && c.calm && decide (x = if kk then "max" else "min") && nsB y && nsB z && encE nt tb kl c a y && encE nt tb kl c b z) = true := h
        simp only [Bool.and_eq_true, decide_eq_true_eq] at h'
        obtain ⟨⟨⟨⟨⟨⟨h1, h2⟩, h3⟩, h4⟩, h5⟩, h6⟩, h7⟩ := h'
        obtain ⟨g1, g2, g3⟩ := C.gl h1
        have ga := sound pr a X c C y h6
        have gb := sound pr b X c C z h7
        have hb : X.mg x = none := by rw [h3]; cases kk <;> exact C.blt _ (by decide)
        have hv : bootBuiltins x = some (pyV (false, if kk then "max" else "min")) := by rw [h3]; cases kk <;> decide +kernel
        exact Good.ofV C.K (sim_mx (C.hot h2).1 g1 hb hv ga.v gb.v g3 g2 (ga.ns _ _) (gb.ns _ _)) (fun _ => rfl) (fun _ _ => rfl) fun _ _ => rfl
      | _ => cases h
    | _ => cases h
  | .bm m o es, X, c, C, e, h => by
    cases e with
    | Call g ys kw p =>
      cases g with
      | Attribute x nx ap =>
        cases kw <;> first | (cases h; done) | skip
        have h' : (decide (nx = m.py.1) && baseB x && decide ((ap.endLine == p.line) = true) && decide (ys.length < 29) && ys.all nsB && encE nt tb kl c o x && encEs nt tb kl c es ys) = true := h
        simp only [Bool.and_eq_true, decide_eq_true_eq] at h'
        obtain ⟨⟨⟨⟨⟨⟨rfl, h2⟩, h3⟩, h4⟩, h5⟩, h6⟩, h7⟩ := h'
        have go := sound pr o X c C x h6
        have ga := sounds pr es X c C ys h7
        refine Good.ofV C.K ?_ (fun _ => rfl) (fun _ _ => rfl) fun _ _ => rfl
        cases ys with
        | nil =>
          cases es with
          | nil => exact sim_bm0 m C.K go.v (baseB_ok h2) (by simpa using h3)
          | cons => cases h7
        | cons y ys => exact sim_bm m C.K go.v ga.args ga.ns (baseB_ok h2) (by simpa using h3) (by omega)
      | _ => cases h
    | _ => cases h
  | .isi a ts, X, c, C, e, h => by
    cases e with
    | Call g ys kw p =>
      cases g with
      | Name x p2 =>
        rcases ys with _ | ⟨y, _ | ⟨z, _ | ⟨y2, ys⟩⟩⟩ <;> cases kw <;> first | (rcases ts with _ | ⟨t1, _ | ⟨t2, ts⟩⟩ <;> cases h; done) | (rcases ts with _ | ⟨t1, _ | ⟨t2, ts⟩⟩ <;> cases z <;> cases h; done) | skip
        cases z with
        | Name zn zp =>
          rcases ts with _ | ⟨t1, _ | ⟨t2, ts⟩⟩ <;> first | (cases h; done) | skip
          have h' : (glB c x && decide (x = "isinstance") && nsB y && t1.good tb.ic && tyB nt c t1 (.Name zn zp) && encE nt tb kl c a y) = true := h
          simp only [Bool.and_eq_true, decide_eq_true_eq] at h'
          obtain ⟨⟨⟨⟨⟨h1, rfl⟩, h3⟩, h4⟩, h5⟩, h6⟩ := h'
          obtain ⟨g1, g2, g3⟩ := C.gl h1
          have ga := sound pr a X c C y h6
          obtain ⟨t1', t2'⟩ := tyB_ok C h5
          exact Good.ofV C.K (sim_isi1 pr.pk C.K h4 g1 (C.blt _ (by decide)) ga.v t1' ga.ns t2') (fun _ => rfl) (fun _ _ => rfl) fun _ _ => rfl
        | Tuple zs zk zp =>
          have h' : (glB c x && decide (x = "isinstance") && nsB y && decide (ts.length ≤ 30) && ts.all (Ty.good tb.ic) && tysB nt c ts zs && encE nt tb kl c a y) = true := by
            rcases ts with _ | ⟨t1, _ | ⟨t2, ts⟩⟩ <;> exact h
          simp only [Bool.and_eq_true, decide_eq_true_eq] at h'
          obtain ⟨⟨⟨⟨⟨⟨h1, rfl⟩, h3⟩, h4⟩, h5⟩, h6⟩, h7⟩ := h'
          obtain ⟨g1, g2, g3⟩ := C.gl h1
          have ga := sound pr a X c C y h7
          have hps : ∀ {ts : List Ty} {zs : List Expr}, tysB nt c ts zs = true → PA X zs (tTys G ts) := by
            intro ts
            induction ts with
            | nil =>
              intro zs hz
              cases zs with
              | nil => exact PA.imp' pa_nil fun σ H Q q => q
              | cons => cases hz
            | cons t ts ih =>
              intro zs hz
              cases zs with
              | nil => cases hz
              | cons z zs =>
                have hz' : (tyB nt c t z && tysB nt c ts zs) = true := hz
                simp only [Bool.and_eq_true] at hz'
                obtain ⟨t1', t2'⟩ := tyB_ok C hz'.1
                exact PA.imp' (pa_cons t1' (ih hz'.2) (t2' _ _)) fun σ H Q q => q
          exact Good.ofV C.K (sim_isiT pr.pk C.K (fun t ht => List.all_eq_true.mp h5 t ht) g1 (C.blt _ (by decide)) ga.v (hps h6) (by show ts.length ≤ 16777216; omega) ga.ns) (fun _ => rfl) (fun _ _ => rfl) fun _ _ => rfl
        | _ => rcases ts with _ | ⟨t1, _ | ⟨t2, ts⟩⟩ <;> cases h
      | _ => rcases ts with _ | ⟨t1, _ | ⟨t2, ts⟩⟩ <;> cases h
    | _ => rcases ts with _ | ⟨t1, _ | ⟨t2, ts⟩⟩ <;> cases h
  | .call f es, X, c, C, e, h => by
    cases e with
    | Call g ys kw p =>
      cases g with
      | Name x p2 =>
        cases ys <;> cases kw <;> first | (cases h; done) | skip
        rename_i y ys
        have h' : (c.calm && glB c x && decide (nt.fn f = some x) && (y :: ys).all nsB && encEs nt tb kl c es (y :: ys)) = true := h
        simp only [Bool.and_eq_true, decide_eq_true_eq] at h'
        obtain ⟨⟨⟨⟨h1, h2⟩, h3⟩, h4⟩, h5⟩ := h'
        obtain ⟨g1, g2, g3⟩ := C.gl h2
        have ga := sounds pr es X c C _ h5
        exact Good.ofV C.K (sim_call C.gd (C.cal h1 f x h3) (C.hot h1).2.2 g1 (C.mgf f x h3) ga.args g2 ga.ns) (fun _ => rfl) (fun _ _ => rfl) fun _ _ => rfl
      | _ => cases h
    | _ => cases h
  | .callv i es, X, c, C, e, h => by
    cases e with
    | Call g ys kw p =>
      cases g with
      | Name x p2 =>
        cases ys <;> cases kw <;> first | (cases h; done) | skip
        rename_i y ys
        have h' : (c.calm && nmB c i x && (y :: ys).all nsB && encEs nt tb kl c es (y :: ys)) = true := h
        simp only [Bool.and_eq_true] at h'
        obtain ⟨⟨⟨h1, h2⟩, h4⟩, h5⟩ := h'
        obtain ⟨g1, g2, g3, g4⟩ := C.var h2
        have ga := sounds pr es X c C _ h5
        exact Good.ofV C.K (sim_callv C.gd (C.calv h1) (C.hot h1).2.2 g1 g2 ga.args g3 g4 ga.ns) (fun _ => rfl) (fun _ _ => rfl) fun _ _ => rfl
      | _ => cases h
    | _ => cases h
  | .mk kk es, X, c, C, e, h => by
    cases e with
    | Call g ys kw p =>
      cases g with
      | Name x p2 =>
        cases ys <;> cases kw <;> first | (cases h; done) | skip
        rename_i y ys
        have h' : (c.calm && glB c x && decide (nt.cn kk = some x) && (kl kk).isSome && (y :: ys).all nsB && encEs nt tb kl c es (y :: ys)) = true := h
        simp only [Bool.and_eq_true, decide_eq_true_eq] at h'
        obtain ⟨⟨⟨⟨⟨h1, h2⟩, h3⟩, h6⟩, h4⟩, h5⟩ := h'
        obtain ⟨g1, g2, g3⟩ := C.gl h2
        have ga := sounds pr es X c C _ h5
        obtain ⟨φ, e1, e2⟩ := C.mak h1
        have := sim_mk (p := p2) (pos := p) h6 C.gd pr.pf C.K (e2 kk) (C.hot h1).2.2 g1 (C.mgc kk x h3) ga.args g2 ga.ns
        rw [← e1] at this
        exact Good.ofV C.K this (fun _ => rfl) (fun _ _ => rfl) fun _ _ => rfl
      | _ => cases h
    | _ => cases h
  | .meth o m es, X, c, C, e, h => by
    cases e with
    | Call g ys kw p =>
      cases g with
      | Attribute x nx ap =>
        cases kw <;> first | (cases h; done) | skip
        have h' : (c.calm && decide (nx = nt.nm m) && baseB x && decide ((ap.endLine == p.line) = true) && decide (ys.length < 29) && ys.all nsB && encE nt tb kl c o x && encEs nt tb kl c es ys) = true := h
        simp only [Bool.and_eq_true, decide_eq_true_eq] at h'
        obtain ⟨⟨⟨⟨⟨⟨⟨h1, h8⟩, h2⟩, h3⟩, h4⟩, h5⟩, h6⟩, h7⟩ := h'
        have go := sound pr o X c C x h6
        have ga := sounds pr es X c C ys h7
        refine Good.ofV C.K (sim_meth C.gd pr.pf C.K (by rw [h8, pr.nm]) (fun c' g z => C.calm_ h1 c' m g z) (C.hot h1).2.2 go.v ga.args (baseB_ok h2) (by simpa using h3) h4 ga.ns fun z => ?_) (fun _ => rfl) (fun _ _ => rfl) fun _ _ => rfl
        subst z
        cases es with
        | nil => rfl
        | cons => cases h7
      | _ => cases h
    | _ => cases h
  | .rng es, X, c, C, e, h => by
    cases e with
    | Call g ys kw p =>
      cases g with
      | Name x p2 =>
        cases kw <;> first | (cases h; done) | skip
        have h' : (glB c x && decide (x = "range") && decide (1 ≤ ys.length ∧ ys.length ≤ 3) && ys.all nsB && encEs nt tb kl c es ys) = true := h
        simp only [Bool.and_eq_true, decide_eq_true_eq] at h'
        obtain ⟨⟨⟨⟨h1, rfl⟩, h3⟩, h4⟩, h5⟩ := h'
        obtain ⟨g1, g2, g3⟩ := C.gl h1
        have hb : X.mg "range" = none := C.blt _ (by decide)
        refine Good.ofI (fun tg _ => ?_) (fun _ _ => rfl) fun _ _ => rfl
        have gl := sounds pr es X c C ys h5
        have hlen : ys.length = es.length := by rw [gl.len, dens_len]
        rcases es with _ | ⟨a, _ | ⟨b, _ | ⟨d, _ | ⟨e4, es⟩⟩⟩⟩ <;> rcases ys with _ | ⟨y, _ | ⟨z, _ | ⟨w, _ | ⟨y4, ys⟩⟩⟩⟩ <;> first | (exfalso; simp at hlen; done) | (exfalso; simp at h3; done) | (exfalso; simp at h3; omega) | skip
        · cases gl with
          | cons ga _ =>
            show SimI G X tg _ (fun Γ S => (dArgs [den tb cl a] Γ S).bind opRng)
            rw [dArgs1]
            exact sim_rng1 g1 hb ga.v ga.ns
        · cases gl with
          | cons ga gr => cases gr with
            | cons gb _ =>
              show SimI G X tg _ (fun Γ S => (dArgs [den tb cl a, den tb cl b] Γ S).bind opRng)
              rw [dArgs2]
              exact sim_rng2 g1 hb ga.v gb.v ga.ns gb.ns
        · cases gl with
          | cons ga gr => cases gr with
            | cons gb gr => cases gr with
              | cons gc _ =>
                show SimI G X tg _ (fun Γ S => (dArgs [den tb cl a, den tb cl b, den tb cl d] Γ S).bind opRng)
                rw [dArgs3]
                exact sim_rng3 g1 hb ga.v gb.v gc.v ga.ns gb.ns gc.ns
      | _ => cases h
    | _ => cases h
  | .enum a, X, c, C, e, h => by
    cases e with
    | Call g ys kw p =>
      cases g with
      | Name x p2 =>
        rcases ys with _ | ⟨y, _ | ⟨y2, ys⟩⟩ <;> cases kw <;> first | (cases h; done) | skip
        have h' : (glB c x && decide (x = "enumerate") && nsB y && encE nt tb kl c a y) = true := h
        simp only [Bool.and_eq_true, decide_eq_true_eq] at h'
        obtain ⟨⟨⟨h1, rfl⟩, h4⟩, h5⟩ := h'
        obtain ⟨g1, g2, g3⟩ := C.gl h1
        have ga := sound pr a X c C y h5
        refine Good.ofI (fun tg htg => ?_) (fun _ _ => rfl) fun _ _ => rfl
        have ht := htg rfl
        cases tg with
        | Tuple elts kk2 tp => exact sim_enum C.K g1 (C.blt _ (by decide)) ga.v ga.ns
        | _ => cases ht
      | _ => cases h
    | _ => cases h
  | .lrng a b, X, c, C, e, h => by
    cases e with
    | Call g ys kw p =>
      cases g with
      | Name x p2 =>
        rcases ys with _ | ⟨y, ys0⟩
        · cases h
        cases y with
        | Call g2 ys2 kw2 p3 =>
          cases g2 with
          | Name r p4 =>
            rcases ys2 with _ | ⟨y, _ | ⟨z, _ | ⟨y2, ys⟩⟩⟩ <;> cases ys0 <;> cases kw <;> cases kw2 <;> first | (cases h; done) | skip
            have h' : (c.calm && glB c x && decide (x = "list") && glB c r && decide (r = "range") && nsB y && nsB z && encE nt tb kl c a y && encE nt tb kl c b z) = true := h
            simp only [Bool.and_eq_true, decide_eq_true_eq] at h'
            obtain ⟨⟨⟨⟨⟨⟨⟨⟨h0, h1⟩, rfl⟩, h3⟩, rfl⟩, h5⟩, h6⟩, h7⟩, h8⟩ := h'
            obtain ⟨g1, _, _⟩ := C.gl h1
            obtain ⟨g2, _, _⟩ := C.gl h3
            exact Good.ofL C.K (sim_lrng (C.hot h0).1 g1 (C.blt _ (by decide)) g2 (C.blt _ (by decide)) (sound pr a X c C y h7).v (sound pr b X c C z h8).v (nsB_ok h5) (nsB_ok h6)) (fun _ => rfl) (fun _ _ => rfl) fun _ _ => rfl
          | _ => cases h
        | _ => cases h
      | _ => cases h
    | _ => cases h
  | .glc i, X, c, C, e, h => by
    cases e with
    | Name x p =>
      have h' : (glB c x && decide (nt.gn i = some x)) = true := h
      simp only [Bool.and_eq_true, decide_eq_true_eq] at h'
      obtain ⟨g1, g2, g3⟩ := C.gl h'.1
      obtain ⟨u, hu, hc⟩ := C.gc i x h'.2
      exact Good.ofV C.K (sim_glc g1 hu hc g2) (fun _ => rfl) (fun _ _ => rfl) fun _ _ => rfl
    | _ => cases h
  | .dget i b, X, c, C, e, h => by
    cases e with
    | Subscript x y p =>
      cases x with
      | Name x p2 =>
        have h' : (glB c x && decide (nt.dn i = some x) && idxB y && encE nt tb kl c b y) = true := h
        simp only [Bool.and_eq_true, decide_eq_true_eq] at h'
        obtain ⟨⟨⟨h1, h2⟩, h3⟩, h4⟩ := h'
        obtain ⟨g1, g2, g3⟩ := C.gl h1
        obtain ⟨ad, hu, hc⟩ := C.gd' i x h2
        have gb := sound pr b X c C y h4
        exact Good.ofV C.K (sim_dget C.K g1 hu hc gb.v (subscr_plain h3) g2) (fun _ => rfl) (fun _ _ => rfl) fun _ _ => rfl
      | _ => cases h
    | _ => cases h
  | .din neg i b, X, c, C, e, h => by
    cases e with
    | Compare x os ys p =>
      rcases os with _ | ⟨o, _ | ⟨o2, os⟩⟩ <;> rcases ys with _ | ⟨y, _ | ⟨y2, ys⟩⟩ <;> first | (cases h; done) | (cases y <;> cases h; done) | skip
      cases y with
      | Name z p2 =>
        have h' : (decide (o = if neg then .NotIn else .In) && glB c z && decide (nt.dn i = some z) && encE nt tb kl c b x) = true := h
        simp only [Bool.and_eq_true, decide_eq_true_eq] at h'
        obtain ⟨⟨⟨rfl, h1⟩, h2⟩, h4⟩ := h'
        obtain ⟨g1, g2, g3⟩ := C.gl h1
        obtain ⟨ad, hu, hc⟩ := C.gd' i z h2
        have gb := sound pr b X c C x h4
        exact Good.ofT (sim_din neg C.K g1 hu hc gb.v g2) (sim_dinT neg C.K g1 hu hc gb.v g2) (fun _ _ => rfl) fun _ _ => rfl
      | _ => cases h
    | _ => cases h
  | .dix a b, X, c, C, e, h => by
    cases e with
    | Subscript x z p =>
      cases x with
      | Call g ys kw p3 =>
        cases g with
        | Name x p2 =>
          rcases ys with _ | ⟨y, _ | ⟨y2, ys⟩⟩ <;> cases kw <;> first | (cases h; done) | skip
          have h' : (c.calm && glB c x && decide (x = "dict") && nsB y && idxB z && encE nt tb kl c a y && encE nt tb kl c b z) = true := h
          simp only [Bool.and_eq_true, decide_eq_true_eq] at h'
          obtain ⟨⟨⟨⟨⟨⟨h0, h1⟩, rfl⟩, h3⟩, h4⟩, h5⟩, h6⟩ := h'
          obtain ⟨g1, g2, g3⟩ := C.gl h1
          have ga := sound pr a X c C y h5
          have gb := sound pr b X c C z h6
          exact Good.ofV C.K (sim_dix (C.hot h0).1 C.un C.K g1 rfl (C.blt _ (by decide)) ga.v gb.v (nsB_ok h3) (fun ov iv => by
            cases z <;> first | rfl | cases h4)) (fun _ => rfl) (fun _ _ => rfl) fun _ _ => rfl
        | _ => cases h
      | _ => cases h
    | _ => cases h
  | .m1 cnt o a, X, c, C, e, h => by
    cases e with
    | Call g ys kw p =>
      cases g with
      | Attribute x nx ap =>
        rcases ys with _ | ⟨y, _ | ⟨y2, ys⟩⟩ <;> cases kw <;> first | (cases h; done) | skip
        have h' : (decide (nx = m1Nm cnt) && baseB x && decide ((ap.endLine == p.line) = true) && nsB y && encE nt tb kl c o x && encE nt tb kl c a y) = true := h
        simp only [Bool.and_eq_true, decide_eq_true_eq] at h'
        obtain ⟨⟨⟨⟨⟨rfl, h2⟩, h3⟩, h4⟩, h5⟩, h6⟩ := h'
        exact Good.ofV C.K (sim_m1 cnt C.K C.un (sound pr o X c C x h5).v (sound pr a X c C y h6).v (nsB_ok h4) (baseB_ok h2) h3) (fun _ => rfl) (fun _ _ => rfl) fun _ _ => rfl
      | _ => cases h
    | _ => cases h
  | .sorted a, X, c, C, e, h => by
    cases e with
    | Call g ys kw p =>
      cases g with
      | Name x p2 =>
        rcases ys with _ | ⟨y, _ | ⟨y2, ys⟩⟩ <;> cases kw <;> first | (cases h; done) | skip
        have h' : (glB c x && decide (x = "sorted") && nsB y && encE nt tb kl c a y) = true := h
        simp only [Bool.and_eq_true, decide_eq_true_eq] at h'
        obtain ⟨⟨⟨h1, rfl⟩, h3⟩, h4⟩ := h'
        obtain ⟨g1, g2, g3⟩ := C.gl h1
        exact Good.ofL C.K (sim_sorted C.K C.un g1 rfl (C.blt _ (by decide)) (sound pr a X c C y h4).v (nsB_ok h3)) (fun _ => rfl) (fun _ _ => rfl) fun _ _ => rfl
      | _ => cases h
    | _ => cases h
  | .ceq neg m a b, X, c, C, e, h => by
    cases e with
    | Compare x os ys p =>
      rcases os with _ | ⟨o, _ | ⟨o2, os⟩⟩ <;> rcases ys with _ | ⟨y, _ | ⟨y2, ys⟩⟩ <;> first | (cases h; done) | skip
      have h' : (c.calm && decide (o = if neg then .NotEq else .Eq) && !behindInMarks o y && decide (nt.nm m = "__eq__") && encE nt tb kl c a x && encE nt tb kl c b y) = true := h
      simp only [Bool.and_eq_true, decide_eq_true_eq, Bool.not_eq_true'] at h'
      obtain ⟨⟨⟨⟨⟨h0, rfl⟩, h2⟩, h3⟩, h4⟩, h5⟩ := h'
      have ga := sound pr a X c C x h4
      have gb := sound pr b X c C y h5
      have hm : G.nm m = "__eq__" := by rw [← pr.nm]; exact h3
      obtain ⟨c1, c2, c3⟩ := C.hot h0
      exact Good.ofT (sim_ceq neg C.gd pr.pf pr.pk C.K hm (pr.eqf m hm) (fun c' g z => C.eqc h0 c' m g z) c3 ga.v gb.v h2) (sim_ceqT neg C.gd pr.pf pr.pk C.K hm (pr.eqf m hm) (fun c' g z => C.eqc h0 c' m g z) c3 ga.v gb.v h2) (fun _ _ => rfl) fun _ _ => rfl
    | _ => cases h
  | .zip es, X, c, C, e, h => by
    cases e with
    | Call g ys kw p =>
      cases g with
      | Name x p2 =>
        rcases ys with _ | ⟨y, _ | ⟨z, _ | ⟨y2, ys⟩⟩⟩ <;> cases kw <;> first | (cases h; done) | skip
        have h' : (glB c x && decide (x = "zip") && nsB y && nsB z && encEs nt tb kl c es [y, z]) = true := h
        simp only [Bool.and_eq_true, decide_eq_true_eq] at h'
        obtain ⟨⟨⟨⟨h1, rfl⟩, h3⟩, h4⟩, h5⟩ := h'
        obtain ⟨g1, g2, g3⟩ := C.gl h1
        have gl := sounds pr es X c C _ h5
        refine Good.ofI (fun tg htg => ?_) (fun _ _ => rfl) fun _ _ => rfl
        have ht := htg rfl
        have hlen : [y, z].length = es.length := by rw [gl.len, dens_len]
        rcases es with _ | ⟨a, _ | ⟨b, _ | ⟨d, es⟩⟩⟩ <;> first | (exfalso; simp at hlen; done) | skip
        cases gl with
        | cons ga gr => cases gr with
          | cons gb _ =>
            cases tg with
            | Tuple elts kk2 tp =>
              show SimI G X _ _ (fun Γ S => (dArgs [den tb cl a, den tb cl b] Γ S).bind opZip)
              rw [dArgs2]
              exact sim_zip C.K g1 (C.blt _ (by decide)) ga.v gb.v ga.ns gb.ns
            | _ => cases ht
      | _ => cases h
    | _ => cases h
theorem sounds (pr : Pr G tb kl nt) : ∀ (es : List Dn.E) (X : Cx) (c : Cfg), CtxOk G tb kl nt cl k X c → ∀ (xs : List Expr), encEs nt tb kl c es xs = true → GoodL G X xs (dens tb cl es)
  | [], X, c, C, xs, h => by
    cases xs with
    | nil => exact .nil
    | cons => cases h
  | e :: es, X, c, C, xs, h => by
    cases xs with
    | nil => cases h
    | cons x xs =>
      have h' : (nsB x && encE nt tb kl c e x && encEs nt tb kl c es xs) = true := h
      simp only [Bool.and_eq_true] at h'
      exact .cons (sound pr e X c C x h'.1.2) (sounds pr es X c C xs h'.2)
end
end
end Dn

set_option maxHeartbeats 4000000
namespace Dn
open PySem PySem.Spec PyProof.Rows L2

def compB : Expr → Bool
  | .ListComp _ _ _ _ => true
  | .SetComp _ _ _ _ => true
  | .DictComp _ _ _ _ _ => true
  | _ => false
/-- name = [..]: are the stores exchanged -/
def swB (c : Cfg) (t : Str) (tp vp : Pos) (scope : Scope) : Bool :=
  c.sc.names.lookup t == some .local && tp.line == vp.line && !(scope.names.any fun (n, k) => n == t && (k == .local || k == .cell))
def starB : Expr → Bool
  | .Starred _ _ => true
  | _ => false
def nmAt (c : Cfg) (line : Nat) : Expr → Option Str
  | .Name id pos => if c.sc.names.lookup id == some .local && pos.line == line then some id else none
  | _ => none
def swpN (c : Cfg) (ts vs : List Expr) : Option (Option (List Str)) :=
  if !(ts.length == 2 || ts.length == 3) || vs.length != ts.length then some none
  else if vs.any starB then some none
  else if (ts.filterMap (nmAt c ((ts.head?.map (·.pos.line)).getD 0))).length != ts.length || (ts.filterMap (nmAt c ((ts.head?.map (·.pos.line)).getD 0))).eraseDups.length != (ts.filterMap (nmAt c ((ts.head?.map (·.pos.line)).getD 0))).length then some none
  else if vs.all (foldedForSure 8) then some none
  else if vs.all (constantsAlone 8) then none
  else some (some (ts.filterMap (nmAt c ((ts.head?.map (·.pos.line)).getD 0))))
def plainSw (c : Cfg) : Expr → Expr → Bool
  | .Tuple ts _ _, .Tuple vs _ _ => decide (swpN c ts vs = some none)
  | .List _ _, .Tuple _ _ _ => false
  | .Name t tp, .ListComp _ _ s vp => !swB c t tp vp s
  | .Name _ _, e => !compB e
  | _, _ => true
def parB (c : Cfg) (is : List Nat) (ts vs : List Expr) : Bool := match swpN c ts vs with
  | some (some xs) => decide (is.map (c.N[·]?) = xs.map some) && xs.all (fun x => decide (c.sc.names.lookup x = some .local)) && decide (xs.length ≤ 3)
  | _ => false

theorem swN_ok {c : Cfg} {env : Env} (hb : env.blockKind = .function) (hs : env.scope = c.sc) {ts vs : List Expr} {k k2 : Nat} {p p2 : Pos} {r : Option (List Str)} (h : swpN c ts vs = some r) : swappedStores [.Tuple ts k p] (.Tuple vs k2 p2) env = pure r := by
  unfold swappedStores
  dsimp only
  generalize hg : List.filterMap _ ts = l
  generalize hst : vs.any _ = ww
  have e1 : l = ts.filterMap (nmAt c ((ts.head?.map (·.pos.line)).getD 0)) := by
    rw [← hg]
    congr 1
    funext e
    cases e <;> first | rfl | skip
    rename_i id pos
    show _ = (if c.sc.names.lookup id == some .local && pos.line == _ then some id else none)
    rw [← hs]
    rfl
  have e2 : ww = vs.any starB := by
    rw [← hst]
    congr 1
  rw [hb]
  unfold swpN at h
  rw [← e1, ← e2] at h
  rw [show (ScopeKind.function != ScopeKind.function) = false from rfl, Bool.or_false]
  by_cases h1 : (!(ts.length == 2 || ts.length == 3) || vs.length != ts.length) = true
  · rw [if_pos h1] at h ⊢; cases h; rfl
  rw [if_neg h1] at h ⊢
  by_cases h2 : ww = true
  · rw [if_pos h2] at h ⊢; cases h; rfl
  rw [if_neg h2] at h ⊢
  by_cases h3 : (l.length != ts.length || l.eraseDups.length != l.length) = true
  · rw [if_pos h3] at h ⊢; cases h; rfl
  rw [if_neg h3] at h ⊢
  by_cases h4 : vs.all (foldedForSure 8) = true
  · rw [if_pos h4] at h ⊢; cases h; rfl
  rw [if_neg h4] at h ⊢
  by_cases h5 : vs.all (constantsAlone 8) = true
  · rw [if_pos h5] at h; cases h
  rw [if_neg h5] at h ⊢; cases h; rfl
theorem swW_no {e : Expr} (h : compB e = false) (t : Option Expr) (line : Nat) (env : Env) : swapsWith e t line env = pure false := by
  cases e <;> first | rfl | cases h
theorem swW_name {c : Cfg} {env : Env} (hb : env.blockKind = .function) (hs : env.scope = c.sc) {elt : Expr} {gs : List Comprehension} {s : Scope} {vp tp : Pos} {t : Str} {line : Nat} :
    swapsWith (.ListComp elt gs s vp) (some (.Name t tp)) line env = pure (swB c t tp vp s) := by
  show (pure (env.blockKind == .function && env.scope.names.lookup t == some .local && tp.line == vp.line && !(s.names.any fun (n, k) => n == t && (k == .local || k == .cell))) : Sem Bool) = _
  rw [hb, hs]
  rfl
theorem plain_ok {c : Cfg} {env : Env} (hb : env.blockKind = .function) (hs : env.scope = c.sc) {tg e : Expr} (h : plainSw c tg e = true) (line : Nat) : swapsWithSole [tg] e line env = pure false ∧ swappedStores [tg] e env = pure none := by
  cases tg with
  | Tuple ts k p =>
    cases e with
    | Tuple vs k2 p2 => exact ⟨rfl, swN_ok hb hs (of_decide_eq_true (show decide (swpN c ts vs = some none) = true from h))⟩
    | _ => exact ⟨rfl, rfl⟩
  | List ts p =>
    cases e with
    | Tuple vs k2 p2 => cases h
    | _ => exact ⟨rfl, rfl⟩
  | Name t tp =>
    cases e with
    | ListComp elt gs s vp =>
      have h' : (!swB c t tp vp s) = true := h
      refine ⟨?_, rfl⟩
      have q := swW_name (c := c) (env := env) hb hs (elt := elt) (gs := gs) (s := s) (vp := vp) (tp := tp) (t := t) (line := line)
      rw [Bool.not_eq_true'] at h'
      rw [h'] at q
      exact q
    | SetComp => cases h
    | DictComp => cases h
    | _ => exact ⟨rfl, rfl⟩
  | _ => cases e <;> exact ⟨rfl, rfl⟩

def cfgH (c : Cfg) (n : Option Nat) : Cfg := { c with calm := false, esl := n }
def slotB (c : Cfg) : Option Nat → Option Str → Bool
  | none, none => true
  | some i, some z => decide (c.N[i]? = some z) && decide (c.sc.names.lookup z = some .local)
  | _, _ => false
/-- name = [..] on one line -/
def setLcB (nt : Nt) (tb : Tab) (kl : Nat → Option Kls) (c : Cfg) : Tg → E → Expr → Expr → Bool
  | .nm _, .comp _ _ _ _, .Name t tp, .ListComp _ _ s vp => decide (c.sc.names.lookup t = some .local) && swB c t tp vp s
  | .nm _, .new (.comp _ _ _ _), .Name t tp, .ListComp _ _ s vp => decide (c.sc.names.lookup t = some .local) && swB c t tp vp s
  | _, _, _, _ => false
mutual
def encT (nt : Nt) (tb : Tab) (kl : Nat → Option Kls) (c : Cfg) : T → Stmt → Bool
  | .asg t e, .Assign [tg] x _ => (plainSw c tg x || setLcB nt tb kl c t e tg x) && tgB nt tb c t tg && encE nt tb kl c e x
  | .par is es, .Assign [.Tuple ts _ _] (.Tuple vs _ _) _ => c.calm && parB c is ts vs && encEs nt tb kl c es vs
  | .setI o i e, .Assign [.Subscript a b _] x _ => idxB b && !compB x && encE nt tb kl c o a && encE nt tb kl c i b && encE nt tb kl c e x
  | .aug i op e, .AugAssign (.Name x _) o y _ => bOp op o && (op == .add || op == .sub) && tgB nt tb c (.nm i) (.Name x default) && encE nt tb kl c e y
  | .ex e, .Expr x _ => !compB x && encE nt tb kl c e x
  | .ite e a b, .If x y z _ => encE nt tb kl c e x && encB nt tb kl c a y && encB nt tb kl c b z
  | .loop t it b, .For tg x y [] _ => c.calm && (!pairE it || isTupB tg) && tgB nt tb c t tg && encE nt tb kl c it x && encB nt tb kl c b y
  | .whl e b, .While x y [] _ => c.calm && encE nt tb kl c e x && encB nt tb kl c b y
  | .ret e, .Return (some x) _ => encE nt tb kl c e x
  | .retN, .Return none _ => true
  | .raise cc es, .Raise (some (.Call (.Name x _) (y :: ys) [] _)) none _ => c.calm && glB c x && decide (nt.cn cc = some x) && tb.xr cc && !tb.x0 cc && (y :: ys).all nsB && encEs nt tb kl c es (y :: ys)
  | .raise cc [], .Raise (some (.Call (.Name x _) [] [] _)) none _ => c.calm && glB c x && decide (nt.cn cc = some x) && tb.xr cc && tb.x0 cc
  | .tryx b hs, .Try y (h0 :: hds) [] [] _ => c.calm && encB nt tb kl c b y && encH nt tb kl c hs (h0 :: hds)
  | .pass, .Pass _ => true
  | .pass, .Expr (.Constant (.str _) _ _) _ => true
  | _, _ => false
def encB (nt : Nt) (tb : Tab) (kl : Nat → Option Kls) (c : Cfg) : List T → List Stmt → Bool
  | [], [] => true
  | .frz _ :: ts, sts => encB nt tb kl c ts sts
  | t :: ts, s :: sts => encT nt tb kl c t s && encB nt tb kl c ts sts
  | _, _ => false
def encH (nt : Nt) (tb : Tab) (kl : Nat → Option Kls) (c : Cfg) : List (Nat × Option Nat × List T) → List ExceptHandler → Bool
  | [], [] => true
  | (k, n, b) :: hs, .ExceptHandler (some (.Name x _)) y (b0 :: suite) _ :: hds => glB c x && decide (nt.cn k = some x) && tb.cc k && slotB c n y && encB nt tb kl (cfgH c n) b (b0 :: suite) && encH nt tb kl c hs hds
  | _, _ => false
end

structure RaiseOk (G : Gx) (X : Cx) (k c : Nat) : Prop where
  oex : OexC X.K (G.xa c)
  ini : ∃ (fI : Addr) (fd : FuncData) (ps : List Str), PySem.W.findIn X.K (.ref (G.xa c)) "__init__" = some (some (.ref fI)) ∧ PySem.W.typeIn X.K (.ref fI) = some (.type "function") ∧
    FnOk X.prog X.w X.K X.mg X.base (L2.CX X.prog X.w) k fI fd ps (spX (G.xa c) ((G.xf c).map G.nm)) ∧ Binds X.K fd ps []
  nd : ((G.xf c).map G.nm).Nodup
  len : (G.xf c).length ≤ 900
  one : 1 ≤ (G.xf c).length
structure StOk (G : Gx) (tb : Tab) (kl : Nat → Option Kls) (nt : Nt) (cl : Cal) (k : Nat) (X : Cx) (c : Cfg) : Prop where
  C : CtxOk G tb kl nt cl k X c
  po : c.calm = true → PassesOwn (model X.prog X.w) X.A X.env X.xe
  st : c.calm = true → X.stack = X.env :: X.outer ∧ X.env.frame = some X.env.locals
  bk : X.env.blockKind = .function
  rz : c.calm = true → ∀ cc, tb.xr cc = true → tb.x0 cc = false → RaiseOk G X k cc
  r0 : c.calm = true → ∀ cc, tb.xr cc = true → tb.x0 cc = true → Oex0 X.K (G.xa cc) ∧ G.xf cc = []
section
variable {tb : Tab} {kl : Nat → Option Kls} {nt : Nt} {k : Nat}
theorem StOk.tr {G : Gx} {cl : Cal} {X : Cx} {c : Cfg} (S : StOk G tb kl nt cl k X c) (hc : c.calm = true) {pn : List (Addr × Obj)} {xe : Value → Shared → Prop} (hp : PassesOwn (model X.prog X.w) X.A X.env xe) : StOk G tb kl nt cl k (X.tr pn xe) c := by
  have C := S.C
  obtain ⟨h1, h2, h3⟩ := C.hot hc
  refine ⟨⟨C.K, C.N, C.nd, C.sc, C.un, C.gd, fun _ => ⟨h1, h2, h3⟩, ?_, C.fn, C.mgf, C.mgc, C.blt, C.gc, C.gd', fun _ f x h => ⟨(C.cal hc f x h).ex, (C.cal hc f x h).kp⟩, fun _ f h => ⟨(C.calv hc f h).ex, (C.calv hc f h).kp⟩, fun _ a b g h => ⟨(C.calm_ hc a b g h).ex, (C.calm_ hc a b g h).kp⟩, fun _ => ?_, fun _ a b g h => ⟨(C.eqc hc a b g h).ex, (C.eqc hc a b g h).kp⟩, fun _ cc ks h => let R := C.rx hc cc ks h; ⟨R.oex, R.ini, R.nd, R.xfc, R.fnd, R.lk⟩⟩, fun _ => hp, S.st, S.bk, fun _ cc h h0 => ?_, fun _ => S.r0 hc⟩
  · rcases C.esl with h | ⟨e, he, _⟩
    · exact .inl h
    · rw [h2] at he; cases he
  · obtain ⟨φ, e1, e2⟩ := C.mak hc
    exact ⟨φ, e1, fun c kk h => ⟨(e2 c kk h).ex, (e2 c kk h).kp⟩⟩
  · have R := S.rz hc cc h h0
    exact ⟨R.oex, R.ini, R.nd, R.len, R.one⟩
theorem StOk.suite0 {G : Gx} {cl : Cal} {X : Cx} {c : Cfg} (S : StOk G tb kl nt cl k X c) (hx : G.ex = none) (a : Addr) (oe : Obj) (pn : List (Addr × Obj)) : StOk G tb kl nt { cl with err := none } k (X.suite a ((a, oe) :: pn)) (cfgH c none) := by
  have C := S.C
  exact ⟨⟨C.K, C.N, C.nd, C.sc, C.un, C.gd, fun z => absurd z Bool.false_ne_true, .inl ⟨hx, rfl, rfl⟩, C.fn, C.mgf, C.mgc, C.blt, C.gc, C.gd', fun z => absurd z Bool.false_ne_true, fun z => absurd z Bool.false_ne_true, fun z => absurd z Bool.false_ne_true, fun z => absurd z Bool.false_ne_true, fun z => absurd z Bool.false_ne_true, fun z => absurd z Bool.false_ne_true⟩,
    fun z => absurd z Bool.false_ne_true, fun z => absurd z Bool.false_ne_true, S.bk, fun z => absurd z Bool.false_ne_true, fun z => absurd z Bool.false_ne_true⟩
theorem StOk.suiteN {G : Gx} {cl : Cal} {X : Cx} {c : Cfg} (S : StOk G tb kl nt cl k X c) (i a : Nat) (d : Option Addr) (e : Nat) (xs : List D) (oe : Obj) (pn : List (Addr × Obj)) (hz : Zc (.ref (G.xa e)) d oe) (hd : ∃ vs, oe.data = .fields vs) (hi : G.isx e = true) :
    StOk (errG G i a d e xs) tb kl nt { cl with err := some (e, xs) } k (X.suite a ((a, oe) :: pn)) (cfgH c (some i)) := by
  have C := S.C
  exact ⟨⟨C.K, C.N, C.nd, C.sc, C.un, C.gd, fun z => absurd z Bool.false_ne_true, .inr ⟨⟨i, a, d, e, xs⟩, rfl, rfl, rfl, X, oe, pn, rfl, hz, hd, hi⟩, C.fn, C.mgf, C.mgc, C.blt, fun i x h => let ⟨u, h1, v, h2, h3⟩ := C.gc i x h; ⟨u, h1, v, h2, fun w => Rep.ex _ _ (h3 w)⟩, fun i x h => let ⟨a, h1, h2⟩ := C.gd' i x h; ⟨a, h1, ⟨h2.ex⟩⟩, fun z => absurd z Bool.false_ne_true, fun z => absurd z Bool.false_ne_true, fun z => absurd z Bool.false_ne_true, fun z => absurd z Bool.false_ne_true, fun z => absurd z Bool.false_ne_true, fun z => absurd z Bool.false_ne_true⟩,
    fun z => absurd z Bool.false_ne_true, fun z => absurd z Bool.false_ne_true, S.bk, fun z => absurd z Bool.false_ne_true, fun z => absurd z Bool.false_ne_true⟩
theorem Pr.err {G : Gx} (pr : Pr G tb kl nt) (i a : Nat) (d : Option Addr) (e : Nat) (xs : List D) : Pr (errG G i a d e xs) tb kl nt :=
  ⟨⟨pr.pf.cf, pr.pf.xf, pr.pf.injM, pr.pf.injF, pr.pf.fld, pr.pf.mth, pr.pf.mak⟩, ⟨pr.pk.ins, pr.pk.kit⟩, pr.nm, pr.xa, pr.isx, pr.exm, pr.eqf, pr.eis, pr.kio, pr.kib, pr.px⟩
end
end Dn

set_option maxHeartbeats 8000000
namespace Dn
open PySem PySem.Spec PyProof.Rows L2

section
variable {G : Gx} {X : Cx} {w : Wd} {σ : St} {Γ : Vars} {W : WX} {H : Hp}
theorem tD.mono {m : DenD} {Q Q' : VK} (h : tD G W m σ H Q) (hq : ∀ v H, Q v H → Q' v H) : tD G W m σ H Q' := by
  obtain ⟨Γ, w, hw, A, hf⟩ := h
  exact ⟨Γ, w, hw, A, hf.mono hq⟩
theorem lf_te {l : Vars → Store → Out (List Dn.D)} {Q : VK} (h : tD G W (fun Γ S => (l Γ S).bind fun xs S => .ok (.lst xs) S) σ H Q) : tDL G W l σ H Q := by
  obtain ⟨Γ, w, hw, A, hf⟩ := h
  refine ⟨Γ, w, hw, A, ?_⟩
  dsimp only at hf
  cases hm : l Γ w.S with
  | ok xs S =>
    rw [hm, bind_ok] at hf
    intro w' vs p e R s hpv hp0 hp rs
    have sub : ∀ a ∈ w.pv, a ∈ w'.pv := fun a h => by rw [hpv]; exact List.mem_cons_of_mem _ h
    have inp : p ∈ w'.pv := by rw [hpv]; exact List.mem_cons_self
    refine hf (dropP w' w.pv) (.ref p) (e.dropP sub fun _ h => h) (R.dropP sub) s rfl (rep_lst.mpr ⟨p, vs, rfl, .inl ⟨.inl hp, ?_⟩, Reps.dropP sub _ _ rs⟩)
    rintro (⟨i, o, _, e2⟩ | h)
    · exact R.pvn p inp i e2
    · obtain ⟨ys, q⟩ := A.rel.pvh p h
      rw [hp0] at q; cases q
  | exn c xs S => rw [hm] at hf; exact hf
  | stuck => rw [hm] at hf; exact hf
theorem new_te {l : Vars → Store → Out (List Dn.D)} {Q : VK} (h : tD G W (fun Γ S => dNew (l Γ S)) σ H Q) : tDL G W l σ H Q := by
  obtain ⟨Γ, w, hw, A, hf⟩ := h
  refine ⟨Γ, w, hw, A, ?_⟩
  dsimp only at hf
  unfold dNew at hf
  cases hm : l Γ w.S with
  | ok xs S =>
    rw [hm, bind_ok] at hf
    intro w' vs p e R s hpv hp0 hp rs
    have hn : p ∉ w.pv := fun h => by
      obtain ⟨ys, q⟩ := A.rel.pvh p h
      rw [hp0] at q; cases q
    refine hf (handP w' p xs w.pv) (.ref p) (Ext.hand A.rel R e hpv) (R.hand hpv hn hp rs) (by rw [← s]; rfl) rfl (rep_ref.mpr ⟨p, rfl, ?_⟩)
    show (w'.ρ ++ [p])[S.length]? = some p
    rw [← s, ← R.len]
    simp
  | exn c xs S => rw [hm] at hf; exact hf
  | stuck => rw [hm] at hf; exact hf
theorem asg_te {me : DenD} {t : Tg} {D : Ends} (h : tS G W (fun Γ S => (me Γ S).st Γ fun d S1 => optS (setTg t d Γ S1)) D σ H) : tAsg (tD G W me) (gD G t) D σ H := by
  obtain ⟨Γ, w, hw, A, hf⟩ := h
  refine ⟨Γ, w, hw, A, hf.st A fun w' d v e' R' p' r' A' h' => ?_⟩
  cases hst : setTg t d Γ w'.S with
  | none => rw [hst] at h'; exact h'.elim
  | some q =>
    obtain ⟨Γ1, S1⟩ := q
    rw [hst] at h'
    exact ⟨Γ, w', d, Γ1, S1, rfl, A', r', hst, fun σ2 w2 e2 s2 p2 A2 _ => h' σ2 w2 e2 s2 p2 A2⟩
theorem gnm {i : Nat} (hex : ∀ e, G.ex = some e → e.sl ≠ i) {v : V} {Q : St → Hp → Prop} (h : gD G (.nm i) v σ H Q) : gName i v σ H Q := by
  obtain ⟨Γ, w, d, Γ', S', hw, A, r, hs, q⟩ := h
  simp only [setTg, Option.some.injEq, Prod.mk.injEq] at hs
  obtain ⟨h1, h2⟩ := hs
  subst h1 h2 hw
  exact q _ w (Ext.refl w) rfl rfl (A.set hex r) fun vs hv => wipe_set_in (hv i (by simp [slotsTg]))
end

section
variable {tb : Tab} {kl : Nat → Option Kls} {nt : Nt} {k : Nat}
theorem setLc_ok {G : Gx} {cl : Cal} {X : Cx} {c : Cfg} (pr : Pr G tb kl nt) (S : StOk G tb kl nt cl k X c) {elt it : E} {t : Tg} {ifs : List E} {x : Expr} {gs : List Comprehension} {scope : Scope} {p py spos : Pos} {m : DenD} {y : Str} {i : Nat}
    (h : encE nt tb kl c (.comp elt t it ifs) (.ListComp x gs scope p) = true) (hte : ∀ W σ H Q, tD G W m σ H Q → tDL G W (den tb cl (.comp elt t it ifs)).l σ H Q) (hl : c.sc.names.lookup y = some .local) (hsw : swB c y py p scope = true) (hy : c.N[i]? = some y) :
    SimS G X (.Assign [.Name y py] (.ListComp x gs scope p) spos) (fun Γ S => (m Γ S).st Γ fun d S1 => optS (setTg (.nm i) d Γ S1)) := by
  have C := S.C
  rcases gs with _ | ⟨⟨tg, y2, fs, ia⟩, gs⟩
  · cases h
  have hia : ia = 0 ∧ gs = [] := by
    revert h
    unfold encE
    split <;> simp_all
  obtain ⟨rfl, rfl⟩ := hia
  have h' : (c.calm && t.plain && (!pairE it || isTupB tg) && decide (fs.length ≤ 1) && blkC c.N c.sc scope (ownB c.N (slotsTg t)) && encE nt tb kl c it y2 &&
    tgB nt tb { c with sc := relS scope c.sc, raw := some scope } t tg && encE nt tb kl { c with sc := relS scope c.sc, raw := some scope } elt x && encEs nt tb kl { c with sc := relS scope c.sc, raw := some scope } ifs fs) = true := h
  simp only [Bool.and_eq_true, decide_eq_true_eq] at h'
  obtain ⟨⟨⟨⟨⟨⟨⟨⟨h1, h2⟩, h3⟩, h4⟩, h5⟩, h6⟩, h7⟩, h8⟩, h9⟩ := h'
  obtain ⟨hot1, hot2, hot3⟩ := C.hot h1
  have gi := sound pr it X c C y2 h6
  have hb := blkOk_by h5
  intro W tk
  refine PS.imp (ps_setLc (own := ownB c.N (slotsTg t)) (i := i) hot1 (by rw [C.N]; exact C.nd) (by rw [C.N]; exact hy) (by rw [C.sc]; exact hl) (by rw [swW_name S.bk C.sc, hsw]) (gi.i tg (fun z => by rw [z] at h3; simpa using h3) W tk) (by rw [C.N, C.sc]; exact hb)
    (fun s H D cls fp => (tgt_ok pr (blk_ok C h1 s H scope D cls fp) t tg h7).1)
    (fun s H D cls fp => pts_ok (sounds pr ifs _ _ (blk_ok C h1 s H scope D cls fp) fs h9) h4)
    (fun s H D cls fp => (sound pr elt _ _ (blk_ok C h1 s H scope D cls fp) x h8).v noW takes_none5) fun x => gi.hs _ x) fun D σ H hh => ?_
  rw [own_ok]
  refine comp_key hot2 (hte W σ H _ ((asg_te hh).mono fun v H hv => gnm (fun e he => by rw [hot2] at he; cases he) hv))
theorem forS_den {mi : Vars → Store → Out Src} {t : Tg} {f : Vars → Store → SOut} : (fun Γ S => (mi Γ S).st Γ (forS (fun x Γ S => (optS (setTg t x Γ S)).then f) Γ)) = fun Γ S => (mi Γ S).st Γ fun s S1 => match s with
      | .items xs => forL (fun x Γ S => (optS (setTg t x Γ S)).then f) xs Γ S1
      | .hnd i => match lstOf (.ref i) S1 with
        | some xs => forH i xs.length (fun x Γ S => (optS (setTg t x Γ S)).then f) xs.length Γ S1
        | none => .stuck := by
  funext Γ S
  cases mi Γ S with
  | ok s S1 => cases s <;> rfl
  | exn => rfl
  | stuck => rfl
mutual
theorem soundT (tb : Tab) : ∀ (t : T) (G : Gx) (cl : Cal) (X : Cx) (c : Cfg), Pr G tb kl nt → StOk G tb kl nt cl k X c → ∀ (s : Stmt), encT nt tb kl c t s = true → SimS G X s (denT tb cl t)
  | .asg t e, G, cl, X, c, pr, S, s, h => by
    cases s with
    | Assign tgs x pos =>
      rcases tgs with _ | ⟨tg, _ | ⟨tg2, tgs⟩⟩ <;> first | (cases h; done) | skip
      have h' : ((plainSw c tg x || setLcB nt tb kl c t e tg x) && tgB nt tb c t tg && encE nt tb kl c e x) = true := h
      simp only [Bool.and_eq_true, Bool.or_eq_true] at h'
      obtain ⟨⟨h1, h2⟩, h3⟩ := h'
      have g := sound pr e X c S.C x h3
      obtain ⟨a1, a2, a3⟩ := tgt_ok pr S.C t tg h2
      rcases h1 with h1 | h1
      · obtain ⟨b1, b2⟩ := plain_ok S.bk S.C.sc h1 pos.line
        exact sim_asg g.v a1 b1 b2 (by rw [a2]; rfl)
      · cases t with
        | nm i =>
          cases tg with
          | Name y tp =>
            have hy : c.N[i]? = some y := by
              have h2' : (decide (c.N[i]? = some y) && (decide (c.sc.names.lookup y = some .local) || (decide (c.sc.names.lookup y = some .cell) && c.cel y)) && decide (c.esl ≠ some i)) = true := h2
              simp only [Bool.and_eq_true, decide_eq_true_eq] at h2'
              exact h2'.1.1
            cases x with
            | ListComp x2 gs s vp =>
              cases e with
              | comp elt t2 it ifs =>
                have h1' : (decide (c.sc.names.lookup y = some .local) && swB c y tp vp s) = true := h1
                simp only [Bool.and_eq_true, decide_eq_true_eq] at h1'
                exact setLc_ok pr S h3 (fun W σ H Q hq => lf_te hq) h1'.1 h1'.2 hy
              | new l =>
                cases l with
                | comp elt t2 it ifs =>
                  have h1' : (decide (c.sc.names.lookup y = some .local) && swB c y tp vp s) = true := h1
                  simp only [Bool.and_eq_true, decide_eq_true_eq] at h1'
                  have h3' : (lstE (.comp elt t2 it ifs) && encE nt tb kl c (.comp elt t2 it ifs) (.ListComp x2 gs s vp)) = true := h3
                  simp only [Bool.and_eq_true] at h3'
                  exact setLc_ok pr S h3'.2 (fun W σ H Q hq => new_te hq) h1'.1 h1'.2 hy
                | _ => cases h1
              | _ => cases h1
            | _ => cases e <;> first | (cases h1; done) | (rename_i l; cases l <;> cases h1)
          | _ => cases e <;> first | (cases h1; done) | (rename_i l; cases l <;> cases h1)
        | tup ts => cases h1
        | att i f k => cases h1
    | _ => cases h
  | .par is es, G, cl, X, c, pr, S, s, h => by
    cases s with
    | Assign tgs x pos =>
      rcases tgs with _ | ⟨tg, _ | ⟨tg2, tgs⟩⟩ <;> first | (cases h; done) | skip
      · cases tg with
        | Tuple ts k1 p1 =>
          cases x with
          | Tuple vs k2 p2 =>
            have h' : (c.calm && parB c is ts vs && encEs nt tb kl c es vs) = true := h
            simp only [Bool.and_eq_true] at h'
            obtain ⟨⟨h1, h2⟩, h3⟩ := h'
            obtain ⟨hot1, hot2, hot3⟩ := S.C.hot h1
            have gl := sounds pr es X c S.C vs h3
            unfold parB at h2
            split at h2
            case h_2 => cases h2
            rename_i xs hxs
            simp only [Bool.and_eq_true, decide_eq_true_eq, List.all_eq_true] at h2
            obtain ⟨⟨h4, h5⟩, h6⟩ := h2
            exact sim_par hot2 hot1 (by rw [S.C.N]; exact S.C.nd) gl.args (by rw [S.C.N]; exact h4) (fun x hx => by rw [S.C.sc]; exact h5 x hx) (Nat.le_trans h6 (by decide)) (swN_ok S.bk S.C.sc hxs) rfl
          | _ => cases h
        | _ => cases h
      · cases tg <;> cases h
    | _ => cases h
  | .setI o i e, G, cl, X, c, pr, S, s, h => by
    cases s with
    | Assign tgs x pos =>
      rcases tgs with _ | ⟨tg, _ | ⟨tg2, tgs⟩⟩ <;> first | (cases h; done) | skip
      · cases tg with
        | Subscript a b p1 =>
          have h' : (idxB b && !compB x && encE nt tb kl c o a && encE nt tb kl c i b && encE nt tb kl c e x) = true := h
          simp only [Bool.and_eq_true] at h'
          obtain ⟨⟨⟨⟨h1, h2⟩, h3⟩, h4⟩, h5⟩ := h'
          exact sim_setI (sound pr o X c S.C a h3).v (sound pr i X c S.C b h4).v (sound pr e X c S.C x h5).v (plain_ok S.bk S.C.sc (by cases x <;> rfl) _).1 (plain_ok S.bk S.C.sc (by cases x <;> rfl) 0).2 (fun v => by cases b <;> first | rfl | cases h1)
        | _ => cases h
      · cases tg <;> cases h
    | _ => cases h
  | .setA o f k e, G, cl, X, c, pr, S, s, h => by cases h
  | .aug i op e, G, cl, X, c, pr, S, s, h => by
    cases s with
    | AugAssign tg o y pos =>
      cases tg with
      | Name x p =>
        have h' : (bOp op o && (op == .add || op == .sub) && (decide (c.N[i]? = some x) && (decide (c.sc.names.lookup x = some .local) || (decide (c.sc.names.lookup x = some .cell) && c.cel x)) && decide (c.esl ≠ some i)) && encE nt tb kl c e y) = true := h
        simp only [Bool.and_eq_true, Bool.or_eq_true, decide_eq_true_eq, beq_iff_eq] at h'
        obtain ⟨⟨⟨h1, h2⟩, ⟨h3, h4⟩, h5⟩, h6⟩ := h'
        have C := S.C
        rw [bOp_ok h1]
        refine sim_aug (fun e he => ?_) h2 (by rw [C.N]; exact C.nd) (by rw [C.N]; exact h3) ?_ ?_ (sound pr e X c C y h6).v
        · rcases C.esl with ⟨z, _⟩ | ⟨e', z, z2, _⟩
          · rw [z] at he; cases he
          · rw [z] at he; cases he
            intro hh
            rw [hh] at z2
            exact h5 z2
        · rw [C.sc]
          rcases h4 with z | z
          · exact .inl z
          · exact .inr z.1
        · rcases h4 with z | z
          · exact .inr (by rw [C.sc]; exact z)
          · exact .inl (C.fn x z.1 z.2)
      | _ => cases h
    | _ => cases h
  | .ex e, G, cl, X, c, pr, S, s, h => by
    cases s with
    | Expr x pos =>
      have h' : (!compB x && encE nt tb kl c e x) = true := h
      simp only [Bool.and_eq_true] at h'
      exact sim_ex (sound pr e X c S.C x h'.2).v (swW_no (by simpa using h'.1) _ _ _)
    | _ => cases h
  | .ite e a b, G, cl, X, c, pr, S, s, h => by
    cases s with
    | If x y z pos =>
      have h' : (encE nt tb kl c e x && encB nt tb kl c a y && encB nt tb kl c b z) = true := h
      simp only [Bool.and_eq_true] at h'
      exact sim_if (sound pr e X c S.C x h'.1.1).t (soundB tb a G cl X c pr S y h'.1.2) (soundB tb b G cl X c pr S z h'.2)
    | _ => cases h
  | .loop t it b, G, cl, X, c, pr, S, s, h => by
    cases s with
    | For tg x y orelse pos =>
      cases orelse with
      | nil =>
        have h' : (c.calm && (!pairE it || isTupB tg) && tgB nt tb c t tg && encE nt tb kl c it x && encB nt tb kl c b y) = true := h
        simp only [Bool.and_eq_true] at h'
        obtain ⟨⟨⟨⟨h1, h2⟩, h3⟩, h4⟩, h5⟩ := h'
        obtain ⟨hot1, hot2, hot3⟩ := S.C.hot h1
        have g := sound pr it X c S.C x h4
        have q := sim_for (pos := pos) hot2 (S.po h1) hot1 (g.i tg fun z => by rw [z] at h2; simpa using h2) (tgt_ok pr S.C t tg h3).1 (soundB tb b G cl X c pr S y h5) fun x => g.hs _ x
        rw [forS_den] at q
        exact q
      | cons => cases h
    | _ => cases h
  | .whl e b, G, cl, X, c, pr, S, s, h => by
    cases s with
    | While x y orelse pos =>
      cases orelse with
      | nil =>
        have h' : (c.calm && encE nt tb kl c e x && encB nt tb kl c b y) = true := h
        simp only [Bool.and_eq_true] at h'
        obtain ⟨⟨h1, h2⟩, h3⟩ := h'
        obtain ⟨hot1, hot2, hot3⟩ := S.C.hot h1
        exact sim_while hot2 (S.po h1) (sound pr e X c S.C x h2).t (soundB tb b G cl X c pr S y h3)
      | cons => cases h
    | _ => cases h
  | .ret e, G, cl, X, c, pr, S, s, h => by
    cases s with
    | Return x pos =>
      cases x with
      | none => cases h
      | some x => exact sim_ret (sound pr e X c S.C x h).v
    | _ => cases h
  | .retN, G, cl, X, c, pr, S, s, h => by
    cases s with
    | Return x pos =>
      cases x with
      | none => exact sim_retN
      | some x => cases h
    | _ => cases h
  | .raise cc es, G, cl, X, c, pr, S, s, h => by
    cases s with
    | Raise x cause pos =>
      rcases x with _ | x
      · cases h
      cases x with
      | Call f ys kw p =>
        cases f with
        | Name x p2 =>
          rcases ys with _ | ⟨y, ys⟩
          · cases es with
            | cons => cases kw <;> cases cause <;> cases h
            | nil =>
              cases kw <;> cases cause <;> first | (cases h; done) | skip
              have h' : (c.calm && glB c x && decide (nt.cn cc = some x) && tb.xr cc && tb.x0 cc) = true := h
              simp only [Bool.and_eq_true, decide_eq_true_eq] at h'
              obtain ⟨⟨⟨⟨h1, h2⟩, h3⟩, h4⟩, h5⟩ := h'
              obtain ⟨hot1, hot2, hot3⟩ := S.C.hot h1
              obtain ⟨g1, g2, g3⟩ := S.C.gl h2
              obtain ⟨F, hxf⟩ := S.r0 h1 cc h4 h5
              have q := sim_raise0 (G := G) (X := X) (c := cc) (pos := pos) (p := p2) (p2 := p) hot1 F g1 (by rw [pr.xa]; exact S.C.mgc _ _ h3) g2 (by rw [pr.isx]; exact h4) hxf
              have e0 : denT tb cl (.raise cc []) = fun Γ S => .exn cc [] Γ S := by
                funext Γ S
                show (if ([] : List Dn.D).length = (tb.xf cc).length then SOut.exn cc [] Γ S else .stuck) = _
                rw [pr.pf.xf, hxf]
                rfl
              rw [e0]
              exact q
          cases kw <;> cases cause <;> first | (cases h; done) | skip
          have h' : (c.calm && glB c x && decide (nt.cn cc = some x) && tb.xr cc && !tb.x0 cc && (y :: ys).all nsB && encEs nt tb kl c es (y :: ys)) = true := h
          simp only [Bool.and_eq_true, decide_eq_true_eq] at h'
          obtain ⟨⟨⟨⟨⟨⟨h1, h2⟩, h3⟩, h4⟩, h40⟩, h5⟩, h6⟩ := h'
          obtain ⟨hot1, hot2, hot3⟩ := S.C.hot h1
          obtain ⟨g1, g2, g3⟩ := S.C.gl h2
          have R := S.rz h1 cc h4 (by simpa using h40)
          obtain ⟨fI, fd, ps, i1, i2, i3, i4⟩ := R.ini
          have gl := sounds pr es X c S.C _ h6
          have q := sim_raise (G := G) (X := X) (c := cc) (pos := pos) (p := p2) (p2 := p) hot1 R.oex i1 i2 i3 hot3 i4 g1 (by rw [pr.xa]; exact S.C.mgc _ _ h3) gl.args g2 gl.ns R.nd R.len (by rw [pr.isx]; exact h4) R.one
          rw [← pr.pf.xf] at q
          exact q
        | _ => cases h
      | _ => cases h
    | _ => cases h
  | .tryx b hs, G, cl, X, c, pr, S, s, h => by
    cases s with
    | Try y hds orelse fin pos =>
      rcases hds with _ | ⟨h0, hds⟩
      · cases orelse <;> cases fin <;> cases h
      cases orelse <;> cases fin <;> first | (cases h; done) | skip
      have h' : (c.calm && encB nt tb kl c b y && encH nt tb kl c hs (h0 :: hds)) = true := h
      simp only [Bool.and_eq_true] at h'
      obtain ⟨⟨h1, h2⟩, h3⟩ := h'
      obtain ⟨hot1, hot2, hot3⟩ := S.C.hot h1
      obtain ⟨s1, s2⟩ := S.st h1
      exact sim_try rfl hot2 (by rw [S.C.N]; exact S.C.nd) s1 s2 (fun pn xe hp => soundB tb b G cl _ c pr (S.tr h1 hp) y h2) (soundH tb hs G cl X c pr hot2 S _ h3)
    | _ => cases h
  | .pass, G, cl, X, c, pr, S, s, h => by
    cases s with
    | Pass pos => exact sim_pass
    | Expr x pos =>
      cases x with
      | Constant kk j p =>
        cases kk with
        | str z => exact sim_doc
        | _ => cases h
      | _ => cases h
    | _ => cases h
  | .frz i, G, cl, X, c, pr, S, s, h => by cases h
theorem soundB (tb : Tab) : ∀ (ts : List T) (G : Gx) (cl : Cal) (X : Cx) (c : Cfg), Pr G tb kl nt → StOk G tb kl nt cl k X c → ∀ (ss : List Stmt), encB nt tb kl c ts ss = true → SimSs G X ss (denB tb cl ts)
  | [], G, cl, X, c, pr, S, ss, h => by
    cases ss with
    | nil => exact sim_nilS
    | cons => cases h
  | t :: ts, G, cl, X, c, pr, S, ss, h => by
    cases t with
    | frz i =>
      have h' : encB nt tb kl c ts ss = true := by
        cases ss <;> exact h
      exact sim_frz (soundB tb ts G cl X c pr S ss h')
    | _ =>
      all_goals
        cases ss with
        | nil => cases h
        | cons s ss =>
          have h' : (encT nt tb kl c _ s && encB nt tb kl c ts ss) = true := h
          simp only [Bool.and_eq_true] at h'
          exact sim_consS (soundT tb _ G cl X c pr S s h'.1) (soundB tb ts G cl X c pr S ss h'.2)
theorem soundH (tb : Tab) : ∀ (hs : List (Nat × Option Nat × List T)) (G : Gx) (cl : Cal) (X : Cx) (c : Cfg), Pr G tb kl nt → G.ex = none → StOk G tb kl nt cl k X c → ∀ (hds : List ExceptHandler), encH nt tb kl c hs hds = true → HdsS G X tb.sub hds (denH tb cl hs)
  | [], G, cl, X, c, pr, hx, S, hds, h => by
    cases hds with
    | nil => exact .nil
    | cons => cases h
  | (kk, n, b) :: hs, G, cl, X, c, pr, hx, S, hds, h => by
    rcases hds with _ | ⟨hd, hds⟩
    · cases h
    cases hd with
    | ExceptHandler ty y suite pos =>
      rcases ty with _ | ty
      · cases h
      cases ty with
      | Name x np =>
        rcases suite with _ | ⟨b0, suite⟩
        · cases h
        have h' : (glB c x && decide (nt.cn kk = some x) && tb.cc kk && slotB c n y && encB nt tb kl (cfgH c n) b (b0 :: suite) && encH nt tb kl c hs hds) = true := h
        simp only [Bool.and_eq_true, decide_eq_true_eq] at h'
        obtain ⟨⟨⟨⟨⟨h1, h2⟩, h3⟩, h4⟩, h5⟩, h6⟩ := h'
        obtain ⟨g1, g2, g3⟩ := S.C.gl h1
        refine .cons ⟨⟨g1, g2, .inl (by rw [pr.xa]; exact S.C.mgc _ _ h2)⟩, fun c' hc' => by rw [S.C.K]; exact pr.exm _ _ (by rw [← pr.isx]; exact hc') h3, fun i hi => ?_, fun hn => ?_, fun a oe pn hn => ?_, fun i a d c' xs oe pn hn hz hd hi => ?_⟩ (soundH tb hs G cl X c pr hx S hds h6)
        · subst hi
          cases y with
          | none => cases h4
          | some z =>
            have h4' : (decide (c.N[i]? = some z) && decide (c.sc.names.lookup z = some .local)) = true := h4
            simp only [Bool.and_eq_true, decide_eq_true_eq] at h4'
            exact ⟨z, rfl, by rw [S.C.N]; exact h4'.1, by show X.env.scope.names.lookup z = _; rw [S.C.sc]; exact h4'.2⟩
        · subst hn
          cases y with
          | none => rfl
          | some z => cases h4
        · subst hn
          exact soundB tb b G _ _ _ pr (S.suite0 hx a oe pn) _ h5
        · subst hn
          exact soundB tb b _ _ _ _ (pr.err i a d c' xs) (S.suiteN i a d c' xs oe pn hz hd hi) _ h5
      | _ => cases h
end
end
end Dn

set_option maxHeartbeats 4000000
namespace Dn
open PySem PySem.Spec PyProof.Rows L2

section
variable {G : Gx} {w : Wd} {Q : VK} {E : XK}
theorem ErrR.cut {n : Nat} {cls : Value} {dd : Option Addr} {c : Nat} {xs : List Dn.D} (hb : belows n xs = true) (h : ErrR G w cls dd c xs) : ErrR G (Dn.cut n w) cls dd c xs := by
  obtain ⟨h1, hx, h2⟩ := h
  refine ⟨h1, hx, ?_⟩
  rcases h2 with h2 | ⟨d, fs, vs, e1, e2, l, p, r⟩
  · exact .inl h2
  · exact .inr ⟨d, fs, vs, e1, e2, fun z => l z.cut, p, Reps.cut _ _ hb r⟩
theorem trim_ok {o : SOut} (R : Rel G w) (h : FinC G w (trim w.S.length o) Q E) : FinS G w o { nx := fun _ H' => Q .non H', rt := Q } (fun cls d _ H' => E cls d H') := by
  cases o with
  | nx Γ S =>
    intro σ' w' e s p A
    subst s
    unfold trim at h
    dsimp only at h
    have rn : ∀ w, Rep G w .non .non := fun w => rep_non.mpr rfl
    by_cases h1 : w'.S.length ≤ w.S.length
    · rw [if_pos h1] at h
      exact h w' _ e A.rel rfl p (rn _)
    · rw [if_neg h1] at h
      by_cases h2 : sBelow w.S.length (w'.S.take w.S.length) = true
      · rw [if_pos h2] at h
        exact h (Dn.cut w.S.length w') _ (Ext.cut R e) (A.rel.cut _ h2) rfl p (rn _)
      · rw [if_neg h2] at h
        exact h w' _ e A.rel rfl p (rn _)
  | rt d S =>
    intro w' v e R' s p r
    subst s
    unfold trim at h
    dsimp only at h
    by_cases h1 : w'.S.length ≤ w.S.length
    · rw [if_pos h1] at h
      exact h w' _ e R' rfl p r
    · rw [if_neg h1] at h
      by_cases h2 : (below w.S.length d && sBelow w.S.length (w'.S.take w.S.length)) = true
      · rw [if_pos h2] at h
        simp only [Bool.and_eq_true] at h2
        exact h (Dn.cut w.S.length w') _ (Ext.cut R e) (R'.cut _ h2.2) rfl p (Rep.cut _ _ h2.1 r)
      · rw [if_neg h2] at h
        exact h w' _ e R' rfl p r
  | exn c xs Γ S =>
    intro σ' w' cls dd e s p A r
    subst s
    unfold trim at h
    dsimp only at h
    by_cases h1 : w'.S.length ≤ w.S.length
    · rw [if_pos h1] at h
      exact h w' cls dd e A.rel rfl p r
    · rw [if_neg h1] at h
      by_cases h2 : (belows w.S.length xs && sBelow w.S.length (w'.S.take w.S.length)) = true
      · rw [if_pos h2] at h
        simp only [Bool.and_eq_true] at h2
        exact h (Dn.cut w.S.length w') cls dd (Ext.cut R e) (A.rel.cut _ h2.2) rfl p (r.cut h2.1)
      · rw [if_neg h2] at h
        exact h w' cls dd e A.rel rfl p r
  | stuck => exact h
theorem At.start {N : List Str} {vs : List V} {ds : List Dn.D} (hx : G.ex = none) (R : Rel G w) (rs : Reps G w ds vs) : At G (L2.start N vs) (vars0 N.length ds) w := by
  have hl := rs.length
  refine ⟨R, fun i d h => ?_, by simp [L2.start, vars0, hl], fun e he => by rw [hx] at he; cases he⟩
  unfold vars0 at h
  by_cases hi : i < ds.length
  · rw [List.getElem?_append_left (by simpa using hi)] at h
    have h' : ds[i]? = some d := by
      rw [List.getElem?_map] at h
      cases hd : ds[i]? with
      | none => rw [hd] at h; cases h
      | some z => rw [hd] at h; simpa using h
    obtain ⟨v, h1, h2⟩ := Reps.get rs h'
    refine ⟨v, ?_, h2⟩
    unfold L2.start
    rw [List.getElem?_append_left (by simpa [← hl] using hi)]
    simp [h1]
  · rw [List.getElem?_append_right (by simpa using hi)] at h
    rw [List.getElem?_replicate] at h
    split at h <;> cases h
end

/-- a def's rule, where no guard is under way -/
theorem fn_guard {CX : CXT} {P : Program} {w : World} {K : PySem.W.Frag} {mg : Str → Option Value} {base : Heap} {k : Nat} {f : Addr} {x qual : Str} {params : Arguments} {body : List Stmt} {scope : Scope} {fd : FuncData} {N ps : List Str} {sp : Sp} (F : FunD K x qual params body scope [] [] f fd) (S : FnScope N ps scope)
    (len : ∀ vs H Q E, sp vs H Q E → vs.length = ps.length)
    (hb : ∀ (cdv : Value) (A : Around) (outer : List Env) (s : Shared) (H : Hp) (vs : List V) (Q : VK) (E : XK), A.guards = some [] → Room k (A.deeper (envOfC qual scope s.heap.objs.size f cdv)) → sp vs H Q E →
      ∃ t, PSs (cxOf CX P w K mg base N qual scope f cdv A outer s H E) body t ∧ t { nx := fun _ H' => Q .non H', rt := Q } (L2.start N vs) H) : FnG P w K mg base CX (k + 1) f fd ps sp := by
  obtain ⟨oc, od, dV, kV, doc, pm, an, cdv, ct, osl, rfl, lk, hcd, _, _⟩ := F.ex
  refine ⟨len, fun A outer s H args us vs Q E gd hr e0 bnd r hsp => ?_⟩
  have kp : ∀ b o, base.get? b = some o → s.heap.get? b = some o := fun b o e => (e0.bs b o e).1
  have KX := e0.mod.kin.keeps kp
  have cellOr : ∀ y ∈ ps.zip us, scope.names.lookup y.1 = some .local ∨ (scope.names.lookup y.1 = some .cell ∧ ((cellsFrom (s.heap.objs.size + 1) scope.names []).lookup y.1).isSome = true) := by
    intro y hy
    rcases S.par y.1 (List.of_mem_zip (show (y.1, y.2) ∈ _ from hy)).1 with q | q
    · exact Or.inl q
    · exact Or.inr ⟨q, PySem.W.cellsFrom_some _ _ _ (Or.inl q)⟩
  refine codeAny_call_function hr.depth (KX _ _ lk) rfl S.co S.gen rfl (PySem.W.codeRec_of KX hcd) (bnd _ _ _ _ (wpAny_newFunctionEnv_cells S.kind cellOr fun env he s1 xx => ?_))
  subst he
  refine ⟨(e0.mod.nolimit.keeps kp).keeps xx.toInCall.keep, codeAny_func ?_⟩
  obtain ⟨t, ht, hq⟩ := hb cdv A outer s H vs Q E gd (hr.deeper _) hsp
  have I0 := inv_start (CX := CX) (E := E) S hr.hd e0 (len _ _ _ _ hsp) r xx
  refine wpAny_mono (ht.run [] s1 _ H _ I0 hq) (fun fl s' hs => ?_) fun _ _ z => z
  cases fl with
  | next => obtain ⟨_, H', J, q⟩ := hs; exact ⟨.non, H', J.os, J.bare, J.base, J.hok, rfl, q⟩
  | ret u => obtain ⟨v, _, H', J, rv, q⟩ := hs; exact ⟨v, H', J.os, J.bare, J.base, J.hok, rv, q⟩
  | brk => exact hs.elim fun _ z => z.elim fun _ z => z.2.elim
  | cont => exact hs.elim fun _ z => z.elim fun _ z => z.2.elim
def cfg0 (N : List Str) (sc : Scope) : Cfg := { N := N, sc := sc, calm := true }
structure DfOk (G : Gx) (tb : Tab) (kl : Nat → Option Kls) (nt : Nt) (f : Nat) (d : Dfn) (ps : List Str) : Prop where
  ex : ∃ (x qual : Str) (params : Arguments) (body : List Stmt) (scope : Scope) (fd : FuncData) (N : List Str), FunD G.K x qual params body scope [] [] (G.fa f) fd ∧ FnScope N ps scope ∧ Binds G.K fd ps [] ∧ ps.length = d.np ∧ N.length = d.sz ∧
    encB nt tb kl (cfg0 N scope) d.body body = true
structure Prog (G : Gx) (tb : Tab) (kl : Nat → Option Kls) (nt : Nt) (df : Nat → Option Dfn) (pso : Nat → List Str) (P : Program) (w : World) (mg : Str → Option Value) (base : Heap) : Prop where
  pr : Pr G tb kl nt
  ex : G.ex = none
  dfs : ∀ f d, df f = some d → DfOk G tb kl nt f d (pso f)
  mgf : ∀ f x, nt.fn f = some x → mg x = some (.ref (G.fa f)) ∧ (df f).isSome
  mgc : ∀ f x, nt.cn f = some x → mg x = some (.ref (G.ca f))
  blt : ∀ x ∈ blts, mg x = none
  gc : ∀ i x, nt.gn i = some x → ∃ u, mg x = some u ∧ CstR G (tb.gv i) u
  gd : ∀ i x, nt.dn i = some x → ∃ a, mg x = some (.ref a) ∧ DctR G w (tb.gd i) a
  mt : ∀ c m g, tb.mt c m = some g → (df g).isSome
  mkr : ∀ c kk, kl c = some kk → (df kk.ini).isSome
  r0 : ∀ cc, tb.xr cc = true → tb.x0 cc = true → Oex0 G.K (G.xa cc) ∧ G.xf cc = []
  rx : ∀ cc ks, tb.xk cc ks = true → OexC G.K (G.xa cc) ∧ ((G.xf cc).map G.nm).Nodup ∧ XfC G.K (G.xa cc) ∧ (∀ f ∈ G.xf cc, PySem.W.findIn G.K (.ref (G.xa cc)) (G.nm f) = some none) ∧ (nt.kn cc ks).length = ks.length ∧ ∃ (fI : Addr) (fd : FuncData) (ps : List Str),
    PySem.W.findIn G.K (.ref (G.xa cc)) "__init__" = some (some (.ref fI)) ∧ PySem.W.typeIn G.K (.ref fI) = some (.type "function") ∧ (∀ k, FnOk P w G.K mg base (L2.CX P w) (k + 1) fI fd ps (spX (G.xa cc) ((G.xf cc).map G.nm))) ∧ KBn G.K fd ps 1 (nt.kn cc ks) (gP ks) (gP ks)
  rz : ∀ cc, tb.xr cc = true → tb.x0 cc = false → OexC G.K (G.xa cc) ∧ ((G.xf cc).map G.nm).Nodup ∧ (G.xf cc).length ≤ 900 ∧ 1 ≤ (G.xf cc).length ∧ ∃ (fI : Addr) (fd : FuncData) (ps : List Str),
    PySem.W.findIn G.K (.ref (G.xa cc)) "__init__" = some (some (.ref fI)) ∧ PySem.W.typeIn G.K (.ref fI) = some (.type "function") ∧ (∀ k, FnOk P w G.K mg base (L2.CX P w) (k + 1) fI fd ps (spX (G.xa cc) ((G.xf cc).map G.nm))) ∧ Binds G.K fd ps []
section
variable {G : Gx} {tb : Tab} {kl : Nat → Option Kls} {nt : Nt} {df : Nat → Option Dfn} {pso : Nat → List Str} {P : Program} {w : World} {mg : Str → Option Value} {base : Heap}
/-- what a level's defs do -/
structure LvlOk (G : Gx) (tb : Tab) (kl : Nat → Option Kls) (df : Nat → Option Dfn) (ps : List Str) (P : Program) (w : World) (mg : Str → Option Value) (base : Heap) (k f : Nat) : Prop where
  at_ : ∃ (fd : FuncData), FnG P w G.K mg base (L2.CX P w) k (G.fa f) fd ps (spD G ps.length (lvl tb kl df k f)) ∧ Binds G.K fd ps [] ∧ (∀ ds S, ds.length ≠ ps.length → lvl tb kl df k f ds S = .stuck) ∧ ∃ oc od osl, G.K.lookup (G.fa f) = some ⟨oc, od, .func fd, osl⟩
  kp : PySem.W.keepIn G.K (.ref (G.fa f)) = true
theorem LvlOk.ex {ps : List Str} {k f : Nat} (h : LvlOk G tb kl df ps P w mg base k f) : ∃ (np : Nat) (fd : FuncData) (ps : List Str), FnG P w G.K mg base (L2.CX P w) k (G.fa f) fd ps (spD G np (lvl tb kl df k f)) ∧ Binds G.K fd ps [] ∧ ∀ ds S, ds.length ≠ np → lvl tb kl df k f ds S = .stuck := by
  obtain ⟨fd, h1, h2, h3, _⟩ := h.at_
  exact ⟨_, fd, ps, h1, h2, h3⟩
theorem LvlOk.low (p : Prog G tb kl nt df pso P w mg base) {k f : Nat} (hf : (df f).isSome) (hs : ∀ ds S, lvl tb kl df k f ds S = .stuck) : LvlOk G tb kl df (pso f) P w mg base k f := by
  obtain ⟨d, hd⟩ := Option.isSome_iff_exists.mp hf
  obtain ⟨x, qual, params, body, scope, fd, N, F, S, B, h1, h2, h3⟩ := (p.dfs f d hd).ex
  have lk : ∃ oc od osl, G.K.lookup (G.fa f) = some ⟨oc, od, .func fd, osl⟩ := by
    obtain ⟨oc, od, dV, kV, doc, pm, an, cdv, ct, osl, rfl, lk, _⟩ := F.ex
    exact ⟨oc, od, osl, lk⟩
  refine ⟨⟨fd, ⟨fun vs H Q E h => h.1, fun A outer s H args us vs Q E gd hr e0 hb r h => ?_⟩, B, fun ds S _ => hs ds S, lk⟩, F.kp⟩
  obtain ⟨_, w', ds, _, _, _, h⟩ := h
  rw [hs] at h
  exact h.elim
theorem lvl_ok (p : Prog G tb kl nt df pso P w mg base) : ∀ (k f : Nat), (df f).isSome → LvlOk G tb kl df (pso f) P w mg base k f
  | 0, f, hf => LvlOk.low p hf fun _ _ => rfl
  | 1, f, hf => LvlOk.low p hf fun _ _ => rfl
  | 2, f, hf => LvlOk.low p hf fun _ _ => rfl
  | k + 3, f, hf => by
    obtain ⟨d, hd⟩ := Option.isSome_iff_exists.mp hf
    obtain ⟨x, qual, params, body, scope, fd, N, F, S, B, h1, h2, h3⟩ := (p.dfs f d hd).ex
    have hlv : ∀ ds S, lvl tb kl df (k + 3) f ds S = runD tb { has := fun f => (df f).isSome, call := lvl tb kl df (k + 2), make := mkD tb kl (lvl tb kl df (k + 1)), eqc := lvl tb kl df (k + 1) } d ds S := fun ds S => by
      show (match df f with | some d => _ | none => _) = _
      rw [hd]
    generalize hcl : ({ has := fun f => (df f).isSome, call := lvl tb kl df (k + 2), make := mkD tb kl (lvl tb kl df (k + 1)), eqc := lvl tb kl df (k + 1) } : Cal) = cl at hlv
    have ih2 := lvl_ok p (k + 2)
    have ih1 := lvl_ok p (k + 1)
    have lk : ∃ oc od osl, G.K.lookup (G.fa f) = some ⟨oc, od, .func fd, osl⟩ := by
      obtain ⟨oc, od, dV, kV, doc, pm, an, cdv, ct, osl, rfl, lk, _⟩ := F.ex
      exact ⟨oc, od, osl, lk⟩
    refine ⟨⟨fd, fn_guard F S (fun vs H Q E h => h.1) (fun cdv A outer s H vs Q E gd hr hsp => ?_), B, fun ds S hn => by rw [hlv]; unfold runD; rw [if_neg (by rw [← h1]; exact hn)], lk⟩, F.kp⟩
    obtain ⟨hl, w0, ds, rfl, R, rs, hfin⟩ := hsp
    refine ⟨tS G (fun cls d _ H' => E cls d H') (denB tb cl d.body), ?_, ?_⟩
    · have C : CtxOk G tb kl nt cl (k + 1) (cxOf (L2.CX P w) P w G.K mg base N qual scope (G.fa f) cdv A outer s w0.H E) (cfg0 N scope) := by
        subst hcl
        refine ⟨rfl, rfl, S.nd, rfl, ?_, gd, fun _ => ⟨rfl, p.ex, hr⟩, .inl ⟨p.ex, rfl, rfl⟩, fun _ _ _ => rfl, fun f x h => (p.mgf f x h).1, p.mgc, p.blt, p.gc, p.gd, fun _ f x h => ⟨(ih2 f (p.mgf f x h).2).ex, (ih2 f (p.mgf f x h).2).kp⟩,
          fun _ f h => ⟨(ih2 f h).ex, (ih2 f h).kp⟩, fun _ c m g h => ⟨(ih2 g (p.mt c m g h)).ex, (ih2 g (p.mt c m g h)).kp⟩, fun _ => ⟨lvl tb kl df (k + 1), rfl, fun c kk h => ⟨(ih1 _ (p.mkr c kk h)).ex, (ih1 _ (p.mkr c kk h)).kp⟩⟩, fun _ c m g h => ⟨(ih1 g (p.mt c m g h)).ex, (ih1 g (p.mt c m g h)).kp⟩, fun _ cc ks h => ?_⟩
        rotate_left
        · obtain ⟨a1, a2, a3, a4, a5, fI, fd', ps', a6, a7, a8, a9⟩ := p.rx cc ks h
          exact ⟨a1, ⟨fI, fd', ps', a6, a7, a8 k, a9⟩, a2, a3, a4, a5⟩
        have := hr.un
        show (A.deeper _).units + 65 < cLine
        omega
      refine soundB tb d.body G cl _ _ p.pr ⟨C, fun _ => passes_of (K := fun e s'' => L2.CX P w outer w0.H s E e s'') (E₁ := fun e' s'' => L2.CX P w outer w0.H s E e' s'') rfl, fun _ => ⟨rfl, rfl⟩, ?_, fun _ cc hcc h0 => ?_, fun _ => p.r0⟩ body h3 _ (takes_of rfl rfl rfl rfl)
      · show (if scope.kind.isAnnotationScope then ScopeKind.function else scope.kind) = .function
        rw [S.kind]; rfl
      · obtain ⟨a1, a2, a3, a4, fI, fd', ps', a5, a6, a7, a8⟩ := p.rz cc hcc h0
        exact ⟨a1, ⟨fI, fd', ps', a5, a6, a7 k, a8⟩, a2, a3, a4⟩
    · have hdl : ds.length = d.np := by rw [rs.length, hl, h1]
      rw [hlv] at hfin
      unfold runD at hfin
      rw [if_pos hdl] at hfin
      refine ⟨vars0 N.length ds, w0, rfl, At.start p.ex R rs, ?_⟩
      rw [h2]
      exact trim_ok R hfin
end
end Dn

set_option maxHeartbeats 4000000
namespace Dn
open PySem PySem.Spec PyProof.Rows L2

def oexB (K : PySem.W.Frag) (C : Addr) : Bool := (match K.lookup C with
    | some ⟨.type "type", _, .cls cd, sl⟩ => (match cd.mro, sl.toList with
      | .ref C' :: bm, [_, _, _, _, some (.builtin n), _] => C' == C && n == "ValueError.__new__" && !cd.hasDel && cd.hasDict && PySem.HandSPX.refsVE bm
      | _, _ => false)
    | _ => false) && (decide (PySem.W.findIn K (.ref C) "__setattr__" = some (some (.builtin "object.__setattr__"))) && (decide (PySem.W.subIn K (.ref C) (.type "BaseException") = some true) && (decide (PySem.W.typeIn K (.ref C) = some (.type "type")) && PySem.W.keepIn K (.ref C))))
theorem oexB_ok {K : PySem.W.Frag} {C : Addr} (h : oexB K C = true) : OexC K C := by
  unfold oexB at h
  simp only [Bool.and_eq_true, decide_eq_true_eq] at h
  obtain ⟨q, h1, h2, h3, h4⟩ := h
  refine ⟨?_, h1, h2, h3, h4⟩
  split at q
  · rename_i dd cd sl ho
    split at q
    · rename_i C' bm k0 k1 k2 k3 n k5 hm hs
      simp only [Bool.and_eq_true, beq_iff_eq, Bool.not_eq_true'] at q
      obtain ⟨⟨⟨⟨rfl, rfl⟩, hdel⟩, hdi⟩, ht⟩ := q
      obtain ⟨nm, bs, mro, ns, qn, hd, sn, sub, ab, col, del⟩ := cd
      dsimp only at hm hdel hdi
      subst hm hdel hdi
      have hsl : sl = #[k0, k1, k2, k3, some (.builtin "ValueError.__new__"), k5] := by
        obtain ⟨l⟩ := sl
        simp only at hs
        rw [hs]
      subst hsl
      exact ⟨nm, qn, ns, bs, bm, sn, sub, ab, col, dd, k0, k1, k2, k3, k5, ho, ht⟩
    · cases q
  · cases q

/-- every parameter is given by position -/
def BindP (P : Arguments) (ps : List Str) : Prop := ∀ (name qual : Str) (body : FuncBody) (scope : Scope) (gl : Addr) (cl : List (Str × Addr)) (kV doc pm : Value) (an : Option Addr) (cdv ct : Value) (bi : Addr) (us : List Value), us.length = ps.length →
  bindArgs { name := name, qualname := qual, params := P, body := body, scope := scope, globals := gl, closure := cl, defaults := .none, kwdefaults := kV, doc := doc, pyModule := pm, annotations := an, code := cdv, closureTuple := ct, builtins := bi } ⟨us, []⟩ = pure (ps.zip us)
/-- .. by keywords, in an order -/
def BindK (P : Arguments) (ps : List Str) (ks : List Nat) : Prop := ∀ (name qual : Str) (body : FuncBody) (scope : Scope) (gl : Addr) (cl : List (Str × Addr)) (kV doc pm : Value) (an : Option Addr) (cdv ct : Value) (bi : Addr) (us ws : List Value), us.length = 1 → ws.length = ks.length →
  bindArgs { name := name, qualname := qual, params := P, body := body, scope := scope, globals := gl, closure := cl, defaults := .none, kwdefaults := kV, doc := doc, pyModule := pm, annotations := an, code := cdv, closureTuple := ct, builtins := bi } ⟨us, (ks.map fun j => ps.getD j ("" : Str)).zip ws⟩ = pure ((("self" : Str) :: ps).zip (gP ks us ws))
/-- an error class's __init__ -/
structure XD where
  cls : Str
  qual : Str
  params : Arguments
  body : List Stmt
  scope : Scope
  ps : List Str
  fl : List Str
abbrev FnY : Type := Option (Str × Str × Arguments × FuncBody × Scope × Addr × List Str × Addr)
def fnY (K : PySem.W.Frag) (p : Str × Option Str) : FnY := match K.lookup (He.fAd K p) with
  | some ⟨_, _, .func fd, _⟩ => some (fd.name, fd.qualname, fd.params, fd.body, fd.scope, fd.globals, fd.closure.map (·.1), fd.builtins)
  | _ => none
def XD.at_ (d : XD) : Str × Option Str := (d.cls, some ("__init__" : Str))
def XD.val (d : XD) : FnY := some ("__init__", d.qual, d.params, .stmts d.body, d.scope, mainGlobals, ["__class__"], builtinsNs)
def XD.ok (K : PySem.W.Frag) (file : Str) (d : XD) : Bool :=
  (match K.lookup (He.fAd K d.at_) with
  | some ⟨.type "function", _, .func fd, _⟩ => (match fd.code, fd.closure, fd.defaults with
    | .ref cda, [(_, cc)], .none => PySem.W.codeIn K (.ref cda) d.qual && ((match K.lookup cda with
      | some ⟨_, _, .fields vs, _⟩ => (match vs.toList with
        | _ :: _ :: .str f _ :: _ => file == f
        | _ => false)
      | _ => false) && (match K.lookup cc with
        | some ⟨_, _, .cell (some (.ref C)), _⟩ => decide (C = He.ga K d.cls)
        | _ => false))
    | _, _, _ => false)
  | _ => false) && ((PySem.W.clsIn K (He.ga K d.cls)).isSome && (decide (PySem.W.mroIn K (He.ga K d.cls) (.ref (He.ga K d.cls)) = some true) && (decide (PySem.W.ks_superIn K (He.ga K d.cls) (He.ga K d.cls) "__init__" = some (some (.builtin "ValueError.__init__"))) &&
    (decide (PySem.W.subIn K (.ref (He.ga K d.cls)) (.type "ValueError") = some true) && (decide (PySem.W.nsIn K cStatics "thirdparty.any" = some none) && (oexB K (He.ga K d.cls) && (decide (PySem.W.findIn K (.ref (He.ga K d.cls)) "__init__" = some (some (.ref (He.fAd K d.at_)))) &&
      (d.fl.all (fun f => decide (PySem.W.findIn K (.ref (He.ga K d.cls)) f = some none)) && xfB K (He.ga K d.cls)))))))))
/-- what the text alone tells -/
def XD.st (d : XD) (prog : Program) : Bool := (match (d.params.posonlyargs ++ d.params.args).head? with
    | some ar => decide (ar.arg = "self")
    | none => false) && (!(prog.main.scope.names.lookup ("super" : Str)).isSome && (decide (d.scope.names.lookup ("super" : Str) = some .globalImplicit) && (decide (d.scope.names.lookup ("__class__" : Str) = some .free) && (decide (d.scope.names.lookup ("self" : Str) = some .local) &&
    (NdefX.nscB (("self" : Str) :: (d.ps ++ [("__class__" : Str)])) (("self" : Str) :: d.ps) [("__class__" : Str)] d.scope && (xBody d.body d.ps d.fl && (decide (d.fl.length = d.ps.length) && (decide (1 ≤ d.fl.length) && (decide (d.fl.length < 28) && (decide d.fl.Nodup &&
    d.ps.all fun q => !(q == ("__debug__" : Str)) && !(q == ("__classdict__" : Str))))))))))))
theorem XD.fnOk {K : PySem.W.Frag} {P : Program} {w : World} {mg : Str → Option Value} {base : Heap} {d : XD} (e : fnY K d.at_ = d.val) (c : d.ok K P.main.file = true) (s : d.st P = true) (hm : mg "super" = none) (hb : BindP d.params (("self" : Str) :: d.ps)) :
    ∃ fd, (∃ (od : Option Addr) (osl : Array (Option Value)), K.lookup (He.fAd K d.at_) = some ⟨.type "function", od, .func fd, osl⟩) ∧ Binds K fd (("self" : Str) :: d.ps) [] ∧ (∀ ks, BindK d.params d.ps ks → KBn K fd (("self" : Str) :: d.ps) 1 (ks.map fun j => d.ps.getD j ("" : Str)) (gP ks) (gP ks)) ∧ ∀ k, FnOk P w K mg base (L2.CX P w) (k + 1) (He.fAd K d.at_) fd (("self" : Str) :: d.ps) (spX (He.ga K d.cls) d.fl) := by
  unfold XD.ok at c
  unfold XD.st at s
  simp only [Bool.and_eq_true, decide_eq_true_eq, Bool.not_eq_true', List.all_eq_true] at c s
  obtain ⟨c0, c1, c2, c3, c4, c5, c6, c7, c8, c9⟩ := c
  obtain ⟨s0, s1, s2, s3, s4, s5, s6, s7, s8, s9, s10, s11⟩ := s
  unfold fnY at e
  cases q : K.lookup (He.fAd K d.at_) with
  | none => rw [q] at e; cases e
  | some o =>
    obtain ⟨oc, od, dt, osl⟩ := o
    rw [q] at e c0
    cases dt with
    | func fd =>
      obtain ⟨n1, n2, n3, n4, n5, n6, n7, n8, n9, n10, n11, n12, n13, n14, n15⟩ := fd
      have e2 : (some (n1, n2, n3, n4, n5, n6, n7.map (·.1), n15) : FnY) = d.val := e
      unfold XD.val at e2
      simp only [Option.some.injEq, Prod.mk.injEq] at e2
      obtain ⟨h1, h2, h3, h4, h5, h6, h7, h8⟩ := e2
      subst h1 h2 h3 h4 h5 h6 h8
      split at c0
      case h_2 => cases c0
      rename_i od' fd' osl' heq
      cases heq
      dsimp only at c0
      split at c0
      case h_2 => cases c0
      rename_i cda y cc
      simp only [List.map_cons, List.map_nil, List.cons.injEq, and_true] at h7
      subst h7
      simp only [Bool.and_eq_true] at c0
      obtain ⟨k1, k2, k3⟩ := c0
      refine ⟨_, ⟨od, osl, rfl⟩, .all fun us hl => hb _ _ _ _ _ _ _ _ _ _ _ _ _ us hl, fun ks hk => ⟨fun s us ws X l1 l2 => BindsTo.of_looks fun M => .of_pure (hk _ _ _ _ _ _ _ _ _ _ _ _ _ us ws l1 (by rw [l2, List.length_map])), vals_gP⟩, fun k => ?_⟩
      refine xini_ok (cc := cc) (cda := cda) (name := "__init__") (qual := d.qual) (params := d.params) (body := d.body) (scope := d.scope) (qs := d.ps) (fl := d.fl) ⟨⟨od, _, n9, n10, n11, n14, n12, osl, q⟩, ?_, k1, ?_, ?_, Option.isSome_iff_exists.mp c1, c2, c3, c4, c5, oexB_ok c6, s1, s2, s3, s4⟩
        ⟨od, osl, q⟩ hm (NdefX.nscope_by s5) s6 s7 s8 s9 c8 (fun q hq => by simpa using s11 q hq)
      · split at k3
        · rename_i ccl dd C sl hcc
          have := of_decide_eq_true k3
          subst this
          exact ⟨ccl, dd, sl, hcc⟩
        · cases k3
      · split at k2
        · rename_i ccl dd vs sl hcc
          split at k2
          · rename_i v0 v1 f tf rest hvs
            refine ⟨ccl, dd, vs, sl, f, tf, hcc, ?_, k2⟩
            obtain ⟨l⟩ := vs
            simp only at hvs
            subst hvs
            rfl
          · cases k2
        · cases k2
      · split at s0
        · rename_i ar har
          exact ⟨ar, har, of_decide_eq_true s0⟩
        · cases s0
    | _ => cases e
end Dn

set_option maxHeartbeats 4000000
namespace Dn
open PySem PySem.Spec PyProof.Rows L2

structure FE where
  glob : Option Str
  d : He.DefD
  dfn : Dfn
  N : List Str
  ps : List Str
structure CE where
  x : Str
  plain : Bool := false
  cf : List Nat := []
  mts : List (Nat × Nat) := []
  ini : Option (Nat × Bool) := none
  xd : Option XD := none
  xf : List Nat := []
  sup : List Nat := []
  cc : Bool := false
  x0 : Bool := false
  bas : List Nat := []
  xi : Bool := false
structure PT where
  fns : List FE
  cls : List CE
  nms : List Str
  gcs : List (Str × D) := []
  gds : List (Str × List (Str × D)) := []
  kws : List (Nat × List Nat) := []
  eis : Bool := false
section
variable (p : PT)
def PT.tb : Tab where
  cf := fun c => match p.cls[c]? with | some e => e.cf | none => []
  xf := fun c => match p.cls[c]? with | some e => e.xf | none => []
  mt := fun c m => match p.cls[c]? with | some e => e.mts.lookup m | none => none
  sub := fun c k => match p.cls[c]? with | some e => e.sup.contains k | none => false
  ic := fun c => match p.cls[c]? with | some e => e.plain | none => false
  gv := fun i => match p.gcs[i]? with | some q => q.2 | none => .non
  gd := fun i => match p.gds[i]? with | some q => q.2 | none => []
  cc := fun c => match p.cls[c]? with | some e => e.cc | none => false
  xr := fun c => match p.cls[c]? with | some e => e.xd.isSome || e.x0 | none => false
  xb := fun c b => match p.cls[c]? with | some e => e.bas.contains b | none => false
  xk := fun c ks => p.kws.contains (c, ks)
  xi := fun c => match p.cls[c]? with | some e => e.xi | none => false
  xiu := p.eis
  x0 := fun c => match p.cls[c]? with | some e => e.x0 | none => false
def PT.kl (c : Nat) : Option Kls := match p.cls[c]? with
  | some e => e.ini.map fun q => ⟨q.1, q.2⟩
  | none => none
def PT.nm (i : Nat) : Str := match p.nms[i]? with
  | some x => x
  | none => ""
def PT.nt : Nt where
  fn := fun f => match p.fns[f]? with | some e => e.glob | none => none
  cn := fun c => (p.cls[c]?).map (·.x)
  nm := p.nm
  gn := fun i => (p.gcs[i]?).map (·.1)
  dn := fun i => (p.gds[i]?).map (·.1)
  kn := fun c ks => ks.map fun j => (match p.cls[c]? with | some e => (match e.xd with | some d => d.ps | none => []) | none => []).getD j ("" : Str)
def PT.df (f : Nat) : Option Dfn := (p.fns[f]?).map (·.dfn)
def PT.pso (f : Nat) : List Str := match p.fns[f]? with
  | some e => e.ps
  | none => []
def PT.G (K : PySem.W.Frag) : Gx where
  K := K
  fa := fun f => match p.fns[f]? with | some e => He.fAd K e.d.at_ | none => 0
  ca := fun c => match p.cls[c]? with | some e => He.ga K e.x | none => 0
  cf := p.tb.cf
  xa := fun c => match p.cls[c]? with | some e => He.ga K e.x | none => 0
  xf := p.tb.xf
  nm := p.nm
  isx := p.tb.xr
  ex := none

def insB (K : PySem.W.Frag) (C : Addr) : Bool := decide (PySem.W.findIn K (.ref C) "__class__" = some (some (.builtin "object.__class__"))) && (decide (PySem.W.specialIn K (.builtin "object.__class__") "__get__" = some (some (.builtin "getset_descriptor.__get__"))) &&
  (decide (PySem.W.takesIn K (.builtin "object.__class__") = some true) && decide (PySem.W.mroIn K C (.type "object") = some true)))
def CE.okB (K : PySem.W.Frag) (file : Str) (e : CE) : Bool :=
  (He.Fa.glo e.x).ok K && ((e.cf.all fun f => (He.Fa.cls e.x).ok K && (He.Fa.noat e.x (p.nm f)).ok K) && ((e.mts.all fun q => (He.Fa.cls e.x).ok K && ((He.Fa.meth e.x (p.nm q.1)).ok K && (match p.fns[q.2]? with
    | some f => decide (He.ma K (He.ga K e.x) (p.nm q.1) = He.fAd K f.d.at_)
    | none => false))) && ((match e.ini with
    | some (i, _) => (He.Fa.mkr e.x).ok K && (match p.fns[i]? with
      | some f => decide (He.ma K (He.ga K e.x) "__init__" = He.fAd K f.d.at_)
      | none => false)
    | none => true) && ((match e.xd with
    | some d => d.ok K file
    | none => true) && (!e.plain || ((He.Fa.cls e.x).ok K && insB K (He.ga K e.x)))))))
def PT.dts : List DT := [.non, .bl, .int, .str, .tup, .lst] ++ ((List.range p.cls.length).filter p.tb.ic).map .ins
def PT.tys : List Ty := [.int, .bool, .str, .list, .tuple] ++ ((List.range p.cls.length).filter p.tb.ic).map .cls
def PT.gcB (K : PySem.W.Frag) : Bool := p.gcs.all fun q => match PySem.W.nsIn K mainGlobals q.1 with
  | some (some u) => repKB K q.2 u
  | _ => false
def PT.gdB (K : PySem.W.Frag) : Bool := p.gds.all fun q => (He.Fa.glo q.1).ok K && (match K.lookup (He.ga K q.1) with
  | some ⟨_, _, .dict es _, _⟩ => entB K es.toList q.2
  | _ => false)
def PT.eqB (K : PySem.W.Frag) : Bool := p.cls.all fun e => !(e.plain && e.mts.any fun q => decide (p.nm q.1 = "__eq__")) ||
  (decide (PySem.W.findIn K (.ref (He.ga K e.x)) "__ne__" = some (some (.builtin "object.__ne__"))) && (decide (PySem.W.mroIn K (He.ga K e.x) (.type "object") = some true) && p.dts.all fun k => PySem.W.notFirst K (He.ga K e.x) (k.v (p.G K))))
def eisB (K : PySem.W.Frag) (C : Addr) : Bool := (PySem.W.clsIn K C).isSome && (insB K C && xfB K C)
def PT.newB (K : PySem.W.Frag) : Bool := (p.cls.all fun e => (!e.x0 || (oex0B K (He.ga K e.x) && xfB K (He.ga K e.x))) && (!(p.eis && (e.xd.isSome || e.x0)) || eisB K (He.ga K e.x))) &&
  (((List.range p.cls.length).all fun c => (List.range p.cls.length).all fun k => !(p.eis && (p.tb.xr c && p.tb.xi k)) || decide (PySem.W.kitOne K (.ref ((p.G K).xa c)) (.ref ((p.G K).ca k)) = some (p.tb.sub c k))) &&
  ((List.range p.cls.length).all fun c => (List.range xbs.length).all fun b => !(p.eis && p.tb.xr c) || decide (PySem.W.kitOne K (.ref ((p.G K).xa c)) (.type (xbs.getD b "")) = some (p.tb.xb c b))))
def PT.okB (K : PySem.W.Frag) (file : Str) : Bool := p.newB K && (p.gcB K && (p.gdB K && (p.eqB K && (
  (p.fns.all fun e => match e.glob with
    | some x => (He.Fa.glo x).ok K && decide (He.ga K x = He.fAd K e.d.at_)
    | none => true) && (((("super" : Str) :: blts).all fun x => (He.Fa.free x).ok K) && (p.cls.all (fun e => e.okB p K file) &&
  ((p.dts.all fun k => p.tys.all fun t => decide (PySem.W.kitOne K (k.v (p.G K)) (t.v (p.G K)) = some (t.ofD k))) &&
  ((List.range p.cls.length).all fun c => (List.range p.cls.length).all fun k => !(p.tb.xr c && p.tb.cc k) || decide (PySem.W.exmOne K (.ref ((p.G K).xa c)) (.ref ((p.G K).xa k)) = some (p.tb.sub c k))))))))))
def FE.stB (e : FE) : Bool := C8.scC e.N e.ps e.d.scope && (decide (e.ps.length = e.dfn.np) && (decide (e.N.length = e.dfn.sz) && (encB p.nt p.tb p.kl (cfg0 e.N e.d.scope) e.dfn.body e.d.body && (e.d.dfl.isEmpty && e.d.kwd.isEmpty))))
def CE.stB (prog : Program) (e : CE) : Bool := (e.cf.all fun f => decide (f < p.nms.length)) && ((e.mts.all fun q => decide (q.1 < p.nms.length)) && (match e.xd with
  | some d => d.st prog && (decide (d.cls = e.x) && decide (d.fl = e.xf.map p.nm))
  | none => true))
def PT.newS : Bool := (p.cls.all fun e => !e.x0 || (e.xd.isNone && e.xf.isEmpty)) && p.kws.all fun q => match p.cls[q.1]? with
  | some e => e.xd.isSome
  | none => false
def PT.stB (prog : Program) : Bool := p.newS && (p.fns.all (FE.stB p) && (p.cls.all (CE.stB p prog) && (decide p.nms.Nodup && !(p.nms.contains ("" : Str)))))
theorem all_get {α : Type} {l : List α} {f : α → Bool} (h : l.all f = true) {i : Nat} {a : α} (hi : l[i]? = some a) : f a = true := List.all_eq_true.mp h a (List.mem_of_getElem? hi)
theorem look_mem {α : Type} : ∀ {l : List (Nat × α)} {m : Nat} {a : α}, l.lookup m = some a → (m, a) ∈ l
  | [], _, _, h => by cases h
  | (k, b) :: l, m, a, h => by
    unfold List.lookup at h
    split at h
    · rename_i e
      rw [beq_iff_eq.mp e]
      cases h
      exact List.mem_cons_self
    · exact List.mem_cons_of_mem _ (look_mem h)
variable {p}
theorem nm_inj (hn : p.nms.Nodup) (he : p.nms.contains ("" : Str) = false) {m i : Nat} (hm : m < p.nms.length) (h : p.nm i = p.nm m) : i = m := by
  unfold PT.nm at h
  rw [List.getElem?_eq_getElem hm] at h
  cases hi : p.nms[i]? with
  | none =>
    rw [hi] at h
    dsimp only at h
    have : ("" : Str) ∈ p.nms := h ▸ List.getElem_mem hm
    rw [← List.contains_iff_mem, he] at this
    cases this
  | some x =>
    rw [hi] at h
    dsimp only at h
    obtain ⟨h1, h2⟩ := List.getElem?_eq_some_iff.mp hi
    rw [← h2] at h
    have hp := List.pairwise_iff_getElem.mp hn
    rcases Nat.lt_trichotomy i m with z | z | z
    · exact absurd h (hp i m h1 hm z)
    · exact z
    · exact absurd h.symm (hp m i hm h1 z)
/-- what the end leans on: one program's facts -/
theorem prog_of {K : PySem.W.Frag} {P : Program} {w : World} {mg : Str → Option Value} {base h : Heap} (X : K.In h) (Gm : h.Ns mainGlobals mg) (ok : p.okB K P.main.file = true) (st : p.stB P = true)
    (df : ∀ (i : Nat) (e : FE), p.fns[i]? = some e → He.fnW K e.d.at_ = e.d.val ∧ e.d.ok K = true) (xd : ∀ (i : Nat) (e : CE) (d : XD), p.cls[i]? = some e → e.xd = some d → fnY K d.at_ = d.val) (dd : (p.gds.map fun q => He.dicW K (He.ga K q.1)) = p.gds.map fun q => some (He.keysIn w.params (q.2.map (·.1))))
    (bf : ∀ (i : Nat) (e : FE), p.fns[i]? = some e → BindP e.d.params e.ps) (bx : ∀ (i : Nat) (e : CE) (d : XD), p.cls[i]? = some e → e.xd = some d → BindP d.params (("self" : Str) :: d.ps))
    (bk : ∀ (i : Nat) (q : Nat × List Nat) (e : CE) (d : XD), p.kws[i]? = some q → p.cls[q.1]? = some e → e.xd = some d → BindK d.params d.ps q.2) :
    Prog (p.G K) p.tb p.kl p.nt p.df p.pso P w mg base := by
  unfold PT.okB at ok
  unfold PT.stB at st
  simp only [Bool.and_eq_true, decide_eq_true_eq, Bool.not_eq_true'] at ok st
  obtain ⟨okn, okc, okd, oke, ok1, ok2, ok3, ok4, ok5⟩ := ok
  obtain ⟨stn, st1, st2, st3, st4⟩ := st
  have cell : ∀ {c : Nat} {e : CE}, p.cls[c]? = some e → e.okB p K P.main.file = true ∧ e.stB p P = true := fun h => ⟨all_get ok3 h, all_get st2 h⟩
  have glo : ∀ {c : Nat} {e : CE}, p.cls[c]? = some e → mg e.x = some (.ref (He.ga K e.x)) := fun h => by
    have q := (cell h).1
    unfold CE.okB at q
    simp only [Bool.and_eq_true] at q
    exact He.glo_ok X Gm q.1
  have mtE : ∀ {c m g : Nat}, p.tb.mt c m = some g → ∃ e, p.cls[c]? = some e ∧ (m, g) ∈ e.mts := fun {c m g} h => by
    have h' : (match p.cls[c]? with | some e => e.mts.lookup m | none => none) = some g := h
    cases hc : p.cls[c]? with
    | none => rw [hc] at h'; cases h'
    | some e => rw [hc] at h'; exact ⟨e, rfl, look_mem h'⟩
  have cfE : ∀ {c f : Nat}, f ∈ p.tb.cf c → ∃ e, p.cls[c]? = some e ∧ f ∈ e.cf := fun {c f} h => by
    have h' : f ∈ (match p.cls[c]? with | some e => e.cf | none => []) := h
    cases hc : p.cls[c]? with
    | none => rw [hc] at h'; cases h'
    | some e => rw [hc] at h'; exact ⟨e, rfl, h'⟩
  have xrC : ∀ {c : Nat}, p.tb.xr c = true → ∃ e, p.cls[c]? = some e ∧ (e.xd.isSome || e.x0) = true := fun {c} h => by
    have h' : (match p.cls[c]? with | some e => e.xd.isSome || e.x0 | none => false) = true := h
    cases hc : p.cls[c]? with
    | none => rw [hc] at h'; cases h'
    | some e => rw [hc] at h'; exact ⟨e, rfl, h'⟩
  have x0C : ∀ {c : Nat} {e : CE}, p.cls[c]? = some e → p.tb.x0 c = e.x0 := fun {c e} h => by
    show (match p.cls[c]? with | some e => e.x0 | none => false) = _
    rw [h]
  have xrE : ∀ {c : Nat}, p.tb.xr c = true → p.tb.x0 c = false → ∃ e d, p.cls[c]? = some e ∧ e.xd = some d := fun {c} h h0 => by
    obtain ⟨e, hc, h'⟩ := xrC h
    rw [x0C hc] at h0
    rw [h0, Bool.or_false] at h'
    obtain ⟨d, hd⟩ := Option.isSome_iff_exists.mp h'
    exact ⟨e, d, hc, hd⟩
  have newC : ∀ {c : Nat} {e : CE}, p.cls[c]? = some e → (e.x0 = true → Oex0 K (He.ga K e.x) ∧ XfC K (He.ga K e.x) ∧ e.xf = []) ∧ (p.eis = true → (e.xd.isSome || e.x0) = true → EisC K (He.ga K e.x)) := fun {c e} h => by
    unfold PT.newB at okn
    unfold PT.newS at stn
    simp only [Bool.and_eq_true] at okn stn
    have r := all_get okn.1 h
    have r2 := all_get stn.1 h
    simp only [Bool.and_eq_true] at r
    obtain ⟨r0, r1⟩ := r
    refine ⟨fun hx => ?_, fun he hx => ?_⟩
    · rw [hx] at r0 r2
      simp only [Bool.not_true, Bool.false_or, Bool.and_eq_true, List.isEmpty_iff] at r0 r2
      exact ⟨oex0B_ok r0.1, xfB_ok r0.2, r2.2⟩
    · rw [he, hx] at r1
      simp only [Bool.and_self, Bool.not_true, Bool.false_or] at r1
      unfold eisB insB at r1
      simp only [Bool.and_eq_true, decide_eq_true_eq] at r1
      obtain ⟨q1, ⟨q2, q3, q4, q5⟩, q6⟩ := r1
      have F := xfB_ok q6
      exact ⟨q1, F.ga, F.gg, F.exC, q2, q3, q4, q5⟩
  have ca : ∀ {c : Nat} {e : CE}, p.cls[c]? = some e → (p.G K).ca c = He.ga K e.x := fun {c e} h => by
    show (match p.cls[c]? with | some e => He.ga K e.x | none => 0) = _
    rw [h]
  have fa : ∀ {f : Nat} {e : FE}, p.fns[f]? = some e → (p.G K).fa f = He.fAd K e.d.at_ := fun {f e} h => by
    show (match p.fns[f]? with | some e => He.fAd K e.d.at_ | none => 0) = _
    rw [h]
  have mtG : ∀ {c m g : Nat}, p.tb.mt c m = some g → ∃ e f, p.cls[c]? = some e ∧ p.fns[g]? = some f ∧ Cls K (He.ga K e.x) ∧ Meth K (He.ga K e.x) (p.nm m) (He.fAd K f.d.at_) ∧ m < p.nms.length := fun {c m g} h => by
    obtain ⟨e, h1, h2⟩ := mtE h
    obtain ⟨q1, q2⟩ := cell h1
    unfold CE.okB at q1
    unfold CE.stB at q2
    simp only [Bool.and_eq_true] at q1 q2
    have r1 := List.all_eq_true.mp q1.2.2.1 _ h2
    have r2 := List.all_eq_true.mp q2.2.1 _ h2
    simp only [Bool.and_eq_true, decide_eq_true_eq] at r1 r2
    obtain ⟨a1, a2, a3⟩ := r1
    cases hf : p.fns[g]? with
    | none => rw [hf] at a3; cases a3
    | some f =>
      rw [hf] at a3
      have := of_decide_eq_true a3
      exact ⟨e, f, h1, rfl, He.cls_ok a1, this ▸ He.meth_ok a2, r2⟩
  have xdG : ∀ {c : Nat}, p.tb.xr c = true → p.tb.x0 c = false → ∃ e d, p.cls[c]? = some e ∧ e.xd = some d ∧ d.ok K P.main.file = true ∧ d.st P = true ∧ d.cls = e.x ∧ d.fl = e.xf.map p.nm := fun {c} h h0 => by
    obtain ⟨e, d, h1, h2⟩ := xrE h h0
    obtain ⟨q1, q2⟩ := cell h1
    unfold CE.okB at q1
    unfold CE.stB at q2
    rw [h2] at q1 q2
    simp only [Bool.and_eq_true, decide_eq_true_eq] at q1 q2
    exact ⟨e, d, h1, h2, q1.2.2.2.2.1, q2.2.2.1, q2.2.2.2.1, q2.2.2.2.2⟩
  have xa : ∀ {c : Nat} {e : CE}, p.cls[c]? = some e → (p.G K).xa c = He.ga K e.x := fun {c e} h => by
    show (match p.cls[c]? with | some e => He.ga K e.x | none => 0) = _
    rw [h]
  have xf : ∀ {c : Nat} {e : CE}, p.cls[c]? = some e → (p.G K).xf c = e.xf := fun {c e} h => by
    show (match p.cls[c]? with | some e => e.xf | none => []) = _
    rw [h]
  have free : ∀ {x : Str}, x ∈ ("super" : Str) :: blts → mg x = none := fun {x} hx => He.free_ok X Gm (List.all_eq_true.mp ok2 x hx)
  have iniG : ∀ {c : Nat} {kk : Kls}, p.kl c = some kk → ∃ e f, p.cls[c]? = some e ∧ p.fns[kk.ini]? = some f ∧ Mk K (He.ga K e.x) (He.fAd K f.d.at_) := fun {c kk} h => by
    have h' : (match p.cls[c]? with | some e => e.ini.map fun q => (⟨q.1, q.2⟩ : Kls) | none => none) = some kk := h
    cases hc : p.cls[c]? with
    | none => rw [hc] at h'; cases h'
    | some e =>
      rw [hc] at h'
      dsimp only at h'
      cases hi : e.ini with
      | none => rw [hi] at h'; cases h'
      | some q =>
        obtain ⟨i, fz⟩ := q
        rw [hi] at h'
        cases h'
        have q1 := (cell hc).1
        unfold CE.okB at q1
        rw [hi] at q1
        simp only [Bool.and_eq_true] at q1
        have a := q1.2.2.2.1
        obtain ⟨a1, a2⟩ := a
        cases hf : p.fns[i]? with
        | none => rw [hf] at a2; cases a2
        | some f =>
          rw [hf] at a2
          have := of_decide_eq_true a2
          exact ⟨e, f, rfl, rfl, this ▸ He.mkr_ok a1⟩
  refine ⟨⟨⟨rfl, rfl, fun c m g i h hi => ?_, fun c f i h hi => ?_, fun c f h => ?_, fun c m g h => ?_, fun c k h => ?_⟩, ⟨fun c h H a dx fs hH => ?_, fun k t hk ht => ?_⟩, rfl, rfl, rfl, fun c k h1 h2 => ?_, fun m hnm c g h hic => ?_, fun hu c h => ?_, fun hu c k h hi => ?_, fun hu c b h hb => ?_, fun c h => ?_⟩, rfl, fun f d h => ?_, fun f x h => ?_, fun f x h => ?_, fun x hx => free (List.mem_cons_of_mem _ hx), fun i x h => ?_, fun i x h => ?_, fun c m g h => ?_, fun c kk h => ?_, fun cc h h0 => ?_, fun cc ks h => ?_, fun cc h h0 => ?_⟩
  · obtain ⟨e, f, _, _, _, _, hm⟩ := mtG h
    exact nm_inj st3 st4 hm hi
  · obtain ⟨e, h1, h2⟩ := cfE h
    have q2 := (cell h1).2
    unfold CE.stB at q2
    simp only [Bool.and_eq_true] at q2
    exact nm_inj st3 st4 (of_decide_eq_true (List.all_eq_true.mp q2.1 _ h2)) hi
  · obtain ⟨e, h1, h2⟩ := cfE h
    have q1 := (cell h1).1
    unfold CE.okB at q1
    simp only [Bool.and_eq_true] at q1
    have r := List.all_eq_true.mp q1.2.1 _ h2
    simp only [Bool.and_eq_true] at r
    rw [ca h1]
    exact ⟨He.cls_ok r.1, He.noat_ok r.2⟩
  · obtain ⟨e, f, h1, h2, h3, h4, _⟩ := mtG h
    rw [ca h1, fa h2]
    exact ⟨h3, h4⟩
  · obtain ⟨e, f, h1, h2, h3⟩ := iniG h
    rw [ca h1, fa h2]
    exact h3
  · have h' : (match p.cls[c]? with | some e => e.plain | none => false) = true := h
    cases hc : p.cls[c]? with
    | none => rw [hc] at h'; cases h'
    | some e =>
      rw [hc] at h'
      dsimp only at h'
      have q1 := (cell hc).1
      unfold CE.okB at q1
      rw [h'] at q1
      simp only [Bool.and_eq_true, Bool.not_true, Bool.false_or] at q1
      have r := q1.2.2.2.2.2
      unfold insB at r
      simp only [Bool.and_eq_true, decide_eq_true_eq] at r
      rw [ca hc] at hH ⊢
      exact .ins hH (He.cls_ok r.1) r.2.1 r.2.2.1 r.2.2.2.1 r.2.2.2.2
  · have mk : k ∈ p.dts := by
      unfold PT.dts
      cases k with
      | ins c =>
        have h' : (match p.cls[c]? with | some e => e.plain | none => false) = true := hk
        cases hc : p.cls[c]? with
        | none => rw [hc] at h'; cases h'
        | some e =>
          refine List.mem_append_right _ (List.mem_map.mpr ⟨c, List.mem_filter.mpr ⟨List.mem_range.mpr (List.getElem?_eq_some_iff.mp hc).1, hk⟩, rfl⟩)
      | _ => simp
    have mt : t ∈ p.tys := by
      unfold PT.tys
      cases t with
      | cls c =>
        have h' : (match p.cls[c]? with | some e => e.plain | none => false) = true := ht
        cases hc : p.cls[c]? with
        | none => rw [hc] at h'; cases h'
        | some e =>
          refine List.mem_append_right _ (List.mem_map.mpr ⟨c, List.mem_filter.mpr ⟨List.mem_range.mpr (List.getElem?_eq_some_iff.mp hc).1, ht⟩, rfl⟩)
      | _ => simp
    exact of_decide_eq_true (List.all_eq_true.mp (List.all_eq_true.mp ok4 k mk) t mt)
  · obtain ⟨e, hc, _⟩ := xrC h1
    have h2' : (match p.cls[k]? with | some e => e.cc | none => false) = true := h2
    cases hk : p.cls[k]? with
    | none => rw [hk] at h2'; cases h2'
    | some e2 =>
      have r := List.all_eq_true.mp (List.all_eq_true.mp ok5 c (List.mem_range.mpr (List.getElem?_eq_some_iff.mp hc).1)) k (List.mem_range.mpr (List.getElem?_eq_some_iff.mp hk).1)
      rw [h1, h2] at r
      simp only [Bool.and_self, Bool.not_true, Bool.false_or, decide_eq_true_eq] at r
      exact r
  · obtain ⟨e, h1, h2⟩ := mtE h
    have hpl : e.plain = true := by
      have h' : (match p.cls[c]? with | some e => e.plain | none => false) = true := hic
      rw [h1] at h'
      exact h'
    unfold PT.eqB at oke
    have r := all_get oke h1
    have hany : (e.mts.any fun q => decide (p.nm q.1 = "__eq__")) = true := List.any_eq_true.mpr ⟨_, h2, decide_eq_true hnm⟩
    rw [hpl, hany] at r
    simp only [Bool.and_self, Bool.not_true, Bool.false_or, Bool.and_eq_true, decide_eq_true_eq] at r
    rw [ca h1]
    refine ⟨r.1, r.2.1, fun k hk => List.all_eq_true.mp r.2.2 k ?_⟩
    unfold PT.dts
    cases k with
    | ins c =>
      have h' : (match p.cls[c]? with | some e => e.plain | none => false) = true := hk
      cases hc : p.cls[c]? with
      | none => rw [hc] at h'; cases h'
      | some e =>
        refine List.mem_append_right _ (List.mem_map.mpr ⟨c, List.mem_filter.mpr ⟨List.mem_range.mpr (List.getElem?_eq_some_iff.mp hc).1, hk⟩, rfl⟩)
    | _ => simp
  · obtain ⟨e, hc, hx⟩ := xrC h
    show EisC K ((p.G K).xa c)
    rw [xa hc]
    exact (newC hc).2 hu hx
  · obtain ⟨e, hc, hx⟩ := xrC h
    have hk : ∃ e2, p.cls[k]? = some e2 := by
      have h' : (match p.cls[k]? with | some e => e.xi | none => false) = true := hi
      cases hk : p.cls[k]? with
      | none => rw [hk] at h'; cases h'
      | some e2 => exact ⟨e2, rfl⟩
    obtain ⟨e2, hk⟩ := hk
    unfold PT.newB at okn
    simp only [Bool.and_eq_true] at okn
    have r := List.all_eq_true.mp (List.all_eq_true.mp okn.2.1 c (List.mem_range.mpr (List.getElem?_eq_some_iff.mp hc).1)) k (List.mem_range.mpr (List.getElem?_eq_some_iff.mp hk).1)
    have hu' : p.eis = true := hu
    rw [h, hi, hu'] at r
    simp only [Bool.and_self, Bool.not_true, Bool.false_or, decide_eq_true_eq] at r
    exact r
  · obtain ⟨e, hc, hx⟩ := xrC h
    unfold PT.newB at okn
    simp only [Bool.and_eq_true] at okn
    have r := List.all_eq_true.mp (List.all_eq_true.mp okn.2.2 c (List.mem_range.mpr (List.getElem?_eq_some_iff.mp hc).1)) b (List.mem_range.mpr hb)
    have hu' : p.eis = true := hu
    rw [h, hu'] at r
    simp only [Bool.and_self, Bool.not_true, Bool.false_or, decide_eq_true_eq] at r
    exact r
  · cases h00 : p.tb.x0 c with
    | true =>
      obtain ⟨e, hc, hx⟩ := xrC (show p.tb.xr c = true from h)
      rw [x0C hc] at h00
      obtain ⟨_, q2, q3⟩ := (newC hc).1 h00
      rw [xa hc, xf hc, q3]
      exact ⟨q2, fun f hf => by cases hf⟩
    | false =>
    obtain ⟨e, d, h1, h2, h3, h4, h5, h6⟩ := xdG (show p.tb.xr c = true from h) h00
    unfold XD.ok at h3
    simp only [Bool.and_eq_true, List.all_eq_true, decide_eq_true_eq] at h3
    rw [xa h1, xf h1, ← h5]
    refine ⟨xfB_ok h3.2.2.2.2.2.2.2.2.2, fun f hf => h3.2.2.2.2.2.2.2.2.1 _ ?_⟩
    rw [h6]
    exact List.mem_map_of_mem hf
  · have h' : (p.fns[f]?).map (·.dfn) = some d := h
    cases hf : p.fns[f]? with
    | none => rw [hf] at h'; cases h'
    | some e =>
      rw [hf] at h'
      cases h'
      obtain ⟨d1, d2⟩ := df f e hf
      obtain ⟨fd, F⟩ := He.DefD.funD d1 d2
      have s := all_get st1 hf
      unfold FE.stB at s
      simp only [Bool.and_eq_true, decide_eq_true_eq, List.isEmpty_iff] at s
      obtain ⟨s1, s2, s3, s4, s5, s6⟩ := s
      have e1 : e.d.dvs K = [] := by unfold He.DefD.dvs; rw [s5]; rfl
      have e2 : e.d.kws K = [] := by unfold He.DefD.kws; rw [s6]; rfl
      rw [e1, e2] at F
      have hps : p.pso f = e.ps := by unfold PT.pso; rw [hf]
      rw [hps]
      exact ⟨⟨_, _, _, _, _, fd, e.N, by rw [fa hf]; exact F, C8.fnScope_by s1, FunD.bindsN F fun _ _ _ _ _ _ us hl => bf f e hf _ _ _ _ _ _ _ _ _ _ _ _ _ us hl, s2, s3, s4⟩⟩
  · have h' : (match p.fns[f]? with | some e => e.glob | none => none) = some x := h
    cases hf : p.fns[f]? with
    | none => rw [hf] at h'; cases h'
    | some e =>
      rw [hf] at h'
      dsimp only at h'
      have r := all_get ok1 hf
      rw [h'] at r
      simp only [Bool.and_eq_true, decide_eq_true_eq] at r
      refine ⟨?_, by show ((p.fns[f]?).map _).isSome = true; rw [hf]; rfl⟩
      rw [fa hf, ← r.2]
      exact He.glo_ok X Gm r.1
  · have h' : (p.cls[f]?).map (·.x) = some x := h
    cases hf : p.cls[f]? with
    | none => rw [hf] at h'; cases h'
    | some e =>
      rw [hf] at h'
      cases h'
      rw [ca hf]
      exact glo hf
  · have h' : (p.gcs[i]?).map (·.1) = some x := h
    cases hi : p.gcs[i]? with
    | none => rw [hi] at h'; cases h'
    | some q =>
      rw [hi] at h'
      cases h'
      unfold PT.gcB at okc
      have r := all_get okc hi
      have ev : p.tb.gv i = q.2 := by
        show (match p.gcs[i]? with | some q => q.2 | none => .non) = _
        rw [hi]
      rw [ev]
      cases hn : PySem.W.nsIn K mainGlobals q.1 with
      | none => rw [hn] at r; cases r
      | some o =>
        rw [hn] at r
        cases o with
        | none => cases r
        | some u => exact ⟨u, PySem.W.mg_of X Gm hn, repKB_ok (G := p.G K) r⟩
  · have h' : (p.gds[i]?).map (·.1) = some x := h
    cases hi : p.gds[i]? with
    | none => rw [hi] at h'; cases h'
    | some q =>
      rw [hi] at h'
      cases h'
      unfold PT.gdB at okd
      have r := all_get okd hi
      simp only [Bool.and_eq_true] at r
      have ev : p.tb.gd i = q.2 := by
        show (match p.gds[i]? with | some q => q.2 | none => []) = _
        rw [hi]
      rw [ev]
      have hd : He.dicW K (He.ga K q.1) = some (He.keysIn w.params (q.2.map (·.1))) := List.map_inj_left.mp dd q (List.mem_of_getElem? hi)
      obtain ⟨es, n, D⟩ := He.dicW_ok hd
      have r2 := r.2
      rw [D.at_] at r2
      exact ⟨_, He.glo_ok X Gm r.1, ⟨es, n, D, r2⟩⟩
  · obtain ⟨e, f, h1, h2, _⟩ := mtG h
    show ((p.fns[g]?).map _).isSome = true
    rw [h2]; rfl
  · obtain ⟨e, f, h1, h2, _⟩ := iniG h
    show ((p.fns[kk.ini]?).map _).isSome = true
    rw [h2]; rfl
  · obtain ⟨e, hc, hx⟩ := xrC h
    rw [x0C hc] at h0
    obtain ⟨q1, _, q3⟩ := (newC hc).1 h0
    rw [xa hc, xf hc]
    exact ⟨q1, q3⟩
  · have hm : (cc, ks) ∈ p.kws := List.contains_iff_mem.mp h
    obtain ⟨i, hi, hik⟩ := List.mem_iff_getElem.mp hm
    have hkw : p.kws[i]? = some (cc, ks) := by rw [List.getElem?_eq_getElem hi, hik]
    unfold PT.newS at stn
    simp only [Bool.and_eq_true] at stn
    have rs := List.all_eq_true.mp stn.2 _ hm
    cases hc : p.cls[cc]? with
    | none => rw [hc] at rs; cases rs
    | some e =>
      rw [hc] at rs
      obtain ⟨d, hd⟩ := Option.isSome_iff_exists.mp rs
      have hxr : p.tb.xr cc = true := by
        show (match p.cls[cc]? with | some e => e.xd.isSome || e.x0 | none => false) = true
        rw [hc]
        dsimp only
        rw [hd]
        rfl
      have hx0 : p.tb.x0 cc = false := by
        rw [x0C hc]
        cases hz : e.x0 with
        | false => rfl
        | true =>
          have r2 := all_get stn.1 hc
          rw [hz, hd] at r2
          cases r2
      obtain ⟨e', d', h1, h2, h3, h4, h5, h6⟩ := xdG hxr hx0
      rw [hc] at h1
      cases h1
      rw [hd] at h2
      cases h2
      obtain ⟨fd, ⟨od, osl, hl⟩, hb, hK, hF⟩ := XD.fnOk (w := w) (mg := mg) (base := base) (xd cc e d hc hd) h3 h4 (free List.mem_cons_self) (bx cc e d hc hd)
      have h3' := h3
      unfold XD.ok at h3'
      unfold XD.st at h4
      simp only [Bool.and_eq_true, List.all_eq_true, decide_eq_true_eq] at h3' h4
      have e1 : ((p.G K).xf cc).map (p.G K).nm = d.fl := by rw [xf hc, h6]; rfl
      have ekn : p.nt.kn cc ks = ks.map fun j => d.ps.getD j ("" : Str) := by
        show (ks.map fun j => (match p.cls[cc]? with | some e => (match e.xd with | some d => d.ps | none => []) | none => []).getD j ("" : Str)) = _
        rw [hc]
        dsimp only
        rw [hd]
      rw [e1, ekn, xa hc, ← h5]
      refine ⟨oexB_ok h3'.2.2.2.2.2.2.1, h4.2.2.2.2.2.2.2.2.2.2.1, xfB_ok h3'.2.2.2.2.2.2.2.2.2, fun f hf => h3'.2.2.2.2.2.2.2.2.1 _ ?_, by rw [List.length_map], _, fd, _, h3'.2.2.2.2.2.2.2.1, ?_, hF, hK ks (bk i (cc, ks) e d hkw hc hd)⟩
      · rw [← e1]
        exact List.mem_map_of_mem hf
      · show (K.lookup _).map _ = _
        rw [hl]; rfl
  · obtain ⟨e, d, h1, h2, h3, h4, h5, h6⟩ := xdG h h0
    obtain ⟨fd, ⟨od, osl, hl⟩, hb, _, hF⟩ := XD.fnOk (w := w) (mg := mg) (base := base) (xd cc e d h1 h2) h3 h4 (free List.mem_cons_self) (bx cc e d h1 h2)
    have h3' := h3
    unfold XD.ok at h3'
    unfold XD.st at h4
    simp only [Bool.and_eq_true, List.all_eq_true, decide_eq_true_eq] at h3' h4
    have e1 : ((p.G K).xf cc).map (p.G K).nm = d.fl := by rw [xf h1, h6]; rfl
    have e2 : ((p.G K).xf cc).length = d.fl.length := by rw [← e1, List.length_map]
    rw [e1, e2, xa h1, ← h5]
    refine ⟨oexB_ok h3'.2.2.2.2.2.2.1, h4.2.2.2.2.2.2.2.2.2.2.1, ?_, h4.2.2.2.2.2.2.2.2.1, _, fd, _, h3'.2.2.2.2.2.2.2.1, ?_, hF, hb⟩
    · have := h4.2.2.2.2.2.2.2.2.2.1
      omega
    · show (K.lookup _).map _ = _
      rw [hl]; rfl
end
end Dn

set_option maxHeartbeats 4000000
namespace Dn
open PySem PySem.Spec PyProof.Rows L2

def asX (g : Addr → Option Obj) : Nat → List Addr
  | 0 => [mainGlobals, cStatics]
  | n + 1 => He.growD g (asX g n)
def PT.xds (p : PT) : List XD := p.cls.filterMap (·.xd)
abbrev AlX : Type := Bool × List He.FnW × List FnY × List (Option (List (Option (Str × Int))))
def obsX (p : PT) (file : Str) (K : PySem.W.Frag) : AlX := (p.okB K file && p.fns.all fun e => e.d.ok K, p.fns.map fun e => He.fnW K e.d.at_, p.xds.map fun d => fnY K d.at_, p.gds.map fun q => He.dicW K (He.ga K q.1))
def valX (p : PT) (w : World) : AlX := (true, p.fns.map fun e => e.d.val, p.xds.map XD.val, p.gds.map fun q => some (He.keysIn w.params (q.2.map (·.1))))
def SaysX (p : PT) (file : Str) (K : PySem.W.Frag) (w : World) : Prop := obsX p file K = valX p w
def obsXG (n : Nat) (p : PT) (file : Str) (g : Addr → Option Obj) : AlX := obsX p file (He.frG g (asX g n))
def hookX (n : Nat) (p : PT) (file : Str) : PySem.W.Hook where
  α := AlX
  obs := fun s => obsXG n p file s.heap.get?
  val := fun w => valX p w
  says := fun w h => ∃ K : PySem.W.Frag, K.In h ∧ SaysX p file K w
  of := fun _ _ e => ⟨_, He.frG_in, e⟩
  keeps := fun _ _ _ ⟨K, hK, c⟩ k => ⟨K, PySem.W.Frag.In.keeps hK k, c⟩
theorem obsXG_eq {n : Nat} {p : PT} {file : Str} {g : Addr → Option Obj} {s : Shared} (h : ∀ a, g a = s.heap.get? a) : obsXG n p file g = (hookX n p file).obs s := by
  have e : g = s.heap.get? := funext h
  rw [e] <;> rfl
section
variable {p : PT} {file : Str} {K : PySem.W.Frag} {w : World}
theorem SaysX.ok (c : SaysX p file K w) : p.okB K file = true := (Bool.and_eq_true_iff.mp (show (p.okB K file && p.fns.all fun e => e.d.ok K) = true from congrArg (fun z : AlX => z.1) c)).1
theorem SaysX.df (c : SaysX p file K w) (i : Nat) (e : FE) (h : p.fns[i]? = some e) : He.fnW K e.d.at_ = e.d.val ∧ e.d.ok K = true := by
  have c1 := (Bool.and_eq_true_iff.mp (show (p.okB K file && p.fns.all fun e => e.d.ok K) = true from congrArg (fun z : AlX => z.1) c)).2
  refine ⟨?_, all_get c1 h⟩
  have e1 : (p.fns.map fun e => He.fnW K e.d.at_) = p.fns.map fun e => e.d.val := congrArg (fun z : AlX => z.2.1) c
  exact List.map_inj_left.mp e1 e (List.mem_of_getElem? h)
theorem SaysX.xd (c : SaysX p file K w) (i : Nat) (e : CE) (d : XD) (h : p.cls[i]? = some e) (hd : e.xd = some d) : fnY K d.at_ = d.val := by
  have e1 : (p.xds.map fun d => fnY K d.at_) = p.xds.map XD.val := congrArg (fun z : AlX => z.2.2.1) c
  exact List.map_inj_left.mp e1 d (List.mem_filterMap.mpr ⟨e, List.mem_of_getElem? h, hd⟩)
theorem SaysX.dd (c : SaysX p file K w) : (p.gds.map fun q => He.dicW K (He.ga K q.1)) = p.gds.map fun q => some (He.keysIn w.params (q.2.map (·.1))) := congrArg (fun z : AlX => z.2.2.2) c
end
/-- a script, as data -/
def scriptD (ns : List Int) : D := .lst (ns.map .int)
def wd0 (H : Hp) : Wd := ⟨H, [], [], []⟩
theorem ints_reps {G : Gx} {w : Wd} : ∀ ns : List Int, Reps G w (ns.map .int) (ns.map V.int)
  | [] => Reps.nil
  | n :: ns => reps_cons.mpr ⟨_, _, rfl, rep_int.mpr rfl, ints_reps ns⟩
/-- the script and nothing else is followed -/
def scr (a : Addr) (vs : List Value) (ns : List Int) : Hp := fun b => if b = a then some (.frz { cls := .type "list", data := .seq vs.toArray } (.lst (ns.map V.int))) else none
/-- a law's call from outside, by a promise that leans on no guard being under way -/
theorem call_law {P : Program} {w : World} {K : PySem.W.Frag} {mg mb : Str → Option Value} {k : Nat} {fa a : Addr} {fd : FuncData} {x : Str} {sp : Sp} {s₁ : Shared} {vs : List Value} {ns : List Int} (KX : K.In s₁.heap) (gM : s₁.heap.Ns mainGlobals mg) (gB : s₁.heap.Ns builtinsNs mb)
    (boot : ∀ x : Str, x ≠ "__name__" → mb x = bootBuiltins x) (lim : s₁.heap.NoLimit) (gens : s₁.gens = #[]) (ha : s₁.heap.get? a = some { cls := .type "list", data := .seq vs.toArray }) (hi : IntsAre vs ns) (hl : ns.length ≤ sizeLine) (hr : Room k callerA)
    (F : ∀ base : Heap, FnG P w K mg base (L2.CX P w) k fa fd [x] sp) (bnd : ∀ (s : Shared) (u : Value), BindsTo s fd ⟨[u], []⟩ [(x, u)]) (hsp : ∀ H : Hp, SqL K H a (ns.map V.int) → sp [.ref a] H (fun v _ => v = .bl true) fun _ _ _ => False) :
    codeAny (model P w) callerA (.call (.ref fa) ⟨[.ref a], []⟩) (fun r s' => r = .ok (.ret (.bool true)) ∧ OldK s₁.heap s'.heap ∧ s'.os = s₁.os ∧ AllBare s'.gens) s₁ := by
  have rv := vals_ints hi
  have body : ∀ H : Hp, (H = fun _ => none) ∨ (H = scr a vs ns ∧ K.lookup a = none) → SqL K H a (ns.map V.int) → HOk P w H s₁.heap →
      codeAny (model P w) callerA (.call (.ref fa) ⟨[.ref a], []⟩) (fun r s' => r = .ok (.ret (.bool true)) ∧ OldK s₁.heap s'.heap ∧ s'.os = s₁.os ∧ AllBare s'.gens) s₁ := by
    intro H hH hS hok
    have only : ∀ b, b ≠ a → H b = none := fun b hb => by
      rcases hH with z | ⟨z, _⟩
      · rw [z]
      · rw [z]; exact if_neg hb
    have kinds : ∀ b, H b = none ∨ ∃ ob xs, H b = some (.frz ob (.lst xs)) := fun b => by
      by_cases hb : b = a
      · rcases hH with z | ⟨z, _⟩
        · exact .inl (by rw [z])
        · exact .inr ⟨_, _, by rw [z]; exact if_pos hb⟩
      · exact .inl (only b hb)
    have dictOut : ∀ {b : Addr} {o : Obj} {es : Array DictEntry} {n : Nat}, s₁.heap.get? b = some o → o.data = .dict es n → H b = none := fun {b o es n} e d => only b fun z => by
      rw [z, ha] at e
      cases e
      cases d
    have keptNs : ∀ {b : Addr} {m : Str → Option Value}, s₁.heap.Ns b m → (hidT s₁.heap H).Ns b m := fun {b m} q => by
      obtain ⟨o, es, n, e, d, t⟩ := q
      exact ⟨o, es, n, hidT_get e (dictOut e d), d, t⟩
    have keptK : K.In (hidT s₁.heap H) := fun b o e => hidT_get (KX b o e) (by
      by_cases hb : b = a
      · rcases hH with z | ⟨_, z⟩
        · rw [z]
        · rw [hb, z] at e; cases e
      · exact only b hb)
    obtain ⟨mc, l1, l2⟩ := lim
    have env : Env0 P w K mg (hidT s₁.heap H) callerA [] s₁ H := ⟨rfl, ⟨keptK, keptNs gM, ⟨mb, keptNs gB, boot⟩, ⟨mc, keptNs l1, l2⟩⟩, fun _ _ e => of_hidT e, Nat.le_of_eq (hidT_size _ _), trivial, fun b hb => (List.not_mem_nil hb).elim, hok, .of_eq gens⟩
    have ran := (F (hidT s₁.heap H)).run callerA [] s₁ H ⟨[.ref a], []⟩ [.ref a] [.ref a] _ _ rfl hr env (bnd s₁ (.ref a)) (.cons rfl .nil) (hsp H hS)
    refine codeAny_mono ran fun r s' h => ?_
    cases r with
    | error e =>
      obtain ⟨_, _, _, _, _, _, _, _, _, _, _, _, z⟩ := h
      exact z.elim
    | ok fl =>
      cases fl with
      | ret u =>
        obtain ⟨v, H', os, bare, un, hok', ru, q⟩ := h
        have qv : v = .bl true := q
        rw [qv] at ru
        have uv : u = Value.bool true := ru
        rw [uv]
        refine ⟨rfl, OldK.of_keep fun b o e => ?_, os, bare⟩
        rcases kinds b with z | ⟨ob, xs, z⟩
        · exact un.keep b o e z (fun y => (List.not_mem_nil (show b ∈ ([] : List Addr) from y)).elim) (fun y => (List.not_mem_nil y).elim)
        · have e1 := (hok b _ z).1
          have e2 := (hok' b _ (un.frzs b ob _ z)).1
          rw [e] at e1
          rw [Option.some.inj e1]
          exact e2
      | next => exact False.elim h
      | brk => exact False.elim h
      | cont => exact False.elim h
  cases hk : K.lookup a with
  | some o =>
    have e := KX a o hk
    rw [ha] at e
    cases e
    exact body (fun _ => none) (.inl rfl) (.inr ⟨_, vs.toArray, _, hk, rfl, rfl, rfl, by rw [List.size_toArray, hi.length]; exact hl, by simpa using rv⟩) fun b u z => by cases z
  | none =>
    refine body (scr a vs ns) (.inr ⟨rfl, hk⟩) (.inl (.inr ⟨_, if_pos rfl⟩)) fun b u z => ?_
    unfold scr at z
    split at z
    · rename_i hb
      cases z
      rw [hb]
      exact ⟨ha, by rw [List.length_map]; exact hl, vs, _, rv, ha⟩
    · cases z
theorem rel0 {G : Gx} (H : Hp) : Rel G (wd0 H) :=
  ⟨rfl, fun i j a h => by simp [wd0] at h, fun i a h => by simp [wd0] at h, fun i o h => by simp [wd0] at h, fun a h => by simp [wd0] at h, fun a h => by simp [wd0] at h⟩
theorem live0 {H : Hp} {a : Addr} : ¬ Live (wd0 H) a := by
  rintro (⟨i, o, h, _⟩ | h)
  · simp [wd0] at h
  · simp [wd0] at h
/-- a law's end -/
theorem law_end {p : PT} {l : PySem.W.OpenLaw} {n n2 k f : Nat} {q : Program} {loose : List Str} {XP : (Str → Option Value) → Heap → Prop} {d : DefRec} {x : Str} {e : FE} (hn : l.most = some n) (hn2 : n ≤ sizeLine) (hdf : d.params.defaults = []) (hr : Room k callerA)
    (hf : p.fns[f]? = some e) (hg : e.glob = some d.name) (hps : e.ps = [x]) (st : p.stB l.prog = true)
    (bf : ∀ (i : Nat) (e : FE), p.fns[i]? = some e → BindP e.d.params e.ps) (bx : ∀ (i : Nat) (e : CE) (d : XD), p.cls[i]? = some e → e.xd = some d → BindP d.params (("self" : Str) :: d.ps)) (bk : ∀ (i : Nat) (q : Nat × List Nat) (e : CE) (d : XD), p.kws[i]? = some q → p.cls[q.1]? = some e → e.xd = some d → BindK d.params d.ps q.2)
    (law : ∀ ns : List Int, ns.length ≤ n → ∃ S, lvl p.tb p.kl p.df k f [scriptD ns] [] = .ok (.bl true) S) :
    PySem.W.WalkO q loose XP (hookX n2 p l.prog.main.file).says l.row.toRowW d [] (fun f vs => PySem.call f vs) := by
  refine Att.attach_call hn hdf fun w s₀ s₁ mg mb fa o pm cd doc a vs ns Gr Y ho hd hcd hmg hobj hints hlen hgens => ?_
  have Gm := Gr.T.g
  obtain ⟨K, KX, c⟩ := Y
  have pg : ∀ base : Heap, Prog (p.G K) p.tb p.kl p.nt p.df p.pso l.prog w mg base := fun base => prog_of KX Gm c.ok st c.df c.xd c.dd bf bx bk
  have hdfs : (p.df f).isSome := by
    show ((p.fns[f]?).map _).isSome = true
    rw [hf]; rfl
  have hpso : p.pso f = [x] := by unfold PT.pso; rw [hf]; exact hps
  have hfa : fa = (p.G K).fa f := by
    have h1 := ((pg s₁.heap).mgf f d.name (by show (match p.fns[f]? with | some e => e.glob | none => none) = _; rw [hf]; exact hg)).1
    rw [hmg] at h1
    cases h1
    rfl
  obtain ⟨fd, _, hb, _, oc, od, osl, lk⟩ := (lvl_ok (pg s₁.heap) k f hdfs).at_
  refine call_law (x := x) (fd := fd) (sp := fun vs H Q E => spD (p.G K) 1 (lvl p.tb p.kl p.df k f) vs H Q E) KX Gr.T.g Gr.T.b Gr.T.builtins Gr.T.nolimit hgens hobj hints (Nat.le_trans hlen hn2) hr (fun base => ?_) (fun s u => ?_) (fun H hS => ?_)
  · obtain ⟨fd2, F2, _, _, oc2, od2, osl2, lk2⟩ := (lvl_ok (pg base) k f hdfs).at_
    rw [lk] at lk2
    cases lk2
    rw [hpso] at F2
    rw [hfa]
    exact F2
  · obtain ⟨d1, d2⟩ := c.df f e hf
    obtain ⟨fd3, F3⟩ := He.DefD.funD d1 d2
    have s1 := all_get (Bool.and_eq_true_iff.mp (Bool.and_eq_true_iff.mp (show (p.newS && (p.fns.all (FE.stB p) && (p.cls.all (CE.stB p l.prog) && (decide p.nms.Nodup && !(p.nms.contains ("" : Str)))))) = true from st)).2).1 hf
    unfold FE.stB at s1
    simp only [Bool.and_eq_true, decide_eq_true_eq, List.isEmpty_iff] at s1
    have e1 : e.d.dvs K = [] := by unfold He.DefD.dvs; rw [s1.2.2.2.2.1]; rfl
    have e2 : e.d.kws K = [] := by unfold He.DefD.kws; rw [s1.2.2.2.2.2]; rfl
    rw [e1, e2] at F3
    have lk3 : ∃ oc od osl, K.lookup (He.fAd K e.d.at_) = some ⟨oc, od, .func fd3, osl⟩ := by
      obtain ⟨oc, od, dV, kV, doc, pm, an, cdv, ct, osl, rfl, lk, _⟩ := F3.ex
      exact ⟨oc, od, osl, lk⟩
    have hfe : (p.G K).fa f = He.fAd K e.d.at_ := by
      show (match p.fns[f]? with | some e => He.fAd K e.d.at_ | none => 0) = _
      rw [hf]
    obtain ⟨oc3, od3, osl3, lk3⟩ := lk3
    rw [hfe] at lk
    have lk' : K.lookup (He.fAd K e.d.at_) = _ := lk
    rw [lk3] at lk'
    cases lk'
    exact FunD.bindsA (ps := [x]) F3 (fun _ _ _ _ _ _ us hl => by rw [← hps] at hl ⊢; exact bf f e hf _ _ _ _ _ _ _ _ _ _ _ _ _ us hl) s [u] rfl
  · refine ⟨rfl, wd0 H, [scriptD ns], rfl, rel0 H, Reps.one (rep_lst.mpr ⟨a, ns.map V.int, rfl, ?_, ints_reps ns⟩), ?_⟩
    · rcases hS with z | z
      · exact .inl ⟨z, live0⟩
      · exact .inr z
    · show FinC _ _ (lvl p.tb p.kl p.df k f [scriptD ns] []) _ _
      obtain ⟨S, hS'⟩ := law ns hlen
      rw [hS']
      exact fun w' v _ _ _ _ r => rep_bl.mp r
end Dn

set_option maxHeartbeats 4000000
namespace Dn
open PySem
section
variable {α β : Type}
/-- a mark that keeps simp out of what follows -/
inductive Tag {γ : Type} (f : γ) : Type where
  | mk
def Out.bk (o : Out α) (f : α → Store → Out β) (_ : Tag f) : Out β := o.bind f
def Out.sk (o : Out α) (Γ : Vars) (f : α → Store → SOut) (_ : Tag f) : SOut := o.st Γ f
def SOut.tk (o : SOut) (f : Vars → Store → SOut) (_ : Tag f) : SOut := o.then f
theorem bk_ok (a : α) (S : Store) (f : α → Store → Out β) (t : Tag f) : (Out.ok a S).bk f t = f a S := (rfl)
theorem bk_exn (c : Nat) (xs : List D) (S : Store) (f : α → Store → Out β) (t : Tag f) : (Out.exn c xs S : Out α).bk f t = .exn c xs S := (rfl)
theorem sk_ok (a : α) (S : Store) (Γ : Vars) (f : α → Store → SOut) (t : Tag f) : (Out.ok a S).sk Γ f t = f a S := (rfl)
theorem sk_exn (c : Nat) (xs : List D) (S : Store) (Γ : Vars) (f : α → Store → SOut) (t : Tag f) : (Out.exn c xs S).sk Γ f t = .exn c xs Γ S := (rfl)
theorem tk_nx (Γ : Vars) (S : Store) (f : Vars → Store → SOut) (t : Tag f) : (SOut.nx Γ S).tk f t = f Γ S := (rfl)
theorem tk_rt (d : D) (S : Store) (f : Vars → Store → SOut) (t : Tag f) : (SOut.rt d S).tk f t = .rt d S := (rfl)
theorem tk_exn (c : Nat) (xs : List D) (Γ : Vars) (S : Store) (f : Vars → Store → SOut) (t : Tag f) : (SOut.exn c xs Γ S).tk f t = .exn c xs Γ S := (rfl)
theorem st_ok (a : α) (S : Store) (Γ : Vars) (f : α → Store → SOut) : (Out.ok a S).st Γ f = f a S := (rfl)
theorem st_exn (c : Nat) (xs : List D) (S : Store) (Γ : Vars) (f : α → Store → SOut) : (Out.exn c xs S).st Γ f = .exn c xs Γ S := (rfl)
theorem then_nx (Γ : Vars) (S : Store) (f : Vars → Store → SOut) : (SOut.nx Γ S).then f = f Γ S := (rfl)
theorem then_rt (d : D) (S : Store) (f : Vars → Store → SOut) : (SOut.rt d S).then f = .rt d S := (rfl)
theorem then_exn (c : Nat) (xs : List D) (Γ : Vars) (S : Store) (f : Vars → Store → SOut) : (SOut.exn c xs Γ S).then f = .exn c xs Γ S := (rfl)
end
section
variable {tb : Tab} {cl : Cal} {Γ : Vars} {S : Store}
theorem rd0 {d : D} : rdVar 0 (some d :: Γ) S = .ok d S := (rfl)
theorem rdS {i : Nat} {x : Option D} : rdVar (i + 1) (x :: Γ) S = rdVar i Γ S := (rfl)
theorem tgNm {i : Nat} {d : D} : setTg (.nm i) d Γ S = some (Γ.set i (some d), S) := by unfold setTg; rfl
theorem tgTup {ts : List Tg} {xs : List D} : setTg (.tup ts) (.tup xs) Γ S = setTgs ts xs Γ S := by unfold setTg; rfl
theorem tgsN : setTgs [] [] Γ S = some (Γ, S) := by unfold setTgs; rfl
theorem tgsC {i : Nat} {d : D} {ts : List Tg} {xs : List D} : setTgs (.nm i :: ts) (d :: xs) Γ S = setTgs ts xs (Γ.set i (some d)) S := by
  conv => lhs; unfold setTgs
  rw [tgNm]
theorem optS_s : optS (some (Γ, S)) = .nx Γ S := (rfl)
-- expressions, as values
theorem v_var (i : Nat) : (den tb cl (.var i)).v Γ S = rdVar i Γ S := (rfl)
theorem v_cst (d : D) : (den tb cl (.cst d)).v Γ S = .ok d S := (rfl)
theorem v_fnv (f : Nat) : (den tb cl (.fnv f)).v Γ S = .ok (.fn f) S := (rfl)
theorem v_bin (op : BOp) (a b : E) : (den tb cl (.bin op a b)).v Γ S = ((den tb cl a).v Γ S).bk (fun x S1 => ((den tb cl b).v Γ S1).bk (fun y S2 => opBin op x y S2) .mk) .mk := (rfl)
theorem v_neg (a : E) : (den tb cl (.neg a)).v Γ S = ((den tb cl a).v Γ S).bk opNeg .mk := (rfl)
theorem v_cmp (op : COp) (a b : E) : (den tb cl (.cmp op a b)).v Γ S = ((den tb cl (.cmp op a b)).t Γ S).bk (fun b S => .ok (.bl b) S) .mk := (rfl)
theorem v_cmp2 (op op2 : COp) (a b c : E) : (den tb cl (.cmp2 op op2 a b c)).v Γ S = ((den tb cl (.cmp2 op op2 a b c)).t Γ S).bk (fun b S => .ok (.bl b) S) .mk := (rfl)
theorem v_isN (n : Bool) (a : E) : (den tb cl (.isN n a)).v Γ S = ((den tb cl (.isN n a)).t Γ S).bk (fun b S => .ok (.bl b) S) .mk := (rfl)
theorem v_bool (k : Bool) (es : List E) : (den tb cl (.bool k es)).v Γ S = dBoolV k (dens tb cl es) Γ S := (rfl)
theorem v_not (a : E) : (den tb cl (.not a)).v Γ S = ((den tb cl a).v Γ S).bk (fun d S1 => (truth d S1).bk (fun c S2 => .ok (.bl (!c)) S2) .mk) .mk := (rfl)
theorem v_ite (c a b : E) : (den tb cl (.ite c a b)).v Γ S = ((den tb cl c).t Γ S).bk (fun k S1 => if k then (den tb cl a).v Γ S1 else (den tb cl b).v Γ S1) .mk := (rfl)
theorem v_tup (es : List E) : (den tb cl (.tup es)).v Γ S = (dArgs (dens tb cl es) Γ S).bk (fun ds S1 => if ds.length ≤ lineD then .ok (.tup ds) S1 else .stuck) .mk := (rfl)
theorem v_disp (es : List E) : (den tb cl (.disp es)).v Γ S = ((den tb cl (.disp es)).l Γ S).bk (fun xs S => .ok (.lst xs) S) .mk := (rfl)
theorem v_comp (x : E) (t : Tg) (it : E) (ifs : List E) : (den tb cl (.comp x t it ifs)).v Γ S = ((den tb cl (.comp x t it ifs)).l Γ S).bk (fun xs S => .ok (.lst xs) S) .mk := (rfl)
theorem v_lrng (a b : E) : (den tb cl (.lrng a b)).v Γ S = ((den tb cl (.lrng a b)).l Γ S).bk (fun xs S => .ok (.lst xs) S) .mk := (rfl)
theorem v_new (l : E) : (den tb cl (.new l)).v Γ S = dNew ((den tb cl l).l Γ S) := (rfl)
theorem v_idx (a i : E) : (den tb cl (.idx a i)).v Γ S = ((den tb cl a).v Γ S).bk (fun x S1 => ((den tb cl i).v Γ S1).bk (fun y S2 => opIdx x y S2) .mk) .mk := (rfl)
theorem v_slice (a : E) (lo hi : List E) : (den tb cl (.slice a lo hi)).v Γ S = ((den tb cl a).v Γ S).bk (fun x S1 => (dOpt (dens tb cl lo) Γ S1).bk (fun l S2 => (dOpt (dens tb cl hi) Γ S2).bk (fun h S3 => opSlice x l h S3) .mk) .mk) .mk := (rfl)
theorem v_attr (a : E) (f : Nat) : (den tb cl (.attr a f)).v Γ S = ((den tb cl a).v Γ S).bk (opAttr tb f) .mk := (rfl)
theorem v_ef (f : Nat) : (den tb cl (.ef f)).v Γ S = match cl.err with
      | some (c, xs) => (match fieldAt (tb.xf c) xs f with
        | some d => .ok d S
        | none => .stuck)
      | none => .stuck := (rfl)
theorem l_blist (a : E) : (den tb cl (.b1 .list a)).l Γ S = ((den tb cl a).v Γ S).bk (fun x S1 => match seqOf x S1 with
      | some xs => .ok xs S1
      | none => .stuck) .mk := (rfl)
theorem v_blist (a : E) : (den tb cl (.b1 .list a)).v Γ S = ((den tb cl (.b1 .list a)).l Γ S).bk (fun xs S => .ok (.lst xs) S) .mk := (rfl)
theorem v_b1 (f : F1) (a : E) (h : f ≠ .list) : (den tb cl (.b1 f a)).v Γ S = ((den tb cl a).v Γ S).bk (opF1 f) .mk := by cases f <;> first | rfl | exact absurd rfl h
theorem v_mx (k : Bool) (a b : E) : (den tb cl (.mx k a b)).v Γ S = ((den tb cl a).v Γ S).bk (fun x S1 => ((den tb cl b).v Γ S1).bk (fun y S2 => opMx k x y S2) .mk) .mk := (rfl)
theorem v_bm (m : Bm) (o : E) (es : List E) : (den tb cl (.bm m o es)).v Γ S = ((den tb cl o).v Γ S).bk (fun x S1 => if m.ty x S1 then (dArgs (dens tb cl es) Γ S1).bk (fun ds S2 => opBm m x ds S2) .mk else .stuck) .mk := (rfl)
theorem v_isi (a : E) (ts : List Ty) : (den tb cl (.isi a ts)).v Γ S = ((den tb cl a).v Γ S).bk (opIsi tb.ic ts) .mk := (rfl)
theorem v_call (f : Nat) (es : List E) : (den tb cl (.call f es)).v Γ S = (dArgs (dens tb cl es) Γ S).bk (fun ds S1 => cl.call f ds S1) .mk := (rfl)
theorem v_mk (c : Nat) (es : List E) : (den tb cl (.mk c es)).v Γ S = (dArgs (dens tb cl es) Γ S).bk (fun ds S1 => cl.make c ds S1) .mk := (rfl)
theorem v_meth (o : E) (m : Nat) (es : List E) : (den tb cl (.meth o m es)).v Γ S = ((den tb cl o).v Γ S).bk (fun x S1 => match opMeth tb x m S1 with
      | some f => (dArgs (dens tb cl es) Γ S1).bk (fun ds S2 => cl.call f (x :: ds) S2) .mk
      | none => .stuck) .mk := (rfl)
theorem v_glc (i : Nat) : (den tb cl (.glc i)).v Γ S = .ok (tb.gv i) S := (rfl)
theorem i_glc (i : Nat) : (den tb cl (.glc i)).i Γ S = srcOf (tb.gv i) S := (rfl)
theorem v_dget (i : Nat) (k : E) : (den tb cl (.dget i k)).v Γ S = ((den tb cl k).v Γ S).bk (opDget (tb.gd i)) .mk := (rfl)
theorem t_din (g : Bool) (i : Nat) (k : E) : (den tb cl (.din g i k)).t Γ S = ((den tb cl k).v Γ S).bk (opDin g (tb.gd i)) .mk := (rfl)
theorem v_din (g : Bool) (i : Nat) (k : E) : (den tb cl (.din g i k)).v Γ S = ((den tb cl (.din g i k)).t Γ S).bk (fun b S => .ok (.bl b) S) .mk := (rfl)
theorem v_dix (a k : E) : (den tb cl (.dix a k)).v Γ S = ((den tb cl a).v Γ S).bk (fun x S1 => match dictOf x S1 with
      | some kvs => ((den tb cl k).v Γ S1).bk (opDget kvs) .mk
      | none => .stuck) .mk := (rfl)
theorem t_ceq (g : Bool) (m : Nat) (a b : E) : (den tb cl (.ceq g m a b)).t Γ S = ((den tb cl a).v Γ S).bk (fun x S1 => ((den tb cl b).v Γ S1).bk (fun y S2 => opCeq tb cl.eqc g m x y S2) .mk) .mk := (rfl)
theorem v_ceq (g : Bool) (m : Nat) (a b : E) : (den tb cl (.ceq g m a b)).v Γ S = ((den tb cl (.ceq g m a b)).t Γ S).bk (fun b S => .ok (.bl b) S) .mk := (rfl)
theorem v_m1 (g : Bool) (o a : E) : (den tb cl (.m1 g o a)).v Γ S = ((den tb cl o).v Γ S).bk (fun x S1 => if (lstOf x S1).isSome then ((den tb cl a).v Γ S1).bk (fun y S2 => opM1 g x y S2) .mk else .stuck) .mk := (rfl)
theorem l_sorted (a : E) : (den tb cl (.sorted a)).l Γ S = ((den tb cl a).v Γ S).bk opSorted .mk := (rfl)
theorem v_sorted (a : E) : (den tb cl (.sorted a)).v Γ S = ((den tb cl (.sorted a)).l Γ S).bk (fun xs S => .ok (.lst xs) S) .mk := (rfl)
theorem i_sorted (a : E) : (den tb cl (.sorted a)).i Γ S = ((den tb cl (.sorted a)).l Γ S).bk (fun xs S => .ok (.items xs) S) .mk := (rfl)
theorem v_callv (i : Nat) (es : List E) : (den tb cl (.callv i es)).v Γ S = (rdVar i Γ S).bk (fun d S1 => match d with
      | .fn f => if cl.has f then (dArgs (dens tb cl es) Γ S1).bk (fun ds S2 => cl.call f ds S2) .mk else .stuck
      | _ => .stuck) .mk := by
  show (match Γ[i]? with
      | some (some (.fn f)) => if cl.has f then (dArgs (dens tb cl es) Γ S).bind fun ds S1 => cl.call f ds S1 else .stuck
      | _ => .stuck) = _
  unfold rdVar Out.bk
  rcases Γ[i]? with _ | _ | d
  · rfl
  · rfl
  · cases d <;> rfl
-- as lists
theorem l_disp (es : List E) : (den tb cl (.disp es)).l Γ S = (dArgs (dens tb cl es) Γ S).bk (fun ds S1 => if ds.length ≤ lineD then .ok ds S1 else .stuck) .mk := (rfl)
theorem l_comp (x : E) (t : Tg) (it : E) (ifs : List E) : (den tb cl (.comp x t it ifs)).l Γ S = dComp (den tb cl x) t (den tb cl it) (dens tb cl ifs) Γ S := (rfl)
theorem l_lrng (a b : E) : (den tb cl (.lrng a b)).l Γ S = ((den tb cl a).v Γ S).bk (fun x S1 => ((den tb cl b).v Γ S1).bk (opLrng x) .mk) .mk := (rfl)
-- as truths
theorem t_var (i : Nat) : (den tb cl (.var i)).t Γ S = (rdVar i Γ S).bk truth .mk := (rfl)
theorem t_cst (d : D) : (den tb cl (.cst d)).t Γ S = truth d S := (rfl)
theorem t_bin (op : BOp) (a b : E) : (den tb cl (.bin op a b)).t Γ S = ((den tb cl (.bin op a b)).v Γ S).bk truth .mk := (rfl)
theorem t_idx (a b : E) : (den tb cl (.idx a b)).t Γ S = ((den tb cl (.idx a b)).v Γ S).bk truth .mk := (rfl)
theorem t_slice (a : E) (lo hi : List E) : (den tb cl (.slice a lo hi)).t Γ S = ((den tb cl (.slice a lo hi)).v Γ S).bk truth .mk := (rfl)
theorem t_attr (a : E) (f : Nat) : (den tb cl (.attr a f)).t Γ S = ((den tb cl (.attr a f)).v Γ S).bk truth .mk := (rfl)
theorem t_isi (a : E) (ts : List Ty) : (den tb cl (.isi a ts)).t Γ S = ((den tb cl (.isi a ts)).v Γ S).bk truth .mk := (rfl)
theorem t_call (f : Nat) (es : List E) : (den tb cl (.call f es)).t Γ S = ((den tb cl (.call f es)).v Γ S).bk truth .mk := (rfl)
theorem t_callv (f : Nat) (es : List E) : (den tb cl (.callv f es)).t Γ S = ((den tb cl (.callv f es)).v Γ S).bk truth .mk := (rfl)
theorem t_meth (o : E) (m : Nat) (es : List E) : (den tb cl (.meth o m es)).t Γ S = ((den tb cl (.meth o m es)).v Γ S).bk truth .mk := (rfl)
theorem t_b1 (f : F1) (a : E) (h : f ≠ .list) : (den tb cl (.b1 f a)).t Γ S = ((den tb cl (.b1 f a)).v Γ S).bk truth .mk := by cases f <;> first | rfl | exact absurd rfl h
theorem t_cmp (op : COp) (a b : E) : (den tb cl (.cmp op a b)).t Γ S = ((den tb cl a).v Γ S).bk (fun x S1 => ((den tb cl b).v Γ S1).bk (fun y S2 => opCmp op x y S2) .mk) .mk := (rfl)
theorem t_cmp2 (op op2 : COp) (a b c : E) : (den tb cl (.cmp2 op op2 a b c)).t Γ S = ((den tb cl a).v Γ S).bk (fun x S1 => ((den tb cl b).v Γ S1).bk (fun y S2 => (opCmp op x y S2).bk (fun k S3 =>
      if k then ((den tb cl c).v Γ S3).bk (fun z S4 => opCmp op2 y z S4) .mk else .ok false S3) .mk) .mk) .mk := (rfl)
theorem t_isN (n : Bool) (a : E) : (den tb cl (.isN n a)).t Γ S = ((den tb cl a).v Γ S).bk (fun x S1 => .ok ((match x with | .non => true | _ => false) != n) S1) .mk := (rfl)
theorem t_bool (k : Bool) (es : List E) : (den tb cl (.bool k es)).t Γ S = dBoolT k (dens tb cl es) Γ S := (rfl)
theorem t_not (a : E) : (den tb cl (.not a)).t Γ S = ((den tb cl a).t Γ S).bk (fun c S1 => .ok (!c) S1) .mk := (rfl)
theorem t_disp (es : List E) : (den tb cl (.disp es)).t Γ S = ((den tb cl (.disp es)).l Γ S).bk (fun xs S => .ok (!xs.isEmpty) S) .mk := (rfl)
theorem t_comp (x : E) (t : Tg) (it : E) (ifs : List E) : (den tb cl (.comp x t it ifs)).t Γ S = ((den tb cl (.comp x t it ifs)).l Γ S).bk (fun xs S => .ok (!xs.isEmpty) S) .mk := (rfl)
-- as sources
theorem i_var (i : Nat) : (den tb cl (.var i)).i Γ S = (rdVar i Γ S).bk srcOf .mk := (rfl)
theorem i_cst (d : D) : (den tb cl (.cst d)).i Γ S = srcOf d S := (rfl)
theorem i_bin (op : BOp) (a b : E) : (den tb cl (.bin op a b)).i Γ S = ((den tb cl (.bin op a b)).v Γ S).bk srcOf .mk := (rfl)
theorem i_tup (es : List E) : (den tb cl (.tup es)).i Γ S = ((den tb cl (.tup es)).v Γ S).bk srcOf .mk := (rfl)
theorem i_idx (a b : E) : (den tb cl (.idx a b)).i Γ S = ((den tb cl (.idx a b)).v Γ S).bk srcOf .mk := (rfl)
theorem i_slice (a : E) (lo hi : List E) : (den tb cl (.slice a lo hi)).i Γ S = ((den tb cl (.slice a lo hi)).v Γ S).bk srcOf .mk := (rfl)
theorem i_attr (a : E) (f : Nat) : (den tb cl (.attr a f)).i Γ S = ((den tb cl (.attr a f)).v Γ S).bk srcOf .mk := (rfl)
theorem i_call (f : Nat) (es : List E) : (den tb cl (.call f es)).i Γ S = ((den tb cl (.call f es)).v Γ S).bk srcOf .mk := (rfl)
theorem i_meth (o : E) (m : Nat) (es : List E) : (den tb cl (.meth o m es)).i Γ S = ((den tb cl (.meth o m es)).v Γ S).bk srcOf .mk := (rfl)
theorem i_disp (es : List E) : (den tb cl (.disp es)).i Γ S = ((den tb cl (.disp es)).l Γ S).bk (fun xs S => .ok (.items xs) S) .mk := (rfl)
theorem i_comp (x : E) (t : Tg) (it : E) (ifs : List E) : (den tb cl (.comp x t it ifs)).i Γ S = ((den tb cl (.comp x t it ifs)).l Γ S).bk (fun xs S => .ok (.items xs) S) .mk := (rfl)
theorem i_rng (es : List E) : (den tb cl (.rng es)).i Γ S = (dArgs (dens tb cl es) Γ S).bk opRng .mk := (rfl)
theorem i_enum (a : E) : (den tb cl (.enum a)).i Γ S = ((den tb cl a).v Γ S).bk opEnum .mk := (rfl)
theorem i_zip (es : List E) : (den tb cl (.zip es)).i Γ S = (dArgs (dens tb cl es) Γ S).bk opZip .mk := (rfl)
-- rows of expressions
theorem a_nil : dArgs (dens tb cl []) Γ S = .ok [] S := (rfl)
theorem a_cons (e : E) (es : List E) : dArgs (dens tb cl (e :: es)) Γ S = ((den tb cl e).v Γ S).bk (fun d S1 => (dArgs (dens tb cl es) Γ S1).bk (fun ds S2 => .ok (d :: ds) S2) .mk) .mk := (rfl)
theorem bt_one (k : Bool) (e : E) : dBoolT k (dens tb cl [e]) Γ S = (den tb cl e).t Γ S := (rfl)
theorem bt_cons (k : Bool) (e f : E) (es : List E) : dBoolT k (dens tb cl (e :: f :: es)) Γ S = ((den tb cl e).t Γ S).bk (fun c S1 => if c == k then dBoolT k (dens tb cl (f :: es)) Γ S1 else .ok c S1) .mk := (rfl)
theorem bv_one (k : Bool) (e : E) : dBoolV k (dens tb cl [e]) Γ S = (den tb cl e).v Γ S := (rfl)
theorem bv_cons (k : Bool) (e f : E) (es : List E) : dBoolV k (dens tb cl (e :: f :: es)) Γ S = ((den tb cl e).v Γ S).bk (fun d S1 => (truth d S1).bk (fun c S2 => if c == k then dBoolV k (dens tb cl (f :: es)) Γ S2 else .ok d S2) .mk) .mk := (rfl)
theorem o_nil : dOpt (dens tb cl []) Γ S = .ok none S := (rfl)
theorem o_one (e : E) : dOpt (dens tb cl [e]) Γ S = ((den tb cl e).v Γ S).bk optInt .mk := (rfl)
theorem x_nil : dTest (dens tb cl []) Γ S = .ok true S := (rfl)
theorem x_one (e : E) : dTest (dens tb cl [e]) Γ S = (den tb cl e).t Γ S := (rfl)
-- statements
theorem s_nil : denB tb cl [] Γ S = .nx Γ S := (rfl)
theorem s_cons (s : T) (r : List T) : denB tb cl (s :: r) Γ S = (denT tb cl s Γ S).tk (denB tb cl r) .mk := (rfl)
theorem s_asg (t : Tg) (e : E) : denT tb cl (.asg t e) Γ S = ((den tb cl e).v Γ S).sk Γ (fun d S1 => optS (setTg t d Γ S1)) .mk := (rfl)
theorem s_par (is : List Nat) (es : List E) : denT tb cl (.par is es) Γ S = (dArgs (dens tb cl es) Γ S).sk Γ (fun ds S1 => (match setPar is ds Γ with | some Γ => .nx Γ S1 | none => .stuck)) .mk := (rfl)
theorem s_setI (o i e : E) : denT tb cl (.setI o i e) Γ S = ((den tb cl e).v Γ S).sk Γ (fun v S1 => ((den tb cl o).v Γ S1).sk Γ (fun x S2 => ((den tb cl i).v Γ S2).sk Γ (fun k S3 => (opSetI x k v S3).sk Γ (fun _ S4 => .nx Γ S4) .mk) .mk) .mk) .mk := (rfl)
theorem s_setA (o : E) (f k : Nat) (e : E) : denT tb cl (.setA o f k e) Γ S = ((den tb cl e).v Γ S).sk Γ (fun v S1 => ((den tb cl o).v Γ S1).sk Γ (fun x S2 => (opSetA f k x v S2).sk Γ (fun _ S3 => .nx Γ S3) .mk) .mk) .mk := (rfl)
theorem s_aug (i : Nat) (op : BOp) (e : E) : denT tb cl (.aug i op e) Γ S = (rdVar i Γ S).sk Γ (fun x S0 => ((den tb cl e).v Γ S0).sk Γ (fun y S1 => (opAug op x y S1).sk Γ (fun z S2 => .nx (Γ.set i (some z)) S2) .mk) .mk) .mk := (rfl)
theorem s_ex (e : E) : denT tb cl (.ex e) Γ S = ((den tb cl e).v Γ S).sk Γ (fun _ S1 => .nx Γ S1) .mk := (rfl)
theorem s_ite (c : E) (a b : List T) : denT tb cl (.ite c a b) Γ S = ((den tb cl c).t Γ S).sk Γ (fun k S1 => if k then denB tb cl a Γ S1 else denB tb cl b Γ S1) .mk := (rfl)
theorem s_ret (e : E) : denT tb cl (.ret e) Γ S = ((den tb cl e).v Γ S).sk Γ (fun d S1 => .rt d S1) .mk := (rfl)
theorem s_retN : denT tb cl .retN Γ S = .rt .non S := (rfl)
theorem s_raise (c : Nat) (es : List E) : denT tb cl (.raise c es) Γ S = (dArgs (dens tb cl es) Γ S).sk Γ (fun ds S1 => if ds.length = (tb.xf c).length then .exn c ds Γ S1 else .stuck) .mk := (rfl)
theorem s_pass : denT tb cl .pass Γ S = .nx Γ S := (rfl)
theorem s_frz (i : Nat) : denT tb cl (.frz i) Γ S = opFrz i Γ S := (rfl)
/-- a loop's turn -/
noncomputable def turn (tb : Tab) (cl : Cal) (t : Tg) (b : List T) : D → Vars → Store → SOut := fun x Γ S => (optS (setTg t x Γ S)).then (denB tb cl b)
theorem turn_eq (t : Tg) (b : List T) (x : D) : turn tb cl t b x Γ S = (optS (setTg t x Γ S)).tk (denB tb cl b) .mk := (rfl)
theorem s_loopI {t : Tg} {it : E} {b : List T} {xs : List D} {S1 : Store} (h : (den tb cl it).i Γ S = .ok (.items xs) S1) : denT tb cl (.loop t it b) Γ S = forL (turn tb cl t b) xs Γ S1 := by
  show ((den tb cl it).i Γ S).st Γ _ = _
  rw [h] <;> rfl
theorem s_loopH {t : Tg} {it : E} {b : List T} {xs : List D} {S1 : Store} {i : Nat} (h : (den tb cl it).i Γ S = .ok (.hnd i) S1) (h2 : lstOf (.ref i) S1 = some xs) : denT tb cl (.loop t it b) Γ S = forH i xs.length (turn tb cl t b) xs.length Γ S1 := by
  show ((den tb cl it).i Γ S).st Γ _ = _
  rw [h]
  show (match lstOf (.ref i) S1 with
    | some xs => forH i xs.length (turn tb cl t b) xs.length Γ S1
    | none => .stuck) = _
  rw [h2]
theorem s_whl (c : E) (b : List T) : denT tb cl (.whl c b) Γ S = whileL (den tb cl c).t (denB tb cl b) Γ S := (rfl)
theorem s_try (b : List T) (hs : List (Nat × Option Nat × List T)) : denT tb cl (.tryx b hs) Γ S = match denB tb cl b Γ S with
      | .exn c xs Γ1 S1 => dHand tb c xs Γ1 S1 (denH tb cl hs)
      | o => o := (rfl)
theorem nc_0 : ((0 : Nat) : Int) = 0 := (rfl)
theorem nc_1 : ((1 : Nat) : Int) = 1 := (rfl)
theorem nc_2 : ((2 : Nat) : Int) = 2 := (rfl)
theorem nc_3 : ((3 : Nat) : Int) = 3 := (rfl)
theorem nc_4 : ((4 : Nat) : Int) = 4 := (rfl)
theorem nc_5 : ((5 : Nat) : Int) = 5 := (rfl)
theorem nc_6 : ((6 : Nat) : Int) = 6 := (rfl)
theorem nc_7 : ((7 : Nat) : Int) = 7 := (rfl)
theorem nc_8 : ((8 : Nat) : Int) = 8 := (rfl)
theorem nc_9 : ((9 : Nat) : Int) = 9 := (rfl)
theorem nc_10 : ((10 : Nat) : Int) = 10 := (rfl)
theorem nc_11 : ((11 : Nat) : Int) = 11 := (rfl)
theorem nc_12 : ((12 : Nat) : Int) = 12 := (rfl)
theorem nc_13 : ((13 : Nat) : Int) = 13 := (rfl)
theorem nc_14 : ((14 : Nat) : Int) = 14 := (rfl)
theorem nc_15 : ((15 : Nat) : Int) = 15 := (rfl)
theorem nc_16 : ((16 : Nat) : Int) = 16 := (rfl)
theorem nc_17 : ((17 : Nat) : Int) = 17 := (rfl)
theorem nc_18 : ((18 : Nat) : Int) = 18 := (rfl)
theorem nc_19 : ((19 : Nat) : Int) = 19 := (rfl)
theorem setPar2 {i j : Nat} {x y : D} : setPar [i, j] [x, y] Γ = some ((Γ.set j (some y)).set i (some x)) := (rfl)
theorem le_0 : (0 ≤ lineD) = True := eq_true (by unfold lineD; omega)
theorem le_1 : (1 ≤ lineD) = True := eq_true (by unfold lineD; omega)
theorem le_2 : (2 ≤ lineD) = True := eq_true (by unfold lineD; omega)
theorem le_3 : (3 ≤ lineD) = True := eq_true (by unfold lineD; omega)
theorem le_4 : (4 ≤ lineD) = True := eq_true (by unfold lineD; omega)
theorem le_5 : (5 ≤ lineD) = True := eq_true (by unfold lineD; omega)
theorem le_6 : (6 ≤ lineD) = True := eq_true (by unfold lineD; omega)
theorem le_7 : (7 ≤ lineD) = True := eq_true (by unfold lineD; omega)
theorem le_8 : (8 ≤ lineD) = True := eq_true (by unfold lineD; omega)
theorem le_9 : (9 ≤ lineD) = True := eq_true (by unfold lineD; omega)
theorem le_10 : (10 ≤ lineD) = True := eq_true (by unfold lineD; omega)
theorem le_11 : (11 ≤ lineD) = True := eq_true (by unfold lineD; omega)
theorem le_12 : (12 ≤ lineD) = True := eq_true (by unfold lineD; omega)
theorem le_13 : (13 ≤ lineD) = True := eq_true (by unfold lineD; omega)
theorem le_14 : (14 ≤ lineD) = True := eq_true (by unfold lineD; omega)
theorem le_15 : (15 ≤ lineD) = True := eq_true (by unfold lineD; omega)
theorem le_16 : (16 ≤ lineD) = True := eq_true (by unfold lineD; omega)
theorem le_17 : (17 ≤ lineD) = True := eq_true (by unfold lineD; omega)
theorem le_18 : (18 ≤ lineD) = True := eq_true (by unfold lineD; omega)
theorem le_19 : (19 ≤ lineD) = True := eq_true (by unfold lineD; omega)
theorem trim_rt {n : Nat} {d : D} (h : S.length ≤ n) : trim n (.rt d S) = .ok d S := if_pos h
theorem trim_rt2 {n : Nat} {d : D} (h : ¬S.length ≤ n) (h2 : below n d = true) (h3 : sBelow n (S.take n) = true) : trim n (.rt d S) = .ok d (S.take n) := by
  show (if _ then _ else _) = _
  rw [if_neg h, if_pos (by rw [h2, h3]; rfl)]
theorem trim_nx {n : Nat} (h : S.length ≤ n) : trim n (.nx Γ S) = .ok .non S := if_pos h
theorem trim_exn {n c : Nat} {xs : List D} (h : S.length ≤ n) : trim n (.exn c xs Γ S) = .exn c xs S := if_pos h
theorem gc_le {n : Nat} (h : S.length ≤ n) : gc n Γ S = .nx Γ S := if_pos h
-- operations
theorem op_add {i j : Int} : opBin .add (.int i) (.int j) S = .ok (.int (i + j)) S := (rfl)
theorem op_sub {i j : Int} : opBin .sub (.int i) (.int j) S = .ok (.int (i - j)) S := (rfl)
theorem op_mul {i j : Int} (h : mulOk i j = true) : opBin .mul (.int i) (.int j) S = .ok (.int (i * j)) S := if_pos h
theorem op_fdiv {i j : Int} (h : divOk j = true) : opBin .fdiv (.int i) (.int j) S = .ok (.int (i / j)) S := if_pos h
theorem op_mod {i j : Int} (h : 0 < j) : opBin .mod (.int i) (.int j) S = .ok (.int (i % j)) S := if_pos h
theorem op_neg {i : Int} : opNeg (.int i) S = .ok (.int (-i)) S := (rfl)
theorem op_lt {i j : Int} : opCmp .lt (.int i) (.int j) S = .ok (decide (i < j)) S := (rfl)
theorem op_le {i j : Int} : opCmp .le (.int i) (.int j) S = .ok (decide (i ≤ j)) S := (rfl)
theorem op_gt {i j : Int} : opCmp .gt (.int i) (.int j) S = .ok (decide (j < i)) S := (rfl)
theorem op_ge {i j : Int} : opCmp .ge (.int i) (.int j) S = .ok (decide (j ≤ i)) S := (rfl)
theorem op_eqi {i j : Int} : opCmp .eq (.int i) (.int j) S = .ok (i == j) S := (rfl)
theorem op_nei {i j : Int} : opCmp .ne (.int i) (.int j) S = .ok (!(i == j)) S := (rfl)
theorem op_eq2 {a b c d : Int} : opCmp .eq (.tup [.int a, .int b]) (.tup [.int c, .int d]) S = .ok (a == c && (b == d && true)) S := (rfl)
theorem op_ne2 {a b c d : Int} : opCmp .ne (.tup [.int a, .int b]) (.tup [.int c, .int d]) S = .ok (!(a == c && (b == d && true))) S := (rfl)
theorem op_eqb {i j : Bool} : opCmp .eq (.bl i) (.bl j) S = .ok (i == j) S := (rfl)
theorem op_neb {i j : Bool} : opCmp .ne (.bl i) (.bl j) S = .ok (!(i == j)) S := (rfl)
theorem tr_bl {b : Bool} : truth (.bl b) S = .ok b S := (rfl)
theorem tr_int {i : Int} : truth (.int i) S = .ok (i != 0) S := (rfl)
theorem tr_non : truth .non S = .ok false S := (rfl)
theorem tr_lst {xs : List D} : truth (.lst xs) S = .ok (!xs.isEmpty) S := (rfl)
theorem tr_tup {xs : List D} : truth (.tup xs) S = .ok (!xs.isEmpty) S := (rfl)
theorem f_int {i : Int} : opF1 .int (.int i) S = .ok (.int i) S := (rfl)
theorem f_abs {i : Int} : opF1 .abs (.int i) S = .ok (.int (if i < 0 then -i else i)) S := (rfl)
theorem f_lent {xs : List D} : opF1 .len (.tup xs) S = .ok (.int xs.length) S := (rfl)
theorem f_lenl {xs : List D} : opF1 .len (.lst xs) S = .ok (.int xs.length) S := (rfl)
theorem f_tupl {xs : List D} : opF1 .tuple (.lst xs) S = .ok (.tup xs) S := (rfl)
theorem f_tupt {xs : List D} : opF1 .tuple (.tup xs) S = .ok (.tup xs) S := (rfl)
theorem sq_tup {xs : List D} : seqOf (.tup xs) S = some xs := (rfl)
theorem sq_lst {xs : List D} : seqOf (.lst xs) S = some xs := (rfl)
theorem ix_seq {x d : D} {xs : List D} {i : Int} {n : Nat} (h : seqOf x S = some xs) (hs : ∀ z, x ≠ .str z) (hi : i = (n : Int)) (hd : xs[n]? = some d) : opIdx x (.int i) S = .ok d S := by
  subst hi
  have hn : n < xs.length := (List.getElem?_eq_some_iff.mp hd).1
  have e : ixD xs.length (n : Int) = some n := by
    unfold ixD
    rw [if_pos (by omega), if_pos (by omega)]
    rfl
  have e0 : opIdx x (.int (n : Int)) S = (match seqOf x S with
      | some xs => (match (ixD xs.length (n : Int)).bind fun j => xs[j]? with
        | some d => Out.ok d S
        | none => .stuck)
      | none => .stuck) := by cases x <;> first | exact absurd rfl (hs _) | rfl
  rw [e0, h]
  dsimp only
  rw [e]
  show (match xs[n]? with
      | some d => Out.ok d S
      | none => .stuck) = _
  rw [hd]
theorem ix_t0 {d : D} {xs : List D} : opIdx (.tup (d :: xs)) (.int 0) S = .ok d S := ix_seq (n := 0) rfl (fun _ h => by cases h) rfl rfl
theorem ix_t1 {c d : D} {xs : List D} : opIdx (.tup (c :: d :: xs)) (.int 1) S = .ok d S := ix_seq (n := 1) rfl (fun _ h => by cases h) rfl rfl
theorem ix_l0 {d : D} {xs : List D} : opIdx (.lst (d :: xs)) (.int 0) S = .ok d S := ix_seq (n := 0) rfl (fun _ h => by cases h) rfl rfl
theorem ix_l1 {c d : D} {xs : List D} : opIdx (.lst (c :: d :: xs)) (.int 1) S = .ok d S := ix_seq (n := 1) rfl (fun _ h => by cases h) rfl rfl
theorem sr_tup {xs : List D} : srcOf (.tup xs) S = .ok (.items xs) S := (rfl)
theorem sr_lst {xs : List D} : srcOf (.lst xs) S = .ok (.items xs) S := (rfl)
theorem isi_int {ic : Nat → Bool} {ts : List Ty} {i : Int} : opIsi ic ts (.int i) S = .ok (.bl (ts.any fun t => t.ofD .int)) S := (rfl)
theorem isi_bl {ic : Nat → Bool} {ts : List Ty} {b : Bool} : opIsi ic ts (.bl b) S = .ok (.bl (ts.any fun t => t.ofD .bl)) S := (rfl)
theorem isi_tup {ic : Nat → Bool} {ts : List Ty} {xs : List D} : opIsi ic ts (.tup xs) S = .ok (.bl (ts.any fun t => t.ofD .tup)) S := (rfl)
theorem isi_lst {ic : Nat → Bool} {ts : List Ty} {xs : List D} : opIsi ic ts (.lst xs) S = .ok (.bl (ts.any fun t => t.ofD .lst)) S := (rfl)
theorem isi_str {ic : Nat → Bool} {ts : List Ty} {x : Str} : opIsi ic ts (.str x) S = .ok (.bl (ts.any fun t => t.ofD .str)) S := (rfl)
theorem isi_non {ic : Nat → Bool} {ts : List Ty} : opIsi ic ts .non S = .ok (.bl (ts.any fun t => t.ofD .non)) S := (rfl)
-- loops
theorem fl_nil {f : D → Vars → Store → SOut} : forL f [] Γ S = .nx Γ S := (rfl)
theorem fl_cons {f : D → Vars → Store → SOut} {x : D} {xs : List D} : forL f (x :: xs) Γ S = ((f x Γ S).tk (gc S.length) .mk).tk (forL f xs) .mk := (rfl)
theorem whileN_add {c : Vars → Store → Out Bool} {b : Vars → Store → SOut} {n : Nat} (k : Nat) {o : SOut} (h : whileN c b n Γ S = some o) : whileN c b (n + k) Γ S = some o := by
  induction k with
  | zero => exact h
  | succ k ih => exact whileN_mono ih
theorem whileL_eq {c : Vars → Store → Out Bool} {b : Vars → Store → SOut} {n : Nat} {o : SOut} (h : whileN c b n Γ S = some o) : whileL c b Γ S = o := by
  have ex : ∃ n o, whileN c b n Γ S = some o := ⟨n, o, h⟩
  unfold whileL
  rw [dif_pos ex]
  have h2 := ex.choose_spec.choose_spec
  generalize ex.choose_spec.choose = o2 at h2 ⊢
  generalize ex.choose = m at h2
  have e1 := whileN_add m h
  have e2 := whileN_add n h2
  rw [Nat.add_comm m n, e1] at e2
  exact (Option.some.inj e2).symm
theorem lvl_eq {kl : Nat → Option Kls} {df : Nat → Option Dfn} {k f : Nat} {d : Dfn} {ds : List D} (h : df f = some d) :
    lvl tb kl df (k + 3) f ds S = runD tb { has := fun f => (df f).isSome, call := lvl tb kl df (k + 2), make := mkD tb kl (lvl tb kl df (k + 1)), eqc := lvl tb kl df (k + 1) } d ds S := by
  show (match df f with | some d => _ | none => _) = _
  rw [h]
theorem dNew_ok {xs : List D} : dNew (.ok xs S) = .ok (.ref S.length) (S ++ [some (.lst xs)]) := (rfl)
theorem op_addl {xs ys : List D} (h : xs.length + ys.length ≤ lineD) : opBin .add (.lst xs) (.lst ys) S = .ok (.lst (xs ++ ys)) S := if_pos h
theorem cut_1 {x : D} {xs : List D} : cutD (x :: xs) (some 1) none = xs := by
  unfold cutD cutAt
  simp
theorem sl_1 {x : D} {xs : List D} : opSlice (.lst (x :: xs)) (some 1) none S = .ok (.lst xs) S := by
  show Out.ok (D.lst (cutD (x :: xs) (some 1) none)) S = _
  rw [cut_1]
theorem oi_int {i : Int} : optInt (.int i) S = .ok (some i) S := (rfl)
/-- a comprehension over a row of things that are told by others -/
theorem compL_on {α : Type} {f : D → Store → Out (Option D)} {e : α → D} {g : α → Option D} : ∀ {l : List α}, (∀ a ∈ l, f (e a) S = .ok (g a) S) → compL f (l.map e) S = .ok (l.filterMap g) S
  | [], _ => rfl
  | x :: xs, h => by
    have h1 := h x List.mem_cons_self
    have h2 := compL_on (l := xs) fun y hy => h y (List.mem_cons_of_mem _ hy)
    rw [List.map_cons]
    unfold compL
    rw [h1]
    cases e : g x with
    | none => dsimp only; rw [h2, List.filterMap_cons, e]
    | some y => dsimp only; rw [h2, List.filterMap_cons, e]
theorem compH_on {α : Type} {f : D → Store → Out (Option D)} {e : α → D} {g : α → Option D} {i : Nat} {l : List α} (hS : S[i]? = some (some (.lst (l.map e)))) (h : ∀ a ∈ l, f (e a) S = .ok (g a) S) : ∀ n : Nat, n ≤ l.length → compH i l.length f n S = .ok ((l.drop (l.length - n)).filterMap g) S
  | 0, _ => by
    unfold compH
    rw [hS]
    dsimp only
    rw [if_pos (List.length_map _), Nat.sub_zero, List.drop_length]
    rfl
  | n + 1, hn => by
    have h2 := compH_on hS h n (by omega)
    have hl : l.length - (n + 1) < l.length := by omega
    have e1 : (l.map e)[l.length - (n + 1)]? = some (e l[l.length - (n + 1)]) := by rw [List.getElem?_map, List.getElem?_eq_getElem hl]; rfl
    have e2 : l.drop (l.length - (n + 1)) = l[l.length - (n + 1)] :: l.drop (l.length - n) := by
      rw [List.drop_eq_getElem_cons hl]
      congr 2
      omega
    have h1 := h _ (List.getElem_mem hl)
    unfold compH
    rw [hS]
    dsimp only
    rw [if_pos (List.length_map _), e1]
    dsimp only
    rw [h1, e2]
    cases e : g l[l.length - (n + 1)] with
    | none => dsimp only; rw [h2, List.filterMap_cons, e]
    | some y => dsimp only; rw [h2, List.filterMap_cons, e]
theorem compH_all {α : Type} {f : D → Store → Out (Option D)} {e : α → D} {g : α → Option D} {i : Nat} {l : List α} (hS : S[i]? = some (some (.lst (l.map e)))) (h : ∀ a ∈ l, f (e a) S = .ok (g a) S) : compH i (l.map e).length f (l.map e).length S = .ok (l.filterMap g) S := by
  rw [List.length_map]
  have := compH_on hS h l.length (Nat.le_refl _)
  rw [Nat.sub_self, List.drop_zero] at this
  exact this
theorem ct_nm {i : Nat} {ifs : List Bx} {elt : Bx} {x : D} : compTurn (.nm i) ifs elt Γ x S = (dTest ifs ((Γ.set i none).set i (some x)) S).bk (fun c S1 => if c then (elt.v ((Γ.set i none).set i (some x)) S1).bk (fun y S2 => .ok (some y) S2) .mk else .ok none S1) .mk := by
  unfold compTurn
  rw [tgNm]
  rfl
theorem dc_items {elt : Bx} {t : Tg} {it : Bx} {ifs : List Bx} {xs : List D} {S1 : Store} (h : it.i Γ S = .ok (.items xs) S1) : dComp elt t it ifs Γ S = compL (compTurn t ifs elt Γ) xs S1 := by
  unfold dComp
  rw [h] <;> rfl
theorem dc_hnd {elt : Bx} {t : Tg} {it : Bx} {ifs : List Bx} {xs : List D} {S1 : Store} {i : Nat} (h : it.i Γ S = .ok (.hnd i) S1) (h2 : S1[i]? = some (some (.lst xs))) : dComp elt t it ifs Γ S = compH i xs.length (compTurn t ifs elt Γ) xs.length S1 := by
  unfold dComp
  rw [h]
  have e : lstOf (.ref i) S1 = some xs := by
    show (match S1[i]? with
      | some (some (.lst xs)) => some xs
      | _ => none) = _
    rw [h2]
  show (match lstOf (.ref i) S1 with
    | some xs => compH i xs.length (compTurn t ifs elt Γ) xs.length S1
    | none => Out.stuck) = _
  rw [e]
theorem rng_1 {n : Nat} (h : n ≤ lineD) : opRng [.int (n : Int)] S = .ok (.items ((List.range n).map fun k => .int (k : Nat))) S := by
  have h' : n ≤ 16777216 := h
  have e : (rngOk (n : Int) && decide ((n : Int).toNat ≤ lineD)) = true := by
    unfold rngOk
    simp only [Bool.and_eq_true, decide_eq_true_eq, Int.toNat_natCast]
    exact ⟨⟨by omega, by omega⟩, h⟩
  unfold opRng
  dsimp only
  rw [if_pos e, Int.toNat_natCast]
theorem rng_2 {i : Int} {n : Nat} (h : n ≤ lineD) (hi : -4611686018427387904 ≤ i) (hj : i + n < 4611686018427387904) : opRng [.int i, .int (i + n)] S = .ok (.items ((List.range n).map fun k => .int (i + (k : Nat)))) S := by
  have e2 : (i + (n : Int) - i).toNat = n := by omega
  have e : (rngOk i && rngOk (i + n) && decide ((i + (n : Int) - i).toNat ≤ lineD)) = true := by
    unfold rngOk
    simp only [Bool.and_eq_true, decide_eq_true_eq, e2]
    exact ⟨⟨⟨by omega, by omega⟩, by omega, by omega⟩, h⟩
  unfold opRng
  dsimp only
  rw [if_pos e, e2]
/-- a comprehension over what stands still, the store untouched -/
theorem compL_map {f : D → Store → Out (Option D)} {g : D → Option D} : ∀ {xs : List D}, (∀ x ∈ xs, f x S = .ok (g x) S) → compL f xs S = .ok (xs.filterMap g) S
  | [], _ => rfl
  | x :: xs, h => by
    have h1 := h x List.mem_cons_self
    have h2 := compL_map (xs := xs) fun y hy => h y (List.mem_cons_of_mem _ hy)
    unfold compL
    rw [h1]
    cases e : g x with
    | none => dsimp only; rw [h2, List.filterMap_cons, e]
    | some y => dsimp only; rw [h2, List.filterMap_cons, e]
theorem compH_map {f : D → Store → Out (Option D)} {g : D → Option D} {i : Nat} {xs : List D} (hS : S[i]? = some (some (.lst xs))) (h : ∀ x ∈ xs, f x S = .ok (g x) S) : ∀ n : Nat, n ≤ xs.length → compH i xs.length f n S = .ok ((xs.drop (xs.length - n)).filterMap g) S
  | 0, _ => by
    unfold compH
    rw [hS]
    dsimp only
    rw [if_pos rfl, Nat.sub_zero, List.drop_length]
    rfl
  | n + 1, hn => by
    have h2 := compH_map hS h n (by omega)
    have hl : xs.length - (n + 1) < xs.length := by omega
    have e1 : xs[xs.length - (n + 1)]? = some xs[xs.length - (n + 1)] := List.getElem?_eq_getElem hl
    have e2 : xs.drop (xs.length - (n + 1)) = xs[xs.length - (n + 1)] :: xs.drop (xs.length - n) := by
      rw [List.drop_eq_getElem_cons hl]
      congr 2
      omega
    have h1 := h _ (List.getElem_mem hl)
    unfold compH
    rw [hS]
    dsimp only
    rw [if_pos rfl, e1]
    dsimp only
    rw [h1, e2]
    cases e : g xs[xs.length - (n + 1)] with
    | none => dsimp only; rw [h2, List.filterMap_cons, e]
    | some y => dsimp only; rw [h2, List.filterMap_cons, e]
end
end Dn

set_option maxHeartbeats 4000000
local macro_rules
  | `(tactic| dsimp! [$xs,*] $[$l:location]?) => `(tactic| simp only [Dn.bk_ok, Dn.bk_exn, Dn.sk_ok, Dn.sk_exn, Dn.tk_nx, Dn.tk_rt, Dn.tk_exn, Dn.st_ok, Dn.st_exn, Dn.then_nx, Dn.then_rt, Dn.then_exn, Dn.rd0, Dn.rdS, Dn.tgNm, Dn.tgTup, Dn.tgsN, Dn.tgsC, Dn.optS, Dn.v_var, Dn.v_cst, Dn.v_fnv, Dn.v_bin, Dn.v_neg, Dn.v_cmp, Dn.v_cmp2, Dn.v_isN, Dn.v_bool, Dn.v_not, Dn.v_ite, Dn.v_tup, Dn.v_disp, Dn.v_comp, Dn.v_lrng, Dn.v_new, Dn.v_idx, Dn.v_slice, Dn.v_attr, Dn.v_ef, Dn.l_blist, Dn.v_blist, Dn.v_b1, Dn.v_mx, Dn.v_bm, Dn.v_isi, Dn.v_call, Dn.v_mk, Dn.v_meth, Dn.v_glc, Dn.i_glc, Dn.v_dget, Dn.t_din, Dn.v_din, Dn.v_dix, Dn.t_ceq, Dn.v_ceq, Dn.v_m1, Dn.l_sorted, Dn.v_sorted, Dn.i_sorted, Dn.v_callv, Dn.l_disp, Dn.l_lrng, Dn.t_var, Dn.t_cst, Dn.t_bin, Dn.t_idx, Dn.t_slice, Dn.t_attr, Dn.t_isi, Dn.t_call, Dn.t_callv, Dn.t_meth, Dn.t_b1, Dn.t_cmp, Dn.t_cmp2, Dn.t_isN, Dn.t_bool, Dn.t_not, Dn.t_disp, Dn.t_comp, Dn.i_var, Dn.i_cst, Dn.i_bin, Dn.i_tup, Dn.i_idx, Dn.i_slice, Dn.i_attr, Dn.i_call, Dn.i_meth, Dn.i_disp, Dn.i_comp, Dn.i_rng, Dn.i_enum, Dn.i_zip, Dn.a_nil, Dn.a_cons, Dn.bt_one, Dn.bt_cons, Dn.bv_one, Dn.bv_cons, Dn.o_nil, Dn.o_one, Dn.x_nil, Dn.x_one, Dn.s_nil, Dn.s_cons, Dn.s_asg, Dn.s_par, Dn.s_setI, Dn.s_setA, Dn.s_aug, Dn.s_ex, Dn.s_ite, Dn.s_ret, Dn.s_retN, Dn.s_raise, Dn.s_pass, Dn.s_frz, Dn.turn_eq, Dn.nc_0, Dn.nc_1, Dn.nc_2, Dn.nc_3, Dn.nc_4, Dn.nc_5, Dn.nc_6, Dn.nc_7, Dn.nc_8, Dn.nc_9, Dn.nc_10, Dn.nc_11, Dn.nc_12, Dn.nc_13, Dn.nc_14, Dn.nc_15, Dn.nc_16, Dn.nc_17, Dn.nc_18, Dn.nc_19, Dn.setPar2, Dn.le_0, Dn.le_1, Dn.le_2, Dn.le_3, Dn.le_4, Dn.le_5, Dn.le_6, Dn.le_7, Dn.le_8, Dn.le_9, Dn.le_10, Dn.le_11, Dn.le_12, Dn.le_13, Dn.le_14, Dn.le_15, Dn.le_16, Dn.le_17, Dn.le_18, Dn.le_19, Dn.op_add, Dn.op_sub, Dn.op_neg, Dn.op_lt, Dn.op_le, Dn.op_gt, Dn.op_ge, Dn.op_eqi, Dn.op_nei, Dn.op_eq2, Dn.op_ne2, Dn.op_eqb, Dn.op_neb, Dn.tr_bl, Dn.tr_int, Dn.tr_non, Dn.tr_lst, Dn.tr_tup, Dn.f_int, Dn.f_abs, Dn.f_lent, Dn.f_lenl, Dn.f_tupl, Dn.f_tupt, Dn.sq_tup, Dn.sq_lst, Dn.ix_t0, Dn.ix_t1, Dn.ix_l0, Dn.ix_l1, Dn.sr_tup, Dn.sr_lst, Dn.isi_int, Dn.isi_bl, Dn.isi_tup, Dn.isi_lst, Dn.isi_str, Dn.isi_non, Dn.fl_nil, Dn.whileN, Dn.whileL, Dn.dNew, Dn.sl_1, Dn.oi_int, Dn.compL, Dn.compH, Dn.ct_nm, Dn.bind_ok, Dn.bind_exn, ↓reduceIte, ne_eq, reduceCtorEq, not_false_eq_true, Bool.not_true, Bool.not_false, beq_self_eq_true, List.set_cons_zero, List.set_cons_succ, List.length_cons, List.length_nil, List.any_cons, List.any_nil, Bool.or_false, Bool.or_true, Bool.true_or, Bool.false_or, Bool.and_true, Bool.true_and, Bool.and_false, Bool.false_and, Bool.true_beq, Bool.false_beq, Bool.not_eq_true, Bool.bne_true, Bool.bne_false, Dn.Ty.ofD, Bool.false_eq_true, List.isEmpty_nil, List.isEmpty_cons, List.nil_append, List.cons_append, decide_true, decide_false, Option.bind_some, Nat.le_refl, Int.reduceAdd, Int.reduceSub, Int.reduceNeg, Int.reduceMul, Nat.reduceAdd, $xs,*] $[$l:location]?)
namespace Dn
open PySem
section
variable {tb : Tab} {cl : Cal} {S : Store}
/-- a script (the scriptD of Dn24) -/
abbrev scD (ns : List Int) : D := .lst (ns.map .int)
/-- the row of draws at the first handle -/
abbrev RS (ns : List Int) (i z r : Int) : Option Ob := some (.lst [scD ns, .int i, .int z, .int r])
def takenB : List T := [.ite (.cmp .gt (.idx (.var 0) (.cst (.int 3))) (.cst (.int 0))) [.asg (.nm 2) (.bin .mod (.b1 .int (.idx (.var 0) (.cst (.int 3)))) (.var 1)),
      .setI (.var 0) (.cst (.int 3)) (.bin .fdiv (.idx (.var 0) (.cst (.int 3))) (.var 1)),
      .ret (.var 2)] [],
    .setI (.var 0) (.cst (.int 1)) (.bin .add (.idx (.var 0) (.cst (.int 1))) (.cst (.int 1))),
    .ite (.cmp .gt (.idx (.var 0) (.cst (.int 1))) (.b1 .len (.idx (.var 0) (.cst (.int 0))))) [.setI (.var 0) (.cst (.int 2)) (.bin .mod (.b1 .int (.bin .add (.bin .mul (.idx (.var 0) (.cst (.int 2))) (.cst (.int 48271))) (.cst (.int 11)))) (.cst (.int 2147483647))),
      .ret (.bin .mod (.b1 .int (.bin .fdiv (.idx (.var 0) (.cst (.int 2))) (.cst (.int 7)))) (.var 1))] [],
    .asg (.nm 3) (.idx (.idx (.var 0) (.cst (.int 0))) (.bin .sub (.idx (.var 0) (.cst (.int 1))) (.cst (.int 1)))),
    .setI (.var 0) (.cst (.int 2)) (.bin .mod (.b1 .int (.bin .add (.bin .add (.bin .mul (.idx (.var 0) (.cst (.int 2))) (.cst (.int 48271))) (.var 3)) (.cst (.int 11)))) (.cst (.int 2147483647))),
    .ite (.cmp .ge (.var 3) (.bin .pow (.cst (.int 10)) (.cst (.int 18)))) [.setI (.var 0) (.cst (.int 3)) (.bin .fdiv (.var 3) (.var 1))] [],
    .ret (.bin .mod (.b1 .int (.var 3)) (.var 1))]
theorem rs0 {a b c d : D} : opIdx (.ref 0) (.int 0) (some (.lst [a, b, c, d]) :: S) = .ok a (some (.lst [a, b, c, d]) :: S) := (rfl)
theorem rs1 {a b c d : D} : opIdx (.ref 0) (.int 1) (some (.lst [a, b, c, d]) :: S) = .ok b (some (.lst [a, b, c, d]) :: S) := (rfl)
theorem rs2 {a b c d : D} : opIdx (.ref 0) (.int 2) (some (.lst [a, b, c, d]) :: S) = .ok c (some (.lst [a, b, c, d]) :: S) := (rfl)
theorem rs3 {a b c d : D} : opIdx (.ref 0) (.int 3) (some (.lst [a, b, c, d]) :: S) = .ok d (some (.lst [a, b, c, d]) :: S) := (rfl)
theorem ws1 {a b c d v : D} : opSetI (.ref 0) (.int 1) v (some (.lst [a, b, c, d]) :: S) = .ok () (some (.lst [a, v, c, d]) :: S) := (rfl)
theorem ws2 {a b c d v : D} : opSetI (.ref 0) (.int 2) v (some (.lst [a, b, c, d]) :: S) = .ok () (some (.lst [a, b, v, d]) :: S) := (rfl)
theorem ws3 {a b c d v : D} : opSetI (.ref 0) (.int 3) v (some (.lst [a, b, c, d]) :: S) = .ok () (some (.lst [a, b, c, v]) :: S) := (rfl)
theorem mul_r {i j : Int} (h : -big < j) (h2 : j < big) : mulOk i j = true := by
  unfold mulOk
  rw [Bool.or_eq_true, Bool.and_eq_true, Bool.and_eq_true, decide_eq_true_eq, decide_eq_true_eq, decide_eq_true_eq, decide_eq_true_eq]
  exact .inr ⟨h, h2⟩
theorem mul_l {i j : Int} (h : -big < i) (h2 : i < big) : mulOk i j = true := by
  unfold mulOk
  rw [Bool.or_eq_true, Bool.and_eq_true, Bool.and_eq_true, decide_eq_true_eq, decide_eq_true_eq, decide_eq_true_eq, decide_eq_true_eq]
  exact .inl ⟨h, h2⟩
theorem div_r {j : Int} (h : 0 < j) (h2 : j < big) : divOk j = true := by
  unfold divOk
  rw [Bool.and_eq_true, decide_eq_true_eq, decide_eq_true_eq]
  exact ⟨h, h2⟩
theorem op_pow18 : opBin .pow (.int 10) (.int 18) S = .ok (.int 1000000000000000000) S := (rfl)
/-- a draw -/
theorem taken {ns : List Int} {i z r m : Int} (hi : 0 ≤ i) (hm : 0 < m) (hb : m < big) :
    ∃ v i' z' r' : Int, 0 ≤ v ∧ v < m ∧ 0 ≤ i' ∧ trim (RS ns i z r :: S).length (denB tb cl takenB [some (.ref 0), some (.int m), none, none] (RS ns i z r :: S)) = .ok (.int v) (RS ns i' z' r' :: S) := by
  have hd := div_r hm hb
  have hm48 : ∀ x : Int, mulOk x 48271 = true := fun x => mul_r (by decide) (by decide)
  have hd7 : divOk 7 = true := by decide
  have p31 : (0 : Int) < 2147483647 := by decide
  unfold takenB
  by_cases h1 : 0 < r
  · refine ⟨r % m, i, z, r / m, Int.emod_nonneg _ (by omega), Int.emod_lt_of_pos _ hm, hi, ?_⟩
    dsimp! [rs0, rs1, rs2, rs3, ws1, ws2, ws3, h1, decide_true, op_mod hm, op_fdiv hd, f_int]
    exact trim_rt (Nat.le_refl _)
  · by_cases h2 : ((scD ns : D) = scD ns ∧ (ns.length : Int) < i + 1)
    · have h2' : (((ns.map D.int).length : Nat) : Int) < i + 1 := by rw [List.length_map]; exact h2.2
      refine ⟨(z * 48271 + 11) % 2147483647 / 7 % m, i + 1, (z * 48271 + 11) % 2147483647, r, Int.emod_nonneg _ (by omega), Int.emod_lt_of_pos _ hm, by omega, ?_⟩
      dsimp! [rs0, rs1, rs2, rs3, ws1, ws2, ws3, h1, decide_false, decide_true, op_mod hm, op_mod p31, op_fdiv hd, op_fdiv hd7, op_mul (hm48 z), h2', Bool.false_eq_true]
      exact trim_rt (Nat.le_refl _)
    · have h2' : ¬(((ns.map D.int).length : Nat) : Int) < i + 1 := by rw [List.length_map]; exact fun q => h2 ⟨rfl, q⟩
      have hlt : i.toNat < ns.length := by rw [List.length_map] at h2'; omega
      have hx : opIdx (scD ns) (.int i) (RS ns (i + 1) z r :: S) = .ok (.int ns[i.toNat]) (RS ns (i + 1) z r :: S) := ix_seq (n := i.toNat) (xs := ns.map .int) rfl (fun _ h => by cases h) (by omega) (by
        rw [List.getElem?_map, List.getElem?_eq_getElem hlt]; rfl)
      have e1 : i + 1 - 1 = i := by omega
      generalize hc : ns[i.toNat] = c at hx
      by_cases h3 : (1000000000000000000 : Int) ≤ c
      · refine ⟨c % m, i + 1, (z * 48271 + c + 11) % 2147483647, c / m, Int.emod_nonneg _ (by omega), Int.emod_lt_of_pos _ hm, by omega, ?_⟩
        dsimp! [rs0, rs1, rs2, rs3, ws1, ws2, ws3, h1, decide_false, decide_true, op_mod hm, op_mod p31, op_fdiv hd, op_fdiv hd7, op_mul (hm48 z), h2', e1, hx, op_pow18, h3, Bool.false_eq_true]
        exact trim_rt (Nat.le_refl _)
      · refine ⟨c % m, i + 1, (z * 48271 + c + 11) % 2147483647, r, Int.emod_nonneg _ (by omega), Int.emod_lt_of_pos _ hm, by omega, ?_⟩
        dsimp! [rs0, rs1, rs2, rs3, ws1, ws2, ws3, h1, decide_false, decide_true, op_mod hm, op_mod p31, op_fdiv hd, op_fdiv hd7, op_mul (hm48 z), h2', e1, hx, op_pow18, h3, Bool.false_eq_true]
        exact trim_rt (Nat.le_refl _)
/-- _law_alike, the def of number f -/
def alikeB (f : Nat) : List T := [.ite (.isi (.var 1) [.tuple, .list]) [.ite (.bool false [(.not (.isi (.var 0) [.tuple, .list])), (.cmp .ne (.isi (.var 0) [.list]) (.isi (.var 1) [.list]))]) [.ret (.cst (.bl false))] [],
      .ite (.cmp .ne (.b1 .len (.var 0)) (.b1 .len (.var 1))) [.ret (.cst (.bl false))] [],
      .ret (.cmp .eq (.comp (.var 2) (.nm 2) (.rng [(.b1 .len (.var 1))]) [(.not (.call f [(.idx (.var 0) (.var 2)), (.idx (.var 1) (.var 2))]))]) (.disp []))] [],
    .ite (.bool false [(.isN false (.var 1)), (.isi (.var 1) [.str])]) [.ret (.bool true [(.cmp .eq (.var 0) (.var 1)), (.cmp .eq (.isi (.var 0) [.str]) (.isi (.var 1) [.str]))])] [],
    .ret (.bool true [(.isi (.var 0) [.int]), (.cmp .eq (.isi (.var 0) [.bool]) (.isi (.var 1) [.bool])), (.cmp .eq (.var 0) (.var 1))])]
theorem alike_int {f : Nat} {i : Int} : trim S.length (denB tb cl (alikeB f) [some (.int i), some (.int i), none] S) = .ok (.bl true) S := by
  unfold alikeB
  dsimp! [op_eqb, op_eqi, trim_rt]
theorem alike_bl {f : Nat} {b : Bool} : trim S.length (denB tb cl (alikeB f) [some (.bl b), some (.bl b), none] S) = .ok (.bl true) S := by
  unfold alikeB
  dsimp! [op_eqb, trim_rt]
theorem alike_non {f : Nat} : trim S.length (denB tb cl (alikeB f) [some .non, some .non, none] S) = .ok (.bl true) S := by
  have e : opCmp .eq .non .non S = .ok true S := (rfl)
  unfold alikeB
  dsimp! [op_eqb, e, trim_rt]
theorem alike_str {f : Nat} {x : Str} (hx : x.cps.all (· < 0x110000) = true) : trim S.length (denB tb cl (alikeB f) [some (.str x), some (.str x), none] S) = .ok (.bl true) S := by
  have e : opCmp .eq (.str x) (.str x) S = .ok true S := by
    show (if (x.cps.all (· < 0x110000) && x.cps.all (· < 0x110000)) = true then Out.ok (eqv (.str x) (.str x)) S else .stuck) = _
    rw [if_pos (by rw [hx]; rfl)]
    show Out.ok (x == x) S = _
    rw [beq_self_eq_true]
  unfold alikeB
  dsimp! [op_eqb, e, trim_rt]
theorem eqv_nil : opCmp .eq (.lst []) (.lst []) S = .ok true S := (rfl)
theorem alike_tup {f : Nat} {xs : List D} (hl : xs.length ≤ lineD) (h : ∀ x ∈ xs, cl.call f [x, x] S = .ok (.bl true) S) : trim S.length (denB tb cl (alikeB f) [some (.tup xs), some (.tup xs), none] S) = .ok (.bl true) S := by
  have hc : compL (compTurn (.nm 2) (dens tb cl [.not (.call f [.idx (.var 0) (.var 2), .idx (.var 1) (.var 2)])]) (den tb cl (.var 2)) [some (.tup xs), some (.tup xs), none]) ((List.range xs.length).map fun k => .int (k : Nat)) S = .ok [] S := by
    rw [compL_map (g := fun _ => none) fun x hx => ?_]
    · simp
    · obtain ⟨k, hk, rfl⟩ := List.mem_map.mp hx
      have hk := List.mem_range.mp hk
      have ei : opIdx (.tup xs) (.int (k : Nat)) S = .ok xs[k] S := ix_seq (n := k) rfl (fun _ h => by cases h) rfl (List.getElem?_eq_getElem hk)
      dsimp! [ct_nm, ei, h _ (List.getElem_mem hk)]
  have hr := rng_1 (S := S) hl
  unfold alikeB
  dsimp! [op_eqb, op_neb, op_nei, l_comp]
  rw [dc_items (xs := (List.range xs.length).map fun k => .int (k : Nat)) (S1 := S) (by dsimp! [hr])]
  dsimp! [hc, eqv_nil, trim_rt]
theorem alike_lst {f : Nat} {xs : List D} (hl : xs.length ≤ lineD) (h : ∀ x ∈ xs, cl.call f [x, x] S = .ok (.bl true) S) : trim S.length (denB tb cl (alikeB f) [some (.lst xs), some (.lst xs), none] S) = .ok (.bl true) S := by
  have hc : compL (compTurn (.nm 2) (dens tb cl [.not (.call f [.idx (.var 0) (.var 2), .idx (.var 1) (.var 2)])]) (den tb cl (.var 2)) [some (.lst xs), some (.lst xs), none]) ((List.range xs.length).map fun k => .int (k : Nat)) S = .ok [] S := by
    rw [compL_map (g := fun _ => none) fun x hx => ?_]
    · simp
    · obtain ⟨k, hk, rfl⟩ := List.mem_map.mp hx
      have hk := List.mem_range.mp hk
      have ei : opIdx (.lst xs) (.int (k : Nat)) S = .ok xs[k] S := ix_seq (n := k) rfl (fun _ h => by cases h) rfl (List.getElem?_eq_getElem hk)
      dsimp! [ct_nm, ei, h _ (List.getElem_mem hk)]
  have hr := rng_1 (S := S) hl
  unfold alikeB
  dsimp! [op_eqb, op_neb, op_nei, l_comp]
  rw [dc_items (xs := (List.range xs.length).map fun k => .int (k : Nat)) (S1 := S) (by dsimp! [hr])]
  dsimp! [hc, eqv_nil, trim_rt]
mutual
/-- data that _law_alike looks through: as deep as n -/
def sane : Nat → D → Bool
  | _, .non => true
  | _, .bl _ => true
  | _, .int _ => true
  | _, .str x => x.cps.all (· < 0x110000)
  | 0, _ => false
  | n + 1, .lst xs => decide (xs.length ≤ lineD) && sanes n xs
  | n + 1, .tup xs => decide (xs.length ≤ lineD) && sanes n xs
  | _, _ => false
def sanes : Nat → List D → Bool
  | _, [] => true
  | n, x :: xs => sane n x && sanes n xs
end
theorem sanes_mem {n : Nat} : ∀ {xs : List D}, sanes n xs = true → ∀ x ∈ xs, sane n x = true
  | y :: ys, h, x, hx => by
    unfold sanes at h
    rw [Bool.and_eq_true] at h
    rcases List.mem_cons.mp hx with z | z
    · rw [z]; exact h.1
    · exact sanes_mem h.2 x z
theorem alike_run {f : Nat} {x y : D} : runD tb cl ⟨2, 3, alikeB f⟩ [x, y] S = trim S.length (denB tb cl (alikeB f) [some x, some y, none] S) := (rfl)
theorem alike_same {kl : Nat → Option Kls} {df : Nat → Option Dfn} {f : Nat} (hf : df f = some ⟨2, 3, alikeB f⟩) : ∀ (n : Nat) (d : D) (S : Store), sane n d = true → lvl tb kl df (n + 3) f [d, d] S = .ok (.bl true) S := by
  intro n
  induction n with
  | zero =>
    intro d S h
    rw [lvl_eq hf, alike_run]
    cases d <;> first | exact alike_non | exact alike_bl | exact alike_int | (unfold sane at h; exact alike_str h) | (unfold sane at h; cases h)
  | succ n ih =>
    intro d S h
    rw [lvl_eq hf, alike_run]
    cases d with
    | non => exact alike_non
    | bl b => exact alike_bl
    | int i => exact alike_int
    | str x => unfold sane at h; exact alike_str h
    | tup xs =>
      unfold sane at h
      rw [Bool.and_eq_true, decide_eq_true_eq] at h
      exact alike_tup h.1 fun x hx => ih x S (sanes_mem h.2 x hx)
    | lst xs =>
      unfold sane at h
      rw [Bool.and_eq_true, decide_eq_true_eq] at h
      exact alike_lst h.1 fun x hx => ih x S (sanes_mem h.2 x hx)
    | obj c xs => unfold sane at h; cases h
    | ref i => unfold sane at h; cases h
    | fn i => unfold sane at h; cases h
mutual
theorem sane_up {n : Nat} : ∀ {d : D}, sane n d = true → sane (n + 1) d = true
  | .non, _ => by unfold sane; rfl
  | .bl _, _ => by unfold sane; rfl
  | .int _, _ => by unfold sane; rfl
  | .str x, h => by unfold sane at h ⊢; exact h
  | .tup xs, h => by
    cases n with
    | zero => unfold sane at h; cases h
    | succ n =>
      unfold sane at h ⊢
      rw [Bool.and_eq_true] at h ⊢
      exact ⟨h.1, sanes_up h.2⟩
  | .lst xs, h => by
    cases n with
    | zero => unfold sane at h; cases h
    | succ n =>
      unfold sane at h ⊢
      rw [Bool.and_eq_true] at h ⊢
      exact ⟨h.1, sanes_up h.2⟩
  | .obj _ _, h => by cases n <;> (unfold sane at h; cases h)
  | .ref _, h => by cases n <;> (unfold sane at h; cases h)
  | .fn _, h => by cases n <;> (unfold sane at h; cases h)
theorem sanes_up {n : Nat} : ∀ {xs : List D}, sanes n xs = true → sanes (n + 1) xs = true
  | [], _ => by unfold sanes; rfl
  | x :: xs, h => by
    unfold sanes at h ⊢
    rw [Bool.and_eq_true] at h ⊢
    exact ⟨sane_up h.1, sanes_up h.2⟩
end
/-- at any level that is deep enough -/
theorem alike_at {kl : Nat → Option Kls} {df : Nat → Option Dfn} {f : Nat} (hf : df f = some ⟨2, 3, alikeB f⟩) (m n k : Nat) {d : D} {S : Store} (hk : k = m + n + 3) (h : sane m d = true) : lvl tb kl df k f [d, d] S = .ok (.bl true) S := by
  subst hk
  refine alike_same hf (m + n) d S ?_
  induction n with
  | zero => exact h
  | succ n ih => exact sane_up ih
end
end Dn


set_option maxHeartbeats 4000000
namespace Dn
open PySem
section
variable {tb : Tab} {cl : Cal} {S T : Store} {Γ : Vars}
mutual
theorem below_mono {n m : Nat} (h : n ≤ m) : ∀ {d : D}, below n d = true → below m d = true
  | .non, _ => rfl
  | .bl _, _ => rfl
  | .int _, _ => rfl
  | .str _, _ => rfl
  | .fn _, _ => rfl
  | .ref i, q => by
    simp only [below, decide_eq_true_eq] at q ⊢
    omega
  | .tup xs, q => by simp only [below] at q ⊢; exact belows_mono h q
  | .lst xs, q => by simp only [below] at q ⊢; exact belows_mono h q
  | .obj _ xs, q => by simp only [below] at q ⊢; exact belows_mono h q
theorem belows_mono {n m : Nat} (h : n ≤ m) : ∀ {ds : List D}, belows n ds = true → belows m ds = true
  | [], _ => rfl
  | d :: ds, q => by
    simp only [belows, Bool.and_eq_true] at q ⊢
    exact ⟨below_mono h q.1, belows_mono h q.2⟩
end
theorem ob_mono {n m : Nat} (h : n ≤ m) {o : Ob} (q : o.below n = true) : o.below m = true := by
  cases o with
  | lst xs => exact belows_mono h q
  | ins c fs =>
    have q' : (fs.all fun p => below n p.2) = true := q
    show (fs.all fun p => below m p.2) = true
    rw [List.all_eq_true] at q' ⊢
    exact fun p hp => below_mono h (q' p hp)
/-- a store that holds handles of its own alone -/
def Cl (S : Store) : Prop := sBelow S.length S = true
theorem sb_mono {n m : Nat} (h : n ≤ m) {S : Store} (q : sBelow n S = true) : sBelow m S = true := by
  unfold sBelow at q ⊢
  rw [List.all_eq_true] at q ⊢
  intro o ho
  have := q o ho
  cases o with
  | none => rfl
  | some u => exact ob_mono h this
theorem sb_app {n : Nat} {S T : Store} : sBelow n (S ++ T) = (sBelow n S && sBelow n T) := by
  unfold sBelow
  rw [List.all_append]
theorem Cl.none (h : Cl S) : Cl (S ++ [none]) := by
  unfold Cl
  rw [sb_app, List.length_append, sb_mono (Nat.le_add_right _ _) h]
  rfl
theorem Cl.lst (h : Cl S) {xs : List D} (hx : belows S.length xs = true) : Cl (S ++ [some (.lst xs)]) := by
  unfold Cl
  rw [sb_app, List.length_append, sb_mono (Nat.le_add_right _ _) h]
  show (true && (belows _ xs && true)) = true
  rw [belows_mono (Nat.le_add_right _ _) hx]
  rfl
theorem Cl.nil : Cl [] := rfl
theorem belows_map {α : Type} {n : Nat} {e : α → D} : ∀ {l : List α}, (∀ a ∈ l, below n (e a) = true) → belows n (l.map e) = true
  | [], _ => rfl
  | a :: l, h => by
    rw [List.map_cons]
    unfold belows
    rw [h a List.mem_cons_self, belows_map fun b hb => h b (List.mem_cons_of_mem _ hb)]
    rfl
theorem belows_app {n : Nat} : ∀ {xs ys : List D}, belows n (xs ++ ys) = (belows n xs && belows n ys)
  | [], _ => rfl
  | x :: xs, ys => by
    show (below n x && belows n (xs ++ ys)) = ((below n x && belows n xs) && belows n ys)
    rw [belows_app, Bool.and_assoc]
theorem Cl.RS {ns : List Int} {i z r : Int} : Cl [RS ns i z r] := by
  show ((below 1 (.lst (ns.map .int)) && true) && true) = true
  unfold below
  rw [belows_map fun _ _ => rfl]
  rfl
/-- a def's own handles are let go -/
theorem trim_own {d : D} (h : Cl S) (hd : below S.length d = true) : trim S.length (.rt d (S ++ T)) = .ok d S := by
  show (if (S ++ T).length ≤ S.length then Out.ok d (S ++ T) else if below S.length d && sBelow S.length ((S ++ T).take S.length) then Out.ok d ((S ++ T).take S.length) else .ok d (S ++ T)) = _
  split
  · rename_i hl
    rw [List.length_append] at hl
    have : T = [] := List.eq_nil_of_length_eq_zero (by omega)
    rw [this, List.append_nil]
  · have e : (S ++ T).take S.length = S := by simp
    rw [e, hd, show sBelow S.length S = true from h]
    rfl
theorem trim_ownN (h : Cl S) : trim S.length (.nx Γ (S ++ T)) = .ok .non S := by
  show (if (S ++ T).length ≤ S.length then Out.ok D.non (S ++ T) else if sBelow S.length ((S ++ T).take S.length) then Out.ok D.non ((S ++ T).take S.length) else .ok .non (S ++ T)) = _
  split
  · rename_i hl
    rw [List.length_append] at hl
    have : T = [] := List.eq_nil_of_length_eq_zero (by omega)
    rw [this, List.append_nil]
  · have e : (S ++ T).take S.length = S := by simp
    rw [e, show sBelow S.length S = true from h]
    rfl
theorem trim_ownX {c : Nat} {xs : List D} (h : Cl S) (hd : belows S.length xs = true) : trim S.length (.exn c xs Γ (S ++ T)) = .exn c xs S := by
  show (if (S ++ T).length ≤ S.length then Out.exn c xs (S ++ T) else if belows S.length xs && sBelow S.length ((S ++ T).take S.length) then Out.exn c xs ((S ++ T).take S.length) else .exn c xs (S ++ T)) = _
  split
  · rename_i hl
    rw [List.length_append] at hl
    have : T = [] := List.eq_nil_of_length_eq_zero (by omega)
    rw [this, List.append_nil]
  · have e : (S ++ T).take S.length = S := by simp
    rw [e, hd, show sBelow S.length S = true from h]
    rfl
theorem h_get {o : Option Ob} : (S ++ [o])[S.length]? = some o := by simp
theorem h_set {o u : Option Ob} : (S ++ [o]).set S.length u = S ++ [u] := by simp
theorem h_lst {xs : List D} : lstOf (.ref S.length) (S ++ [some (.lst xs)]) = some xs := by
  show (match (S ++ [some (Ob.lst xs)])[S.length]? with
    | some (some (.lst xs)) => some xs
    | _ => none) = _
  rw [h_get]
theorem h_seq {xs : List D} : seqOf (.ref S.length) (S ++ [some (.lst xs)]) = some xs := h_lst
theorem h_ty {m : Bm} {xs : List D} : Bm.ty m (.ref S.length) (S ++ [some (.lst xs)]) = true := by
  unfold Bm.ty
  rw [h_lst]
  rfl
theorem h_app {xs : List D} {d : D} (h : xs.length < lineD) : opBm .append (.ref S.length) [d] (S ++ [some (.lst xs)]) = .ok .non (S ++ [some (.lst (xs ++ [d]))]) := by
  unfold opBm
  dsimp only
  rw [h_get]
  dsimp only
  rw [if_pos h, h_set]
theorem h_ext {xs ys : List D} {y : D} (hy : seqOf y (S ++ [some (.lst xs)]) = some ys) (h : xs.length + ys.length ≤ lineD) : opBm .extend (.ref S.length) [y] (S ++ [some (.lst xs)]) = .ok .non (S ++ [some (.lst (xs ++ ys))]) := by
  unfold opBm
  dsimp only
  rw [h_get]
  dsimp only
  rw [hy]
  dsimp only
  rw [if_pos h, h_set]
theorem h_src {xs : List D} : srcOf (.ref S.length) (S ++ [some (.lst xs)]) = .ok (.hnd S.length) (S ++ [some (.lst xs)]) := by
  unfold srcOf
  dsimp only
  rw [h_lst]
theorem h_tuple {xs : List D} : opF1 .tuple (.ref S.length) (S ++ [some (.lst xs)]) = .ok (.tup xs) (S ++ [some (.lst xs)]) := by
  unfold opF1
  dsimp only
  rw [h_seq]
theorem h_frz {i : Nat} {xs : List D} (hi : Γ[i]? = some (some (.ref S.length))) : opFrz i Γ (S ++ [some (.lst xs)]) = .nx (Γ.set i (some (.lst xs))) (S ++ [none]) := by
  unfold opFrz
  rw [hi]
  dsimp only
  rw [h_get]
  dsimp only
  rw [h_set]
/-- a loop by its state -/
theorem fl_fold {α σ : Type} {f : D → Vars → Store → SOut} {e : α → D} {st : σ → Vars × Store} {step : σ → α → σ} {I : σ → Prop} : ∀ {l : List α} {s : σ}, I s → (∀ s a, a ∈ l → I s → f (e a) (st s).1 (st s).2 = .nx (st (step s a)).1 (st (step s a)).2 ∧ I (step s a) ∧ (st (step s a)).2.length ≤ (st s).2.length) →
    forL f (l.map e) (st s).1 (st s).2 = .nx (st (l.foldl step s)).1 (st (l.foldl step s)).2 ∧ I (l.foldl step s)
  | [], s, hI, _ => ⟨rfl, hI⟩
  | a :: l, s, hI, h => by
    obtain ⟨h1, h2, h3⟩ := h s a List.mem_cons_self hI
    obtain ⟨i1, i2⟩ := fl_fold (f := f) (e := e) (st := st) (step := step) (I := I) (l := l) (s := step s a) h2 fun s b hb hs => h s b (List.mem_cons_of_mem _ hb) hs
    rw [List.map_cons, fl_cons, h1]
    refine ⟨?_, i2⟩
    rw [tk_nx, gc_le h3, tk_nx, i1]
    rfl
theorem fl_app {f : D → Vars → Store → SOut} : ∀ {xs ys : List D} {Γ : Vars} {S : Store}, forL f (xs ++ ys) Γ S = (forL f xs Γ S).tk (forL f ys) .mk
  | [], _, _, _ => rfl
  | x :: xs, ys, Γ, S => by
    rw [List.cons_append, fl_cons, fl_cons]
    rcases f x Γ S with ⟨Γ1, S1⟩ | ⟨d, S1⟩ | ⟨c, zs, Γ1, S1⟩ | _
    · rw [tk_nx]
      unfold gc
      split
      · rw [tk_nx, tk_nx, fl_app]
      · split
        · rw [tk_nx, tk_nx, fl_app]
        · rw [tk_nx, tk_nx, fl_app]
    · rfl
    · rfl
    · rfl
theorem nmb_app : ∀ {xs ys : List D} {k : Nat}, numb k (xs ++ ys) = numb k xs ++ numb (k + xs.length) ys
  | [], ys, k => by simp [numb]
  | x :: xs, ys, k => by
    show D.tup [.int (k : Nat), x] :: numb (k + 1) (xs ++ ys) = (D.tup [.int (k : Nat), x] :: numb (k + 1) xs) ++ _
    rw [nmb_app, List.cons_append, List.length_cons, show k + 1 + xs.length = k + (xs.length + 1) by omega]
/-- a loop over numbered things, none of which is refused -/
theorem fl_enum {γ : Type} {f : D → Vars → Store → SOut} {G : γ → Vars} : ∀ {xs : List D} {k : Nat} {o : γ}, (∀ x ∈ xs, ∀ (k : Nat) o, ∃ o', f (.tup [.int (k : Nat), x]) (G o) S = .nx (G o') S) → ∃ o', forL f (numb k xs) (G o) S = .nx (G o') S
  | [], _, o, _ => ⟨o, rfl⟩
  | x :: xs, k, o, h => by
    obtain ⟨o1, h1⟩ := h x List.mem_cons_self k o
    obtain ⟨o2, h2⟩ := fl_enum (f := f) (G := G) (xs := xs) (k := k + 1) (o := o1) fun y hy => h y (List.mem_cons_of_mem _ hy)
    refine ⟨o2, ?_⟩
    show forL f (.tup [.int (k : Nat), x] :: numb (k + 1) xs) (G o) S = _
    rw [fl_cons, h1, tk_nx, gc_le (Nat.le_refl _), tk_nx, h2]
/-- a loop that leaves the store and what it does not name -/
theorem fl_all {α γ : Type} {f : D → Vars → Store → SOut} {e : α → D} {G : γ → Vars} : ∀ {l : List α} {o : γ}, (∀ a ∈ l, ∀ o, ∃ o', f (e a) (G o) S = .nx (G o') S) → ∃ o', forL f (l.map e) (G o) S = .nx (G o') S
  | [], o, _ => ⟨o, rfl⟩
  | a :: l, o, h => by
    obtain ⟨o1, h1⟩ := h a List.mem_cons_self o
    obtain ⟨o2, h2⟩ := fl_all (f := f) (e := e) (G := G) (l := l) (o := o1) fun b hb => h b (List.mem_cons_of_mem _ hb)
    refine ⟨o2, ?_⟩
    rw [List.map_cons, fl_cons, h1, tk_nx, gc_le (Nat.le_refl _), tk_nx, h2]
/-- a list or a tuple -/
def mix (b : Bool) (xs : List D) : D := match b with
  | true => .lst xs
  | false => .tup xs
theorem mx_src {b : Bool} {xs : List D} : srcOf (mix b xs) S = .ok (.items xs) S := by cases b <;> rfl
theorem mx_enum {b : Bool} {xs : List D} : opEnum (mix b xs) S = .ok (.items (numb 0 xs)) S := by cases b <;> rfl
theorem mx_len {b : Bool} {xs : List D} : opF1 .len (mix b xs) S = .ok (.int xs.length) S := by cases b <;> rfl
theorem mx_isi {ic : Nat → Bool} {b : Bool} {xs : List D} : opIsi ic [.list, .tuple] (mix b xs) S = .ok (.bl true) S := by cases b <;> rfl
theorem enum_t {xs : List D} : opEnum (.tup xs) S = .ok (.items (numb 0 xs)) S := (rfl)
theorem enum_l {xs : List D} : opEnum (.lst xs) S = .ok (.items (numb 0 xs)) S := (rfl)
def atom : D → Bool
  | .int _ => true
  | .bl _ => true
  | .str _ => true
  | .non => true
  | _ => false
/-- an attribute that is stored in an instance being made -/
theorem h_att {f c : Nat} {d : D} {fs : List (Nat × D)} (h : fs.length < 900) : setTg (.att 0 f c) d (some (.ref S.length) :: Γ) (S ++ [some (.ins c fs)]) = some (some (.ref S.length) :: Γ, S ++ [some (.ins c (putFld f d fs))]) := by
  unfold setTg
  show (match opSetA f c (.ref S.length) d (S ++ [some (.ins c fs)]) with
      | .ok _ S1 => some (some (D.ref S.length) :: Γ, S1)
      | _ => none) = _
  unfold opSetA
  dsimp only
  rw [h_get]
  dsimp only
  rw [if_pos ⟨h, rfl⟩, h_set]
/-- a list at the last handle that grows, row by row -/
theorem fl_grow {α β γ : Type} {f : D → Vars → Store → SOut} {e : α → D} {d : β → D} {G : γ → Vars} {row : α → List β} : ∀ {l : List α} {acc : List β} {o : γ}, acc.length + (l.flatMap row).length ≤ lineD →
    (∀ a ∈ l, ∀ acc o, acc.length + (row a).length ≤ lineD → ∃ o', f (e a) (G o) (S ++ [some (.lst (acc.map d))]) = .nx (G o') (S ++ [some (.lst ((acc ++ row a).map d))])) →
    ∃ o', forL f (l.map e) (G o) (S ++ [some (.lst (acc.map d))]) = .nx (G o') (S ++ [some (.lst ((acc ++ l.flatMap row).map d))])
  | [], acc, o, _, _ => ⟨o, by simp [fl_nil]⟩
  | a :: l, acc, o, hb, h => by
    rw [List.flatMap_cons, List.length_append] at hb
    obtain ⟨o1, h1⟩ := h a List.mem_cons_self acc o (by omega)
    obtain ⟨o2, h2⟩ := fl_grow (f := f) (e := e) (d := d) (G := G) (row := row) (l := l) (acc := acc ++ row a) (o := o1) (by rw [List.length_append]; omega) fun b hb => h b (List.mem_cons_of_mem _ hb)
    refine ⟨o2, ?_⟩
    rw [List.map_cons, fl_cons, h1, tk_nx, gc_le (by simp), tk_nx, h2, List.flatMap_cons, List.append_assoc]
/-- a loop that looks for the first of which p says yes, and returns there -/
theorem fl_find {α : Type} {f : D → Vars → Store → SOut} {e : α → D} {p : α → Bool} {r : α → D} {G : Option α → Vars} : ∀ {l : List α} {o : Option α}, (∀ a ∈ l, ∀ o, f (e a) (G o) S = if p a then .rt (r a) S else .nx (G (some a)) S) →
    ∃ o', forL f (l.map e) (G o) S = (match l.find? p with | some a => .rt (r a) S | none => .nx (G o') S)
  | [], o, _ => ⟨o, rfl⟩
  | a :: l, o, h => by
    have h1 := h a List.mem_cons_self o
    cases hp : p a with
    | true =>
      refine ⟨o, ?_⟩
      rw [hp, if_pos rfl] at h1
      rw [List.map_cons, fl_cons, h1, List.find?_cons, hp]
      rfl
    | false =>
      rw [hp, if_neg (by decide)] at h1
      obtain ⟨o', ho⟩ := fl_find (f := f) (e := e) (p := p) (r := r) (G := G) (l := l) (o := some a) fun b hb o => h b (List.mem_cons_of_mem _ hb) o
      refine ⟨o', ?_⟩
      rw [List.map_cons, fl_cons, h1, List.find?_cons, hp, tk_nx, gc_le (Nat.le_refl _), tk_nx, ho]
theorem nmb_map {α : Type} {e : α → D} : ∀ (l : List α) (k : Nat), numb k (l.map e) = ((List.range' k l.length).zip l).map fun p => .tup [.int (p.1 : Nat), e p.2]
  | [], k => rfl
  | a :: l, k => by
    rw [List.map_cons, List.length_cons, List.range'_succ, List.zip_cons_cons, List.map_cons]
    unfold numb
    rw [nmb_map l (k + 1)]
mutual
theorem eqv_self : ∀ {n : Nat} {d : D}, flat n d = true → eqv d d = true
  | _, .non, _ => rfl
  | _, .bl b, _ => by simp [eqv]
  | _, .int i, _ => by simp [eqv]
  | _, .str x, _ => by simp [eqv]
  | n + 1, .lst xs, h => by
    simp only [flat] at h
    simp only [eqv]
    exact eqvs_self h
  | n + 1, .tup xs, h => by
    simp only [flat] at h
    simp only [eqv]
    exact eqvs_self h
  | 0, .lst _, h => by simp [flat] at h
  | 0, .tup _, h => by simp [flat] at h
  | n, .obj _ _, h => by cases n <;> simp [flat] at h
  | n, .ref _, h => by cases n <;> simp [flat] at h
  | n, .fn _, h => by cases n <;> simp [flat] at h
theorem eqvs_self : ∀ {n : Nat} {ds : List D}, flats n ds = true → eqvs ds ds = true
  | _, [], _ => rfl
  | n, d :: ds, h => by
    simp only [flats, Bool.and_eq_true] at h
    simp only [eqvs, Bool.and_eq_true]
    exact ⟨eqv_self h.1, eqvs_self h.2⟩
end
theorem flats_map {α : Type} {n : Nat} {e : α → D} : ∀ {l : List α}, (∀ a ∈ l, flat n (e a) = true) → flats n (l.map e) = true
  | [], _ => rfl
  | a :: l, h => by
    rw [List.map_cons]
    unfold flats
    rw [h a List.mem_cons_self, flats_map fun b hb => h b (List.mem_cons_of_mem _ hb)]
    rfl
theorem sanes_map {α : Type} {n : Nat} {e : α → D} : ∀ {l : List α}, (∀ a ∈ l, sane n (e a) = true) → sanes n (l.map e) = true
  | [], _ => rfl
  | a :: l, h => by
    rw [List.map_cons]
    unfold sanes
    rw [h a List.mem_cons_self, sanes_map fun b hb => h b (List.mem_cons_of_mem _ hb)]
    rfl
theorem eqvs_map {α : Type} {e : α → D} (he : ∀ a b, eqv (e a) (e b) = true ↔ a = b) : ∀ {l m : List α}, eqvs (l.map e) (m.map e) = true ↔ l = m
  | [], [] => by simp [eqvs]
  | [], _ :: _ => by simp [eqvs]
  | _ :: _, [] => by simp [eqvs]
  | a :: l, b :: m => by
    simp only [List.map_cons, eqvs, Bool.and_eq_true, he, eqvs_map he, List.cons.injEq]
theorem any_map {α : Type} [BEq α] [LawfulBEq α] {e : α → D} (he : ∀ a b, eqv (e a) (e b) = true ↔ a = b) {a : α} {l : List α} : ((l.map e).any fun z => eqv z (e a)) = l.contains a := by
  rw [Bool.eq_iff_iff, List.any_eq_true, List.contains_iff_mem]
  constructor
  · rintro ⟨z, hz, h⟩
    obtain ⟨b, hb, rfl⟩ := List.mem_map.mp hz
    rw [(he b a).mp h] at hb
    exact hb
  · exact fun h => ⟨e a, List.mem_map.mpr ⟨a, h, rfl⟩, (he a a).mpr rfl⟩
theorem cmp_eq {x y : D} (hx : seen x S = x) (hy : seen y S = y) (fx : flat 60 x = true) (fy : flat 60 y = true) : opCmp .eq x y S = .ok (eqv x y) S := by
  show (if (flat 60 (seen x S) && flat 60 (seen y S)) = true then Out.ok (eqv (seen x S) (seen y S)) S else .stuck) = _
  rw [hx, hy, fx, fy]
  rfl
theorem cmp_ne {x y : D} (hx : seen x S = x) (hy : seen y S = y) (fx : flat 60 x = true) (fy : flat 60 y = true) : opCmp .ne x y S = .ok (!eqv x y) S := by
  show (opCmp .eq x y S).bind (fun b S => .ok (!b) S) = _
  rw [cmp_eq hx hy fx fy] <;> rfl
theorem cmp_in {x y : D} {ys : List D} (hx : ∀ z, x ≠ .str z) (hy : seqOf y S = some ys) (fx : flat 60 x = true) (fy : flats 60 ys = true) : opCmp .isin x y S = .ok (ys.any fun z => eqv z x) S := by
  have e : opCmp .isin x y S = (match seqOf y S with
      | some ys => if flat 60 x && flats 60 ys then .ok (ys.any fun z => eqv z x) S else .stuck
      | none => .stuck) := by cases x <;> first | rfl | exact absurd rfl (hx _)
  rw [e, hy]
  dsimp only
  rw [fx, fy]
  rfl
theorem cmp_notin {x y : D} {ys : List D} (hx : ∀ z, x ≠ .str z) (hy : seqOf y S = some ys) (fx : flat 60 x = true) (fy : flats 60 ys = true) : opCmp .notin x y S = .ok (!ys.any fun z => eqv z x) S := by
  have e : opCmp .notin x y S = (match seqOf y S with
      | some ys => if flat 60 x && flats 60 ys then .ok (!ys.any fun z => eqv z x) S else .stuck
      | none => .stuck) := by cases x <;> first | rfl | exact absurd rfl (hx _)
  rw [e, hy]
  dsimp only
  rw [fx, fy]
  rfl
theorem fm_if {α : Type} {e : α → D} {p : α → Bool} : ∀ {l : List α}, (l.filterMap fun a => if p a then some (e a) else none) = (l.filter p).map e
  | [] => rfl
  | a :: l => by
    rw [List.filterMap_cons, List.filter_cons, fm_if (l := l)]
    cases p a <;> rfl
/-- a comprehension with one name and one test, the store untouched -/
theorem comp_if {α : Type} {i : Nat} {elt it c : E} {e g : α → D} {p : α → Bool} {l : List α} {S1 : Store} (hit : (den tb cl it).i Γ S = .ok (.items (l.map e)) S1)
    (hc : ∀ a ∈ l, (den tb cl c).t ((Γ.set i none).set i (some (e a))) S1 = .ok (p a) S1) (hg : ∀ a ∈ l, p a = true → (den tb cl elt).v ((Γ.set i none).set i (some (e a))) S1 = .ok (g a) S1) :
    (den tb cl (.comp elt (.nm i) it [c])).l Γ S = .ok ((l.filter p).map g) S1 := by
  rw [l_comp, dc_items hit, ← fm_if]
  refine compL_on fun a ha => ?_
  rw [ct_nm, x_one, hc a ha, bk_ok]
  cases hp : p a with
  | true =>
    rw [if_pos rfl, hg a ha hp]
    rfl
  | false => rfl
theorem comp_all {α : Type} {i : Nat} {elt it : E} {e g : α → D} {l : List α} {S1 : Store} (hit : (den tb cl it).i Γ S = .ok (.items (l.map e)) S1)
    (hg : ∀ a ∈ l, (den tb cl elt).v ((Γ.set i none).set i (some (e a))) S1 = .ok (g a) S1) : (den tb cl (.comp elt (.nm i) it [])).l Γ S = .ok (l.map g) S1 := by
  have e2 : l.map g = l.filterMap fun a => some (g a) := by simp
  rw [l_comp, dc_items hit, e2]
  refine compL_on fun a ha => ?_
  rw [ct_nm, x_nil, bk_ok, if_pos rfl, hg a ha]
  rfl
theorem ct_tup2 {i j : Nat} {ifs : List Bx} {elt : Bx} {x y : D} : compTurn (.tup [.nm i, .nm j]) ifs elt Γ (.tup [x, y]) S = (dTest ifs ((((Γ.set j none).set i none).set i (some x)).set j (some y)) S).bk (fun c S1 => if c then (elt.v ((((Γ.set j none).set i none).set i (some x)).set j (some y)) S1).bk (fun y S2 => .ok (some y) S2) .mk else .ok none S1) .mk := by
  unfold compTurn
  rw [tgTup, tgsC, tgsC, tgsN]
  rfl
theorem comp2_if {α : Type} {i j : Nat} {elt it c : E} {e e' g : α → D} {p : α → Bool} {l : List α} {S1 : Store} (hit : (den tb cl it).i Γ S = .ok (.items (l.map fun a => .tup [e a, e' a])) S1)
    (hc : ∀ a ∈ l, (den tb cl c).t ((((Γ.set j none).set i none).set i (some (e a))).set j (some (e' a))) S1 = .ok (p a) S1) (hg : ∀ a ∈ l, p a = true → (den tb cl elt).v ((((Γ.set j none).set i none).set i (some (e a))).set j (some (e' a))) S1 = .ok (g a) S1) :
    (den tb cl (.comp elt (.tup [.nm i, .nm j]) it [c])).l Γ S = .ok ((l.filter p).map g) S1 := by
  rw [l_comp, dc_items hit, ← fm_if]
  refine compL_on (e := fun a => .tup [e a, e' a]) fun a ha => ?_
  rw [ct_tup2, x_one, hc a ha, bk_ok]
  cases hp : p a with
  | true =>
    rw [if_pos rfl, hg a ha hp]
    rfl
  | false => rfl
theorem comp2_all {α : Type} {i j : Nat} {elt it : E} {e e' g : α → D} {l : List α} {S1 : Store} (hit : (den tb cl it).i Γ S = .ok (.items (l.map fun a => .tup [e a, e' a])) S1)
    (hg : ∀ a ∈ l, (den tb cl elt).v ((((Γ.set j none).set i none).set i (some (e a))).set j (some (e' a))) S1 = .ok (g a) S1) : (den tb cl (.comp elt (.tup [.nm i, .nm j]) it [])).l Γ S = .ok (l.map g) S1 := by
  have e2 : l.map g = l.filterMap fun a => some (g a) := by simp
  rw [l_comp, dc_items hit, e2]
  refine compL_on (e := fun a => .tup [e a, e' a]) fun a ha => ?_
  rw [ct_tup2, x_nil, bk_ok, if_pos rfl, hg a ha]
  rfl
theorem gcV_id {n : Nat} : ∀ {Γ : Vars}, (∀ d, some d ∈ Γ → below n d = true) → gcV n Γ = Γ
  | [], _ => rfl
  | o :: Γ, h => by
    have ih := gcV_id (n := n) (Γ := Γ) fun d hd => h d (List.mem_cons_of_mem _ hd)
    unfold gcV at ih ⊢
    rw [List.map_cons, ih]
    cases o with
    | none => rfl
    | some d => simp [h d List.mem_cons_self]
/-- behind a turn that has made handles of its own -/
theorem gc_own {T : Store} (h : sBelow S.length S = true) (hΓ : ∀ d, some d ∈ Γ → below S.length d = true) : gc S.length Γ (S ++ T) = .nx Γ S := by
  unfold gc
  split
  · rename_i hl
    rw [List.length_append] at hl
    have : T = [] := List.eq_nil_of_length_eq_zero (by omega)
    rw [this, List.append_nil]
  · have e : (S ++ T).take S.length = S := by simp
    rw [e, h, if_pos rfl, gcV_id hΓ]
/-- data of variables that name no handle from n on -/
def Bl (n : Nat) (Γ : Vars) : Bool := Γ.all fun o => match o with
  | some d => below n d
  | none => true
theorem Bl_mem {n : Nat} (h : Bl n Γ = true) {d : D} (hd : some d ∈ Γ) : below n d = true := by
  unfold Bl at h
  rw [List.all_eq_true] at h
  exact h _ hd
/-- a loop whose turns make handles of their own -/
theorem fl_allg {α γ : Type} {f : D → Vars → Store → SOut} {e : α → D} {G : γ → Vars} (hS : Cl S) (hG : ∀ o, Bl S.length (G o) = true) : ∀ {l : List α} {o : γ}, (∀ a ∈ l, ∀ o, ∃ o' T, f (e a) (G o) S = .nx (G o') (S ++ T)) → ∃ o', forL f (l.map e) (G o) S = .nx (G o') S
  | [], o, _ => ⟨o, rfl⟩
  | a :: l, o, h => by
    obtain ⟨o1, T, h1⟩ := h a List.mem_cons_self o
    obtain ⟨o2, h2⟩ := fl_allg (f := f) (e := e) (G := G) hS hG (l := l) (o := o1) fun b hb => h b (List.mem_cons_of_mem _ hb)
    refine ⟨o2, ?_⟩
    rw [List.map_cons, fl_cons, h1, tk_nx, gc_own hS (fun d hd => Bl_mem (hG o1) hd), tk_nx, h2]
abbrev Pb : Type := {o : Option D // ∀ d, o = some d → below 0 d = true}
/-- whole numbers as data -/
abbrev dK (k : Nat) : D := .int (k : Nat)
theorem e_K {a b : Nat} : eqv (dK a) (dK b) = true ↔ a = b := by
  simp only [eqv, beq_iff_eq]
  omega
theorem fl_Ks {l : List Nat} : flats 60 (l.map dK) = true := flats_map fun _ _ => rfl
theorem niK_t {k : Nat} {l : List Nat} : opCmp .notin (dK k) (.tup (l.map dK)) S = .ok (!l.contains k) S := by
  rw [cmp_notin (fun _ h => by cases h) rfl rfl fl_Ks, any_map fun _ _ => e_K]
theorem niK_l {k : Nat} {l : List Nat} : opCmp .notin (dK k) (.lst (l.map dK)) S = .ok (!l.contains k) S := by
  rw [cmp_notin (fun _ h => by cases h) rfl rfl fl_Ks, any_map fun _ _ => e_K]
theorem comp_nonif {α : Type} {i : Nat} {elt it c : E} {e : α → D} {l : List α} {S1 : Store} (hit : (den tb cl it).i Γ S = .ok (.items (l.map e)) S1)
    (hc : ∀ a ∈ l, (den tb cl c).t ((Γ.set i none).set i (some (e a))) S1 = .ok false S1) : (den tb cl (.comp elt (.nm i) it [c])).l Γ S = .ok [] S1 := by
  have := comp_if (g := e) (p := fun _ => false) (elt := elt) hit hc fun a _ h => by cases h
  rw [this, List.filter_eq_nil_iff.mpr (by simp)]
  rfl
theorem cut_take {α : Type} {xs : List α} {k : Nat} : cutD xs none (some (k : Int)) = xs.take k := by
  unfold cutD cutAt
  have h : ¬(k : Int) < 0 := by omega
  simp only [if_neg h, Int.toNat_natCast, Nat.sub_zero, List.drop_zero]
  rcases Nat.le_total k xs.length with q | q
  · rw [Nat.min_eq_left q]
  · rw [Nat.min_eq_right q, List.take_length, List.take_of_length_le q]
theorem cut_drop {α : Type} {xs : List α} {k : Nat} : cutD xs (some (k : Int)) none = xs.drop k := by
  unfold cutD cutAt
  have h : ¬(k : Int) < 0 := by omega
  simp only [if_neg h, Int.toNat_natCast]
  rcases Nat.le_total k xs.length with q | q
  · rw [Nat.min_eq_left q, List.take_of_length_le (by simp)]
  · rw [Nat.min_eq_right q, List.drop_length, List.drop_of_length_le q]
    simp
theorem slT_take {xs : List D} {k : Nat} : opSlice (.tup xs) none (some (k : Int)) S = .ok (.tup (xs.take k)) S := by
  show Out.ok (D.tup (cutD xs none (some (k : Int)))) S = _
  rw [cut_take]
theorem slT_drop {xs : List D} {k : Nat} : opSlice (.tup xs) (some ((k : Int) + 1)) none S = .ok (.tup (xs.drop (k + 1))) S := by
  show Out.ok (D.tup (cutD xs (some ((k + 1 : Nat) : Int)) none)) S = _
  rw [cut_drop]
theorem slL_take {xs : List D} {k : Nat} : opSlice (.lst xs) none (some (k : Int)) S = .ok (.lst (xs.take k)) S := by
  show Out.ok (D.lst (cutD xs none (some (k : Int)))) S = _
  rw [cut_take]
theorem op_addt {xs ys : List D} (h : xs.length + ys.length ≤ lineD) : opBin .add (.tup xs) (.tup ys) S = .ok (.tup (xs ++ ys)) S := if_pos h
theorem ix_lastL {xs : List D} {d : D} (h : xs.getLast? = some d) : opIdx (.lst xs) (.int (-1)) S = .ok d S := by
  have hl : xs.length ≠ 0 := fun z => by
    rw [List.eq_nil_of_length_eq_zero z] at h
    simp at h
  have e : ixD xs.length (-1) = some (xs.length - 1) := by
    unfold ixD
    rw [if_neg (by omega), if_pos (by omega)]
    congr 1
    omega
  rw [List.getLast?_eq_getElem?] at h
  show (match (ixD xs.length (-1)).bind fun j => xs[j]? with
      | some d => Out.ok d S
      | none => .stuck) = _
  rw [e]
  show (match xs[xs.length - 1]? with
      | some d => Out.ok d S
      | none => .stuck) = _
  rw [h]
theorem ne_self {d : D} (hs : seen d S = d) (hf : flat 60 d = true) : opCmp .ne d d S = .ok false S := by
  rw [cmp_ne hs hs hf hf, eqv_self hf]
  rfl
theorem pys_map {α : Type} {e : α → D} {f : α → PyData} (he : ∀ a, pyD (e a) = some (f a)) : ∀ {l : List α}, pyDs (l.map e) = some (l.map f)
  | [] => rfl
  | a :: l => by
    rw [List.map_cons]
    unfold pyDs
    rw [he, pys_map he]
    rfl
section
open PySem.W
theorem sort_is {α β : Type} [DecidableEq β] [DatumOrd β] {e : α → D} {q : α → β} (he : ∀ a, pyD (e a) = some (Datum.toD (q a))) {l l' : List α} (hp : l'.Perm l) (hs : l'.Pairwise fun a b => DatumOrd.lt (q b) (q a) = false)
    (hu : ∀ a ∈ l', ∀ b ∈ l', DatumOrd.lt (q b) (q a) = false → DatumOrd.lt (q a) (q b) = false → e a = e b) (ht : (∀ a ∈ l, tup1 (Datum.toD (q a)) = true) ∨ (∀ a ∈ l, notTup (Datum.toD (q a)) = true))
    (hl : l.length ≤ lineD) (hd : PyData.depthAll (l.map fun a => Datum.toD (q a)) ≤ 60) : opSorted (.lst (l.map e)) S = .ok (l'.map e) S := by
  have hy : ∀ a, pyd (e a) = Datum.toD (q a) := fun a => by
    unfold pyd
    rw [he]
    rfl
  have hle : ∀ a b, PySem.W.dataLe false pyd (e a) (e b) = !DatumOrd.lt (q b) (q a) := fun a b => by
    rw [PySem.W.dataLe_eq]
    show (!PySem.W.dataLt (pyd (e b)) (pyd (e a))) = _
    rw [hy, hy, DatumOrd.lt_eq]
  have hm : (l.map e).mergeSort (PySem.W.dataLe false pyd) = l'.map e := by
    have T : TotalLe (PySem.W.dataLe false pyd) := sortLe_total _ _ _
    refine List.Perm.eq_of_pairwise (le := fun x y => PySem.W.dataLe false pyd x y = true) ?_ ?_ ?_ ((List.mergeSort_perm _ _).trans (hp.symm.map e))
    · intro x y hx hy' h1 h2
      have hx' := (List.mergeSort_perm _ _).mem_iff.mp hx
      obtain ⟨a, ha, rfl⟩ := List.mem_map.mp hx'
      obtain ⟨b, hb, rfl⟩ := List.mem_map.mp hy'
      rw [hle, Bool.not_eq_true'] at h1 h2
      exact hu a (hp.mem_iff.mpr ha) b hb h1 h2
    · exact List.pairwise_mergeSort T.trans (fun a b => by rw [Bool.or_eq_true]; exact T.total a b) _
    · rw [List.pairwise_map]
      exact hs.imp fun h => by rw [hle, h]; rfl
  show (match pyDs (l.map e) with
    | some ps => if ps.all (fun p => ps.all fun q => PySem.W.alike p q) && (ps.all tup1 || ps.all notTup) && decide ((l.map e).length ≤ lineD) && decide (PyData.depthAll ps ≤ 60) then Out.ok ((l.map e).mergeSort (PySem.W.dataLe false pyd)) S else .stuck
    | none => .stuck) = _
  rw [pys_map he]
  dsimp only
  rw [if_pos, hm]
  rw [Bool.and_eq_true, Bool.and_eq_true, Bool.and_eq_true, decide_eq_true_eq, decide_eq_true_eq, List.length_map, Bool.or_eq_true, List.all_eq_true, List.all_eq_true, List.all_eq_true]
  refine ⟨⟨⟨fun p hp => ?_, ?_⟩, hl⟩, hd⟩
  · rw [List.all_eq_true]
    intro q hq
    obtain ⟨a, _, rfl⟩ := List.mem_map.mp hp
    obtain ⟨b, _, rfl⟩ := List.mem_map.mp hq
    exact DatumOrd.alike _ _
  · rcases ht with h | h
    · refine .inl fun p hp => ?_
      obtain ⟨a, ha, rfl⟩ := List.mem_map.mp hp
      exact h a ha
    · refine .inr fun p hp => ?_
      obtain ⟨a, ha, rfl⟩ := List.mem_map.mp hp
      exact h a ha
mutual
theorem unpy_py : ∀ {d : D} {p : PyData}, pyD d = some p → unpy p = d
  | .non, p, h => by cases h; rfl
  | .bl _, p, h => by cases h; rfl
  | .int _, p, h => by cases h; rfl
  | .str _, p, h => by cases h; rfl
  | .tup xs, p, h => by
    unfold pyD at h
    cases e : pyDs xs with
    | none => rw [e] at h; cases h
    | some ps =>
      rw [e] at h
      cases h
      show D.tup (unpys ps) = _
      rw [unpys_pys e]
  | .lst xs, p, h => by
    unfold pyD at h
    cases e : pyDs xs with
    | none => rw [e] at h; cases h
    | some ps =>
      rw [e] at h
      cases h
      show D.lst (unpys ps) = _
      rw [unpys_pys e]
  | .obj _ _, p, h => by cases h
  | .ref _, p, h => by cases h
  | .fn _, p, h => by cases h
theorem unpys_pys : ∀ {ds : List D} {ps : List PyData}, pyDs ds = some ps → unpys ps = ds
  | [], ps, h => by cases h; rfl
  | d :: ds, ps, h => by
    unfold pyDs at h
    cases e1 : pyD d with
    | none => rw [e1] at h; cases h
    | some p =>
      cases e2 : pyDs ds with
      | none => rw [e1, e2] at h; cases h
      | some qs =>
        rw [e1, e2] at h
        cases h
        show unpy p :: unpys qs = _
        rw [unpy_py e1, unpys_pys e2]
end
/-- min of data at a list -/
theorem min_is {α β : Type} [DecidableEq β] [DatumOrd β] {e : α → D} {q : α → β} (he : ∀ a, pyD (e a) = some (Datum.toD (q a))) {x : D} {a : α} {l : List α} {m : α} (hx : lstOf x S = some ((a :: l).map e)) (hi : intsOf ((a :: l).map e) = none) (hm : minOf (q a) (l.map q) = q m)
    (hd : PyData.depthAll ((a :: l).map fun a => Datum.toD (q a)) ≤ 60) : opF1 .min x S = .ok (e m) S := by
  have hpy := pys_map he (l := a :: l)
  have e1 : opF1 .min x S = (match (lstOf x S).bind intsOf with
    | some (n :: ns) => Out.ok (.int (minI n ns)) S
    | _ => match (lstOf x S).bind pyDs with
      | some (p :: ps) => if (p :: ps).all (fun q => (p :: ps).all fun r => PySem.W.alike q r) && (p :: ps).all notNon && decide (PyData.depthAll (p :: ps) ≤ 60) then .ok (unpy (PySem.W.minD p ps)) S else .stuck
      | _ => .stuck) := rfl
  rw [e1, hx, Option.bind_some, Option.bind_some, hi, hpy]
  show (if _ then Out.ok (unpy (PySem.W.minD (Datum.toD (q a)) (l.map fun a => Datum.toD (q a)))) S else .stuck) = _
  have e2 : PySem.W.minD (Datum.toD (q a)) (l.map fun a => Datum.toD (q a)) = Datum.toD (q m) := by
    have := minD_map (q a) (l.map q)
    rw [List.map_map, hm] at this
    exact this
  rw [if_pos, e2, unpy_py (he m)]
  rw [Bool.and_eq_true, Bool.and_eq_true, decide_eq_true_eq, List.all_eq_true, List.all_eq_true]
  refine ⟨⟨fun p hp => ?_, fun p hp => ?_⟩, hd⟩
  · rw [List.all_eq_true]
    intro r hr
    obtain ⟨b, _, rfl⟩ := List.mem_map.mp (show p ∈ (a :: l).map fun a => Datum.toD (q a) from hp)
    obtain ⟨c, _, rfl⟩ := List.mem_map.mp (show r ∈ (a :: l).map fun a => Datum.toD (q a) from hr)
    exact DatumOrd.alike _ _
  · obtain ⟨b, _, rfl⟩ := List.mem_map.mp (show p ∈ (a :: l).map fun a => Datum.toD (q a) from hp)
    have := DatumOrd.notNone (q b)
    cases h : Datum.toD (q b) with
    | none => exact absurd h this
    | _ => rfl
end
def pickB (f : Nat) : List Dn.T := [.ret (.idx (.var 1) (.call f [.var 0, .b1 .len (.var 1)]))]
end
end Dn


set_option maxHeartbeats 4000000
namespace Dn
open PySem
section
variable {tb : Tab} {cl : Cal} {S T : Store} {Γ : Vars}
mutual
theorem flat_mono {n m : Nat} (h : n ≤ m) : ∀ {d : D}, flat n d = true → flat m d = true
  | .non, _ => by cases m <;> rfl
  | .bl _, _ => by cases m <;> rfl
  | .int _, _ => by cases m <;> rfl
  | .str _, q => by cases n <;> cases m <;> exact q
  | .lst xs, q => by
    cases n with
    | zero => cases q
    | succ n =>
      cases m with
      | zero => omega
      | succ m =>
        unfold flat at q ⊢
        exact flats_mono (by omega) q
  | .tup xs, q => by
    cases n with
    | zero => cases q
    | succ n =>
      cases m with
      | zero => omega
      | succ m =>
        unfold flat at q ⊢
        exact flats_mono (by omega) q
  | .obj _ _, q => by cases n <;> cases q
  | .ref _, q => by cases n <;> cases q
  | .fn _, q => by cases n <;> cases q
theorem flats_mono {n m : Nat} (h : n ≤ m) : ∀ {ds : List D}, flats n ds = true → flats m ds = true
  | [], _ => by unfold flats; rfl
  | d :: ds, q => by
    unfold flats at q ⊢
    rw [Bool.and_eq_true] at q ⊢
    exact ⟨flat_mono h q.1, flats_mono h q.2⟩
end
def letters : List Nat := ("abcdefghijklmnopqrstuvwxyz" : Str).cps.toList
def figures : List Nat := ("0123456789" : Str).cps.toList
def okC (c : Nat) : Bool := decide (c ∈ letters) || decide (c ∈ figures)
def okL : List Nat → Bool
  | [] => false
  | c :: r => decide (c ∈ letters) && (c :: r).all okC
/-- a name -/
def okN (s : Str) : Bool := okL s.cps.toList && decide (s.length ≤ 12)
theorem okC_lt {c : Nat} (h : okC c = true) : c < 0x110000 := by
  have : ∀ c ∈ letters ++ figures, c < 0x110000 := by decide +kernel
  refine this c (List.mem_append.mpr ?_)
  unfold okC at h
  rw [Bool.or_eq_true, decide_eq_true_eq, decide_eq_true_eq] at h
  exact h
theorem okL_all {l : List Nat} (h : okL l = true) : l.all okC = true := by
  cases l with
  | nil => cases h
  | cons c r =>
    unfold okL at h
    rw [Bool.and_eq_true] at h
    exact h.2
theorem all_flat {s : Str} (h : s.cps.toList.all okC = true) : s.cps.all (· < 0x110000) = true := by
  rw [← Array.all_toList, List.all_eq_true]
  rw [List.all_eq_true] at h
  exact fun c hc => decide_eq_true (okC_lt (h c hc))
theorem okN_flat {s : Str} (h : okN s = true) : s.cps.all (· < 0x110000) = true := by
  unfold okN at h
  rw [Bool.and_eq_true] at h
  exact all_flat (okL_all h.1)
theorem okN_len {s : Str} (h : okN s = true) : s.length ≤ 12 := by
  unfold okN at h
  rw [Bool.and_eq_true, decide_eq_true_eq] at h
  exact h.2
abbrev Nm : Type := {s : Str // okN s = true}
abbrev dn (s : Nm) : D := .str s.1
theorem sfl {s : Nm} {n : Nat} : flat n (dn s) = true := by
  have := okN_flat s.2
  cases n <;> (unfold flat; exact this)
theorem ssn {s : Nm} {n : Nat} : sane n (dn s) = true := by
  have := okN_flat s.2
  cases n <;> (unfold sane; exact this)
theorem sbl {s : Nm} {n : Nat} : below n (dn s) = true := rfl
theorem e_str {a b : Str} : eqv (.str a) (.str b) = true ↔ a = b := by
  simp only [eqv, beq_iff_eq]
theorem e_nm {a b : Nm} : eqv (dn a) (dn b) = true ↔ a = b := by
  rw [e_str, Subtype.ext_iff]
theorem nfls {l : List Nm} {n : Nat} : flats n (l.map dn) = true := flats_map fun _ _ => sfl
theorem op_eqs {a b : Str} (ha : a.cps.all (· < 0x110000) = true) (hb : b.cps.all (· < 0x110000) = true) : opCmp .eq (.str a) (.str b) S = .ok (decide (a = b)) S := by
  rw [cmp_eq rfl rfl (by unfold flat; exact ha) (by unfold flat; exact hb)]
  have : eqv (.str a) (.str b) = decide (a = b) := by rw [Bool.eq_iff_iff, e_str, decide_eq_true_eq]
  rw [this]
theorem op_nes {a b : Str} (ha : a.cps.all (· < 0x110000) = true) (hb : b.cps.all (· < 0x110000) = true) : opCmp .ne (.str a) (.str b) S = .ok (!decide (a = b)) S := by
  show (opCmp .eq (.str a) (.str b) S).bind (fun b S => .ok (!b) S) = _
  rw [op_eqs ha hb, bind_ok]
theorem op_eqn {a b : Nm} : opCmp .eq (dn a) (dn b) S = .ok (decide (a = b)) S := by
  rw [op_eqs (okN_flat a.2) (okN_flat b.2)]
  simp only [Subtype.ext_iff]
theorem op_nen {a b : Nm} : opCmp .ne (dn a) (dn b) S = .ok (!decide (a = b)) S := by
  rw [op_nes (okN_flat a.2) (okN_flat b.2)]
  simp only [Subtype.ext_iff]
/-- the items that are data of a row's members -/
theorem eqs_map {α : Type} [DecidableEq α] {e : α → D} (he : ∀ a b, eqv (e a) (e b) = true ↔ a = b) (hf : ∀ a, flat 50 (e a) = true) {l m : List α} : opCmp .eq (.lst (l.map e)) (.lst (m.map e)) S = .ok (decide (l = m)) S := by
  rw [cmp_eq rfl rfl (by unfold flat; exact flats_map fun a _ => flat_mono (by decide) (hf a)) (by unfold flat; exact flats_map fun a _ => flat_mono (by decide) (hf a))]
  congr 1
  rw [Bool.eq_iff_iff, decide_eq_true_eq]
  simp only [eqv]
  exact eqvs_map he
theorem eqt_map {α : Type} [DecidableEq α] {e : α → D} (he : ∀ a b, eqv (e a) (e b) = true ↔ a = b) (hf : ∀ a, flat 50 (e a) = true) {l m : List α} : opCmp .eq (.tup (l.map e)) (.tup (m.map e)) S = .ok (decide (l = m)) S := by
  rw [cmp_eq rfl rfl (by unfold flat; exact flats_map fun a _ => flat_mono (by decide) (hf a)) (by unfold flat; exact flats_map fun a _ => flat_mono (by decide) (hf a))]
  congr 1
  rw [Bool.eq_iff_iff, decide_eq_true_eq]
  simp only [eqv]
  exact eqvs_map he
theorem nel_map {α : Type} [DecidableEq α] {e : α → D} (he : ∀ a b, eqv (e a) (e b) = true ↔ a = b) (hf : ∀ a, flat 50 (e a) = true) {l m : List α} : opCmp .ne (.lst (l.map e)) (.lst (m.map e)) S = .ok (!decide (l = m)) S := by
  show (opCmp .eq _ _ S).bind (fun b S => .ok (!b) S) = _
  rw [eqs_map he hf, bind_ok]
theorem net_map {α : Type} [DecidableEq α] {e : α → D} (he : ∀ a b, eqv (e a) (e b) = true ↔ a = b) (hf : ∀ a, flat 50 (e a) = true) {l m : List α} : opCmp .ne (.tup (l.map e)) (.tup (m.map e)) S = .ok (!decide (l = m)) S := by
  show (opCmp .eq _ _ S).bind (fun b S => .ok (!b) S) = _
  rw [eqt_map he hf, bind_ok]
/-- in a row of lists, tuples -/
theorem in_gen {x y : D} {ys : List D} (hx : ∀ z, y ≠ .str z) (hy : seqOf y S = some ys) (fx : flat 60 x = true) (fy : flats 60 ys = true) : opCmp .isin x y S = .ok (ys.any fun z => eqv z x) S := by
  have e : opCmp .isin x y S = (match seqOf y S with
      | some ys => if flat 60 x && flats 60 ys then .ok (ys.any fun z => eqv z x) S else .stuck
      | none => .stuck) := by cases x <;> cases y <;> first | rfl | exact absurd rfl (hx _)
  rw [e, hy]
  dsimp only
  rw [fx, fy]
  rfl
theorem ni_gen {x y : D} {ys : List D} (hx : ∀ z, y ≠ .str z) (hy : seqOf y S = some ys) (fx : flat 60 x = true) (fy : flats 60 ys = true) : opCmp .notin x y S = .ok (!ys.any fun z => eqv z x) S := by
  have e : opCmp .notin x y S = (match seqOf y S with
      | some ys => if flat 60 x && flats 60 ys then .ok (!ys.any fun z => eqv z x) S else .stuck
      | none => .stuck) := by cases x <;> cases y <;> first | rfl | exact absurd rfl (hx _)
  rw [e, hy]
  dsimp only
  rw [fx, fy]
  rfl
theorem in_map {α : Type} [BEq α] [LawfulBEq α] {e : α → D} (he : ∀ a b, eqv (e a) (e b) = true ↔ a = b) (hf : ∀ a, flat 50 (e a) = true) {y : D} {a : α} {l : List α} (hx : ∀ z, y ≠ .str z) (hy : seqOf y S = some (l.map e)) : opCmp .isin (e a) y S = .ok (l.contains a) S := by
  rw [in_gen hx hy (flat_mono (by decide) (hf a)) (flats_map fun b _ => flat_mono (by decide) (hf b)), any_map he]
theorem ni_map {α : Type} [BEq α] [LawfulBEq α] {e : α → D} (he : ∀ a b, eqv (e a) (e b) = true ↔ a = b) (hf : ∀ a, flat 50 (e a) = true) {y : D} {a : α} {l : List α} (hx : ∀ z, y ≠ .str z) (hy : seqOf y S = some (l.map e)) : opCmp .notin (e a) y S = .ok (!l.contains a) S := by
  rw [ni_gen hx hy (flat_mono (by decide) (hf a)) (flats_map fun b _ => flat_mono (by decide) (hf b)), any_map he]
theorem in_nl {a : Nm} {l : List Nm} : opCmp .isin (dn a) (.lst (l.map dn)) S = .ok (l.contains a) S := in_map (fun _ _ => e_nm) (fun _ => sfl) (fun _ h => by cases h) rfl
theorem in_nt {a : Nm} {l : List Nm} : opCmp .isin (dn a) (.tup (l.map dn)) S = .ok (l.contains a) S := in_map (fun _ _ => e_nm) (fun _ => sfl) (fun _ h => by cases h) rfl
theorem ni_nl {a : Nm} {l : List Nm} : opCmp .notin (dn a) (.lst (l.map dn)) S = .ok (!l.contains a) S := ni_map (fun _ _ => e_nm) (fun _ => sfl) (fun _ h => by cases h) rfl
theorem ni_nt {a : Nm} {l : List Nm} : opCmp .notin (dn a) (.tup (l.map dn)) S = .ok (!l.contains a) S := ni_map (fun _ _ => e_nm) (fun _ => sfl) (fun _ h => by cases h) rfl
theorem in_sg {c : Nat} {z : Str} : opCmp .isin (.str ⟨#[c]⟩) (.str z) S = .ok (decide (c ∈ z.cps.toList)) S := (rfl)
theorem ni_sg {c : Nat} {z : Str} : opCmp .notin (.str ⟨#[c]⟩) (.str z) S = .ok (!decide (c ∈ z.cps.toList)) S := (rfl)
theorem f_lens {s : Str} (h : s.length ≤ lineD) : opF1 .len (.str s) S = .ok (.int s.length) S := if_pos h
theorem op_adds {a b : Str} (h : a.length + b.length ≤ lineD) : opBin .add (.str a) (.str b) S = .ok (.str (a ++ b)) S := if_pos h
theorem sr_str {s : Str} (h : s.length ≤ lineD) : srcOf (.str s) S = .ok (.items (s.cps.toList.map fun c => .str ⟨#[c]⟩)) S := if_pos h
theorem ix_s {s : Str} {i : Int} {n c : Nat} (h : s.length ≤ lineD) (hi : i = (n : Int)) (hc : s.cps.toList[n]? = some c) : opIdx (.str s) (.int i) S = .ok (.str ⟨#[c]⟩) S := by
  subst hi
  have hn : n < s.length := by
    have := (List.getElem?_eq_some_iff.mp hc).1
    simpa [Str.length] using this
  have e : ixD s.length (n : Int) = some n := by
    unfold ixD
    rw [if_pos (by omega), if_pos (by omega)]
    rfl
  show (if s.length ≤ lineD then (match (ixD s.length (n : Int)).bind fun j => s.cps.toList[j]? with
      | some c => Out.ok (D.str ⟨#[c]⟩) S
      | none => .stuck) else .stuck) = _
  rw [if_pos h, e]
  show (match s.cps.toList[n]? with
      | some c => Out.ok (D.str ⟨#[c]⟩) S
      | none => .stuck) = _
  rw [hc]
theorem bools_map {α : Type} {p : α → Bool} : ∀ {l : List α}, boolsOf (l.map fun a => D.bl (p a)) = some (l.map p)
  | [] => rfl
  | a :: l => by
    rw [List.map_cons]
    unfold boolsOf
    rw [bools_map]
    rfl
theorem f_all {α : Type} {p : α → Bool} {l : List α} : opF1 .all (.lst (l.map fun a => D.bl (p a))) S = .ok (.bl (l.all p)) S := by
  show (match boolsOf (l.map fun a => D.bl (p a)) with
    | some bs => Out.ok (D.bl (bs.all id)) S
    | none => .stuck) = _
  rw [bools_map]
  simp [List.all_map, Function.comp_def]
theorem f_any {α : Type} {p : α → Bool} {l : List α} : opF1 .any (.lst (l.map fun a => D.bl (p a))) S = .ok (.bl (l.any p)) S := by
  show (match boolsOf (l.map fun a => D.bl (p a)) with
    | some bs => Out.ok (D.bl (bs.any id)) S
    | none => .stuck) = _
  rw [bools_map]
  simp [List.any_map, Function.comp_def]
theorem ints_map : ∀ l : List Int, intsOf (l.map D.int) = some l
  | [] => rfl
  | i :: l => by
    rw [List.map_cons]
    unfold intsOf
    rw [ints_map l]
    rfl
theorem ints_mapf {α : Type} {f : α → Int} (l : List α) : intsOf (l.map fun a => D.int (f a)) = some (l.map f) := by
  have := ints_map (l.map f)
  rw [List.map_map] at this
  exact this
theorem f_sum {α : Type} {f : α → Int} {l : List α} : opF1 .sum (.lst (l.map fun a => D.int (f a))) S = .ok (.int (l.map f).sum) S := by
  show (match intsOf (l.map fun a => D.int (f a)) with
    | some ns => Out.ok (D.int ns.sum) S
    | none => .stuck) = _
  rw [ints_mapf]
theorem gc_cons {a b : Option Ob} : gc (a :: S).length Γ (b :: S) = .nx Γ (b :: S) := if_pos (Nat.le_refl _)
theorem mk_gen {kl : Nat → Option Kls} {df : Nat → Option Dfn} {N c ini : Nat} {as : List D} {fs : List (Nat × D)} (hk : kl c = some ⟨ini, true⟩) (h : lvl tb kl df N ini (.ref S.length :: as) (S ++ [some (.ins c [])]) = .ok .non (S ++ [some (.ins c fs)])) (hf : fs.map (·.1) = tb.cf c) : mkD tb kl (lvl tb kl df N) c as S = .ok (.obj c (fs.map (·.2))) (S ++ [none]) := by
  show (match kl c with
    | some k => (lvl tb kl df N k.ini (.ref S.length :: as) (S ++ [some (Ob.ins c [])])).bind fun d S1 => match d with
      | .non => if k.frz then frzI tb c S.length S1 else Out.ok (D.ref S.length) S1
      | _ => Out.stuck
    | none => Out.stuck) = _
  rw [hk]
  dsimp only
  rw [h, bind_ok]
  dsimp only
  show frzI tb c S.length (S ++ [some (.ins c fs)]) = _
  unfold frzI
  rw [h_get]
  dsimp only
  rw [if_pos ⟨rfl, hf⟩, h_set]
theorem mk_genX {kl : Nat → Option Kls} {df : Nat → Option Dfn} {N c ini e : Nat} {b : Bool} {xs as : List D} (hk : kl c = some ⟨ini, b⟩) (h : lvl tb kl df N ini (.ref S.length :: as) (S ++ [some (.ins c [])]) = .exn e xs T) : mkD tb kl (lvl tb kl df N) c as S = .exn e xs T := by
  show (match kl c with
    | some k => (lvl tb kl df N k.ini (.ref S.length :: as) (S ++ [some (Ob.ins c [])])).bind fun d S1 => match d with
      | .non => if k.frz then frzI tb c S.length S1 else Out.ok (D.ref S.length) S1
      | _ => Out.stuck
    | none => Out.stuck) = _
  rw [hk]
  dsimp only
  rw [h]
  rfl
theorem at0 {f c : Nat} {d : D} : setTg (.att 0 f c) d (some (.ref S.length) :: Γ) (S ++ [some (.ins c [])]) = some (some (.ref S.length) :: Γ, S ++ [some (.ins c (putFld f d []))]) := h_att (by decide)
theorem at1 {f c : Nat} {d : D} {p : Nat × D} : setTg (.att 0 f c) d (some (.ref S.length) :: Γ) (S ++ [some (.ins c [p])]) = some (some (.ref S.length) :: Γ, S ++ [some (.ins c (putFld f d [p]))]) := h_att (by simp)
theorem at2 {f c : Nat} {d : D} {p q : Nat × D} : setTg (.att 0 f c) d (some (.ref S.length) :: Γ) (S ++ [some (.ins c [p, q])]) = some (some (.ref S.length) :: Γ, S ++ [some (.ins c (putFld f d [p, q]))]) := h_att (by simp)
theorem at3 {f c : Nat} {d : D} {p q r : Nat × D} : setTg (.att 0 f c) d (some (.ref S.length) :: Γ) (S ++ [some (.ins c [p, q, r])]) = some (some (.ref S.length) :: Γ, S ++ [some (.ins c (putFld f d [p, q, r]))]) := h_att (by simp)
theorem at4 {f c : Nat} {d : D} {p q r s : Nat × D} : setTg (.att 0 f c) d (some (.ref S.length) :: Γ) (S ++ [some (.ins c [p, q, r, s])]) = some (some (.ref S.length) :: Γ, S ++ [some (.ins c (putFld f d [p, q, r, s]))]) := h_att (by simp)
def isI : D → Bool
  | .int _ => true
  | _ => false
def sgn : Str := "abcdefghijklmnopqrstuvwxyz0123456789"
theorem sgn_len : sgn.length = 36 := by decide +kernel
theorem sgn_l {k : Nat} (h : k < 26) : ∃ c, sgn.cps.toList[k]? = some c ∧ c ∈ letters := by
  have : ∀ k, k < 26 → ∃ c, sgn.cps.toList[k]? = some c ∧ c ∈ letters := by
    intro k hk
    have q : (List.range 26).all (fun k => match sgn.cps.toList[k]? with | some c => decide (c ∈ letters) | none => false) = true := by decide +kernel
    have := List.all_eq_true.mp q k (List.mem_range.mpr hk)
    cases h : sgn.cps.toList[k]? with
    | none => rw [h] at this; cases this
    | some c => rw [h] at this; exact ⟨c, rfl, of_decide_eq_true this⟩
  exact this k h
theorem sgn_c {k : Nat} (h : k < 36) : ∃ c, sgn.cps.toList[k]? = some c ∧ okC c = true := by
  have q : (List.range 36).all (fun k => match sgn.cps.toList[k]? with | some c => okC c | none => false) = true := by decide +kernel
  have := List.all_eq_true.mp q k (List.mem_range.mpr h)
  cases h : sgn.cps.toList[k]? with
  | none => rw [h] at this; cases this
  | some c => rw [h] at this; exact ⟨c, rfl, this⟩
theorem okL_app {l m : List Nat} (h : okL l = true) (hm : m.all okC = true) : okL (l ++ m) = true := by
  cases l with
  | nil => cases h
  | cons c r =>
    unfold okL at h ⊢
    rw [Bool.and_eq_true] at h
    simp only [List.cons_append]
    rw [Bool.and_eq_true]
    refine ⟨h.1, ?_⟩
    rw [← List.cons_append, List.all_append, h.2, hm]
    rfl
theorem str_toL {a b : Str} : (a ++ b).cps.toList = a.cps.toList ++ b.cps.toList := by
  show (a.cps ++ b.cps).toList = _
  simp
theorem str_len {a b : Str} : (a ++ b).length = a.length + b.length := by
  show (a.cps ++ b.cps).size = _
  simp [Str.length]
theorem str_lenL {a : Str} : a.length = a.cps.toList.length := by
  simp [Str.length]
theorem str_ext {a b : Str} (h : a.cps.toList = b.cps.toList) : a = b := by
  cases a
  cases b
  congr 1
  exact Array.toList_inj.mp h
/-- the numbers that end names -/
def digs (k : Nat) : Str := toString ((k : Nat) : Int)
theorem dig_str {k : Nat} (h : k < 400) : opF1 .str (.int (k : Nat)) S = .ok (.str (digs k)) S := by
  have q : ∀ k, k < 400 → ((k : Nat) : Int).natAbs.log2 < 1920 := fun k hk => by
    have : (k : Int).natAbs = k := by omega
    rw [this]
    rcases Nat.eq_zero_or_pos k with z | z
    · rw [z]; decide
    · exact (Nat.log2_lt (by omega)).mpr (Nat.lt_of_lt_of_le (Nat.lt_trans hk (by decide : 400 < 2 ^ 9)) (Nat.pow_le_pow_right (by decide) (by decide)))
  exact if_pos (q k h)
end
end Dn


set_option maxHeartbeats 4000000
namespace K09
open PySem PySem.Spec PyProof.Rows L2 Dn
abbrev prog : Program := PySem.Challenge.pw_searchedslopes_k09_errors
def top (i : Nat) : Stmt := prog.main.body.getD i (.Pass ⟨0, 0, 0, 0⟩)
def met (i j : Nat) : Stmt := (C8.clsBody (top i)).getD j (.Pass ⟨0, 0, 0, 0⟩)
def b0 : List T := [.ite (.cmp .gt (.idx (.var 0) (.cst (.int 3))) (.cst (.int 0))) [.asg (.nm 2) (.bin .mod (.b1 .int (.idx (.var 0) (.cst (.int 3)))) (.var 1)),
      .setI (.var 0) (.cst (.int 3)) (.bin .fdiv (.idx (.var 0) (.cst (.int 3))) (.var 1)),
      .ret (.var 2)] [],
    .setI (.var 0) (.cst (.int 1)) (.bin .add (.idx (.var 0) (.cst (.int 1))) (.cst (.int 1))),
    .ite (.cmp .gt (.idx (.var 0) (.cst (.int 1))) (.b1 .len (.idx (.var 0) (.cst (.int 0))))) [.setI (.var 0) (.cst (.int 2)) (.bin .mod (.b1 .int (.bin .add (.bin .mul (.idx (.var 0) (.cst (.int 2))) (.cst (.int 48271))) (.cst (.int 11)))) (.cst (.int 2147483647))),
      .ret (.bin .mod (.b1 .int (.bin .fdiv (.idx (.var 0) (.cst (.int 2))) (.cst (.int 7)))) (.var 1))] [],
    .asg (.nm 3) (.idx (.idx (.var 0) (.cst (.int 0))) (.bin .sub (.idx (.var 0) (.cst (.int 1))) (.cst (.int 1)))),
    .setI (.var 0) (.cst (.int 2)) (.bin .mod (.b1 .int (.bin .add (.bin .add (.bin .mul (.idx (.var 0) (.cst (.int 2))) (.cst (.int 48271))) (.var 3)) (.cst (.int 11)))) (.cst (.int 2147483647))),
    .ite (.cmp .ge (.var 3) (.bin .pow (.cst (.int 10)) (.cst (.int 18)))) [.setI (.var 0) (.cst (.int 3)) (.bin .fdiv (.var 3) (.var 1))] [],
    .ret (.bin .mod (.b1 .int (.var 3)) (.var 1))]
def f0 : FE := ⟨some ("_law_taken" : Str), ⟨("_law_taken", none), "_law_taken", "_law_taken", defArgs (top 13), defBody (top 13), defScope (top 13), [], []⟩, ⟨2, 4, b0⟩, ["row", "many", "found", "cell"], ["row", "many"]⟩
def b1 : List T := [.ret (.idx (.var 1) (.call 0 [(.var 0), (.b1 .len (.var 1))]))]
def f1 : FE := ⟨some ("_law_pick" : Str), ⟨("_law_pick", none), "_law_pick", "_law_pick", defArgs (top 14), defBody (top 14), defScope (top 14), [], []⟩, ⟨2, 2, b1⟩, ["row", "kinds"], ["row", "kinds"]⟩
def b2 : List T := [.ite (.isi (.var 1) [.tuple, .list]) [.ite (.bool false [(.not (.isi (.var 0) [.tuple, .list])), (.cmp .ne (.isi (.var 0) [.list]) (.isi (.var 1) [.list]))]) [.ret (.cst (.bl false))] [],
      .ite (.cmp .ne (.b1 .len (.var 0)) (.b1 .len (.var 1))) [.ret (.cst (.bl false))] [],
      .ret (.cmp .eq (.comp (.var 2) (.nm 2) (.rng [(.b1 .len (.var 1))]) [(.not (.call 2 [(.idx (.var 0) (.var 2)), (.idx (.var 1) (.var 2))]))]) (.disp []))] [],
    .ite (.bool false [(.isN false (.var 1)), (.isi (.var 1) [.str])]) [.ret (.bool true [(.cmp .eq (.var 0) (.var 1)), (.cmp .eq (.isi (.var 0) [.str]) (.isi (.var 1) [.str]))])] [],
    .ret (.bool true [(.isi (.var 0) [.int]), (.cmp .eq (.isi (.var 0) [.bool]) (.isi (.var 1) [.bool])), (.cmp .eq (.var 0) (.var 1))])]
def f2 : FE := ⟨some ("_law_alike" : Str), ⟨("_law_alike", none), "_law_alike", "_law_alike", defArgs (top 15), defBody (top 15), defScope (top 15), [], []⟩, ⟨2, 3, b2⟩, ["found", "due", "k"], ["found", "due"]⟩
def b3 : List T := [.tryx [.ite (.cmp .eq (.var 0) (.cst (.int 0))) [.raise 1 [(.var 1)]] [],
      .ite (.cmp .eq (.var 0) (.cst (.int 1))) [.raise 2 [(.var 1)]] [],
      .ite (.cmp .eq (.var 0) (.cst (.int 2))) [.raise 3 [(.var 1)]] [],
      .ite (.cmp .eq (.var 0) (.cst (.int 3))) [.raise 4 [(.var 1)]] [],
      .ite (.cmp .eq (.var 0) (.cst (.int 4))) [.raise 5 [(.var 1)]] [],
      .ite (.cmp .eq (.var 0) (.cst (.int 5))) [.raise 6 [(.var 1)]] [],
      .ite (.cmp .eq (.var 0) (.cst (.int 6))) [.raise 7 [(.var 1)]] [],
      .ite (.cmp .eq (.var 0) (.cst (.int 7))) [.raise 8 [(.var 1)]] [],
      .ite (.cmp .eq (.var 0) (.cst (.int 8))) [.raise 9 [(.var 1), (.var 2)]] [],
      .raise 10 []] [(0, some 3, [.asg (.nm 4) (.disp [(.eis 1), (.eis 2), (.eis 3), (.eis 4), (.eis 5)]),
      .asg (.nm 4) (.bin .add (.var 4) (.disp [(.eis 6), (.eis 7), (.eis 8), (.eis 9), (.eis 10)])),
      .ite (.bool false [(.not (.eib 0)), (.eib 1), (.eib 2)]) [.ret (.cst .non)] [],
      .asg (.nm 5) (.cst .non),
      .ite (.cmp .isin (.var 0) (.disp [(.cst (.int 0)), (.cst (.int 1)), (.cst (.int 3)), (.cst (.int 6)), (.cst (.int 7))])) [.asg (.nm 5) (.ef 0)] [],
      .ite (.cmp .eq (.var 0) (.cst (.int 2))) [.asg (.nm 5) (.ef 1)] [],
      .ite (.cmp .eq (.var 0) (.cst (.int 4))) [.asg (.nm 5) (.ef 2)] [],
      .ite (.cmp .eq (.var 0) (.cst (.int 5))) [.asg (.nm 5) (.ef 3)] [],
      .ite (.cmp .eq (.var 0) (.cst (.int 8))) [.asg (.nm 5) (.tup [(.ef 4), (.ef 5)])] [],
      .ret (.tup [(.var 4), (.var 5)])])]]
def f3 : FE := ⟨some ("_law_raised" : Str), ⟨("_law_raised", none), "_law_raised", "_law_raised", defArgs (top 16), defBody (top 16), defScope (top 16), [], []⟩, ⟨3, 6, b3⟩, ["number", "value", "named", "e", "kinds", "field"], ["number", "value", "named"]⟩
def b4 : List T := [.asg (.nm 1) (.new (.disp [(.var 0), (.cst (.int 0)), (.cst (.int 53)), (.cst (.int 0))])),
    .loop (.nm 2) (.rng [(.cst (.int 10))]) [.asg (.nm 3) (.call 1 [(.var 1), (.disp [(.cst .non), (.cst (.int 7)), (.cst (.str "x")), (.tup [(.cst (.int 1)), (.cst (.int 2))]), (.cst (.bl true)), (.call 0 [(.var 1), (.bin .pow (.cst (.int 10)) (.cst (.int 9)))])])]),
      .asg (.nm 4) (.call 1 [(.var 1), (.disp [(.tup []), (.tup [(.cst (.str "a"))])])]),
      .asg (.nm 5) (.call 3 [(.var 2), (.var 3), (.var 4)]),
      .ite (.bool false [(.isN false (.var 5)), (.cmp .ne (.idx (.var 5) (.cst (.int 0))) (.comp (.cmp .eq (.var 6) (.var 2)) (.nm 6) (.rng [(.cst (.int 10))]) []))]) [.ret (.cst (.bl false))] [],
      .asg (.nm 7) (.var 3),
      .ite (.cmp .eq (.var 2) (.cst (.int 8))) [.asg (.nm 7) (.tup [(.var 3), (.var 4)])] [],
      .ite (.bool true [(.cmp .lt (.var 2) (.cst (.int 9))), (.bool false [(.cmp .ne (.idx (.var 5) (.cst (.int 1))) (.var 7)), (.cmp .ne (.isi (.idx (.var 5) (.cst (.int 1))) [.bool]) (.isi (.var 7) [.bool]))])]) [.ret (.cst (.bl false))] []],
    .asg (.nm 8) (.disp [(.xat 1 [0] [(.cst (.int 1))] 0), (.xat 2 [0] [(.cst (.str "a"))] 0), (.xat 3 [0] [(.cst (.int 4))] 1), (.xat 4 [0] [(.cst (.int 5))] 0), (.xat 5 [0] [(.cst (.int 6))] 2)]),
    .asg (.nm 8) (.bin .add (.var 8) (.disp [(.xat 6 [0] [(.cst (.int 7))] 3), (.xat 7 [0] [(.cst (.int 8))] 0), (.xat 8 [0] [(.cst (.int 9))] 0), (.xat 9 [0, 1] [(.cst (.str "r")), (.cst (.int 11))] 5), (.xat 9 [1, 0] [(.cst (.int 1)), (.cst (.str "s"))] 4)])),
    .ret (.call 2 [(.var 8), (.disp [(.cst (.int 1)), (.cst (.str "a")), (.cst (.int 4)), (.cst (.int 5)), (.cst (.int 6)), (.cst (.int 7)), (.cst (.int 8)), (.cst (.int 9)), (.cst (.int 11)), (.cst (.str "s"))])])]
def f4 : FE := ⟨some ("law" : Str), ⟨("law", none), "law", "law", defArgs (top 17), defBody (top 17), defScope (top 17), [], []⟩, ⟨1, 9, b4⟩, ["script", "row", "number", "value", "named", "told", "k", "due", "made"], ["script"]⟩
def c0 : CE := { x := "SlopeError", plain := false, cf := [], mts := [], ini := none, xd := none, xf := [], sup := [0], cc := true, x0 := false, bas := [], xi := false }
def c1 : CE := { x := "BadNumber", plain := false, cf := [], mts := [], ini := none, xd := some ⟨"BadNumber", "BadNumber.__init__", defArgs (met 2 0), defBody (met 2 0), defScope (met 2 0), ["value"], ["value"]⟩, xf := [0], sup := [1, 0], cc := false, x0 := false, bas := [0], xi := true }
def c2 : CE := { x := "BadName", plain := false, cf := [], mts := [], ini := none, xd := some ⟨"BadName", "BadName.__init__", defArgs (met 3 0), defBody (met 3 0), defScope (met 3 0), ["value"], ["value"]⟩, xf := [0], sup := [2, 0], cc := false, x0 := false, bas := [0], xi := true }
def c3 : CE := { x := "BadItem", plain := false, cf := [], mts := [], ini := none, xd := some ⟨"BadItem", "BadItem.__init__", defArgs (met 4 0), defBody (met 4 0), defScope (met 4 0), ["index"], ["index"]⟩, xf := [1], sup := [3, 0], cc := false, x0 := false, bas := [0], xi := true }
def c4 : CE := { x := "BadEvent", plain := false, cf := [], mts := [], ini := none, xd := some ⟨"BadEvent", "BadEvent.__init__", defArgs (met 5 0), defBody (met 5 0), defScope (met 5 0), ["value"], ["value"]⟩, xf := [0], sup := [4, 0], cc := false, x0 := false, bas := [0], xi := true }
def c5 : CE := { x := "BadNote", plain := false, cf := [], mts := [], ini := none, xd := some ⟨"BadNote", "BadNote.__init__", defArgs (met 6 0), defBody (met 6 0), defScope (met 6 0), ["line"], ["line"]⟩, xf := [2], sup := [5, 0], cc := false, x0 := false, bas := [0], xi := true }
def c6 : CE := { x := "TooMany", plain := false, cf := [], mts := [], ini := none, xd := some ⟨"TooMany", "TooMany.__init__", defArgs (met 7 0), defBody (met 7 0), defScope (met 7 0), ["limit"], ["limit"]⟩, xf := [3], sup := [6, 0], cc := false, x0 := false, bas := [0], xi := true }
def c7 : CE := { x := "Unknown", plain := false, cf := [], mts := [], ini := none, xd := some ⟨"Unknown", "Unknown.__init__", defArgs (met 8 0), defBody (met 8 0), defScope (met 8 0), ["value"], ["value"]⟩, xf := [0], sup := [7, 0], cc := false, x0 := false, bas := [0], xi := true }
def c8 : CE := { x := "Taken", plain := false, cf := [], mts := [], ini := none, xd := some ⟨"Taken", "Taken.__init__", defArgs (met 9 0), defBody (met 9 0), defScope (met 9 0), ["value"], ["value"]⟩, xf := [0], sup := [8, 0], cc := false, x0 := false, bas := [0], xi := true }
def c9 : CE := { x := "Refused", plain := false, cf := [], mts := [], ini := none, xd := some ⟨"Refused", "Refused.__init__", defArgs (met 10 0), defBody (met 10 0), defScope (met 10 0), ["reason", "names"], ["reason", "names"]⟩, xf := [4, 5], sup := [9, 0], cc := false, x0 := false, bas := [0], xi := true }
def c10 : CE := { x := "NothingToUndo", plain := false, cf := [], mts := [], ini := none, xd := none, xf := [], sup := [10, 0], cc := false, x0 := true, bas := [0], xi := true }
def pt : PT := ⟨[f0, f1, f2, f3, f4], [c0, c1, c2, c3, c4, c5, c6, c7, c8, c9, c10], ["value", "index", "line", "limit", "reason", "names"], [], [], [(1, [0]), (2, [0]), (3, [0]), (4, [0]), (5, [0]), (6, [0]), (7, [0]), (8, [0]), (9, [0, 1]), (9, [1, 0])], true⟩
theorem bf : ∀ (i : Nat) (e : FE), pt.fns[i]? = some e → BindP e.d.params e.ps := by
  intro i e h
  match i, h with
  | 0, h => cases h; exact fun _ _ _ _ _ _ _ _ _ _ _ _ _ us hl => match us, hl with | [_, _], _ => rfl
  | 1, h => cases h; exact fun _ _ _ _ _ _ _ _ _ _ _ _ _ us hl => match us, hl with | [_, _], _ => rfl
  | 2, h => cases h; exact fun _ _ _ _ _ _ _ _ _ _ _ _ _ us hl => match us, hl with | [_, _], _ => rfl
  | 3, h => cases h; exact fun _ _ _ _ _ _ _ _ _ _ _ _ _ us hl => match us, hl with | [_, _, _], _ => rfl
  | 4, h => cases h; exact fun _ _ _ _ _ _ _ _ _ _ _ _ _ us hl => match us, hl with | [_], _ => rfl
  | _ + 5, h => cases h
theorem bx : ∀ (i : Nat) (e : CE) (d : XD), pt.cls[i]? = some e → e.xd = some d → BindP d.params (("self" : Str) :: d.ps) := by
  intro i e d h hd
  match i, h with
  | 0, h => cases h; cases hd
  | 1, h => cases h; cases hd; exact fun _ _ _ _ _ _ _ _ _ _ _ _ _ us hl => match us, hl with | [_, _], _ => rfl
  | 2, h => cases h; cases hd; exact fun _ _ _ _ _ _ _ _ _ _ _ _ _ us hl => match us, hl with | [_, _], _ => rfl
  | 3, h => cases h; cases hd; exact fun _ _ _ _ _ _ _ _ _ _ _ _ _ us hl => match us, hl with | [_, _], _ => rfl
  | 4, h => cases h; cases hd; exact fun _ _ _ _ _ _ _ _ _ _ _ _ _ us hl => match us, hl with | [_, _], _ => rfl
  | 5, h => cases h; cases hd; exact fun _ _ _ _ _ _ _ _ _ _ _ _ _ us hl => match us, hl with | [_, _], _ => rfl
  | 6, h => cases h; cases hd; exact fun _ _ _ _ _ _ _ _ _ _ _ _ _ us hl => match us, hl with | [_, _], _ => rfl
  | 7, h => cases h; cases hd; exact fun _ _ _ _ _ _ _ _ _ _ _ _ _ us hl => match us, hl with | [_, _], _ => rfl
  | 8, h => cases h; cases hd; exact fun _ _ _ _ _ _ _ _ _ _ _ _ _ us hl => match us, hl with | [_, _], _ => rfl
  | 9, h => cases h; cases hd; exact fun _ _ _ _ _ _ _ _ _ _ _ _ _ us hl => match us, hl with | [_, _, _], _ => rfl
  | 10, h => cases h; cases hd
  | _ + 11, h => cases h
theorem bk : ∀ (i : Nat) (q : Nat × List Nat) (e : CE) (d : XD), pt.kws[i]? = some q → pt.cls[q.1]? = some e → e.xd = some d → BindK d.params d.ps q.2 := by
  intro i q e d h h1 h2
  match i, h with
  | 0, h => cases h; cases h1; cases h2; exact fun _ _ _ _ _ _ _ _ _ _ _ _ _ us ws hl hw => match us, hl, ws, hw with | [_], _, [_], _ => rfl
  | 1, h => cases h; cases h1; cases h2; exact fun _ _ _ _ _ _ _ _ _ _ _ _ _ us ws hl hw => match us, hl, ws, hw with | [_], _, [_], _ => rfl
  | 2, h => cases h; cases h1; cases h2; exact fun _ _ _ _ _ _ _ _ _ _ _ _ _ us ws hl hw => match us, hl, ws, hw with | [_], _, [_], _ => rfl
  | 3, h => cases h; cases h1; cases h2; exact fun _ _ _ _ _ _ _ _ _ _ _ _ _ us ws hl hw => match us, hl, ws, hw with | [_], _, [_], _ => rfl
  | 4, h => cases h; cases h1; cases h2; exact fun _ _ _ _ _ _ _ _ _ _ _ _ _ us ws hl hw => match us, hl, ws, hw with | [_], _, [_], _ => rfl
  | 5, h => cases h; cases h1; cases h2; exact fun _ _ _ _ _ _ _ _ _ _ _ _ _ us ws hl hw => match us, hl, ws, hw with | [_], _, [_], _ => rfl
  | 6, h => cases h; cases h1; cases h2; exact fun _ _ _ _ _ _ _ _ _ _ _ _ _ us ws hl hw => match us, hl, ws, hw with | [_], _, [_], _ => rfl
  | 7, h => cases h; cases h1; cases h2; exact fun _ _ _ _ _ _ _ _ _ _ _ _ _ us ws hl hw => match us, hl, ws, hw with | [_], _, [_], _ => rfl
  | 8, h => cases h; cases h1; cases h2; exact fun _ _ _ _ _ _ _ _ _ _ _ _ _ us ws hl hw => match us, hl, ws, hw with | [_], _, [_, _], _ => rfl
  | 9, h => cases h; cases h1; cases h2; exact fun _ _ _ _ _ _ _ _ _ _ _ _ _ us ws hl hw => match us, hl, ws, hw with | [_], _, [_, _], _ => rfl
  | _ + 10, h => cases h
theorem st : pt.stB prog = true := by decide +kernel
noncomputable abbrev Lv (n f : Nat) (ds : List D) (S : Store) : Out D := lvl pt.tb pt.kl pt.df n f ds S
noncomputable def cal (n : Nat) : Cal := { has := fun f => (pt.df f).isSome, call := lvl pt.tb pt.kl pt.df (n + 2), make := mkD pt.tb pt.kl (lvl pt.tb pt.kl pt.df (n + 1)), eqc := lvl pt.tb pt.kl pt.df (n + 1) }
theorem cal_make {n : Nat} : (cal n).make = mkD pt.tb pt.kl (lvl pt.tb pt.kl pt.df (n + 1)) := rfl
theorem cal_eqc {n f : Nat} {ds : List D} {S : Store} : (cal (n + 2)).eqc f ds S = Lv (n + 3) f ds S := rfl
theorem cal_call {n f : Nat} {ds : List D} {S : Store} : (cal (n + 1)).call f ds S = Lv (n + 3) f ds S := rfl
theorem lv0 {n : Nat} {x0 x1 : D} {S : Store} : Lv (n + 3) 0 [x0, x1] S = trim S.length (denB pt.tb (cal n) b0 [some x0, some x1, none, none] S) := (show Lv (n + 3) 0 [x0, x1] S = runD pt.tb (cal n) ⟨2, 4, b0⟩ [x0, x1] S from lvl_eq rfl).trans (if_pos rfl)
theorem lv1 {n : Nat} {x0 x1 : D} {S : Store} : Lv (n + 3) 1 [x0, x1] S = trim S.length (denB pt.tb (cal n) b1 [some x0, some x1] S) := (show Lv (n + 3) 1 [x0, x1] S = runD pt.tb (cal n) ⟨2, 2, b1⟩ [x0, x1] S from lvl_eq rfl).trans (if_pos rfl)
theorem lv2 {n : Nat} {x0 x1 : D} {S : Store} : Lv (n + 3) 2 [x0, x1] S = trim S.length (denB pt.tb (cal n) b2 [some x0, some x1, none] S) := (show Lv (n + 3) 2 [x0, x1] S = runD pt.tb (cal n) ⟨2, 3, b2⟩ [x0, x1] S from lvl_eq rfl).trans (if_pos rfl)
theorem lv3 {n : Nat} {x0 x1 x2 : D} {S : Store} : Lv (n + 3) 3 [x0, x1, x2] S = trim S.length (denB pt.tb (cal n) b3 [some x0, some x1, some x2, none, none, none] S) := (show Lv (n + 3) 3 [x0, x1, x2] S = runD pt.tb (cal n) ⟨3, 6, b3⟩ [x0, x1, x2] S from lvl_eq rfl).trans (if_pos rfl)
theorem lv4 {n : Nat} {x0 : D} {S : Store} : Lv (n + 3) 4 [x0] S = trim S.length (denB pt.tb (cal n) b4 [some x0, none, none, none, none, none, none, none, none] S) := (show Lv (n + 3) 4 [x0] S = runD pt.tb (cal n) ⟨1, 9, b4⟩ [x0] S from lvl_eq rfl).trans (if_pos rfl)
theorem xl0 : (0 = (pt.tb.xf 0).length) = True := eq_true rfl
theorem xl1 : (1 = (pt.tb.xf 1).length) = True := eq_true rfl
theorem xl2 : (1 = (pt.tb.xf 2).length) = True := eq_true rfl
theorem xl3 : (1 = (pt.tb.xf 3).length) = True := eq_true rfl
theorem xl4 : (1 = (pt.tb.xf 4).length) = True := eq_true rfl
theorem xl5 : (1 = (pt.tb.xf 5).length) = True := eq_true rfl
theorem xl6 : (1 = (pt.tb.xf 6).length) = True := eq_true rfl
theorem xl7 : (1 = (pt.tb.xf 7).length) = True := eq_true rfl
theorem xl8 : (1 = (pt.tb.xf 8).length) = True := eq_true rfl
theorem xl9 : (2 = (pt.tb.xf 9).length) = True := eq_true rfl
theorem xl10 : (0 = (pt.tb.xf 10).length) = True := eq_true rfl
end K09


set_option maxHeartbeats 4000000
local macro_rules
  | `(tactic| dsimp! [$xs,*] $[$l:location]?) => `(tactic| simp only [Dn.bk_ok, Dn.bk_exn, Dn.sk_ok, Dn.sk_exn, Dn.tk_nx, Dn.tk_rt, Dn.tk_exn, Dn.st_ok, Dn.st_exn, Dn.then_nx, Dn.then_rt, Dn.then_exn, Dn.rd0, Dn.rdS, Dn.tgNm, Dn.tgTup, Dn.tgsN, Dn.tgsC, Dn.optS, Dn.v_var, Dn.v_cst, Dn.v_fnv, Dn.v_bin, Dn.v_neg, Dn.v_cmp, Dn.v_cmp2, Dn.v_isN, Dn.v_bool, Dn.v_not, Dn.v_ite, Dn.v_tup, Dn.v_disp, Dn.v_comp, Dn.v_lrng, Dn.v_new, Dn.v_idx, Dn.v_slice, Dn.v_attr, Dn.v_ef, Dn.l_blist, Dn.v_blist, Dn.v_b1, Dn.v_mx, Dn.v_bm, Dn.v_isi, Dn.v_call, Dn.v_mk, Dn.v_meth, Dn.v_glc, Dn.i_glc, Dn.v_dget, Dn.t_din, Dn.v_din, Dn.v_dix, Dn.t_ceq, Dn.v_ceq, Dn.v_m1, Dn.l_sorted, Dn.v_sorted, Dn.i_sorted, Dn.v_callv, Dn.l_disp, Dn.l_lrng, Dn.t_var, Dn.t_cst, Dn.t_bin, Dn.t_idx, Dn.t_slice, Dn.t_attr, Dn.t_isi, Dn.t_call, Dn.t_callv, Dn.t_meth, Dn.t_b1, Dn.t_cmp, Dn.t_cmp2, Dn.t_isN, Dn.t_bool, Dn.t_not, Dn.t_disp, Dn.t_comp, Dn.i_var, Dn.i_cst, Dn.i_bin, Dn.i_tup, Dn.i_idx, Dn.i_slice, Dn.i_attr, Dn.i_call, Dn.i_meth, Dn.i_disp, Dn.i_comp, Dn.i_rng, Dn.i_enum, Dn.i_zip, Dn.a_nil, Dn.a_cons, Dn.bt_one, Dn.bt_cons, Dn.bv_one, Dn.bv_cons, Dn.o_nil, Dn.o_one, Dn.x_nil, Dn.x_one, Dn.s_nil, Dn.s_cons, Dn.s_asg, Dn.s_par, Dn.s_setI, Dn.s_setA, Dn.s_aug, Dn.s_ex, Dn.s_ite, Dn.s_ret, Dn.s_retN, Dn.s_raise, Dn.s_pass, Dn.s_frz, Dn.turn_eq, Dn.nc_0, Dn.nc_1, Dn.nc_2, Dn.nc_3, Dn.nc_4, Dn.nc_5, Dn.nc_6, Dn.nc_7, Dn.nc_8, Dn.nc_9, Dn.nc_10, Dn.nc_11, Dn.nc_12, Dn.nc_13, Dn.nc_14, Dn.nc_15, Dn.nc_16, Dn.nc_17, Dn.nc_18, Dn.nc_19, Dn.setPar2, Dn.le_0, Dn.le_1, Dn.le_2, Dn.le_3, Dn.le_4, Dn.le_5, Dn.le_6, Dn.le_7, Dn.le_8, Dn.le_9, Dn.le_10, Dn.le_11, Dn.le_12, Dn.le_13, Dn.le_14, Dn.le_15, Dn.le_16, Dn.le_17, Dn.le_18, Dn.le_19, Dn.op_add, Dn.op_sub, Dn.op_neg, Dn.op_lt, Dn.op_le, Dn.op_gt, Dn.op_ge, Dn.op_eqi, Dn.op_nei, Dn.op_eq2, Dn.op_ne2, Dn.op_eqb, Dn.op_neb, Dn.tr_bl, Dn.tr_int, Dn.tr_non, Dn.tr_lst, Dn.tr_tup, Dn.f_int, Dn.f_abs, Dn.f_lent, Dn.f_lenl, Dn.f_tupl, Dn.f_tupt, Dn.sq_tup, Dn.sq_lst, Dn.ix_t0, Dn.ix_t1, Dn.ix_l0, Dn.ix_l1, Dn.sr_tup, Dn.sr_lst, Dn.isi_int, Dn.isi_bl, Dn.isi_tup, Dn.isi_lst, Dn.isi_str, Dn.isi_non, Dn.fl_nil, Dn.whileN, Dn.whileL, Dn.dNew, Dn.sl_1, Dn.oi_int, Dn.compL, Dn.compH, Dn.ct_nm, Dn.bind_ok, Dn.bind_exn, ↓reduceIte, ne_eq, reduceCtorEq, not_false_eq_true, Bool.not_true, Bool.not_false, beq_self_eq_true, List.set_cons_zero, List.set_cons_succ, List.length_cons, List.length_nil, List.any_cons, List.any_nil, Bool.or_false, Bool.or_true, Bool.true_or, Bool.false_or, Bool.and_true, Bool.true_and, Bool.and_false, Bool.false_and, Bool.true_beq, Bool.false_beq, Bool.not_eq_true, Bool.bne_true, Bool.bne_false, Dn.Ty.ofD, Bool.false_eq_true, List.isEmpty_nil, List.isEmpty_cons, List.nil_append, List.cons_append, decide_true, decide_false, Option.bind_some, Nat.le_refl, Int.reduceAdd, Int.reduceSub, Int.reduceNeg, Int.reduceMul, Nat.reduceAdd, K09.cal_call, K09.cal_eqc, K09.xl0, K09.xl1, K09.xl2, K09.xl3, K09.xl4, K09.xl5, K09.xl6, K09.xl7, K09.xl8, K09.xl9, K09.xl10, $xs,*] $[$l:location]?)
namespace K09
open PySem Dn
section
variable {n : Nat} {S : Store}
theorem cal_has {f : Nat} : (cal n).has f = (pt.df f).isSome := rfl
theorem s_taken {ns : List Int} {i z r m : Int} (hi : 0 ≤ i) (hm : 0 < m) (hb : m < big) :
    ∃ v i' z' r' : Int, 0 ≤ v ∧ v < m ∧ 0 ≤ i' ∧ Lv (n + 3) 0 [.ref 0, .int m] (RS ns i z r :: S) = .ok (.int v) (RS ns i' z' r' :: S) := by
  obtain ⟨v, i', z', r', h1, h2, h3, h4⟩ := taken (tb := pt.tb) (cl := cal n) (S := S) (ns := ns) (i := i) (z := z) (r := r) (m := m) hi hm hb
  exact ⟨v, i', z', r', h1, h2, h3, by rw [lv0]; exact h4⟩
/-- .. as a natural number -/
theorem s_takenN {ns : List Int} {i z r : Int} (m : Nat) (hi : 0 ≤ i) (hm : 0 < m) (hb : m < 1000000) :
    ∃ (v : Nat) (i' z' r' : Int), v < m ∧ 0 ≤ i' ∧ Lv (n + 3) 0 [.ref 0, .int (m : Nat)] (RS ns i z r :: S) = .ok (.int (v : Nat)) (RS ns i' z' r' :: S) := by
  obtain ⟨v, i', z', r', h1, h2, h3, h4⟩ := s_taken (n := n) (S := S) (ns := ns) (i := i) (z := z) (r := r) (m := (m : Nat)) hi (by omega) (by unfold big; omega)
  refine ⟨v.toNat, i', z', r', by omega, h3, ?_⟩
  rw [h4, Int.toNat_of_nonneg h1]
theorem s_pick {ns : List Int} {i z r : Int} {xs : List D} (hi : 0 ≤ i) (hx : xs ≠ []) (hb : xs.length < 1000) :
    ∃ d ∈ xs, ∃ i' z' r' : Int, 0 ≤ i' ∧ Lv (n + 4) 1 [.ref 0, .lst xs] (RS ns i z r :: S) = .ok d (RS ns i' z' r' :: S) := by
  have hp := List.length_pos_iff.mpr hx
  obtain ⟨v, i', z', r', h1, h3, h4⟩ := s_takenN (n := n) (S := S) (ns := ns) (i := i) (z := z) (r := r) xs.length hi (by omega) (by omega)
  refine ⟨xs[v], List.getElem_mem h1, i', z', r', h3, ?_⟩
  rw [lv1]; unfold b1
  have hix : opIdx (.lst xs) (.int (v : Nat)) (RS ns i' z' r' :: S) = .ok xs[v] (RS ns i' z' r' :: S) := ix_seq (n := v) rfl (fun _ h => by cases h) rfl (List.getElem?_eq_getElem h1)
  dsimp! [cal_call, h4, hix]
  exact trim_rt (Nat.le_refl _)
theorem s_alike {d : D} (m k : Nat) (h : sane m d = true) : Lv (m + k + 3) 2 [d, d] S = .ok (.bl true) S := alike_at (f := 2) rfl m k _ rfl h
/-- what the law's test of likeness says of equal data -/
theorem ak {d : D} (m N : Nat) (hm : m + 3 ≤ N) (h : sane m d = true) : Lv N 2 [d, d] S = .ok (.bl true) S := by
  have := s_alike (S := S) m (N - m - 3) h
  rw [show m + (N - m - 3) + 3 = N by omega] at this
  exact this
end
end K09


set_option maxHeartbeats 4000000
local macro_rules
  | `(tactic| dsimp! [$xs,*] $[$l:location]?) => `(tactic| simp only [Dn.bk_ok, Dn.bk_exn, Dn.sk_ok, Dn.sk_exn, Dn.tk_nx, Dn.tk_rt, Dn.tk_exn, Dn.st_ok, Dn.st_exn, Dn.then_nx, Dn.then_rt, Dn.then_exn, Dn.rd0, Dn.rdS, Dn.tgNm, Dn.tgTup, Dn.tgsN, Dn.tgsC, Dn.optS, Dn.v_var, Dn.v_cst, Dn.v_fnv, Dn.v_bin, Dn.v_neg, Dn.v_cmp, Dn.v_cmp2, Dn.v_isN, Dn.v_bool, Dn.v_not, Dn.v_ite, Dn.v_tup, Dn.v_disp, Dn.v_comp, Dn.v_lrng, Dn.v_new, Dn.v_idx, Dn.v_slice, Dn.v_attr, Dn.v_ef, Dn.l_blist, Dn.v_blist, Dn.v_b1, Dn.v_mx, Dn.v_bm, Dn.v_isi, Dn.v_call, Dn.v_mk, Dn.v_meth, Dn.v_glc, Dn.i_glc, Dn.v_dget, Dn.t_din, Dn.v_din, Dn.v_dix, Dn.t_ceq, Dn.v_ceq, Dn.v_m1, Dn.l_sorted, Dn.v_sorted, Dn.i_sorted, Dn.v_callv, Dn.l_disp, Dn.l_lrng, Dn.t_var, Dn.t_cst, Dn.t_bin, Dn.t_idx, Dn.t_slice, Dn.t_attr, Dn.t_isi, Dn.t_call, Dn.t_callv, Dn.t_meth, Dn.t_b1, Dn.t_cmp, Dn.t_cmp2, Dn.t_isN, Dn.t_bool, Dn.t_not, Dn.t_disp, Dn.t_comp, Dn.i_var, Dn.i_cst, Dn.i_bin, Dn.i_tup, Dn.i_idx, Dn.i_slice, Dn.i_attr, Dn.i_call, Dn.i_meth, Dn.i_disp, Dn.i_comp, Dn.i_rng, Dn.i_enum, Dn.i_zip, Dn.a_nil, Dn.a_cons, Dn.bt_one, Dn.bt_cons, Dn.bv_one, Dn.bv_cons, Dn.o_nil, Dn.o_one, Dn.x_nil, Dn.x_one, Dn.s_nil, Dn.s_cons, Dn.s_asg, Dn.s_par, Dn.s_setI, Dn.s_setA, Dn.s_aug, Dn.s_ex, Dn.s_ite, Dn.s_ret, Dn.s_retN, Dn.s_raise, Dn.s_pass, Dn.s_frz, Dn.turn_eq, Dn.nc_0, Dn.nc_1, Dn.nc_2, Dn.nc_3, Dn.nc_4, Dn.nc_5, Dn.nc_6, Dn.nc_7, Dn.nc_8, Dn.nc_9, Dn.nc_10, Dn.nc_11, Dn.nc_12, Dn.nc_13, Dn.nc_14, Dn.nc_15, Dn.nc_16, Dn.nc_17, Dn.nc_18, Dn.nc_19, Dn.setPar2, Dn.le_0, Dn.le_1, Dn.le_2, Dn.le_3, Dn.le_4, Dn.le_5, Dn.le_6, Dn.le_7, Dn.le_8, Dn.le_9, Dn.le_10, Dn.le_11, Dn.le_12, Dn.le_13, Dn.le_14, Dn.le_15, Dn.le_16, Dn.le_17, Dn.le_18, Dn.le_19, Dn.op_add, Dn.op_sub, Dn.op_neg, Dn.op_lt, Dn.op_le, Dn.op_gt, Dn.op_ge, Dn.op_eqi, Dn.op_nei, Dn.op_eq2, Dn.op_ne2, Dn.op_eqb, Dn.op_neb, Dn.tr_bl, Dn.tr_int, Dn.tr_non, Dn.tr_lst, Dn.tr_tup, Dn.f_int, Dn.f_abs, Dn.f_lent, Dn.f_lenl, Dn.f_tupl, Dn.f_tupt, Dn.sq_tup, Dn.sq_lst, Dn.ix_t0, Dn.ix_t1, Dn.ix_l0, Dn.ix_l1, Dn.sr_tup, Dn.sr_lst, Dn.isi_int, Dn.isi_bl, Dn.isi_tup, Dn.isi_lst, Dn.isi_str, Dn.isi_non, Dn.fl_nil, Dn.whileN, Dn.whileL, Dn.dNew, Dn.sl_1, Dn.oi_int, Dn.compL, Dn.compH, Dn.ct_nm, Dn.bind_ok, Dn.bind_exn, ↓reduceIte, ne_eq, reduceCtorEq, not_false_eq_true, Bool.not_true, Bool.not_false, beq_self_eq_true, List.set_cons_zero, List.set_cons_succ, List.length_cons, List.length_nil, List.any_cons, List.any_nil, Bool.or_false, Bool.or_true, Bool.true_or, Bool.false_or, Bool.and_true, Bool.true_and, Bool.and_false, Bool.false_and, Bool.true_beq, Bool.false_beq, Bool.not_eq_true, Bool.bne_true, Bool.bne_false, Dn.Ty.ofD, Bool.false_eq_true, List.isEmpty_nil, List.isEmpty_cons, List.nil_append, List.cons_append, decide_true, decide_false, Option.bind_some, Nat.le_refl, Int.reduceAdd, Int.reduceSub, Int.reduceNeg, Int.reduceMul, Nat.reduceAdd, K09.cal_call, K09.xl1, K09.xl2, K09.xl3, K09.xl4, K09.xl5, K09.xl6, K09.xl7, K09.xl8, K09.xl9, K09.xl10, $xs,*] $[$l:location]?)
namespace K09
open PySem Dn
section
variable {n : Nat} {S : Store}
def kd (k : Nat) : D := .lst ((List.range 10).map fun j : Nat => .bl (((j : Nat) : Int) == ((k : Nat) : Int)))
def fd (k : Nat) (v w : D) : D := if k = 8 then .tup [v, w] else if k = 9 then .non else v
def hB : List T := [.asg (.nm 4) (.disp [(.eis 1), (.eis 2), (.eis 3), (.eis 4), (.eis 5)]),
      .asg (.nm 4) (.bin .add (.var 4) (.disp [(.eis 6), (.eis 7), (.eis 8), (.eis 9), (.eis 10)])),
      .ite (.bool false [(.not (.eib 0)), (.eib 1), (.eib 2)]) [.ret (.cst .non)] [],
      .asg (.nm 5) (.cst .non),
      .ite (.cmp .isin (.var 0) (.disp [(.cst (.int 0)), (.cst (.int 1)), (.cst (.int 3)), (.cst (.int 6)), (.cst (.int 7))])) [.asg (.nm 5) (.ef 0)] [],
      .ite (.cmp .eq (.var 0) (.cst (.int 2))) [.asg (.nm 5) (.ef 1)] [],
      .ite (.cmp .eq (.var 0) (.cst (.int 4))) [.asg (.nm 5) (.ef 2)] [],
      .ite (.cmp .eq (.var 0) (.cst (.int 5))) [.asg (.nm 5) (.ef 3)] [],
      .ite (.cmp .eq (.var 0) (.cst (.int 8))) [.asg (.nm 5) (.tup [(.ef 4), (.ef 5)])] [],
      .ret (.tup [(.var 4), (.var 5)])]
theorem v_eis {tb : Tab} {cl : Cal} {Γ : Vars} {c : Nat} {xs : List D} {k : Nat} (h : cl.err = some (c, xs)) : (den tb cl (.eis k)).v Γ S = .ok (.bl (tb.sub c k)) S := by
  show (match cl.err with
      | some (c, _) => Out.ok (D.bl (tb.sub c k)) S
      | none => .stuck) = _
  rw [h]
theorem v_eib {tb : Tab} {cl : Cal} {Γ : Vars} {c : Nat} {xs : List D} {k : Nat} (h : cl.err = some (c, xs)) : (den tb cl (.eib k)).v Γ S = .ok (.bl (tb.xb c k)) S := by
  show (match cl.err with
      | some (c, _) => Out.ok (D.bl (tb.xb c k)) S
      | none => .stuck) = _
  rw [h]
theorem t_eib {tb : Tab} {cl : Cal} {Γ : Vars} {c : Nat} {xs : List D} {k : Nat} (h : cl.err = some (c, xs)) : (den tb cl (.eib k)).t Γ S = .ok (tb.xb c k) S := by
  show ((den tb cl (.eib k)).v Γ S).bind truth = _
  rw [v_eib h]
  rfl
theorem v_efc {tb : Tab} {cl : Cal} {Γ : Vars} {c : Nat} {xs : List D} {k : Nat} {d : D} (h : cl.err = some (c, xs)) (hd : fieldAt (tb.xf c) xs k = some d) : (den tb cl (.ef k)).v Γ S = .ok d S := by
  rw [v_ef, h]
  dsimp only
  rw [hd]
theorem ha {a b c d e f g h i j : D} : opBin .add (.lst [a, b, c, d, e]) (.lst [f, g, h, i, j]) S = .ok (.lst [a, b, c, d, e, f, g, h, i, j]) S := op_addl (by unfold lineD; simp)
section
variable {v w : D} {cl : Cal} {x3 x4 x5 : Option D}
theorem h_0 (hc : cl.err = some (1, [v])) : denB pt.tb cl hB [some (.int 0), some v, some w, x3, x4, x5] S = .rt (.tup [kd 0, v]) S := by
  have e1 := fun Γ j => v_eis (S := S) (tb := pt.tb) (Γ := Γ) (k := j) hc
  have e2 := fun Γ j => t_eib (S := S) (tb := pt.tb) (Γ := Γ) (k := j) hc
  have x0 : pt.tb.xb 1 0 = true := by decide
  have x1 : pt.tb.xb 1 1 = false := by decide
  have x2 : pt.tb.xb 1 2 = false := by decide
  have hin : opCmp .isin (.int 0) (.lst [.int 0, .int 1, .int 3, .int 6, .int 7]) S = .ok true S := rfl
  have q2 : opCmp .eq (.int 0) (.int 2) S = .ok false S := rfl
  have q4 : opCmp .eq (.int 0) (.int 4) S = .ok false S := rfl
  have q5 : opCmp .eq (.int 0) (.int 5) S = .ok false S := rfl
  have q8 : opCmp .eq (.int 0) (.int 8) S = .ok false S := rfl
  have f1 : fieldAt (pt.tb.xf 1) [v] 0 = some v := rfl
  unfold hB
  dsimp! [e1, e2, ha, x0, x1, x2, hin, q2, q4, q5, q8, hc, f1]
  rfl
theorem h_1 (hc : cl.err = some (2, [v])) : denB pt.tb cl hB [some (.int 1), some v, some w, x3, x4, x5] S = .rt (.tup [kd 1, v]) S := by
  have e1 := fun Γ j => v_eis (S := S) (tb := pt.tb) (Γ := Γ) (k := j) hc
  have e2 := fun Γ j => t_eib (S := S) (tb := pt.tb) (Γ := Γ) (k := j) hc
  have x0 : pt.tb.xb 2 0 = true := by decide
  have x1 : pt.tb.xb 2 1 = false := by decide
  have x2 : pt.tb.xb 2 2 = false := by decide
  have hin : opCmp .isin (.int 1) (.lst [.int 0, .int 1, .int 3, .int 6, .int 7]) S = .ok true S := rfl
  have q2 : opCmp .eq (.int 1) (.int 2) S = .ok false S := rfl
  have q4 : opCmp .eq (.int 1) (.int 4) S = .ok false S := rfl
  have q5 : opCmp .eq (.int 1) (.int 5) S = .ok false S := rfl
  have q8 : opCmp .eq (.int 1) (.int 8) S = .ok false S := rfl
  have f1 : fieldAt (pt.tb.xf 2) [v] 0 = some v := rfl
  unfold hB
  dsimp! [e1, e2, ha, x0, x1, x2, hin, q2, q4, q5, q8, hc, f1]
  rfl
theorem h_2 (hc : cl.err = some (3, [v])) : denB pt.tb cl hB [some (.int 2), some v, some w, x3, x4, x5] S = .rt (.tup [kd 2, v]) S := by
  have e1 := fun Γ j => v_eis (S := S) (tb := pt.tb) (Γ := Γ) (k := j) hc
  have e2 := fun Γ j => t_eib (S := S) (tb := pt.tb) (Γ := Γ) (k := j) hc
  have x0 : pt.tb.xb 3 0 = true := by decide
  have x1 : pt.tb.xb 3 1 = false := by decide
  have x2 : pt.tb.xb 3 2 = false := by decide
  have hin : opCmp .isin (.int 2) (.lst [.int 0, .int 1, .int 3, .int 6, .int 7]) S = .ok false S := rfl
  have q2 : opCmp .eq (.int 2) (.int 2) S = .ok true S := rfl
  have q4 : opCmp .eq (.int 2) (.int 4) S = .ok false S := rfl
  have q5 : opCmp .eq (.int 2) (.int 5) S = .ok false S := rfl
  have q8 : opCmp .eq (.int 2) (.int 8) S = .ok false S := rfl
  have f1 : fieldAt (pt.tb.xf 3) [v] 1 = some v := rfl
  unfold hB
  dsimp! [e1, e2, ha, x0, x1, x2, hin, q2, q4, q5, q8, hc, f1]
  rfl
theorem h_3 (hc : cl.err = some (4, [v])) : denB pt.tb cl hB [some (.int 3), some v, some w, x3, x4, x5] S = .rt (.tup [kd 3, v]) S := by
  have e1 := fun Γ j => v_eis (S := S) (tb := pt.tb) (Γ := Γ) (k := j) hc
  have e2 := fun Γ j => t_eib (S := S) (tb := pt.tb) (Γ := Γ) (k := j) hc
  have x0 : pt.tb.xb 4 0 = true := by decide
  have x1 : pt.tb.xb 4 1 = false := by decide
  have x2 : pt.tb.xb 4 2 = false := by decide
  have hin : opCmp .isin (.int 3) (.lst [.int 0, .int 1, .int 3, .int 6, .int 7]) S = .ok true S := rfl
  have q2 : opCmp .eq (.int 3) (.int 2) S = .ok false S := rfl
  have q4 : opCmp .eq (.int 3) (.int 4) S = .ok false S := rfl
  have q5 : opCmp .eq (.int 3) (.int 5) S = .ok false S := rfl
  have q8 : opCmp .eq (.int 3) (.int 8) S = .ok false S := rfl
  have f1 : fieldAt (pt.tb.xf 4) [v] 0 = some v := rfl
  unfold hB
  dsimp! [e1, e2, ha, x0, x1, x2, hin, q2, q4, q5, q8, hc, f1]
  rfl
theorem h_4 (hc : cl.err = some (5, [v])) : denB pt.tb cl hB [some (.int 4), some v, some w, x3, x4, x5] S = .rt (.tup [kd 4, v]) S := by
  have e1 := fun Γ j => v_eis (S := S) (tb := pt.tb) (Γ := Γ) (k := j) hc
  have e2 := fun Γ j => t_eib (S := S) (tb := pt.tb) (Γ := Γ) (k := j) hc
  have x0 : pt.tb.xb 5 0 = true := by decide
  have x1 : pt.tb.xb 5 1 = false := by decide
  have x2 : pt.tb.xb 5 2 = false := by decide
  have hin : opCmp .isin (.int 4) (.lst [.int 0, .int 1, .int 3, .int 6, .int 7]) S = .ok false S := rfl
  have q2 : opCmp .eq (.int 4) (.int 2) S = .ok false S := rfl
  have q4 : opCmp .eq (.int 4) (.int 4) S = .ok true S := rfl
  have q5 : opCmp .eq (.int 4) (.int 5) S = .ok false S := rfl
  have q8 : opCmp .eq (.int 4) (.int 8) S = .ok false S := rfl
  have f1 : fieldAt (pt.tb.xf 5) [v] 2 = some v := rfl
  unfold hB
  dsimp! [e1, e2, ha, x0, x1, x2, hin, q2, q4, q5, q8, hc, f1]
  rfl
theorem h_5 (hc : cl.err = some (6, [v])) : denB pt.tb cl hB [some (.int 5), some v, some w, x3, x4, x5] S = .rt (.tup [kd 5, v]) S := by
  have e1 := fun Γ j => v_eis (S := S) (tb := pt.tb) (Γ := Γ) (k := j) hc
  have e2 := fun Γ j => t_eib (S := S) (tb := pt.tb) (Γ := Γ) (k := j) hc
  have x0 : pt.tb.xb 6 0 = true := by decide
  have x1 : pt.tb.xb 6 1 = false := by decide
  have x2 : pt.tb.xb 6 2 = false := by decide
  have hin : opCmp .isin (.int 5) (.lst [.int 0, .int 1, .int 3, .int 6, .int 7]) S = .ok false S := rfl
  have q2 : opCmp .eq (.int 5) (.int 2) S = .ok false S := rfl
  have q4 : opCmp .eq (.int 5) (.int 4) S = .ok false S := rfl
  have q5 : opCmp .eq (.int 5) (.int 5) S = .ok true S := rfl
  have q8 : opCmp .eq (.int 5) (.int 8) S = .ok false S := rfl
  have f1 : fieldAt (pt.tb.xf 6) [v] 3 = some v := rfl
  unfold hB
  dsimp! [e1, e2, ha, x0, x1, x2, hin, q2, q4, q5, q8, hc, f1]
  rfl
theorem h_6 (hc : cl.err = some (7, [v])) : denB pt.tb cl hB [some (.int 6), some v, some w, x3, x4, x5] S = .rt (.tup [kd 6, v]) S := by
  have e1 := fun Γ j => v_eis (S := S) (tb := pt.tb) (Γ := Γ) (k := j) hc
  have e2 := fun Γ j => t_eib (S := S) (tb := pt.tb) (Γ := Γ) (k := j) hc
  have x0 : pt.tb.xb 7 0 = true := by decide
  have x1 : pt.tb.xb 7 1 = false := by decide
  have x2 : pt.tb.xb 7 2 = false := by decide
  have hin : opCmp .isin (.int 6) (.lst [.int 0, .int 1, .int 3, .int 6, .int 7]) S = .ok true S := rfl
  have q2 : opCmp .eq (.int 6) (.int 2) S = .ok false S := rfl
  have q4 : opCmp .eq (.int 6) (.int 4) S = .ok false S := rfl
  have q5 : opCmp .eq (.int 6) (.int 5) S = .ok false S := rfl
  have q8 : opCmp .eq (.int 6) (.int 8) S = .ok false S := rfl
  have f1 : fieldAt (pt.tb.xf 7) [v] 0 = some v := rfl
  unfold hB
  dsimp! [e1, e2, ha, x0, x1, x2, hin, q2, q4, q5, q8, hc, f1]
  rfl
theorem h_7 (hc : cl.err = some (8, [v])) : denB pt.tb cl hB [some (.int 7), some v, some w, x3, x4, x5] S = .rt (.tup [kd 7, v]) S := by
  have e1 := fun Γ j => v_eis (S := S) (tb := pt.tb) (Γ := Γ) (k := j) hc
  have e2 := fun Γ j => t_eib (S := S) (tb := pt.tb) (Γ := Γ) (k := j) hc
  have x0 : pt.tb.xb 8 0 = true := by decide
  have x1 : pt.tb.xb 8 1 = false := by decide
  have x2 : pt.tb.xb 8 2 = false := by decide
  have hin : opCmp .isin (.int 7) (.lst [.int 0, .int 1, .int 3, .int 6, .int 7]) S = .ok true S := rfl
  have q2 : opCmp .eq (.int 7) (.int 2) S = .ok false S := rfl
  have q4 : opCmp .eq (.int 7) (.int 4) S = .ok false S := rfl
  have q5 : opCmp .eq (.int 7) (.int 5) S = .ok false S := rfl
  have q8 : opCmp .eq (.int 7) (.int 8) S = .ok false S := rfl
  have f1 : fieldAt (pt.tb.xf 8) [v] 0 = some v := rfl
  unfold hB
  dsimp! [e1, e2, ha, x0, x1, x2, hin, q2, q4, q5, q8, hc, f1]
  rfl
theorem h_8 (hc : cl.err = some (9, [v, w])) : denB pt.tb cl hB [some (.int 8), some v, some w, x3, x4, x5] S = .rt (.tup [kd 8, .tup [v, w]]) S := by
  have e1 := fun Γ j => v_eis (S := S) (tb := pt.tb) (Γ := Γ) (k := j) hc
  have e2 := fun Γ j => t_eib (S := S) (tb := pt.tb) (Γ := Γ) (k := j) hc
  have x0 : pt.tb.xb 9 0 = true := by decide
  have x1 : pt.tb.xb 9 1 = false := by decide
  have x2 : pt.tb.xb 9 2 = false := by decide
  have hin : opCmp .isin (.int 8) (.lst [.int 0, .int 1, .int 3, .int 6, .int 7]) S = .ok false S := rfl
  have q2 : opCmp .eq (.int 8) (.int 2) S = .ok false S := rfl
  have q4 : opCmp .eq (.int 8) (.int 4) S = .ok false S := rfl
  have q5 : opCmp .eq (.int 8) (.int 5) S = .ok false S := rfl
  have q8 : opCmp .eq (.int 8) (.int 8) S = .ok true S := rfl
  have f1 : fieldAt (pt.tb.xf 9) [v, w] 4 = some v := rfl
  have f2 : fieldAt (pt.tb.xf 9) [v, w] 5 = some w := rfl
  unfold hB
  dsimp! [e1, e2, ha, x0, x1, x2, hin, q2, q4, q5, q8, hc, f1, f2]
  rfl
theorem h_9 (hc : cl.err = some (10, [])) : denB pt.tb cl hB [some (.int 9), some v, some w, x3, x4, x5] S = .rt (.tup [kd 9, .non]) S := by
  have e1 := fun Γ j => v_eis (S := S) (tb := pt.tb) (Γ := Γ) (k := j) hc
  have e2 := fun Γ j => t_eib (S := S) (tb := pt.tb) (Γ := Γ) (k := j) hc
  have x0 : pt.tb.xb 10 0 = true := by decide
  have x1 : pt.tb.xb 10 1 = false := by decide
  have x2 : pt.tb.xb 10 2 = false := by decide
  have hin : opCmp .isin (.int 9) (.lst [.int 0, .int 1, .int 3, .int 6, .int 7]) S = .ok false S := rfl
  have q2 : opCmp .eq (.int 9) (.int 2) S = .ok false S := rfl
  have q4 : opCmp .eq (.int 9) (.int 4) S = .ok false S := rfl
  have q5 : opCmp .eq (.int 9) (.int 5) S = .ok false S := rfl
  have q8 : opCmp .eq (.int 9) (.int 8) S = .ok false S := rfl
  unfold hB
  dsimp! [e1, e2, ha, x0, x1, x2, hin, q2, q4, q5, q8, hc]
  rfl
end
/-- what the law's test says of the error of number k -/
theorem s_raise {v w : D} : ∀ k : Nat, k < 10 → Lv (n + 3) 3 [.int (k : Nat), v, w] S = .ok (.tup [kd k, fd k v w]) S := by
  have r0 : Lv (n + 3) 3 [.int 0, v, w] S = .ok (.tup [kd 0, fd 0 v w]) S := by
    have q0 : opCmp .eq (.int 0) (.int 0) S = .ok true S := rfl
    have hs : pt.tb.sub 1 0 = true := by decide
    have hh := h_0 (S := S) (v := v) (w := w) (cl := { cal n with err := some (1, [v]) }) (x3 := none) (x4 := none) (x5 := none) rfl
    unfold hB at hh
    rw [lv3]; unfold b3
    dsimp! [s_try, q0, denH, dHand, hs, hh]
    exact trim_rt (Nat.le_refl _)
  have r1 : Lv (n + 3) 3 [.int 1, v, w] S = .ok (.tup [kd 1, fd 1 v w]) S := by
    have q0 : opCmp .eq (.int 1) (.int 0) S = .ok false S := rfl
    have q1 : opCmp .eq (.int 1) (.int 1) S = .ok true S := rfl
    have hs : pt.tb.sub 2 0 = true := by decide
    have hh := h_1 (S := S) (v := v) (w := w) (cl := { cal n with err := some (2, [v]) }) (x3 := none) (x4 := none) (x5 := none) rfl
    unfold hB at hh
    rw [lv3]; unfold b3
    dsimp! [s_try, q0, q1, denH, dHand, hs, hh]
    exact trim_rt (Nat.le_refl _)
  have r2 : Lv (n + 3) 3 [.int 2, v, w] S = .ok (.tup [kd 2, fd 2 v w]) S := by
    have q0 : opCmp .eq (.int 2) (.int 0) S = .ok false S := rfl
    have q1 : opCmp .eq (.int 2) (.int 1) S = .ok false S := rfl
    have q2 : opCmp .eq (.int 2) (.int 2) S = .ok true S := rfl
    have hs : pt.tb.sub 3 0 = true := by decide
    have hh := h_2 (S := S) (v := v) (w := w) (cl := { cal n with err := some (3, [v]) }) (x3 := none) (x4 := none) (x5 := none) rfl
    unfold hB at hh
    rw [lv3]; unfold b3
    dsimp! [s_try, q0, q1, q2, denH, dHand, hs, hh]
    exact trim_rt (Nat.le_refl _)
  have r3 : Lv (n + 3) 3 [.int 3, v, w] S = .ok (.tup [kd 3, fd 3 v w]) S := by
    have q0 : opCmp .eq (.int 3) (.int 0) S = .ok false S := rfl
    have q1 : opCmp .eq (.int 3) (.int 1) S = .ok false S := rfl
    have q2 : opCmp .eq (.int 3) (.int 2) S = .ok false S := rfl
    have q3 : opCmp .eq (.int 3) (.int 3) S = .ok true S := rfl
    have hs : pt.tb.sub 4 0 = true := by decide
    have hh := h_3 (S := S) (v := v) (w := w) (cl := { cal n with err := some (4, [v]) }) (x3 := none) (x4 := none) (x5 := none) rfl
    unfold hB at hh
    rw [lv3]; unfold b3
    dsimp! [s_try, q0, q1, q2, q3, denH, dHand, hs, hh]
    exact trim_rt (Nat.le_refl _)
  have r4 : Lv (n + 3) 3 [.int 4, v, w] S = .ok (.tup [kd 4, fd 4 v w]) S := by
    have q0 : opCmp .eq (.int 4) (.int 0) S = .ok false S := rfl
    have q1 : opCmp .eq (.int 4) (.int 1) S = .ok false S := rfl
    have q2 : opCmp .eq (.int 4) (.int 2) S = .ok false S := rfl
    have q3 : opCmp .eq (.int 4) (.int 3) S = .ok false S := rfl
    have q4 : opCmp .eq (.int 4) (.int 4) S = .ok true S := rfl
    have hs : pt.tb.sub 5 0 = true := by decide
    have hh := h_4 (S := S) (v := v) (w := w) (cl := { cal n with err := some (5, [v]) }) (x3 := none) (x4 := none) (x5 := none) rfl
    unfold hB at hh
    rw [lv3]; unfold b3
    dsimp! [s_try, q0, q1, q2, q3, q4, denH, dHand, hs, hh]
    exact trim_rt (Nat.le_refl _)
  have r5 : Lv (n + 3) 3 [.int 5, v, w] S = .ok (.tup [kd 5, fd 5 v w]) S := by
    have q0 : opCmp .eq (.int 5) (.int 0) S = .ok false S := rfl
    have q1 : opCmp .eq (.int 5) (.int 1) S = .ok false S := rfl
    have q2 : opCmp .eq (.int 5) (.int 2) S = .ok false S := rfl
    have q3 : opCmp .eq (.int 5) (.int 3) S = .ok false S := rfl
    have q4 : opCmp .eq (.int 5) (.int 4) S = .ok false S := rfl
    have q5 : opCmp .eq (.int 5) (.int 5) S = .ok true S := rfl
    have hs : pt.tb.sub 6 0 = true := by decide
    have hh := h_5 (S := S) (v := v) (w := w) (cl := { cal n with err := some (6, [v]) }) (x3 := none) (x4 := none) (x5 := none) rfl
    unfold hB at hh
    rw [lv3]; unfold b3
    dsimp! [s_try, q0, q1, q2, q3, q4, q5, denH, dHand, hs, hh]
    exact trim_rt (Nat.le_refl _)
  have r6 : Lv (n + 3) 3 [.int 6, v, w] S = .ok (.tup [kd 6, fd 6 v w]) S := by
    have q0 : opCmp .eq (.int 6) (.int 0) S = .ok false S := rfl
    have q1 : opCmp .eq (.int 6) (.int 1) S = .ok false S := rfl
    have q2 : opCmp .eq (.int 6) (.int 2) S = .ok false S := rfl
    have q3 : opCmp .eq (.int 6) (.int 3) S = .ok false S := rfl
    have q4 : opCmp .eq (.int 6) (.int 4) S = .ok false S := rfl
    have q5 : opCmp .eq (.int 6) (.int 5) S = .ok false S := rfl
    have q6 : opCmp .eq (.int 6) (.int 6) S = .ok true S := rfl
    have hs : pt.tb.sub 7 0 = true := by decide
    have hh := h_6 (S := S) (v := v) (w := w) (cl := { cal n with err := some (7, [v]) }) (x3 := none) (x4 := none) (x5 := none) rfl
    unfold hB at hh
    rw [lv3]; unfold b3
    dsimp! [s_try, q0, q1, q2, q3, q4, q5, q6, denH, dHand, hs, hh]
    exact trim_rt (Nat.le_refl _)
  have r7 : Lv (n + 3) 3 [.int 7, v, w] S = .ok (.tup [kd 7, fd 7 v w]) S := by
    have q0 : opCmp .eq (.int 7) (.int 0) S = .ok false S := rfl
    have q1 : opCmp .eq (.int 7) (.int 1) S = .ok false S := rfl
    have q2 : opCmp .eq (.int 7) (.int 2) S = .ok false S := rfl
    have q3 : opCmp .eq (.int 7) (.int 3) S = .ok false S := rfl
    have q4 : opCmp .eq (.int 7) (.int 4) S = .ok false S := rfl
    have q5 : opCmp .eq (.int 7) (.int 5) S = .ok false S := rfl
    have q6 : opCmp .eq (.int 7) (.int 6) S = .ok false S := rfl
    have q7 : opCmp .eq (.int 7) (.int 7) S = .ok true S := rfl
    have hs : pt.tb.sub 8 0 = true := by decide
    have hh := h_7 (S := S) (v := v) (w := w) (cl := { cal n with err := some (8, [v]) }) (x3 := none) (x4 := none) (x5 := none) rfl
    unfold hB at hh
    rw [lv3]; unfold b3
    dsimp! [s_try, q0, q1, q2, q3, q4, q5, q6, q7, denH, dHand, hs, hh]
    exact trim_rt (Nat.le_refl _)
  have r8 : Lv (n + 3) 3 [.int 8, v, w] S = .ok (.tup [kd 8, fd 8 v w]) S := by
    have q0 : opCmp .eq (.int 8) (.int 0) S = .ok false S := rfl
    have q1 : opCmp .eq (.int 8) (.int 1) S = .ok false S := rfl
    have q2 : opCmp .eq (.int 8) (.int 2) S = .ok false S := rfl
    have q3 : opCmp .eq (.int 8) (.int 3) S = .ok false S := rfl
    have q4 : opCmp .eq (.int 8) (.int 4) S = .ok false S := rfl
    have q5 : opCmp .eq (.int 8) (.int 5) S = .ok false S := rfl
    have q6 : opCmp .eq (.int 8) (.int 6) S = .ok false S := rfl
    have q7 : opCmp .eq (.int 8) (.int 7) S = .ok false S := rfl
    have q8 : opCmp .eq (.int 8) (.int 8) S = .ok true S := rfl
    have hs : pt.tb.sub 9 0 = true := by decide
    have hh := h_8 (S := S) (v := v) (w := w) (cl := { cal n with err := some (9, [v, w]) }) (x3 := none) (x4 := none) (x5 := none) rfl
    unfold hB at hh
    rw [lv3]; unfold b3
    dsimp! [s_try, q0, q1, q2, q3, q4, q5, q6, q7, q8, denH, dHand, hs, hh]
    exact trim_rt (Nat.le_refl _)
  have r9 : Lv (n + 3) 3 [.int 9, v, w] S = .ok (.tup [kd 9, fd 9 v w]) S := by
    have q0 : opCmp .eq (.int 9) (.int 0) S = .ok false S := rfl
    have q1 : opCmp .eq (.int 9) (.int 1) S = .ok false S := rfl
    have q2 : opCmp .eq (.int 9) (.int 2) S = .ok false S := rfl
    have q3 : opCmp .eq (.int 9) (.int 3) S = .ok false S := rfl
    have q4 : opCmp .eq (.int 9) (.int 4) S = .ok false S := rfl
    have q5 : opCmp .eq (.int 9) (.int 5) S = .ok false S := rfl
    have q6 : opCmp .eq (.int 9) (.int 6) S = .ok false S := rfl
    have q7 : opCmp .eq (.int 9) (.int 7) S = .ok false S := rfl
    have q8 : opCmp .eq (.int 9) (.int 8) S = .ok false S := rfl
    have hs : pt.tb.sub 10 0 = true := by decide
    have hh := h_9 (S := S) (v := v) (w := w) (cl := { cal n with err := some (10, []) }) (x3 := none) (x4 := none) (x5 := none) rfl
    unfold hB at hh
    rw [lv3]; unfold b3
    dsimp! [s_try, q0, q1, q2, q3, q4, q5, q6, q7, q8, denH, dHand, hs, hh]
    exact trim_rt (Nat.le_refl _)
  intro k hk
  have : k = 0 ∨ k = 1 ∨ k = 2 ∨ k = 3 ∨ k = 4 ∨ k = 5 ∨ k = 6 ∨ k = 7 ∨ k = 8 ∨ k = 9 := by omega
  rcases this with rfl | rfl | rfl | rfl | rfl | rfl | rfl | rfl | rfl | rfl
  · exact r0
  · exact r1
  · exact r2
  · exact r3
  · exact r4
  · exact r5
  · exact r6
  · exact r7
  · exact r8
  · exact r9
end
end K09


set_option maxHeartbeats 4000000
local macro_rules
  | `(tactic| dsimp! [$xs,*] $[$l:location]?) => `(tactic| simp only [Dn.bk_ok, Dn.bk_exn, Dn.sk_ok, Dn.sk_exn, Dn.tk_nx, Dn.tk_rt, Dn.tk_exn, Dn.st_ok, Dn.st_exn, Dn.then_nx, Dn.then_rt, Dn.then_exn, Dn.rd0, Dn.rdS, Dn.tgNm, Dn.tgTup, Dn.tgsN, Dn.tgsC, Dn.optS, Dn.v_var, Dn.v_cst, Dn.v_fnv, Dn.v_bin, Dn.v_neg, Dn.v_cmp, Dn.v_cmp2, Dn.v_isN, Dn.v_bool, Dn.v_not, Dn.v_ite, Dn.v_tup, Dn.v_disp, Dn.v_comp, Dn.v_lrng, Dn.v_new, Dn.v_idx, Dn.v_slice, Dn.v_attr, Dn.v_ef, Dn.l_blist, Dn.v_blist, Dn.v_b1, Dn.v_mx, Dn.v_bm, Dn.v_isi, Dn.v_call, Dn.v_mk, Dn.v_meth, Dn.v_glc, Dn.i_glc, Dn.v_dget, Dn.t_din, Dn.v_din, Dn.v_dix, Dn.t_ceq, Dn.v_ceq, Dn.v_m1, Dn.l_sorted, Dn.v_sorted, Dn.i_sorted, Dn.v_callv, Dn.l_disp, Dn.l_lrng, Dn.t_var, Dn.t_cst, Dn.t_bin, Dn.t_idx, Dn.t_slice, Dn.t_attr, Dn.t_isi, Dn.t_call, Dn.t_callv, Dn.t_meth, Dn.t_b1, Dn.t_cmp, Dn.t_cmp2, Dn.t_isN, Dn.t_bool, Dn.t_not, Dn.t_disp, Dn.t_comp, Dn.i_var, Dn.i_cst, Dn.i_bin, Dn.i_tup, Dn.i_idx, Dn.i_slice, Dn.i_attr, Dn.i_call, Dn.i_meth, Dn.i_disp, Dn.i_comp, Dn.i_rng, Dn.i_enum, Dn.i_zip, Dn.a_nil, Dn.a_cons, Dn.bt_one, Dn.bt_cons, Dn.bv_one, Dn.bv_cons, Dn.o_nil, Dn.o_one, Dn.x_nil, Dn.x_one, Dn.s_nil, Dn.s_cons, Dn.s_asg, Dn.s_par, Dn.s_setI, Dn.s_setA, Dn.s_aug, Dn.s_ex, Dn.s_ite, Dn.s_ret, Dn.s_retN, Dn.s_raise, Dn.s_pass, Dn.s_frz, Dn.turn_eq, Dn.nc_0, Dn.nc_1, Dn.nc_2, Dn.nc_3, Dn.nc_4, Dn.nc_5, Dn.nc_6, Dn.nc_7, Dn.nc_8, Dn.nc_9, Dn.nc_10, Dn.nc_11, Dn.nc_12, Dn.nc_13, Dn.nc_14, Dn.nc_15, Dn.nc_16, Dn.nc_17, Dn.nc_18, Dn.nc_19, Dn.setPar2, Dn.le_0, Dn.le_1, Dn.le_2, Dn.le_3, Dn.le_4, Dn.le_5, Dn.le_6, Dn.le_7, Dn.le_8, Dn.le_9, Dn.le_10, Dn.le_11, Dn.le_12, Dn.le_13, Dn.le_14, Dn.le_15, Dn.le_16, Dn.le_17, Dn.le_18, Dn.le_19, Dn.op_add, Dn.op_sub, Dn.op_neg, Dn.op_lt, Dn.op_le, Dn.op_gt, Dn.op_ge, Dn.op_eqi, Dn.op_nei, Dn.op_eq2, Dn.op_ne2, Dn.op_eqb, Dn.op_neb, Dn.tr_bl, Dn.tr_int, Dn.tr_non, Dn.tr_lst, Dn.tr_tup, Dn.f_int, Dn.f_abs, Dn.f_lent, Dn.f_lenl, Dn.f_tupl, Dn.f_tupt, Dn.sq_tup, Dn.sq_lst, Dn.ix_t0, Dn.ix_t1, Dn.ix_l0, Dn.ix_l1, Dn.sr_tup, Dn.sr_lst, Dn.isi_int, Dn.isi_bl, Dn.isi_tup, Dn.isi_lst, Dn.isi_str, Dn.isi_non, Dn.fl_nil, Dn.whileN, Dn.whileL, Dn.dNew, Dn.sl_1, Dn.oi_int, Dn.compL, Dn.compH, Dn.ct_nm, Dn.bind_ok, Dn.bind_exn, ↓reduceIte, ne_eq, reduceCtorEq, not_false_eq_true, Bool.not_true, Bool.not_false, beq_self_eq_true, List.set_cons_zero, List.set_cons_succ, List.length_cons, List.length_nil, List.any_cons, List.any_nil, Bool.or_false, Bool.or_true, Bool.true_or, Bool.false_or, Bool.and_true, Bool.true_and, Bool.and_false, Bool.false_and, Bool.true_beq, Bool.false_beq, Bool.not_eq_true, Bool.bne_true, Bool.bne_false, Dn.Ty.ofD, Bool.false_eq_true, List.isEmpty_nil, List.isEmpty_cons, List.nil_append, List.cons_append, decide_true, decide_false, Option.bind_some, Nat.le_refl, Int.reduceAdd, Int.reduceSub, Int.reduceNeg, Int.reduceMul, Nat.reduceAdd, K09.cal_call, $xs,*] $[$l:location]?)
namespace K09
open PySem Dn
section
variable {n : Nat} {S : Store}
/-- values that are drawn -/
structure Vl (v : D) : Prop where
  sn : ∀ S, seen v S = v
  fl : flat 5 v = true
  isb : ∃ b, ∀ S, opIsi pt.tb.ic [.bool] v S = .ok (.bl b) S
theorem vl_mem {v : D} {w : Int} (h : v ∈ [.non, .int 7, .str "x", .tup [.int 1, .int 2], .bl true, .int w]) : Vl v := by
  simp only [List.mem_cons, List.not_mem_nil, or_false] at h
  rcases h with rfl | rfl | rfl | rfl | rfl | rfl
  · exact ⟨fun _ => rfl, rfl, false, fun _ => rfl⟩
  · exact ⟨fun _ => rfl, rfl, false, fun _ => rfl⟩
  · exact ⟨fun _ => rfl, by decide +kernel, false, fun _ => rfl⟩
  · exact ⟨fun _ => rfl, rfl, false, fun _ => rfl⟩
  · exact ⟨fun _ => rfl, rfl, true, fun _ => rfl⟩
  · exact ⟨fun _ => rfl, rfl, false, fun _ => rfl⟩
theorem vl_nm {v : D} (h : v ∈ [D.tup [], .tup [.str "a"]]) : Vl v := by
  simp only [List.mem_cons, List.not_mem_nil, or_false] at h
  rcases h with rfl | rfl
  · exact ⟨fun _ => rfl, rfl, false, fun _ => rfl⟩
  · exact ⟨fun _ => rfl, by decide +kernel, false, fun _ => rfl⟩
theorem vl_pair {v w : D} (h : Vl v) (g : Vl w) : opCmp .ne (.tup [v, w]) (.tup [v, w]) S = .ok false S ∧ opIsi pt.tb.ic [.bool] (.tup [v, w]) S = .ok (.bl false) S := by
  refine ⟨ne_self rfl ?_, rfl⟩
  simp only [flat, flats, flat_mono (m := 59) (by decide) h.fl, flat_mono (m := 59) (by decide) g.fl, Bool.and_true]
theorem vl_ne {v : D} (h : Vl v) : opCmp .ne v v S = .ok false S := ne_self (h.sn S) (flat_mono (by decide) h.fl)
def lB : List T := [.asg (.nm 3) (.call 1 [(.var 1), (.disp [(.cst .non), (.cst (.int 7)), (.cst (.str "x")), (.tup [(.cst (.int 1)), (.cst (.int 2))]), (.cst (.bl true)), (.call 0 [(.var 1), (.bin .pow (.cst (.int 10)) (.cst (.int 9)))])])]),
      .asg (.nm 4) (.call 1 [(.var 1), (.disp [(.tup []), (.tup [(.cst (.str "a"))])])]),
      .asg (.nm 5) (.call 3 [(.var 2), (.var 3), (.var 4)]),
      .ite (.bool false [(.isN false (.var 5)), (.cmp .ne (.idx (.var 5) (.cst (.int 0))) (.comp (.cmp .eq (.var 6) (.var 2)) (.nm 6) (.rng [(.cst (.int 10))]) []))]) [.ret (.cst (.bl false))] [],
      .asg (.nm 7) (.var 3),
      .ite (.cmp .eq (.var 2) (.cst (.int 8))) [.asg (.nm 7) (.tup [(.var 3), (.var 4)])] [],
      .ite (.bool true [(.cmp .lt (.var 2) (.cst (.int 9))), (.bool false [(.cmp .ne (.idx (.var 5) (.cst (.int 1))) (.var 7)), (.cmp .ne (.isi (.idx (.var 5) (.cst (.int 1))) [.bool]) (.isi (.var 7) [.bool]))])]) [.ret (.cst (.bl false))] []]
theorem turn_ok {ns : List Int} {i z r : Int} {k : Nat} (hi : 0 ≤ i) (hk : k < 10) {x0 x2 x3 x4 x5 x6 x7 x8 : Option D} : ∃ (i' z' r' : Int) (v w t d : D), 0 ≤ i' ∧
    turn pt.tb (cal (n + 2)) (.nm 2) lB (.int (k : Nat)) [x0, some (.ref 0), x2, x3, x4, x5, x6, x7, x8] (RS ns i z r :: S) = .nx [x0, some (.ref 0), some (.int (k : Nat)), some v, some w, some t, x6, some d, x8] (RS ns i' z' r' :: S) := by
  obtain ⟨q, i1, z1, r1, _, _, a3, a4⟩ := s_taken (n := n + 1) (S := S) (ns := ns) (i := i) (z := z) (r := r) (m := 1000000000) hi (by decide) (by decide)
  obtain ⟨v, hv, i2, z2, r2, b1, b2⟩ := s_pick (n := n) (S := S) (ns := ns) (i := i1) (z := z1) (r := r1) (xs := [.non, .int 7, .str "x", .tup [.int 1, .int 2], .bl true, .int q]) a3 (by simp) (by simp)
  obtain ⟨w, hw, i3, z3, r3, c1, c2⟩ := s_pick (n := n) (S := S) (ns := ns) (i := i2) (z := z2) (r := r2) (xs := [.tup [], .tup [.str "a"]]) b1 (by simp) (by simp)
  have V := vl_mem hv
  have W := vl_nm hw
  have hp : opBin .pow (.int 10) (.int 9) (RS ns i z r :: S) = .ok (.int 1000000000) (RS ns i z r :: S) := rfl
  have sr := s_raise (n := n + 1) (S := RS ns i3 z3 r3 :: S) (v := v) (w := w) k hk
  have hr := rng_1 (S := RS ns i3 z3 r3 :: S) (n := 10) (by unfold lineD; omega)
  rw [nc_10] at hr
  have hkd : opCmp .ne (kd k) (.lst ((List.range 10).map fun j : Nat => .bl (((j : Nat) : Int) == ((k : Nat) : Int)))) (RS ns i3 z3 r3 :: S) = .ok false (RS ns i3 z3 r3 :: S) := ne_self rfl (by unfold flat; exact flats_map fun _ _ => rfl)
  have hc : ∀ y3 y4 y5 y7, (den pt.tb (cal (n + 2)) (.comp (.cmp .eq (.var 6) (.var 2)) (.nm 6) (.rng [(.cst (.int 10))]) [])).l [x0, some (.ref 0), some (.int (k : Nat)), y3, y4, y5, x6, y7, x8] (RS ns i3 z3 r3 :: S) = .ok ((List.range 10).map fun j : Nat => .bl (((j : Nat) : Int) == ((k : Nat) : Int))) (RS ns i3 z3 r3 :: S) := fun y3 y4 y5 y7 => by
    rw [comp_all (e := dK) (g := fun j : Nat => .bl (((j : Nat) : Int) == ((k : Nat) : Int))) (l := List.range 10) (S1 := RS ns i3 z3 r3 :: S)]
    · dsimp! [hr]
    · intro j _
      dsimp! [op_eqi]
  obtain ⟨bb, hbb⟩ := V.isb
  by_cases h8 : k = 8
  · subst h8
    have h8 : opCmp .eq (.int ((8 : Nat) : Int)) (.int 8) (RS ns i3 z3 r3 :: S) = .ok true (RS ns i3 z3 r3 :: S) := rfl
    have h9 : decide (((8 : Nat) : Int) < 9) = true := rfl
    refine ⟨i3, z3, r3, v, w, .tup [kd 8, fd 8 v w], .tup [v, w], c1, ?_⟩
    have hfd : fd 8 v w = .tup [v, w] := rfl
    obtain ⟨P, hb2⟩ := vl_pair (S := RS ns i3 z3 r3 :: S) V W
    rw [hfd] at sr
    unfold lB
    rw [nc_8] at *
    dsimp! [turn_eq, hp, a4, b2, c2, sr, hc, hkd, h8, h9, P, hb2, op_neb, hfd]
  · have h8' : opCmp .eq (.int (k : Nat)) (.int 8) (RS ns i3 z3 r3 :: S) = .ok false (RS ns i3 z3 r3 :: S) := by
      rw [op_eqi, beq_eq_false_iff_ne.mpr (by omega)]
    by_cases h9 : k = 9
    · subst h9
      have h9 : ¬((9 : Nat) : Int) < 9 := by decide
      refine ⟨i3, z3, r3, v, w, .tup [kd 9, fd 9 v w], v, c1, ?_⟩
      unfold lB
      rw [nc_9] at *
      dsimp! [turn_eq, hp, a4, b2, c2, sr, hc, hkd, h8', h9]
    · have h9' : ((k : Nat) : Int) < 9 := by omega
      refine ⟨i3, z3, r3, v, w, .tup [kd k, fd k v w], v, c1, ?_⟩
      have hfd : fd k v w = v := by unfold fd; rw [if_neg h8, if_neg h9]
      rw [hfd] at sr
      unfold lB
      dsimp! [turn_eq, hp, a4, b2, c2, sr, hc, hkd, h8', h9', vl_ne V, hbb, op_neb, hfd]
theorem loop_ok {ns : List Int} {x0 x8 : Option D} : ∀ (l : List Nat) (i z r : Int) (x2 x3 x4 x5 x6 x7 : Option D), 0 ≤ i → (∀ k ∈ l, k < 10) → ∃ (i' z' r' : Int) (y2 y3 y4 y5 y6 y7 : Option D), 0 ≤ i' ∧
    forL (turn pt.tb (cal (n + 2)) (.nm 2) lB) (l.map dK) [x0, some (.ref 0), x2, x3, x4, x5, x6, x7, x8] (RS ns i z r :: S) = .nx [x0, some (.ref 0), y2, y3, y4, y5, y6, y7, x8] (RS ns i' z' r' :: S)
  | [], i, z, r, x2, x3, x4, x5, x6, x7, hi, _ => ⟨i, z, r, x2, x3, x4, x5, x6, x7, hi, rfl⟩
  | k :: l, i, z, r, x2, x3, x4, x5, x6, x7, hi, hl => by
    obtain ⟨i1, z1, r1, v, w, t, d, a1, a2⟩ := turn_ok (n := n) (S := S) (ns := ns) (i := i) (z := z) (r := r) (k := k) hi (hl k List.mem_cons_self) (x0 := x0) (x2 := x2) (x3 := x3) (x4 := x4) (x5 := x5) (x6 := x6) (x7 := x7) (x8 := x8)
    obtain ⟨i2, z2, r2, y2, y3, y4, y5, y6, y7, b1, b2⟩ := loop_ok (ns := ns) (x0 := x0) (x8 := x8) l i1 z1 r1 (some (.int (k : Nat))) (some v) (some w) (some t) x6 (some d) a1 fun j hj => hl j (List.mem_cons_of_mem _ hj)
    refine ⟨i2, z2, r2, y2, y3, y4, y5, y6, y7, b1, ?_⟩
    rw [List.map_cons, fl_cons, a2, tk_nx, gc_le (n := (RS ns i z r :: S).length) (S := RS ns i1 z1 r1 :: S) (Nat.le_refl _), tk_nx, b2]
theorem v_xat {tb : Tab} {cl : Cal} {Γ : Vars} {c f : Nat} {ks : List Nat} {es : List E} : (den tb cl (.xat c ks es f)).v Γ S = (dArgs (dens tb cl es) Γ S).bk (opXat (tb.xf c) ks f) .mk := rfl
theorem law_all (ns : List Int) (_ : ns.length ≤ 63) : ∃ S, lvl pt.tb pt.kl pt.df 30 4 [scD ns] [] = .ok (.bl true) S := by
  obtain ⟨i, z, r, y2, y3, y4, y5, y6, y7, h1, h2⟩ := loop_ok (n := 25) (S := []) (ns := ns) (x0 := some (scD ns)) (x8 := none) (List.range 10) 0 53 0 none none none none none none (by decide) fun k hk => List.mem_range.mp hk
  have hr := rng_1 (S := [RS ns 0 53 0]) (n := 10) (by unfold lineD; omega)
  rw [nc_10] at hr
  have x1 : ∀ S, opXat (pt.tb.xf 1) [0] 0 [.int 1] S = .ok (.int 1) S := fun _ => rfl
  have x2 : ∀ S, opXat (pt.tb.xf 2) [0] 0 [.str "a"] S = .ok (.str "a") S := fun _ => rfl
  have x3 : ∀ S, opXat (pt.tb.xf 3) [0] 1 [.int 4] S = .ok (.int 4) S := fun _ => rfl
  have x4 : ∀ S, opXat (pt.tb.xf 4) [0] 0 [.int 5] S = .ok (.int 5) S := fun _ => rfl
  have x5 : ∀ S, opXat (pt.tb.xf 5) [0] 2 [.int 6] S = .ok (.int 6) S := fun _ => rfl
  have x6 : ∀ S, opXat (pt.tb.xf 6) [0] 3 [.int 7] S = .ok (.int 7) S := fun _ => rfl
  have x7 : ∀ S, opXat (pt.tb.xf 7) [0] 0 [.int 8] S = .ok (.int 8) S := fun _ => rfl
  have x8 : ∀ S, opXat (pt.tb.xf 8) [0] 0 [.int 9] S = .ok (.int 9) S := fun _ => rfl
  have x9 : ∀ S, opXat (pt.tb.xf 9) [0, 1] 5 [.str "r", .int 11] S = .ok (.int 11) S := fun _ => rfl
  have x10 : ∀ S, opXat (pt.tb.xf 9) [1, 0] 4 [.int 1, .str "s"] S = .ok (.str "s") S := fun _ => rfl
  have sa := ak (S := [RS ns i z r]) (d := .lst [.int 1, .str "a", .int 4, .int 5, .int 6, .int 7, .int 8, .int 9, .int 11, .str "s"]) 1 29 (by decide) (by decide +kernel)
  have hn : dNew (.ok [scD ns, .int 0, .int 53, .int 0] []) = .ok (.ref 0) [RS ns 0 53 0] := rfl
  refine ⟨[], ?_⟩
  show Lv (27 + 3) 4 [scD ns] [] = _
  rw [lv4]; unfold b4
  dsimp! [hn]
  rw [s_loopI (xs := (List.range 10).map fun k => .int (k : Nat)) (S1 := [RS ns 0 53 0]) (by dsimp! [hr])]
  unfold lB at h2
  rw [h2]
  dsimp! [v_xat, x1, x2, x3, x4, x5, x6, x7, x8, x9, x10, ha, sa]
  rfl
end
end K09


set_option maxHeartbeats 0
namespace K09
open PySem PySem.Spec PyProof.Rows L2 Dn
abbrev R : PySem.W.OpenRow := PySem.W.OpenLaw.row PySem.Challenge.rw_searchedslopes_k09_errors
abbrev hk : PySem.W.Hook := hookX 4 pt "/claim/cut.py"
def ob (s : PySem.W.SharedT) : AlX := obsXG 4 pt "/claim/cut.py" (HandSHeadRun.getT s)
theorem ob_eq (s : PySem.W.SharedT) : ob s = hk.obs s.abs := obsXG_eq (HandSHeadRun.getT_eq s)
theorem run (w : World) : HandSHeadRun.RunEq R (PySem.W.view R.prog [17]) hk ob 8000 ["SlopeError", "BadNumber", "BadName", "BadItem", "BadEvent", "BadNote", "TooMany", "Unknown", "Taken", "Refused", "NothingToUndo", "_law_taken", "_law_pick", "_law_alike", "_law_raised"] w := by
  intro os
  kernel_rfl
end K09
open PySem PySem.W PySem.Calls PyProof.Rows
theorem PySem.Challenge.cw_searchedslopes_k09_errors_holds : PySem.Challenge.rw_searchedslopes_k09_errors.Holds := by
  w_on; o_law
  refine HandSHeadRun.head_any (r := OpenLaw.row PySem.Challenge.rw_searchedslopes_k09_errors) (q := view (OpenLaw.row PySem.Challenge.rw_searchedslopes_k09_errors).prog [17]) (H := K09.hk) (ob := K09.ob) (M := 8000) (loose := ["SlopeError", "BadNumber", "BadName", "BadItem", "BadEvent", "BadNote", "TooMany", "Unknown", "Taken", "Refused", "NothingToUndo", "_law_taken", "_law_pick", "_law_alike", "_law_raised"]) (d := HandSHeadRun.topDef (OpenLaw.row PySem.Challenge.rw_searchedslopes_k09_errors).prog 17) (kwd := []) K09.ob_eq
    (by kernel_rfl) (fun s => by kernel_rfl) K09.run (by kernel_rfl) (by kernel_rfl) (by kernel_rfl) (by rfl) (by first | assumption | decide +kernel) (by decide +kernel) ⟨rfl, rfl, rfl, rfl, rfl, by decide +kernel⟩ ?hw ?hc
  case hw => w_witness2
  case hc =>
    exact Dn.law_end (l := PySem.Challenge.rw_searchedslopes_k09_errors) (k := 30) (f := 4) (e := K09.f4) rfl (by decide) (by kernel_rfl) ⟨rfl, by decide, by decide⟩ rfl (by kernel_rfl) rfl K09.st K09.bf K09.bx K09.bk K09.law_all

