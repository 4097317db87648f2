import PyProof.Rows.All
import Wide.All
import OpenK.AllK
import Wide.FinOn
import HandS.ForMost
import HandS.Wide
import HandS.TupAny
import HandS.Deep
import HandS.IsInst
import HandS.Style
import HandS.Zip
import HandS.Defaults
import HandS.Rev
import KE.DataMinMax
import KE.SortData
import HandS.NoneIn
import HandS.CallLocal
import PyProof.Rows.ChunkLeaf
import HandS.TupSets
import PyProof.SetRoads
import PyProof.TupleIter
import PyProof.WalksMore
import HandS.WideBits
import PySem.Challenge.RW_sheetlay_k18_simple_or_not
import KE.KStateDown
import Lean
import HandS.Ends
import HandS.More
import HandS.Words
import HandS.WordsExc
import HandS.Head0
import HandS.Head1
import HandS.Head2
import HandS.HeadEnd
import HandS.HeadHook1
import HandS.HeadHook2
set_option Elab.async false
set_option linter.all false
set_option maxRecDepth 100000
set_option maxHeartbeats 1000000
/-! Vz: data by value over the hand layer: what a def of the program reckons, as a plain function of data. -/
namespace Vz
open PySem PySem.Spec PyProof.Rows L2

/-- data: what a value is worth -/
inductive D where
  | non | bl (b : Bool) | int (i : Int) | str (x : Str) | tup (ds : List D) | lst (ds : List D) | fn (k : Nat) (cs : List D)
/-- what a name owns: an object that may still be changed -/
inductive Ow where
  | lst (ds : List D)
def Ow.d : Ow → D
  | .lst ds => .lst ds
/-- a slot: without a value, with data, with an object of its own, with an object that was handed in to be changed -/
inductive Sl where
  | no | val (d : D) | own (o : Ow) | arg (o : Ow)
/-- what an expression tells: data, or an object that is new and nobody else's -/
inductive R where
  | val (d : D) | own (o : Ow)
def R.d : R → D
  | .val d => d
  | .own o => o.d

/-- a state: what may be written, what data keep away from besides, the heap -/
structure Wd where
  W : Addr → Prop
  B : Addr → Prop
  H : Hp
/-- what data keep away from -/
def Wd.O (w : Wd) (p : Addr) : Prop := w.W p ∨ w.B p
structure Good (w : Wd) : Prop where
  dom : ∀ p, w.O p → w.H p ≠ none
theorem Good.wo {w : Wd} (_ : Good w) (p : Addr) (h : w.W p) : w.O p := .inl h
structure Step (w w' : Wd) : Prop where
  keep : ∀ b o, ¬ w.W b → w.H b = some o → w'.H b = some o
  trk : ∀ b, w.H b ≠ none → w'.H b ≠ none
  wsub : ∀ p, w'.W p → w.W p ∨ w.H p = none
  b1 : ∀ p, w.B p → w'.B p
  b2 : ∀ p, w'.B p → w.B p ∨ w.H p = none
theorem Step.osub {w w' : Wd} (s : Step w w') (p : Addr) (h : w'.O p) : w.O p ∨ w.H p = none := h.elim (fun k => (s.wsub p k).imp .inl id) fun k => (s.b2 p k).imp .inr id
theorem Step.refl (w : Wd) : Step w w := ⟨fun _ _ _ h => h, fun _ h => h, fun _ h => .inl h, fun _ h => h, fun _ h => .inl h⟩
theorem ne_none {α : Type} {o : Option α} {x : α} (h : o = some x) : o ≠ none := fun e => by rw [h] at e; cases e
theorem some_of {α : Type} {o : Option α} (h : o ≠ none) : ∃ x, o = some x := by
  cases o with
  | none => exact absurd rfl h
  | some x => exact ⟨x, rfl⟩
theorem Step.none_back {w w' : Wd} (s : Step w w') {p : Addr} (h : w'.H p = none) : w.H p = none := by
  cases e : w.H p with
  | none => rfl
  | some o => exact absurd h (s.trk p (ne_none e))
theorem Step.trans {a b c : Wd} (s : Step a b) (t : Step b c) : Step a c where
  keep := fun p o hw h => by
    refine t.keep p o (fun hb => ?_) (s.keep p o hw h)
    rcases s.wsub p hb with z | z
    · exact hw z
    · rw [h] at z; cases z
  trk := fun p h => t.trk p (s.trk p h)
  wsub := fun p h => by
    rcases t.wsub p h with z | z
    · exact s.wsub p z
    · exact .inr (s.none_back z)
  b1 := fun p h => t.b1 p (s.b1 p h)
  b2 := fun p h => by
    rcases t.b2 p h with z | z
    · exact s.b2 p z
    · exact .inr (s.none_back z)
/-- growth alone -/
structure PStep (w w' : Wd) : Prop where
  ext : ∀ b o, w.H b = some o → w'.H b = some o
  wle : ∀ p, w.W p → w'.W p
  b1 : ∀ p, w.B p → w'.B p
  wsub : ∀ p, w'.W p → w.W p ∨ w.H p = none
  b2 : ∀ p, w'.B p → w.B p ∨ w.H p = none
theorem PStep.ole {w w' : Wd} (s : PStep w w') (p : Addr) (h : w.O p) : w'.O p := h.imp (s.wle p) (s.b1 p)
theorem PStep.refl (w : Wd) : PStep w w := ⟨fun _ _ h => h, fun _ h => h, fun _ h => h, fun _ h => .inl h, fun _ h => .inl h⟩
theorem PStep.step {w w' : Wd} (s : PStep w w') : Step w w' := ⟨fun b o _ h => s.ext b o h, fun b h => by obtain ⟨o, e⟩ := some_of h; exact ne_none (s.ext b o e), s.wsub, s.b1, s.b2⟩
theorem PStep.osub {w w' : Wd} (s : PStep w w') (p : Addr) (h : w'.O p) : w.O p ∨ w.H p = none := s.step.osub p h
theorem PStep.trans {a b c : Wd} (s : PStep a b) (t : PStep b c) : PStep a c :=
  ⟨fun p o h => t.ext p o (s.ext p o h), fun p h => t.wle p (s.wle p h), fun p h => t.b1 p (s.b1 p h), (s.step.trans t.step).wsub, (s.step.trans t.step).b2⟩
/-- a new object -/
def Wd.put (w : Wd) (p : Addr) (o : HO) : Wd := { w with H := upd w.H p o }
theorem Wd.put_step {w : Wd} {p : Addr} {o : HO} (h : w.H p = none) : PStep w (w.put p o) :=
  ⟨fun b u e => by show upd w.H p o b = _; rw [upd_ne (ne_of_none e h)]; exact e, fun _ h => h, fun _ h => h, fun _ h => .inl h, fun _ h => .inl h⟩
theorem Wd.put_good {w : Wd} {p : Addr} {o : HO} (g : Good w) (h : w.H p = none) : Good (w.put p o) :=
  ⟨fun q hq => ((Wd.put_step (o := o) h).step).trk q (g.dom q hq)⟩
/-- a new object that is owned -/
def Wd.puts (w : Wd) (p : Addr) (o : HO) : Wd := ⟨fun q => w.W q ∨ q = p, w.B, upd w.H p o⟩
theorem Wd.puts_step {w : Wd} {p : Addr} {o : HO} (h : w.H p = none) : PStep w (w.puts p o) :=
  ⟨fun b u e => by show upd w.H p o b = _; rw [upd_ne (ne_of_none e h)]; exact e, fun _ h => .inl h, fun _ h => h,
    fun q hq => hq.elim .inl fun e => .inr (by rw [e]; exact h), fun q hq => .inl hq⟩
theorem Wd.puts_good {w : Wd} {p : Addr} {o : HO} (g : Good w) (h : w.H p = none) : Good (w.puts p o) :=
  ⟨fun q hq => by
    show upd w.H p o q ≠ none
    by_cases e : q = p
    · subst e; rw [upd_same]; exact fun z => nomatch z
    · rw [upd_ne e]
      rcases hq with (k | k) | k
      · exact g.dom q (.inl k)
      · exact absurd k e
      · exact g.dom q (.inr k)⟩
/-- an owned object is let be -/
def Wd.frz (w : Wd) (a : Addr) : Wd := ⟨fun q => w.W q ∧ q ≠ a, w.B, w.H⟩
theorem Wd.frz_step (w : Wd) (a : Addr) : Step w (w.frz a) := ⟨fun _ _ _ h => h, fun _ h => h, fun _ h => .inl h.1, fun _ h => h, fun _ h => .inl h⟩
theorem Wd.frz_good {w : Wd} (g : Good w) (a : Addr) : Good (w.frz a) := ⟨fun q h => g.dom q (h.imp (·.1) id)⟩

/-- a def's entry: the state, and the slots of the objects that were handed in to be changed -/
structure W0 extends Wd where
  pa : List (Nat × Addr)

/-! ### what a value is worth in a state -/
def KL (K : PySem.W.Frag) (a : Addr) (xs : List V) : Prop := ∃ (o : Obj) (its : Array Value) (n : Nat), K.lookup a = some o ∧ o.cls = .type "list" ∧ o.dict = none ∧ o.data = .seq its n ∧ its.size ≤ sizeLine ∧ Vals xs its.toList
def LvL (K : PySem.W.Frag) (w : Wd) (a : Addr) (xs : List V) : Prop := (Rd w.H a (.lst xs) ∧ ¬ w.O a) ∨ KL K a xs
def LvT (K : PySem.W.Frag) (w : Wd) (a : Addr) (xs : List V) : Prop := Rd w.H a (.tup xs) ∧ ¬ w.O a
theorem LvL.sq {K : PySem.W.Frag} {w : Wd} {a : Addr} {xs : List V} (h : LvL K w a xs) : SqL K w.H a xs := h.imp (·.1) id
theorem LvT.sq {K : PySem.W.Frag} {w : Wd} {a : Addr} {xs : List V} (h : LvT K w a xs) : SqT K w.H a xs := .inl h.1
/-- which address holds which def -/
class FnTab where
  holds : PySem.W.Frag → Nat → Addr → Prop
variable [FnTab]
mutual
inductive Rep (K : PySem.W.Frag) (w : Wd) : V → D → Prop
  | non : Rep K w .non .non
  | bl (b : Bool) : Rep K w (.bl b) (.bl b)
  | int (i : Int) : Rep K w (.int i) (.int i)
  | str (x : Str) : Rep K w (.str x) (.str x)
  | tup {a : Addr} {xs : List V} {ds : List D} : LvT K w a xs → Reps K w xs ds → Rep K w (.ref a) (.tup ds)
  | lst {a : Addr} {xs : List V} {ds : List D} : LvL K w a xs → Reps K w xs ds → Rep K w (.ref a) (.lst ds)
  | fn {f : Addr} {k : Nat} : FnTab.holds K k f → Rep K w (.ref f) (.fn k [])
inductive Reps (K : PySem.W.Frag) (w : Wd) : List V → List D → Prop
  | nil : Reps K w [] []
  | cons {v : V} {vs : List V} {d : D} {ds : List D} : Rep K w v d → Reps K w vs ds → Reps K w (v :: vs) (d :: ds)
end
section
variable {K : PySem.W.Frag} {w w' w1 w2 : Wd} {w0 : W0}
/-- what data live by -/
structure OStep (w w' : Wd) : Prop where
  keep : ∀ b o, ¬ w.O b → w.H b = some o → w'.H b = some o
  osub : ∀ p, w'.O p → w.O p ∨ w.H p = none
theorem Step.o (g : Good w) (s : Step w w') : OStep w w' := ⟨fun b o h e => s.keep b o (fun z => h (.inl z)) e, fun p h => s.osub p h⟩
theorem Rd.go {u : HO} {a : Addr} (s : OStep w w') (h : Rd w.H a u ∧ ¬ w.O a) : Rd w'.H a u ∧ ¬ w'.O a := by
  obtain ⟨h, n⟩ := h
  have nn : w.H a ≠ none := by
    rcases h with h | ⟨o, h⟩ <;> exact ne_none h
  refine ⟨?_, fun z => ?_⟩
  · rcases h with h | ⟨o, h⟩
    · exact .inl (s.keep a _ n h)
    · exact .inr ⟨o, s.keep a _ n h⟩
  · rcases s.osub a z with z | z
    · exact n z
    · exact nn z
theorem LvL.goO {a : Addr} {xs : List V} (h : LvL K w a xs) (s : OStep w w') : LvL K w' a xs := h.imp (Rd.go s) id
theorem LvT.goO {a : Addr} {xs : List V} (h : LvT K w a xs) (s : OStep w w') : LvT K w' a xs := Rd.go s h
mutual
theorem Rep.goO' (s : OStep w w') : ∀ {d : D} {v : V}, Rep K w v d → Rep K w' v d
  | .non, _, h => by cases h; exact .non
  | .bl _, _, h => by cases h; exact .bl _
  | .int _, _, h => by cases h; exact .int _
  | .str _, _, h => by cases h; exact .str _
  | .tup _, _, h => by cases h with | tup a b => exact .tup (a.goO s) (Reps.goO' s b)
  | .lst _, _, h => by cases h with | lst a b => exact .lst (a.goO s) (Reps.goO' s b)
  | .fn _ _, _, h => by cases h with | fn a => exact .fn a
theorem Reps.goO' (s : OStep w w') : ∀ {ds : List D} {vs : List V}, Reps K w vs ds → Reps K w' vs ds
  | [], _, h => by cases h; exact .nil
  | _ :: _, _, h => by cases h with | cons a b => exact .cons (Rep.goO' s a) (Reps.goO' s b)
end
theorem Rep.goO {d : D} {v : V} (h : Rep K w v d) (s : OStep w w') : Rep K w' v d := Rep.goO' s h
theorem Reps.goO {ds : List D} {vs : List V} (h : Reps K w vs ds) (s : OStep w w') : Reps K w' vs ds := Reps.goO' s h
theorem Rep.go {d : D} {v : V} (h : Rep K w v d) (g : Good w) (s : Step w w') : Rep K w' v d := h.goO (s.o g)
theorem Reps.go {ds : List D} {vs : List V} (h : Reps K w vs ds) (g : Good w) (s : Step w w') : Reps K w' vs ds := h.goO (s.o g)
theorem Reps.length : ∀ {vs : List V} {ds : List D}, Reps K w vs ds → vs.length = ds.length
  | _, _, .nil => rfl
  | _, _, .cons _ t => congrArg (· + 1) (Reps.length t)
theorem Reps.get : ∀ {vs : List V} {ds : List D} {i : Nat} {d : D}, Reps K w vs ds → ds[i]? = some d → ∃ v, vs[i]? = some v ∧ Rep K w v d
  | _, _, _, _, .nil, e => by simp at e
  | _, _, 0, d, .cons r _, e => by simp at e; subst e; exact ⟨_, rfl, r⟩
  | _, _, i + 1, d, .cons _ t, e => by
    obtain ⟨v, h1, h2⟩ := Reps.get (i := i) (d := d) t (by simpa using e)
    exact ⟨v, by simpa using h1, h2⟩
theorem Reps.getV : ∀ {vs : List V} {ds : List D} {i : Nat} {v : V}, Reps K w vs ds → vs[i]? = some v → ∃ d, ds[i]? = some d ∧ Rep K w v d
  | _, _, _, _, .nil, e => by simp at e
  | _, _, 0, d, .cons r _, e => by simp at e; subst e; exact ⟨_, rfl, r⟩
  | _, _, i + 1, d, .cons _ t, e => by
    obtain ⟨v, h1, h2⟩ := Reps.getV (i := i) t (by simpa using e)
    exact ⟨v, by simpa using h1, h2⟩
theorem Reps.append : ∀ {vs us : List V} {ds es : List D}, Reps K w vs ds → Reps K w us es → Reps K w (vs ++ us) (ds ++ es)
  | _, _, _, _, .nil, s => s
  | _, _, _, _, .cons r t, s => .cons r (Reps.append t s)
theorem Reps.take : ∀ {vs : List V} {ds : List D} (n : Nat), Reps K w vs ds → Reps K w (vs.take n) (ds.take n)
  | _, _, 0, _ => .nil
  | _, _, _ + 1, .nil => .nil
  | _, _, n + 1, .cons r t => .cons r (Reps.take n t)
theorem Reps.drop : ∀ {vs : List V} {ds : List D} (n : Nat), Reps K w vs ds → Reps K w (vs.drop n) (ds.drop n)
  | _, _, 0, r => r
  | _, _, _ + 1, .nil => .nil
  | _, _, n + 1, .cons _ t => Reps.drop n t
theorem Reps.set {v : V} {d : D} (r : Rep K w v d) : ∀ {vs : List V} {ds : List D} (i : Nat), Reps K w vs ds → Reps K w (vs.set i v) (ds.set i d)
  | _, _, _, .nil => .nil
  | _, _, 0, .cons _ t => .cons r t
  | _, _, i + 1, .cons q t => .cons q (Reps.set r i t)
theorem Reps.reverse : ∀ {vs : List V} {ds : List D}, Reps K w vs ds → Reps K w vs.reverse ds.reverse
  | _, _, .nil => .nil
  | _, _, .cons r t => by
    rw [List.reverse_cons, List.reverse_cons]
    exact (Reps.reverse t).append (.cons r .nil)
theorem Reps.erase : ∀ {vs : List V} {ds : List D} (i : Nat), Reps K w vs ds → Reps K w (vs.eraseIdx i) (ds.eraseIdx i)
  | _, _, _, .nil => .nil
  | _, _, 0, .cons _ t => t
  | _, _, i + 1, .cons q t => .cons q (Reps.erase i t)

/-! ### objects of one's own -/
def OwIs (K : PySem.W.Frag) (w : Wd) (a : Addr) : Ow → Prop
  | .lst ds => ∃ xs, w.H a = some (.lst xs) ∧ Reps K w xs ds
structure OwAt (K : PySem.W.Frag) (w : Wd) (a : Addr) (o : Ow) : Prop where
  wa : w.W a
  is : OwIs K w a o
theorem OwAt.oa {a : Addr} {o : Ow} (h : OwAt K w a o) : w.O a := .inl h.wa
theorem OwIs.trk {a : Addr} {o : Ow} (h : OwIs K w a o) : w.H a ≠ none := by
  cases o with
  | lst ds => obtain ⟨xs, e, _⟩ := h; exact ne_none e
theorem OwIs.grow {a : Addr} {o : Ow} (g : Good w) (h : OwIs K w a o) (s : PStep w w') : OwIs K w' a o := by
  cases o with
  | lst ds => obtain ⟨xs, e, r⟩ := h; exact ⟨xs, s.ext _ _ e, r.go g s.step⟩
theorem OwAt.grow {a : Addr} {o : Ow} (g : Good w) (h : OwAt K w a o) (s : PStep w w') : OwAt K w' a o := ⟨s.wle _ h.wa, h.is.grow g s⟩
/-- a step that leaves this object be -/
theorem OwIs.go {a : Addr} {o : Ow} (g : Good w) (h : OwIs K w a o) (s : Step w w') (e : w'.H a = w.H a) : OwIs K w' a o := by
  cases o with
  | lst ds => obtain ⟨xs, q, r⟩ := h; exact ⟨xs, e.trans q, r.go g s⟩
theorem OwIs.goO {a : Addr} {o : Ow} (h : OwIs K w a o) (s : OStep w w') (e : w'.H a = w.H a) : OwIs K w' a o := by
  cases o with
  | lst ds => obtain ⟨xs, q, r⟩ := h; exact ⟨xs, e.trans q, r.goO s⟩
/-- let be: an object is data -/
theorem OwAt.frz {a : Addr} {o : Ow} (g : Good w) (h : OwAt K w a o) (nb : ¬ w.B a) : Rep K (w.frz a) (.ref a) o.d := by
  have is := h.is
  cases o with
  | lst ds =>
    obtain ⟨xs, e, r⟩ := is
    exact .lst (.inl ⟨.inl e, fun z => z.elim (fun k => k.2 rfl) nb⟩) (r.go g (w.frz_step a))

/-! ### the slots of a def -/
def isO : Option Sl → Bool
  | some (.own _) => true
  | some (.arg _) => true
  | _ => false
structure EnvOk (K : PySem.W.Frag) (w0 : W0) (w : Wd) (σ : L2.St) (env : List Sl) : Prop where
  g0 : Good w0.toWd
  good : Good w
  st : Step w0.toWd w
  len : σ.length = env.length
  val : ∀ (i : Nat) (d : D), env[i]? = some (Sl.val d) → ∃ v, σ[i]? = some (some v) ∧ Rep K w v d
  own : ∀ (i : Nat) (o : Ow), env[i]? = some (Sl.own o) → ∃ a : Addr, σ[i]? = some (some (V.ref a)) ∧ (w0.H a = none ∧ ¬ w.B a) ∧ OwAt K w a o
  arg : ∀ (i : Nat) (o : Ow), env[i]? = some (Sl.arg o) → ∃ a : Addr, σ[i]? = some (some (V.ref a)) ∧ (w0.H a ≠ none ∧ ¬ w.B a) ∧ OwAt K w a o
  inj : ∀ (i j : Nat) (a : Addr), isO env[i]? = true → isO env[j]? = true → σ[i]? = some (some (V.ref a)) → σ[j]? = some (some (V.ref a)) → i = j
  pin : ∀ p ∈ w0.pa, σ[p.1]? = some (some (V.ref p.2)) ∧ ∃ o : Ow, env[p.1]? = some (Sl.arg o)
variable {σ : L2.St} {env env' env1 : List Sl}
theorem EnvOk.owned {i : Nat} (e : EnvOk K w0 w σ env) (h : isO env[i]? = true) : ∃ (a : Addr) (o : Ow), σ[i]? = some (some (V.ref a)) ∧ (OwAt K w a o ∧ ¬ w.B a) ∧ (env[i]? = some (Sl.own o) ∨ env[i]? = some (Sl.arg o)) := by
  cases q : env[i]? with
  | none => rw [q] at h; cases h
  | some x =>
    cases x with
    | no => rw [q] at h; cases h
    | val d => rw [q] at h; cases h
    | own o => obtain ⟨a, h1, h3, h2⟩ := e.own i o q; exact ⟨a, o, h1, ⟨h2, h3.2⟩, .inl rfl⟩
    | arg o => obtain ⟨a, h1, h3, h2⟩ := e.arg i o q; exact ⟨a, o, h1, ⟨h2, h3.2⟩, .inr rfl⟩
theorem EnvOk.grow (e : EnvOk K w0 w σ env) (s : PStep w w') (g : Good w') : EnvOk K w0 w' σ env where
  g0 := e.g0
  good := g
  st := e.st.trans s.step
  len := e.len
  val := fun i d h => let ⟨v, h1, h2⟩ := e.val i d h; ⟨v, h1, h2.go e.good s.step⟩
  own := fun i o h => let ⟨a, h1, h2, h3⟩ := e.own i o h; ⟨a, h1, ⟨h2.1, fun z => (s.b2 a z).elim h2.2 h3.is.trk⟩, h3.grow e.good s⟩
  arg := fun i o h => let ⟨a, h1, h2, h3⟩ := e.arg i o h; ⟨a, h1, ⟨h2.1, fun z => (s.b2 a z).elim h2.2 h3.is.trk⟩, h3.grow e.good s⟩
  inj := e.inj
  pin := e.pin
/-- an object that no slot has is let be -/
theorem EnvOk.frz {a : Addr} (e : EnvOk K w0 w σ env) (hd : ∀ (i : Nat), isO env[i]? = true → σ[i]? ≠ some (some (V.ref a))) : EnvOk K w0 (w.frz a) σ env where
  g0 := e.g0
  good := Wd.frz_good e.good a
  st := e.st.trans (w.frz_step a)
  len := e.len
  val := fun i d h => let ⟨v, h1, h2⟩ := e.val i d h; ⟨v, h1, h2.go e.good (w.frz_step a)⟩
  own := fun i o h => by
    obtain ⟨b, h1, h2, h3⟩ := e.own i o h
    have nb : b ≠ a := fun z => hd i (by rw [h]; rfl) (by rw [h1, z])
    exact ⟨b, h1, h2, ⟨h3.wa, nb⟩, h3.is.go e.good (w.frz_step a) rfl⟩
  arg := fun i o h => by
    obtain ⟨b, h1, h2, h3⟩ := e.arg i o h
    have nb : b ≠ a := fun z => hd i (by rw [h]; rfl) (by rw [h1, z])
    exact ⟨b, h1, h2, ⟨h3.wa, nb⟩, h3.is.go e.good (w.frz_step a) rfl⟩
  inj := e.inj
  pin := e.pin

/-! ### expressions -/
abbrev Ex := List Sl → Option (R × List Sl)
abbrev Ev := List Sl → Option (D × List Sl)
abbrev Et := List Sl → Option (Bool × List Sl)
def RepR (K : PySem.W.Frag) (w0 : W0) (w' : Wd) (σ : L2.St) (env' : List Sl) (v : V) : R → Prop
  | .val d => Rep K w' v d
  | .own o => ∃ a : Addr, v = .ref a ∧ (w0.H a = none ∧ ¬ w'.B a) ∧ OwAt K w' a o ∧ ∀ (i : Nat), isO env'[i]? = true → σ[i]? ≠ some (some (V.ref a))
def EM (K : PySem.W.Frag) (te : TE) (f : Ex) : Prop := ∀ (w0 : W0) w σ env, EnvOk K w0 w σ env → ∀ r env', f env = some (r, env') →
  ∀ Q : VK, (∀ v w', EnvOk K w0 w' σ env' → Step w w' → RepR K w0 w' σ env' v r → Q v w'.H) → te σ w.H Q
def EV (K : PySem.W.Frag) (te : TE) (f : Ev) : Prop := ∀ (w0 : W0) w σ env, EnvOk K w0 w σ env → ∀ d env', f env = some (d, env') →
  ∀ Q : VK, (∀ v w', EnvOk K w0 w' σ env' → Step w w' → Rep K w' v d → Q v w'.H) → te σ w.H Q
def TM (K : PySem.W.Frag) (tt : TT) (f : Et) : Prop := ∀ (w0 : W0) w σ env, EnvOk K w0 w σ env → ∀ b env', f env = some (b, env') →
  ∀ Q : Bool → Hp → Prop, (∀ w', EnvOk K w0 w' σ env' → Step w w' → Q b w'.H) → tt σ w.H Q
/-- as data -/
def vf (f : Ex) : Ev := fun env => match f env with
  | some (r, e) => some (r.d, e)
  | none => none
theorem EM.v {te : TE} {f : Ex} (h : EM K te f) : EV K te (vf f) := by
  intro w0 w σ env e d env' hf Q q
  unfold vf at hf
  cases hr : f env with
  | none => rw [hr] at hf; cases hf
  | some p =>
    obtain ⟨r, e1⟩ := p
    rw [hr] at hf
    cases hf
    refine h w0 w σ env e r env' hr Q fun v w' ok s rr => ?_
    cases r with
    | val d => exact q v w' ok s rr
    | own o =>
      obtain ⟨a, rfl, hn, ha, hd⟩ := rr
      exact q _ (w'.frz a) (ok.frz hd) (s.trans (w'.frz_step a)) (ha.frz ok.good hn.2)
/-- data are told -/
def rv (f : Ev) : Ex := fun env => match f env with
  | some (d, e) => some (.val d, e)
  | none => none
theorem EV.m {te : TE} {f : Ev} (h : EV K te f) : EM K te (rv f) := by
  intro w0 w σ env e r env' hf Q q
  unfold rv at hf
  cases hr : f env with
  | none => rw [hr] at hf; cases hf
  | some p =>
    obtain ⟨d, e1⟩ := p
    rw [hr] at hf
    cases hf
    exact h w0 w σ env e d env' hr Q fun v w' ok s rr => q v w' ok s rr
end
end Vz
set_option maxRecDepth 100000
set_option maxHeartbeats 1000000
namespace Vz
open PySem PySem.Spec PyProof.Rows L2
variable [FnTab]
section
variable {K : PySem.W.Frag} {w w' w1 w2 : Wd} {w0 : W0} {σ : L2.St} {env env' env1 : List Sl}

/-! ### how an operator's answer lies -/
def RepZ (K : PySem.W.Frag) (w w' : Wd) (v : V) : R → Prop
  | .val d => Rep K w' v d
  | .own o => ∃ a : Addr, v = .ref a ∧ (w.H a = none ∧ ¬ w'.B a) ∧ OwAt K w' a o
theorem EnvOk.fresh_ne (e : EnvOk K w0 w σ env) {a : Addr} (h : w.H a = none) : ∀ i : Nat, isO env[i]? = true → σ[i]? ≠ some (some (V.ref a)) := fun i hi q => by
  obtain ⟨b, o, h1, h2, _⟩ := e.owned hi
  rw [h1] at q
  cases q
  exact h2.1.is.trk h
theorem RepZ.r (e : EnvOk K w0 w σ env) {v : V} {z : R} (h : RepZ K w w' v z) : RepR K w0 w' σ env v z := by
  cases z with
  | val d => exact h
  | own o => obtain ⟨a, rfl, h1, h2⟩ := h; exact ⟨a, rfl, ⟨e.st.none_back h1.1, h1.2⟩, h2, e.fresh_ne h1.1⟩
def OpM (K : PySem.W.Frag) (r : R2) (op : D → D → Option R) : Prop := ∀ w, Good w → ∀ x y a b, Rep K w x a → Rep K w y b → ∀ z, op a b = some z →
  ∀ Q : VK, (∀ v w', PStep w w' → Good w' → RepZ K w w' v z → Q v w'.H) → r x y w.H Q
def UnM (K : PySem.W.Frag) (r : V → Hp → VK → Prop) (op : D → Option R) : Prop := ∀ w, Good w → ∀ x a, Rep K w x a → ∀ z, op a = some z →
  ∀ Q : VK, (∀ v w', PStep w w' → Good w' → RepZ K w w' v z → Q v w'.H) → r x w.H Q
def ClM (K : PySem.W.Frag) (r : List V → Hp → VK → Prop) (op : List D → Option R) : Prop := ∀ w, Good w → ∀ xs as, Reps K w xs as → ∀ z, op as = some z →
  ∀ Q : VK, (∀ v w', PStep w w' → Good w' → RepZ K w w' v z → Q v w'.H) → r xs w.H Q

/-! ### expressions -/
def e_c (d : D) : Ex := fun env => some (.val d, env)
theorem em_int {i : Int} : EM K (tC (.int i)) (e_c (.int i)) := fun w0 w σ env e r env' h Q q => by cases h; exact q _ w e (.refl w) (.int i)
theorem em_bl {b : Bool} : EM K (tC (.bl b)) (e_c (.bl b)) := fun w0 w σ env e r env' h Q q => by cases h; exact q _ w e (.refl w) (.bl b)
theorem em_str {x : Str} : EM K (tC (.str x)) (e_c (.str x)) := fun w0 w σ env e r env' h Q q => by cases h; exact q _ w e (.refl w) (.str x)
theorem em_non : EM K (tC .non) (e_c .non) := fun w0 w σ env e r env' h Q q => by cases h; exact q _ w e (.refl w) .non
/-- a name -/
def e_v (i : Nat) : Ex := fun env => match env[i]? with
  | some (.val d) => some (.val d, env)
  | _ => none
theorem em_v {i : Nat} : EM K (tVar i) (e_v i) := by
  intro w0 w σ env e r env' h Q q
  unfold e_v at h
  cases hi : env[i]? with
  | none => rw [hi] at h; cases h
  | some x =>
    rw [hi] at h
    cases x with
    | val d =>
      cases h
      obtain ⟨v, h1, h2⟩ := e.val i d hi
      exact ⟨v, h1, q v w e (.refl w) h2⟩
    | no => cases h
    | own _ => cases h
    | arg _ => cases h
/-- an object of one's own is given away -/
def e_take (i : Nat) : Ex := fun env => match env[i]? with
  | some (.own o) => some (.own o, env.set i .no)
  | _ => none
/-- .. is let be -/
def e_fz (i : Nat) : Ex := fun env => match env[i]? with
  | some (.own o) => some (.val o.d, env.set i (.val o.d))
  | some (.val d) => some (.val d, env)
  | _ => none
theorem get_set_ne {α : Type} {l : List α} {i j : Nat} {x : α} (h : i ≠ j) : (l.set i x)[j]? = l[j]? := by rw [List.getElem?_set_ne h]
theorem get_set_eq {α : Type} {l : List α} {i : Nat} {x y : α} (h : l[i]? = some y) : (l.set i x)[i]? = some x := by
  rw [List.getElem?_set_self]
  exact (List.getElem?_eq_some_iff.mp h).1
/-- a slot that held no object of one's own, or one that goes, gets what holds no such object -/
theorem EnvOk.put0 {i : Nat} {x : Sl} (e : EnvOk K w0 w σ env) (hx : ∀ o, x ≠ .own o ∧ x ≠ .arg o) (hn : ∀ o : Ow, env[i]? ≠ some (Sl.arg o)) (hv : ∀ d, x = .val d → ∃ v, σ[i]? = some (some v) ∧ Rep K w v d) : EnvOk K w0 w σ (env.set i x) := by
  have key : ∀ (j : Nat) (y : Sl), (env.set i x)[j]? = some y → (j ≠ i ∧ env[j]? = some y) ∨ (j = i ∧ y = x) := fun j y h => by
    by_cases hj : j = i
    · subst hj
      rw [List.getElem?_set] at h
      simp at h
      exact .inr ⟨rfl, h.2.symm⟩
    · rw [get_set_ne (Ne.symm hj)] at h
      exact .inl ⟨hj, h⟩
  have keyO : ∀ j : Nat, isO (env.set i x)[j]? = true → j ≠ i ∧ isO env[j]? = true := fun j h => by
    cases q : (env.set i x)[j]? with
    | none => rw [q] at h; cases h
    | some y =>
      rcases key j y q with ⟨h1, h2⟩ | ⟨h1, h2⟩
      · rw [q] at h; rw [h2]; exact ⟨h1, h⟩
      · rw [q, h2] at h
        cases x with
        | no => cases h
        | val _ => cases h
        | own o => exact absurd rfl (hx o).1
        | arg o => exact absurd rfl (hx o).2
  refine ⟨e.g0, e.good, e.st, by rw [List.length_set]; exact e.len, fun j d h => ?_, fun j o h => ?_, fun j o h => ?_, fun j k a h1 h2 h3 h4 => e.inj j k a (keyO j h1).2 (keyO k h2).2 h3 h4, fun p hp => ?_⟩
  · rcases key j _ h with ⟨h1, h2⟩ | ⟨h1, h2⟩
    · exact e.val j d h2
    · subst h1; exact hv d h2.symm
  · rcases key j _ h with ⟨h1, h2⟩ | ⟨h1, h2⟩
    · exact e.own j o h2
    · exact absurd h2.symm (hx o).1
  · rcases key j _ h with ⟨h1, h2⟩ | ⟨h1, h2⟩
    · exact e.arg j o h2
    · exact absurd h2.symm (hx o).2
  · obtain ⟨h1, o, h2⟩ := e.pin p hp
    refine ⟨h1, o, ?_⟩
    rw [get_set_ne (fun z => hn o (by rw [z]; exact h2))]
    exact h2
theorem em_take {i : Nat} : EM K (tVar i) (e_take i) := by
  intro w0 w σ env e r env' h Q q
  unfold e_take at h
  cases hi : env[i]? with
  | none => rw [hi] at h; cases h
  | some x =>
    rw [hi] at h
    cases x with
    | own o =>
      cases h
      obtain ⟨a, h1, h2, h3⟩ := e.own i o hi
      refine ⟨_, h1, q _ w (e.put0 (fun _ => ⟨(fun z => nomatch z), (fun z => nomatch z)⟩) (fun _ z => by rw [hi] at z; cases z) fun _ z => nomatch z) (.refl w) ⟨a, rfl, h2, h3, fun j hj z => ?_⟩⟩
      by_cases hji : j = i
      · subst hji
        rw [get_set_eq hi] at hj
        cases hj
      · rw [get_set_ne (Ne.symm hji)] at hj
        exact hji (e.inj j i a hj (by rw [hi]; rfl) z h1)
    | no => cases h
    | val _ => cases h
    | arg _ => cases h
theorem em_fz {i : Nat} : EM K (tVar i) (e_fz i) := by
  intro w0 w σ env e r env' h Q q
  unfold e_fz at h
  cases hi : env[i]? with
  | none => rw [hi] at h; cases h
  | some x =>
    rw [hi] at h
    cases x with
    | own o =>
      cases h
      obtain ⟨a, h1, h2, h3⟩ := e.own i o hi
      have e1 : EnvOk K w0 w σ (env.set i .no) := e.put0 (fun _ => ⟨(fun z => nomatch z), (fun z => nomatch z)⟩) (fun _ z => by rw [hi] at z; cases z) fun _ z => nomatch z
      have hd : ∀ j : Nat, isO (env.set i .no)[j]? = true → σ[j]? ≠ some (some (V.ref a)) := fun j hj z => by
        by_cases hji : j = i
        · subst hji
          rw [get_set_eq hi] at hj
          cases hj
        · rw [get_set_ne (Ne.symm hji)] at hj
          exact hji (e.inj j i a hj (by rw [hi]; rfl) z h1)
      have e2 := e1.frz hd
      have rp := h3.frz e.good h2.2
      have e3 : EnvOk K w0 (w.frz a) σ ((env.set i .no).set i (.val o.d)) := e2.put0 (fun _ => ⟨(fun z => nomatch z), (fun z => nomatch z)⟩) (fun _ z => by rw [get_set_eq hi] at z; cases z) fun d z => by cases z; exact ⟨_, h1, rp⟩
      rw [List.set_set] at e3
      exact ⟨_, h1, q _ (w.frz a) e3 (w.frz_step a) rp⟩
    | val d =>
      cases h
      obtain ⟨v, h1, h2⟩ := e.val i d hi
      exact ⟨v, h1, q v w e (.refl w) h2⟩
    | no => cases h
    | arg _ => cases h

def e2 (op : D → D → Option R) (f g : Ex) : Ex := fun env => (vf f env).bind fun p => (vf g p.2).bind fun q => (op p.1 q.1).bind fun z => some (z, q.2)
theorem em_op {r : R2} {op : D → D → Option R} {ta tb : TE} {f g : Ex} (ho : OpM K r op) (ha : EM K ta f) (hb : EM K tb g) : EM K (tOp r ta tb) (e2 op f g) := by
  intro w0 w σ env e z env' h Q q
  obtain ⟨⟨x, e1⟩, h1, h⟩ := Option.bind_eq_some_iff.mp h
  obtain ⟨⟨y, e2⟩, h2, h⟩ := Option.bind_eq_some_iff.mp h
  obtain ⟨z', h3, h⟩ := Option.bind_eq_some_iff.mp h
  cases h
  refine ha.v w0 w σ env e x e1 h1 _ fun v w1 E1 s1 r1 => ?_
  refine hb.v w0 w1 σ e1 E1 y _ h2 _ fun u w2 E2 s2 r2 => ?_
  refine ho w2 E2.good v u x y (r1.go E1.good s2) r2 _ h3 Q fun t w3 s3 g3 r3 => ?_
  exact q t w3 (E2.grow s3 g3) ((s1.trans s2).trans s3.step) (r3.r E2)
def e1 (op : D → Option R) (f : Ex) : Ex := fun env => (vf f env).bind fun p => (op p.1).bind fun z => some (z, p.2)
theorem em_un {r : V → Hp → VK → Prop} {op : D → Option R} {ta : TE} {f : Ex} (ho : UnM K r op) (ha : EM K ta f) : EM K (tUn r ta) (e1 op f) := by
  intro w0 w σ env e z env' h Q q
  obtain ⟨⟨x, e1⟩, h1, h⟩ := Option.bind_eq_some_iff.mp h
  obtain ⟨z', h3, h⟩ := Option.bind_eq_some_iff.mp h
  cases h
  refine ha.v w0 w σ env e x _ h1 _ fun v w1 E1 s1 r1 => ?_
  refine ho w1 E1.good v x r1 _ h3 Q fun t w3 s3 g3 r3 => ?_
  exact q t w3 (E1.grow s3 g3) (s1.trans s3.step) (r3.r E1)

/-! ### argument lists -/
abbrev Ea := List Sl → Option (List D × List Sl)
def AM (K : PySem.W.Frag) (ta : TA) (f : Ea) : Prop := ∀ w0 w σ env, EnvOk K w0 w σ env → ∀ ds env', f env = some (ds, env') →
  ∀ Q : List V → Hp → Prop, (∀ vs w', EnvOk K w0 w' σ env' → Step w w' → Reps K w' vs ds → Q vs w'.H) → ta σ w.H Q
def a_nil : Ea := fun env => some ([], env)
def a_cons (f : Ex) (g : Ea) : Ea := fun env => (vf f env).bind fun p => (g p.2).bind fun q => some (p.1 :: q.1, q.2)
theorem am_nil : AM K tNil a_nil := fun w0 w σ env e ds env' h Q q => by cases h; exact q [] w e (.refl w) .nil
theorem am_cons {te : TE} {ta : TA} {f : Ex} {g : Ea} (hf : EM K te f) (hg : AM K ta g) : AM K (tCons te ta) (a_cons f g) := by
  intro w0 w σ env e ds env' h Q q
  obtain ⟨⟨x, e1⟩, h1, h⟩ := Option.bind_eq_some_iff.mp h
  obtain ⟨⟨y, e2⟩, h2, h⟩ := Option.bind_eq_some_iff.mp h
  cases h
  refine hf.v w0 w σ env e x e1 h1 _ fun v w1 E1 s1 r1 => ?_
  refine hg w0 w1 σ e1 E1 y _ h2 _ fun vs w2 E2 s2 r2 => ?_
  exact q _ w2 E2 (s1.trans s2) (.cons (r1.go E1.good s2) r2)
def eB (op : List D → Option R) (f : Ea) : Ex := fun env => (f env).bind fun p => (op p.1).bind fun z => some (z, p.2)
theorem em_B {r : List V → Hp → VK → Prop} {op : List D → Option R} {ta : TA} {f : Ea} (ho : ClM K r op) (ha : AM K ta f) : EM K (tCB r ta) (eB op f) := by
  intro w0 w σ env e z env' h Q q
  obtain ⟨⟨x, e1⟩, h1, h⟩ := Option.bind_eq_some_iff.mp h
  obtain ⟨z', h3, h⟩ := Option.bind_eq_some_iff.mp h
  cases h
  refine ha w0 w σ env e x _ h1 _ fun v w1 E1 s1 r1 => ?_
  refine ho w1 E1.good v x r1 _ h3 Q fun t w3 s3 g3 r3 => ?_
  exact q t w3 (E1.grow s3 g3) (s1.trans s3.step) (r3.r E1)
/-- a written tuple, list -/
def o_tup (ds : List D) : Option R := if ds.length ≤ 100000 then some (.val (.tup ds)) else none
def o_lst (ds : List D) : Option R := if ds.length ≤ 100000 then some (.own (.lst ds)) else none
omit [FnTab] in
theorem line5 : 100000 ≤ sizeLine := by rw [sizeLine_eq]; decide
theorem put_tup {p : Addr} {xs : List V} {ds : List D} (g : Good w) (hp : w.H p = none) (r : Reps K w xs ds) : Rep K (w.put p (.tup xs)) (.ref p) (.tup ds) :=
  .tup ⟨.inl upd_same, fun z => g.dom p z hp⟩ (r.go g (Wd.put_step hp).step)
theorem put_lst {p : Addr} {xs : List V} {ds : List D} (g : Good w) (hp : w.H p = none) (r : Reps K w xs ds) : OwAt K (w.puts p (.lst xs)) p (.lst ds) :=
  ⟨.inr rfl, xs, upd_same, r.go g (Wd.puts_step hp).step⟩
theorem em_tup {ta : TA} {f : Ea} (ha : AM K ta f) : EM K (tTup ta) (eB o_tup f) := by
  have h : ClM K (fun xs H Q => xs.length ≤ sizeLine ∧ ∀ p, H p = none → Q (.ref p) (upd H p (.tup xs))) o_tup := by
    intro w g xs as r z h Q q
    unfold o_tup at h
    split at h
    · rename_i hl
      cases h
      refine ⟨by rw [r.length]; exact Nat.le_trans hl line5, fun p hp => ?_⟩
      exact q _ (w.put p (.tup xs)) (Wd.put_step hp) (Wd.put_good g hp) (put_tup g hp r)
    · cases h
  exact em_B h ha
theorem em_lst {ta : TA} {f : Ea} (ha : AM K ta f) : EM K (tLst ta) (eB o_lst f) := by
  have h : ClM K (fun xs H Q => xs.length ≤ sizeLine ∧ ∀ p, H p = none → Q (.ref p) (upd H p (.lst xs))) o_lst := by
    intro w g xs as r z h Q q
    unfold o_lst at h
    split at h
    · rename_i hl
      cases h
      refine ⟨by rw [r.length]; exact Nat.le_trans hl line5, fun p hp => ?_⟩
      exact q _ (w.puts p (.lst xs)) (Wd.puts_step hp) (Wd.puts_good g hp) ⟨p, rfl, ⟨hp, fun z => g.dom p (.inr z) hp⟩, put_lst g hp r⟩
    · cases h
  exact em_B h ha

/-! ### tests -/
def bf (f : Ex) : Et := fun env => (vf f env).bind fun p => match p.1 with
  | .bl b => some (b, p.2)
  | _ => none
theorem bf_case {f : Ex} {b : Bool} (h : bf f env = some (b, env')) : vf f env = some (.bl b, env') := by
  obtain ⟨⟨x, e1⟩, h1, h⟩ := Option.bind_eq_some_iff.mp h
  cases x with
  | bl c => cases h; exact h1
  | non => cases h
  | int _ => cases h
  | str _ => cases h
  | tup _ => cases h
  | lst _ => cases h
  | fn _ _ => cases h
theorem tm_test {te : TE} {f : Ex} (h : EM K te f) : TM K (tTest te) (bf f) := by
  intro w0 w σ env e b env' hb Q q
  refine h.v w0 w σ env e _ _ (bf_case hb) _ fun v w1 E1 s1 r1 => ?_
  cases r1
  exact ⟨b, rfl, q w1 E1 s1⟩
theorem tm_B {te : TE} {f : Ex} (h : EM K te f) : TM K (tB te) (bf f) := by
  intro w0 w σ env e b env' hb Q q
  refine h.v w0 w σ env e _ _ (bf_case hb) _ fun v w1 E1 s1 r1 => ?_
  cases r1
  exact ⟨b, rfl, q w1 E1 s1⟩
def t_and (f g : Et) : Et := fun env => (f env).bind fun p => if p.1 = true then g p.2 else some (false, p.2)
def t_or (f g : Et) : Et := fun env => (f env).bind fun p => if p.1 = true then some (true, p.2) else g p.2
def t_not (f : Et) : Et := fun env => (f env).bind fun p => some (!p.1, p.2)
theorem tm_and {t u : TT} {f g : Et} (h1 : TM K t f) (h2 : TM K u g) : TM K (tAnd t u) (t_and f g) := by
  intro w0 w σ env e b env' h Q q
  obtain ⟨⟨x, e1⟩, hx, h⟩ := Option.bind_eq_some_iff.mp h
  refine h1 w0 w σ env e x e1 hx _ fun w1 E1 s1 => ?_
  cases x with
  | true =>
    rw [if_pos rfl] at h ⊢
    exact h2 w0 w1 σ e1 E1 b env' h Q fun w2 E2 s2 => q w2 E2 (s1.trans s2)
  | false =>
    rw [if_neg Bool.false_ne_true] at h ⊢
    cases h
    exact q w1 E1 s1
theorem tm_or {t u : TT} {f g : Et} (h1 : TM K t f) (h2 : TM K u g) : TM K (tOr t u) (t_or f g) := by
  intro w0 w σ env e b env' h Q q
  obtain ⟨⟨x, e1⟩, hx, h⟩ := Option.bind_eq_some_iff.mp h
  refine h1 w0 w σ env e x e1 hx _ fun w1 E1 s1 => ?_
  cases x with
  | true =>
    rw [if_pos rfl] at h ⊢
    cases h
    exact q w1 E1 s1
  | false =>
    rw [if_neg Bool.false_ne_true] at h ⊢
    exact h2 w0 w1 σ e1 E1 b env' h Q fun w2 E2 s2 => q w2 E2 (s1.trans s2)
theorem tm_not {t : TT} {f : Et} (h1 : TM K t f) : TM K (tNot t) (t_not f) := by
  intro w0 w σ env e b env' h Q q
  obtain ⟨⟨x, e1⟩, hx, h⟩ := Option.bind_eq_some_iff.mp h
  cases h
  exact h1 w0 w σ env e x _ hx _ fun w1 E1 s1 => q w1 E1 s1
/-- tests as values -/
def tv (f : Et) : Ex := fun env => (f env).bind fun p => some (.val (.bl p.1), p.2)
theorem em_andV {ta tb : TE} {f g : Ex} (h1 : EM K ta f) (h2 : EM K tb g) : EM K (tAndV ta tb) (tv (t_and (bf f) (bf g))) := by
  intro w0 w σ env e r env' hh Q q
  obtain ⟨⟨b, e2⟩, h', hr⟩ := Option.bind_eq_some_iff.mp hh
  obtain ⟨⟨x, e1⟩, hx, h⟩ := Option.bind_eq_some_iff.mp h'
  cases hr
  refine h1.v w0 w σ env e _ _ (bf_case hx) _ fun v w1 E1 s1 r1 => ?_
  cases r1
  refine ⟨x, rfl, ?_⟩
  cases x with
  | true =>
    rw [if_pos rfl] at h ⊢
    exact h2.v w0 w1 σ e1 E1 _ _ (bf_case h) Q fun v w2 E2 s2 r2 => q v w2 E2 (s1.trans s2) r2
  | false =>
    rw [if_neg Bool.false_ne_true] at h ⊢
    cases h
    exact q _ w1 E1 s1 (.bl false)
theorem em_orV {ta tb : TE} {f g : Ex} (h1 : EM K ta f) (h2 : EM K tb g) : EM K (tOrV ta tb) (tv (t_or (bf f) (bf g))) := by
  intro w0 w σ env e r env' hh Q q
  obtain ⟨⟨b, e2⟩, h', hr⟩ := Option.bind_eq_some_iff.mp hh
  obtain ⟨⟨x, e1⟩, hx, h⟩ := Option.bind_eq_some_iff.mp h'
  cases hr
  refine h1.v w0 w σ env e _ _ (bf_case hx) _ fun v w1 E1 s1 r1 => ?_
  cases r1
  refine ⟨x, rfl, ?_⟩
  cases x with
  | true =>
    rw [if_pos rfl] at h ⊢
    cases h
    exact q _ w1 E1 s1 (.bl true)
  | false =>
    rw [if_neg Bool.false_ne_true] at h ⊢
    exact h2.v w0 w1 σ e1 E1 _ _ (bf_case h) Q fun v w2 E2 s2 r2 => q v w2 E2 (s1.trans s2) r2
theorem em_notV {ta : TE} {f : Ex} (h1 : EM K ta f) : EM K (tNotV ta) (tv (t_not (bf f))) := by
  intro w0 w σ env e r env' hh Q q
  obtain ⟨⟨b, e2⟩, h', hr⟩ := Option.bind_eq_some_iff.mp hh
  obtain ⟨⟨x, e1⟩, hx, h⟩ := Option.bind_eq_some_iff.mp h'
  cases hr
  cases h
  refine h1.v w0 w σ env e _ _ (bf_case hx) _ fun v w1 E1 s1 r1 => ?_
  cases r1
  exact ⟨x, rfl, q _ w1 E1 s1 (.bl _)⟩
def e_if (c : Et) (f g : Ex) : Ex := fun env => (c env).bind fun p => if p.1 = true then f p.2 else g p.2
theorem em_if {t : TT} {ta tb : TE} {c : Et} {f g : Ex} (hc : TM K t c) (hf : EM K ta f) (hg : EM K tb g) : EM K (tIf t ta tb) (e_if c f g) := by
  intro w0 w σ env e r env' h Q q
  obtain ⟨⟨x, e1⟩, hx, h⟩ := Option.bind_eq_some_iff.mp h
  refine hc w0 w σ env e x e1 hx _ fun w1 E1 s1 => ?_
  cases x with
  | true =>
    rw [if_pos rfl] at h ⊢
    exact hf w0 w1 σ e1 E1 r env' h Q fun v w2 E2 s2 => q v w2 E2 (s1.trans s2)
  | false =>
    rw [if_neg Bool.false_ne_true] at h ⊢
    exact hg w0 w1 σ e1 E1 r env' h Q fun v w2 E2 s2 => q v w2 E2 (s1.trans s2)
/-- truth of data -/
def D.tru : D → Option Bool
  | .non => some false
  | .bl b => some b
  | .int i => some (i != 0)
  | .str x => if x.length ≤ 100000 then some ((x.length : Int) != 0) else none
  | .tup ds => some (!ds.isEmpty)
  | .lst ds => some (!ds.isEmpty)
  | .fn _ _ => none
def t_tru (f : Ex) : Et := fun env => (vf f env).bind fun p => (p.1.tru).bind fun b => some (b, p.2)
theorem Reps.isEmpty {vs : List V} {ds : List D} (r : Reps K w vs ds) : vs.isEmpty = ds.isEmpty := by
  cases r <;> rfl
theorem Rep.tru {v : V} {d : D} {b : Bool} (r : Rep K w v d) (h : d.tru = some b) : TruV K v w.H b := by
  cases r with
  | non => cases h; rfl
  | bl _ => cases h; rfl
  | int _ => cases h; rfl
  | str x =>
    unfold D.tru at h
    simp only at h
    split at h
    · rename_i hl
      cases h
      exact ⟨Nat.le_trans hl line5, rfl⟩
    · cases h
  | fn _ => cases h
  | tup a b => cases h; exact .inr (.inl ⟨_, a.sq, by rw [b.isEmpty]⟩)
  | lst a b => cases h; exact .inl ⟨_, a.sq, by rw [b.isEmpty]⟩
theorem tm_tru {te : TE} {f : Ex} (h : EM K te f) : TM K (fun σ H Q => te σ H fun x H' => ∃ k, TruV K x H' k ∧ Q k H') (t_tru f) := by
  intro w0 w σ env e b env' hb Q q
  obtain ⟨⟨x, e1⟩, h1, hb⟩ := Option.bind_eq_some_iff.mp hb
  obtain ⟨c, h2, hb⟩ := Option.bind_eq_some_iff.mp hb
  cases hb
  refine h.v w0 w σ env e _ _ h1 _ fun v w1 E1 s1 r1 => ?_
  exact ⟨b, r1.tru h2, q w1 E1 s1⟩
/-- a < b < c -/
def e_chain (o1 o2 : D → D → Option R) (f g h : Ex) : Ex := fun env => (vf f env).bind fun p => (vf g p.2).bind fun q => (o1 p.1 q.1).bind fun z => match z with
  | .val (.bl true) => (vf h q.2).bind fun u => (o2 q.1 u.1).bind fun z' => match z' with
    | .val (.bl b) => some (.val (.bl b), u.2)
    | _ => none
  | .val (.bl false) => some (.val (.bl false), q.2)
  | _ => none
theorem em_chain {r r' : R2} {o1 o2 : D → D → Option R} {ta tb tc : TE} {f g h : Ex} (h1 : OpM K r o1) (h2 : OpM K r' o2) (ha : EM K ta f) (hb : EM K tb g) (hc : EM K tc h) :
    EM K (tChain r r' ta tb tc) (e_chain o1 o2 f g h) := by
  intro w0 w σ env e z env' hh Q q
  obtain ⟨⟨x, e1⟩, k1, hh⟩ := Option.bind_eq_some_iff.mp hh
  obtain ⟨⟨y, e2⟩, k2, hh⟩ := Option.bind_eq_some_iff.mp hh
  obtain ⟨z1, k3, hh⟩ := Option.bind_eq_some_iff.mp hh
  refine ha.v w0 w σ env e x e1 k1 _ fun v w1 E1 s1 r1 => ?_
  refine hb.v w0 w1 σ e1 E1 y e2 k2 _ fun u w2 E2 s2 r2 => ?_
  refine h1 w2 E2.good v u x y (r1.go E1.good s2) r2 _ k3 _ fun t w3 s3 g3 r3 => ?_
  cases z1 with
  | own o => cases hh
  | val d =>
    cases d with
    | bl b =>
      cases r3
      refine ⟨b, rfl, ?_⟩
      have E3 := E2.grow s3 g3
      have s13 := (s1.trans s2).trans s3.step
      cases b with
      | true =>
        rw [if_pos rfl]
        obtain ⟨⟨c, e4⟩, k4, hh⟩ := Option.bind_eq_some_iff.mp hh
        obtain ⟨z2, k5, hh⟩ := Option.bind_eq_some_iff.mp hh
        refine hc.v w0 w3 σ e2 E3 c e4 k4 _ fun v4 w4 E4 s4 r4 => ?_
        refine h2 w4 E4.good u v4 y c (r2.go E2.good (s3.step.trans s4)) r4 _ k5 Q fun t5 w5 s5 g5 r5 => ?_
        cases z2 with
        | own o => cases hh
        | val d2 =>
          cases d2 with
          | bl b2 => cases hh; exact q t5 w5 (E4.grow s5 g5) ((s13.trans s4).trans s5.step) r5
          | non => cases hh
          | int _ => cases hh
          | str _ => cases hh
          | tup _ => cases hh
          | lst _ => cases hh
          | fn _ _ => cases hh
      | false =>
        rw [if_neg Bool.false_ne_true]
        cases hh
        exact q _ w3 E3 s13 (.bl false)
    | non => cases hh
    | int _ => cases hh
    | str _ => cases hh
    | tup _ => cases hh
    | lst _ => cases hh
    | fn _ _ => cases hh
end
end Vz
set_option maxRecDepth 100000
set_option maxHeartbeats 1000000
namespace Vz
open PySem PySem.Spec PyProof.Rows L2
variable [FnTab]
section
variable {K : PySem.W.Frag} {w w' w1 w2 : Wd} {w0 : W0} {σ : L2.St} {env env' env1 : List Sl}

/-! ### answers -/
theorem out0 {z : R} {d : D} {v : V} {Q : VK} (g : Good w) (r : Rep K w v d) (e : some (R.val d) = some z) (q : ∀ v w', PStep w w' → Good w' → RepZ K w w' v z → Q v w'.H) : Q v w.H := by
  cases e; exact q v w (.refl w) g r
theorem outL {z : R} {xs : List V} {ds : List D} {p : Addr} {Q : VK} (g : Good w) (hp : w.H p = none) (r : Reps K w xs ds) (e : some (R.own (.lst ds)) = some z) (q : ∀ v w', PStep w w' → Good w' → RepZ K w w' v z → Q v w'.H) : Q (.ref p) (upd w.H p (.lst xs)) := by
  cases e; exact q _ (w.puts p (.lst xs)) (Wd.puts_step hp) (Wd.puts_good g hp) ⟨p, rfl, ⟨hp, fun z => g.dom p (.inr z) hp⟩, put_lst g hp r⟩
theorem outT {z : R} {xs : List V} {ds : List D} {p : Addr} {Q : VK} (g : Good w) (hp : w.H p = none) (r : Reps K w xs ds) (e : some (R.val (.tup ds)) = some z) (q : ∀ v w', PStep w w' → Good w' → RepZ K w w' v z → Q v w'.H) : Q (.ref p) (upd w.H p (.tup xs)) := by
  cases e; exact q _ (w.put p (.tup xs)) (Wd.put_step hp) (Wd.put_good g hp) (put_tup g hp r)

/-! ### ints -/
open Classical in
/-- an operator of two ints -/
noncomputable def o_II (C : Int → Int → Prop) (g : Int → Int → D) : D → D → Option R
  | .int i, .int j => if C i j then some (.val (g i j)) else none
  | _, _ => none
theorem opm_II {C : Int → Int → Prop} {g : Int → Int → Int} : OpM K (rI C fun i j => .int (g i j)) (o_II C fun i j => .int (g i j)) := by
  intro w g0 x y a b ra rb z h Q q
  cases ra <;> cases rb <;> simp only [o_II] at h <;> try cases h
  split at h
  · rename_i hc
    exact ⟨_, _, rfl, rfl, hc, out0 g0 (.int _) h q⟩
  · cases h
def o_I (g : Int → Int → D) : D → D → Option R
  | .int i, .int j => some (.val (g i j))
  | _, _ => none
theorem opm_I {g : Int → Int → Int} : OpM K (rI0 fun i j => .int (g i j)) (o_I fun i j => .int (g i j)) := by
  intro w g0 x y a b ra rb z h Q q
  cases ra <;> cases rb <;> simp only [o_I] at h <;> try cases h
  exact ⟨_, _, rfl, rfl, out0 g0 (.int _) rfl q⟩
theorem opm_Ib {g : Int → Int → Bool} : OpM K (rI0 fun i j => .bl (g i j)) (o_I fun i j => .bl (g i j)) := by
  intro w g0 x y a b ra rb z h Q q
  cases ra <;> cases rb <;> simp only [o_I] at h <;> try cases h
  exact ⟨_, _, rfl, rfl, out0 g0 (.bl _) rfl q⟩
noncomputable abbrev o_mulI : D → D → Option R := o_II IntMulOk fun i j => .int (i * j)
noncomputable abbrev o_fdiv : D → D → Option R := o_II (fun _ j => j ≠ 0 ∧ j.natAbs.log2 < 9000) fun i j => .int (i.fdiv j)
noncomputable abbrev o_mod : D → D → Option R := o_II (fun _ j => j ≠ 0) fun i j => .int (i.fmod j)
noncomputable abbrev o_pow : D → D → Option R := o_II CPow fun i j => .int (i ^ j.toNat)
abbrev o_sub : D → D → Option R := o_I fun i j => .int (i - j)
theorem op_mulX {X : Cx} : OpR X (binaryOp .Mult) (rI IntMulOk fun i j => .int (i * j)) := opI fun _ _ _ _ _ _ _ hc q => mul_int q hc
theorem op_fdivX {X : Cx} : OpR X (binaryOp .FloorDiv) (rI (fun _ j => j ≠ 0 ∧ j.natAbs.log2 < 9000) fun i j => .int (i.fdiv j)) := opI fun _ _ _ _ _ _ _ hc q => floordiv_int hc.1 q (.inl (PyProof.noPylong_of_log2 hc.2))
theorem opm_sub : OpM K (rI0 fun i j => .int (i - j)) o_sub := opm_I

/-! ### + -/
def rCatR (K : PySem.W.Frag) : R2 := fun x y H Q => ∃ l b xs zs, x = .ref l ∧ y = .ref b ∧ SqL K H l xs ∧ SqL K H b zs ∧ xs.length + zs.length ≤ sizeLine ∧ ∀ p, H p = none → Q (.ref p) (upd H p (.lst (xs ++ zs)))
theorem op_catR {X : Cx} : OpR X (binaryOp .Add) (rCatR X.K) := by
  intro pins s σ H x y v u Q I rx ry h
  obtain ⟨l, b, xs, zs, rfl, rfl, hH, hB, hz, q⟩ := h
  cases rx
  cases ry
  obtain ⟨vs, r, p1, _⟩ := I.list hH
  obtain ⟨ws, r2, p2, _⟩ := I.list hB
  obtain ⟨⟨cls, dd, data, sl⟩, ho, hc, n, hd⟩ := p1.isList
  obtain ⟨⟨cls2, dd2, data2, sl2⟩, ho2, hc2, n2, hd2⟩ := p2.isList
  simp only at hc hd hc2 hd2
  subst hc hd hc2 hd2
  have e : vs.toArray ++ ws.toArray = (vs ++ ws).toArray := by simp
  refine concat_meets ⟨_, ho, rfl⟩ ⟨_, ho2, rfl⟩ noFill_list_add seq_list_add PySem.F.slot_list_add PySem.F.entry_list_add (PySem.F.args_list_add_2 _ _) (PyProof.Rows.list_addW l b vs.toArray ws.toArray n n2 dd dd2 sl sl2 (by have := r.length; have := r2.length; simp; omega)) ⟨ho, ho2, ?_⟩
  rw [e]
  exact ⟨.ref _, _, I.lnew (t' := s.toks) (r.append r2) (by rw [List.length_append]; omega), rfl, q _ I.fresh⟩
def o_add : D → D → Option R
  | .int i, .int j => some (.val (.int (i + j)))
  | .str x, .str y => if x.length + y.length ≤ 100000 then some (.val (.str (x ++ y))) else none
  | .lst a, .lst b => if a.length + b.length ≤ 100000 then some (.own (.lst (a ++ b))) else none
  | .tup a, .tup b => if a.length + b.length ≤ 100000 then some (.val (.tup (a ++ b))) else none
  | _, _ => none
def rStrAdd : R2 := fun x y H Q => ∃ i j, x = .str i ∧ y = .str j ∧ i.length + j.length ≤ sizeLine ∧ Q (.str (i ++ j)) H
def rAddX (K : PySem.W.Frag) : R2 := fun x y H Q => rI0 (fun i j => .int (i + j)) x y H Q ∨ (rStrAdd x y H Q ∨ (rCatR K x y H Q ∨ rCatA K x y H Q))
theorem op_addX {X : Cx} : OpR X (binaryOp .Add) (rAddX X.K) := op_add.or (op_add_str.or (op_catR.or op_catA))
theorem opm_add : OpM K (rAddX K) o_add := by
  intro w g x y a b ra rb z h Q q
  cases ra with
  | fn _ => first | cases h | cases hh | cases h3
  | int i => cases rb <;> simp only [o_add] at h <;> try cases h
             exact .inl ⟨_, _, rfl, rfl, out0 g (.int _) rfl q⟩
  | str i => cases rb <;> simp only [o_add] at h <;> try cases h
             split at h
             · rename_i hl
               exact .inr (.inl ⟨_, _, rfl, rfl, Nat.le_trans hl line5, out0 g (.str _) h q⟩)
             · cases h
  | lst l r => cases rb <;> simp only [o_add] at h <;> try cases h
               rename_i l2 r2
               split at h
               · rename_i hl
                 exact .inr (.inr (.inl ⟨_, _, _, _, rfl, rfl, l.sq, l2.sq, by rw [r.length, r2.length]; exact Nat.le_trans hl line5, fun p hp => outL g hp (r.append r2) h q⟩))
               · cases h
  | tup l r => cases rb <;> simp only [o_add] at h <;> try cases h
               rename_i l2 r2
               split at h
               · rename_i hl
                 refine .inr (.inr (.inr ⟨_, _, _, _, rfl, rfl, l.sq, l2.sq, by rw [r.length, r2.length]; exact Nat.le_trans hl line5, fun e => ?_, fun _ e => ?_, fun _ _ p hp => outT g hp (r.append r2) h q⟩))
                 · subst e
                   cases r
                   exact out0 g (.tup l2 r2) h q
                 · subst e
                   cases r2
                   rw [List.append_nil] at h
                   exact out0 g (.tup l r) h q
               · cases h
  | non => cases rb <;> simp only [o_add] at h <;> cases h
  | bl _ => cases rb <;> simp only [o_add] at h <;> cases h

/-! ### == -/
mutual
def D.py : D → PyData
  | .non => .none
  | .bl b => .bool b
  | .int i => .int i
  | .str x => .str x
  | .tup ds => .tuple (D.pys ds)
  | .lst ds => .list (D.pys ds)
  | .fn _ _ => .none
def D.pys : List D → List PyData
  | [] => []
  | d :: ds => D.py d :: D.pys ds
end
mutual
/-- no function in it -/
def D.nf : D → Bool
  | .non => true
  | .bl _ => true
  | .int _ => true
  | .str _ => true
  | .tup ds => D.nfs ds
  | .lst ds => D.nfs ds
  | .fn _ _ => false
def D.nfs : List D → Bool
  | [] => true
  | d :: ds => D.nf d && D.nfs ds
end
mutual
theorem Rep.dp : ∀ {d : D} {v : V}, Rep K w v d → d.nf = true → Dp K w.H v d.py
  | .non, _, h, _ => by cases h; exact .non
  | .bl _, _, h, _ => by cases h; exact .bl _
  | .int _, _, h, _ => by cases h; exact .int _
  | .str _, _, h, _ => by cases h; exact .str _
  | .tup _, _, h, n => by cases h with | tup a b => exact .tup a.sq (Reps.dp b n)
  | .lst _, _, h, n => by cases h with | lst a b => exact .lst a.sq (Reps.dp b n)
  | .fn _ _, _, _, n => by cases n
theorem Reps.dp : ∀ {ds : List D} {vs : List V}, Reps K w vs ds → D.nfs ds = true → DpAll K w.H vs (D.pys ds)
  | [], _, h, _ => by cases h; exact .nil
  | _ :: _, _, h, n => by
    cases h with
    | cons a b =>
      have n' := Bool.and_eq_true_iff.mp (show (D.nf _ && D.nfs _) = true from n)
      exact .cons (Rep.dp a n'.1) (Reps.dp b n'.2)
end
/-- what == can tell -/
def D.ok (d : D) : Bool := d.nf && SeqAt.shaped d.py
theorem ok_nf {d : D} (h : d.ok = true) : d.nf = true := (Bool.and_eq_true_iff.mp h).1
theorem ok_sh {d : D} (h : d.ok = true) : SeqAt.shaped d.py = true := (Bool.and_eq_true_iff.mp h).2
def D.eqv (a b : D) : Bool := PyData.eqv a.py b.py
def o_eq (a b : D) : Option R := if a.ok = true ∧ b.ok = true then some (.val (.bl (a.eqv b))) else none
def o_ne (a b : D) : Option R := if a.ok = true ∧ b.ok = true then some (.val (.bl (!a.eqv b))) else none
theorem opm_eq : OpM K (rEqD K) o_eq := by
  intro w g x y a b ra rb z h Q q
  unfold o_eq at h
  split at h
  · rename_i hc
    exact ⟨_, _, ra.dp (ok_nf hc.1), rb.dp (ok_nf hc.2), ok_sh hc.1, ok_sh hc.2, out0 g (.bl _) h q⟩
  · cases h
theorem opm_ne : OpM K (rNeD K) o_ne := by
  intro w g x y a b ra rb z h Q q
  unfold o_ne at h
  split at h
  · rename_i hc
    exact ⟨_, _, ra.dp (ok_nf hc.1), rb.dp (ok_nf hc.2), ok_sh hc.1, ok_sh hc.2, out0 g (.bl _) h q⟩
  · cases h

/-! ### <, is -/
abbrev o_lt : D → D → Option R := o_I fun i j => .bl (decide (i < j))
abbrev o_le : D → D → Option R := o_I fun i j => .bl (decide (i ≤ j))
abbrev o_gt : D → D → Option R := o_I fun i j => .bl (decide (j < i))
abbrev o_ge : D → D → Option R := o_I fun i j => .bl (decide (j ≤ i))
def D.isNon : D → Bool
  | .non => true
  | _ => false
def o_is : D → D → Option R
  | a, .non => some (.val (.bl a.isNon))
  | .bl a, .bl b => some (.val (.bl (decide (a = b))))
  | _, _ => none
def o_isnt : D → D → Option R
  | a, .non => some (.val (.bl (!a.isNon)))
  | .bl a, .bl b => some (.val (.bl (!decide (a = b))))
  | _, _ => none
def rIsX : R2 := fun x y H Q => (y = .non ∧ Q (.bl (decide (x = .non))) H) ∨ rIsB x y H Q
def rNotX : R2 := fun x y H Q => (y = .non ∧ Q (.bl (!decide (x = .non))) H) ∨ rNotB x y H Q
theorem op_isX {X : Cx} : OpR X (compareOp .Is) rIsX := op_isN.or op_isBl
theorem op_notX {X : Cx} : OpR X (compareOp .IsNot) rNotX := op_notN.or op_notBl
theorem Rep.isNon {v : V} {d : D} (r : Rep K w v d) : decide (v = .non) = d.isNon := by
  cases r <;> simp [D.isNon]
theorem opm_is : OpM K rIsX o_is := by
  intro w g x y a b ra rb z h Q q
  have hn := ra.isNon
  cases rb with
  | fn _ => first | cases h | cases hh | cases h3
  | non =>
    have h' : some (R.val (.bl a.isNon)) = some z := by cases a <;> exact h
    exact .inl ⟨rfl, by rw [hn]; exact out0 g (.bl _) h' q⟩
  | bl b => cases ra <;> simp only [o_is] at h <;> try cases h
            exact .inr ⟨_, _, rfl, rfl, out0 g (.bl _) rfl q⟩
  | int _ => cases a <;> cases h
  | str _ => cases a <;> cases h
  | tup _ _ => cases a <;> cases h
  | lst _ _ => cases a <;> cases h
theorem opm_isnt : OpM K rNotX o_isnt := by
  intro w g x y a b ra rb z h Q q
  have hn := ra.isNon
  cases rb with
  | fn _ => first | cases h | cases hh | cases h3
  | non =>
    have h' : some (R.val (.bl (!a.isNon))) = some z := by cases a <;> exact h
    exact .inl ⟨rfl, by rw [hn]; exact out0 g (.bl _) h' q⟩
  | bl b => cases ra <;> simp only [o_isnt] at h <;> try cases h
            exact .inr ⟨_, _, rfl, rfl, out0 g (.bl _) rfl q⟩
  | int _ => cases a <;> cases h
  | str _ => cases a <;> cases h
  | tup _ _ => cases a <;> cases h
  | lst _ _ => cases a <;> cases h

/-! ### in -/
def o_in (a : D) : D → Option R
  | .lst ds => if a.ok = true ∧ (D.lst ds).ok = true then some (.val (.bl (ds.any fun z => z.eqv a))) else none
  | _ => none
def o_notin (a : D) : D → Option R
  | .lst ds => if a.ok = true ∧ (D.lst ds).ok = true then some (.val (.bl (!ds.any fun z => z.eqv a))) else none
  | _ => none
theorem pys_any (a : PyData) : ∀ ds : List D, (D.pys ds).any (fun z => PyData.eqv z a) = ds.any fun z => PyData.eqv z.py a
  | [] => rfl
  | d :: ds => by simp only [D.pys, List.any_cons, pys_any a ds]
theorem opm_in : OpM K (rInD K) o_in := by
  intro w g x y a b ra rb z h Q q
  cases rb with
  | fn _ => first | cases h | cases hh | cases h3
  | lst l r =>
    simp only [o_in] at h
    split at h
    · rename_i hc
      refine ⟨_, _, ra.dp (ok_nf hc.1), (Rep.lst l r).dp (ok_nf hc.2), ok_sh hc.1, ok_sh hc.2, ?_⟩
      have e := pys_any a.py
      rw [e]
      exact out0 g (.bl _) h q
    · cases h
  | non => cases h
  | bl _ => cases h
  | int _ => cases h
  | str _ => cases h
  | tup _ _ => cases h
theorem opm_notin : OpM K (rNotInD K) o_notin := by
  intro w g x y a b ra rb z h Q q
  cases rb with
  | fn _ => first | cases h | cases hh | cases h3
  | lst l r =>
    simp only [o_notin] at h
    split at h
    · rename_i hc
      refine ⟨_, _, ra.dp (ok_nf hc.1), (Rep.lst l r).dp (ok_nf hc.2), ok_sh hc.1, ok_sh hc.2, ?_⟩
      have e := pys_any a.py
      rw [e]
      exact out0 g (.bl _) h q
    · cases h
  | non => cases h
  | bl _ => cases h
  | int _ => cases h
  | str _ => cases h
  | tup _ _ => cases h

/-! ### items, slices -/
theorem Reps.at {vs : List V} {ds : List D} {i : Int} {d : D} (r : Reps K w vs ds) (h : atI ds i = some d) : ∃ v, atI vs i = some v ∧ Rep K w v d := by
  obtain ⟨j, h1, h2⟩ := Option.bind_eq_some_iff.mp h
  obtain ⟨v, h3, h4⟩ := r.get h2
  refine ⟨v, ?_, h4⟩
  unfold atI
  rw [r.length, h1]
  exact h3
def o_ix : D → D → Option R
  | .lst ds, .int i => (atI ds i).bind fun d => some (.val d)
  | .tup ds, .int i => (atI ds i).bind fun d => some (.val d)
  | .str x, .int i => if x.length ≤ 100000 then (atI x.cps.toList i).bind fun c => some (.val (.str ⟨#[c]⟩)) else none
  | _, _ => none
theorem opm_ix : OpM K (rIx K) o_ix := by
  intro w g x y a b ra rb z h Q q
  cases rb with
  | fn _ => cases a <;> cases h
  | int i =>
    cases ra with
    | fn _ => first | cases h | cases hh | cases h3
    | lst l r =>
      simp only [o_ix] at h
      obtain ⟨d, h1, h⟩ := Option.bind_eq_some_iff.mp h
      obtain ⟨v, h2, h3⟩ := r.at h1
      exact .inl ⟨_, _, i, v, rfl, rfl, l.sq, h2, out0 g h3 h q⟩
    | tup l r =>
      simp only [o_ix] at h
      obtain ⟨d, h1, h⟩ := Option.bind_eq_some_iff.mp h
      obtain ⟨v, h2, h3⟩ := r.at h1
      exact .inr (.inl ⟨_, _, i, v, rfl, rfl, l.sq, h2, out0 g h3 h q⟩)
    | str x =>
      simp only [o_ix] at h
      split at h
      · rename_i hl
        obtain ⟨c, h1, h⟩ := Option.bind_eq_some_iff.mp h
        exact .inr (.inr ⟨_, i, c, rfl, rfl, Nat.le_trans hl line5, h1, out0 g (.str _) h q⟩)
      · cases h
    | non => cases h
    | bl _ => cases h
    | int _ => cases h
  | non => cases ra <;> cases h
  | bl _ => cases ra <;> cases h
  | str _ => cases ra <;> cases h
  | tup _ _ => cases ra <;> cases h
  | lst _ _ => cases ra <;> cases h
/-- parts of a slice -/
abbrev Eo := List Sl → Option (Option Int × List Sl)
def OM (K : PySem.W.Frag) (to : TO) (f : Eo) : Prop := ∀ w0 w σ env, EnvOk K w0 w σ env → ∀ o env', f env = some (o, env') →
  ∀ Q : Option Int → Hp → Prop, (∀ w', EnvOk K w0 w' σ env' → Step w w' → Q o w'.H) → to σ w.H Q
def p_no : Eo := fun env => some (none, env)
def p_at (f : Ex) : Eo := fun env => (vf f env).bind fun p => match p.1 with
  | .int i => some (some i, p.2)
  | _ => none
theorem om_no : OM K tNoPart p_no := fun w0 w σ env e o env' h Q q => by cases h; exact q w e (.refl w)
theorem om_at {te : TE} {f : Ex} (hf : EM K te f) : OM K (tPart te) (p_at f) := by
  intro w0 w σ env e o env' h Q q
  obtain ⟨⟨x, e1⟩, h1, h⟩ := Option.bind_eq_some_iff.mp h
  refine hf.v w0 w σ env e x e1 h1 _ fun v w1 E1 s1 r1 => ?_
  cases r1 with
  | fn _ => first | cases h | cases hh | cases h3
  | int i => cases h; exact ⟨i, rfl, q w1 E1 s1⟩
  | non => cases h
  | bl _ => cases h
  | str _ => cases h
  | tup _ _ => cases h
  | lst _ _ => cases h
def cutL {α : Type} (xs : List α) (lo hi : Option Int) : List α := (xs.drop (HT.sIx xs.length 0 lo)).take (HT.sIx xs.length xs.length hi - HT.sIx xs.length 0 lo)
theorem Reps.cut {vs : List V} {ds : List D} (r : Reps K w vs ds) (lo hi : Option Int) : Reps K w (cutV vs lo hi) (cutL ds lo hi) := by
  unfold cutV cutL
  rw [r.length]
  exact (r.drop _).take _
def o_sl (d : D) (lo hi : Option Int) : Option R := match d with
  | .lst ds => some (.own (.lst (cutL ds lo hi)))
  | .tup ds => some (.val (.tup (cutL ds lo hi)))
  | _ => none
def rSlX (K : PySem.W.Frag) : V → Option Int → Option Int → Hp → VK → Prop := fun x lo hi H Q => rSlL K x lo hi H Q ∨ rSlA K x lo hi H Q
theorem sl_X {X : Cx} : SlR X (rSlX X.K) := sl_list.or sl_tupA
def e_sl (f : Ex) (l h : Eo) : Ex := fun env => (vf f env).bind fun p => (l p.2).bind fun q => (h q.2).bind fun u => (o_sl p.1 q.1 u.1).bind fun z => some (z, u.2)
omit [FnTab] in
theorem cutL_all {α : Type} {xs : List α} {lo hi : Option Int} (h : HT.sIx xs.length 0 lo = 0 ∧ HT.sIx xs.length xs.length hi = xs.length) : cutL xs lo hi = xs := by
  unfold cutL
  rw [h.1, h.2, List.drop_zero, Nat.sub_zero, List.take_length]
theorem em_sl {te : TE} {tl th : TO} {f : Ex} {l u : Eo} (hf : EM K te f) (hl : OM K tl l) (hu : OM K th u) : EM K (tSl (rSlX K) te tl th) (e_sl f l u) := by
  intro w0 w σ env e z env' h Q q
  obtain ⟨⟨x, e1⟩, h1, h⟩ := Option.bind_eq_some_iff.mp h
  obtain ⟨⟨lo, e2⟩, h2, h⟩ := Option.bind_eq_some_iff.mp h
  obtain ⟨⟨hi, e3⟩, h3, h⟩ := Option.bind_eq_some_iff.mp h
  obtain ⟨z', h4, h⟩ := Option.bind_eq_some_iff.mp h
  cases h
  refine hf.v w0 w σ env e x e1 h1 _ fun v w1 E1 s1 r1 => ?_
  refine hl w0 w1 σ e1 E1 lo e2 h2 _ fun w2 E2 s2 => ?_
  refine hu w0 w2 σ e2 E2 hi _ h3 _ fun w3 E3 s3 => ?_
  have r3 := r1.go E1.good (s2.trans s3)
  have fin : ∀ v w', PStep w3 w' → Good w' → RepZ K w3 w' v z → Q v w'.H := fun v w' s g r => q v w' (E3.grow s g) (((s1.trans s2).trans s3).trans s.step) (r.r E3)
  cases r3 with
  | fn _ => first | cases h | cases hh | cases h3
  | lst l r => exact .inl ⟨_, _, rfl, l.sq, fun p hp => outL E3.good hp (r.cut lo hi) h4 fin⟩
  | tup l r =>
    refine .inr ⟨_, _, rfl, l.sq, fun hw => ?_, fun hw p hp => outT E3.good hp (r.cut lo hi) h4 fin⟩
    rw [r.length] at hw
    simp only [o_sl, cutL_all hw] at h4
    exact out0 E3.good (.tup l r) h4 fin
  | non => cases h4
  | bl _ => cases h4
  | int _ => cases h4
  | str _ => cases h4

/-! ### built-in functions -/
def f1 (op : D → Option R) : List D → Option R
  | [d] => op d
  | _ => none
def f2 (op : D → D → Option R) : List D → Option R
  | [a, b] => op a b
  | _ => none
theorem clm_1 {r : List V → Hp → VK → Prop} {op : D → Option R} (h : ∀ w, Good w → ∀ x a, Rep K w x a → ∀ z, op a = some z → ∀ Q : VK, (∀ v w', PStep w w' → Good w' → RepZ K w w' v z → Q v w'.H) → r [x] w.H Q) : ClM K r (f1 op) := by
  intro w g xs as ra z hz Q q
  cases ra with
  | nil => cases hz
  | cons h1 t =>
    cases t with
    | nil => exact h w g _ _ h1 z hz Q q
    | cons _ _ => cases hz
theorem clm_2 {r : List V → Hp → VK → Prop} {op : D → D → Option R} (h : ∀ w, Good w → ∀ x y a b, Rep K w x a → Rep K w y b → ∀ z, op a b = some z → ∀ Q : VK, (∀ v w', PStep w w' → Good w' → RepZ K w w' v z → Q v w'.H) → r [x, y] w.H Q) : ClM K r (f2 op) := by
  intro w g xs as ra z hz Q q
  cases ra with
  | nil => cases hz
  | cons h1 t =>
    cases t with
    | nil => cases hz
    | cons h2 t =>
      cases t with
      | nil => exact h w g _ _ _ _ h1 h2 z hz Q q
      | cons _ _ => cases hz
def o_abs : D → Option R
  | .int i => some (.val (.int (if i < 0 then -i else i)))
  | _ => none
theorem cl_abs : ClM K (fun xs H Q => ∃ i, xs = [.int i] ∧ Q (.int (if i < 0 then -i else i)) H) (f1 o_abs) := by
  refine clm_1 fun w g x a r z h Q q => ?_
  cases r <;> try cases h
  exact ⟨_, rfl, out0 g (.int _) rfl q⟩
def o_int : D → Option R
  | .int i => some (.val (.int i))
  | .bl b => some (.val (.int (if b then 1 else 0)))
  | _ => none
theorem cl_int : ClM K (fun xs H Q => (∃ i, xs = [.int i] ∧ Q (.int i) H) ∨ ∃ k, xs = [.bl k] ∧ Q (.int (if k then 1 else 0)) H) (f1 o_int) := by
  refine clm_1 fun w g x a r z h Q q => ?_
  cases r <;> try cases h
  · exact .inr ⟨_, rfl, out0 g (.int _) rfl q⟩
  · exact .inl ⟨_, rfl, out0 g (.int _) rfl q⟩
def o_max2 : D → D → Option R
  | .int i, .int j => some (.val (.int (if j > i then j else i)))
  | _, _ => none
def o_min2 : D → D → Option R
  | .int i, .int j => some (.val (.int (if j < i then j else i)))
  | _, _ => none
theorem cl_max2 : ClM K (fun xs H Q => ∃ i j, xs = [.int i, .int j] ∧ Q (.int (if j > i then j else i)) H) (f2 o_max2) := by
  refine clm_2 fun w g x y a b ra rb z h Q q => ?_
  cases ra <;> cases rb <;> try cases h
  exact ⟨_, _, rfl, out0 g (.int _) rfl q⟩
theorem cl_min2 : ClM K (fun xs H Q => ∃ i j, xs = [.int i, .int j] ∧ Q (.int (if j < i then j else i)) H) (f2 o_min2) := by
  refine clm_2 fun w g x y a b ra rb z h Q q => ?_
  cases ra <;> cases rb <;> try cases h
  exact ⟨_, _, rfl, out0 g (.int _) rfl q⟩
def o_len : D → Option R
  | .lst ds => some (.val (.int ds.length))
  | .tup ds => some (.val (.int ds.length))
  | .str x => if x.length ≤ 100000 then some (.val (.int x.length)) else none
  | _ => none
theorem cl_len : ClM K (fun xs H Q => ∃ x n, xs = [x] ∧ LenV K x H n ∧ Q (.int n) H) (f1 o_len) := by
  refine clm_1 fun w g x a r z h Q q => ?_
  cases r with
  | fn _ => first | cases h | cases hh | cases h3
  | lst l r => exact ⟨_, _, rfl, .inl ⟨_, l.sq, r.length.symm⟩, out0 g (.int _) h q⟩
  | tup l r => exact ⟨_, _, rfl, .inr ⟨_, l.sq, r.length.symm⟩, out0 g (.int _) h q⟩
  | str x =>
    simp only [o_len] at h
    split at h
    · rename_i hl
      exact ⟨_, x.length, rfl, ⟨Nat.le_trans hl line5, rfl⟩, out0 g (.int _) h q⟩
    · cases h
  | non => cases h
  | bl _ => cases h
  | int _ => cases h
def o_list : D → Option R
  | .lst ds => some (.own (.lst ds))
  | .tup ds => some (.own (.lst ds))
  | _ => none
def o_tuple : D → Option R
  | .lst ds => some (.val (.tup ds))
  | .tup ds => some (.val (.tup ds))
  | _ => none
theorem cl_list : ClM K (fun xs H Q => ∃ p ys, xs = [.ref p] ∧ (SqL K H p ys ∨ SqT K H p ys) ∧ ∀ l, H l = none → Q (.ref l) (upd H l (.lst ys))) (f1 o_list) := by
  refine clm_1 fun w g x a r z h Q q => ?_
  cases r with
  | fn _ => first | cases h | cases hh | cases h3
  | lst l r => exact ⟨_, _, rfl, .inl l.sq, fun p hp => outL g hp r h q⟩
  | tup l r => exact ⟨_, _, rfl, .inr l.sq, fun p hp => outL g hp r h q⟩
  | str _ => cases h
  | non => cases h
  | bl _ => cases h
  | int _ => cases h
theorem cl_tuple : ClM K (fun xs H Q => ∃ p ys, xs = [.ref p] ∧ ((SqL K H p ys ∧ ∀ l, H l = none → Q (.ref l) (upd H l (.tup ys))) ∨ (SqT K H p ys ∧ Q (.ref p) H))) (f1 o_tuple) := by
  refine clm_1 fun w g x a r z h Q q => ?_
  cases r with
  | fn _ => first | cases h | cases hh | cases h3
  | lst l r => exact ⟨_, _, rfl, .inl ⟨l.sq, fun p hp => outT g hp r h q⟩⟩
  | tup l r => exact ⟨_, _, rfl, .inr ⟨l.sq, out0 g (.tup l r) h q⟩⟩
  | str _ => cases h
  | non => cases h
  | bl _ => cases h
  | int _ => cases h
def o_str : D → Option R
  | .int i => if i.natAbs.log2 < 1920 then some (.val (.str (toString i))) else none
  | _ => none
theorem cl_str : ClM K (fun xs H Q => ∃ i, xs = [.int i] ∧ i.natAbs.log2 < 1920 ∧ Q (.str (toString i)) H) (f1 o_str) := by
  refine clm_1 fun w g x a r z h Q q => ?_
  cases r with
  | fn _ => first | cases h | cases hh | cases h3
  | int i =>
    simp only [o_str] at h
    split at h
    · rename_i hl
      exact ⟨_, rfl, hl, out0 g (.str _) h q⟩
    · cases h
  | lst _ _ => cases h
  | tup _ _ => cases h
  | str _ => cases h
  | non => cases h
  | bl _ => cases h
def o_neg : D → Option R
  | .int i => some (.val (.int (-i)))
  | _ => none
theorem un_neg' : UnM K (rU fun i => .int (-i)) o_neg := by
  intro w g x a r z h Q q
  cases r <;> try cases h
  exact ⟨_, rfl, out0 g (.int _) rfl q⟩
/-- any, all of a list of truths -/
def bls : List D → Option (List Bool)
  | [] => some []
  | .bl b :: ds => (bls ds).bind fun bs => some (b :: bs)
  | _ :: _ => none
theorem bls_of : ∀ {ds : List D} {vs : List V} {bs : List Bool}, Reps K w vs ds → bls ds = some bs → vs = bs.map V.bl
  | [], _, _, r, h => by cases r; cases h; rfl
  | d :: ds, _, _, r, h => by
    cases r with
    | cons r1 r2 =>
      cases r1 with
      | fn _ => first | cases h | cases hh | cases h3
      | bl b =>
        obtain ⟨bs', h1, h2⟩ := Option.bind_eq_some_iff.mp h
        cases h2
        rw [bls_of r2 h1]
        rfl
      | non => cases h
      | int _ => cases h
      | str _ => cases h
      | tup _ _ => cases h
      | lst _ _ => cases h
def o_any : D → Option R
  | .lst ds => (bls ds).bind fun bs => some (.val (.bl (bs.any id)))
  | _ => none
def o_all : D → Option R
  | .lst ds => (bls ds).bind fun bs => some (.val (.bl (bs.all id)))
  | _ => none
theorem cl_any : ClM K (rAny K) (f1 o_any) := by
  refine clm_1 fun w g x a r z h Q q => ?_
  cases r with
  | fn _ => first | cases h | cases hh | cases h3
  | lst l r =>
    obtain ⟨bs, h1, h⟩ := Option.bind_eq_some_iff.mp h
    have e := bls_of r h1
    subst e
    exact ⟨_, bs, rfl, l.sq, out0 g (.bl _) h q⟩
  | non => cases h
  | bl _ => cases h
  | int _ => cases h
  | str _ => cases h
  | tup _ _ => cases h
theorem cl_all : ClM K (rAll K) (f1 o_all) := by
  refine clm_1 fun w g x a r z h Q q => ?_
  cases r with
  | fn _ => first | cases h | cases hh | cases h3
  | lst l r =>
    obtain ⟨bs, h1, h⟩ := Option.bind_eq_some_iff.mp h
    have e := bls_of r h1
    subst e
    exact ⟨_, bs, rfl, l.sq, out0 g (.bl _) h q⟩
  | non => cases h
  | bl _ => cases h
  | int _ => cases h
  | str _ => cases h
  | tup _ _ => cases h
/-- isinstance by a built-in type -/
def D.typ : D → String
  | .non => "NoneType"
  | .bl _ => "bool"
  | .int _ => "int"
  | .str _ => "str"
  | .tup _ => "tuple"
  | .lst _ => "list"
  | .fn _ _ => "function"
theorem Rd.tyx {a : Addr} {xs : List V} (h : Rd w.H a (.lst xs)) : TyX K w.H (.ref a) (.type "list") := by
  rcases h with h | ⟨o, h⟩
  · exact .base (.lst h)
  · exact .base (.frz h)
theorem Rd.tyxT {a : Addr} {xs : List V} (h : Rd w.H a (.tup xs)) : TyX K w.H (.ref a) (.type "tuple") := by
  rcases h with h | ⟨o, h⟩
  · exact .base (.tup h)
  · exact .fTuple h
def D.isFn : D → Bool
  | .fn _ _ => true
  | _ => false
theorem Rep.tyx {v : V} {d : D} (r : Rep K w v d) (hn : d.isFn = false) : TyX K w.H v (.type d.typ) := by
  cases r with
  | fn _ => cases hn
  | non => exact .base .non
  | bl b => exact .base (.bl b)
  | int i => exact .base (.int i)
  | str x => exact .base (.str x)
  | tup l _ => exact Vz.Rd.tyxT l.1
  | lst l _ =>
    rcases l with l | ⟨o, its, n, h1, h2, _⟩
    · exact Vz.Rd.tyx l.1
    · exact .kList h1 h2
def o_isi (T : String) (d : D) : Option R := if d.isFn = false then (kitB d.typ T).bind fun b => some (.val (.bl b)) else none
theorem em_isi {ta : TE} {f : Ex} {T : String} (hf : EM K ta f) : EM K (tCB (rIsi K) (tCons ta (tCons (tC (.ty T)) tNil))) (e1 (o_isi T) f) := by
  intro w0 w σ env e z env' h Q q
  obtain ⟨⟨x, e1⟩, h1, h⟩ := Option.bind_eq_some_iff.mp h
  obtain ⟨z', h3, h⟩ := Option.bind_eq_some_iff.mp h
  cases h
  refine hf.v w0 w σ env e x _ h1 _ fun v w1 E1 s1 r1 => ?_
  unfold o_isi at h3
  split at h3
  case isFalse => cases h3
  rename_i hn
  obtain ⟨b, h4, h5⟩ := Option.bind_eq_some_iff.mp h3
  refine ⟨v, .ty T, _, _, b, rfl, .ty T, r1.tyx hn, kit_ty h4, ?_⟩
  exact out0 E1.good (.bl b) h5 fun v w' s g r => q v w' (E1.grow s g) (s1.trans s.step) (r.r E1)
end
end Vz
set_option maxRecDepth 100000
set_option maxHeartbeats 1000000
namespace Vz
open PySem PySem.Spec PyProof.Rows L2
variable [FnTab]
section
variable {K : PySem.W.Frag} {w w' w1 w2 : Wd} {w0 : W0} {σ : L2.St} {env env' env1 : List Sl}

/-! ### stores -/
def R.sl : R → Sl
  | .val d => .val d
  | .own o => .own o
theorem EnvOk.store {i : Nat} {v : V} {r : R} (e : EnvOk K w0 w σ env) (hi : i < env.length) (hn : ∀ o : Ow, env[i]? ≠ some (Sl.arg o)) (hr : RepR K w0 w σ env v r) : EnvOk K w0 w (σ.set i (some v)) (env.set i r.sl) := by
  have hiσ : i < σ.length := by rw [e.len]; exact hi
  have key : ∀ (j : Nat) (y : Sl), (env.set i r.sl)[j]? = some y → (j ≠ i ∧ env[j]? = some y ∧ (σ.set i (some v))[j]? = σ[j]?) ∨ (j = i ∧ y = r.sl ∧ (σ.set i (some v))[j]? = some (some v)) := fun j y h => by
    by_cases hj : j = i
    · subst hj
      rw [List.getElem?_set_self hi] at h
      cases h
      exact .inr ⟨rfl, rfl, by rw [List.getElem?_set_self hiσ]⟩
    · rw [get_set_ne (Ne.symm hj)] at h
      exact .inl ⟨hj, h, by rw [get_set_ne (Ne.symm hj)]⟩
  have keyO : ∀ (j : Nat) (a : Addr), isO (env.set i r.sl)[j]? = true → (σ.set i (some v))[j]? = some (some (V.ref a)) →
      (j ≠ i ∧ isO env[j]? = true ∧ σ[j]? = some (some (V.ref a))) ∨ (j = i ∧ ∀ k : Nat, isO env[k]? = true → σ[k]? ≠ some (some (V.ref a))) := fun j a h h2 => by
    cases q : (env.set i r.sl)[j]? with
    | none => rw [q] at h; cases h
    | some y =>
      rcases key j y q with ⟨k1, k2, k3⟩ | ⟨k1, k2, k3⟩
      · refine .inl ⟨k1, ?_, by rw [← k3]; exact h2⟩
        rw [q] at h; rw [k2]; exact h
      · refine .inr ⟨k1, ?_⟩
        rw [k3] at h2
        cases h2
        cases r with
        | val d => rw [q, k2] at h; cases h
        | own o =>
          obtain ⟨a', ea, _, _, h4⟩ := hr
          cases ea
          exact h4
  refine ⟨e.g0, e.good, e.st, by rw [List.length_set, List.length_set]; exact e.len, fun j d h => ?_, fun j o h => ?_, fun j o h => ?_, fun j k a h1 h2 h3 h4 => ?_, fun p hp => ?_⟩
  · rcases key j _ h with ⟨k1, k2, k3⟩ | ⟨k1, k2, k3⟩
    · rw [k3]; exact e.val j d k2
    · cases r with
      | val d' => cases k2; exact ⟨v, k3, hr⟩
      | own o => cases k2
  · rcases key j _ h with ⟨k1, k2, k3⟩ | ⟨k1, k2, k3⟩
    · rw [k3]; exact e.own j o k2
    · cases r with
      | val d' => cases k2
      | own o' =>
        cases k2
        obtain ⟨a, rfl, h2, h3, _⟩ := hr
        exact ⟨a, k3, h2, h3⟩
  · rcases key j _ h with ⟨k1, k2, k3⟩ | ⟨k1, k2, k3⟩
    · rw [k3]; exact e.arg j o k2
    · cases r <;> cases k2
  · rcases keyO j a h1 h3 with ⟨p1, p2, p3⟩ | ⟨p1, p2⟩
    · rcases keyO k a h2 h4 with ⟨q1, q2, q3⟩ | ⟨q1, q2⟩
      · exact e.inj j k a p2 q2 p3 q3
      · exact absurd p3 (q2 j p2)
    · rcases keyO k a h2 h4 with ⟨q1, q2, q3⟩ | ⟨q1, q2⟩
      · exact absurd q3 (p2 k q2)
      · rw [p1, q1]
  · obtain ⟨h1, o, h2⟩ := e.pin p hp
    have ne : i ≠ p.1 := fun z => hn o (by rw [z]; exact h2)
    rw [get_set_ne ne, get_set_ne ne]
    exact ⟨h1, o, h2⟩
/-- which object a slot owns -/
def owOf : Option Sl → Option Ow
  | some (.own o) => some o
  | some (.arg o) => some o
  | _ => none
/-- the same slot with another content -/
def Sl.kin : Sl → Ow → Sl
  | .own _, o => .own o
  | .arg _, o => .arg o
  | s, _ => s
def putOw (env : List Sl) (i : Nat) (o : Ow) : List Sl := match env[i]? with
  | some s => env.set i (s.kin o)
  | none => env
theorem EnvOk.write {i : Nat} {ds ds' : List D} {a : Addr} {xs' : List V} (e : EnvOk K w0 w σ env) (ho : owOf env[i]? = some (.lst ds)) (ha : σ[i]? = some (some (V.ref a))) (r : Reps K w xs' ds') :
    EnvOk K w0 { w with H := upd w.H a (.lst xs') } σ (putOw env i (.lst ds')) ∧ Step w { w with H := upd w.H a (.lst xs') } := by
  have hO : isO env[i]? = true := by
    cases q : env[i]? with
    | none => rw [q] at ho; cases ho
    | some s => cases s <;> rw [q] at ho <;> first | rfl | cases ho
  obtain ⟨a', o', h1, ⟨h2, hnb⟩, h3⟩ := e.owned hO
  rw [ha] at h1
  cases h1
  have eo : o' = .lst ds := by
    rcases h3 with h3 | h3 <;> rw [h3] at ho <;> exact Option.some.inj ho
  subst eo
  obtain ⟨xs, hx, rx⟩ := h2.is
  have s : Step w { w with H := upd w.H a (.lst xs') } := ⟨fun b o hw h => by
      have nb : b ≠ a := fun z => hw (by rw [z]; exact h2.wa)
      show upd w.H a _ b = _
      rw [upd_ne nb]; exact h,
    fun b h => by
      show upd w.H a _ b ≠ none
      by_cases hb : b = a
      · subst hb; rw [upd_same]; exact fun z => nomatch z
      · rw [upd_ne hb]; exact h, fun _ h => .inl h, fun _ h => h, fun _ h => .inl h⟩
  refine ⟨?_, s⟩
  have kin : ∀ (j : Nat) (y : Sl), (putOw env i (.lst ds'))[j]? = some y → (j ≠ i ∧ env[j]? = some y) ∨ (j = i ∧ ∃ s, env[i]? = some s ∧ y = s.kin (.lst ds') ∧ (s = .own (.lst ds) ∨ s = .arg (.lst ds))) := fun j y h => by
    unfold putOw at h
    cases q : env[i]? with
    | none => rw [q] at hO; cases hO
    | some s =>
      rw [q] at h
      by_cases hj : j = i
      · subst hj
        rw [get_set_eq q] at h
        cases h
        refine .inr ⟨rfl, s, rfl, rfl, ?_⟩
        rcases h3 with h3 | h3 <;> rw [q] at h3 <;> cases h3
        · exact .inl rfl
        · exact .inr rfl
      · simp only at h
        rw [get_set_ne (Ne.symm hj)] at h
        exact .inl ⟨hj, h⟩
  have kinO : ∀ j : Nat, isO (putOw env i (.lst ds'))[j]? = true → isO env[j]? = true := fun j h => by
    cases q : (putOw env i (.lst ds'))[j]? with
    | none => rw [q] at h; cases h
    | some y =>
      rcases kin j y q with ⟨_, k2⟩ | ⟨k1, s, k2, k3, k4⟩
      · rw [q] at h; rw [k2]; exact h
      · rw [k1]; exact hO
  have other : ∀ {j : Nat} {b : Addr} {o : Ow}, j ≠ i → isO env[j]? = true → σ[j]? = some (some (V.ref b)) → OwAt K w b o → OwAt K { w with H := upd w.H a (.lst xs') } b o := fun {j b o} hj hoj hb h => by
    have nb : b ≠ a := fun z => hj (e.inj j i a hoj hO (by rw [hb, z]) ha)
    exact ⟨h.wa, h.is.go e.good s (upd_ne nb)⟩
  refine ⟨e.g0, ⟨fun p hp => s.trk p (e.good.dom p hp)⟩, e.st.trans s, ?_, fun j d h => ?_, fun j o h => ?_, fun j o h => ?_, fun j k b h1 h2 => e.inj j k b (kinO j h1) (kinO k h2), fun p hp => ?_⟩
  · unfold putOw
    split
    · rw [List.length_set]; exact e.len
    · exact e.len
  · rcases kin j _ h with ⟨_, k2⟩ | ⟨k1, s', k2, k3, k4⟩
    · obtain ⟨v, v1, v2⟩ := e.val j d k2
      exact ⟨v, v1, v2.go e.good s⟩
    · rcases k4 with k4 | k4 <;> subst k4 <;> cases k3
  · rcases kin j _ h with ⟨k1, k2⟩ | ⟨k1, s', k2, k3, k4⟩
    · obtain ⟨b, b1, b2, b3⟩ := e.own j o k2
      exact ⟨b, b1, b2, other k1 (by rw [k2]; rfl) b1 b3⟩
    · subst k1
      rcases k4 with k4 | k4
      · subst k4
        cases k3
        obtain ⟨b, b1, b2, b3⟩ := e.own j _ k2
        rw [ha] at b1
        cases b1
        exact ⟨a, ha, b2, h2.wa, xs', upd_same, r.go e.good s⟩
      · subst k4; cases k3
  · rcases kin j _ h with ⟨k1, k2⟩ | ⟨k1, s', k2, k3, k4⟩
    · obtain ⟨b, b1, b2, b3⟩ := e.arg j o k2
      exact ⟨b, b1, b2, other k1 (by rw [k2]; rfl) b1 b3⟩
    · subst k1
      rcases k4 with k4 | k4
      · subst k4; cases k3
      · subst k4
        cases k3
        obtain ⟨b, b1, b2, b3⟩ := e.arg j _ k2
        rw [ha] at b1
        cases b1
        exact ⟨a, ha, b2, h2.wa, xs', upd_same, r.go e.good s⟩
  · obtain ⟨h1, o, h4⟩ := e.pin p hp
    refine ⟨h1, ?_⟩
    by_cases hj : p.1 = i
    · rw [hj] at h4 ⊢
      unfold putOw
      rw [h4]
      exact ⟨_, get_set_eq h4⟩
    · refine ⟨o, ?_⟩
      unfold putOw
      cases q : env[i]? with
      | none => exact h4
      | some s' =>
        show (env.set i _)[p.1]? = _
        rw [get_set_ne (Ne.symm hj)]
        exact h4

/-! ### statements -/
inductive Out where
  | nx (env : List Sl) | rt (r : R) (env : List Sl) | bk (env : List Sl) | ct (env : List Sl)
abbrev Cm := List Sl → Option Out
def OutK (K : PySem.W.Frag) (w0 : W0) (w : Wd) (D : Ends) : Out → Prop
  | .nx e => ∀ w' σ', EnvOk K w0 w' σ' e → Step w w' → D.nx σ' w'.H
  | .bk e => ∀ w' σ', EnvOk K w0 w' σ' e → Step w w' → D.bk σ' w'.H
  | .ct e => ∀ w' σ', EnvOk K w0 w' σ' e → Step w w' → D.ct σ' w'.H
  | .rt r e => ∀ v w' σ', EnvOk K w0 w' σ' e → Step w w' → RepR K w0 w' σ' e v r → D.rt v w'.H
theorem OutK.go {D : Ends} {o : Out} (h : OutK K w0 w D o) (s : Step w w') : OutK K w0 w' D o := by
  cases o with
  | nx e => exact fun w2 σ2 E s2 => h w2 σ2 E (s.trans s2)
  | bk e => exact fun w2 σ2 E s2 => h w2 σ2 E (s.trans s2)
  | ct e => exact fun w2 σ2 E s2 => h w2 σ2 E (s.trans s2)
  | rt r e => exact fun v w2 σ2 E s2 => h v w2 σ2 E (s.trans s2)
def SM (K : PySem.W.Frag) (ts : TS) (c : Cm) : Prop := ∀ w0 w σ env, EnvOk K w0 w σ env → ∀ o, c env = some o → ∀ D : Ends, OutK K w0 w D o → ts D σ w.H
def c_nx : Cm := fun env => some (.nx env)
def c_bk : Cm := fun env => some (.bk env)
def c_ct : Cm := fun env => some (.ct env)
theorem sm_nx : SM K tNext c_nx := fun w0 w σ env e o h D q => by cases h; exact q w σ e (.refl w)
theorem sm_bk : SM K tBreak c_bk := fun w0 w σ env e o h D q => by cases h; exact q w σ e (.refl w)
theorem sm_ct : SM K tCont c_ct := fun w0 w σ env e o h D q => by cases h; exact q w σ e (.refl w)
def c_seq (a b : Cm) : Cm := fun env => (a env).bind fun o => match o with
  | .nx e => b e
  | o => some o
theorem sm_seq {t u : TS} {a b : Cm} (h1 : SM K t a) (h2 : SM K u b) : SM K (tSeq t u) (c_seq a b) := by
  intro w0 w σ env e o h D q
  obtain ⟨o1, k1, k2⟩ := Option.bind_eq_some_iff.mp h
  refine h1 w0 w σ env e o1 k1 _ ?_
  cases o1 with
  | nx e1 => exact fun w' σ' E s => h2 w0 w' σ' e1 E o k2 D (q.go s)
  | bk e1 => cases k2; exact q
  | ct e1 => cases k2; exact q
  | rt r e1 => cases k2; exact q
def c_ret (f : Ex) : Cm := fun env => (f env).bind fun p => some (.rt p.1 p.2)
theorem sm_ret {te : TE} {f : Ex} (hf : EM K te f) : SM K (tRet te) (c_ret f) := by
  intro w0 w σ env e o h D q
  obtain ⟨⟨r, e1⟩, k1, k2⟩ := Option.bind_eq_some_iff.mp h
  cases k2
  exact hf w0 w σ env e r e1 k1 _ fun v w' E s rr => q v w' σ E s rr
def c_retN : Cm := fun env => some (.rt (.val .non) env)
theorem sm_retN : SM K tRetN c_retN := fun w0 w σ env e o h D q => by cases h; exact q .non w σ e (.refl w) .non
def c_ex (f : Ex) : Cm := fun env => (f env).bind fun p => some (.nx p.2)
theorem sm_ex {te : TE} {f : Ex} (hf : EM K te f) : SM K (tDrop te) (c_ex f) := by
  intro w0 w σ env e o h D q
  obtain ⟨⟨r, e1⟩, k1, k2⟩ := Option.bind_eq_some_iff.mp h
  cases k2
  exact hf w0 w σ env e r e1 k1 _ fun v w' E s rr => q w' σ E s
def c_if (c : Et) (a b : Cm) : Cm := fun env => (c env).bind fun p => if p.1 = true then a p.2 else b p.2
theorem sm_if {t : TT} {tu tw : TS} {c : Et} {a b : Cm} (hc : TM K t c) (ha : SM K tu a) (hb : SM K tw b) : SM K (tIfS t tu tw) (c_if c a b) := by
  intro w0 w σ env e o h D q
  obtain ⟨⟨x, e1⟩, k1, k2⟩ := Option.bind_eq_some_iff.mp h
  refine hc w0 w σ env e x e1 k1 _ fun w1 E1 s1 => ?_
  cases x with
  | true =>
    rw [if_pos rfl] at k2 ⊢
    exact ha w0 w1 σ e1 E1 o k2 D (q.go s1)
  | false =>
    rw [if_neg Bool.false_ne_true] at k2 ⊢
    exact hb w0 w1 σ e1 E1 o k2 D (q.go s1)

/-! ### targets -/
abbrev Tg := R → List Sl → Option (List Sl)
def GM (K : PySem.W.Frag) (g : TG) (t : Tg) : Prop := ∀ w0 w σ env, EnvOk K w0 w σ env → ∀ v r env', RepR K w0 w σ env v r → t r env = some env' →
  ∀ Q : L2.St → Hp → Prop, (∀ w' σ', EnvOk K w0 w' σ' env' → Step w w' → Q σ' w'.H) → g v σ w.H Q
def Sl.isArg : Option Sl → Bool
  | some (.arg _) => true
  | _ => false
def g_n (i : Nat) : Tg := fun r env => if i < env.length ∧ Sl.isArg env[i]? = false then some (env.set i r.sl) else none
theorem isArg_no {x : Option Sl} (h : Sl.isArg x = false) : ∀ o : Ow, x ≠ some (Sl.arg o) := fun o z => by rw [z] at h; cases h
theorem gm_n {i : Nat} : GM K (gName i) (g_n i) := by
  intro w0 w σ env e v r env' rr h Q q
  unfold g_n at h
  split at h
  · rename_i hc
    cases h
    exact q w _ (e.store hc.1 (isArg_no hc.2) rr) (.refl w)
  · cases h
abbrev Tgs := List D → List Sl → Option (List Sl)
def GsM (K : PySem.W.Frag) (g : TGs) (t : Tgs) : Prop := ∀ w0 w σ env, EnvOk K w0 w σ env → ∀ vs ds env', Reps K w vs ds → t ds env = some env' →
  ∀ Q : L2.St → Hp → Prop, (∀ w' σ', EnvOk K w0 w' σ' env' → Step w w' → Q σ' w'.H) → g vs σ w.H Q
def gs_nil : Tgs := fun ds env => match ds with
  | [] => some env
  | _ => none
def gs_cons (t : Tg) (u : Tgs) : Tgs := fun ds env => match ds with
  | d :: r => (t (.val d) env).bind fun e => u r e
  | _ => none
theorem gsm_nil : GsM K gNil gs_nil := by
  intro w0 w σ env e vs ds env' rr h Q q
  cases rr with
  | nil => cases h; exact ⟨rfl, q w σ e (.refl w)⟩
  | cons _ _ => cases h
theorem gsm_cons {g : TG} {gs : TGs} {t : Tg} {u : Tgs} (h1 : GM K g t) (h2 : GsM K gs u) : GsM K (gCons g gs) (gs_cons t u) := by
  intro w0 w σ env e vs ds env' rr h Q q
  cases rr with
  | nil => cases h
  | cons r1 r2 =>
    obtain ⟨e1, k1, k2⟩ := Option.bind_eq_some_iff.mp h
    refine ⟨_, _, rfl, h1 w0 w σ env e _ _ e1 (show RepR K w0 w σ env _ (.val _) from r1) k1 _ fun w1 σ1 E1 s1 => ?_⟩
    exact h2 w0 w1 σ1 e1 E1 _ _ env' (r2.go e.good s1) k2 Q fun w2 σ2 E2 s2 => q w2 σ2 E2 (s1.trans s2)
def g_tup (n : Nat) (u : Tgs) : Tg := fun r env => match r with
  | .val (.tup ds) => if ds.length = n then u ds env else none
  | _ => none
theorem gm_tup {n : Nat} {gs : TGs} {u : Tgs} (h : GsM K gs u) : GM K (gTup K n gs) (g_tup n u) := by
  intro w0 w σ env e v r env' rr hh Q q
  cases r with
  | own o => cases hh
  | val d =>
    have rr' : Rep K w v d := rr
    cases rr' with
    | fn _ => first | cases h | cases hh | cases h3
    | tup l r =>
      simp only [g_tup] at hh
      split at hh
      · rename_i hl
        exact ⟨_, _, rfl, l.sq, by rw [r.length]; exact hl, h w0 w σ env e _ _ env' r hh Q q⟩
      · cases hh
    | non => cases hh
    | bl _ => cases hh
    | int _ => cases hh
    | str _ => cases hh
    | lst _ _ => cases hh
def c_asg (t : Tg) (f : Ex) : Cm := fun env => (f env).bind fun p => (t p.1 p.2).bind fun e => some (.nx e)
theorem sm_asg {te : TE} {g : TG} {t : Tg} {f : Ex} (hf : EM K te f) (hg : GM K g t) : SM K (tAsg te g) (c_asg t f) := by
  intro w0 w σ env e o h D q
  obtain ⟨⟨r, e1⟩, k1, h⟩ := Option.bind_eq_some_iff.mp h
  obtain ⟨e2, k2, h⟩ := Option.bind_eq_some_iff.mp h
  cases h
  refine hf w0 w σ env e r e1 k1 _ fun v w1 E1 s1 rr => ?_
  exact hg w0 w1 σ e1 E1 v r e2 rr k2 _ fun w2 σ2 E2 s2 => q w2 σ2 E2 (s1.trans s2)
/-- a, b = x, y -/
def c_par (i j : Nat) (f : Ea) : Cm := fun env => (f env).bind fun p => match p.1 with
  | [a, b] => (g_n i (.val a) p.2).bind fun e => (g_n j (.val b) e).bind fun e2 => some (.nx e2)
  | _ => none
theorem sm_par {i j : Nat} {ta : TA} {f : Ea} (ha : AM K ta f) : SM K (tPar i j ta) (c_par i j f) := by
  intro w0 w σ env e o h D q
  obtain ⟨⟨ds, e1⟩, k1, h⟩ := Option.bind_eq_some_iff.mp h
  refine ha w0 w σ env e ds e1 k1 _ fun vs w1 E1 s1 rr => ?_
  match ds, rr, h with
  | [a, b], .cons r1 (.cons r2 .nil), h =>
    obtain ⟨e2, k2, h⟩ := Option.bind_eq_some_iff.mp h
    obtain ⟨e3, k3, h⟩ := Option.bind_eq_some_iff.mp h
    cases h
    refine ⟨_, _, rfl, ?_⟩
    refine gm_n (K := K) w0 w1 σ e1 E1 _ (.val a) e2 r1 k2 (fun σ' H' => D.nx (σ'.set j _) H') fun w2 σ2 E2 s2 => ?_
    exact gm_n (K := K) w0 w2 σ2 e2 E2 _ (.val b) e3 (r2.go E1.good s2) k3 D.nx fun w3 σ3 E3 s3 => q w3 σ3 E3 ((s1.trans s2).trans s3)
/-- a, b, c = x, y, z -/
def c_par3 (i j k : Nat) (f : Ea) : Cm := fun env => (f env).bind fun p => match p.1 with
  | [a, b, c] => (g_n i (.val a) p.2).bind fun e => (g_n j (.val b) e).bind fun e2 => (g_n k (.val c) e2).bind fun e3 => some (.nx e3)
  | _ => none
theorem sm_par3 {i j k : Nat} {ta : TA} {f : Ea} (ha : AM K ta f) : SM K (tPar3 i j k ta) (c_par3 i j k f) := by
  intro w0 w σ env e o h D q
  obtain ⟨⟨ds, e1⟩, k1, h⟩ := Option.bind_eq_some_iff.mp h
  refine ha w0 w σ env e ds e1 k1 _ fun vs w1 E1 s1 rr => ?_
  match ds, rr, h with
  | [a, b, c], .cons r1 (.cons r2 (.cons r3 .nil)), h =>
    obtain ⟨e2, k2, h⟩ := Option.bind_eq_some_iff.mp h
    obtain ⟨e3, k3, h⟩ := Option.bind_eq_some_iff.mp h
    obtain ⟨e4, k4, h⟩ := Option.bind_eq_some_iff.mp h
    cases h
    refine ⟨_, _, _, rfl, ?_⟩
    refine gm_n (K := K) w0 w1 σ e1 E1 _ (.val a) e2 r1 k2 (fun σ' H' => D.nx ((σ'.set j _).set k _) H') fun w2 σ2 E2 s2 => ?_
    refine gm_n (K := K) w0 w2 σ2 e2 E2 _ (.val b) e3 (r2.go E1.good s2) k3 (fun σ' H' => D.nx (σ'.set k _) H') fun w3 σ3 E3 s3 => ?_
    exact gm_n (K := K) w0 w3 σ3 e3 E3 _ (.val c) e4 (r3.go E1.good (s2.trans s3)) k4 D.nx fun w4 σ4 E4 s4 => q w4 σ4 E4 (((s1.trans s2).trans s3).trans s4)

/-! ### objects of one's own, changed -/
theorem EnvOk.ow {i : Nat} {o : Ow} (e : EnvOk K w0 w σ env) (h : owOf env[i]? = some o) : ∃ a : Addr, σ[i]? = some (some (V.ref a)) ∧ OwAt K w a o ∧ ¬ w.B a := by
  cases q : env[i]? with
  | none => rw [q] at h; cases h
  | some s =>
    rw [q] at h
    cases s with
    | own o' => cases h; obtain ⟨a, h1, h3, h2⟩ := e.own i o q; exact ⟨a, h1, h2, h3.2⟩
    | arg o' => cases h; obtain ⟨a, h1, h3, h2⟩ := e.arg i o q; exact ⟨a, h1, h2, h3.2⟩
    | no => cases h
    | val _ => cases h
/-- xs.append(e) -/
def e_app (i : Nat) (f : Ex) : Ex := fun env => match owOf env[i]? with
  | some (.lst _) => (vf f env).bind fun p => match owOf p.2[i]? with
    | some (.lst ds) => if ds.length < 100000 then some (.val .non, putOw p.2 i (.lst (ds ++ [p.1]))) else none
    | _ => none
  | _ => none
theorem em_app {i : Nat} {te : TE} {f : Ex} (hf : EM K te f) : EM K (tBM K "list" rAppend (tVar i) (tCons te tNil)) (e_app i f) := by
  intro w0 w σ env e r env' h Q q
  unfold e_app at h
  split at h
  · rename_i ds0 ho0
    obtain ⟨a, ha, hO, _⟩ := e.ow ho0
    obtain ⟨⟨d, e1⟩, k1, h⟩ := Option.bind_eq_some_iff.mp h
    obtain ⟨xs0, hx0, _⟩ := hO.is
    refine ⟨_, ha, .inl ⟨rfl, xs0, .inl (.inl hx0)⟩, ?_⟩
    refine hf.v w0 w σ env e d e1 k1 _ fun v w1 E1 s1 rr => ?_
    simp only at h
    split at h
    · rename_i ds ho
      split at h
      · rename_i hl
        cases h
        obtain ⟨b, hb, hO1, _⟩ := E1.ow ho
        rw [ha] at hb
        cases hb
        obtain ⟨xs, hx, rx⟩ := hO1.is
        refine ⟨a, xs, v, rfl, rfl, hx, by rw [rx.length]; exact Nat.lt_of_lt_of_le hl line5, ?_⟩
        obtain ⟨E2, s2⟩ := E1.write ho ha (rx.append (.cons rr .nil))
        exact q .non _ E2 (s1.trans s2) .non
      · cases h
    · cases h
  · cases h
/-- xs.clear() -/
def e_clr (i : Nat) : Ex := fun env => match owOf env[i]? with
  | some (.lst _) => some (.val .non, putOw env i (.lst []))
  | _ => none
theorem em_clr {i : Nat} : EM K (tBM0 K "list" rClear (tVar i)) (e_clr i) := by
  intro w0 w σ env e r env' h Q q
  unfold e_clr at h
  split at h
  · rename_i ds ho
    cases h
    obtain ⟨a, ha, hO, _⟩ := e.ow ho
    obtain ⟨xs, hx, rx⟩ := hO.is
    obtain ⟨E2, s2⟩ := e.write ho ha (xs' := []) (ds' := []) .nil
    exact ⟨_, ha, .inl ⟨rfl, xs, .inl (.inl hx)⟩, a, xs, rfl, rfl, hx, q .non _ E2 s2 .non⟩
  · cases h
/-- xs[k] = .. -/
def g_ix (i : Nat) (f : Ex) : Tg := fun r env => match owOf env[i]? with
  | some (.lst _) => (vf f env).bind fun p => match p.1, owOf p.2[i]?, r with
    | .int k, some (.lst ds), .val d => (ixN ds.length k).bind fun j => some (putOw p.2 i (.lst (ds.set j d)))
    | _, _, _ => none
  | _ => none
theorem gm_ix {i : Nat} {ti : TE} {f : Ex} (hf : EM K ti f) : GM K (gSub (tVar i) ti rSetL) (g_ix i f) := by
  intro w0 w σ env e v r env' rr h Q q
  unfold g_ix at h
  split at h
  · rename_i ds0 ho0
    obtain ⟨a, ha, hO, _⟩ := e.ow ho0
    obtain ⟨⟨d, e1⟩, k1, h⟩ := Option.bind_eq_some_iff.mp h
    refine ⟨_, ha, ?_⟩
    refine hf.v w0 w σ env e d e1 k1 _ fun u w1 E1 s1 r1 => ?_
    simp only at h
    split at h
    · rename_i ds d' ho hshadow
      obtain ⟨j, k2, h⟩ := Option.bind_eq_some_iff.mp h
      cases h
      cases r1
      obtain ⟨b, hb, hO1, _⟩ := E1.ow ho
      rw [ha] at hb
      cases hb
      obtain ⟨xs, hx, rx⟩ := hO1.is
      refine ⟨a, xs, _, j, rfl, rfl, hx, by rw [rx.length]; exact k2, ?_⟩
      have rv : Rep K w v d' := rr
      obtain ⟨E2, s2⟩ := E1.write ho ha (rx.set (rv.go e.good s1) j)
      exact q _ σ E2 (s1.trans s2)
    · cases h
  · cases h
/-- a store takes data -/
def gv (t : Tg) : Tg := fun r env => t (.val r.d) env
theorem gm_v {g : TG} {t : Tg} (h : GM K g t) : GM K g (gv t) := by
  intro w0 w σ env e v r env' rr hh Q q
  cases r with
  | val d => exact h w0 w σ env e v _ env' rr hh Q q
  | own o =>
    obtain ⟨a, rfl, hn, ha, hd⟩ := rr
    exact h w0 (w.frz a) σ env (e.frz hd) _ (.val o.d) env' (ha.frz e.good hn.2) hh Q fun w' σ' E s => q w' σ' E ((w.frz_step a).trans s)

/-! ### loops -/
abbrev Src := List Sl → Option (List D × List Sl)
def ItOk (K : PySem.W.Frag) (w : Wd) (J : It) (ds : List D) : Prop := ∀ (i : Nat) (w2 : Wd), Good w2 → Step w w2 →
  (∀ d, ds[i]? = some d → J.go i w2.H ∧ ∀ x H', J.yld i w2.H x H' → ∃ w3 : Wd, w3.H = H' ∧ PStep w2 w3 ∧ Good w3 ∧ Rep K w3 x d) ∧ (ds.length ≤ i → J.stop i w2.H)
def IM (K : PySem.W.Frag) (wi : TI) (f : Src) : Prop := ∀ w0 w σ env, EnvOk K w0 w σ env → ∀ ds env', f env = some (ds, env') →
  ∀ Q : It → Hp → Prop, (∀ J w', EnvOk K w0 w' σ env' → Step w w' → ItOk K w' J ds → Q J w'.H) → wi σ w.H Q
def forGo (t : Tg) (b : Cm) : List D → List Sl → Option Out
  | [], env => some (.nx env)
  | d :: ds, env => (t (.val d) env).bind fun e1 => (b e1).bind fun o => match o with
    | .nx e2 => forGo t b ds e2
    | .ct e2 => forGo t b ds e2
    | .bk e2 => some (.nx e2)
    | .rt r e2 => some (.rt r e2)
def c_for (t : Tg) (f : Src) (b : Cm) : Cm := fun env => (f env).bind fun p => forGo t b p.1 p.2
theorem sm_for {wi : TI} {g : TG} {tb : TS} {t : Tg} {f : Src} {b : Cm} (hi : IM K wi f) (hg : GM K g t) (hb : SM K tb b) : SM K (tFor wi g tb) (c_for t f b) := by
  intro w0 w σ env e o h D q
  obtain ⟨⟨ds, e1⟩, k1, h⟩ := Option.bind_eq_some_iff.mp h
  refine hi w0 w σ env e ds e1 k1 _ fun J w1 E1 s1 hJ => ?_
  refine ⟨fun i m σ' H' => m + i = ds.length ∧ ∃ w2 env2, w2.H = H' ∧ EnvOk K w0 w2 σ' env2 ∧ Step w1 w2 ∧ forGo t b (ds.drop i) env2 = some o,
    ⟨ds.length, by omega, w1, e1, rfl, E1, .refl w1, by simpa using h⟩, ?_⟩
  rintro i m σ' H' ⟨em, w2, env2, rfl, E2, s2, hf⟩
  obtain ⟨j1, j2⟩ := hJ i w2 E2.good s2
  by_cases hl : i < ds.length
  · refine .inr ?_
    have hd : ds[i]? = some ds[i] := List.getElem?_eq_getElem hl
    obtain ⟨hgo, hy⟩ := j1 _ hd
    refine ⟨hgo, fun σ3 H3 => ∃ w3 env3, w3.H = H3 ∧ EnvOk K w0 w3 σ3 env3 ∧ Step w1 w3 ∧ forGo t b (ds.drop (i + 1)) env3 = some o, ?_, ?_⟩
    · rintro σ3 H3 ⟨w3, env3, h3, E3, s3, f3⟩
      exact ⟨m - 1, by omega, by omega, w3, env3, h3, E3, s3, f3⟩
    · intro x H3 hx
      obtain ⟨w3, rfl, p3, g3, r3⟩ := hy x H3 hx
      rw [List.drop_eq_getElem_cons hl] at hf
      obtain ⟨e4, k4, hf⟩ := Option.bind_eq_some_iff.mp hf
      obtain ⟨o5, k5, hf⟩ := Option.bind_eq_some_iff.mp hf
      refine hg w0 w3 σ' env2 (E2.grow p3 g3) x (.val ds[i]) e4 r3 k4 _ fun w4 σ4 E4 s4 => ?_
      refine hb w0 w4 σ4 e4 E4 o5 k5 _ ?_
      have s14 : Step w1 w4 := (s2.trans p3.step).trans s4
      cases o5 with
      | nx e6 => exact fun w6 σ6 E6 s6 => ⟨w6, e6, rfl, E6, s14.trans s6, hf⟩
      | ct e6 => exact fun w6 σ6 E6 s6 => ⟨w6, e6, rfl, E6, s14.trans s6, hf⟩
      | bk e6 => cases hf; exact fun w6 σ6 E6 s6 => q w6 σ6 E6 ((s1.trans s14).trans s6)
      | rt r e6 => cases hf; exact fun v w6 σ6 E6 s6 rr => q v w6 σ6 E6 ((s1.trans s14).trans s6) rr
  · refine .inl ⟨j2 (by omega), ?_⟩
    rw [List.drop_of_length_le (by omega)] at hf
    cases hf
    exact q w2 σ' E2 (s1.trans s2)
def whGo (c : Et) (b : Cm) : Nat → List Sl → Option Out
  | 0, _ => none
  | n + 1, env => (c env).bind fun p => if p.1 = true then (b p.2).bind fun o => match o with
      | .nx e2 => whGo c b n e2
      | .ct e2 => whGo c b n e2
      | .bk e2 => some (.nx e2)
      | .rt r e2 => some (.rt r e2)
    else some (.nx p.2)
/-- fu: turns enough -/
def c_wh (fu : List Sl → Nat) (c : Et) (b : Cm) : Cm := fun env => whGo c b (fu env) env
theorem sm_wh {fu : List Sl → Nat} {t : TT} {tb : TS} {c : Et} {b : Cm} (hc : TM K t c) (hb : SM K tb b) : SM K (tWhile t tb) (c_wh fu c b) := by
  intro w0 w σ env e o h D q
  refine ⟨fun m σ' H' => ∃ w2 env2, w2.H = H' ∧ EnvOk K w0 w2 σ' env2 ∧ Step w w2 ∧ whGo c b m env2 = some o, ⟨_, w, env, rfl, e, .refl w, h⟩, ?_⟩
  rintro m σ' H' ⟨w2, env2, rfl, E2, s2, hw⟩
  cases m with
  | zero => cases hw
  | succ m =>
    obtain ⟨⟨x, e3⟩, k3, hw⟩ := Option.bind_eq_some_iff.mp hw
    refine hc w0 w2 σ' env2 E2 x e3 k3 _ fun w3 E3 s3 => ?_
    cases x with
    | false =>
      rw [if_neg Bool.false_ne_true] at hw ⊢
      cases hw
      exact q w3 σ' E3 (s2.trans s3)
    | true =>
      rw [if_pos rfl] at hw ⊢
      obtain ⟨o5, k5, hw⟩ := Option.bind_eq_some_iff.mp hw
      refine ⟨fun σ3 H3 => ∃ w4 env4, w4.H = H3 ∧ EnvOk K w0 w4 σ3 env4 ∧ Step w w4 ∧ whGo c b m env4 = some o, fun σ3 H3 hN => ⟨m, Nat.lt_succ_self m, hN⟩, ?_⟩
      refine hb w0 w3 σ' e3 E3 o5 k5 _ ?_
      have s13 : Step w w3 := s2.trans s3
      cases o5 with
      | nx e6 => exact fun w6 σ6 E6 s6 => ⟨w6, e6, rfl, E6, s13.trans s6, hw⟩
      | ct e6 => exact fun w6 σ6 E6 s6 => ⟨w6, e6, rfl, E6, s13.trans s6, hw⟩
      | bk e6 => cases hw; exact fun w6 σ6 E6 s6 => q w6 σ6 E6 (s13.trans s6)
      | rt r e6 => cases hw; exact fun v w6 σ6 E6 s6 rr => q v w6 σ6 E6 (s13.trans s6) rr
end
end Vz
set_option maxRecDepth 100000
set_option maxHeartbeats 1000000
namespace Vz
open PySem PySem.Spec PyProof.Rows L2
variable [FnTab]
section
variable {K : PySem.W.Frag} {w w' w1 w2 : Wd} {w0 : W0} {σ : L2.St} {env env' env1 : List Sl}

/-! ### a def as a function of its arguments -/
abbrev FM := List Sl → Option (R × List Sl)
def outArgs : List Sl → List Sl → List Sl
  | .arg _ :: as, s :: es => s :: outArgs as es
  | .no :: as, _ :: es => .no :: outArgs as es
  | .val d :: as, _ :: es => .val d :: outArgs as es
  | .own o :: as, _ :: es => .own o :: outArgs as es
  | as, [] => as
  | [], _ => []
def okArg : Sl → Bool
  | .val _ => true
  | .arg _ => true
  | _ => false
def fnM (n k : Nat) (c : Cm) : FM := fun args => if args.length = k ∧ args.all okArg = true then (c (args ++ List.replicate (n - k) .no)).bind fun o => match o with
  | .rt r e => some (r, outArgs args e)
  | .nx e => some (.val .non, outArgs args e)
  | _ => none else none
def spM (K : PySem.W.Frag) (m : FM) : Sp := fun vs H Q _ => ∃ (z : W0) (args : List Sl) (r : R) (args' : List Sl), z.H = H ∧ EnvOk K z z.toWd (vs.map some) args ∧
  (∀ (i : Nat) (o : Ow), args[i]? = some (Sl.arg o) → ∃ a : Addr, (i, a) ∈ z.pa) ∧ m args = some (r, args') ∧
  ∀ v w', EnvOk K z w' (vs.map some) args' → Step z.toWd w' → RepR K z w' (vs.map some) args' v r → Q v w'.H
theorem outArgs_length : ∀ (as es : List Sl), (outArgs as es).length = as.length
  | [], _ => by cases ‹List Sl› <;> rfl
  | .arg _ :: as, [] => rfl
  | .no :: as, [] => rfl
  | .val _ :: as, [] => rfl
  | .own _ :: as, [] => rfl
  | .arg _ :: as, _ :: es => congrArg (· + 1) (outArgs_length as es)
  | .no :: as, _ :: es => congrArg (· + 1) (outArgs_length as es)
  | .val _ :: as, _ :: es => congrArg (· + 1) (outArgs_length as es)
  | .own _ :: as, _ :: es => congrArg (· + 1) (outArgs_length as es)
theorem outArgs_get : ∀ (as es : List Sl) (i : Nat), (outArgs as es)[i]? = match as[i]?, es[i]? with
    | some (.arg _), some s => some s
    | x, _ => x
  | [], _, i => by cases ‹List Sl› <;> simp [outArgs]
  | a :: as, [], i => by cases a <;> simp [outArgs] <;> split <;> simp_all
  | a :: as, e :: es, 0 => by cases a <;> rfl
  | a :: as, e :: es, i + 1 => by
    have ih := outArgs_get as es i
    cases a <;> simpa [outArgs] using ih
/-- the body's slots at the entry -/
theorem EnvOk.start {z : W0} {vs : List V} {args : List Sl} {N : List Str} (e : EnvOk K z z.toWd (vs.map some) args) (hl : vs.length ≤ N.length) :
    EnvOk K z z.toWd (L2.start N vs) (args ++ List.replicate (N.length - vs.length) .no) := by
  have el : vs.length = args.length := by have := e.len; rw [List.length_map] at this; exact this
  have key : ∀ (i : Nat) (x : Sl), (args ++ List.replicate (N.length - vs.length) Sl.no)[i]? = some x → x ≠ .no → args[i]? = some x ∧ (L2.start N vs)[i]? = (vs.map some)[i]? := fun i x h hx => by
    by_cases hi : i < args.length
    · rw [List.getElem?_append_left hi] at h
      refine ⟨h, ?_⟩
      unfold L2.start
      rw [List.getElem?_append_left (by rw [List.length_map]; omega)]
    · rw [List.getElem?_append_right (by omega), List.getElem?_replicate] at h
      split at h
      · cases h; exact absurd rfl hx
      · cases h
  have keyO : ∀ i : Nat, isO (args ++ List.replicate (N.length - vs.length) Sl.no)[i]? = true → isO args[i]? = true ∧ (L2.start N vs)[i]? = (vs.map some)[i]? := fun i h => by
    cases q : (args ++ List.replicate (N.length - vs.length) Sl.no)[i]? with
    | none => rw [q] at h; cases h
    | some x =>
      have hx : x ≠ .no := fun z => by rw [q, z] at h; cases h
      obtain ⟨h1, h2⟩ := key i x q hx
      rw [q] at h
      exact ⟨by rw [h1]; exact h, h2⟩
  refine ⟨e.g0, e.good, e.st, ?_, fun i d h => ?_, fun i o h => ?_, fun i o h => ?_, fun i j a h1 h2 h3 h4 => ?_, fun p hp => ?_⟩
  · unfold L2.start
    rw [List.length_append, List.length_append, List.length_map, List.length_replicate, List.length_replicate, el]
  · obtain ⟨h1, h2⟩ := key i _ h (fun z => nomatch z)
    rw [h2]; exact e.val i d h1
  · obtain ⟨h1, h2⟩ := key i _ h (fun z => nomatch z)
    rw [h2]; exact e.own i o h1
  · obtain ⟨h1, h2⟩ := key i _ h (fun z => nomatch z)
    rw [h2]; exact e.arg i o h1
  · obtain ⟨k1, k2⟩ := keyO i h1
    obtain ⟨k3, k4⟩ := keyO j h2
    rw [k2] at h3
    rw [k4] at h4
    exact e.inj i j a k1 k3 h3 h4
  · obtain ⟨h1, o, h2⟩ := e.pin p hp
    have hi : p.1 < args.length := (List.getElem?_eq_some_iff.mp h2).1
    refine ⟨?_, o, by rw [List.getElem?_append_left hi]; exact h2⟩
    unfold L2.start
    rw [List.getElem?_append_left (by rw [List.length_map]; omega)]
    exact h1
/-- the arguments behind the body -/
theorem EnvOk.stop {z : W0} {vs : List V} {args : List Sl} {w' : Wd} {σ' : L2.St} {env' : List Sl} (e : EnvOk K z z.toWd (vs.map some) args) (hp : ∀ (i : Nat) (o : Ow), args[i]? = some (Sl.arg o) → ∃ a : Addr, (i, a) ∈ z.pa)
    (ha : args.all okArg = true) (E : EnvOk K z w' σ' env') : EnvOk K z w' (vs.map some) (outArgs args env') := by
  have key : ∀ (i : Nat) (x : Sl), (outArgs args env')[i]? = some x → (∃ d, args[i]? = some (Sl.val d) ∧ x = .val d) ∨ (∃ o o' : Ow, ∃ a : Addr, args[i]? = some (Sl.arg o) ∧ x = .arg o' ∧ env'[i]? = some (Sl.arg o') ∧ (vs.map some)[i]? = some (some (V.ref a)) ∧ σ'[i]? = some (some (V.ref a))) := fun i x h => by
    rw [outArgs_get] at h
    cases q : args[i]? with
    | none => rw [q] at h; simp at h
    | some y =>
      have hy : okArg y = true := List.all_eq_true.mp ha y (List.mem_of_getElem? q)
      rw [q] at h
      cases y with
      | no => cases hy
      | own _ => cases hy
      | val d => simp at h; exact .inl ⟨d, rfl, h.symm⟩
      | arg o =>
        obtain ⟨a, hm⟩ := hp i o q
        obtain ⟨h1, o1, h2⟩ := E.pin _ hm
        obtain ⟨h3, _⟩ := e.pin _ hm
        simp only at h1 h2 h3
        rw [h2] at h
        cases h
        exact .inr ⟨o, o1, a, rfl, rfl, h2, h3, h1⟩
  have keyO : ∀ i : Nat, isO (outArgs args env')[i]? = true → isO args[i]? = true := fun i h => by
    cases q : (outArgs args env')[i]? with
    | none => rw [q] at h; cases h
    | some x =>
      rcases key i x q with ⟨d, _, rfl⟩ | ⟨o, o', a, h1, _⟩
      · rw [q] at h; cases h
      · rw [h1]; rfl
  refine ⟨e.g0, E.good, E.st, by rw [outArgs_length]; exact e.len, fun i d h => ?_, fun i o h => ?_, fun i o h => ?_, fun i j a h1 h2 h3 h4 => e.inj i j a (keyO i h1) (keyO j h2) h3 h4, fun p hp' => ?_⟩
  · rcases key i _ h with ⟨d', h1, h2⟩ | ⟨o, o', a, _, h2, _⟩
    · cases h2
      obtain ⟨v, v1, v2⟩ := e.val i d h1
      exact ⟨v, v1, v2.go e.good E.st⟩
    · cases h2
  · rcases key i _ h with ⟨d', _, h2⟩ | ⟨o, o', a, _, h2, _⟩ <;> cases h2
  · rcases key i _ h with ⟨d', _, h2⟩ | ⟨o, o', a, h1, h2, h3, h4, h5⟩
    · cases h2
    · cases h2
      obtain ⟨b, b1, b2, b3⟩ := E.arg i _ h3
      rw [h5] at b1
      cases b1
      exact ⟨a, h4, b2, b3⟩
  · obtain ⟨h1, o, h2⟩ := e.pin p hp'
    obtain ⟨_, o', h3⟩ := E.pin p hp'
    refine ⟨h1, o', ?_⟩
    rw [outArgs_get, h2, h3]

/-! ### arguments of a call -/
inductive AV where
  | d (x : D) | m (i : Nat)
def RepA (K : PySem.W.Frag) (w : Wd) (σ : L2.St) (v : V) : AV → Prop
  | .d x => Rep K w v x
  | .m i => σ[i]? = some (some v)
inductive RepsA (K : PySem.W.Frag) (w : Wd) (σ : L2.St) : List V → List AV → Prop
  | nil : RepsA K w σ [] []
  | cons {v : V} {vs : List V} {a : AV} {as : List AV} : RepA K w σ v a → RepsA K w σ vs as → RepsA K w σ (v :: vs) (a :: as)
theorem RepA.go {v : V} {a : AV} (h : RepA K w σ v a) (g : Good w) (s : Step w w') : RepA K w' σ v a := by
  cases a with
  | d x => exact Rep.go (show Rep K w v x from h) g s
  | m i => exact h
theorem RepsA.length : ∀ {vs : List V} {as : List AV}, RepsA K w σ vs as → vs.length = as.length
  | _, _, .nil => rfl
  | _, _, .cons _ t => congrArg (· + 1) (RepsA.length t)
theorem RepsA.get : ∀ {vs : List V} {as : List AV} {i : Nat} {a : AV}, RepsA K w σ vs as → as[i]? = some a → ∃ v, vs[i]? = some v ∧ RepA K w σ v a
  | _, _, _, _, .nil, e => by simp at e
  | _, _, 0, d, .cons r _, e => by simp at e; subst e; exact ⟨_, rfl, r⟩
  | _, _, i + 1, d, .cons _ t, e => by
    obtain ⟨v, h1, h2⟩ := RepsA.get (i := i) t (by simpa using e)
    exact ⟨v, by simpa using h1, h2⟩
theorem RepsA.append : ∀ {vs us : List V} {as bs : List AV}, RepsA K w σ vs as → RepsA K w σ us bs → RepsA K w σ (vs ++ us) (as ++ bs)
  | _, _, _, _, .nil, s => s
  | _, _, _, _, .cons r t, s => .cons r (RepsA.append t s)
theorem RepsA.of : ∀ {vs : List V} {ds : List D}, Reps K w vs ds → RepsA K w σ vs (ds.map AV.d)
  | _, _, .nil => .nil
  | _, _, .cons r t => .cons (show RepA K w σ _ (.d _) from r) (RepsA.of t)
abbrev Er := List Sl → Option (List AV × List Sl)
def ArM (K : PySem.W.Frag) (ta : TA) (f : Er) : Prop := ∀ w0 w σ env, EnvOk K w0 w σ env → ∀ as env', f env = some (as, env') →
  ∀ Q : List V → Hp → Prop, (∀ vs w', EnvOk K w0 w' σ env' → Step w w' → RepsA K w' σ vs as → Q vs w'.H) → ta σ w.H Q
def r_nil : Er := fun env => some ([], env)
def r_v (f : Ex) (g : Er) : Er := fun env => (vf f env).bind fun p => (g p.2).bind fun q => some (.d p.1 :: q.1, q.2)
def r_m (i : Nat) (g : Er) : Er := fun env => if isO env[i]? = true then (g env).bind fun q => some (.m i :: q.1, q.2) else none
theorem arm_nil : ArM K tNil r_nil := fun w0 w σ env e as env' h Q q => by cases h; exact q [] w e (.refl w) .nil
theorem arm_v {te : TE} {ta : TA} {f : Ex} {g : Er} (hf : EM K te f) (hg : ArM K ta g) : ArM K (tCons te ta) (r_v f g) := by
  intro w0 w σ env e as env' h Q q
  obtain ⟨⟨x, e1⟩, h1, h⟩ := Option.bind_eq_some_iff.mp h
  obtain ⟨⟨y, e2⟩, h2, h⟩ := Option.bind_eq_some_iff.mp h
  cases h
  refine hf.v w0 w σ env e x e1 h1 _ fun v w1 E1 s1 r1 => ?_
  refine hg w0 w1 σ e1 E1 y _ h2 _ fun vs w2 E2 s2 r2 => ?_
  exact q _ w2 E2 (s1.trans s2) (.cons (show RepA K w2 σ v (.d x) from r1.go E1.good s2) r2)
theorem arm_m {i : Nat} {ta : TA} {g : Er} (hg : ArM K ta g) : ArM K (tCons (tVar i) ta) (r_m i g) := by
  intro w0 w σ env e as env' h Q q
  unfold r_m at h
  split at h
  · rename_i hi
    obtain ⟨⟨y, e2⟩, h2, h⟩ := Option.bind_eq_some_iff.mp h
    cases h
    obtain ⟨a, o, ha, _⟩ := e.owned hi
    refine ⟨_, ha, ?_⟩
    refine hg w0 w σ env e y _ h2 _ fun vs w2 E2 s2 r2 => ?_
    exact q _ w2 E2 s2 (.cons (show RepA K w2 σ _ (.m i) from ha) r2)
  · cases h
def msOf : List AV → List Nat
  | [] => []
  | .d _ :: as => msOf as
  | .m i :: as => i :: msOf as
theorem mem_msOf : ∀ {as : List AV} {n i : Nat}, as[n]? = some (.m i) → i ∈ msOf as
  | [], _, _, h => by simp at h
  | .d _ :: as, 0, _, h => by simp at h
  | .m j :: as, 0, i, h => by simp at h; subst h; exact List.mem_cons_self
  | .d _ :: as, n + 1, i, h => mem_msOf (as := as) (n := n) (by simpa using h)
  | .m j :: as, n + 1, i, h => List.mem_cons_of_mem _ (mem_msOf (as := as) (n := n) (by simpa using h))
def slotsOf (env : List Sl) : List AV → Option (List Sl)
  | [] => some []
  | .d x :: as => (slotsOf env as).bind fun ss => some (.val x :: ss)
  | .m i :: as => (owOf env[i]?).bind fun o => (slotsOf env as).bind fun ss => some (.arg o :: ss)
theorem slotsOf_length : ∀ {as : List AV} {ss : List Sl}, slotsOf env as = some ss → ss.length = as.length
  | [], _, h => by cases h; rfl
  | .d x :: as, _, h => by
    obtain ⟨ss, h1, h⟩ := Option.bind_eq_some_iff.mp h
    cases h
    exact congrArg (· + 1) (slotsOf_length h1)
  | .m i :: as, _, h => by
    obtain ⟨o, h0, h⟩ := Option.bind_eq_some_iff.mp h
    obtain ⟨ss, h1, h⟩ := Option.bind_eq_some_iff.mp h
    cases h
    exact congrArg (· + 1) (slotsOf_length h1)
theorem slotsOf_get : ∀ {as : List AV} {ss : List Sl} {n : Nat} {s : Sl}, slotsOf env as = some ss → ss[n]? = some s → (∃ x, as[n]? = some (.d x) ∧ s = .val x) ∨ ∃ i o, as[n]? = some (.m i) ∧ owOf env[i]? = some o ∧ s = .arg o
  | [], _, _, _, h, e => by cases h; simp at e
  | .d x :: as, _, n, s, h, e => by
    obtain ⟨ss, h1, h⟩ := Option.bind_eq_some_iff.mp h
    cases h
    cases n with
    | zero => simp at e; exact .inl ⟨x, rfl, e.symm⟩
    | succ n => simpa using slotsOf_get (n := n) h1 (by simpa using e)
  | .m i :: as, _, n, s, h, e => by
    obtain ⟨o, h0, h⟩ := Option.bind_eq_some_iff.mp h
    obtain ⟨ss, h1, h⟩ := Option.bind_eq_some_iff.mp h
    cases h
    cases n with
    | zero => simp at e; exact .inr ⟨i, o, rfl, h0, e.symm⟩
    | succ n => simpa using slotsOf_get (n := n) h1 (by simpa using e)
def backs : List AV → List Sl → List Sl → List Sl
  | .d _ :: as, _ :: ss, env => backs as ss env
  | .m i :: as, s :: ss, env => backs as ss (match owOf (some s) with
    | some o => putOw env i o
    | none => env)
  | _, _, env => env
theorem putOw_other {i j : Nat} {o : Ow} (h : i ≠ j) : (putOw env i o)[j]? = env[j]? := by
  unfold putOw
  split
  · exact get_set_ne h
  · rfl
theorem putOw_same {i : Nat} {o : Ow} : (putOw env i o)[i]? = (env[i]?).map fun s => s.kin o := by
  unfold putOw
  cases q : env[i]? with
  | none => exact q
  | some s => exact get_set_eq q
theorem putOw_length {i : Nat} {o : Ow} : (putOw env i o).length = env.length := by
  unfold putOw
  split
  · exact List.length_set
  · rfl
theorem backs_length : ∀ (as : List AV) (ss env : List Sl), (backs as ss env).length = env.length
  | [], _, _ => by cases ‹List Sl› <;> rfl
  | .d _ :: as, [], _ => rfl
  | .m _ :: as, [], _ => rfl
  | .d _ :: as, _ :: ss, env => backs_length as ss env
  | .m i :: as, s :: ss, env => by
    show (backs as ss _).length = _
    rw [backs_length as ss]
    split
    · exact putOw_length
    · rfl
theorem backs_other : ∀ (as : List AV) (ss env : List Sl) (j : Nat), j ∉ msOf as → (backs as ss env)[j]? = env[j]?
  | [], _, _, _, _ => by cases ‹List Sl› <;> rfl
  | .d _ :: as, [], _, _, _ => rfl
  | .m _ :: as, [], _, _, _ => rfl
  | .d _ :: as, _ :: ss, env, j, h => backs_other as ss env j h
  | .m i :: as, s :: ss, env, j, h => by
    show (backs as ss _)[j]? = _
    rw [backs_other as ss _ j fun z => h (List.mem_cons_of_mem _ z)]
    split
    · exact putOw_other fun z => h (by rw [← z]; exact List.mem_cons_self)
    · rfl
theorem backs_at : ∀ (as : List AV) (ss env : List Sl) (n j : Nat) (o : Ow), (msOf as).Nodup → as[n]? = some (.m j) → ss[n]? = some (Sl.arg o) → (backs as ss env)[j]? = (env[j]?).map fun s => s.kin o
  | [], _, _, _, _, _, _, h, _ => by simp at h
  | .d _ :: as, [], _, _, _, _, _, _, h => by simp at h
  | .m _ :: as, [], _, _, _, _, _, _, h => by simp at h
  | .d _ :: as, _ :: ss, env, 0, j, o, _, h, _ => by simp at h
  | .d _ :: as, _ :: ss, env, n + 1, j, o, nd, h, h2 => backs_at as ss env n j o nd (by simpa using h) (by simpa using h2)
  | .m i :: as, s :: ss, env, 0, j, o, nd, h, h2 => by
    simp at h h2
    subst h h2
    show (backs as ss (putOw env i o))[i]? = _
    rw [backs_other as ss _ i (List.nodup_cons.mp nd).1, putOw_same]
  | .m i :: as, s :: ss, env, n + 1, j, o, nd, h, h2 => by
    have nd' := List.nodup_cons.mp nd
    have hm : j ∈ msOf as := mem_msOf (n := n) (by simpa using h)
    have ne : i ≠ j := fun z => nd'.1 (by rw [z]; exact hm)
    show (backs as ss _)[j]? = _
    rw [backs_at as ss _ n j o nd'.2 (by simpa using h) (by simpa using h2)]
    split
    · rw [putOw_other ne]
    · rfl
def pasOf (σ : L2.St) : Nat → List AV → List (Nat × Addr)
  | _, [] => []
  | k, .d _ :: as => pasOf σ (k + 1) as
  | k, .m i :: as => match σ[i]? with
    | some (some (.ref a)) => (k, a) :: pasOf σ (k + 1) as
    | _ => pasOf σ (k + 1) as
theorem mem_pasOf : ∀ {as : List AV} {k : Nat} {p : Nat × Addr}, p ∈ pasOf σ k as → ∃ n i, p.1 = k + n ∧ as[n]? = some (.m i) ∧ σ[i]? = some (some (V.ref p.2))
  | [], _, _, h => by cases h
  | .d _ :: as, k, p, h => by
    obtain ⟨n, i, h1, h2, h3⟩ := mem_pasOf (as := as) (k := k + 1) h
    exact ⟨n + 1, i, by omega, by simpa using h2, h3⟩
  | .m j :: as, k, p, h => by
    unfold pasOf at h
    split at h
    · rename_i a ha
      rcases List.mem_cons.mp h with h | h
      · subst h
        exact ⟨0, j, rfl, rfl, ha⟩
      · obtain ⟨n, i, h1, h2, h3⟩ := mem_pasOf (as := as) (k := k + 1) h
        exact ⟨n + 1, i, by omega, by simpa using h2, h3⟩
    · obtain ⟨n, i, h1, h2, h3⟩ := mem_pasOf (as := as) (k := k + 1) h
      exact ⟨n + 1, i, by omega, by simpa using h2, h3⟩
theorem pasOf_mem : ∀ {as : List AV} {k n i : Nat} {a : Addr}, as[n]? = some (.m i) → σ[i]? = some (some (V.ref a)) → (k + n, a) ∈ pasOf σ k as
  | [], _, _, _, _, h, _ => by simp at h
  | .d _ :: as, k, 0, i, a, h, h2 => by simp at h
  | .d _ :: as, k, n + 1, i, a, h, h2 => by
    have := pasOf_mem (as := as) (k := k + 1) (n := n) (i := i) (a := a) (by simpa using h) h2
    have e : k + 1 + n = k + (n + 1) := by omega
    rw [e] at this
    exact this
  | .m j :: as, k, 0, i, a, h, h2 => by
    simp at h
    subst h
    unfold pasOf
    rw [h2]
    exact List.mem_cons_self
  | .m j :: as, k, n + 1, i, a, h, h2 => by
    have := pasOf_mem (as := as) (k := k + 1) (n := n) (i := i) (a := a) (by simpa using h) h2
    have e : k + 1 + n = k + (n + 1) := by omega
    rw [e] at this
    unfold pasOf
    split
    · exact List.mem_cons_of_mem _ this
    · exact this

/-! ### a call -/
def e_call (m : FM) (dd : List D) (f : Er) : Ex := fun env => (f env).bind fun p => if (msOf p.1).Nodup then (slotsOf p.2 (p.1 ++ dd.map AV.d)).bind fun ss => (m ss).bind fun q => some (q.1, backs (p.1 ++ dd.map AV.d) q.2 p.2) else none
theorem msOf_append : ∀ (as : List AV) (dd : List D), msOf (as ++ dd.map AV.d) = msOf as
  | [], [] => rfl
  | [], _ :: dd => msOf_append [] dd
  | .d _ :: as, dd => msOf_append as dd
  | .m i :: as, dd => congrArg (i :: ·) (msOf_append as dd)
theorem run_call {m : FM} {as : List AV} {vs : List V} {ss : List Sl} {r : R} {args' : List Sl} {E : XK} (e : EnvOk K w0 w σ env) (ra : RepsA K w σ vs as) (nd : (msOf as).Nodup) (hs : slotsOf env as = some ss) (hm : m ss = some (r, args'))
    (Q : VK) (q : ∀ v w', EnvOk K w0 w' σ (backs as args' env) → Step w w' → RepR K w0 w' σ (backs as args' env) v r → Q v w'.H) : spM K m vs w.H Q E := by
  have hel : vs.length = as.length := ra.length
  have hsl : ss.length = as.length := slotsOf_length hs
  let z : W0 := { W := fun p => ∃ i : Nat, i ∈ msOf as ∧ σ[i]? = some (some (V.ref p)) ∧ ∃ o, owOf env[i]? = some o, B := fun p => w.O p ∧ ¬ ∃ i : Nat, i ∈ msOf as ∧ σ[i]? = some (some (V.ref p)) ∧ ∃ o, owOf env[i]? = some o, H := w.H, pa := pasOf σ 0 as }
  have zw : ∀ p, z.W p → w.W p := fun p ⟨i, _, h1, o, h2⟩ => by
    obtain ⟨a, ha, hO, hnB⟩ := e.ow h2
    rw [h1] at ha
    cases ha
    exact hO.wa
  have zO : ∀ p, z.O p → w.O p := fun p h => h.elim (fun k => .inl (zw p k)) fun k => k.1
  have gz : Good z.toWd := ⟨fun p h => e.good.dom p (zO p h)⟩
  have sz : OStep w z.toWd := ⟨fun b o _ h => h, fun p h => .inl (zO p h)⟩
  have isO_ow : ∀ {i : Nat} {o : Ow}, owOf env[i]? = some o → isO env[i]? = true := fun {i o} h => by
    cases q : env[i]? with
    | none => rw [q] at h; cases h
    | some x => cases x <;> rw [q] at h <;> first | rfl | cases h
  have nth_m : ∀ {n n' i : Nat} {as : List AV}, (msOf as).Nodup → as[n]? = some (.m i) → as[n']? = some (.m i) → n = n' := by
    intro n n' i as
    induction as generalizing n n' with
    | nil => intro _ h _; simp at h
    | cons x as ih =>
      intro nd h1 h2
      cases x with
      | d _ =>
        cases n with
        | zero => simp at h1
        | succ n =>
          cases n' with
          | zero => simp at h2
          | succ n' => exact congrArg (· + 1) (ih (n := n) (n' := n') nd (by simpa using h1) (by simpa using h2))
      | m j =>
        have nd' := List.nodup_cons.mp nd
        cases n with
        | zero =>
          cases n' with
          | zero => rfl
          | succ n' =>
            simp at h1
            subst h1
            exact absurd (mem_msOf (n := n') (by simpa using h2)) nd'.1
        | succ n =>
          cases n' with
          | zero =>
            simp at h2
            subst h2
            exact absurd (mem_msOf (n := n) (by simpa using h1)) nd'.1
          | succ n' => exact congrArg (· + 1) (ih (n := n) (n' := n') nd'.2 (by simpa using h1) (by simpa using h2))
  -- the callee's entry
  have E0 : EnvOk K z z.toWd (vs.map some) ss := by
    refine ⟨gz, gz, .refl _, by rw [List.length_map, hsl, hel], fun i d h => ?_, fun i o h => ?_, fun i o h => ?_, fun i j a h1 h2 h3 h4 => ?_, fun p hp => ?_⟩
    · rcases slotsOf_get hs h with ⟨x, h1, h2⟩ | ⟨k, o, h1, h2, h3⟩
      · cases h2
        obtain ⟨v, v1, v2⟩ := ra.get h1
        exact ⟨v, by rw [List.getElem?_map, v1]; rfl, Rep.goO (show Rep K w v d from v2) sz⟩
      · cases h3
    · rcases slotsOf_get hs h with ⟨x, h1, h2⟩ | ⟨k, o', h1, h2, h3⟩
      · cases h2
      · cases h3
    · rcases slotsOf_get hs h with ⟨x, h1, h2⟩ | ⟨k, o', h1, h2, h3⟩
      · cases h2
      · cases h3
        obtain ⟨v, v1, v2⟩ := ra.get h1
        have v2' : σ[k]? = some (some v) := v2
        obtain ⟨a, ha, hO, hnB⟩ := e.ow h2
        rw [v2'] at ha
        cases ha
        refine ⟨a, by rw [List.getElem?_map, v1]; rfl, ⟨hO.is.trk, fun k' => k'.2 ⟨k, mem_msOf h1, v2', _, h2⟩⟩, ⟨k, mem_msOf h1, v2', _, h2⟩, hO.is.goO sz rfl⟩
    · have g : ∀ {n : Nat}, isO ss[n]? = true → (vs.map some)[n]? = some (some (V.ref a)) → ∃ i : Nat, as[n]? = some (.m i) ∧ isO env[i]? = true ∧ σ[i]? = some (some (V.ref a)) := fun {n} k1 k2 => by
        cases q : ss[n]? with
        | none => rw [q] at k1; cases k1
        | some s =>
          rcases slotsOf_get hs q with ⟨x, q1, q2⟩ | ⟨i, o', q1, q2, q3⟩
          · rw [q, q2] at k1; cases k1
          · obtain ⟨v, v1, v2⟩ := ra.get q1
            rw [List.getElem?_map, v1] at k2
            cases k2
            exact ⟨i, q1, isO_ow q2, v2⟩
      obtain ⟨i', p1, p2, p3⟩ := g h1 h3
      obtain ⟨j', q1, q2, q3⟩ := g h2 h4
      have := e.inj i' j' a p2 q2 p3 q3
      subst this
      exact nth_m nd p1 q1
    · obtain ⟨n, i, h1, h2, h3⟩ := mem_pasOf (show p ∈ pasOf σ 0 as from hp)
      rw [Nat.zero_add] at h1
      obtain ⟨v, v1, v2⟩ := ra.get h2
      have v2' : σ[i]? = some (some v) := v2
      rw [h3] at v2'
      cases v2'
      refine ⟨by rw [h1, List.getElem?_map, v1]; rfl, ?_⟩
      have hn : n < ss.length := by rw [hsl]; exact (List.getElem?_eq_some_iff.mp h2).1
      rcases slotsOf_get hs (List.getElem?_eq_getElem hn) with ⟨x, q1, q2⟩ | ⟨i', o', q1, q2, q3⟩
      · rw [h2] at q1; cases q1
      · exact ⟨o', by rw [h1, List.getElem?_eq_getElem hn, q3]⟩
  refine ⟨z, ss, r, args', rfl, E0, fun i o h => ?_, hm, fun v w' E' s' rr => ?_⟩
  · rcases slotsOf_get hs h with ⟨x, h1, h2⟩ | ⟨k, o', h1, h2, h3⟩
    · cases h2
    · obtain ⟨v, v1, v2⟩ := ra.get h1
      obtain ⟨a, ha, hO, hnB⟩ := e.ow h2
      have := pasOf_mem (k := 0) h1 ha
      rw [Nat.zero_add] at this
      exact ⟨a, this⟩
  -- behind the call
  have wO : ∀ p, w.O p → w'.O p := fun p h => by
    by_cases hz : ∃ i : Nat, i ∈ msOf as ∧ σ[i]? = some (some (V.ref p)) ∧ ∃ o, owOf env[i]? = some o
    · obtain ⟨i, k1, k2, o, k3⟩ := hz
      have nthOf0 : ∀ (as : List AV), i ∈ msOf as → ∃ n : Nat, as[n]? = some (.m i) := by
        intro as
        induction as with
        | nil => intro h; cases h
        | cons x as ih =>
          intro h
          cases x with
          | d _ =>
            obtain ⟨n, hn⟩ := ih h
            exact ⟨n + 1, by simpa using hn⟩
          | m j =>
            rcases List.mem_cons.mp h with h | h
            · subst h; exact ⟨0, rfl⟩
            · obtain ⟨n, hn⟩ := ih h
              exact ⟨n + 1, by simpa using hn⟩
      obtain ⟨n, hn⟩ := nthOf0 as k1
      have hp := pasOf_mem (k := 0) hn k2
      obtain ⟨q1, o2, q2⟩ := E'.pin _ hp
      obtain ⟨b, q3, _, q4⟩ := E'.arg _ o2 q2
      rw [q1] at q3
      cases q3
      exact .inl q4.wa
    · exact .inr (E'.st.b1 p ⟨h, hz⟩)
  have back : ∀ X : Addr → Prop, (∀ p, X p → w.H p = none ∧ w'.O p ∧ w'.H p ≠ none) → ∃ w2 : Wd, w2 = ⟨fun p => w.W p ∨ X p, w.B, w'.H⟩ ∧ EnvOk K w0 w2 σ (backs as args' env) ∧ Step w w2 ∧ OStep w' w2 := by
    intro X hX
    refine ⟨_, rfl, ?_⟩
    have g2 : Good ⟨fun p => w.W p ∨ X p, w.B, w'.H⟩ := ⟨fun p h => h.elim (fun k => k.elim (fun k => s'.trk p (e.good.dom p (.inl k))) fun k => (hX p k).2.2) fun k => s'.trk p (e.good.dom p (.inr k))⟩
    have s2 : Step w ⟨fun p => w.W p ∨ X p, w.B, w'.H⟩ := ⟨fun b o hb h => s'.keep b o (fun k => hb (zw b k)) h, s'.trk, fun p h => h.imp id fun k => (hX p k).1, fun p h => h, fun p h => .inl h⟩
    have o2 : OStep w' ⟨fun p => w.W p ∨ X p, w.B, w'.H⟩ := ⟨fun b o _ h => h, fun p h => .inl (h.elim (fun k => k.elim (fun k => wO p (.inl k)) fun k => (hX p k).2.1) fun k => wO p (.inr k))⟩
    refine ⟨?_, s2, o2⟩
    -- what a slot holds behind
    have argAt : ∀ {n i : Nat}, as[n]? = some (.m i) → ∃ o a, args'[n]? = some (Sl.arg o) ∧ σ[i]? = some (some (V.ref a)) ∧ OwAt K w' a o := fun {n i} h1 => by
      obtain ⟨v, v1, v2⟩ := ra.get h1
      have v2' : σ[i]? = some (some v) := v2
      have hn : n < ss.length := by rw [hsl]; exact (List.getElem?_eq_some_iff.mp h1).1
      rcases slotsOf_get hs (List.getElem?_eq_getElem hn) with ⟨x, q1, q2⟩ | ⟨i', o', q1, q2, q3⟩
      · rw [h1] at q1; cases q1
      · rw [h1] at q1
        cases q1
        obtain ⟨a, ha, hO, hnB⟩ := e.ow q2
        have hp := pasOf_mem (k := 0) h1 ha
        rw [Nat.zero_add] at hp
        obtain ⟨k1, o, k2⟩ := E'.pin _ hp
        simp only at k1 k2
        obtain ⟨b, b1, b2, b3⟩ := E'.arg n o k2
        rw [k1] at b1
        cases b1
        exact ⟨o, a, k2, ha, b3⟩
    have nthOf : ∀ {i : Nat}, i ∈ msOf as → ∃ n : Nat, as[n]? = some (.m i) := by
      intro i
      have gen : ∀ (as : List AV), i ∈ msOf as → ∃ n : Nat, as[n]? = some (.m i) := by
        intro as
        induction as with
        | nil => intro h; cases h
        | cons x as ih =>
          intro h
          cases x with
          | d _ =>
            obtain ⟨n, hn⟩ := ih h
            exact ⟨n + 1, by simpa using hn⟩
          | m j =>
            rcases List.mem_cons.mp h with h | h
            · subst h; exact ⟨0, rfl⟩
            · obtain ⟨n, hn⟩ := ih h
              exact ⟨n + 1, by simpa using hn⟩
      exact gen as
    have key : ∀ (j : Nat) (y : Sl), (backs as args' env)[j]? = some y → (j ∉ msOf as ∧ env[j]? = some y) ∨ (∃ (s : Sl) (o : Ow) (a : Addr), j ∈ msOf as ∧ env[j]? = some s ∧ y = s.kin o ∧ isO env[j]? = true ∧ σ[j]? = some (some (V.ref a)) ∧ OwAt K w' a o) := fun j y h => by
      by_cases hj : j ∈ msOf as
      · obtain ⟨n, hn⟩ := nthOf hj
        obtain ⟨o, a, k1, k2, k3⟩ := argAt hn
        rw [backs_at as args' env n j o nd hn k1] at h
        cases qe : env[j]? with
        | none => rw [qe] at h; cases h
        | some s =>
          rw [qe] at h
          cases h
          refine .inr ⟨s, o, a, hj, rfl, rfl, ?_, k2, k3⟩
          have hnl : n < ss.length := by rw [hsl]; exact (List.getElem?_eq_some_iff.mp hn).1
          rcases slotsOf_get hs (List.getElem?_eq_getElem hnl) with ⟨x, q1, q2⟩ | ⟨i', o', q1, q2, q3⟩
          · rw [hn] at q1; cases q1
          · rw [hn] at q1
            cases q1
            rw [← qe]
            exact isO_ow q2
      · rw [backs_other as args' env j hj] at h
        exact .inl ⟨hj, h⟩
    have keyO : ∀ j : Nat, isO (backs as args' env)[j]? = true → isO env[j]? = true := fun j h => by
      cases qb : (backs as args' env)[j]? with
      | none => rw [qb] at h; cases h
      | some y =>
        rcases key j y qb with ⟨_, k2⟩ | ⟨s, o, a, _, _, _, k4, _⟩
        · rw [k2, ← qb]; exact h
        · exact k4
    have other : ∀ {j : Nat} {b : Addr} {o : Ow}, j ∉ msOf as → isO env[j]? = true → σ[j]? = some (some (V.ref b)) → OwAt K w b o → OwAt K ⟨fun p => w.W p ∨ X p, w.B, w'.H⟩ b o := fun {j b o} hj hoj hb h => by
      have nz : ¬ z.W b := fun ⟨i, k1, k2, o', k3⟩ => hj (by rw [e.inj j i b hoj (isO_ow k3) hb k2]; exact k1)
      obtain ⟨x, hx⟩ := some_of h.is.trk
      exact ⟨.inl h.wa, h.is.go e.good s2 ((s'.keep b x nz hx).trans hx.symm)⟩
    have mine : ∀ {a : Addr} {o : Ow}, w.W a → w.O a → OwAt K w' a o → OwAt K ⟨fun p => w.W p ∨ X p, w.B, w'.H⟩ a o := fun {a o} k1 k2 h => by
      refine ⟨.inl k1, ?_⟩
      have is := h.is
      cases o with
      | lst ds =>
        obtain ⟨xs, q1, q2⟩ := is
        exact ⟨xs, q1, q2.goO o2⟩
    refine ⟨e.g0, g2, e.st.trans s2, by rw [backs_length]; exact e.len, fun j d h => ?_, fun j o h => ?_, fun j o h => ?_, fun j k a h1 h2 h3 h4 => e.inj j k a (keyO j h1) (keyO k h2) h3 h4, fun p hp => ?_⟩
    · rcases key j _ h with ⟨_, k2⟩ | ⟨s, o, a, _, k2, k3, k4, _⟩
      · obtain ⟨v, v1, v2⟩ := e.val j d k2
        exact ⟨v, v1, v2.go e.good s2⟩
      · rw [k2] at k4
        cases s with
        | own _ => cases k3
        | arg _ => cases k3
        | no => cases k4
        | val _ => cases k4
    · rcases key j _ h with ⟨k1, k2⟩ | ⟨s, o', a, _, k2, k3, k4, k5, k6⟩
      · obtain ⟨b, b1, b2, b3⟩ := e.own j o k2
        exact ⟨b, b1, b2, other k1 (by rw [k2]; rfl) b1 b3⟩
      · cases s with
        | own o1 =>
          cases k3
          obtain ⟨b, b1, b2, b3⟩ := e.own j o1 k2
          rw [k5] at b1
          cases b1
          exact ⟨a, k5, b2, mine b3.wa b3.oa k6⟩
        | arg _ => cases k3
        | no => cases k3
        | val _ => cases k3
    · rcases key j _ h with ⟨k1, k2⟩ | ⟨s, o', a, _, k2, k3, k4, k5, k6⟩
      · obtain ⟨b, b1, b2, b3⟩ := e.arg j o k2
        exact ⟨b, b1, b2, other k1 (by rw [k2]; rfl) b1 b3⟩
      · cases s with
        | arg o1 =>
          cases k3
          obtain ⟨b, b1, b2, b3⟩ := e.arg j o1 k2
          rw [k5] at b1
          cases b1
          exact ⟨a, k5, b2, mine b3.wa b3.oa k6⟩
        | own _ => cases k3
        | no => cases k3
        | val _ => cases k3
    · obtain ⟨h1, o, h2⟩ := e.pin p hp
      refine ⟨h1, ?_⟩
      by_cases hj : p.1 ∈ msOf as
      · obtain ⟨n, hn⟩ := nthOf hj
        obtain ⟨o', a, k1, k2, k3⟩ := argAt hn
        rw [backs_at as args' env n p.1 o' nd hn k1, h2]
        exact ⟨o', rfl⟩
      · rw [backs_other as args' env p.1 hj, h2]
        exact ⟨o, rfl⟩
  cases r with
  | val d =>
    obtain ⟨w2, rfl, E2, s2, o2⟩ := back (fun _ => False) fun _ h => h.elim
    exact q v ⟨fun p => w.W p ∨ False, w.B, w'.H⟩ E2 s2 (Rep.goO (show Rep K w' v d from rr) o2)
  | own o =>
    obtain ⟨a, rfl, hn, hO, _⟩ := rr
    obtain ⟨w2, rfl, E2, s2, o2⟩ := back (fun p => p = a) fun p h => by subst h; exact ⟨hn.1, hO.oa, hO.is.trk⟩
    refine q _ ⟨fun p => w.W p ∨ p = a, w.B, w'.H⟩ E2 s2 ⟨a, rfl, ⟨e.st.none_back hn.1, fun k => e.good.dom a (.inr k) hn.1⟩, ⟨.inr rfl, ?_⟩, fun i hi z => ?_⟩
    · have is := hO.is
      cases o with
      | lst ds =>
        obtain ⟨xs, q1, q2⟩ := is
        exact ⟨xs, q1, q2.goO o2⟩
    · have hi' : isO env[i]? = true := by
        cases qb : (backs as args' env)[i]? with
        | none => rw [qb] at hi; cases hi
        | some y =>
          by_cases hj : i ∈ msOf as
          · obtain ⟨b, o', h1, _, h3⟩ := E2.owned hi
            rw [z] at h1
            cases h1
            -- the slot's object stood ahead of the call
            have : env[i]? ≠ none := fun z2 => by
              have hl : i < (backs as args' env).length := (List.getElem?_eq_some_iff.mp qb).1
              rw [backs_length] at hl
              exact absurd z2 (by rw [List.getElem?_eq_getElem hl]; exact fun k => nomatch k)
            have gen : ∀ (as : List AV) (ss' env2 : List Sl), isO (backs as ss' env2)[i]? = true → isO env2[i]? = true := by
              intro as
              induction as with
              | nil => intro ss' env2 h; cases ss' <;> exact h
              | cons x as ih =>
                intro ss' env2 h
                cases ss' with
                | nil => cases x <;> exact h
                | cons s ss' =>
                  cases x with
                  | d _ => exact ih ss' env2 h
                  | m k =>
                    have h' := ih ss' _ h
                    revert h'
                    split
                    · rename_i o2' _
                      by_cases hk : k = i
                      · subst hk
                        rw [putOw_same]
                        cases env2[k]? with
                        | none => exact fun k => k
                        | some y2 => cases y2 <;> exact fun k => k
                      · rw [putOw_other hk]; exact fun k => k
                    · exact fun k => k
            exact gen as args' env (by rw [qb]; rw [qb] at hi; exact hi)
          · rw [← backs_other as args' env i hj, qb, ← qb]
            exact hi
      exact e.fresh_ne hn.1 i hi' z
theorem em_call {m : FM} {dd : List D} {dvs : List V} {E : XK} {ta : TA} {f : Er} (hd : ∀ w : Wd, Reps K w dvs dd) (ha : ArM K ta f) : EM K (tCall (spM K m) dvs E ta) (e_call m dd f) := by
  intro w0 w σ env e r env' h Q q
  obtain ⟨⟨as, e1⟩, h1, h⟩ := Option.bind_eq_some_iff.mp h
  simp only at h
  split at h
  · rename_i nd
    obtain ⟨ss, h2, h⟩ := Option.bind_eq_some_iff.mp h
    obtain ⟨⟨r', args'⟩, h3, h⟩ := Option.bind_eq_some_iff.mp h
    cases h
    refine ha w0 w σ env e as e1 h1 _ fun vs w1 E1 s1 ra => ?_
    refine run_call E1 (ra.append (RepsA.of (hd w1))) (by rw [msOf_append]; exact nd) h2 h3 Q fun v w2 E2 s2 rr => q v w2 E2 (s1.trans s2) rr
  · cases h
end
end Vz
set_option maxRecDepth 100000
set_option maxHeartbeats 1000000
namespace Vz
open PySem PySem.Spec PyProof.Rows L2 RZ
variable [FnTab]
section
variable {K : PySem.W.Frag} {w w' w1 w2 : Wd} {w0 : W0} {σ : L2.St} {env env' env1 : List Sl}

/-! ### data without lists -/
mutual
def D.lf : D → Bool
  | .non => true
  | .bl _ => true
  | .int _ => true
  | .str _ => true
  | .tup ds => D.lfs ds
  | .lst _ => false
  | .fn _ _ => false
def D.lfs : List D → Bool
  | [] => true
  | d :: ds => D.lf d && D.lfs ds
end
def R.lf : R → Bool
  | .val d => d.lf
  | .own (.lst ds) => D.lfs ds
/-- such data may be kept away from a list, too -/
def NoTup (w w' : Wd) : Prop := w'.H = w.H ∧ ∀ p, w'.O p → w.O p ∨ ∃ xs, w.H p = some (.lst xs)
mutual
theorem Rep.lfgo (s : NoTup w w') : ∀ {d : D} {v : V}, Rep K w v d → d.lf = true → Rep K w' v d
  | .non, _, h, _ => by cases h; exact .non
  | .bl _, _, h, _ => by cases h; exact .bl _
  | .int _, _, h, _ => by cases h; exact .int _
  | .str _, _, h, _ => by cases h; exact .str _
  | .tup _, _, h, l => by
    cases h with
    | tup a b =>
      refine .tup ⟨by rw [s.1]; exact a.1, fun z => ?_⟩ (Reps.lfgo s b l)
      rcases s.2 _ z with z | ⟨xs, z⟩
      · exact a.2 z
      · rcases a.1 with q | ⟨o, q⟩ <;> rw [q] at z <;> cases z
  | .lst _, _, _, l => by cases l
  | .fn _ _, _, _, l => by cases l
theorem Reps.lfgo (s : NoTup w w') : ∀ {ds : List D} {vs : List V}, Reps K w vs ds → D.lfs ds = true → Reps K w' vs ds
  | [], _, h, _ => by cases h; exact .nil
  | _ :: _, _, h, l => by
    cases h with
    | cons a b =>
      have l' := Bool.and_eq_true_iff.mp (show (D.lf _ && D.lfs _) = true from l)
      exact .cons (Rep.lfgo s a l'.1) (Reps.lfgo s b l'.2)
end

/-! ### reading an object of one's own -/
/-- an operation on an object that is owned; its answer holds no list that stood -/
theorem own_read {a : Addr} {o : Ow} {i : Nat} {z : R} (e : EnvOk K w0 w σ env) (hO : OwAt K w a o ∧ ¬ w.B a) (ha : σ[i]? = some (some (V.ref a))) {Q : VK} {P : Hp → VK → Prop}
    (hz : z.lf = true) (hP : ∀ Q' : VK, (∀ v w', PStep (w.frz a) w' → Good w' → RepZ K (w.frz a) w' v z → Q' v w'.H) → P w.H Q')
    (q : ∀ v w', EnvOk K w0 w' σ env → Step w w' → RepR K w0 w' σ env v z → Q v w'.H) : P w.H Q := by
  obtain ⟨o', ho'⟩ : ∃ xs, w.H a = some (.lst xs) := by
    have is := hO.1.is
    cases o with
    | lst ds => obtain ⟨xs, q1, _⟩ := is; exact ⟨xs, q1⟩
  refine hP Q fun v w' s g r => ?_
  have ha' : w'.H a = some (.lst o') := s.ext a _ ho'
  let w2 : Wd := ⟨fun p => w'.W p ∨ p = a, w'.B, w'.H⟩
  have g2 : Good w2 := ⟨fun p h => h.elim (fun k => k.elim (fun k => g.dom p (.inl k)) fun k => by subst k; exact ne_none ha') fun k => g.dom p (.inr k)⟩
  have hW : ∀ p, w.W p → w2.W p := fun p h => by
    by_cases k : p = a
    · exact .inr k
    · exact .inl (s.wle p ⟨h, k⟩)
  have p2 : PStep w w2 := ⟨s.ext, hW, s.b1, fun p h => h.elim (fun k => (s.wsub p k).imp (·.1) id) fun k => .inl (by rw [k]; exact hO.1.wa), s.b2⟩
  have nt : NoTup w' w2 := ⟨rfl, fun p h => h.elim (fun k => k.elim (fun k => .inl (.inl k)) fun k => .inr ⟨o', by rw [k]; exact ha'⟩) fun k => .inl (.inr k)⟩
  have E2 := e.grow p2 g2
  refine q v w2 E2 p2.step ?_
  cases z with
  | val d => exact Rep.lfgo nt (show Rep K w' v d from r) hz
  | own ow =>
    obtain ⟨b, rfl, hn, hb⟩ := r
    refine RepZ.r e (w' := w2) (z := .own ow) ⟨b, rfl, hn, .inl hb.wa, ?_⟩
    have is := hb.is
    cases ow with
    | lst ds =>
      obtain ⟨xs, q1, q2⟩ := is
      exact ⟨xs, q1, q2.lfgo nt hz⟩
/-- op(x, e), x a slot that owns -/
def e2o (op : D → D → Option R) (i : Nat) (g : Ex) : Ex := fun env => match owOf env[i]? with
  | some _ => (vf g env).bind fun q => match owOf q.2[i]? with
    | some o => (op o.d q.1).bind fun z => if z.lf = true then some (z, q.2) else none
    | none => none
  | none => none
theorem em_2o {r : R2} {op : D → D → Option R} {i : Nat} {tb : TE} {g : Ex} (ho : OpM K r op) (hb : EM K tb g) : EM K (tOp r (tVar i) tb) (e2o op i g) := by
  intro w0 w σ env e z env' h Q q
  unfold e2o at h
  split at h
  · rename_i o0 ho0
    obtain ⟨a, ha, _⟩ := e.ow ho0
    obtain ⟨⟨y, e1⟩, h1, h⟩ := Option.bind_eq_some_iff.mp h
    refine ⟨_, ha, ?_⟩
    refine hb.v w0 w σ env e y e1 h1 _ fun u w1 E1 s1 r1 => ?_
    simp only at h
    split at h
    · rename_i o hoo
      obtain ⟨z', h2, h⟩ := Option.bind_eq_some_iff.mp h
      split at h
      · rename_i hl
        cases h
        obtain ⟨a', ha', hO⟩ := E1.ow hoo
        rw [ha] at ha'
        cases ha'
        refine own_read E1 hO ha (P := fun H Q => r (.ref a) u H Q) hl (fun Q' q' => ?_) fun v w' E s rr => q v w' E (s1.trans s) rr
        exact ho (w1.frz a) (Wd.frz_good E1.good a) _ u o.d y (hO.1.frz E1.good hO.2) (r1.go E1.good (w1.frz_step a)) _ h2 Q' q'
      · cases h
    · cases h
  · cases h
/-- op(e, x), x a slot that owns -/
def e2r (op : D → D → Option R) (f : Ex) (i : Nat) : Ex := fun env => (vf f env).bind fun p => match owOf p.2[i]? with
  | some o => (op p.1 o.d).bind fun z => if z.lf = true then some (z, p.2) else none
  | none => none
theorem em_2r {r : R2} {op : D → D → Option R} {i : Nat} {ta : TE} {f : Ex} (ho : OpM K r op) (ha : EM K ta f) : EM K (tOp r ta (tVar i)) (e2r op f i) := by
  intro w0 w σ env e z env' h Q q
  obtain ⟨⟨x, e1⟩, h1, h⟩ := Option.bind_eq_some_iff.mp h
  refine ha.v w0 w σ env e x e1 h1 _ fun u w1 E1 s1 r1 => ?_
  simp only at h
  split at h
  · rename_i o hoo
    obtain ⟨z', h2, h⟩ := Option.bind_eq_some_iff.mp h
    split at h
    · rename_i hl
      cases h
      obtain ⟨a', ha', hO⟩ := E1.ow hoo
      refine ⟨_, ha', ?_⟩
      refine own_read E1 hO ha' (P := fun H Q => r u (.ref a') H Q) hl (fun Q' q' => ?_) fun v w' E s rr => q v w' E (s1.trans s) rr
      exact ho (w1.frz a') (Wd.frz_good E1.good a') u _ x o.d (r1.go E1.good (w1.frz_step a')) (hO.1.frz E1.good hO.2) _ h2 Q' q'
    · cases h
  · cases h
/-- f(x), x a slot that owns, f built in -/
def eBo (op : List D → Option R) (i : Nat) : Ex := fun env => match owOf env[i]? with
  | some o => (op [o.d]).bind fun z => if z.lf = true then some (z, env) else none
  | none => none
theorem em_Bo {r : List V → Hp → VK → Prop} {op : List D → Option R} {i : Nat} (ho : ClM K r op) : EM K (tCB r (tCons (tVar i) tNil)) (eBo op i) := by
  intro w0 w σ env e z env' h Q q
  unfold eBo at h
  split at h
  · rename_i o hoo
    obtain ⟨z', h2, h⟩ := Option.bind_eq_some_iff.mp h
    split at h
    · rename_i hl
      cases h
      obtain ⟨a, ha, hO⟩ := e.ow hoo
      refine ⟨_, ha, ?_⟩
      refine own_read e hO ha (P := fun H Q => r [.ref a] H Q) hl (fun Q' q' => ?_) q
      exact ho (w.frz a) (Wd.frz_good e.good a) _ _ (.cons (hO.1.frz e.good hO.2) .nil) _ h2 Q' q'
    · cases h
  · cases h
/-- x[l:u], x a slot that owns -/
def e_slo (i : Nat) (l u : Eo) : Ex := fun env => match owOf env[i]? with
  | some _ => (l env).bind fun q => (u q.2).bind fun t => match owOf t.2[i]? with
    | some o => (o_sl o.d q.1 t.1).bind fun z => if z.lf = true then some (z, t.2) else none
    | none => none
  | none => none
theorem em_slo {i : Nat} {tl th : TO} {l u : Eo} (hl : OM K tl l) (hu : OM K th u) : EM K (tSl (rSlX K) (tVar i) tl th) (e_slo i l u) := by
  intro w0 w σ env e z env' h Q q
  unfold e_slo at h
  split at h
  · rename_i o0 ho0
    obtain ⟨a, ha, _⟩ := e.ow ho0
    obtain ⟨⟨lo, e2⟩, h2, h⟩ := Option.bind_eq_some_iff.mp h
    obtain ⟨⟨hi, e3⟩, h3, h⟩ := Option.bind_eq_some_iff.mp h
    refine ⟨_, ha, ?_⟩
    refine hl w0 w σ env e lo e2 h2 _ fun w2 E2 s2 => ?_
    refine hu w0 w2 σ e2 E2 hi e3 h3 _ fun w3 E3 s3 => ?_
    simp only at h
    split at h
    · rename_i o hoo
      obtain ⟨z', h4, h⟩ := Option.bind_eq_some_iff.mp h
      split at h
      · rename_i hlf
        cases h
        obtain ⟨a', ha', hO⟩ := E3.ow hoo
        rw [ha] at ha'
        cases ha'
        refine own_read E3 hO ha (P := fun H Q => rSlX K (.ref a) lo hi H Q) hlf (fun Q' fin => ?_) fun v w' E s rr => q v w' E ((s2.trans s3).trans s) rr
        have r3 := hO.1.frz E3.good hO.2
        have gg := Wd.frz_good E3.good a
        cases o with
        | lst ds =>
          cases r3 with
          | lst l r => exact .inl ⟨_, _, rfl, l.sq, fun p hp => outL (w := w3.frz a) gg hp (r.cut lo hi) h4 fin⟩
      · cases h
    · cases h
  · cases h
/-- xs.pop() -/
def e_pop (i : Nat) : Ex := fun env => match owOf env[i]? with
  | some (.lst ds) => match ds[ds.length - 1]? with
    | some d => some (.val d, putOw env i (.lst ds.dropLast))
    | none => none
  | _ => none
theorem Reps.dropLast {vs : List V} {ds : List D} (r : Reps K w vs ds) : Reps K w vs.dropLast ds.dropLast := by
  rw [List.dropLast_eq_take, List.dropLast_eq_take, r.length]
  exact r.take _
theorem em_pop {i : Nat} : EM K (tBM0 K "list" rPop (tVar i)) (e_pop i) := by
  intro w0 w σ env e r env' h Q q
  unfold e_pop at h
  split at h
  · rename_i ds ho
    split at h
    · rename_i d hd
      cases h
      obtain ⟨a, ha, hO, _⟩ := e.ow ho
      obtain ⟨xs, hx, rx⟩ := hO.is
      obtain ⟨v, v1, v2⟩ := rx.get hd
      obtain ⟨E2, s2⟩ := e.write ho ha rx.dropLast
      exact ⟨_, ha, .inl ⟨rfl, xs, .inl (.inl hx)⟩, a, xs, v, rfl, rfl, hx, by rw [rx.length]; exact v1, q v _ E2 s2 (v2.go e.good s2)⟩
    · cases h
  · cases h

/-! ### what a for walks -/
theorem itok_list {v : V} {a : Addr} {ds : List D} (g : Good w) (r : Rep K w (.ref a) (.lst ds)) : ItOk K w (Itl K a) ds := by
  intro i w2 g2 s
  have r2 := r.go g s
  cases r2 with
  | lst l rs =>
    refine ⟨fun d hd => ?_, fun h => ⟨_, l.sq, by rw [rs.length]; exact h⟩⟩
    obtain ⟨x, hx, rx⟩ := rs.get hd
    refine ⟨⟨_, x, l.sq, hx⟩, fun y H' hy => ?_⟩
    obtain ⟨rfl, hy⟩ := hy
    have : y = x := Option.some.inj ((hy _ l.sq).symm.trans hx)
    subst this
    exact ⟨w2, rfl, .refl w2, g2, rx⟩
theorem itok_tup {a : Addr} {ds : List D} (g : Good w) (r : Rep K w (.ref a) (.tup ds)) : ItOk K w (Itt K a) ds := by
  intro i w2 g2 s
  have r2 := r.go g s
  cases r2 with
  | tup l rs =>
    refine ⟨fun d hd => ?_, fun h => ⟨_, l.sq, by rw [rs.length]; exact h⟩⟩
    obtain ⟨x, hx, rx⟩ := rs.get hd
    refine ⟨⟨_, x, l.sq, hx⟩, fun y H' hy => ?_⟩
    obtain ⟨rfl, hy⟩ := hy
    have : y = x := Option.some.inj ((hy _ l.sq).symm.trans hx)
    subst this
    exact ⟨w2, rfl, .refl w2, g2, rx⟩
/-- a list or a tuple -/
def iSeq (K : PySem.W.Frag) (tl : TE) : TI := fun σ H R => tl σ H fun x H1 => ∃ a, x = .ref a ∧ (((∃ xs, SqL K H1 a xs) ∧ R (Itl K a) H1) ∨ ((∃ xs, SqT K H1 a xs) ∧ R (Itt K a) H1))
theorem pi_seq {X : Cx} {tg l : Expr} {tl : TE} (hl : PE X l tl) : PI X tg l (iSeq X.K tl) := by
  refine ⟨fun pins s σ H R I h => ?_⟩
  refine thn (hl.run pins s σ H _ I h) fun v s1 ⟨x, H1, I1, r1, q1⟩ => ?_
  obtain ⟨a, e, q⟩ := q1
  subst e
  cases r1
  rcases q with ⟨⟨xs, hq⟩, q⟩ | ⟨⟨xs, hq⟩, q⟩
  · obtain ⟨its, rv, p, hz⟩ := I1.list hq
    refine wpAny_pyIter_list p.isList ?_
    refine ⟨s1.heap.objs.size, [s1.heap.objs.size], _, _, H1, rfl, I1.kept (t' := s1.toks) fun b o e => Heap.get?_push_of_some _ e, turn_list a _, ⟨_, Heap.get?_push_size _ rfl, rfl, rfl⟩, fun b hb => ?_, q⟩
    have e : b = s1.heap.objs.size := by simpa using hb
    subst e
    exact I1.fpOk (Nat.le_refl _) (I1.hok.fresh (Nat.le_refl _))
  · obtain ⟨its, rv, p, hz⟩ := I1.tuple hq
    refine wpAny_pyIter_tuple (show s1.heap.IsTuple a its.toArray from p) ?_
    refine ⟨s1.heap.objs.size, [s1.heap.objs.size], _, _, H1, rfl, I1.kept (t' := s1.toks) fun b o e => Heap.get?_push_of_some _ e, turn_tuple a _, ⟨_, Heap.get?_push_size _ rfl, rfl, rfl⟩, fun b hb => ?_, q⟩
    have e : b = s1.heap.objs.size := by simpa using hb
    subst e
    exact I1.fpOk (Nat.le_refl _) (I1.hok.fresh (Nat.le_refl _))
def s_seq (f : Ex) : Src := fun env => (vf f env).bind fun p => match p.1 with
  | .lst ds => some (ds, p.2)
  | .tup ds => some (ds, p.2)
  | _ => none
theorem im_seq {te : TE} {f : Ex} (hf : EM K te f) : IM K (iSeq K te) (s_seq f) := by
  intro w0 w σ env e ds env' h Q q
  obtain ⟨⟨x, e1⟩, h1, h⟩ := Option.bind_eq_some_iff.mp h
  refine hf.v w0 w σ env e x e1 h1 _ fun v w1 E1 s1 r1 => ?_
  have r1' := r1
  cases r1 with
  | fn _ => first | cases h | cases hh | cases h3
  | lst l r => cases h; exact ⟨_, rfl, .inl ⟨⟨_, l.sq⟩, q _ w1 E1 s1 (itok_list (v := .non) E1.good r1')⟩⟩
  | tup l r => cases h; exact ⟨_, rfl, .inr ⟨⟨_, l.sq⟩, q _ w1 E1 s1 (itok_tup E1.good r1')⟩⟩
  | non => cases h
  | bl _ => cases h
  | int _ => cases h
  | str _ => cases h
/-- range -/
def rngL (lo : Int) (n : Nat) : List D := (List.range n).map fun (k : Nat) => D.int (lo + (k : Int))
omit [FnTab] in
theorem rngL_get {lo : Int} {n i : Nat} {d : D} (h : (rngL lo n)[i]? = some d) : i < n ∧ d = .int (lo + (i : Int)) := by
  unfold rngL at h
  rw [List.getElem?_map] at h
  by_cases hi : i < n
  · rw [List.getElem?_range hi] at h
    cases h
    exact ⟨hi, rfl⟩
  · rw [List.getElem?_eq_none (by rw [List.length_range]; omega)] at h
    cases h
omit [FnTab] in
theorem rngL_length {lo : Int} {n : Nat} : (rngL lo n).length = n := by unfold rngL; rw [List.length_map, List.length_range]
theorem itok_rng {lo : Int} {n : Nat} : ItOk K w (Itr lo n) (rngL lo n) := by
  intro i w2 g2 s
  refine ⟨fun d hd => ?_, fun h => by rw [rngL_length] at h; exact h⟩
  obtain ⟨h1, rfl⟩ := rngL_get hd
  refine ⟨h1, fun y H' hy => ?_⟩
  obtain ⟨rfl, rfl⟩ := hy
  exact ⟨w2, rfl, .refl w2, g2, .int _⟩
/-- a range's number; by no test that the kernel would count -/
structure rngOK (z : Int) : Prop where
  lo : -(2 ^ 62) ≤ z
  hi : z < 2 ^ 62
open Classical in
noncomputable def s_rng (f : Ea) : Src := fun env => (f env).bind fun p => match p.1 with
  | [.int j] => if rngOK j then some (rngL 0 j.toNat, p.2) else none
  | _ => none
open Classical in
noncomputable def s_rng2 (f : Ea) : Src := fun env => (f env).bind fun p => match p.1 with
  | [.int i, .int j] => if rngOK i ∧ rngOK j then some (rngL i (j - i).toNat, p.2) else none
  | _ => none
theorem im_rng {ta : TA} {f : Ea} (ha : AM K ta f) : IM K (iRng1 ta) (s_rng f) := by
  intro w0 w σ env e ds env' h Q q
  obtain ⟨⟨x, e1⟩, h1, h⟩ := Option.bind_eq_some_iff.mp h
  refine ha w0 w σ env e x e1 h1 _ fun vs w1 E1 s1 r1 => ?_
  simp only at h
  split at h
  · rename_i j
    split at h
    · rename_i hj
      cases h
      cases r1 with
      | cons a b =>
        cases a
        cases b
        exact ⟨j, rfl, hj.lo, hj.hi, q _ w1 E1 s1 itok_rng⟩
    · cases h
  · cases h
theorem im_rng2 {ta : TA} {f : Ea} (ha : AM K ta f) : IM K (iRng2 ta) (s_rng2 f) := by
  intro w0 w σ env e ds env' h Q q
  obtain ⟨⟨x, e1⟩, h1, h⟩ := Option.bind_eq_some_iff.mp h
  refine ha w0 w σ env e x e1 h1 _ fun vs w1 E1 s1 r1 => ?_
  simp only at h
  split at h
  · rename_i i j
    split at h
    · rename_i hj
      cases h
      cases r1 with
      | cons a b =>
        cases a
        cases b with
        | cons a b =>
          cases a
          cases b
          exact ⟨i, j, rfl, ⟨hj.1.lo, hj.1.hi, hj.2.lo, hj.2.hi⟩, q _ w1 E1 s1 itok_rng⟩
    · cases h
  · cases h
/-- enumerate(list) -/
def enumL (n : Nat) : List D → List D
  | [] => []
  | d :: ds => .tup [.int (n : Int), d] :: enumL (n + 1) ds
omit [FnTab] in
theorem enumL_get : ∀ {ds : List D} {n i : Nat} {d : D}, (enumL n ds)[i]? = some d → ∃ x, ds[i]? = some x ∧ d = .tup [.int ((n + i : Nat) : Int), x]
  | [], _, _, _, h => by simp [enumL] at h
  | x :: ds, n, 0, d, h => by simp [enumL] at h; exact ⟨x, rfl, h.symm⟩
  | x :: ds, n, i + 1, d, h => by
    obtain ⟨y, h1, h2⟩ := enumL_get (ds := ds) (n := n + 1) (i := i) (by simpa [enumL] using h)
    exact ⟨y, by simpa using h1, by rw [h2, show n + 1 + i = n + (i + 1) by omega]⟩
omit [FnTab] in
theorem enumL_length : ∀ {ds : List D} {n : Nat}, (enumL n ds).length = ds.length
  | [], _ => rfl
  | _ :: ds, n => congrArg (· + 1) (enumL_length (ds := ds) (n := n + 1))
def s_enum (f : Ea) : Src := fun env => (f env).bind fun p => match p.1 with
  | [.lst ds] => some (enumL 0 ds, p.2)
  | _ => none
theorem im_enum {ta : TA} {f : Ea} (ha : AM K ta f) : IM K (iEnum K ta) (s_enum f) := by
  intro w0 w σ env e ds env' h Q q
  obtain ⟨⟨x, e1⟩, h1, h⟩ := Option.bind_eq_some_iff.mp h
  refine ha w0 w σ env e x e1 h1 _ fun vs w1 E1 s1 r1 => ?_
  simp only at h
  split at h
  · rename_i ds'
    cases h
    cases r1 with
    | cons a b =>
      cases b
      have a' := a
      cases a with
      | @lst p xs _ l r =>
        refine ⟨p, xs, rfl, l.sq, q _ w1 E1 s1 fun i w2 g2 s => ?_⟩
        have r2 := a'.go E1.good s
        cases r2 with
        | lst l2 rs2 =>
          refine ⟨fun d hd => ?_, fun h => ⟨_, l2.sq, by rw [rs2.length]; rw [enumL_length] at h; exact h⟩⟩
          obtain ⟨y, hy, rfl⟩ := enumL_get hd
          obtain ⟨u, hu, ru⟩ := rs2.get hy
          refine ⟨⟨_, u, l2.sq, hu⟩, fun v H' hv => ?_⟩
          obtain ⟨T, u', rfl, hT, rfl, hu'⟩ := hv
          have : u' = u := Option.some.inj ((hu' _ l2.sq).symm.trans hu)
          subst this
          rw [Nat.zero_add]
          exact ⟨w2.put T _, rfl, Wd.put_step hT, Wd.put_good g2 hT, put_tup g2 hT (.cons (.int _) (.cons ru .nil))⟩
  · cases h
/-- zip of two lists -/
def zipL : List D → List D → List D
  | a :: as, b :: bs => .tup [a, b] :: zipL as bs
  | _, _ => []
omit [FnTab] in
theorem zipL_get : ∀ {as bs : List D} {i : Nat} {d : D}, (zipL as bs)[i]? = some d → ∃ x y, as[i]? = some x ∧ bs[i]? = some y ∧ d = .tup [x, y]
  | [], _, _, _, h => by simp [zipL] at h
  | _ :: _, [], _, _, h => by simp [zipL] at h
  | x :: as, y :: bs, 0, d, h => by simp [zipL] at h; exact ⟨x, y, rfl, rfl, h.symm⟩
  | x :: as, y :: bs, i + 1, d, h => by
    obtain ⟨x', y', h1, h2, h3⟩ := zipL_get (as := as) (bs := bs) (i := i) (by simpa [zipL] using h)
    exact ⟨x', y', by simpa using h1, by simpa using h2, h3⟩
omit [FnTab] in
theorem zipL_length : ∀ {as bs : List D}, (zipL as bs).length = min as.length bs.length
  | [], _ => by simp [zipL]
  | _ :: _, [] => by simp [zipL]
  | _ :: as, _ :: bs => by simp [zipL, zipL_length (as := as) (bs := bs)]
def s_zip (f : Ea) : Src := fun env => (f env).bind fun p => match p.1 with
  | [.lst as, .lst bs] => some (zipL as bs, p.2)
  | [.tup as, .tup bs] => some (zipL as bs, p.2)
  | _ => none
theorem im_zip {ta : TA} {f : Ea} (ha : AM K ta f) : IM K (iZipA K ta) (s_zip f) := by
  intro w0 w σ env e ds env' h Q q
  obtain ⟨⟨x, e1⟩, h1, h⟩ := Option.bind_eq_some_iff.mp h
  refine ha w0 w σ env e x e1 h1 _ fun vs w1 E1 s1 r1 => ?_
  simp only at h
  split at h
  · rename_i as bs
    cases h
    cases r1 with
    | cons a b =>
      cases b with
      | cons b c =>
        cases c
        have a' := a
        have b' := b
        cases a with
        | @lst p xs _ l r =>
          cases b with
          | @lst p2 ys _ l2 r2 =>
            refine ⟨p, p2, xs, ys, rfl, .inl ⟨l.sq, l2.sq, q _ w1 E1 s1 fun i w2 g2 s => ?_⟩⟩
            have r3 := a'.go E1.good s
            have r4 := b'.go E1.good s
            cases r3 with
            | lst l3 rs3 =>
              cases r4 with
              | lst l4 rs4 =>
                refine ⟨fun d hd => ?_, fun h => ⟨_, _, l3.sq, l4.sq, by rw [rs3.length, rs4.length]; rw [zipL_length] at h; omega⟩⟩
                obtain ⟨y, z, hy, hz, rfl⟩ := zipL_get hd
                obtain ⟨u, hu, ru⟩ := rs3.get hy
                obtain ⟨t, ht, rt⟩ := rs4.get hz
                refine ⟨⟨_, _, u, t, l3.sq, l4.sq, hu, ht⟩, fun v H' hv => ?_⟩
                obtain ⟨T, u', t', rfl, hT, rfl, hu', ht'⟩ := hv
                have e1 : u' = u := Option.some.inj ((hu' _ l3.sq).symm.trans hu)
                have e2 : t' = t := Option.some.inj ((ht' _ l4.sq).symm.trans ht)
                subst e1 e2
                exact ⟨w2.put T _, rfl, Wd.put_step hT, Wd.put_good g2 hT, put_tup g2 hT (.cons ru (.cons rt .nil))⟩
  · rename_i as bs
    cases h
    cases r1 with
    | cons a b =>
      cases b with
      | cons b c =>
        cases c
        have a' := a
        have b' := b
        cases a with
        | @tup p xs _ l r =>
          cases b with
          | @tup p2 ys _ l2 r2 =>
            refine ⟨p, p2, xs, ys, rfl, .inr ⟨l.sq, l2.sq, q _ w1 E1 s1 fun i w2 g2 s => ?_⟩⟩
            have r3 := a'.go E1.good s
            have r4 := b'.go E1.good s
            cases r3 with
            | tup l3 rs3 =>
              cases r4 with
              | tup l4 rs4 =>
                refine ⟨fun d hd => ?_, fun h => ⟨_, _, l3.sq, l4.sq, by rw [rs3.length, rs4.length]; rw [zipL_length] at h; omega⟩⟩
                obtain ⟨y, z, hy, hz, rfl⟩ := zipL_get hd
                obtain ⟨u, hu, ru⟩ := rs3.get hy
                obtain ⟨t, ht, rt⟩ := rs4.get hz
                refine ⟨⟨_, _, u, t, l3.sq, l4.sq, hu, ht⟩, fun v H' hv => ?_⟩
                obtain ⟨T, u', t', rfl, hT, rfl, hu', ht'⟩ := hv
                have e1 : u' = u := Option.some.inj ((hu' _ l3.sq).symm.trans hu)
                have e2 : t' = t := Option.some.inj ((ht' _ l4.sq).symm.trans ht)
                subst e1 e2
                exact ⟨w2.put T _, rfl, Wd.put_step hT, Wd.put_good g2 hT, put_tup g2 hT (.cons ru (.cons rt .nil))⟩
  · cases h

/-! ### comprehensions -/
/-- an object beside the slots is changed -/
theorem EnvOk.beside {a : Addr} {xs : List V} (e : EnvOk K w0 w σ env) (hO : w.O a) (hW : ¬ w.W a) (hn : w0.H a = none) : EnvOk K w0 { w with H := upd w.H a (.lst xs) } σ env ∧ OStep w { w with H := upd w.H a (.lst xs) } := by
  have o : OStep w { w with H := upd w.H a (.lst xs) } := ⟨fun b u hb h => by
    show upd w.H a _ b = _
    rw [upd_ne (fun z => hb (by rw [z]; exact hO))]; exact h, fun p h => .inl h⟩
  refine ⟨?_, o⟩
  have trk : ∀ b, w.H b ≠ none → upd w.H a (.lst xs) b ≠ none := fun b h => by
    by_cases hb : b = a
    · subst hb; rw [upd_same]; exact fun z => nomatch z
    · rw [upd_ne hb]; exact h
  have ow : ∀ {b : Addr} {ob : Ow}, OwAt K w b ob → OwAt K { w with H := upd w.H a (.lst xs) } b ob := fun {b ob} h => by
    have nb : b ≠ a := fun z => hW (by rw [← z]; exact h.wa)
    exact ⟨h.wa, h.is.goO o (upd_ne nb)⟩
  refine ⟨e.g0, ⟨fun p hp => trk p (e.good.dom p hp)⟩, ⟨fun b u hb h => ?_, fun b h => trk b (e.st.trk b h), e.st.wsub, e.st.b1, e.st.b2⟩, e.len,
    fun i d h => let ⟨v, h1, h2⟩ := e.val i d h; ⟨v, h1, h2.goO o⟩, fun i ob h => let ⟨b, h1, h2, h3⟩ := e.own i ob h; ⟨b, h1, h2, ow h3⟩, fun i ob h => let ⟨b, h1, h2, h3⟩ := e.arg i ob h; ⟨b, h1, h2, ow h3⟩, e.inj, e.pin⟩
  show upd w.H a _ b = _
  rw [upd_ne (fun z => by rw [z, hn] at h; cases h)]
  exact e.st.keep b u hb h
def wipeE (env : List Sl) : List Nat → List Sl
  | [] => env
  | v :: vs => (wipeE env vs).set v .no
/-- the slots vs as they stood -/
def rest (old new : List Sl) (vs : List Nat) : List Sl := new.mapIdx fun i s => if i ∈ vs then old.getD i .no else s
theorem rest_get {old new : List Sl} {vs : List Nat} {i : Nat} : (rest old new vs)[i]? = (new[i]?).map fun s => if i ∈ vs then old.getD i .no else s := by
  unfold rest
  rw [List.getElem?_mapIdx]
theorem wipeE_length : ∀ vs : List Nat, (wipeE env vs).length = env.length
  | [] => rfl
  | v :: vs => by unfold wipeE; rw [List.length_set, wipeE_length vs]
theorem wipe_in {v : Nat} : ∀ {vs : List Nat}, v ∈ vs → v < σ.length → (wipe σ vs)[v]? = some none
  | u :: vs, h, hl => by
    unfold wipe
    by_cases hu : u = v
    · subst hu
      rw [List.getElem?_set_self (by rw [wipe_length]; exact hl)]
    · rw [List.getElem?_set_ne hu]
      exact wipe_in (by rcases List.mem_cons.mp h with h | h; exact absurd h.symm hu; exact h) hl
theorem wipe_out {v : Nat} : ∀ {vs : List Nat}, v ∉ vs → (wipe σ vs)[v]? = σ[v]?
  | [], _ => rfl
  | u :: vs, h => by
    unfold wipe
    rw [List.getElem?_set_ne (fun z => h (by rw [z]; exact List.mem_cons_self))]
    exact wipe_out fun z => h (List.mem_cons_of_mem _ z)
theorem wipe_ext {σ τ : L2.St} {vs : List Nat} (hl : σ.length = τ.length) (h : ∀ v, v ∉ vs → σ[v]? = τ[v]?) : wipe σ vs = wipe τ vs := by
  apply List.ext_getElem?
  intro v
  by_cases hv : v ∈ vs
  · by_cases hb : v < σ.length
    · rw [wipe_in hv hb, wipe_in hv (by omega)]
    · rw [List.getElem?_eq_none (by rw [wipe_length]; omega), List.getElem?_eq_none (by rw [wipe_length]; omega)]
  · rw [wipe_out hv, wipe_out hv, h v hv]
theorem wipe_back {σ τ : L2.St} {vs : List Nat} (h : wipe σ vs = wipe τ vs) {v : Nat} (hv : v ∉ vs) : σ[v]? = τ[v]? := by
  rw [← wipe_out (σ := σ) hv, h, wipe_out hv]
theorem wipe_wipe {vs : List Nat} : wipe (wipe σ vs) vs = wipe σ vs := wipe_ext (wipe_length σ vs) fun _ hv => wipe_out hv
theorem wipeE_out {v : Nat} : ∀ {vs : List Nat}, v ∉ vs → (wipeE env vs)[v]? = env[v]?
  | [], _ => rfl
  | u :: vs, h => by
    unfold wipeE
    rw [List.getElem?_set_ne (fun z => h (by rw [z]; exact List.mem_cons_self))]
    exact wipeE_out fun z => h (List.mem_cons_of_mem _ z)
theorem wipeE_in {v : Nat} : ∀ {vs : List Nat}, v ∈ vs → v < env.length → (wipeE env vs)[v]? = some .no
  | u :: vs, h, hl => by
    unfold wipeE
    by_cases hu : u = v
    · subst hu
      rw [List.getElem?_set_self (by rw [wipeE_length]; exact hl)]
    · rw [List.getElem?_set_ne hu]
      exact wipeE_in (by rcases List.mem_cons.mp h with h | h; exact absurd h.symm hu; exact h) hl
def noOw (env : List Sl) (vs : List Nat) : Bool := vs.all fun v => match env[v]? with
  | some .no => true
  | some (.val _) => true
  | _ => false
theorem noOw_at {vs : List Nat} {v : Nat} (h : noOw env vs = true) (hv : v ∈ vs) : v < env.length ∧ isO env[v]? = false := by
  have q := List.all_eq_true.mp h v hv
  cases e : env[v]? with
  | none => rw [e] at q; cases q
  | some s =>
    refine ⟨(List.getElem?_eq_some_iff.mp e).1, ?_⟩
    cases s <;> rw [e] at q <;> first | rfl | cases q
theorem EnvOk.wipe {vs : List Nat} (e : EnvOk K w0 w σ env) (h : noOw env vs = true) : EnvOk K w0 w (L2.wipe σ vs) (wipeE env vs) := by
  have key : ∀ (j : Nat) (y : Sl), (wipeE env vs)[j]? = some y → y ≠ .no → j ∉ vs ∧ env[j]? = some y ∧ (L2.wipe σ vs)[j]? = σ[j]? := fun j y hj hy => by
    by_cases hv : j ∈ vs
    · rw [wipeE_in hv (noOw_at h hv).1] at hj
      cases hj
      exact absurd rfl hy
    · rw [wipeE_out hv] at hj
      exact ⟨hv, hj, wipe_out hv⟩
  have keyO : ∀ j : Nat, isO (wipeE env vs)[j]? = true → isO env[j]? = true ∧ (L2.wipe σ vs)[j]? = σ[j]? := fun j hj => by
    cases q : (wipeE env vs)[j]? with
    | none => rw [q] at hj; cases hj
    | some y =>
      have hy : y ≠ .no := fun z => by rw [q, z] at hj; cases hj
      obtain ⟨_, h2, h3⟩ := key j y q hy
      rw [q] at hj
      exact ⟨by rw [h2]; exact hj, h3⟩
  refine ⟨e.g0, e.good, e.st, by rw [wipe_length, wipeE_length]; exact e.len, fun i d hi => ?_, fun i o hi => ?_, fun i o hi => ?_, fun i j a h1 h2 h3 h4 => ?_, fun p hp => ?_⟩
  · obtain ⟨_, h2, h3⟩ := key i _ hi (fun z => nomatch z)
    rw [h3]; exact e.val i d h2
  · obtain ⟨_, h2, h3⟩ := key i _ hi (fun z => nomatch z)
    rw [h3]; exact e.own i o h2
  · obtain ⟨_, h2, h3⟩ := key i _ hi (fun z => nomatch z)
    rw [h3]; exact e.arg i o h2
  · obtain ⟨k1, k2⟩ := keyO i h1
    obtain ⟨k3, k4⟩ := keyO j h2
    rw [k2] at h3
    rw [k4] at h4
    exact e.inj i j a k1 k3 h3 h4
  · obtain ⟨h1, o, h2⟩ := e.pin p hp
    have hv : p.1 ∉ vs := fun z => by
      have := (noOw_at h z).2
      rw [h2] at this
      cases this
    exact ⟨by rw [wipe_out hv]; exact h1, o, by rw [wipeE_out hv]; exact h2⟩
/-- the slots behind a turn -/
theorem EnvOk.rest {vs : List Nat} {σ2 : L2.St} {env2 : List Sl} (e : EnvOk K w0 w σ env) (h : noOw env vs = true) (s : Step w w') (E : EnvOk K w0 w' σ2 env2) (hw : L2.wipe σ2 vs = L2.wipe σ vs) (hl : env2.length = env.length) :
    EnvOk K w0 w' σ (Vz.rest env env2 vs) ∧ noOw (Vz.rest env env2 vs) vs = true := by
  have len2 : σ2.length = σ.length := by rw [← wipe_length σ2 vs, hw, wipe_length]
  have key : ∀ (j : Nat) (y : Sl), (Vz.rest env env2 vs)[j]? = some y → (j ∈ vs ∧ env[j]? = some y) ∨ (j ∉ vs ∧ env2[j]? = some y ∧ σ2[j]? = σ[j]?) := fun j y hj => by
    rw [rest_get] at hj
    cases q : env2[j]? with
    | none => rw [q] at hj; cases hj
    | some y2 =>
      rw [q] at hj
      by_cases hv : j ∈ vs
      · simp only [Option.map_some, if_pos hv, Option.some.injEq] at hj
        have hj2 := (noOw_at h hv).1
        rw [List.getD_eq_getElem?_getD, List.getElem?_eq_getElem hj2] at hj
        exact .inl ⟨hv, by rw [List.getElem?_eq_getElem hj2]; exact congrArg some hj⟩
      · simp only [Option.map_some, if_neg hv, Option.some.injEq] at hj
        exact .inr ⟨hv, by rw [hj], wipe_back hw hv⟩
  have keyO : ∀ j : Nat, isO (Vz.rest env env2 vs)[j]? = true → isO env2[j]? = true ∧ σ2[j]? = σ[j]? := fun j hj => by
    cases q : (Vz.rest env env2 vs)[j]? with
    | none => rw [q] at hj; cases hj
    | some y =>
      rcases key j y q with ⟨h1, h2⟩ | ⟨h1, h2, h3⟩
      · have := (noOw_at h h1).2
        rw [h2, ← q, hj] at this
        cases this
      · exact ⟨by rw [h2, ← q]; exact hj, h3⟩
  refine ⟨⟨e.g0, E.good, E.st, ?_, fun i d hi => ?_, fun i o hi => ?_, fun i o hi => ?_, fun i j a h1 h2 h3 h4 => ?_, fun p hp => ?_⟩, ?_⟩
  · unfold Vz.rest
    rw [List.length_mapIdx, hl]
    exact e.len
  · rcases key i _ hi with ⟨h1, h2⟩ | ⟨h1, h2, h3⟩
    · obtain ⟨v, v1, v2⟩ := e.val i d h2
      exact ⟨v, v1, v2.go e.good s⟩
    · rw [← h3]; exact E.val i d h2
  · rcases key i _ hi with ⟨h1, h2⟩ | ⟨h1, h2, h3⟩
    · have := (noOw_at h h1).2
      rw [h2] at this
      cases this
    · rw [← h3]; exact E.own i o h2
  · rcases key i _ hi with ⟨h1, h2⟩ | ⟨h1, h2, h3⟩
    · have := (noOw_at h h1).2
      rw [h2] at this
      cases this
    · rw [← h3]; exact E.arg i o h2
  · obtain ⟨k1, k2⟩ := keyO i h1
    obtain ⟨k3, k4⟩ := keyO j h2
    rw [← k2] at h3
    rw [← k4] at h4
    exact E.inj i j a k1 k3 h3 h4
  · obtain ⟨h1, o, h2⟩ := e.pin p hp
    obtain ⟨_, o', h3⟩ := E.pin p hp
    have hv : p.1 ∉ vs := fun z => by
      have := (noOw_at h z).2
      rw [h2] at this
      cases this
    exact ⟨h1, o', by rw [rest_get, h3]; simp only [Option.map_some, if_neg hv]⟩
  · refine List.all_eq_true.mpr fun v hv => ?_
    have q := List.all_eq_true.mp h v hv
    obtain ⟨hb, _⟩ := noOw_at h hv
    rw [rest_get, List.getElem?_eq_getElem (by rw [hl]; exact hb)]
    simp only [Option.map_some, if_pos hv]
    rw [List.getElem?_eq_getElem hb] at q
    rw [List.getD_eq_getElem?_getD, List.getElem?_eq_getElem hb]
    exact q
/-- a target that stores at vs alone -/
def OnlyG (vs : List Nat) (g : TG) : Prop := ∀ v (σ : L2.St) H (Q Q' : L2.St → Hp → Prop), (∀ σ' H', wipe σ' vs = wipe σ vs → Q σ' H' → Q' σ' H') → g v σ H Q → g v σ H Q'
def OnlyGs (vs : List Nat) (g : TGs) : Prop := ∀ v (σ : L2.St) H (Q Q' : L2.St → Hp → Prop), (∀ σ' H', wipe σ' vs = wipe σ vs → Q σ' H' → Q' σ' H') → g v σ H Q → g v σ H Q'
theorem only_n {i : Nat} {vs : List Nat} (h : i ∈ vs) : OnlyG vs (gName i) := fun v σ H Q Q' m q => m _ _ (wipe_ext List.length_set fun u hu => by rw [List.getElem?_set_ne (fun z => hu (by rw [← z]; exact h))]) q
theorem only_nil {vs : List Nat} : OnlyGs vs gNil := fun v σ H Q Q' m q => ⟨q.1, m _ _ rfl q.2⟩
theorem only_cons {vs : List Nat} {g : TG} {gs : TGs} (h1 : OnlyG vs g) (h2 : OnlyGs vs gs) : OnlyGs vs (gCons g gs) := by
  intro v σ H Q Q' m q
  obtain ⟨x, r, rfl, q⟩ := q
  exact ⟨x, r, rfl, h1 _ _ _ _ _ (fun σ1 H1 z1 q1 => h2 _ _ _ _ _ (fun σ2 H2 z2 q2 => m σ2 H2 (z2.trans z1) q2) q1) q⟩
theorem only_tup {n : Nat} {vs : List Nat} {gs : TGs} (h : OnlyGs vs gs) : OnlyG vs (gTup K n gs) := fun v σ H Q Q' m q => by
  obtain ⟨a, xs, rfl, h1, h2, q⟩ := q
  exact ⟨a, xs, rfl, h1, h2, h _ _ _ _ _ m q⟩
def lcGo (vs : List Nat) (t : Tg) (c : Et) (f : Ex) : List D → List Sl → List D → Option (R × List Sl)
  | [], env, acc => some (.own (.lst acc), env)
  | d :: ds, env, acc => (t (.val d) (wipeE env vs)).bind fun e1 => (c e1).bind fun p => if p.1 = true then
      (vf f p.2).bind fun q => if q.2.length = env.length ∧ acc.length < 100000 then lcGo vs t c f ds (rest env q.2 vs) (acc ++ [q.1]) else none
    else if p.2.length = env.length then lcGo vs t c f ds (rest env p.2 vs) acc else none
def e_lc (vs : List Nat) (t : Tg) (s : Src) (c : Et) (f : Ex) : Ex := fun env => (s env).bind fun p => if noOw p.2 vs = true then lcGo vs t c f p.1 p.2 [] else none
def t_yes : Et := fun env => some (true, env)
theorem tm_yes : TM K tYes t_yes := fun w0 w σ env e b env' h Q q => by cases h; exact q w e (.refl w)
theorem em_lc {wi : TI} {g : TG} {tt : TT} {te : TE} {vs : List Nat} {t : Tg} {s : Src} {c : Et} {f : Ex} (hi : IM K wi s) (hg : GM K g t) (ho : OnlyG vs g) (hc : TM K tt c) (hf : EM K te f) : EM K (tLc wi g tt te vs) (e_lc vs t s c f) := by
  intro w0 w σ env e r env' h Q q
  obtain ⟨⟨ds, e1⟩, k1, h⟩ := Option.bind_eq_some_iff.mp h
  simp only at h
  split at h
  · rename_i hno
    refine hi w0 w σ env e ds e1 k1 _ fun J w1 E1 s1 hJ => ?_
    intro Da hD
    -- the new list stands beside the slots
    let wD : Wd := ⟨w1.W, fun p => w1.B p ∨ p = Da, upd w1.H Da (.lst [])⟩
    have gD : Good wD := ⟨fun p hp => by
      show upd w1.H Da _ p ≠ none
      by_cases hp2 : p = Da
      · subst hp2; rw [upd_same]; exact fun z => nomatch z
      · rw [upd_ne hp2]; exact hp.elim (fun k => E1.good.dom p (.inl k)) fun k => k.elim (fun k => E1.good.dom p (.inr k)) fun k => absurd k hp2⟩
    have pD : PStep w1 wD := ⟨(Wd.put_step (o := .lst []) hD).ext, fun _ h => h, fun _ h => .inl h, fun _ h => .inl h, fun p hp => hp.imp id fun z => by rw [z]; exact hD⟩
    have hD0 : w0.H Da = none := E1.st.none_back hD
    refine ⟨fun i m H' => m + i = ds.length ∧ ∃ (w2 : Wd) (env2 : List Sl) (acc : List D) (xs : List V), w2.H = H' ∧ EnvOk K w0 w2 σ env2 ∧ Step w1 w2 ∧ noOw env2 vs = true ∧ w2.B Da ∧ ¬ w2.W Da ∧ w2.H Da = some (.lst xs) ∧ Reps K w2 xs acc ∧
      lcGo vs t c f (ds.drop i) env2 acc = some (r, env'), ⟨ds.length, by omega, wD, e1, [], [], rfl, E1.grow pD gD, pD.step, hno, .inr rfl, fun z => E1.good.dom Da (.inl z) hD, upd_same, .nil, by simpa using h⟩, ?_⟩
    rintro i m H' ⟨em, w2, env2, acc, xs, rfl, E2, s2, no2, oD, wD2, hDl, rD, hgo⟩
    obtain ⟨j1, j2⟩ := hJ i w2 E2.good s2
    by_cases hl : i < ds.length
    · refine .inr ?_
      have hd : ds[i]? = some ds[i] := List.getElem?_eq_getElem hl
      obtain ⟨jgo, jy⟩ := j1 _ hd
      rw [List.drop_eq_getElem_cons hl] at hgo
      obtain ⟨e4, k4, hgo⟩ := Option.bind_eq_some_iff.mp hgo
      obtain ⟨⟨b, e5⟩, k5, hgo⟩ := Option.bind_eq_some_iff.mp hgo
      refine ⟨jgo, fun H3 => ∃ (w3 : Wd) (env3 : List Sl) (acc3 : List D) (xs3 : List V), w3.H = H3 ∧ EnvOk K w0 w3 σ env3 ∧ Step w1 w3 ∧ noOw env3 vs = true ∧ w3.B Da ∧ ¬ w3.W Da ∧ w3.H Da = some (.lst xs3) ∧ Reps K w3 xs3 acc3 ∧
        lcGo vs t c f (ds.drop (i + 1)) env3 acc3 = some (r, env'), fun H3 hN => ⟨m - 1, by omega, by omega, hN⟩, ?_⟩
      intro x H3 hx
      obtain ⟨w3, rfl, p3, g3, r3⟩ := jy x H3 hx
      have E23 := E2.grow p3 g3
      have E3 : EnvOk K w0 w3 (L2.wipe σ vs) (wipeE env2 vs) := E23.wipe no2
      -- the new list from here on
      have keepD : ∀ {wa : Wd}, Step w3 wa → wa.B Da ∧ ¬ wa.W Da ∧ wa.H Da = some (.lst xs) := fun {wa} sa => by
        have d3 : w3.H Da = some (.lst xs) := p3.ext _ _ hDl
        have nw3 : ¬ w3.W Da := fun z => (p3.wsub _ z).elim wD2 fun k => by rw [hDl] at k; cases k
        exact ⟨sa.b1 _ (p3.b1 _ oD), (fun z => (sa.wsub _ z).elim nw3 fun k => by rw [d3] at k; cases k), sa.keep Da _ nw3 d3⟩
      have both := hg w0 w3 (L2.wipe σ vs) (wipeE env2 vs) E3 x (.val ds[i]) e4 r3 k4 (fun σ4 H4 => ∃ w4 : Wd, w4.H = H4 ∧ EnvOk K w0 w4 σ4 e4 ∧ Step w3 w4) fun w4 σ4 E4 s4 => ⟨w4, rfl, E4, s4⟩
      refine ho _ _ _ _ _ (fun σ4 H4 hw4 q4 => ?_) both
      obtain ⟨w4, rfl, E4, s4⟩ := q4
      have hw4' : L2.wipe σ4 vs = L2.wipe σ vs := hw4.trans wipe_wipe
      refine ⟨hw4', ?_⟩
      refine hc w0 w4 σ4 e4 E4 b e5 k5 _ fun w5 E5 s5 => ?_
      cases b with
      | true =>
        simp only [if_true] at hgo ⊢
        obtain ⟨⟨y, e6⟩, k6, hgo⟩ := Option.bind_eq_some_iff.mp hgo
        refine hf.v w0 w5 σ4 e5 E5 y e6 k6 _ fun v w6 E6 s6 r6 => ?_
        simp only at hgo
        split at hgo
        · rename_i hlen
          have s36 : Step w3 w6 := (s4.trans s5).trans s6
          obtain ⟨b6, n6, d6⟩ := keepD s36
          have rD6 : Reps K w6 xs acc := rD.go E2.good (p3.step.trans s36)
          obtain ⟨E7, no7⟩ := E23.rest no2 s36 E6 hw4' hlen.1
          obtain ⟨E8, o8⟩ := E7.beside (xs := xs ++ [v]) (.inr b6) n6 hD0
          refine ⟨xs, d6, by rw [rD6.length]; exact Nat.lt_of_lt_of_le hlen.2 line5, { w6 with H := upd w6.H Da (.lst (xs ++ [v])) }, _, _, _, rfl, E8, ?_, no7, b6, n6, upd_same, (rD6.append (.cons r6 .nil)).goO o8, hgo⟩
          have s16 : Step w1 w6 := s2.trans (p3.step.trans s36)
          exact ⟨fun p o hp hh => by
            show upd w6.H Da _ p = _
            rw [upd_ne (fun z => by rw [z, hD] at hh; cases hh)]
            exact s16.keep p o hp hh, fun p hp => by
            show upd w6.H Da _ p ≠ none
            by_cases hz : p = Da
            · rw [hz, upd_same]; exact fun z => nomatch z
            · rw [upd_ne hz]; exact s16.trk p hp, s16.wsub, s16.b1, s16.b2⟩
        · cases hgo
      | false =>
        simp only [Bool.false_eq_true, if_false] at hgo ⊢
        split at hgo
        · rename_i hlen
          have s35 : Step w3 w5 := s4.trans s5
          obtain ⟨b5, n5, d5⟩ := keepD s35
          obtain ⟨E7, no7⟩ := E23.rest no2 s35 E5 hw4' hlen
          exact ⟨w5, _, _, xs, rfl, E7, s2.trans (p3.step.trans s35), no7, b5, n5, d5, rD.go E2.good (p3.step.trans s35), hgo⟩
        · cases hgo
    · refine .inl ⟨j2 (by omega), ?_⟩
      rw [List.drop_of_length_le (by omega)] at hgo
      cases hgo
      -- the list is given out
      let w3 : Wd := ⟨fun p => w2.W p ∨ p = Da, fun p => w2.B p ∧ p ≠ Da, w2.H⟩
      have g3 : Good w3 := ⟨fun p hp => hp.elim (fun k => k.elim (fun k => E2.good.dom p (.inl k)) fun k => by rw [k]; exact ne_none hDl) fun k => E2.good.dom p (.inr k.1)⟩
      have o3 : OStep w2 w3 := ⟨fun _ _ _ h => h, fun p hp => .inl (hp.elim (fun k => k.elim .inl fun k => .inr (by rw [k]; exact oD)) fun k => .inr k.1)⟩
      have st : ∀ {wa : Wd}, wa.H Da = none → Step wa w2 → (∀ p, wa.B p → wa.H p ≠ none) → Step wa w3 := fun {wa} hn sa da =>
        ⟨sa.keep, sa.trk, fun p hp => hp.elim (sa.wsub p) fun k => .inr (by rw [k]; exact hn), fun p hp => ⟨sa.b1 p hp, fun z => da p hp (by rw [z]; exact hn)⟩, fun p hp => sa.b2 p hp.1⟩
      have hDw : w.H Da = none := s1.none_back hD
      have E3 : EnvOk K w0 w3 σ env' := by
        refine ⟨E2.g0, g3, st hD0 E2.st fun p hp => E2.g0.dom p (.inr hp), E2.len, fun i d h => let ⟨v, h1, h2⟩ := E2.val i d h; ⟨v, h1, h2.goO o3⟩, fun i o h => ?_, fun i o h => ?_, E2.inj, E2.pin⟩
        · obtain ⟨a, h1, h2, h3⟩ := E2.own i o h
          exact ⟨a, h1, ⟨h2.1, fun z => h2.2 z.1⟩, .inl h3.wa, h3.is.goO o3 rfl⟩
        · obtain ⟨a, h1, h2, h3⟩ := E2.arg i o h
          exact ⟨a, h1, ⟨h2.1, fun z => h2.2 z.1⟩, .inl h3.wa, h3.is.goO o3 rfl⟩
      refine q _ w3 E3 (st hDw (s1.trans s2) fun p hp => e.good.dom p (.inr hp)) ⟨Da, rfl, ⟨hD0, fun z => z.2 rfl⟩, ⟨.inr rfl, xs, hDl, rD.goO o3⟩, fun i hi2 z => ?_⟩
      obtain ⟨a, o, h1, h2, _⟩ := E2.owned hi2
      rw [z] at h1
      cases h1
      exact wD2 h2.1.wa
  · cases h
end
end Vz
set_option maxRecDepth 100000
set_option maxHeartbeats 1000000
namespace Vz
open PySem PySem.Spec PyProof.Rows L2
variable [FnTab]
/-! ### a piece of the text and what it reckons -/
def XE (X : Cx) (e : Expr) (f : Ex) : Prop := ∃ te, PE X e te ∧ EM X.K te f
def XT (X : Cx) (e : Expr) (f : Et) : Prop := ∃ t, PT X e t ∧ TM X.K t f
def XW (X : Cx) (e : Expr) (f : Et) : Prop := ∃ t, PW X e t ∧ TM X.K t f
def XA (X : Cx) (es : List Expr) (f : Ea) : Prop := ∃ t, PA X es t ∧ AM X.K t f
def XR (X : Cx) (es : List Expr) (f : Er) : Prop := ∃ t, PA X es t ∧ ArM X.K t f
def XO (X : Cx) (e : Option Expr) (f : Eo) : Prop := ∃ t, PO X e t ∧ OM X.K t f
def XG (X : Cx) (e : Expr) (f : Tg) : Prop := ∃ t, PG X e t ∧ GM X.K t f
def XGs (X : Cx) (es : List Expr) (f : Tgs) : Prop := ∃ t, PGs X es t ∧ GsM X.K t f
def XI (X : Cx) (tg it : Expr) (f : Src) : Prop := ∃ t, PI X tg it t ∧ IM X.K t f
def XS (X : Cx) (st : Stmt) (f : Cm) : Prop := ∃ t, PS X st t ∧ SM X.K t f
def XB (X : Cx) (st : List Stmt) (f : Cm) : Prop := ∃ t, PSs X st t ∧ SM X.K t f
section
variable {X : Cx} {pos : Pos} {a b c e : Expr} {es : List Expr} {f g h : Ex}

/-! ### values -/
theorem x_int {i j} : XE X (.Constant (.int i) j pos) (e_c (.int i)) := ⟨_, pe_int, em_int⟩
theorem x_bl {b j} : XE X (.Constant (.bool b) j pos) (e_c (.bl b)) := ⟨_, pe_bl, em_bl⟩
theorem x_non {j} : XE X (.Constant .none j pos) (e_c .non) := ⟨_, pe_non, em_non⟩
theorem x_str {x j} : XE X (.Constant (.str x) j pos) (e_c (.str x)) := ⟨_, pe_str, em_str⟩
theorem x_v (i : Nat) {x : Str} (hN : X.N[i]? = some x := by rfl) (hv : Vis X.env.scope x := by first | exact Or.inl rfl | exact Or.inr (Or.inl rfl) | exact Or.inr (Or.inr rfl)) (hd : (x == ("__debug__" : Str)) = false := by decide)
    (hcd : (x == ("__classdict__" : Str)) = false := by decide) : XE X (.Name x pos) (e_v i) := ⟨_, pe_var hN hv hd hcd, em_v⟩
theorem x_tk (i : Nat) {x : Str} (hN : X.N[i]? = some x := by rfl) (hv : Vis X.env.scope x := by first | exact Or.inl rfl | exact Or.inr (Or.inl rfl) | exact Or.inr (Or.inr rfl)) (hd : (x == ("__debug__" : Str)) = false := by decide)
    (hcd : (x == ("__classdict__" : Str)) = false := by decide) : XE X (.Name x pos) (e_take i) := ⟨_, pe_var hN hv hd hcd, em_take⟩
theorem x_fz (i : Nat) {x : Str} (hN : X.N[i]? = some x := by rfl) (hv : Vis X.env.scope x := by first | exact Or.inl rfl | exact Or.inr (Or.inl rfl) | exact Or.inr (Or.inr rfl)) (hd : (x == ("__debug__" : Str)) = false := by decide)
    (hcd : (x == ("__classdict__" : Str)) = false := by decide) : XE X (.Name x pos) (e_fz i) := ⟨_, pe_var hN hv hd hcd, em_fz⟩
theorem x_op {op : Operator} {r : R2} {o : D → D → Option R} (h1 : OpR X (binaryOp op) r) (h2 : OpM X.K r o) (ha : XE X a f) (hb : XE X b g) : XE X (.BinOp a op b pos) (e2 o f g) :=
  let ⟨_, p, q⟩ := ha; let ⟨_, p', q'⟩ := hb; ⟨_, pe_op h1 p p', em_op h2 q q'⟩
/-- the left one owned -/
theorem x_opo {op : Operator} {r : R2} {o : D → D → Option R} (i : Nat) {x : Str} {pos' : Pos} (h1 : OpR X (binaryOp op) r) (h2 : OpM X.K r o) (hb : XE X b g)
    (hN : X.N[i]? = some x := by rfl) (hv : Vis X.env.scope x := by first | exact Or.inl rfl | exact Or.inr (Or.inl rfl) | exact Or.inr (Or.inr rfl)) (hd : (x == ("__debug__" : Str)) = false := by decide)
    (hcd : (x == ("__classdict__" : Str)) = false := by decide) : XE X (.BinOp (.Name x pos') op b pos) (e2o o i g) :=
  let ⟨_, p', q'⟩ := hb; ⟨_, pe_op h1 (pe_var hN hv hd hcd) p', em_2o h2 q'⟩
theorem x_opr {op : Operator} {r : R2} {o : D → D → Option R} (i : Nat) {x : Str} {pos' : Pos} (h1 : OpR X (binaryOp op) r) (h2 : OpM X.K r o) (ha : XE X a f)
    (hN : X.N[i]? = some x := by rfl) (hv : Vis X.env.scope x := by first | exact Or.inl rfl | exact Or.inr (Or.inl rfl) | exact Or.inr (Or.inr rfl)) (hd : (x == ("__debug__" : Str)) = false := by decide)
    (hcd : (x == ("__classdict__" : Str)) = false := by decide) : XE X (.BinOp a op (.Name x pos') pos) (e2r o f i) :=
  let ⟨_, p', q'⟩ := ha; ⟨_, pe_op h1 p' (pe_var hN hv hd hcd), em_2r h2 q'⟩
theorem x_add (ha : XE X a f) (hb : XE X b g) : XE X (.BinOp a .Add b pos) (e2 o_add f g) := x_op op_addX opm_add ha hb
theorem x_sub (ha : XE X a f) (hb : XE X b g) : XE X (.BinOp a .Sub b pos) (e2 o_sub f g) := x_op op_sub opm_sub ha hb
theorem x_fdiv (ha : XE X a f) (hb : XE X b g) : XE X (.BinOp a .FloorDiv b pos) (e2 o_fdiv f g) := x_op op_fdivX opm_II ha hb
theorem x_mod (ha : XE X a f) (hb : XE X b g) : XE X (.BinOp a .Mod b pos) (e2 o_mod f g) := x_op op_modN opm_II ha hb
theorem x_pow (ha : XE X a f) (hb : XE X b g) : XE X (.BinOp a .Pow b pos) (e2 o_pow f g) := x_op op_pow opm_II ha hb
theorem x_neg (ha : XE X a f) : XE X (.UnaryOp .USub a pos) (e1 o_neg f) := let ⟨_, p, q⟩ := ha; ⟨_, pe_un un_neg p, em_un un_neg' q⟩

/-! ### comparisons -/
theorem x_cmp {op : CmpOp} {r : R2} {o : D → D → Option R} (h1 : OpR X (compareOp op) r) (h2 : OpM X.K r o) (ha : XE X a f) (hb : XE X b g) (hm : behindInMarks op b = false := by first | exact nomark _ | rfl) : XE X (.Compare a [op] [b] pos) (e2 o f g) :=
  let ⟨_, p, q⟩ := ha; let ⟨_, p', q'⟩ := hb; ⟨_, pe_cmpR h1 p p' hm, em_op h2 q q'⟩
theorem x_cmpo {op : CmpOp} {r : R2} {o : D → D → Option R} (i : Nat) {x : Str} {pos' : Pos} (h1 : OpR X (compareOp op) r) (h2 : OpM X.K r o) (hb : XE X b g) (hm : behindInMarks op b = false := by first | exact nomark _ | rfl)
    (hN : X.N[i]? = some x := by rfl) (hv : Vis X.env.scope x := by first | exact Or.inl rfl | exact Or.inr (Or.inl rfl) | exact Or.inr (Or.inr rfl)) (hd : (x == ("__debug__" : Str)) = false := by decide)
    (hcd : (x == ("__classdict__" : Str)) = false := by decide) : XE X (.Compare (.Name x pos') [op] [b] pos) (e2o o i g) :=
  let ⟨_, p', q'⟩ := hb; ⟨_, pe_cmpR h1 (pe_var hN hv hd hcd) p' hm, em_2o h2 q'⟩
theorem x_cmpr {op : CmpOp} {r : R2} {o : D → D → Option R} (i : Nat) {x : Str} {pos' : Pos} (h1 : OpR X (compareOp op) r) (h2 : OpM X.K r o) (ha : XE X a f) (hm : behindInMarks op (.Name x pos') = false := by first | exact nomark _ | rfl)
    (hN : X.N[i]? = some x := by rfl) (hv : Vis X.env.scope x := by first | exact Or.inl rfl | exact Or.inr (Or.inl rfl) | exact Or.inr (Or.inr rfl)) (hd : (x == ("__debug__" : Str)) = false := by decide)
    (hcd : (x == ("__classdict__" : Str)) = false := by decide) : XE X (.Compare a [op] [.Name x pos'] pos) (e2r o f i) :=
  let ⟨_, p', q'⟩ := ha; ⟨_, pe_cmpR h1 p' (pe_var hN hv hd hcd) hm, em_2r h2 q'⟩
theorem x_chain {op op' : CmpOp} {r r' : R2} {o o' : D → D → Option R} (h1 : OpR X (compareOp op) r) (h1' : OpR X (compareOp op') r') (h2 : OpM X.K r o) (h2' : OpM X.K r' o') (ha : XE X a f) (hb : XE X b g) (hc : XE X c h)
    (hm : lastMarks [op, op'] [b, c] = false := by with_unfolding_all rfl) : XE X (.Compare a [op, op'] [b, c] pos) (e_chain o o' f g h) :=
  let ⟨_, p, q⟩ := ha; let ⟨_, p', q'⟩ := hb; let ⟨_, p2, q2⟩ := hc; ⟨_, pe_chain h1 h1' p p' p2 hm, em_chain h2 h2' q q' q2⟩

/-! ### tests -/
theorem xt_cmp {op : CmpOp} {r : R2} {o : D → D → Option R} (h1 : OpR X (compareOp op) r) (h2 : OpM X.K r o) (ha : XE X a f) (hb : XE X b g) (hm : behindInMarks op b = false := by first | exact nomark _ | rfl) : XT X (.Compare a [op] [b] pos) (bf (e2 o f g)) :=
  let ⟨_, p, q⟩ := ha; let ⟨_, p', q'⟩ := hb; ⟨_, pt_cmpR h1 p p' hm, tm_test (em_op h2 q q')⟩
theorem xt_cmpo {op : CmpOp} {r : R2} {o : D → D → Option R} (i : Nat) {x : Str} {pos' : Pos} (h1 : OpR X (compareOp op) r) (h2 : OpM X.K r o) (hb : XE X b g) (hm : behindInMarks op b = false := by first | exact nomark _ | rfl)
    (hN : X.N[i]? = some x := by rfl) (hv : Vis X.env.scope x := by first | exact Or.inl rfl | exact Or.inr (Or.inl rfl) | exact Or.inr (Or.inr rfl)) (hd : (x == ("__debug__" : Str)) = false := by decide)
    (hcd : (x == ("__classdict__" : Str)) = false := by decide) : XT X (.Compare (.Name x pos') [op] [b] pos) (bf (e2o o i g)) :=
  let ⟨_, p', q'⟩ := hb; ⟨_, pt_cmpR h1 (pe_var hN hv hd hcd) p' hm, tm_test (em_2o h2 q')⟩
theorem xt_cmpr {op : CmpOp} {r : R2} {o : D → D → Option R} (i : Nat) {x : Str} {pos' : Pos} (h1 : OpR X (compareOp op) r) (h2 : OpM X.K r o) (ha : XE X a f) (hm : behindInMarks op (.Name x pos') = false := by first | exact nomark _ | rfl)
    (hN : X.N[i]? = some x := by rfl) (hv : Vis X.env.scope x := by first | exact Or.inl rfl | exact Or.inr (Or.inl rfl) | exact Or.inr (Or.inr rfl)) (hd : (x == ("__debug__" : Str)) = false := by decide)
    (hcd : (x == ("__classdict__" : Str)) = false := by decide) : XT X (.Compare a [op] [.Name x pos'] pos) (bf (e2r o f i)) :=
  let ⟨_, p', q'⟩ := ha; ⟨_, pt_cmpR h1 p' (pe_var hN hv hd hcd) hm, tm_test (em_2r h2 q')⟩
theorem xt_chain {op op' : CmpOp} {r r' : R2} {o o' : D → D → Option R} (h1 : OpR X (compareOp op) r) (h1' : OpR X (compareOp op') r') (h2 : OpM X.K r o) (h2' : OpM X.K r' o') (ha : XE X a f) (hb : XE X b g) (hc : XE X c h)
    (hm : lastMarks [op, op'] [b, c] = false := by with_unfolding_all rfl) : XT X (.Compare a [op, op'] [b, c] pos) (bf (e_chain o o' f g h)) :=
  let ⟨_, p, q⟩ := ha; let ⟨_, p', q'⟩ := hb; let ⟨_, p2, q2⟩ := hc; ⟨_, pt_chain h1 h1' p p' p2 hm, tm_test (em_chain h2 h2' q q' q2)⟩
theorem xt_tru (ha : XE X a f) (he : ∀ whole, isTrue a X.env whole = (do let v ← whole; standAt a.pos; holding [v] (truthy v)) := by intro _; rfl) : XT X a (t_tru f) := let ⟨_, p, q⟩ := ha; ⟨_, pt_truth p he, tm_tru q⟩
theorem xt_not {t : Et} (ha : XT X a t) : XT X (.UnaryOp .Not a pos) (t_not t) := let ⟨_, p, q⟩ := ha; ⟨_, pt_not p, tm_not q⟩
theorem xw_and1 {t : Et} (ha : XT X a t) : XW X (.BoolOp .And [a] pos) t := let ⟨_, p, q⟩ := ha; ⟨_, pw_and1 p, q⟩
theorem xw_or1 {t : Et} (ha : XT X a t) : XW X (.BoolOp .Or [a] pos) t := let ⟨_, p, q⟩ := ha; ⟨_, pw_or1 p, q⟩
theorem xw_and {t u : Et} (ha : XT X a t) (hb : XW X (.BoolOp .And (b :: es) pos) u) : XW X (.BoolOp .And (a :: b :: es) pos) (t_and t u) := let ⟨_, p, q⟩ := ha; let ⟨_, p', q'⟩ := hb; ⟨_, pw_and p p', tm_and q q'⟩
theorem xw_or {t u : Et} (ha : XT X a t) (hb : XW X (.BoolOp .Or (b :: es) pos) u) : XW X (.BoolOp .Or (a :: b :: es) pos) (t_or t u) := let ⟨_, p, q⟩ := ha; let ⟨_, p', q'⟩ := hb; ⟨_, pw_or p p', tm_or q q'⟩
theorem xt_w {t : Et} (h : XW X a t) : XT X a t := let ⟨_, p, q⟩ := h; ⟨_, p.pt, q⟩
/-- .. as values -/
theorem x_one {op} (h : XE X a f) : XE X (.BoolOp op [a] pos) f := let ⟨_, p, q⟩ := h; ⟨_, pe_one p, q⟩
theorem x_and (ha : XE X a f) (hb : XE X (.BoolOp .And (b :: es) pos) g) : XE X (.BoolOp .And (a :: b :: es) pos) (tv (t_and (bf f) (bf g))) := let ⟨_, p, q⟩ := ha; let ⟨_, p', q'⟩ := hb; ⟨_, pe_and p p', em_andV q q'⟩
theorem x_or (ha : XE X a f) (hb : XE X (.BoolOp .Or (b :: es) pos) g) : XE X (.BoolOp .Or (a :: b :: es) pos) (tv (t_or (bf f) (bf g))) := let ⟨_, p, q⟩ := ha; let ⟨_, p', q'⟩ := hb; ⟨_, pe_or p p', em_orV q q'⟩
theorem x_not (ha : XE X a f) : XE X (.UnaryOp .Not a pos) (tv (t_not (bf f))) := let ⟨_, p, q⟩ := ha; ⟨_, pe_not p, em_notV q⟩
theorem x_if {t : Et} (hc : XT X c t) (ha : XE X a f) (hb : XE X b g) : XE X (.IfExp c a b pos) (e_if t f g) := let ⟨_, p, q⟩ := hc; let ⟨_, p', q'⟩ := ha; let ⟨_, p2, q2⟩ := hb; ⟨_, pe_ifExp p p' p2, em_if q q' q2⟩

/-! ### lists, tuples, items -/
theorem xa_nil : XA X [] a_nil := ⟨_, pa_nil, am_nil⟩
theorem xa_cons {l : Ea} (ha : XE X e f) (hr : XA X es l) (hs : starEach (e :: es) X.env = (false, eval e X.env) :: starEach es X.env := by rfl) : XA X (e :: es) (a_cons f l) := let ⟨_, p, q⟩ := ha; let ⟨_, p', q'⟩ := hr; ⟨_, pa_cons p p' hs, am_cons q q'⟩
theorem x_tup {x1} {l : Ea} (h : XA X es l) : XE X (.Tuple es x1 pos) (eB o_tup l) := let ⟨_, p, q⟩ := h; ⟨_, pe_tup p, em_tup q⟩
theorem x_lst {l : Ea} (h : XA X es l) : XE X (.List es pos) (eB o_lst l) := let ⟨_, p, q⟩ := h; ⟨_, pe_lst p, em_lst q⟩
theorem x_ix (ha : XE X a f) (hb : XE X b g) (hs : PlainIx b := by exact fun _ _ => rfl) : XE X (.Subscript a b pos) (e2 o_ix f g) := let ⟨_, p, q⟩ := ha; let ⟨_, p', q'⟩ := hb; ⟨_, pe_ix ix_seq p p' hs, em_op opm_ix q q'⟩
theorem x_ixo (i : Nat) {x : Str} {pos' : Pos} (hb : XE X b g) (hs : PlainIx b := by exact fun _ _ => rfl)
    (hN : X.N[i]? = some x := by rfl) (hv : Vis X.env.scope x := by first | exact Or.inl rfl | exact Or.inr (Or.inl rfl) | exact Or.inr (Or.inr rfl)) (hd : (x == ("__debug__" : Str)) = false := by decide)
    (hcd : (x == ("__classdict__" : Str)) = false := by decide) : XE X (.Subscript (.Name x pos') b pos) (e2o o_ix i g) := let ⟨_, p', q'⟩ := hb; ⟨_, pe_ix ix_seq (pe_var hN hv hd hcd) p' hs, em_2o opm_ix q'⟩
theorem xo_no : XO X none p_no := ⟨_, po_none, om_no⟩
theorem xo_at (ha : XE X a f) : XO X (some a) (p_at f) := let ⟨_, p, q⟩ := ha; ⟨_, po_some p, om_at q⟩
theorem x_sl {lo hi : Option Expr} {p2 : Pos} {l u : Eo} (ha : XE X a f) (hl : XO X lo l) (hu : XO X hi u) : XE X (.Subscript a (.Slice lo hi none p2) pos) (e_sl f l u) :=
  let ⟨_, p, q⟩ := ha; let ⟨_, p', q'⟩ := hl; let ⟨_, p3, q3⟩ := hu; ⟨_, pe_slice sl_X p p' p3, em_sl q q' q3⟩
theorem x_slo (i : Nat) {x : Str} {pos' : Pos} {lo hi : Option Expr} {p2 : Pos} {l u : Eo} (hl : XO X lo l) (hu : XO X hi u)
    (hN : X.N[i]? = some x := by rfl) (hv : Vis X.env.scope x := by first | exact Or.inl rfl | exact Or.inr (Or.inl rfl) | exact Or.inr (Or.inr rfl)) (hd : (x == ("__debug__" : Str)) = false := by decide)
    (hcd : (x == ("__classdict__" : Str)) = false := by decide) : XE X (.Subscript (.Name x pos') (.Slice lo hi none p2) pos) (e_slo i l u) :=
  let ⟨_, p', q'⟩ := hl; let ⟨_, p3, q3⟩ := hu; ⟨_, pe_slice sl_X (pe_var hN hv hd hcd) p' p3, em_slo q' q3⟩

/-! ### built-in functions -/
variable {x : Str} {p : Pos} {id T : String} {l : Ea}
theorem x_B {r : List V → Hp → VK → Prop} {o : List D → Option R} (hc : CallR X (.builtin id) r) (h2 : ClM X.K r o) (hg : Gl X x) (hm : X.mg x = none) (hv : bootBuiltins x = some (.builtin id)) (ha : XA X (e :: es) l) (hn : x ≠ "__name__" := by decide) (hdb : (x == ("__debug__" : Str)) = false := by decide)
    (he : starEach (e :: es) X.env = (false, eval e X.env) :: starEach es X.env := by rfl) (hpl : (backTo pos (starEach es X.env)).any (·.1) = false := by rfl) : XE X (.Call (.Name x p) (e :: es) [] pos) (eB o l) :=
  let ⟨_, p', q'⟩ := ha; ⟨_, pe_callB hc hg hm hv p' hn hdb he hpl, em_B h2 q'⟩
theorem x_Ty {r : List V → Hp → VK → Prop} {o : List D → Option R} (hc : CallR X (.type T) r) (h2 : ClM X.K r o) (hg : Gl X x) (hm : X.mg x = none) (hv : bootBuiltins x = some (.type T)) (ha : XA X (e :: es) l) (hn : x ≠ "__name__" := by decide) (hdb : (x == ("__debug__" : Str)) = false := by decide)
    (he : starEach (e :: es) X.env = (false, eval e X.env) :: starEach es X.env := by rfl) (hpl : (backTo pos (starEach es X.env)).any (·.1) = false := by rfl) : XE X (.Call (.Name x p) (e :: es) [] pos) (eB o l) :=
  let ⟨_, p', q'⟩ := ha; ⟨_, pe_callTy hc hg hm hv p' hn hdb he hpl, em_B h2 q'⟩
/-- of an owned one -/
theorem x_Bo (i : Nat) {y : Str} {pos' : Pos} {r : List V → Hp → VK → Prop} {o : List D → Option R} (hc : CallR X (.builtin id) r) (h2 : ClM X.K r o) (hg : Gl X x) (hm : X.mg x = none) (hv : bootBuiltins x = some (.builtin id)) (hn : x ≠ "__name__" := by decide) (hdb : (x == ("__debug__" : Str)) = false := by decide)
    (he : starEach (.Name y pos' :: []) X.env = (false, eval (.Name y pos') X.env) :: starEach [] X.env := by rfl) (hpl : (backTo pos (starEach [] X.env)).any (·.1) = false := by rfl)
    (hN : X.N[i]? = some y := by rfl) (hvi : Vis X.env.scope y := by first | exact Or.inl rfl | exact Or.inr (Or.inl rfl) | exact Or.inr (Or.inr rfl)) (hd : (y == ("__debug__" : Str)) = false := by decide)
    (hcd : (y == ("__classdict__" : Str)) = false := by decide) : XE X (.Call (.Name x p) [.Name y pos'] [] pos) (eBo o i) :=
  ⟨_, pe_callB hc hg hm hv (pa_cons (pe_var hN hvi hd hcd) pa_nil he) hn hdb he hpl, em_Bo h2⟩
theorem x_Tyo (i : Nat) {y : Str} {pos' : Pos} {r : List V → Hp → VK → Prop} {o : List D → Option R} (hc : CallR X (.type T) r) (h2 : ClM X.K r o) (hg : Gl X x) (hm : X.mg x = none) (hv : bootBuiltins x = some (.type T)) (hn : x ≠ "__name__" := by decide) (hdb : (x == ("__debug__" : Str)) = false := by decide)
    (he : starEach (.Name y pos' :: []) X.env = (false, eval (.Name y pos') X.env) :: starEach [] X.env := by rfl) (hpl : (backTo pos (starEach [] X.env)).any (·.1) = false := by rfl)
    (hN : X.N[i]? = some y := by rfl) (hvi : Vis X.env.scope y := by first | exact Or.inl rfl | exact Or.inr (Or.inl rfl) | exact Or.inr (Or.inr rfl)) (hd : (y == ("__debug__" : Str)) = false := by decide)
    (hcd : (y == ("__classdict__" : Str)) = false := by decide) : XE X (.Call (.Name x p) [.Name y pos'] [] pos) (eBo o i) :=
  ⟨_, pe_callTy hc hg hm hv (pa_cons (pe_var hN hvi hd hcd) pa_nil he) hn hdb he hpl, em_Bo h2⟩
theorem x_abs (hm : X.mg "abs" = none) (ha : XA X (e :: es) l) (hg : Gl X "abs" := by rfl) (he : starEach (e :: es) X.env = (false, eval e X.env) :: starEach es X.env := by rfl) (hpl : (backTo pos (starEach es X.env)).any (·.1) = false := by rfl) :
    XE X (.Call (.Name "abs" p) (e :: es) [] pos) (eB (f1 o_abs) l) := x_B call_abs cl_abs hg hm (by decide +kernel) ha (by decide) (by decide) he hpl
theorem x_len (hm : X.mg "len" = none) (ha : XA X (e :: es) l) (hg : Gl X "len" := by rfl) (he : starEach (e :: es) X.env = (false, eval e X.env) :: starEach es X.env := by rfl) (hpl : (backTo pos (starEach es X.env)).any (·.1) = false := by rfl) :
    XE X (.Call (.Name "len" p) (e :: es) [] pos) (eB (f1 o_len) l) := x_B call_len cl_len hg hm PySem.boot_len ha (by decide) (by decide) he hpl
theorem x_leno (i : Nat) {y : Str} {pos' : Pos} (hm : X.mg "len" = none) (hg : Gl X "len" := by rfl)
    (he : starEach (.Name y pos' :: []) X.env = (false, eval (.Name y pos') X.env) :: starEach [] X.env := by rfl) (hpl : (backTo pos (starEach [] X.env)).any (·.1) = false := by rfl)
    (hN : X.N[i]? = some y := by rfl) (hvi : Vis X.env.scope y := by first | exact Or.inl rfl | exact Or.inr (Or.inl rfl) | exact Or.inr (Or.inr rfl)) (hd : (y == ("__debug__" : Str)) = false := by decide)
    (hcd : (y == ("__classdict__" : Str)) = false := by decide) : XE X (.Call (.Name "len" p) [.Name y pos'] [] pos) (eBo (f1 o_len) i) :=
  x_Bo i call_len cl_len hg hm PySem.boot_len (by decide) (by decide) he hpl hN hvi hd hcd
theorem x_max2 {e2 : Expr} (hc : X.calm = true) (hm : X.mg "max" = none) (ha : XA X [e, e2] l) (hg : Gl X "max" := by rfl) (he : starEach [e, e2] X.env = (false, eval e X.env) :: starEach [e2] X.env := by rfl) (hpl : (backTo pos (starEach [e2] X.env)).any (·.1) = false := by rfl) :
    XE X (.Call (.Name "max" p) [e, e2] [] pos) (eB (f2 o_max2) l) := x_B (call_max2 hc) cl_max2 hg hm (by decide +kernel) ha (by decide) (by decide) he hpl
theorem x_min2 {e2 : Expr} (hc : X.calm = true) (hm : X.mg "min" = none) (ha : XA X [e, e2] l) (hg : Gl X "min" := by rfl) (he : starEach [e, e2] X.env = (false, eval e X.env) :: starEach [e2] X.env := by rfl) (hpl : (backTo pos (starEach [e2] X.env)).any (·.1) = false := by rfl) :
    XE X (.Call (.Name "min" p) [e, e2] [] pos) (eB (f2 o_min2) l) := x_B (call_min2 hc) cl_min2 hg hm (by decide +kernel) ha (by decide) (by decide) he hpl
theorem x_any (hc : X.calm = true) (hm : X.mg "any" = none) (ha : XA X (e :: es) l) (hg : Gl X "any" := by rfl) (he : starEach (e :: es) X.env = (false, eval e X.env) :: starEach es X.env := by rfl) (hpl : (backTo pos (starEach es X.env)).any (·.1) = false := by rfl) :
    XE X (.Call (.Name "any" p) (e :: es) [] pos) (eB (f1 o_any) l) := x_B (cr_any hc) cl_any hg hm (by decide +kernel) ha (by decide) (by decide) he hpl
theorem x_all (hc : X.calm = true) (hm : X.mg "all" = none) (ha : XA X (e :: es) l) (hg : Gl X "all" := by rfl) (he : starEach (e :: es) X.env = (false, eval e X.env) :: starEach es X.env := by rfl) (hpl : (backTo pos (starEach es X.env)).any (·.1) = false := by rfl) :
    XE X (.Call (.Name "all" p) (e :: es) [] pos) (eB (f1 o_all) l) := x_B (cr_all hc) cl_all hg hm (by decide +kernel) ha (by decide) (by decide) he hpl
theorem x_intc (hm : X.mg "int" = none) (ha : XA X (e :: es) l) (hg : Gl X "int" := by rfl) (he : starEach (e :: es) X.env = (false, eval e X.env) :: starEach es X.env := by rfl) (hpl : (backTo pos (starEach es X.env)).any (·.1) = false := by rfl) :
    XE X (.Call (.Name "int" p) (e :: es) [] pos) (eB (f1 o_int) l) := x_Ty call_int1 cl_int hg hm (by decide +kernel) ha (by decide) (by decide) he hpl
theorem x_strc (hm : X.mg "str" = none) (ha : XA X (e :: es) l) (hg : Gl X "str" := by rfl) (he : starEach (e :: es) X.env = (false, eval e X.env) :: starEach es X.env := by rfl) (hpl : (backTo pos (starEach es X.env)).any (·.1) = false := by rfl) :
    XE X (.Call (.Name "str" p) (e :: es) [] pos) (eB (f1 o_str) l) := x_Ty call_str_int cl_str hg hm (by decide +kernel) ha (by decide) (by decide) he hpl
theorem x_listc (hm : X.mg "list" = none) (ha : XA X (e :: es) l) (hg : Gl X "list" := by rfl) (he : starEach (e :: es) X.env = (false, eval e X.env) :: starEach es X.env := by rfl) (hpl : (backTo pos (starEach es X.env)).any (·.1) = false := by rfl) :
    XE X (.Call (.Name "list" p) (e :: es) [] pos) (eB (f1 o_list) l) := x_Ty call_list_of cl_list hg hm (by decide +kernel) ha (by decide) (by decide) he hpl
theorem x_tupc (hm : X.mg "tuple" = none) (ha : XA X (e :: es) l) (hg : Gl X "tuple" := by rfl) (he : starEach (e :: es) X.env = (false, eval e X.env) :: starEach es X.env := by rfl) (hpl : (backTo pos (starEach es X.env)).any (·.1) = false := by rfl) :
    XE X (.Call (.Name "tuple" p) (e :: es) [] pos) (eB (f1 o_tuple) l) := x_Ty call_tuple_of cl_tuple hg hm (by decide +kernel) ha (by decide) (by decide) he hpl
/-- isinstance(x, T), T built in -/
theorem x_isi {n : Str} {p' : Pos} (T : String) (hm : X.mg "isinstance" = none) (hmt : X.mg n = none) (hvt : bootBuiltins n = some (.type T)) (ha : XE X e f) (hg : Gl X "isinstance" := by rfl) (hgt : Gl X n := by rfl) (hn : n ≠ "__name__" := by decide) (hdb : (n == ("__debug__" : Str)) = false := by decide)
    (he : starEach [e, .Name n p'] X.env = (false, eval e X.env) :: starEach [.Name n p'] X.env := by rfl) (he2 : starEach [.Name n p'] X.env = (false, eval (.Name n p') X.env) :: starEach [] X.env := by rfl) (hpl : (backTo pos (starEach [.Name n p'] X.env)).any (·.1) = false := by rfl) :
    XE X (.Call (.Name "isinstance" p) [e, .Name n p'] [] pos) (e1 (o_isi T) f) :=
  let ⟨_, q1, q2⟩ := ha; ⟨_, pe_callB call_isi hg hm (by decide +kernel) (pa_cons q1 (pa_cons (pe_bltn (v := .ty T) hgt hmt hvt rfl hn hdb) pa_nil he2) he) (by decide) (by decide) he hpl, em_isi q2⟩

/-! ### defs -/
/-- a def of the program by its name: what it reckons, its defaults -/
def FnU (P : Program) (w : World) (K : PySem.W.Frag) (mg : Str → Option Value) (base : Heap) (k : Nat) (x : Str) (m : FM) (dd : List D) : Prop :=
  ∃ (f : Addr) (fd : FuncData) (ps : List Str) (dvs : List V) (ds : List Value), FnOk P w K mg base CX0 k f fd ps (spM K m) ∧ mg x = some (.ref f) ∧ PySem.W.keepIn K (.ref f) = true ∧ Binds K fd ps ds ∧ Vals dvs ds ∧ ∀ w : Wd, Reps K w dvs dd
theorem FnU.mk0 {P : Program} {w : World} {K : PySem.W.Frag} {mg : Str → Option Value} {base : Heap} {k : Nat} {x : Str} {m : FM} {f : Addr} {fd : FuncData} {ps : List Str} (F : FnOk P w K mg base CX0 k f fd ps (spM K m)) (hm : mg x = some (.ref f)) (hk : PySem.W.keepIn K (.ref f) = true) (hb : Binds K fd ps []) :
    FnU P w K mg base k x m [] := ⟨f, fd, ps, [], [], F, hm, hk, hb, .nil, fun _ => .nil⟩
theorem FnU.mkD {P : Program} {w : World} {K : PySem.W.Frag} {mg : Str → Option Value} {base : Heap} {k : Nat} {x : Str} {m : FM} {f : Addr} {fd : FuncData} {ps : List Str} {dvs : List V} {dd : List D} (F : FnOk P w K mg base CX0 k f fd ps (spM K m)) (hm : mg x = some (.ref f)) (hk : PySem.W.keepIn K (.ref f) = true) (hb : ∃ ds, Vals dvs ds ∧ Binds K fd ps ds) (hr : ∀ w : Wd, Reps K w dvs dd) :
    FnU P w K mg base k x m dd := let ⟨ds, h1, h2⟩ := hb; ⟨f, fd, ps, dvs, ds, F, hm, hk, h2, h1, hr⟩
theorem xr_nil : XR X [] r_nil := ⟨_, pa_nil, arm_nil⟩
theorem xr_v {l : Er} (ha : XE X e f) (hr : XR X es l) (hs : starEach (e :: es) X.env = (false, eval e X.env) :: starEach es X.env := by rfl) : XR X (e :: es) (r_v f l) := let ⟨_, p, q⟩ := ha; let ⟨_, p', q'⟩ := hr; ⟨_, pa_cons p p' hs, arm_v q q'⟩
theorem xr_m (i : Nat) {y : Str} {pos' : Pos} {l : Er} (hr : XR X es l) (hs : starEach (.Name y pos' :: es) X.env = (false, eval (.Name y pos') X.env) :: starEach es X.env := by rfl)
    (hN : X.N[i]? = some y := by rfl) (hvi : Vis X.env.scope y := by first | exact Or.inl rfl | exact Or.inr (Or.inl rfl) | exact Or.inr (Or.inr rfl)) (hd : (y == ("__debug__" : Str)) = false := by decide)
    (hcd : (y == ("__classdict__" : Str)) = false := by decide) : XR X (.Name y pos' :: es) (r_m i l) := let ⟨_, p', q'⟩ := hr; ⟨_, pa_cons (pe_var hN hvi hd hcd) p' hs, arm_m q'⟩
theorem x_call {k j : Nat} {m : FM} {dd : List D} {r : Er} (U : FnU X.prog X.w X.K X.mg X.base k x m dd) (hr : Room j X.A) (hkj : k ≤ j) (ha : XR X (e :: es) r) (hg : Gl X x := by rfl) (hdb : (x == ("__debug__" : Str)) = false := by decide)
    (he : starEach (e :: es) X.env = (false, eval e X.env) :: starEach es X.env := by rfl) (hpl : (backTo pos (starEach es X.env)).any (·.1) = false := by rfl) : XE X (.Call (.Name x p) (e :: es) [] pos) (e_call m dd r) :=
  let ⟨_, _, _, _, _, F, hm, hk, hb, hd, hdd⟩ := U; let ⟨_, q1, q2⟩ := ha; ⟨_, pe_call F (hr.mono hkj) hg hm hk hb hd pass0 q1 hdb he hpl, em_call hdd q2⟩
theorem x_call0 {k j : Nat} {m : FM} {dd : List D} (U : FnU X.prog X.w X.K X.mg X.base k x m dd) (hr : Room j X.A) (hkj : k ≤ j) (hg : Gl X x := by rfl) (hdb : (x == ("__debug__" : Str)) = false := by decide) : XE X (.Call (.Name x p) [] [] pos) (e_call m dd r_nil) :=
  let ⟨_, _, _, _, _, F, hm, hk, hb, hd, hdd⟩ := U; ⟨_, pe_call0 F (hr.mono hkj) hg hm hk hb hd pass0 hdb, em_call hdd arm_nil⟩

/-! ### statements -/
variable {st : Stmt} {sts sts2 : List Stmt} {c1 c2 : Cm}
theorem xb_nil : XB X [] c_nx := ⟨_, pss_nil, sm_nx⟩
theorem xb_one (h : XS X st c1) : XB X [st] c1 := let ⟨_, p, q⟩ := h; ⟨_, pss_one p, q⟩
theorem xb_cons (h : XS X st c1) (hr : XB X sts c2) : XB X (st :: sts) (c_seq c1 c2) := let ⟨_, p, q⟩ := h; let ⟨_, p', q'⟩ := hr; ⟨_, pss_cons p p', sm_seq q q'⟩
theorem xs_pass : XS X (.Pass pos) c_nx := ⟨_, ps_pass, sm_nx⟩
theorem xs_brk : XS X (.Break pos) c_bk := ⟨_, ps_break, sm_bk⟩
theorem xs_ct : XS X (.Continue pos) c_ct := ⟨_, ps_continue, sm_ct⟩
theorem xs_doc {y j} {pos' : Pos} : XS X (.Expr (.Constant (.str y) j pos) pos') c_nx := ⟨_, ps_doc, sm_nx⟩
theorem xs_ex (h : XE X e f) (hs : swapsWith e none pos.line X.env = pure false := by rfl) : XS X (.Expr e pos) (c_ex f) := let ⟨_, p, q⟩ := h; ⟨_, ps_expr p hs, sm_ex q⟩
theorem xs_ret (h : XE X e f) : XS X (.Return (some e) pos) (c_ret f) := let ⟨_, p, q⟩ := h; ⟨_, ps_ret p, sm_ret q⟩
theorem xs_retN : XS X (.Return none pos) c_retN := ⟨_, ps_retN, sm_retN⟩
theorem xs_if {t : Et} (hc : XT X a t) (h1 : XB X sts c1) (h2 : XB X sts2 c2) : XS X (.If a sts sts2 pos) (c_if t c1 c2) := let ⟨_, p, q⟩ := hc; let ⟨_, p', q'⟩ := h1; let ⟨_, p2, q2⟩ := h2; ⟨_, ps_if p p' p2, sm_if q q' q2⟩
theorem xs_wh {t : Et} (fu : List Sl → Nat) (hp : PassesOwn (model X.prog X.w) X.A X.env X.xe) (hc : XT X a t) (h1 : XB X sts c1) : XS X (.While a sts [] pos) (c_wh fu t c1) := let ⟨_, p, q⟩ := hc; let ⟨_, p', q'⟩ := h1; ⟨_, ps_while hp p p', sm_wh q q'⟩
theorem xs_set (i : Nat) {pos' : Pos} (hN : X.N.Nodup) (he : XE X e f) (hi : X.N[i]? = some x := by rfl) (hx : Loc X.env.scope x := by first | exact Or.inl rfl | exact Or.inr rfl) (hs : swapsWith e (some (.Name x pos')) pos.line X.env = pure false := by rfl) (hf : X.fn x = true ∨ X.env.scope.names.lookup x = some .local := by first | exact .inl rfl | exact .inr rfl | assumption) :
    XS X (.Assign [.Name x pos'] e pos) (c_asg (g_n i) f) := let ⟨_, p, q⟩ := he; ⟨_, ps_set hN hi hx p hs hf, sm_asg q gm_n⟩
/-- .. stored as data -/
theorem xs_setv (i : Nat) {pos' : Pos} (hN : X.N.Nodup) (he : XE X e f) (hi : X.N[i]? = some x := by rfl) (hx : Loc X.env.scope x := by first | exact Or.inl rfl | exact Or.inr rfl) (hs : swapsWith e (some (.Name x pos')) pos.line X.env = pure false := by rfl) (hf : X.fn x = true ∨ X.env.scope.names.lookup x = some .local := by first | exact .inl rfl | exact .inr rfl | assumption) :
    XS X (.Assign [.Name x pos'] e pos) (c_asg (gv (g_n i)) f) := let ⟨_, p, q⟩ := he; ⟨_, ps_set hN hi hx p hs hf, sm_asg q (gm_v gm_n)⟩
theorem xs_asg {tg : Expr} {t : Tg} (he : XE X e f) (hg : XG X tg t) (hs : swapsWithSole [tg] e pos.line X.env = pure false := by rfl) (hw : swappedStores [tg] e X.env = pure none := by rfl)
    (h1 : (assignEach [tg] X.env).map (·.2) = [assign tg X.env] := by rfl) : XS X (.Assign [tg] e pos) (c_asg t f) := let ⟨_, p, q⟩ := he; let ⟨_, p', q'⟩ := hg; ⟨_, ps_asg p p' hs hw h1, sm_asg q q'⟩
theorem xg_n (i : Nat) {p : Pos} (hN : X.N.Nodup) (hi : X.N[i]? = some x := by rfl) (hx : Loc X.env.scope x := by first | exact Or.inl rfl | exact Or.inr rfl) (hf : X.fn x = true ∨ X.env.scope.names.lookup x = some .local := by first | exact .inl rfl | exact .inr rfl | assumption) : XG X (.Name x p) (g_n i) := ⟨_, pg_name hN hi hx hf, gm_n⟩
theorem xgs_nil : XGs X [] gs_nil := ⟨_, pgs_nil, gsm_nil⟩
theorem xgs_cons {t : Tg} {u : Tgs} (h1 : XG X e t) (h2 : XGs X es u) (hs : (assignEach (e :: es) X.env).map (·.2) = assign e X.env :: (assignEach es X.env).map (·.2) := by rfl) : XGs X (e :: es) (gs_cons t u) := let ⟨_, p, q⟩ := h1; let ⟨_, p', q'⟩ := h2; ⟨_, pgs_cons p p' hs, gsm_cons q q'⟩
theorem xg_tup {k n : Nat} {u : Tgs} (hc : X.calm = true) (h : XGs X es u) (hn : (assignEach es X.env).length = n := by rfl) (hst : (assignEach es X.env).findIdx? (·.1) = none := by rfl) : XG X (.Tuple es k pos) (g_tup n u) := let ⟨_, p, q⟩ := h; ⟨_, pg_tup hc p hn hst, gm_tup q⟩
theorem xg_ix (i : Nat) {y : Str} {pos' : Pos} (hb : XE X b f) (hN : X.N[i]? = some y := by rfl) (hvi : Vis X.env.scope y := by first | exact Or.inl rfl | exact Or.inr (Or.inl rfl) | exact Or.inr (Or.inr rfl)) (hd : (y == ("__debug__" : Str)) = false := by decide)
    (hcd : (y == ("__classdict__" : Str)) = false := by decide) (ha : ∀ v, assign (.Subscript (.Name y pos') b pos) X.env v = (do
      let ov ← holding [v] (eval (.Name y pos') X.env)
      let iv ← holding [v, ov] (eval b X.env)
      standAt pos
      holding [v, ov, iv] (setItem ov iv v)
      release [v, ov, iv] []) := by intro _; rfl) : XG X (.Subscript (.Name y pos') b pos) (gv (g_ix i f)) := let ⟨_, p', q'⟩ := hb; ⟨_, pg_sub (pe_var hN hvi hd hcd) p' set_list ha, gm_v (gm_ix q')⟩
theorem xs_par (i j : Nat) {y : Str} {px py pt : Pos} {kt k2 pt2} (hc : X.calm = true) (hN : X.N.Nodup) (hij : i ≠ j) (ha : XA X [a, b] l) (hi : X.N[i]? = some x := by rfl) (hj : X.N[j]? = some y := by rfl)
    (hx : X.env.scope.names.lookup x = some .local := by rfl) (hy : X.env.scope.names.lookup y = some .local := by rfl)
    (hw : swappedStores [.Tuple [.Name x px, .Name y py] kt pt] (.Tuple [a, b] k2 pt2) X.env = pure (some [x, y]) := by rfl)
    (hs : swapsWithSole [.Tuple [.Name x px, .Name y py] kt pt] (.Tuple [a, b] k2 pt2) pos.line X.env = pure false := by rfl) :
    XS X (.Assign [.Tuple [.Name x px, .Name y py] kt pt] (.Tuple [a, b] k2 pt2) pos) (c_par i j l) := let ⟨_, p', q'⟩ := ha; ⟨_, ps_par hc hN hi hj hij hx hy p' hw hs, sm_par q'⟩
theorem xs_par3 (i j k : Nat) {y z : Str} {px py pz pt : Pos} {kt k2 pt2} (hc : X.calm = true) (hN : X.N.Nodup) (hij : i ≠ j) (hik : i ≠ k) (hjk : j ≠ k) (ha : XA X [a, b, c] l) (hi : X.N[i]? = some x := by rfl) (hj : X.N[j]? = some y := by rfl) (hk : X.N[k]? = some z := by rfl)
    (hx : X.env.scope.names.lookup x = some .local := by rfl) (hy : X.env.scope.names.lookup y = some .local := by rfl) (hz : X.env.scope.names.lookup z = some .local := by rfl)
    (hw : swappedStores [.Tuple [.Name x px, .Name y py, .Name z pz] kt pt] (.Tuple [a, b, c] k2 pt2) X.env = pure (some [x, y, z]) := by rfl)
    (hs : swapsWithSole [.Tuple [.Name x px, .Name y py, .Name z pz] kt pt] (.Tuple [a, b, c] k2 pt2) pos.line X.env = pure false := by rfl) :
    XS X (.Assign [.Tuple [.Name x px, .Name y py, .Name z pz] kt pt] (.Tuple [a, b, c] k2 pt2) pos) (c_par3 i j k l) := let ⟨_, p', q'⟩ := ha; ⟨_, ps_par3 hc hN hi hj hk hij hik hjk hx hy hz p' hw hs, sm_par3 q'⟩
theorem xs_for {tg it : Expr} {s : Src} {t : Tg} (hp : PassesOwn (model X.prog X.w) X.A X.env X.xe) (hc : X.calm = true) (hi : XI X tg it s) (hg : XG X tg t) (hb : XB X sts c1) (hs : ∀ x, foldedSetIterable it X.env x = pure x := by intro _; rfl) : XS X (.For tg it sts [] pos) (c_for t s c1) :=
  let ⟨_, p, q⟩ := hi; let ⟨_, p', q'⟩ := hg; let ⟨_, p2, q2⟩ := hb; ⟨_, ps_for hp hc p p' p2 hs, sm_for q q' q2⟩
theorem xi_seq {tg : Expr} (ha : XE X a f) : XI X tg a (s_seq f) := let ⟨_, p, q⟩ := ha; ⟨_, pi_seq p, im_seq q⟩
theorem xi_rng {tg : Expr} (hm : X.mg "range" = none) (ha : XA X [a] l) (hg : Gl X "range" := by rfl) (hs : starEach [a] X.env = [(false, eval a X.env)] := by rfl) : XI X tg (.Call (.Name "range" p) [a] [] pos) (s_rng l) := let ⟨_, p, q⟩ := ha; ⟨_, pi_range1 hg hm p hs, im_rng q⟩
theorem xi_rng2 {tg : Expr} (hm : X.mg "range" = none) (ha : XA X [a, b] l) (hg : Gl X "range" := by rfl) (hs : starEach [a, b] X.env = [(false, eval a X.env), (false, eval b X.env)] := by rfl) (hs2 : starEach [b] X.env = [(false, eval b X.env)] := by rfl) :
    XI X tg (.Call (.Name "range" p) [a, b] [] pos) (s_rng2 l) := let ⟨_, p, q⟩ := ha; ⟨_, pi_range2 hg hm p hs hs2, im_rng2 q⟩
theorem xi_enum {elts : List Expr} {kk : Nat} {tpos : Pos} (hm : X.mg "enumerate" = none) (ha : XA X [a] l) (hg : Gl X "enumerate" := by rfl) (hs : starEach [a] X.env = [(false, eval a X.env)] := by rfl) : XI X (.Tuple elts kk tpos) (.Call (.Name "enumerate" p) [a] [] pos) (s_enum l) := let ⟨_, p, q⟩ := ha; ⟨_, pi_enum hg hm p hs, im_enum q⟩
theorem xi_zip {elts : List Expr} {kk : Nat} {tpos : Pos} (hm : X.mg "zip" = none) (ha : XA X [a, b] l) (hg : Gl X "zip" := by rfl) (hs : starEach [a, b] X.env = (false, eval a X.env) :: starEach [b] X.env := by rfl) (hpl : (backTo pos (starEach [b] X.env)).any (·.1) = false := by rfl) :
    XI X (.Tuple elts kk tpos) (.Call (.Name "zip" p) [a, b] [] pos) (s_zip l) := let ⟨_, p, q⟩ := ha; ⟨_, RZ.pi_zipA hg hm p hs hpl, im_zip q⟩
/-- xs.append(e) as a statement's expression -/
theorem x_app (i : Nat) {y : Str} {pos' apos : Pos} (ha : XE X e f) (hN : X.N[i]? = some y := by rfl) (hvi : Vis X.env.scope y := by first | exact Or.inl rfl | exact Or.inr (Or.inl rfl) | exact Or.inr (Or.inr rfl)) (hd : (y == ("__debug__" : Str)) = false := by decide)
    (hcd : (y == ("__classdict__" : Str)) = false := by decide) (hbase : attributeBase (.Name y pos') "append" X.env (eval (.Name y pos') X.env) = eval (.Name y pos') X.env := by rfl)
    (hfew : ((backTo pos (starEach (e :: []) X.env)).all (fun x => !x.1) && (backToKw pos (keywordEach [] X.env)).all (fun x => x.1.isSome) && decide ((e :: ([] : List Expr)).length + ([] : List Keyword).length + (if ([] : List Keyword).isEmpty then 0 else 1) < 30)) = true := by rfl)
    (hline : (apos.endLine == pos.line) = true := by rfl) (hs : starEach (e :: []) X.env = (false, eval e X.env) :: starEach [] X.env := by rfl) (hplain : (backTo pos (starEach [] X.env)).any (·.1) = false := by rfl) :
    XE X (.Call (.Attribute (.Name y pos') "append" apos) [e] [] pos) (e_app i f) := let ⟨_, p, q⟩ := ha; ⟨_, pe_bm PySem.F.plainAttrs_list PySem.F.slot_list_append PySem.F.type_list_append mt_append (pe_var hN hvi hd hcd) (pa_cons p pa_nil hs) hbase hfew hline hs hplain, em_app q⟩
theorem x_clr (i : Nat) {y : Str} {pos' apos : Pos} (hN : X.N[i]? = some y := by rfl) (hvi : Vis X.env.scope y := by first | exact Or.inl rfl | exact Or.inr (Or.inl rfl) | exact Or.inr (Or.inr rfl)) (hd : (y == ("__debug__" : Str)) = false := by decide)
    (hcd : (y == ("__classdict__" : Str)) = false := by decide) (hbase : attributeBase (.Name y pos') "clear" X.env (eval (.Name y pos') X.env) = eval (.Name y pos') X.env := by rfl) (hline : (apos.endLine == pos.line) = true := by rfl) :
    XE X (.Call (.Attribute (.Name y pos') "clear" apos) [] [] pos) (e_clr i) := ⟨_, pe_bm0 PySem.F.plainAttrs_list PySem.F.slot_list_clear PySem.F.type_list_clear mt_clear (pe_var hN hvi hd hcd) hbase hline, em_clr⟩
theorem x_pop (i : Nat) {y : Str} {pos' apos : Pos} (hN : X.N[i]? = some y := by rfl) (hvi : Vis X.env.scope y := by first | exact Or.inl rfl | exact Or.inr (Or.inl rfl) | exact Or.inr (Or.inr rfl)) (hd : (y == ("__debug__" : Str)) = false := by decide)
    (hcd : (y == ("__classdict__" : Str)) = false := by decide) (hbase : attributeBase (.Name y pos') "pop" X.env (eval (.Name y pos') X.env) = eval (.Name y pos') X.env := by rfl) (hline : (apos.endLine == pos.line) = true := by rfl) :
    XE X (.Call (.Attribute (.Name y pos') "pop" apos) [] [] pos) (e_pop i) := ⟨_, pe_bm0 PySem.F.plainAttrs_list PySem.F.slot_list_pop PySem.F.type_list_pop mt_pop (pe_var hN hvi hd hcd) hbase hline, em_pop⟩

/-! ### comprehensions -/
def XTs (X : Cx) (ifs : List Expr) (f : Et) : Prop := ∃ t, PTs X ifs t ∧ TM X.K t f
theorem xts_nil : XTs X [] t_yes := ⟨_, pts_nil, tm_yes⟩
theorem xts_one {t : Et} (h : XT X c t) : XTs X [c] t := let ⟨_, p, q⟩ := h; ⟨_, pts_one p, q⟩
end
end Vz
set_option maxRecDepth 100000
set_option maxHeartbeats 1000000
namespace Vz
open PySem PySem.Spec PyProof.Rows L2
variable [FnTab]
/-! ### one reading for each function -/
def canE (K : PySem.W.Frag) (f : Ex) : TE := fun σ H Q => ∃ (w0 : W0) (w : Wd) (env : List Sl) (r : R) (env' : List Sl), w.H = H ∧ EnvOk K w0 w σ env ∧ f env = some (r, env') ∧ ∀ v w', EnvOk K w0 w' σ env' → Step w w' → RepR K w0 w' σ env' v r → Q v w'.H
def canT (K : PySem.W.Frag) (f : Et) : TT := fun σ H Q => ∃ (w0 : W0) (w : Wd) (env : List Sl) (b : Bool) (env' : List Sl), w.H = H ∧ EnvOk K w0 w σ env ∧ f env = some (b, env') ∧ ∀ w', EnvOk K w0 w' σ env' → Step w w' → Q b w'.H
theorem em_can {K : PySem.W.Frag} {f : Ex} : EM K (canE K f) f := fun w0 w σ env e r env' h Q q => ⟨w0, w, env, r, env', rfl, e, h, q⟩
theorem tm_can {K : PySem.W.Frag} {f : Et} : TM K (canT K f) f := fun w0 w σ env e b env' h Q q => ⟨w0, w, env, b, env', rfl, e, h, q⟩
theorem XE.can {X : Cx} {e : Expr} {f : Ex} (h : XE X e f) : PE X e (canE X.K f) := by
  obtain ⟨te, p, q⟩ := h
  refine ⟨fun pins s σ H Q I hh => p.run pins s σ H Q I ?_⟩
  obtain ⟨w0, w, env, r, env', rfl, e, hf, k⟩ := hh
  exact q w0 w σ env e r env' hf Q k
theorem XTs.can {X : Cx} {es : List Expr} {f : Et} (h : XTs X es f) : PTs X es (canT X.K f) := by
  obtain ⟨te, p, q⟩ := h
  refine ⟨fun pins s σ H Q I hh => p.run pins s σ H Q I ?_⟩
  obtain ⟨w0, w, env, r, env', rfl, e, hf, k⟩ := hh
  exact q w0 w σ env e r env' hf Q k
section
variable {X : Cx} {pos : Pos}
theorem x_lc {elt tg iter : Expr} {ifs : List Expr} {scope : Scope} (own : List (Str × Nat)) {g : TG} {t : Tg} {s : Src} {c : Et} {f : Ex} (hc : X.calm = true) (hN : X.N.Nodup) (hi : XI X tg iter s) (ok : BlkOk X.N X.env.scope scope own)
    (hg : ∀ (s : Shared) (H : Hp) (C : Addr) (cl : List (Str × Addr)) (fp : List Addr), PG (X.blk s H scope (compEnvC scope cl C X.env) fp) tg g) (gm : GM X.K g t) (og : OnlyG (own.map (·.2)) g)
    (ht : ∀ (s : Shared) (H : Hp) (C : Addr) (cl : List (Str × Addr)) (fp : List Addr), XTs (X.blk s H scope (compEnvC scope cl C X.env) fp) ifs c)
    (he : ∀ (s : Shared) (H : Hp) (C : Addr) (cl : List (Str × Addr)) (fp : List Addr), XE (X.blk s H scope (compEnvC scope cl C X.env) fp) elt f) (hs : ∀ x, foldedSetIterable iter X.env x = pure x := by intro _; rfl) :
    XE X (.ListComp elt [⟨tg, iter, ifs, 0⟩] scope pos) (e_lc (own.map (·.2)) t s c f) :=
  let ⟨_, p, q⟩ := hi; ⟨_, pe_lc (own := own) (g := g) (tt := canT X.K c) (te := canE X.K f) hc hN p ok hg (fun s H C cl fp => (ht s H C cl fp).can) (fun s H C cl fp => (he s H C cl fp).can) hs, em_lc q gm og tm_can em_can⟩
/-- y = [..] -/
theorem xs_lc (i : Nat) {y : Str} {py spos : Pos} {elt tg iter : Expr} {ifs : List Expr} {scope : Scope} (own : List (Str × Nat)) {g : TG} {t : Tg} {s : Src} {c : Et} {f : Ex} (hc : X.calm = true) (hN : X.N.Nodup) (hi : XI X tg iter s) (ok : BlkOk X.N X.env.scope scope own)
    (hg : ∀ (s : Shared) (H : Hp) (C : Addr) (cl : List (Str × Addr)) (fp : List Addr), PG (X.blk s H scope (compEnvC scope cl C X.env) fp) tg g) (gm : GM X.K g t) (og : OnlyG (own.map (·.2)) g)
    (ht : ∀ (s : Shared) (H : Hp) (C : Addr) (cl : List (Str × Addr)) (fp : List Addr), XTs (X.blk s H scope (compEnvC scope cl C X.env) fp) ifs c)
    (he : ∀ (s : Shared) (H : Hp) (C : Addr) (cl : List (Str × Addr)) (fp : List Addr), XE (X.blk s H scope (compEnvC scope cl C X.env) fp) elt f) (hy : X.N[i]? = some y := by rfl) (hyl : X.env.scope.names.lookup y = some .local := by rfl)
    (hsw : swapsWith (.ListComp elt [⟨tg, iter, ifs, 0⟩] scope pos) (some (.Name y py)) spos.line X.env = pure true := by exact sw_true rfl rfl rfl (by decide +kernel)) (hs : ∀ x, foldedSetIterable iter X.env x = pure x := by intro _; rfl) :
    XS X (.Assign [.Name y py] (.ListComp elt [⟨tg, iter, ifs, 0⟩] scope pos) spos) (c_asg (g_n i) (e_lc (own.map (·.2)) t s c f)) :=
  let ⟨_, p, q⟩ := hi; ⟨_, ps_setLc (own := own) (g := g) (tt := canT X.K c) (te := canE X.K f) hc hN hy hyl hsw p ok hg (fun s H C cl fp => (ht s H C cl fp).can) (fun s H C cl fp => (he s H C cl fp).can) hs, sm_asg (em_lc q gm og tm_can em_can) gm_n⟩
end

/-! ### a def's body -/
theorem spM_len {K : PySem.W.Frag} {n k : Nat} {c : Cm} {vs : List V} {H : Hp} {Q : VK} {E : XK} (h : spM K (fnM n k c) vs H Q E) : vs.length = k := by
  obtain ⟨z, args, r, args', _, e, _, hm, _⟩ := h
  unfold fnM at hm
  split at hm
  · rename_i hc
    have := e.len
    rw [List.length_map] at this
    omega
  · cases hm
theorem body_ok {K : PySem.W.Frag} {N : List Str} {k : Nat} {c : Cm} {ts : TS} {vs : List V} {H : Hp} {Q : VK} {E : XK} (hk : k ≤ N.length) (q : SM K ts c) (h : spM K (fnM N.length k c) vs H Q E) :
    ts { nx := fun _ H' => Q .non H', rt := Q } (L2.start N vs) H := by
  have hl := spM_len h
  obtain ⟨z, args, r, args', rfl, e, hp, hm, fin⟩ := h
  unfold fnM at hm
  split at hm
  · rename_i hc
    obtain ⟨o, h1, h2⟩ := Option.bind_eq_some_iff.mp hm
    have es := e.start (N := N) (by omega)
    rw [hl] at es
    refine q z z.toWd _ _ es o h1 _ ?_
    cases o with
    | nx e2 =>
      cases h2
      exact fun w' σ' E' s => fin .non w' (e.stop hp hc.2 E') s .non
    | rt r2 e2 =>
      cases h2
      refine fun v w' σ' E' s rr => fin v w' (e.stop hp hc.2 E') s ?_
      cases r with
      | val d => exact rr
      | own o =>
        obtain ⟨a, rfl, h3, h4, h5⟩ := rr
        refine ⟨a, rfl, h3, h4, fun i hi hz => ?_⟩
        have ES := e.stop hp hc.2 E'
        obtain ⟨b, ob, h6, h7, h8⟩ := ES.owned hi
        rw [hz] at h6
        cases h6
        -- an argument's object stood ahead of the call
        rcases h8 with h8 | h8
        · obtain ⟨b2, _, _, _⟩ := ES.own i ob h8
          rw [outArgs_get] at h8
          cases qa : args[i]? with
          | none => rw [qa] at h8; simp at h8
          | some sl =>
            have hy : okArg sl = true := List.all_eq_true.mp hc.2 sl (List.mem_of_getElem? qa)
            rw [qa] at h8
            cases sl with
            | no => cases hy
            | own _ => cases hy
            | val _ => simp at h8
            | arg o1 =>
              obtain ⟨a1, hm1⟩ := hp i o1 qa
              obtain ⟨k1, o3, k2⟩ := E'.pin _ hm1
              simp only at k1 k2
              rw [k2] at h8
              cases h8
        · obtain ⟨b2, h9, h10, _⟩ := ES.arg i ob h8
          rw [hz] at h9
          cases h9
          exact h10.1 h3.1
    | bk e2 => cases h2
    | ct e2 => cases h2
  · cases hm
section
variable {P : Program} {w : World} {K : PySem.W.Frag} {mg : Str → Option Value} {base : Heap}
theorem fn_okM {x qual : Str} {st : Stmt} {f : Addr} {fd : FuncData} {N ps : List Str} {k : Nat} {c : Cm} (F : Fun K x qual st f fd) (S : FnScope N ps (defScope st))
    (hbody : ∀ (cdv : Value) (A : Around) (outer : List Env) (s : Shared) (H : Hp) (E : XK), Room k (A.deeper (envOfC qual (defScope st) s.heap.objs.size f cdv)) →
      XB (cxOf CX0 P w K mg base N qual (defScope st) f cdv A outer s H E).nox (defBody st) c) : FnOk P w K mg base CX0 (k + 1) f fd ps (spM K (fnM N.length ps.length c)) := by
  have hpl : ps.length ≤ N.length := by have := congrArg List.length S.pre; rw [List.length_take] at this; omega
  refine F.ok S (fun vs H Q E h => spM_len h) fun cdv A outer s H vs Q E hr h => ?_
  obtain ⟨ts, p, q⟩ := hbody cdv A outer s H E hr
  exact ⟨ts, p, body_ok hpl q h⟩
/-- .. with defaults -/
theorem fn_okD {x qual : Str} {st : Stmt} {f : Addr} {fd : FuncData} {N ps : List Str} {k : Nat} {c : Cm} {dvs : List V} {kws : List (Str × V)} (F : FunD K x qual (defArgs st) (defBody st) (defScope st) dvs kws f fd) (S : FnScope N ps (defScope st))
    (hbody : ∀ (cdv : Value) (A : Around) (outer : List Env) (s : Shared) (H : Hp) (E : XK), Room k (A.deeper (envOfC qual (defScope st) s.heap.objs.size f cdv)) →
      XB (cxOf CX0 P w K mg base N qual (defScope st) f cdv A outer s H E).nox (defBody st) c) : FnOk P w K mg base CX0 (k + 1) f fd ps (spM K (fnM N.length ps.length c)) := by
  have hpl : ps.length ≤ N.length := by have := congrArg List.length S.pre; rw [List.length_take] at this; omega
  refine F.ok S (fun vs H Q E h => spM_len h) fun cdv A outer s H vs Q E hr h => ?_
  obtain ⟨ts, p, q⟩ := hbody cdv A outer s H E hr
  exact ⟨ts, p.nox, body_ok hpl q h⟩
/-! ### the law -/
def spLaw (K : PySem.W.Frag) : Sp := fun vs H Q _ => ∃ (a : Addr) (ns : List Int), vs = [.ref a] ∧ SqL K H a (ns.map V.int) ∧ ns.length ≤ 63 ∧ ∀ H', Q (.bl true) H'
theorem reps_ints {wd : Wd} : ∀ ns : List Int, Reps K wd (ns.map V.int) (ns.map D.int)
  | [] => .nil
  | n :: ns => .cons (.int n) (reps_ints ns)
theorem law_ok {k : Nat} {f : Addr} {fd : FuncData} {ps : List Str} {m : FM} (F : FnOk P w K mg base CX0 k f fd ps (spM K m)) (hp : ps.length = 1) (h : ∀ ns : List Int, ns.length ≤ 63 → m [.val (.lst (ns.map D.int))] = some (.val (.bl true), [.val (.lst (ns.map D.int))])) :
    FnOk P w K mg base CX0 k f fd ps (spLaw K) := by
  refine F.imp fun vs H Q E hh => ?_
  obtain ⟨a, ns, rfl, hs, hl, q⟩ := hh
  let z : W0 := { W := fun _ => False, B := fun _ => False, H := H, pa := [] }
  have gz : Good z.toWd := ⟨fun p hp => (hp.elim id id).elim⟩
  refine ⟨z, [.val (.lst (ns.map D.int))], _, _, rfl, ?_, fun i o hi => ?_, h ns hl, fun v w' _ _ rr => ?_⟩
  · refine ⟨gz, gz, .refl _, rfl, fun i d hi => ?_, fun i o hi => ?_, fun i o hi => ?_, fun i j b h1 => ?_, fun p hp => nomatch hp⟩
    · cases i with
      | zero => cases hi; exact ⟨_, rfl, .lst (hs.imp (fun k => ⟨k, fun z => z.elim id id⟩) id) (reps_ints ns)⟩
      | succ i => cases i <;> cases hi
    · cases i with
      | zero => cases hi
      | succ i => cases i <;> cases hi
    · cases i with
      | zero => cases hi
      | succ i => cases i <;> cases hi
    · cases i with
      | zero => cases h1
      | succ i => cases i <;> cases h1
  · cases i with
    | zero => cases hi
    | succ i => cases i <;> cases hi
  · have rr' : Rep K w' v (.bl true) := rr
    cases rr'
    exact q _
end
end Vz
set_option maxRecDepth 100000
set_option maxHeartbeats 1000000
namespace Vz
open PySem PySem.Spec PyProof.Rows L2
variable [FnTab]
section
variable {K : PySem.W.Frag} {w w' w1 w2 : Wd} {w0 : W0} {σ : L2.St} {env env' env1 : List Sl}
/-! ### * -/
def rStrMul : R2 := fun x y H Q => ∃ z k, x = .str z ∧ y = .int k ∧ MulOk z k ∧ Q (.str (Txt.mul z k)) H
theorem op_mulStr {X : Cx} : OpR X (binaryOp .Mult) rStrMul := by
  intro pins s σ H x y v u Q I rx ry h
  obtain ⟨z, k, rfl, rfl, hk, q⟩ := h
  obtain ⟨t, rfl⟩ := rx
  obtain ⟨t2, rfl⟩ := ry
  exact SB.mul hk fun t' n => ⟨.str _, _, I.tok n, ⟨_, rfl⟩, q⟩
theorem mulOk_small {x : Str} {k : Int} (h : x.length * k.toNat ≤ 100000) (h1 : -1000000 ≤ k) (h2 : k ≤ 1000000) : MulOk x k := by
  refine ⟨by simp; omega, fun hk _ => ?_, fun hk _ => ?_⟩
  · have hk1 : 0 < k := by omega
    have : (x.length : Int) ≤ (2 ^ 63 - 1) / k := by
      rw [Int.le_ediv_iff_mul_le hk1]
      have : (x.length : Int) * k = ((x.length * k.toNat : Nat) : Int) := by
        rw [Int.natCast_mul]; congr 1; omega
      omega
    omega
  · show decide (x.length * k.toNat > sizeLine) = false
    have := line5
    rw [decide_eq_false]
    omega
open Classical in
noncomputable def o_mul : D → D → Option R
  | .int i, .int j => if IntMulOk i j then some (.val (.int (i * j))) else none
  | .str x, .int k => if x.length * k.toNat ≤ 100000 ∧ -1000000 ≤ k ∧ k ≤ 1000000 then some (.val (.str (Txt.mul x k))) else none
  | _, _ => none
def rMulS : R2 := fun x y H Q => rI IntMulOk (fun i j => .int (i * j)) x y H Q ∨ rStrMul x y H Q
theorem op_mulS {X : Cx} : OpR X (binaryOp .Mult) rMulS := op_mulX.or op_mulStr
theorem opm_mul : OpM K rMulS o_mul := by
  intro w g x y a b ra rb z h Q q
  cases ra <;> cases rb <;> simp only [o_mul] at h <;> try cases h
  · split at h
    · rename_i hc
      exact .inl ⟨_, _, rfl, rfl, hc, out0 g (.int _) h q⟩
    · cases h
  · split at h
    · rename_i hc
      exact .inr ⟨_, _, rfl, rfl, mulOk_small hc.1 hc.2.1 hc.2.2, out0 g (.str _) h q⟩
    · cases h
/-- turns enough: a slot's int -/
def fuI (i : Nat) : List Sl → Nat := fun env => match env[i]? with
  | some (.val (.int k)) => k.natAbs + 1
  | _ => 0
end
theorem xs_lcv {X : Cx} (i : Nat) {y : Str} {py spos pos : Pos} {elt tg iter : Expr} {ifs : List Expr} {scope : Scope} (own : List (Str × Nat)) {g : TG} {t : Tg} {s : Src} {c : Et} {f : Ex} (hc : X.calm = true) (hN : X.N.Nodup) (hi : XI X tg iter s) (ok : BlkOk X.N X.env.scope scope own)
    (hg : ∀ (s : Shared) (H : Hp) (C : Addr) (cl : List (Str × Addr)) (fp : List Addr), PG (X.blk s H scope (compEnvC scope cl C X.env) fp) tg g) (gm : GM X.K g t) (og : OnlyG (own.map (·.2)) g)
    (ht : ∀ (s : Shared) (H : Hp) (C : Addr) (cl : List (Str × Addr)) (fp : List Addr), XTs (X.blk s H scope (compEnvC scope cl C X.env) fp) ifs c)
    (he : ∀ (s : Shared) (H : Hp) (C : Addr) (cl : List (Str × Addr)) (fp : List Addr), XE (X.blk s H scope (compEnvC scope cl C X.env) fp) elt f) (hy : X.N[i]? = some y := by rfl) (hyl : X.env.scope.names.lookup y = some .local := by rfl)
    (hsw : swapsWith (.ListComp elt [⟨tg, iter, ifs, 0⟩] scope pos) (some (.Name y py)) spos.line X.env = pure true := by exact sw_true rfl rfl rfl (by decide +kernel)) (hs : ∀ x, foldedSetIterable iter X.env x = pure x := by intro _; rfl) :
    XS X (.Assign [.Name y py] (.ListComp elt [⟨tg, iter, ifs, 0⟩] scope pos) spos) (c_asg (gv (g_n i)) (e_lc (own.map (·.2)) t s c f)) :=
  let ⟨_, p, q⟩ := hi; ⟨_, ps_setLc (own := own) (g := g) (tt := canT X.K c) (te := canE X.K f) hc hN hy hyl hsw p ok hg (fun s H C cl fp => (ht s H C cl fp).can) (fun s H C cl fp => (he s H C cl fp).can) hs, sm_asg (em_lc q gm og tm_can em_can) (gm_v gm_n)⟩
theorem x_mul {X : Cx} {pos : Pos} {a b : Expr} {f g : Ex} (ha : XE X a f) (hb : XE X b g) : XE X (.BinOp a .Mult b pos) (e2 o_mul f g) := x_op op_mulS opm_mul ha hb
end Vz
set_option maxRecDepth 100000
set_option maxHeartbeats 1000000
namespace Vz
open PySem PySem.Spec PyProof.Rows L2
variable [FnTab]

/-! ### a list made of an iterator that walks itself -/
section
variable {prog : Program} {w : World} {A : Around} {E : Value → Shared → Prop} {s : Shared} {T : String} {r d : Addr} {n : Nat} {P : Nat → Value → Prop} {St : Nat → Heap → Prop}
structure SelfIt (prog : Program) (w : World) (T : String) (r d : Addr) (n : Nat) (P : Nat → Value → Prop) (St : Nat → Heap → Prop) : Prop where
  type : ∀ i (s : Shared), St i s.heap → s.TypeIs (.ref r) T
  there : ∀ i h, St i h → r < h.objs.size ∧ d < h.objs.size
  notList : (Value.type T == Value.type "list") = false
  notTuple : (Value.type T == Value.type "tuple") = false
  hint : ∀ (A : Around) (E : Value → Shared → Prop) (s : Shared) (Q : Bool → Shared → Prop), St 0 s.heap → (∀ b tk, Q b { s with toks := tk }) → wpAny (model prog w) A (Builtin.List.listLengthHint (.ref r)) Q E s
  walk : ∀ A : Around, A.handled = none → Walks prog w A r [r, d] [r] n P St
theorem si_extend {R : Result → Shared → Prop} (K : SelfIt prog w T r d n P St) (hh : A.handled = none) (hst : St 0 s.heap) (S : Addr) (hSr : S ≠ r) (hSd : S ≠ d) (res : Value) (c₀ : Nat) (hS : s.heap.get? S = some { cls := .type "list", data := .seq #[] c₀ })
    (hR : ∀ h' tk acc' c', (∀ b o, b ≠ S → b ≠ r → s.heap.get? b = some o → h'.get? b = some o) → h'.get? S = some { cls := .type "list", dict := none, data := .seq acc' c', slots := #[] } → ItemsOf P acc' n → R (.ok (.ret res)) { s with heap := h', toks := tk }) (hn : n ≤ sizeLine) :
    wpAny (model prog w) A.in1 (Builtin.List.listExtendWith (.ref S) (.ref r) res)
      (fun fin s' => match fin with | .done f => R (.ok f) s' | .again c' => c'.quiet = true ∧ codeAny (model prog w) A c' R s') (fun e s' => R (.error e) s') s := by
  have W := K.walk A.in1 hh
  have hSf : S ∉ [r, d] := by simp only [List.mem_cons, List.not_mem_nil, or_false, not_or]; exact ⟨hSr, hSd⟩
  have key : ∀ (h : Heap) (c₁ tk : Nat), St 0 h → (∀ b o, b ≠ S → s.heap.get? b = some o → h.get? b = some o) →
      h.get? S = some { cls := .type "list", data := .seq #[] c₁ } → codeAny (model prog w) A (.builtin "list.extend.loop" ⟨[.ref S, .ref r, res], []⟩) R { s with heap := h, toks := tk } := by
    intro h c₁ tk hst hk hS₁
    refine codeAny_extend_loopS W.toS hn S hSf res n 0 _ #[] c₁ rfl (Nat.zero_le _) hst hS₁ (ItemsOf.nil _) fun s' acc' c' hm hS' hacc => ?_
    rw [Moved.eq_with hm]
    refine hR s'.heap s'.toks acc' c' (fun b o hb hb2 e => hm.heap b o (fun hmem => ?_) (hk b o hb e)) hS' hacc
    rcases List.mem_cons.mp hmem with e' | hmem
    · exact hb e'
    · exact hb2 (List.mem_singleton.mp hmem)
  unfold Builtin.List.listExtendWith
  refine wpAny_bind (wpAny_typeOf (T := T) (K.type 0 s hst) ?_)
  have h1 : Builtin.List.listSameRef (.ref S) (.ref r) = false := by simp [Builtin.List.listSameRef, hSr]
  simp only [h1, K.notList, K.notTuple, Bool.or_false, Bool.false_eq_true, if_false]
  refine wpAny_bind (W.self 0 s _ _ hst ?_)
  refine wpAny_bind (wpAny_holding (K.hint _ _ _ _ hst fun bb tk => ?_))
  refine wpAny_ite_split (fun _ => ?_) (fun _ => wpAny_pure ⟨plainId_quiet PySem.F.plain_extend_loop _, key _ c₀ _ hst (fun b o _ e => e) hS⟩)
  refine wpAny_bind (wpAny_rule ?_)
  refine wpAny_bind ?_
  show wpAny _ _ (updateSeq S (·.push .none) >>= fun _ => updateSeq S (·.pop)) _ _ _
  refine wpAny_bind (wpAny_updateSeq hS rfl ?_)
  have hS₂ := Heap.get?_update_self (Obj.mapSeq (·.push Value.none)) hS rfl
  refine wpAny_updateSeq (hz := by seq_fits) hS₂ rfl ?_
  have hS₃ := Heap.get?_update_self (Obj.mapSeq (·.pop)) hS₂ rfl
  refine wpAny_pure ⟨plainId_quiet PySem.F.plain_extend_loop _, key _ _ _ ?_ (fun b o hb e => ?_) hS₃⟩
  · refine W.frame 0 _ _ hst fun b hb o e => ?_
    have hbS : b ≠ S := fun h => hSf (h ▸ hb)
    exact (Heap.get?_update_other _ _ (Ne.symm hbS)).trans ((Heap.get?_update_other _ _ (Ne.symm hbS)).trans e)
  · exact (Heap.get?_update_other _ _ (Ne.symm hb)).trans ((Heap.get?_update_other _ _ (Ne.symm hb)).trans e)
theorem si_init {R : Result → Shared → Prop} (K : SelfIt prog w T r d n P St) (hh : A.handled = none) (hst : St 0 s.heap) (S : Addr) (hSr : S ≠ r) (hSd : S ≠ d) (hS : s.heap.get? S = some { cls := .type "list", data := .seq #[] })
    (hR : ∀ h' tk acc' c', (∀ b o, b ≠ S → b ≠ r → s.heap.get? b = some o → h'.get? b = some o) → h'.get? S = some { cls := .type "list", dict := none, data := .seq acc' c', slots := #[] } → ItemsOf P acc' n → R (.ok (.ret .none)) { s with heap := h', toks := tk }) (hn : n ≤ sizeLine) :
    wpAny (model prog w) A.in1 (Builtin.«list.__init__» ⟨[.ref S, .ref r], []⟩)
      (fun fin s' => match fin with | .done f => R (.ok f) s' | .again c' => c'.quiet = true ∧ codeAny (model prog w) A c' R s') (fun e s' => R (.error e) s') s := by
  show wpAny _ _ (do let old ← Builtin.List.listItems (.ref S); Builtin.List.listUpdate (.ref S) (fun _ => #[]); letGo old.toList.reverse; Builtin.List.listExtendWith (.ref S) (.ref r) .none) _ _ s
  refine wpAny_bind ?_
  unfold Builtin.List.listItems
  refine wpAny_bind (wpAny_seqItems hS rfl (wpAny_pure ?_))
  show wpAny _ _ (updateSeq S (fun _ => #[]) >>= fun _ => letGo (#[] : Array Value).toList.reverse >>= fun _ => Builtin.List.listExtendWith (.ref S) (.ref r) .none) _ _ s
  refine wpAny_bind (wpAny_updateSeq hS rfl ?_)
  have hS₂ := Heap.get?_update_self (Obj.mapSeq (fun _ => (#[] : Array Value))) hS rfl
  have oth : ∀ b o, b ≠ S → s.heap.get? b = some o → (s.heap.update S (Obj.mapSeq (fun _ => (#[] : Array Value)))).get? b = some o :=
    fun b o hb e => (Heap.get?_update_other _ _ (Ne.symm hb)).trans e
  refine wpAny_bind (wpAny_letGo ?_)
  refine si_extend K hh ((K.walk A hh).frame 0 _ _ hst fun b hb o e => oth b o (by
    rcases List.mem_cons.mp hb with rfl | hb
    · exact hSr.symm
    · rw [List.mem_singleton.mp hb]; exact hSd.symm) e) S hSr hSd .none _ hS₂ (fun h' tk acc' c' hk hS' hacc => ?_) hn
  exact hR h' tk acc' c' (fun b o hb hb2 e => hk b o hb hb2 (oth b o hb e)) hS' hacc
theorem si_call {Q : Value → Shared → Prop} (K : SelfIt prog w T r d n P St) (hh : A.handled = none) (hst : St 0 s.heap) (hn : n ≤ sizeLine)
    (hQ : ∀ h' tk acc' c', (∀ b o, b ≠ r → s.heap.get? b = some o → h'.get? b = some o) → h'.get? s.heap.objs.size = some { cls := .type "list", dict := none, data := .seq acc' c', slots := #[] } → ItemsOf P acc' n → Q (.ref s.heap.objs.size) { s with heap := h', toks := tk }) :
    wpAny (model prog w) A (call (.type "list") [.ref r]) Q E s := by
  refine callType_codes (Q₁ := fun obj s₁ => obj = .ref s.heap.objs.size ∧ s₁ = { s with heap := s.heap.push { cls := .type "list", data := .seq #[] } }) PySem.F.called_list (PySem.F.typeCall_list_1 _) PySem.F.entry_list_init
    (PySem.code_list_new _ ⟨rfl, rfl⟩) fun obj s₁ h₁ => ?_
  obtain ⟨rfl, rfl⟩ := h₁
  have hS : (s.heap.push { cls := .type "list", data := .seq #[] }).get? s.heap.objs.size = some { cls := .type "list", data := .seq #[] } := Heap.get?_push_size _ rfl
  have hlt := K.there _ _ hst
  refine ⟨⟨_, hS, rfl⟩, PySem.F.args_list_init_2 _ _, si_init (A := A.in1) K hh ((K.walk A hh).frame 0 _ _ hst fun b _ o e => Heap.get?_push_of_some _ e) _ (Nat.ne_of_gt hlt.1) (Nat.ne_of_gt hlt.2) hS (fun h' tk acc' c' hk hS' hacc => ?_) hn⟩
  exact ⟨rfl, hQ h' tk acc' c' (fun b o hb e => hk b o (Nat.ne_of_lt (Heap.lt_size e)) hb (Heap.get?_push_of_some _ e)) hS' hacc⟩
/-- .. the same as a plain list of values: what tuple(..) takes -/
theorem si_collect {Q : List Value → Shared → Prop} (K : SelfIt prog w T r d n P St) (hh : A.handled = none) (hst : St 0 s.heap) (hn : n ≤ sizeLine)
    (hQ : ∀ (h' : Heap) (tk : Nat) (acc : Array Value), (∀ b o, b ≠ r → s.heap.get? b = some o → h'.get? b = some o) → ItemsOf P acc n → Q acc.toList { s with heap := h', toks := tk }) :
    wpAny (model prog w) A (collect (.ref r)) Q E s := by
  unfold collect
  refine wpAny_bind (wpAny_runValue (codeAny_builtin F.entry_proto_collect ?_))
  rw [Around.under_plainId F.plain_proto_collect _]
  show wpAny _ A.in1 (newList [] >>= fun l' => again (.builtin "list.__iadd__" ⟨[l', .ref r], []⟩)) _ _ s
  refine wpAny_bind (wpAny_newObj_type ?_)
  refine wpAny_pure ⟨plainId_quiet F.plain_list_iadd _, codeAny_builtin F.entry_list_iadd ?_⟩
  rw [Around.under_plainId F.plain_list_iadd _]
  show wpAny _ A.in1 (Builtin.List.listExtendWith (.ref s.heap.objs.size) (.ref r) (.ref s.heap.objs.size)) _ _ _
  have hS : (s.heap.push { cls := .type "list", data := .seq ([] : List Value).toArray }).get? s.heap.objs.size = some { cls := .type "list", data := .seq #[] 0 } := Heap.get?_push_size _ rfl
  have hlt := K.there _ _ hst
  refine wpAny_mono (si_extend (A := A) (s := { s with heap := s.heap.push { cls := .type "list", data := .seq ([] : List Value).toArray } }) (R := fun rr s' => rr = .ok (.ret (.ref s.heap.objs.size)) ∧ ∃ (h' : Heap) (tk : Nat) (acc : Array Value) (c' : Nat), s' = { s with heap := h', toks := tk } ∧
      (∀ b o, b ≠ r → s.heap.get? b = some o → h'.get? b = some o) ∧ h'.get? s.heap.objs.size = some { cls := .type "list", dict := none, data := .seq acc c', slots := #[] } ∧ ItemsOf P acc n)
    K hh ((K.walk A hh).frame 0 _ _ hst fun b _ o e => Heap.get?_push_of_some _ e) _ (Nat.ne_of_gt hlt.1) (Nat.ne_of_gt hlt.2) _ 0 hS
    (fun h' tk acc c' hk e hi => ⟨rfl, h', tk, acc, c', rfl, fun b o hb q => hk b o (Nat.ne_of_lt (Heap.lt_size q)) hb (Heap.get?_push_of_some _ q), e, hi⟩) hn) (fun fin s' h => ?_) (fun e s' h => ?_)
  · cases fin with
    | done f =>
      obtain ⟨e, h', tk, acc, c', rfl, hk, hS', hi⟩ := h
      cases e
      show wpAny _ A (load s.heap.objs.size >>= _) _ _ _
      exact wpAny_bind (wpAny_load hS' (wpAny_pure (hQ h' tk acc hk hi)))
    | again c' =>
      refine ⟨h.1, codeAny_mono h.2 fun rr s'' hr' => ?_⟩
      obtain ⟨rfl, h', tk, acc, c', rfl, hk, hS', hi⟩ := hr'
      show wpAny _ A (load s.heap.objs.size >>= _) _ _ _
      exact wpAny_bind (wpAny_load hS' (wpAny_pure (hQ h' tk acc hk hi)))
  · exact absurd h.1 (by simp)
theorem si_tuple_new {Q₁ : Value → Shared → Prop} (K : SelfIt prog w T r d n P St) (hh : A.handled = none) (hst : St 0 s.heap) (hn : n ≤ sizeLine)
    (h : ∀ (h' : Heap) (tk : Nat) (acc : Array Value), (∀ b o, b ≠ r → s.heap.get? b = some o → h'.get? b = some o) → ItemsOf P acc n →
      Q₁ (.ref h'.objs.size) { s with heap := h'.push { cls := .type "tuple", data := .seq acc }, toks := tk }) :
    codeAny (model prog w) A (.call (.builtin "tuple.__new__") ⟨[.type "tuple", .ref r], []⟩) (wants Q₁ E) s := by
  refine codeAny_of_tree ?_
  show wpAny _ A.in1 (do checkBuiltinCall "tuple.__new__" ⟨[.type "tuple", .ref r], []⟩; again (.builtin "tuple.__new__" ⟨[.type "tuple", .ref r], []⟩)) _ _ s
  refine wpAny_bind (wpAny_of_eq (F.newCall_tuple_1 _) (wpAny_pure ⟨plainId_quiet F.plain_tuple_new _, codeAny_builtin F.entry_tuple_new ?_⟩))
  rw [Around.under_plainId F.plain_tuple_new _]
  have hsub := sub_tuple_self
  have hinit := init_tuple_lookup
  have hmh := madeHere_tuple
  have hTI : s.TypeIs (.ref r) T := K.type 0 s hst
  have hnt : (Value.type T == Value.type "tuple") = false := K.notTuple
  have hh1 : A.in1.handled = none := hh
  wp_walk using wpAny_typeOf hTI, si_collect (A := A.in1) K hh1 hst hn
  intro h' tk acc hk hacc
  show wpAny _ _ (Builtin.Tuple.tupleExact acc.toList.toArray >>= fun v => ret v) _ _ _
  unfold Builtin.Tuple.tupleExact
  refine wpAny_bind (wpAny_newObj_type ?_ (by show acc.toList.toArray.size ≤ sizeLine; simp only [Array.toArray_toList]; rw [hacc.1]; exact hn))
  refine wpAny_pure ?_
  have e : acc.toList.toArray = acc := by simp
  rw [e]
  exact h h' tk acc hk hacc
theorem si_tuple {Q : Value → Shared → Prop} (K : SelfIt prog w T r d n P St) (hh : A.handled = none) (hst : St 0 s.heap) (hn : n ≤ sizeLine)
    (hQ : ∀ (h' : Heap) (tk : Nat) (acc : Array Value), (∀ b o, b ≠ r → s.heap.get? b = some o → h'.get? b = some o) → ItemsOf P acc n →
      Q (.ref h'.objs.size) { s with heap := h'.push { cls := .type "tuple", data := .seq acc }, toks := tk }) :
    wpAny (model prog w) A (call (.type "tuple") [.ref r]) Q E s := by
  refine callType_codes (Q₁ := fun obj s₁ => s₁.TypeIs obj "tuple" ∧ Q obj s₁) F.called_tuple (F.typeCall_tuple_1 _) F.entry_object_init
    (si_tuple_new (A := A.in1) K hh hst hn fun h' tk acc hk hacc => ⟨⟨_, Heap.get?_push_size _ rfl, rfl⟩, hQ h' tk acc hk hacc⟩) fun obj s₁ h₁ => ?_
  exact ⟨h₁.1, F.args_object_init_2 obj _, object_init_meets F.called_tuple.init.lookup F.called_tuple.made (by decide) prog w A.in1 _ s₁ ⟨h₁.1, rfl, h₁.2⟩⟩

/-! ### reversed -/
theorem hint_lrev {Q : Bool → Shared → Prop} (hT : s.TypeIs (.ref r) "list_reverseiterator") (h : Q false s) : wpAny (model prog w) A (Builtin.List.listLengthHint (.ref r)) Q E s := by
  unfold Builtin.List.listLengthHint
  refine wpAny_bind (wpAny_specialOf hT RT.nolen_lri ?_)
  show wpAny _ A (specialOf (Value.ref r) (Str.ofString "__length_hint__") >>= _) _ _ _
  refine wpAny_bind (wpAny_specialOf hT RT.hint_lri ?_)
  generalize hid : ("list_reverseiterator.__length_hint__" : String) = id0
  wp_delta
  rw [show splitId id0 = some ("list_reverseiterator", "__length_hint__") from by subst hid; decide +kernel]
  subst hid
  refine wpAny_bind (wpAny_isInstance (b := true) hT (by rw [isSubtype_type]; kernel_rfl) ?_)
  exact wpAny_pure h
theorem nolen_rt : typeLookup (.type "reversed") "__len__" = pure none := by rw [typeLookup_type, builtinLookup_eq_fast]; kernel_rfl
theorem slot_rt_hint : Slot "reversed" "__length_hint__" "reversed.__length_hint__" :=
  .of (owner := "reversed") (n := "__length_hint__") (by rw [typeLookup_type, builtinLookup_eq_fast]; kernel_rfl) (by decide +kernel) (by decide +kernel) (by decide +kernel)
    (by first | exact .inl (by decide +kernel) | exact .inr (by decide +kernel)) (by rw [isSubtype_type]; kernel_rfl)
theorem entry_rt_hint : entryFor table "reversed.__length_hint__" = some Builtin.«reversed.__length_hint__» := entryFor_of_tree (by kernel_rfl)
theorem args_rt_hint (a : Value) : argsOk "reversed.__length_hint__" ⟨[a], []⟩ := by
  unfold argsOk; rw [signature?_of (id := "reversed.__length_hint__") (n := ['_', '_', 't', 'n', 'i', 'h', '_', 'h', 't', 'g', 'n', 'e', 'l', '_', '_']) (o := ['d', 'e', 's', 'r', 'e', 'v', 'e', 'r']) (by kernel_rfl) RT.owner_rt]; kernel_rfl
theorem fit63 {n : Nat} (h : n ≤ sizeLine) : (n : Int) < 2 ^ 63 := by
  rw [sizeLine_eq] at h
  have h63 : (2 : Int) ^ 63 = 9223372036854775808 := by decide
  rw [h63]
  omega
theorem call_rt_hint {it t : Addr} {i : Int} {items : Array Value} {Q : Value → Shared → Prop} (hit : RT.IsRt s.heap it t i) (ht : IsTup s.heap t items) (hz : items.size ≤ sizeLine) (hi : i < items.size)
    (h : ∀ tk tk2, Q (.int (i + 1) tk2) { s with toks := tk }) : wpAny (model prog w) A (call (.builtin "reversed.__length_hint__") [.ref it]) Q E s := by
  obtain ⟨o, ho, hc, hd⟩ := id hit
  refine wpAny_call_entry slot_rt_hint hit.typeIs entry_rt_hint ?_ (args_rt_hint _)
  unfold Builtin.«reversed.__length_hint__»
  refine wpAny_bind (wpAny_of_eq (a := Value.ref it) rfl ?_)
  try dsimp only
  refine wpAny_bind (wpAny_field ho hd (x := .ref t) rfl ?_)
  show wpAny _ _ (call (.builtin "len") [Value.ref t] >>= _) _ _ s
  refine wpAny_bind (len_tuple ht (fit63 hz) ?_)
  try dsimp only
  refine wpAny_bind (m := asInt? (.int items.size (s.toks + 1))) (wpAny_pure ?_)
  try dsimp only
  refine wpAny_bind (wpAny_field (s := { s with toks := s.toks + 1 + 1 }) ho hd (x := rawInt i) rfl ?_)
  show wpAny _ _ (if (items.size : Int) < i + 1 then _ else _) _ _ _
  rw [if_neg (by omega)]
  show wpAny _ _ (mkInt (i + 1) >>= ret) _ _ _
  refine wpAny_bind (wpAny_mkInt ?_)
  exact wpAny_pure ⟨_, rfl, h _ _⟩
theorem hint_trev {it t : Addr} {i : Int} {items : Array Value} {Q : Bool → Shared → Prop} (hit : RT.IsRt s.heap it t i) (ht : IsTup s.heap t items) (hz : items.size ≤ sizeLine) (hi : i < items.size) (hi2 : -1 ≤ i)
    (h : ∀ b tk, Q b { s with toks := tk }) : wpAny (model prog w) A (Builtin.List.listLengthHint (.ref it)) Q E s := by
  have hT := hit.typeIs
  unfold Builtin.List.listLengthHint
  refine wpAny_bind (wpAny_specialOf hT nolen_rt ?_)
  show wpAny _ A (specialOf (Value.ref it) (Str.ofString "__length_hint__") >>= _) _ _ _
  refine wpAny_bind (wpAny_specialOf hT slot_rt_hint.lookup ?_)
  generalize hid : ("reversed.__length_hint__" : String) = id0
  wp_delta
  rw [show splitId id0 = some ("reversed", "__length_hint__") from by subst hid; decide +kernel]
  subst hid
  refine wpAny_bind (wpAny_isInstance (b := true) hT (by rw [isSubtype_type]; kernel_rfl) ?_)
  rw [if_neg (by decide)]
  rw [if_neg (by decide +kernel)]
  refine wpAny_bind (wpAny_rule ?_)
  rw [slot_rt_hint.bind]
  refine wpAny_bind (wpAny_pure ?_)
  refine wpAny_bind (wpAny_attempt (call_rt_hint hit ht hz hi fun tk tk2 => ?_))
  try dsimp only
  refine wpAny_bind (m := asInt? (.int (i + 1) tk2)) (wpAny_pure ?_)
  have h63 : (2 : Int) ^ 63 = 9223372036854775808 := by decide
  have hz2 := hz
  rw [sizeLine_eq] at hz2
  dsimp only
  rw [if_neg (by unfold Builtin.List.listFitsIndex; simp; omega)]
  rw [if_neg (by omega)]
  rw [if_neg (by unfold Builtin.List.listTooLong; simp; omega)]
  exact wpAny_pure (h _ _)
theorem si_lrev {it l : Addr} {items : Array Value} (hne : l ≠ it) :
    SelfIt prog w "list_reverseiterator" it l items.size (fun i v => items[items.size - 1 - i]? = some v) (fun i h => i ≤ items.size ∧ h.IsRevIter it l ((items.size : Int) - 1 - (i : Nat)) ∧ h.IsList l items) where
  type := fun _ _ h => Heap.IsRevIter.typeIs h.2.1
  there := fun _ _ h => ⟨let ⟨_, ho, _⟩ := h.2.1; Heap.lt_size ho, let ⟨_, ho, _⟩ := h.2.2; Heap.lt_size ho⟩
  notList := by decide
  notTuple := by decide
  hint := fun _ _ s _ st h => hint_lrev (Heap.IsRevIter.typeIs st.2.1) (h false s.toks)
  walk := fun A hh => Walks.listRev hh it l hne items
theorem tup_at {h h' : Heap} {a : Addr} {items : Array Value} (x : IsTup h a items) (e : ∀ o, h.get? a = some o → h'.get? a = some o) : IsTup h' a items := let ⟨o, ho, r⟩ := x; ⟨o, e _ ho, r⟩
theorem si_trev {it l : Addr} {items : Array Value} (hne : l ≠ it) (hz : items.size ≤ sizeLine) :
    SelfIt prog w "reversed" it l items.size (fun i v => items[items.size - 1 - i]? = some v) (fun i h => i ≤ items.size ∧ RT.IsRt h it l ((items.size : Int) - 1 - (i : Nat)) ∧ IsTup h l items) where
  type := fun _ _ h => RT.IsRt.typeIs h.2.1
  there := fun _ _ h => ⟨let ⟨_, ho, _⟩ := h.2.1; Heap.lt_size ho, let ⟨_, ho, _⟩ := h.2.2; Heap.lt_size ho⟩
  notList := by decide
  notTuple := by decide
  hint := fun _ _ s _ st h => hint_trev (i := (items.size : Int) - 1 - ((0 : Nat) : Int)) st.2.1 st.2.2 hz (by omega) (by omega) h
  walk := fun A hh =>
    { sub := fun b hb => by simp at hb; simp [hb]
      frame := fun i h h' st hk => ⟨st.1, st.2.1.at fun o e => hk it (by simp) o e, tup_at st.2.2 fun o e => hk l (by simp) o e⟩
      item := fun i s Q E hi x hQ => by
        have e : (items.size : Int) - 1 - (i : Int) = ((items.size - 1 - i : Nat) : Int) := by omega
        have hit := x.2.1
        rw [e] at hit
        have hx : items[items.size - 1 - i]? = some (items[items.size - 1 - i]'(by omega)) := Array.getElem?_eq_getElem (by omega)
        refine RT.next_rt_item hit x.2.2 hx hz fun h' hit' hs' => ?_
        have e2 : ((items.size - 1 - i : Nat) : Int) - 1 = (items.size : Int) - 1 - ((i + 1 : Nat) : Int) := by omega
        rw [e2] at hit'
        exact hQ _ h' _ hx ⟨hi, hit', tup_at x.2.2 fun o eo => (hs'.2 l hne).trans eo⟩ fun b o hb eo => hs'.extBut b o (fun h => hb (by simp [h])) eo
      done := fun s Q E x hQ => by
        have e : (items.size : Int) - 1 - (items.size : Int) = -1 := by omega
        have hit := x.2.1
        rw [e] at hit
        exact RT.next_rt_end hh hit fun h' he' => hQ h' s.toks fun b o hb eo => he' b o (fun h => hb (by simp [h])) eo
      self := fun _ _ _ _ x hQ => RT.iter_rt x.2.1 hQ }
end

/-! ### T(reversed(x)), T list or tuple -/
/-- the new thing: a list or a tuple -/
def revOf (T : String) (xs : List V) : HO := if T = "list" then .lst xs.reverse else .tup xs.reverse
def tRevOf (K : PySem.W.Frag) (T : String) (te : TE) : TE := fun σ H Q => te σ H fun v H1 => ∃ (a : Addr) (xs : List V), v = .ref a ∧ (SqL K H1 a xs ∨ SqT K H1 a xs) ∧ ∀ q, H1 q = none → Q (.ref q) (upd H1 q (revOf T xs))
section
variable {X : Cx}
theorem vals_rev' {xs : List V} {its : List Value} {acc : Array Value} (r : Vals xs its) (h : ItemsOf (fun i v => its.toArray[its.toArray.size - 1 - i]? = some v) acc its.toArray.size) : Vals xs.reverse acc.toList := RT.vals_rev r h
theorem freed_get (h : Heap) (a : Addr) : (h.update a fun o => { o with data := .freed }).get? a = none := by
  cases e : (h.update a fun o => { o with data := .freed }).get? a with
  | none => rfl
  | some o =>
    obtain ⟨h1, h2⟩ := (Heap.get?_eq_some _ _ _).1 e
    rw [Heap.objs_update_self] at h1
    cases e2 : h.objs[a]? with
    | none => rw [e2] at h1; cases h1
    | some o2 => rw [e2] at h1; cases h1; cases h2
theorem pe_revOf {T : String} {e : Expr} {te : TE} {p p2 pos pos2 : Pos} (hT : T = "list" ∨ T = "tuple") (hc : X.calm = true) (hg : Gl X T) (hm : X.mg T = none) (hb : bootBuiltins T = some (.type T)) (hg2 : Gl X "reversed") (hm2 : X.mg "reversed" = none) (he : PE X e te)
    (hs : starEach [e] X.env = (false, eval e X.env) :: starEach [] X.env := by rfl)
    (hs2 : starEach [.Call (.Name "reversed" p2) [e] [] pos2] X.env = (false, eval (.Call (.Name "reversed" p2) [e] [] pos2) X.env) :: starEach [] X.env := by rfl) :
    PE X (.Call (.Name T p) [.Call (.Name "reversed" p2) [e] [] pos2] [] pos) (tRevOf X.K T te) := by
  refine ⟨fun pins s σ H Q I h => ?_⟩
  refine Call_ (ld_blt (hn := by rcases hT with rfl | rfl <;> decide) (hd := by rcases hT with rfl | rfl <;> decide) I hg hm hb (PyProof.Rows.callWith_type1 (args_cons (Call_ (ld_blt I hg2 hm2 PyProof.Rows.boot_reversed (PyProof.Rows.callWith_type1 (args_cons (thn (he.run pins s σ H _ I h) fun u s1 ⟨v, H1, I1, r1, q1⟩ => args_nil ?_) hs) hs rfl))) hs2) hs2 (by rcases hT with rfl | rfl <;> rfl)))
  obtain ⟨a, xs, ev, hq, q⟩ := q1
  subst ev
  obtain rfl : u = Value.ref a := r1
  -- what stands behind the iterator
  obtain ⟨f0, f1, f2, f3, f4, f5⟩ := I1.fpOk (H' := H1) (b := s1.heap.objs.size) (Nat.le_refl _) (I1.hok.fresh (Nat.le_refl _))
  have mk : ∀ {its : List Value} {s2 : Shared} {Ty : String} {St : Nat → Heap → Prop}, Vals xs its → xs.length ≤ sizeLine → Inv X pins σ H1 s2 → 
      SelfIt X.prog X.w Ty s1.heap.objs.size a its.toArray.size (fun i v => its.toArray[its.toArray.size - 1 - i]? = some v) St → St 0 s2.heap →
      wpAny (model X.prog X.w) X.A (call (.type T) [.ref s1.heap.objs.size]) (EP X pins σ Q) X.xe s2 := by
    intro its s2 Ty St rv hz I2 K st
    have hn : its.toArray.size ≤ sizeLine := by rw [List.size_toArray, ← rv.length]; exact hz
    rcases hT with rfl | rfl
    · refine si_call K (I2.ok.hd hc) st hn fun h' tk acc c' hk hS hi => ?_
      let hm := s2.heap.update s1.heap.objs.size fun o => { o with data := .freed }
      have hg : hm.get? s1.heap.objs.size = none := freed_get _ _
      have ho : ∀ b, b ≠ s1.heap.objs.size → hm.get? b = s2.heap.get? b := fun b hb => Heap.get?_update_other _ _ (Ne.symm hb)
      have I3 : Inv X pins σ H1 { s2 with heap := hm, toks := s2.toks } := I2.turned (t' := s2.toks) (fun b o hb e => (ho b hb).trans e) f0 f1 f3 f4 f5
      have hsz : hm.objs.size = s2.heap.objs.size := Heap.size_update ..
      refine ⟨.ref s2.heap.objs.size, upd H1 s2.heap.objs.size (.lst xs.reverse), I3.laid (t' := tk) (a := s2.heap.objs.size) (fun b o e => ?_) (Nat.le_of_eq hsz) (show ObjOk X.prog X.w _ _ _ (.lst xs.reverse) from ⟨by rw [List.length_reverse]; exact hz, acc.toList, c', RT.vals_rev rv hi, ?_⟩), rfl, q _ (I2.hok.fresh (Nat.le_refl _))⟩
      · by_cases hb : b = s1.heap.objs.size
        · rw [hb, hg] at e
          cases e
        · exact hk b o hb (by rw [← ho b hb]; exact e)
      · rw [Array.toArray_toList]
        exact hS
    · refine si_tuple K (I2.ok.hd hc) st hn fun h' tk acc hk hi => ?_
      have I3 : Inv X pins σ H1 { s2 with heap := h', toks := tk } := I2.turned (t' := tk) (fun b o hb e => hk b o hb e) f0 f1 f3 f4 f5
      refine ⟨.ref h'.objs.size, upd H1 h'.objs.size (.tup xs.reverse), I3.laid (t' := tk) (fun c o e => Heap.get?_push_of_some _ e) (Nat.le_refl _) (show ObjOk X.prog X.w _ _ _ (.tup xs.reverse) from ⟨by rw [List.length_reverse]; exact hz, acc.toList, RT.vals_rev rv hi, ?_⟩), rfl, q _ (I3.hok.fresh (Nat.le_refl _))⟩
      rw [Array.toArray_toList]
      exact IsTup.new _ _
  rcases hq with hq | hq
  · obtain ⟨its, rv, p', hz⟩ := I1.list hq
    have hl := p'.isList
    obtain ⟨ol, hol, _⟩ := id hl
    have hne : a ≠ s1.heap.objs.size := Nat.ne_of_lt (Heap.lt_size hol)
    refine call_reversed_list hl (args_nil ?_)
    refine mk (s2 := { s1 with heap := s1.heap.push (revObj a ((its.toArray.size : Int) - 1)) }) rv hz (I1.kept (t' := s1.toks) fun b o e => Heap.get?_push_of_some _ e) (si_lrev hne) ⟨Nat.zero_le _, ?_, hl.push _⟩
    have e1 : ((its.toArray.size : Nat) : Int) - 1 - ((0 : Nat) : Int) = (its.toArray.size : Int) - 1 := by omega
    rw [e1]
    exact ⟨_, Heap.get?_push_size _ rfl, rfl, rfl⟩
  · obtain ⟨its, rv, p', hz⟩ := I1.tuple hq
    have hl : IsTup s1.heap a its.toArray := p'
    obtain ⟨ol, hol, _⟩ := id hl
    have hne : a ≠ s1.heap.objs.size := Nat.ne_of_lt (Heap.lt_size hol)
    have hn : its.toArray.size ≤ sizeLine := by rw [List.size_toArray, ← rv.length]; exact hz
    refine RT.call_reversed_tup hl (fun A E Q k => len_tuple hl (fit63 hn) k) (args_nil ?_)
    refine mk (s2 := { s1 with heap := s1.heap.push (RT.rtObj a ((its.toArray.size : Int) - 1)), toks := s1.toks + 1 + 1 }) rv hz (I1.kept (t' := s1.toks + 1 + 1) fun b o e => Heap.get?_push_of_some _ e) (si_trev hne hn) ⟨Nat.zero_le _, ?_, hl.push _⟩
    have e1 : ((its.toArray.size : Nat) : Int) - 1 - ((0 : Nat) : Int) = (its.toArray.size : Int) - 1 := by omega
    rw [e1]
    exact ⟨_, Heap.get?_push_size _ rfl, rfl, rfl⟩
end
section
variable {K : PySem.W.Frag} {w w' w1 w2 : Wd} {w0 : W0} {σ : L2.St} {env env' env1 : List Sl}
theorem Reps.rev {w : Wd} : ∀ {vs : List V} {ds : List D}, Reps K w vs ds → Reps K w vs.reverse ds.reverse
  | [], _, r => by cases r; exact .nil
  | _ :: _, _, r => by
    cases r with
    | cons a b => rw [List.reverse_cons, List.reverse_cons]; exact b.rev.append (.cons a .nil)
def revR (T : String) (ds : List D) : R := if T = "list" then .own (.lst ds.reverse) else .val (.tup ds.reverse)
def o_rev (T : String) : D → Option R
  | .lst ds => some (revR T ds)
  | .tup ds => some (revR T ds)
  | _ => none
theorem out_rev {T : String} {z : R} {xs : List V} {ds : List D} {p : Addr} {Q : VK} (g : Good w) (hp : w.H p = none) (r : Reps K w xs ds) (e : some (revR T ds) = some z) (q : ∀ v w', PStep w w' → Good w' → RepZ K w w' v z → Q v w'.H) : Q (.ref p) (upd w.H p (revOf T xs)) := by
  unfold revR at e
  unfold revOf
  split at e
  · rename_i h; rw [if_pos h]; exact outL g hp r.rev e q
  · rename_i h; rw [if_neg h]; exact outT g hp r.rev e q
theorem rev_at {T : String} {a : V} {d : D} {z : R} {Q : VK} (g : Good w) (r : Rep K w a d) (h : o_rev T d = some z) (q : ∀ v w', PStep w w' → Good w' → RepZ K w w' v z → Q v w'.H) :
    ∃ (p : Addr) (xs : List V), a = .ref p ∧ (SqL K w.H p xs ∨ SqT K w.H p xs) ∧ ∀ b, w.H b = none → Q (.ref b) (upd w.H b (revOf T xs)) := by
  cases r with
  | fn _ => first | cases h | cases hh | cases h3
  | lst l r => exact ⟨_, _, rfl, .inl l.sq, fun p hp => out_rev g hp r h q⟩
  | tup l r => exact ⟨_, _, rfl, .inr l.sq, fun p hp => out_rev g hp r h q⟩
  | str _ => cases h
  | non => cases h
  | bl _ => cases h
  | int _ => cases h
def e_rev (T : String) (f : Ex) : Ex := e1 (o_rev T) f
theorem em_rev {T : String} {te : TE} {f : Ex} (hf : EM K te f) : EM K (tRevOf K T te) (e_rev T f) := by
  intro w0 w σ env e z env' h Q q
  obtain ⟨⟨x, e1⟩, h1, h⟩ := Option.bind_eq_some_iff.mp h
  obtain ⟨z', h3, h⟩ := Option.bind_eq_some_iff.mp h
  cases h
  refine hf.v w0 w σ env e x _ h1 _ fun v w1 E1 s1 r1 => ?_
  exact rev_at E1.good r1 h3 fun t w3 s3 g3 r3 => q t w3 (E1.grow s3 g3) (s1.trans s3.step) (r3.r E1)
/-- of an owned one -/
def e_revo (T : String) (i : Nat) : Ex := fun env => match owOf env[i]? with
  | some o => (o_rev T o.d).bind fun z => if z.lf = true then some (z, env) else none
  | none => none
theorem em_revo {T : String} {i : Nat} : EM K (tRevOf K T (tVar i)) (e_revo T i) := by
  intro w0 w σ env e z env' h Q q
  unfold e_revo at h
  split at h
  · rename_i o hoo
    obtain ⟨z', h2, h⟩ := Option.bind_eq_some_iff.mp h
    split at h
    · rename_i hl
      cases h
      obtain ⟨a, ha, hO⟩ := e.ow hoo
      refine ⟨_, ha, ?_⟩
      refine own_read e hO ha (P := fun H Q => ∃ (p : Addr) (xs : List V), V.ref a = .ref p ∧ (SqL K H p xs ∨ SqT K H p xs) ∧ ∀ b, H b = none → Q (.ref b) (upd H b (revOf T xs))) hl (fun Q' q' => ?_) q
      exact rev_at (w := w.frz a) (Wd.frz_good e.good a) (hO.1.frz e.good hO.2) h2 q'
    · cases h
  · cases h
/-- for x in reversed(xs) -/
theorem itok_rev {a : Addr} {ds : List D} (g : Good w) (r : Rep K w (.ref a) (.lst ds)) : ItOk K w (Itv K a ds.length) ds.reverse := by
  intro i w2 g2 s
  have r2 := r.go g s
  cases r2 with
  | lst l rs =>
    refine ⟨fun d hd => ?_, fun h => by show ds.length ≤ i; simpa using h⟩
    have hi : i < ds.length := by have := List.getElem?_eq_some_iff.mp hd |>.1; simpa using this
    rw [List.getElem?_reverse hi] at hd
    obtain ⟨x, hx, rx⟩ := rs.get hd
    refine ⟨⟨hi, _, x, l.sq, hx⟩, fun y H' hy => ?_⟩
    obtain ⟨rfl, hy⟩ := hy
    have : y = x := Option.some.inj ((hy _ l.sq).symm.trans hx)
    subst this
    exact ⟨w2, rfl, .refl w2, g2, rx⟩
theorem itok_revT {a : Addr} {ds : List D} (g : Good w) (r : Rep K w (.ref a) (.tup ds)) : ItOk K w (RT.ItvT K a ds.length) ds.reverse := by
  intro i w2 g2 s
  have r2 := r.go g s
  cases r2 with
  | tup l rs =>
    refine ⟨fun d hd => ?_, fun h => by show ds.length ≤ i; simpa using h⟩
    have hi : i < ds.length := by have := List.getElem?_eq_some_iff.mp hd |>.1; simpa using this
    rw [List.getElem?_reverse hi] at hd
    obtain ⟨x, hx, rx⟩ := rs.get hd
    refine ⟨⟨hi, _, x, l.sq, hx⟩, fun y H' hy => ?_⟩
    obtain ⟨rfl, hy⟩ := hy
    have : y = x := Option.some.inj ((hy _ l.sq).symm.trans hx)
    subst this
    exact ⟨w2, rfl, .refl w2, g2, rx⟩
def s_rev (f : Ex) : Src := fun env => (vf f env).bind fun p => match p.1 with
  | .lst ds => some (ds.reverse, p.2)
  | .tup ds => some (ds.reverse, p.2)
  | _ => none
theorem im_rev {te : TE} {f : Ex} (hf : EM K te f) : IM K (RT.iRevA K te) (s_rev f) := by
  intro w0 w σ env e ds env' h Q q
  obtain ⟨⟨x, e1⟩, h1, h⟩ := Option.bind_eq_some_iff.mp h
  refine hf.v w0 w σ env e x e1 h1 _ fun v w1 E1 s1 r1 => ?_
  have r1' := r1
  cases r1 with
  | fn _ => first | cases h | cases hh | cases h3
  | lst l r => cases h; exact ⟨_, _, rfl, .inl ⟨l.sq, by rw [r.length]; exact q _ w1 E1 s1 (itok_rev E1.good r1')⟩⟩
  | tup l r => cases h; exact ⟨_, _, rfl, .inr ⟨l.sq, by rw [r.length]; exact q _ w1 E1 s1 (itok_revT E1.good r1')⟩⟩
  | non => cases h
  | bl _ => cases h
  | int _ => cases h
  | str _ => cases h
end
section
variable {X : Cx} {pos : Pos} {e : Expr} {f : Ex}
theorem x_revl {p p2 pos2 : Pos} (hc : X.calm = true) (hm : X.mg "list" = none) (hm2 : X.mg "reversed" = none) (he : XE X e f) (hg : Gl X "list" := by rfl) (hg2 : Gl X "reversed" := by rfl)
    (hs : starEach [e] X.env = (false, eval e X.env) :: starEach [] X.env := by rfl)
    (hs2 : starEach [.Call (.Name "reversed" p2) [e] [] pos2] X.env = (false, eval (.Call (.Name "reversed" p2) [e] [] pos2) X.env) :: starEach [] X.env := by rfl) :
    XE X (.Call (.Name "list" p) [.Call (.Name "reversed" p2) [e] [] pos2] [] pos) (e_rev "list" f) := let ⟨_, p, q⟩ := he; ⟨_, pe_revOf (.inl rfl) hc hg hm (by decide +kernel) hg2 hm2 p hs hs2, em_rev q⟩
theorem x_revt {p p2 pos2 : Pos} (hc : X.calm = true) (hm : X.mg "tuple" = none) (hm2 : X.mg "reversed" = none) (he : XE X e f) (hg : Gl X "tuple" := by rfl) (hg2 : Gl X "reversed" := by rfl)
    (hs : starEach [e] X.env = (false, eval e X.env) :: starEach [] X.env := by rfl)
    (hs2 : starEach [.Call (.Name "reversed" p2) [e] [] pos2] X.env = (false, eval (.Call (.Name "reversed" p2) [e] [] pos2) X.env) :: starEach [] X.env := by rfl) :
    XE X (.Call (.Name "tuple" p) [.Call (.Name "reversed" p2) [e] [] pos2] [] pos) (e_rev "tuple" f) := let ⟨_, p, q⟩ := he; ⟨_, pe_revOf (.inr rfl) hc hg hm (by decide +kernel) hg2 hm2 p hs hs2, em_rev q⟩
theorem x_revlo (i : Nat) {y : Str} {p p2 p3 pos2 : Pos} (hc : X.calm = true) (hm : X.mg "list" = none) (hm2 : X.mg "reversed" = none) (hg : Gl X "list" := by rfl) (hg2 : Gl X "reversed" := by rfl)
    (hs : starEach [.Name y p3] X.env = (false, eval (.Name y p3) X.env) :: starEach [] X.env := by rfl)
    (hs2 : starEach [.Call (.Name "reversed" p2) [.Name y p3] [] pos2] X.env = (false, eval (.Call (.Name "reversed" p2) [.Name y p3] [] pos2) X.env) :: starEach [] X.env := by rfl)
    (hN : X.N[i]? = some y := by rfl) (hv : Vis X.env.scope y := by first | exact Or.inl rfl | exact Or.inr (Or.inl rfl) | exact Or.inr (Or.inr rfl)) (hd : (y == ("__debug__" : Str)) = false := by decide)
    (hcd : (y == ("__classdict__" : Str)) = false := by decide) :
    XE X (.Call (.Name "list" p) [.Call (.Name "reversed" p2) [.Name y p3] [] pos2] [] pos) (e_revo "list" i) := ⟨_, pe_revOf (.inl rfl) hc hg hm (by decide +kernel) hg2 hm2 (pe_var hN hv hd hcd) hs hs2, em_revo⟩
theorem x_revto (i : Nat) {y : Str} {p p2 p3 pos2 : Pos} (hc : X.calm = true) (hm : X.mg "tuple" = none) (hm2 : X.mg "reversed" = none) (hg : Gl X "tuple" := by rfl) (hg2 : Gl X "reversed" := by rfl)
    (hs : starEach [.Name y p3] X.env = (false, eval (.Name y p3) X.env) :: starEach [] X.env := by rfl)
    (hs2 : starEach [.Call (.Name "reversed" p2) [.Name y p3] [] pos2] X.env = (false, eval (.Call (.Name "reversed" p2) [.Name y p3] [] pos2) X.env) :: starEach [] X.env := by rfl)
    (hN : X.N[i]? = some y := by rfl) (hv : Vis X.env.scope y := by first | exact Or.inl rfl | exact Or.inr (Or.inl rfl) | exact Or.inr (Or.inr rfl)) (hd : (y == ("__debug__" : Str)) = false := by decide)
    (hcd : (y == ("__classdict__" : Str)) = false := by decide) :
    XE X (.Call (.Name "tuple" p) [.Call (.Name "reversed" p2) [.Name y p3] [] pos2] [] pos) (e_revo "tuple" i) := ⟨_, pe_revOf (.inr rfl) hc hg hm (by decide +kernel) hg2 hm2 (pe_var hN hv hd hcd) hs hs2, em_revo⟩
theorem xi_rev {tg : Expr} {p : Pos} (hm : X.mg "reversed" = none) (ha : XE X e f) (hg : Gl X "reversed" := by rfl) (hs : starEach [e] X.env = (false, eval e X.env) :: starEach [] X.env := by rfl) : XI X tg (.Call (.Name "reversed" p) [e] [] pos) (s_rev f) := let ⟨_, p, q⟩ := ha; ⟨_, RT.pi_revA hg hm p hs, im_rev q⟩
end
/-! ### in a list or a tuple -/
theorem in_room {k : Nat} {A : Around} (r : Room k A) : A.units + 65 < cLine := by have := r.un; omega
section
variable {X : Cx} {K : PySem.W.Frag}
def rInX (K : PySem.W.Frag) (neg : Bool) : R2 := fun x y H Q => ∃ d ds, Dp K H x d ∧ (Dp K H y (.list ds) ∨ Dp K H y (.tuple ds)) ∧ SeqAt.shaped d = true ∧ SeqAt.shaped (.list ds) = true ∧ Q (.bl (if neg then !(ds.any fun z => PyData.eqv z d) else ds.any fun z => PyData.eqv z d)) H
theorem op_inX (hu : X.A.units + 65 < cLine) : OpR X (compareOp .In) (rInX X.K false) := by
  intro pins s σ H x y v u Q I rx ry h
  obtain ⟨d, ds, hd, he, sd, se, q⟩ := h
  obtain ⟨as, r1⟩ := Dp.reads I d x v hd rx
  rcases he with he | he
  · obtain ⟨bs, r2⟩ := Dp.reads I (.list ds) y u he ry
    exact SeqAt.in_list_reads r2 r1 (SeqAt.canLay_of_shaped se) (SeqAt.canLay_of_shaped sd) (room_in_shaped sd hu) ⟨.bl _, H, I, rfl, q⟩
  · obtain ⟨bs, r2⟩ := Dp.reads I (.tuple ds) y u he ry
    exact SeqAt.in_tuple_reads r2 r1 (SeqAt.canLay_of_shaped se) (SeqAt.canLay_of_shaped sd) (room_in_shaped sd hu) ⟨.bl _, H, I, rfl, q⟩
theorem op_notinX (hu : X.A.units + 65 < cLine) : OpR X (compareOp .NotIn) (rInX X.K true) := by
  intro pins s σ H x y v u Q I rx ry h
  obtain ⟨d, ds, hd, he, sd, se, q⟩ := h
  obtain ⟨as, r1⟩ := Dp.reads I d x v hd rx
  rcases he with he | he
  · obtain ⟨bs, r2⟩ := Dp.reads I (.list ds) y u he ry
    exact SeqAt.notIn_list_reads r2 r1 (SeqAt.canLay_of_shaped se) (SeqAt.canLay_of_shaped sd) (room_in_shaped sd hu) ⟨.bl _, H, I, rfl, q⟩
  · obtain ⟨bs, r2⟩ := Dp.reads I (.tuple ds) y u he ry
    exact SeqAt.notIn_tuple_reads r2 r1 (SeqAt.canLay_of_shaped se) (SeqAt.canLay_of_shaped sd) (room_in_shaped sd hu) ⟨.bl _, H, I, rfl, q⟩
/-- the items -/
def D.its : D → Option (List D)
  | .lst ds => some ds
  | .tup ds => some ds
  | _ => none
def o_inX (neg : Bool) (a b : D) : Option R := match b.its with
  | some ds => if a.ok = true ∧ (D.lst ds).ok = true then some (.val (.bl (if neg then !(ds.any fun z => z.eqv a) else ds.any fun z => z.eqv a))) else none
  | none => none
theorem opm_inX {neg : Bool} : OpM K (rInX K neg) (o_inX neg) := by
  intro w g x y a b ra rb z h Q q
  cases rb with
  | fn _ => first | cases h | cases hh | cases h3
  | lst l r =>
    simp only [o_inX, D.its] at h
    split at h
    · rename_i hc
      refine ⟨_, _, ra.dp (ok_nf hc.1), .inl ((Rep.lst l r).dp (ok_nf hc.2)), ok_sh hc.1, ok_sh hc.2, ?_⟩
      have e := pys_any a.py
      rw [e]
      exact out0 g (.bl _) h q
    · cases h
  | tup l r =>
    simp only [o_inX, D.its] at h
    split at h
    · rename_i hc
      refine ⟨_, _, ra.dp (ok_nf hc.1), .inr ((Rep.tup l r).dp (show D.nf (.tup _) = true from ok_nf hc.2)), ok_sh hc.1, ok_sh hc.2, ?_⟩
      have e := pys_any a.py
      rw [e]
      exact out0 g (.bl _) h q
    · cases h
  | non => cases h
  | bl _ => cases h
  | int _ => cases h
  | str _ => cases h
end
end Vz
set_option maxRecDepth 100000
set_option maxHeartbeats 1000000
/-! Vz9c: order of data; sorted, max, min over it. -/
namespace PySem
section
variable {prog : Program} {w : World} {A : Around} {E : Value → Shared → Prop} {s : Shared}
/-- max(a, b), the two compared where H stands -/
theorem call_max_twoH {a b : Value} {Q : Value → Shared → Prop}
    (h : wpAny (model prog w) A.in1 (pyIter (.ref s.heap.objs.size)) (fun it s₂ => ∃ I fp wr G n P St H bt, it = .ref I ∧ WalksS prog w A.in1 I fp wr G n P St ∧ St 0 s₂ ∧ (∀ b ∈ fp, b < s₂.heap.objs.size) ∧ 0 < n ∧
      (∀ b o, H.get? b = some o → b ∉ wr) ∧ (∀ b o, H.get? b = some o → s₂.heap.get? b = some o) ∧ CmpIn prog w A.in1 .Gt H P bt ∧ ∀ v s', P (argBest bt (n - 1)) v → Moved wr G s₂ s' → Q v s') E
      { s with heap := s.heap.push { cls := .type "tuple", data := .seq #[a, b] } }) :
    wpAny (model prog w) A (call (.builtin "max") [a, b]) Q E s := by
  have hname : (toString "max" ++ toString ".loop" : String) = "max.loop" := by decide
  refine call_function_tree F.kind_max F.plain_max F.entry_max (F.args_max2 _ _) ?_
  show wpAny _ A.in1 (Builtin.Builtins.bindParams "max" ["key", "default"] 0 ⟨[], []⟩ >>= _) _ _ s
  refine wpAny_bind (wpAny_of_eq (show Builtin.Builtins.bindParams "max" ["key", "default"] 0 ⟨[], []⟩ = pure [none, none] from rfl) ?_)
  show wpAny _ A.in1 (newTuple [a, b] >>= _) _ _ s
  refine wpAny_bind (wpAny_newObj_type ?_)
  refine wpAny_bind (wpAny_mono h (fun it s₂ h₂ => ?_) fun _ _ e => e)
  obtain ⟨I, fp, wr, G, n, P, St, H, bt, rfl, W, hst, hfp, hn, hw, hkeep, hcmp, hQ⟩ := h₂
  refine wpAny_bind (wpAny_newObj_type ?_)
  have hSf : s₂.heap.objs.size ∉ fp := fun hm => Nat.lt_irrefl _ (hfp _ hm)
  rw [hname]
  refine wpAny_pure ⟨plainId_quiet F.plain_max_loop _, codeAny_max_loop_firstH W H hw bt hcmp s₂.heap.objs.size hSf (fresh_in hkeep) _ hn (fun b o e => Heap.get?_push_of_some _ (hkeep b o e)) (W.frame 0 s₂ _ s₂.toks hst (Nat.le_refl _) fun b _ o e => Heap.get?_push_of_some _ e) (Heap.get?_push_size _ rfl) fun v s' hP hm => ?_⟩
  exact hQ v s' hP (Moved.drop_new (tk := s₂.toks) hm (Nat.le_refl _))
theorem call_min_twoH {a b : Value} {Q : Value → Shared → Prop}
    (h : wpAny (model prog w) A.in1 (pyIter (.ref s.heap.objs.size)) (fun it s₂ => ∃ I fp wr G n P St H bt, it = .ref I ∧ WalksS prog w A.in1 I fp wr G n P St ∧ St 0 s₂ ∧ (∀ b ∈ fp, b < s₂.heap.objs.size) ∧ 0 < n ∧
      (∀ b o, H.get? b = some o → b ∉ wr) ∧ (∀ b o, H.get? b = some o → s₂.heap.get? b = some o) ∧ CmpIn prog w A.in1 .Lt H P bt ∧ ∀ v s', P (argBest bt (n - 1)) v → Moved wr G s₂ s' → Q v s') E
      { s with heap := s.heap.push { cls := .type "tuple", data := .seq #[a, b] } }) :
    wpAny (model prog w) A (call (.builtin "min") [a, b]) Q E s := by
  have hname : (toString "min" ++ toString ".loop" : String) = "min.loop" := by decide
  refine call_function_tree F.kind_min F.plain_min F.entry_min (F.args_min2 _ _) ?_
  show wpAny _ A.in1 (Builtin.Builtins.bindParams "min" ["key", "default"] 0 ⟨[], []⟩ >>= _) _ _ s
  refine wpAny_bind (wpAny_of_eq (show Builtin.Builtins.bindParams "min" ["key", "default"] 0 ⟨[], []⟩ = pure [none, none] from rfl) ?_)
  show wpAny _ A.in1 (newTuple [a, b] >>= _) _ _ s
  refine wpAny_bind (wpAny_newObj_type ?_)
  refine wpAny_bind (wpAny_mono h (fun it s₂ h₂ => ?_) fun _ _ e => e)
  obtain ⟨I, fp, wr, G, n, P, St, H, bt, rfl, W, hst, hfp, hn, hw, hkeep, hcmp, hQ⟩ := h₂
  refine wpAny_bind (wpAny_newObj_type ?_)
  have hSf : s₂.heap.objs.size ∉ fp := fun hm => Nat.lt_irrefl _ (hfp _ hm)
  rw [hname]
  refine wpAny_pure ⟨plainId_quiet F.plain_min_loop _, codeAny_min_loop_firstH W H hw bt hcmp s₂.heap.objs.size hSf (fresh_in hkeep) _ hn (fun b o e => Heap.get?_push_of_some _ (hkeep b o e)) (W.frame 0 s₂ _ s₂.toks hst (Nat.le_refl _) fun b _ o e => Heap.get?_push_of_some _ e) (Heap.get?_push_size _ rfl) fun v s' hP hm => ?_⟩
  exact hQ v s' hP (Moved.drop_new (tk := s₂.toks) hm (Nat.le_refl _))
end
end PySem
namespace PySem.W
section
variable {prog : Program} {w : World} {A : Around} {E : Value → Shared → Prop} {s : Shared}
/-- max(a, b) of alike data: the second one where it is greater -/
theorem max_two_data {a b : Value} {da db : PyData} {as bs : List Addr} {Q : Value → Shared → Prop} (hh : A.handled = none) (ra : Reads s.heap a da as) (rb : Reads s.heap b db bs) (h1 : PySem.W.alike da db = true) (h2 : PySem.W.alike da da = true) (h3 : PySem.W.alike db db = true) (n1 : da ≠ .none) (n2 : db ≠ .none)
    (hu : A.units + 1 + PyData.depthAll [da, db] < cLine) (h : ∀ h' tk, (∀ c o, s.heap.get? c = some o → h'.get? c = some o) → Q (if PySem.W.dataLt da db = true then b else a) { s with heap := h', toks := tk }) :
    wpAny (model prog w) A (call (.builtin "max") [a, b]) Q E s := by
  have hT : (s.heap.push { cls := .type "tuple", data := .seq #[a, b] }).IsTuple s.heap.objs.size #[a, b] := ⟨_, Heap.get?_push_size _ rfl, rfl, 0, rfl⟩
  have hr : ReadsAll (s.heap.push { cls := .type "tuple", data := .seq #[a, b] }) (#[a, b] : Array Value).toList [da, db] (as ++ (bs ++ [])) :=
    .cons (reads_keeps (fun c o e => Heap.get?_push_of_some _ e) ra) (.cons (reads_keeps (fun c o e => Heap.get?_push_of_some _ e) rb) .nil)
  have hal : AlikeAll [da, db] := by
    refine ⟨fun x hx y hy => ?_, fun x hx => ?_⟩
    · rcases List.mem_cons.mp hx with rfl | hx
      · rcases List.mem_cons.mp hy with rfl | hy
        · exact h2
        · rw [List.mem_singleton.mp hy]; exact h1
      · rw [List.mem_singleton.mp hx]
        rcases List.mem_cons.mp hy with rfl | hy
        · rw [PySem.W.alike_comm]; exact h1
        · rw [List.mem_singleton.mp hy]; exact h3
    · rcases List.mem_cons.mp hx with rfl | hx
      · exact n1
      · rw [List.mem_singleton.mp hx]; exact n2
  refine call_max_twoH (iter_tupleW (A := A.in1) hh hT fun s₂ e W st hfp hw hk => ?_)
  refine ⟨_, _, _, _, _, _, _, _, _, rfl, W, st, hfp, Nat.zero_lt_succ 1, hw, hk, cmpIn_gt (A := A.in1) (s := { s with heap := s.heap.push { cls := .type "tuple", data := .seq #[a, b] } }) hr hal (by show A.units + 1 + _ < _; exact hu), fun v s' hP m => ?_⟩
  obtain ⟨h', tk, rfl, hk'⟩ := moved_old e rfl m
  have hv : v = if PySem.W.dataLt da db = true then b else a := by
    have hP' : (#[a, b] : Array Value)[argBest (fun i j => PySem.W.dataLt ([da, db].getD j .none) ([da, db].getD i .none)) 1]? = some v := hP
    by_cases hlt : PySem.W.dataLt da db = true
    · have e : argBest (fun i j => PySem.W.dataLt ([da, db].getD j .none) ([da, db].getD i .none)) 1 = 1 := by simp [argBest, hlt]
      rw [e] at hP'
      rw [if_pos hlt]
      simpa using hP'.symm
    · have e : argBest (fun i j => PySem.W.dataLt ([da, db].getD j .none) ([da, db].getD i .none)) 1 = 0 := by simp [argBest, hlt]
      rw [e] at hP'
      rw [if_neg hlt]
      simpa using hP'.symm
  rw [hv]
  exact h h' tk fun c o e => hk' c o (Heap.get?_push_of_some _ e)
theorem min_two_data {a b : Value} {da db : PyData} {as bs : List Addr} {Q : Value → Shared → Prop} (hh : A.handled = none) (ra : Reads s.heap a da as) (rb : Reads s.heap b db bs) (h1 : PySem.W.alike da db = true) (h2 : PySem.W.alike da da = true) (h3 : PySem.W.alike db db = true) (n1 : da ≠ .none) (n2 : db ≠ .none)
    (hu : A.units + 1 + PyData.depthAll [da, db] < cLine) (h : ∀ h' tk, (∀ c o, s.heap.get? c = some o → h'.get? c = some o) → Q (if PySem.W.dataLt db da = true then b else a) { s with heap := h', toks := tk }) :
    wpAny (model prog w) A (call (.builtin "min") [a, b]) Q E s := by
  have hT : (s.heap.push { cls := .type "tuple", data := .seq #[a, b] }).IsTuple s.heap.objs.size #[a, b] := ⟨_, Heap.get?_push_size _ rfl, rfl, 0, rfl⟩
  have hr : ReadsAll (s.heap.push { cls := .type "tuple", data := .seq #[a, b] }) (#[a, b] : Array Value).toList [da, db] (as ++ (bs ++ [])) :=
    .cons (reads_keeps (fun c o e => Heap.get?_push_of_some _ e) ra) (.cons (reads_keeps (fun c o e => Heap.get?_push_of_some _ e) rb) .nil)
  have hal : AlikeAll [da, db] := by
    refine ⟨fun x hx y hy => ?_, fun x hx => ?_⟩
    · rcases List.mem_cons.mp hx with rfl | hx
      · rcases List.mem_cons.mp hy with rfl | hy
        · exact h2
        · rw [List.mem_singleton.mp hy]; exact h1
      · rw [List.mem_singleton.mp hx]
        rcases List.mem_cons.mp hy with rfl | hy
        · rw [PySem.W.alike_comm]; exact h1
        · rw [List.mem_singleton.mp hy]; exact h3
    · rcases List.mem_cons.mp hx with rfl | hx
      · exact n1
      · rw [List.mem_singleton.mp hx]; exact n2
  refine call_min_twoH (iter_tupleW (A := A.in1) hh hT fun s₂ e W st hfp hw hk => ?_)
  refine ⟨_, _, _, _, _, _, _, _, _, rfl, W, st, hfp, Nat.zero_lt_succ 1, hw, hk, cmpIn_lt (A := A.in1) (s := { s with heap := s.heap.push { cls := .type "tuple", data := .seq #[a, b] } }) hr hal (by show A.units + 1 + _ < _; exact hu), fun v s' hP m => ?_⟩
  obtain ⟨h', tk, rfl, hk'⟩ := moved_old e rfl m
  have hv : v = if PySem.W.dataLt db da = true then b else a := by
    have hP' : (#[a, b] : Array Value)[argBest (fun i j => PySem.W.dataLt ([da, db].getD i .none) ([da, db].getD j .none)) 1]? = some v := hP
    by_cases hlt : PySem.W.dataLt db da = true
    · have e : argBest (fun i j => PySem.W.dataLt ([da, db].getD i .none) ([da, db].getD j .none)) 1 = 1 := by simp [argBest, hlt]
      rw [e] at hP'
      rw [if_pos hlt]
      simpa using hP'.symm
    · have e : argBest (fun i j => PySem.W.dataLt ([da, db].getD i .none) ([da, db].getD j .none)) 1 = 0 := by simp [argBest, hlt]
      rw [e] at hP'
      rw [if_neg hlt]
      simpa using hP'.symm
  rw [hv]
  exact h h' tk fun c o e => hk' c o (Heap.get?_push_of_some _ e)
end
end PySem.W
namespace Vz
open PySem PySem.Spec PyProof.Rows L2
variable [FnTab]
section
variable {X : Cx} {K : PySem.W.Frag} {w : Wd}
/-! ### order of data -/
def rOrd (K : PySem.W.Frag) (f : PyData → PyData → Bool) : R2 := fun x y H Q => ∃ d e, Dp K H x d ∧ Dp K H y e ∧ PySem.W.alike d e = true ∧ d ≠ .none ∧ d.depth ≤ 64 ∧ Q (.bl (f d e)) H
theorem op_ltD (hu : X.A.units + 65 < cLine) : OpR X (compareOp .Lt) (rOrd X.K PySem.W.dataLt) := by
  intro pins s σ H x y v u Q I rx ry h
  obtain ⟨d, e, hd, he, ha, hn, hl, q⟩ := h
  obtain ⟨as, r1⟩ := Dp.reads I d x v hd rx
  obtain ⟨bs, r2⟩ := Dp.reads I e y u he ry
  exact PySem.W.lt_data r1 r2 ha hn (by have := Nat.min_le_left d.depth e.depth; omega) ⟨.bl _, H, I, rfl, q⟩
theorem op_gtD (hu : X.A.units + 65 < cLine) : OpR X (compareOp .Gt) (rOrd X.K fun d e => PySem.W.dataLt e d) := by
  intro pins s σ H x y v u Q I rx ry h
  obtain ⟨d, e, hd, he, ha, hn, hl, q⟩ := h
  obtain ⟨as, r1⟩ := Dp.reads I d x v hd rx
  obtain ⟨bs, r2⟩ := Dp.reads I e y u he ry
  exact PySem.W.gt_data r1 r2 ha hn (by have := Nat.min_le_left d.depth e.depth; omega) ⟨.bl _, H, I, rfl, q⟩
theorem op_leD (hu : X.A.units + 65 < cLine) : OpR X (compareOp .LtE) (rOrd X.K fun d e => !PySem.W.dataLt e d) := by
  intro pins s σ H x y v u Q I rx ry h
  obtain ⟨d, e, hd, he, ha, hn, hl, q⟩ := h
  obtain ⟨as, r1⟩ := Dp.reads I d x v hd rx
  obtain ⟨bs, r2⟩ := Dp.reads I e y u he ry
  exact PySem.W.le_data r1 r2 ha hn (by have := Nat.min_le_left d.depth e.depth; omega) ⟨.bl _, H, I, rfl, q⟩
theorem op_geD (hu : X.A.units + 65 < cLine) : OpR X (compareOp .GtE) (rOrd X.K fun d e => !PySem.W.dataLt d e) := by
  intro pins s σ H x y v u Q I rx ry h
  obtain ⟨d, e, hd, he, ha, hn, hl, q⟩ := h
  obtain ⟨as, r1⟩ := Dp.reads I d x v hd rx
  obtain ⟨bs, r2⟩ := Dp.reads I e y u he ry
  exact PySem.W.ge_data r1 r2 ha hn (by have := Nat.min_le_left d.depth e.depth; omega) ⟨.bl _, H, I, rfl, q⟩
/-- less, by data -/
def D.ltv (a b : D) : Bool := PySem.W.dataLt a.py b.py
/-- two that can be told in order -/
def PyN : PyData → Bool
  | .none => true
  | _ => false
theorem PyN_ne {d : PyData} (h : PyN d = false) : d ≠ .none := fun e => by rw [e] at h; cases h
def ordOk (a b : D) : Bool := (a.nf && b.nf) && (PySem.W.alike a.py b.py && (!PyN a.py && decide (a.py.depth ≤ 64)))
def o_ord (f : PyData → PyData → Bool) (a b : D) : Option R := if ordOk a b = true then some (.val (.bl (f a.py b.py))) else none
theorem opm_ord {f : PyData → PyData → Bool} : OpM K (rOrd K f) (o_ord f) := by
  intro w g x y a b ra rb z h Q q
  unfold o_ord at h
  split at h
  · rename_i hc
    unfold ordOk at hc
    simp only [Bool.and_eq_true, Bool.not_eq_true', decide_eq_true_iff] at hc
    exact ⟨_, _, ra.dp hc.1.1, rb.dp hc.1.2, hc.2.1, PyN_ne hc.2.2.1, hc.2.2.2, out0 g (.bl _) h q⟩
  · cases h
abbrev o_ltX : D → D → Option R := o_ord fun d e => PySem.W.dataLt d e
abbrev o_gtX : D → D → Option R := o_ord fun d e => PySem.W.dataLt e d
abbrev o_leX : D → D → Option R := o_ord fun d e => !PySem.W.dataLt e d
abbrev o_geX : D → D → Option R := o_ord fun d e => !PySem.W.dataLt d e
/-! ### max, min of two -/
def rM2 (K : PySem.W.Frag) (f : PyData → PyData → Bool) : List V → Hp → VK → Prop := fun xs H Q => ∃ x y d e, xs = [x, y] ∧ Dp K H x d ∧ Dp K H y e ∧ (PySem.W.alike d e = true ∧ PySem.W.alike d d = true ∧ PySem.W.alike e e = true) ∧ (d ≠ .none ∧ e ≠ .none) ∧ (d.depth ≤ 60 ∧ e.depth ≤ 60) ∧ Q (if f d e = true then y else x) H
theorem depth2 {d e : PyData} (h : d.depth ≤ 60 ∧ e.depth ≤ 60) : PyData.depthAll [d, e] ≤ 60 := by
  show max d.depth (max e.depth 0) ≤ 60
  omega
theorem call_maxD (hc : X.calm = true) (hu : X.A.units + 65 < cLine) : CallR X (.builtin "max") (rM2 X.K fun d e => PySem.W.dataLt d e) := by
  intro pins s σ H xs us Q I r h
  obtain ⟨x, y, d, e, rfl, hd, he, ⟨a1, a2, a3⟩, ⟨n1, n2⟩, hl, q⟩ := h
  obtain ⟨u, w', rfl, ru, rw'⟩ := vals2 r
  obtain ⟨as, r1⟩ := Dp.reads I d x u hd ru
  obtain ⟨bs, r2⟩ := Dp.reads I e y w' he rw'
  have := depth2 hl
  refine PySem.W.max_two_data (I.ok.hd hc) r1 r2 a1 a2 a3 n1 n2 (by omega) fun h' tk k => ⟨_, H, I.kept k, ?_, q⟩
  split <;> assumption
theorem call_minD (hc : X.calm = true) (hu : X.A.units + 65 < cLine) : CallR X (.builtin "min") (rM2 X.K fun d e => PySem.W.dataLt e d) := by
  intro pins s σ H xs us Q I r h
  obtain ⟨x, y, d, e, rfl, hd, he, ⟨a1, a2, a3⟩, ⟨n1, n2⟩, hl, q⟩ := h
  obtain ⟨u, w', rfl, ru, rw'⟩ := vals2 r
  obtain ⟨as, r1⟩ := Dp.reads I d x u hd ru
  obtain ⟨bs, r2⟩ := Dp.reads I e y w' he rw'
  have := depth2 hl
  refine PySem.W.min_two_data (I.ok.hd hc) r1 r2 a1 a2 a3 n1 n2 (by omega) fun h' tk k => ⟨_, H, I.kept k, ?_, q⟩
  split <;> assumption
def m2ok (a b : D) : Bool := (a.nf && b.nf) && ((PySem.W.alike a.py b.py && (PySem.W.alike a.py a.py && PySem.W.alike b.py b.py)) && ((!PyN a.py && !PyN b.py) && (decide (a.py.depth ≤ 60) && decide (b.py.depth ≤ 60))))
def o_m2 (f : PyData → PyData → Bool) (a b : D) : Option R := if m2ok a b = true then some (.val (if f a.py b.py = true then b else a)) else none
theorem cl_m2 {f : PyData → PyData → Bool} : ClM K (rM2 K f) (f2 (o_m2 f)) := by
  refine clm_2 fun w g x y a b ra rb z h Q q => ?_
  unfold o_m2 at h
  split at h
  · rename_i hc
    unfold m2ok at hc
    simp only [Bool.and_eq_true, Bool.not_eq_true', decide_eq_true_iff] at hc
    refine ⟨x, y, _, _, rfl, ra.dp hc.1.1, rb.dp hc.1.2, hc.2.1, ⟨PyN_ne hc.2.2.1.1, PyN_ne hc.2.2.1.2⟩, hc.2.2.2, ?_⟩
    refine out0 g (d := if f a.py b.py = true then b else a) ?_ h q
    split <;> assumption
  · cases h
abbrev o_maxX : D → D → Option R := o_m2 fun d e => PySem.W.dataLt d e
abbrev o_minX : D → D → Option R := o_m2 fun d e => PySem.W.dataLt e d
/-! ### sorted -/
def rSrtD (K : PySem.W.Frag) : List V → Hp → VK → Prop := fun vs H Q => ∃ (a : Addr) (xs : List V) (bs : List (V × PyData)), vs = [V.ref a] ∧ SqL K H a xs ∧ bs.map (·.1) = xs ∧ DpAll K H xs (bs.map (·.2)) ∧ PySem.W.AllAlike (bs.map (·.2)) ∧ PySem.W.Sortable (bs.map (·.2)) ∧ (∀ b ∈ bs, b.2.depth ≤ 60) ∧
  ∀ p, H p = none → Q (.ref p) (upd H p (.lst ((bs.mergeSort (PySem.W.dataLe false (·.2))).map (·.1))))
theorem each_of : ∀ {bs : List (V × PyData)} {its : List Value}, Vals (bs.map (·.1)) its → PySem.W.EachIs (fun v (b : V × PyData) => RelV b.1 v) its bs
  | [], _, r => by cases r; exact .nil
  | b :: bs, _, r => by
    cases r with
    | cons r1 r2 => exact .cons r1 (each_of r2)
theorem of_each : ∀ {bs : List (V × PyData)} {its : List Value}, PySem.W.EachIs (fun v (b : V × PyData) => RelV b.1 v) its bs → Vals (bs.map (·.1)) its
  | _, _, .nil => .nil
  | _, _, .cons a b => .cons a (of_each b)
theorem each_reads {pins : List (Addr × Obj)} {σ : L2.St} {H : Hp} {s : Shared} (I : Inv X pins σ H s) : ∀ {bs : List (V × PyData)} {its : List Value}, Vals (bs.map (·.1)) its → DpAll X.K H (bs.map (·.1)) (bs.map (·.2)) → PySem.W.EachIs (fun v (b : V × PyData) => ∃ as, Reads s.heap v b.2 as) its bs
  | [], _, r, _ => by cases r; exact .nil
  | b :: bs, _, r, d => by
    cases r with
    | cons r1 r2 =>
      cases d with
      | cons d1 d2 => exact .cons (Dp.reads I _ _ _ d1 r1) (each_reads I r2 d2)
theorem call_sortedD2 (hu : X.A.units + 65 < cLine) : CallR X (.builtin "sorted") (rSrtD X.K) := by
  intro pins s σ H xs us Q I r h
  obtain ⟨a, xs, bs, rfl, hs, rfl, hd, hal, hk, hl, q⟩ := h
  obtain ⟨its, rv, hli, hz⟩ := I.list hs
  obtain ⟨u, rfl, ru⟩ := vals1 r
  obtain rfl : u = Value.ref a := ru
  have hlen : bs.length ≤ sizeLine := by
    have := rv.length
    rw [List.length_map] at this hz
    exact hz
  refine PySem.W.sorted_data (enc := fun b : V × PyData => b.2) (R := fun v (b : V × PyData) => RelV b.1 v) (vs := its) hli.isList (each_of rv) (each_reads I rv hd) hal hk hlen (fun b hb => ?_) fun out ho he => ?_
  · have := hl b hb
    show X.A.units + 2 + b.2.depth < cLine
    omega
  · obtain ⟨e, he2⟩ := sortedAll_at s.heap its out.toArray
    have rv2 := of_each he
    refine ⟨.ref (s.heap.objs.size + 1), upd H (s.heap.objs.size + 1) (.lst ((bs.mergeSort (PySem.W.dataLe false (·.2))).map (·.1))), I.laid (t' := s.toks) (fun b o hb => sortedAll_old hb) (Nat.le_succ _) ⟨?_, out, e, rv2, he2⟩, rfl, q _ (I.hok.fresh (Nat.le_succ _))⟩
    rw [List.length_map, List.length_mergeSort]
    exact hlen
def isTupN : PyData → Bool
  | .tuple (_ :: _) => true
  | _ => false
def isTup0 : PyData → Bool
  | .tuple _ => true
  | _ => false
theorem isTupN_ex {d : PyData} (h : isTupN d = true) : ∃ x r, d = .tuple (x :: r) := by
  unfold isTupN at h
  split at h
  · exact ⟨_, _, rfl⟩
  · cases h
theorem isTup0_no {d : PyData} (h : isTup0 d = false) (xs : List PyData) : d ≠ .tuple xs := fun e => by rw [e] at h; cases h
def sortOk (ds : List D) : Bool := D.nfs ds && (ds.all (fun a => ds.all fun b => PySem.W.alike a.py b.py) && ((ds.all (fun a => isTupN a.py) || ds.all fun a => !PyN a.py && !isTup0 a.py) && ds.all fun a => decide (a.py.depth ≤ 60)))
def D.srt (ds : List D) : List D := ds.mergeSort fun a b => !b.ltv a
def o_sorted : D → Option R
  | .lst ds => if sortOk ds = true then some (.own (.lst (D.srt ds))) else none
  | _ => none
theorem pys_map : ∀ ds : List D, D.pys ds = ds.map D.py
  | [] => rfl
  | d :: ds => by rw [D.pys, pys_map ds]; rfl
theorem reps_zip : ∀ {xs : List V} {ds : List D}, Reps K w xs ds → (xs.zip ds).map (·.1) = xs ∧ (xs.zip ds).map (·.2) = ds
  | _, _, .nil => ⟨rfl, rfl⟩
  | _, _, .cons a b => by
    have := reps_zip b
    simp only [List.zip_cons_cons, List.map_cons, this.1, this.2, and_self]
theorem reps_of_zip : ∀ {xs : List V} {ds : List D}, Reps K w xs ds → ∀ p ∈ xs.zip ds, Rep K w p.1 p.2
  | _, _, .nil, p, h => nomatch h
  | _, _, .cons a b, p, h => by
    rw [List.zip_cons_cons] at h
    rcases List.mem_cons.mp h with rfl | h
    · exact a
    · exact reps_of_zip b p h
theorem reps_maps : ∀ {ps : List (V × D)}, (∀ p ∈ ps, Rep K w p.1 p.2) → Reps K w (ps.map (·.1)) (ps.map (·.2))
  | [], _ => .nil
  | p :: ps, h => .cons (h p (List.mem_cons_self ..)) (reps_maps fun q hq => h q (List.mem_cons_of_mem _ hq))
theorem cl_sorted : ClM K (rSrtD K) (f1 o_sorted) := by
  refine clm_1 fun w g x a r z h Q q => ?_
  cases r with
  | fn _ => first | cases h | cases hh | cases h3
  | @lst ad xs ds l rs =>
    simp only [o_sorted] at h
    split at h
    · rename_i hc
      unfold sortOk at hc
      simp only [Bool.and_eq_true, Bool.or_eq_true, List.all_eq_true, Bool.not_eq_true', decide_eq_true_iff] at hc
      obtain ⟨h0, h1, h2, h3⟩ := hc
      obtain ⟨z1, z2⟩ := reps_zip rs
      have hmem : ∀ d, d ∈ ((xs.zip ds).map fun p => (p.1, p.2.py)).map (·.2) → ∃ e ∈ ds, d = e.py := fun d hd => by
        rw [List.map_map] at hd
        obtain ⟨p, hp, rfl⟩ := List.mem_map.mp hd
        exact ⟨p.2, by rw [← z2]; exact List.mem_map.mpr ⟨p, hp, rfl⟩, rfl⟩
      refine ⟨ad, xs, (xs.zip ds).map fun p => (p.1, p.2.py), rfl, l.sq, ?_, ?_, ?_, ?_, ?_, ?_⟩
      · rw [List.map_map]
        exact z1
      · have e : ((xs.zip ds).map fun p => (p.1, p.2.py)).map (·.2) = D.pys ds := by
          rw [List.map_map, pys_map]
          show (xs.zip ds).map (fun p => p.2.py) = _
          conv => rhs; rw [← z2]
          rw [List.map_map]
          rfl
        rw [e]
        exact rs.dp h0
      · intro d hd d' hd'
        obtain ⟨a, ha, rfl⟩ := hmem d hd
        obtain ⟨b, hb, rfl⟩ := hmem d' hd'
        exact h1 a ha b hb
      · rcases h2 with h2 | h2
        · refine .inl fun d hd => ?_
          obtain ⟨a, ha, rfl⟩ := hmem d hd
          exact isTupN_ex (h2 a ha)
        · refine .inr fun d hd => ?_
          obtain ⟨a, ha, rfl⟩ := hmem d hd
          exact ⟨PyN_ne (h2 a ha).1, isTup0_no (h2 a ha).2⟩
      · intro b hb
        obtain ⟨p, hp, rfl⟩ := List.mem_map.mp hb
        exact h3 p.2 (by rw [← z2]; exact List.mem_map.mpr ⟨p, hp, rfl⟩)
      · intro p hp
        have e1 : (((xs.zip ds).map fun p => (p.1, p.2.py)).mergeSort (PySem.W.dataLe false (·.2))) = ((xs.zip ds).mergeSort fun a b => !b.2.ltv a.2).map fun p => (p.1, p.2.py) := by
          symm
          refine List.map_mergeSort fun a _ b _ => ?_
          rfl
        have e2 : D.srt ds = ((xs.zip ds).mergeSort fun a b => !b.2.ltv a.2).map (·.2) := by
          unfold D.srt
          conv => lhs; rw [← z2]
          symm
          refine List.map_mergeSort fun a _ b _ => ?_
          rfl
        rw [e1, List.map_map]
        have rr : Reps K w (((xs.zip ds).mergeSort fun a b => !b.2.ltv a.2).map (·.1)) (D.srt ds) := by
          rw [e2]
          exact reps_maps fun p hp => reps_of_zip rs p ((List.mergeSort_perm _ _).mem_iff.mp hp)
        exact outL g hp rr h q
    · cases h
  | non => cases h
  | bl _ => cases h
  | int _ => cases h
  | str _ => cases h
  | tup _ _ => cases h
end
section
variable {X : Cx} {pos p : Pos} {e : Expr} {es : List Expr} {f : Ex} {l : Ea}
theorem x_maxX {e2 : Expr} (hc : X.calm = true) (hu : X.A.units + 65 < cLine) (hm : X.mg "max" = none) (ha : XA X [e, e2] l) (hg : Gl X "max" := by rfl) (he : starEach [e, e2] X.env = (false, eval e X.env) :: starEach [e2] X.env := by rfl) (hpl : (backTo pos (starEach [e2] X.env)).any (·.1) = false := by rfl) :
    XE X (.Call (.Name "max" p) [e, e2] [] pos) (eB (f2 o_maxX) l) := x_B (call_maxD hc hu) cl_m2 hg hm (by decide +kernel) ha (by decide) (by decide) he hpl
theorem x_minX {e2 : Expr} (hc : X.calm = true) (hu : X.A.units + 65 < cLine) (hm : X.mg "min" = none) (ha : XA X [e, e2] l) (hg : Gl X "min" := by rfl) (he : starEach [e, e2] X.env = (false, eval e X.env) :: starEach [e2] X.env := by rfl) (hpl : (backTo pos (starEach [e2] X.env)).any (·.1) = false := by rfl) :
    XE X (.Call (.Name "min" p) [e, e2] [] pos) (eB (f2 o_minX) l) := x_B (call_minD hc hu) cl_m2 hg hm (by decide +kernel) ha (by decide) (by decide) he hpl
theorem x_sorted (hu : X.A.units + 65 < cLine) (hm : X.mg "sorted" = none) (ha : XA X (e :: es) l) (hg : Gl X "sorted" := by rfl) (he : starEach (e :: es) X.env = (false, eval e X.env) :: starEach es X.env := by rfl) (hpl : (backTo pos (starEach es X.env)).any (·.1) = false := by rfl) :
    XE X (.Call (.Name "sorted" p) (e :: es) [] pos) (eB (f1 o_sorted) l) := x_B (call_sortedD2 hu) cl_sorted hg hm (by decide +kernel) ha (by decide) (by decide) he hpl
end
section
variable {X : Cx} {K : PySem.W.Frag} {pos : Pos} {es : List Expr}
/-! ### a, b = a list -/
def g_lst (n : Nat) (u : Tgs) : Tg := fun r env => match r with
  | .val (.lst ds) => if ds.length = n then u ds env else none
  | _ => none
theorem gm_lst {n : Nat} {gs : TGs} {u : Tgs} (h : GsM K gs u) : GM K (gUnl K n gs) (g_lst n u) := by
  intro w0 w σ env e v r env' rr hh Q q
  cases r with
  | own o => cases hh
  | val d =>
    have rr' : Rep K w v d := rr
    cases rr' with
    | fn _ => first | cases h | cases hh | cases h3
    | lst l r =>
      simp only [g_lst] at hh
      split at hh
      · rename_i hl
        exact ⟨_, _, rfl, l.sq, by rw [r.length]; exact hl, h w0 w σ env e _ _ env' r hh Q q⟩
      · cases hh
    | non => cases hh
    | bl _ => cases hh
    | int _ => cases hh
    | str _ => cases hh
    | tup _ _ => cases hh
theorem xg_lst {k n : Nat} {u : Tgs} (hc : X.calm = true) (h : XGs X es u) (hn : (assignEach es X.env).length = n := by rfl) (hst : (assignEach es X.env).findIdx? (·.1) = none := by rfl) : XG X (.Tuple es k pos) (gv (g_lst n u)) := let ⟨_, p, q⟩ := h; ⟨_, pg_unl hc p hn hst, gm_v (gm_lst q)⟩
end
end Vz
set_option maxRecDepth 100000
set_option maxHeartbeats 1000000
/-! Vz9d: defs as values: handed over by their names, called by a local name. -/
namespace Vz
open PySem PySem.Spec PyProof.Rows L2
variable [FnTab]
/-- the global x holds the def of the number k -/
def FnV (K : PySem.W.Frag) (mg : Str → Option Value) (x : Str) (k : Nat) : Prop := ∃ f : Addr, mg x = some (.ref f) ∧ FnTab.holds K k f
structure HeldV (P : Program) (w : World) (K : PySem.W.Frag) (mg : Str → Option Value) (base : Heap) (lv : Nat) (f : Addr) (m : FM) : Prop where
  ex : ∃ (fd : FuncData) (ps : List Str), FnOk P w K mg base CX0 lv f fd ps (spM K m) ∧ PySem.W.keepIn K (.ref f) = true ∧ Binds K fd ps []
/-- a table's defs -/
def TabV (P : Program) (w : World) (K : PySem.W.Frag) (mg : Str → Option Value) (base : Heap) (lv : Nat) (tab : Nat → Option FM) : Prop :=
  ∀ k f m, FnTab.holds K k f → tab k = some m → HeldV P w K mg base lv f m
section
variable {X : Cx} {K : PySem.W.Frag} {pos p : Pos} {x : Str} {e : Expr} {es : List Expr}
theorem em_fnv {f : Addr} {k : Nat} (h : FnTab.holds K k f) : EM K (tC (.ref f)) (e_c (.fn k [])) := by
  intro w0 w σ env e r env' hh Q q
  cases hh
  exact q _ w e (.refl w) (show Rep K w _ _ from .fn h)
theorem x_fnv {k : Nat} (h : FnV X.K X.mg x k) (hg : Gl X x := by rfl) (hn : x ≠ "__name__" := by decide) (hdb : (x == ("__debug__" : Str)) = false := by decide) : XE X (.Name x pos) (e_c (.fn k [])) := by
  obtain ⟨f, hm, hf⟩ := h
  exact ⟨_, pe_glob (v := .ref f) hg hm rfl hdb, em_fnv hf⟩
/-- f(..), f a local name -/
def e_callv (tab : Nat → Option FM) (i : Nat) (l : Er) : Ex := fun env => match env[i]? with
  | some (.val (.fn k [])) => (tab k).bind fun m => e_call m [] l env
  | _ => none
theorem x_callv {lv j i : Nat} {tab : Nat → Option FM} {r : Er} (V : TabV X.prog X.w X.K X.mg X.base lv tab) (hr : Room j X.A) (hlj : lv ≤ j) (ha : XR X (e :: es) r) (hN : X.N[i]? = some x := by rfl) (hv : Vis X.env.scope x := by first | exact Or.inl rfl | exact Or.inr (Or.inl rfl) | exact Or.inr (Or.inr rfl))
    (hdb : (x == ("__debug__" : Str)) = false := by decide) (hcd : (x == ("__classdict__" : Str)) = false := by decide) (he : starEach (e :: es) X.env = (false, eval e X.env) :: starEach es X.env := by rfl) (hpl : (backTo pos (starEach es X.env)).any (·.1) = false := by rfl) :
    XE X (.Call (.Name x p) (e :: es) [] pos) (e_callv tab i r) := by
  obtain ⟨t, q1, q2⟩ := ha
  refine ⟨fun σ H Q => ∃ (k : Nat) (f : Addr) (m : FM), FnTab.holds X.K k f ∧ tab k = some m ∧ tCallL i f (spM X.K m) [] (fun _ _ _ => False) t σ H Q, ⟨fun pins s σ H Q I h => ?_⟩, ?_⟩
  · obtain ⟨k, f, m, hf, hm, h⟩ := h
    obtain ⟨fd, ps, F, hk, hb⟩ := (V k f m hf hm).ex
    exact (pe_callL (i := i) (f := f) (dvs := []) (E := fun _ _ _ => False) F (hr.mono hlj) hN hv hk hb .nil pass0 q1 hdb hcd he hpl).run pins s σ H Q I h
  · intro w0 w σ env e r' env' h Q q
    unfold e_callv at h
    split at h
    · rename_i k hi
      obtain ⟨m, hm, h⟩ := Option.bind_eq_some_iff.mp h
      obtain ⟨v, hs, rv⟩ := e.val i _ hi
      cases rv with
      | fn hf =>
        exact ⟨k, _, m, hf, hm, hs, em_call (E := fun _ _ _ => False) (dvs := []) (fun _ => .nil) q2 w0 w σ env e r' env' h Q q⟩
    · cases h
end
end Vz
set_option maxRecDepth 100000
set_option maxHeartbeats 1000000
/-! Vz9e: range with a step. -/
namespace Vz
open PySem PySem.Spec PyProof.Rows L2
variable [FnTab]
section
variable {X : Cx} {K : PySem.W.Frag} {w : Wd} {pos p : Pos} {a b c : Expr} {l : Ea}
def rngC (lo c : Int) (n : Nat) : List D := (List.range n).map fun (k : Nat) => D.int (lo + (k : Int) * c)
omit [FnTab] in
theorem rngC_get {lo c : Int} {n i : Nat} {d : D} (h : (rngC lo c n)[i]? = some d) : i < n ∧ d = .int (lo + (i : Int) * c) := by
  unfold rngC at h
  rw [List.getElem?_map] at h
  by_cases hi : i < n
  · rw [List.getElem?_range hi] at h
    cases h
    exact ⟨hi, rfl⟩
  · rw [List.getElem?_eq_none (by rw [List.length_range]; omega)] at h
    cases h
omit [FnTab] in
theorem rngC_length {lo c : Int} {n : Nat} : (rngC lo c n).length = n := by unfold rngC; rw [List.length_map, List.length_range]
theorem itok_rngC {lo c : Int} {n : Nat} : ItOk K w (Itc lo c n) (rngC lo c n) := by
  intro i w2 g2 s
  refine ⟨fun d hd => ?_, fun h => by rw [rngC_length] at h; exact h⟩
  obtain ⟨h1, rfl⟩ := rngC_get hd
  refine ⟨h1, fun y H' hy => ?_⟩
  obtain ⟨rfl, rfl⟩ := hy
  exact ⟨w2, rfl, .refl w2, g2, .int _⟩
/-- how many numbers a range with a step has -/
noncomputable def rngN (i j c : Int) : Nat := (Builtin.Range.rangeSize i j c).toNat
structure rngOK3 (i j c : Int) : Prop where
  is : RgC i j c (rngN i j c)
open Classical in
noncomputable def s_rng3 (f : Ea) : Src := fun env => (f env).bind fun p => match p.1 with
  | [.int i, .int j, .int c] => if rngOK3 i j c then some (rngC i c (rngN i j c), p.2) else none
  | _ => none
theorem im_rng3 {ta : TA} {f : Ea} (ha : AM K ta f) : IM K (iRng3 ta) (s_rng3 f) := by
  intro w0 w σ env e ds env' h Q q
  obtain ⟨⟨x, e1⟩, h1, h⟩ := Option.bind_eq_some_iff.mp h
  refine ha w0 w σ env e x e1 h1 _ fun vs w1 E1 s1 r1 => ?_
  simp only at h
  split at h
  · rename_i i j c
    split at h
    · rename_i hj
      cases h
      cases r1 with
      | cons a b =>
        cases a
        cases b with
        | cons a b =>
          cases a
          cases b with
          | cons a b =>
            cases a
            cases b
            exact ⟨i, j, c, _, rfl, hj.is, q _ w1 E1 s1 itok_rngC⟩
    · cases h
  · cases h
theorem xi_rng3 {tg : Expr} (hm : X.mg "range" = none) (ha : XA X [a, b, c] l) (hg : Gl X "range" := by rfl) (hs : starEach [a, b, c] X.env = (false, eval a X.env) :: starEach [b, c] X.env := by rfl) (hpl : (backTo pos (starEach [b, c] X.env)).any (·.1) = false := by rfl) :
    XI X tg (.Call (.Name "range" p) [a, b, c] [] pos) (s_rng3 l) := let ⟨_, p, q⟩ := ha; ⟨_, pi_range3 hg hm p hs hpl, im_rng3 q⟩
omit [FnTab] in
/-- a range that climbs -/
theorem RgC_up {i j c : Int} {n : Nat} (h1 : i.natAbs ≤ 1000000) (h2 : j.natAbs ≤ 1000000) (hc : 1 ≤ c) (hc2 : c ≤ 1000000) (hn : n = if i < j then ((j - i - 1) / c + 1).toNat else 0) : RgC i j c n := by
  have h0 : (if i < j then (j - i - 1) / c + 1 else 0) = (n : Int) := by
    subst hn
    split
    · have : 0 ≤ (j - i - 1) / c := Int.ediv_nonneg (by omega) (by omega)
      omega
    · rfl
  have hle : (n : Int) ≤ 2000001 := by
    rw [← h0]
    split
    · have : (j - i - 1) / c ≤ j - i - 1 := Int.ediv_le_self _ (by omega)
      omega
    · decide
  have e : Builtin.Range.rangeSize i j c = (n : Int) := by
    unfold Builtin.Range.rangeSize
    rw [if_pos (by omega), h0]
  refine ⟨by omega, by omega, ?_, e⟩
  unfold Builtin.Range.small
  rw [e]
  simp only [Builtin.Range.rangeFitsLong, Bool.and_eq_true, Bool.or_eq_true, decide_eq_true_eq, beq_iff_eq]
  rw [if_pos (show c > 0 by omega)]
  simp only [Bool.and_eq_true, decide_eq_true_eq]
  omega
end
end Vz
set_option maxRecDepth 100000
set_option maxHeartbeats 1000000
/-! Vz9f: len(set(list)), sorted(set(list)), the list one of tuples of ints. -/
namespace Vz
open PySem PySem.Spec PyProof.Rows L2
/-- a row of ints -/
def zL : List D → Option (List Int)
  | [] => some []
  | .int z :: ds => (zL ds).bind fun l => some (z :: l)
  | _ :: _ => none
/-- a row of tuples of ints -/
def tzL : List D → Option (List (List Int))
  | [] => some []
  | .tup l :: ds => (zL l).bind fun k => (tzL ds).bind fun ks => some (k :: ks)
  | _ :: _ => none
/-- each once -/
def nub {α : Type} [DecidableEq α] : List α → List α
  | [] => []
  | a :: l => if a ∈ l then nub l else a :: nub l
theorem mem_nub {α : Type} [DecidableEq α] {a : α} : ∀ {l : List α}, a ∈ nub l ↔ a ∈ l
  | [] => Iff.rfl
  | b :: l => by
    unfold nub
    split
    · rename_i h
      rw [mem_nub, List.mem_cons]
      exact ⟨.inr, fun k => k.elim (fun e => by rw [e]; exact h) id⟩
    · rw [List.mem_cons, List.mem_cons, mem_nub]
theorem nub_nodup {α : Type} [DecidableEq α] : ∀ {l : List α}, (nub l).Nodup
  | [] => List.nodup_nil
  | b :: l => by
    unfold nub
    split
    · exact nub_nodup
    · rename_i h
      exact List.nodup_cons.mpr ⟨fun k => h (mem_nub.mp k), nub_nodup⟩
theorem nub_id {α : Type} [DecidableEq α] : ∀ {l : List α}, l.Nodup → nub l = l
  | [], _ => rfl
  | b :: l, h => by
    have h1 := List.nodup_cons.mp h
    unfold nub
    rw [if_neg h1.1, nub_id h1.2]
theorem nub_perm {α : Type} [DecidableEq α] {l m : List α} (hm : m.Nodup) (h : ∀ a, a ∈ m ↔ a ∈ l) : m.Perm (nub l) :=
  (List.perm_ext_iff_of_nodup hm nub_nodup).mpr fun a => by rw [h, mem_nub]
variable [FnTab]
section
variable {K : PySem.W.Frag} {w : Wd}
theorem zL_of : ∀ {xs : List V} {ds : List D} {l : List Int}, Reps K w xs ds → zL ds = some l → xs = l.map V.int ∧ ds = l.map D.int
  | _, _, l, .nil, h => by cases h; exact ⟨rfl, rfl⟩
  | x :: xs, d :: ds, l, .cons r rs, h => by
    cases d with
    | int z =>
      obtain ⟨l', h1, h2⟩ := Option.bind_eq_some_iff.mp h
      cases h2
      obtain ⟨e1, e2⟩ := zL_of rs h1
      cases r
      rw [e1, e2]
      exact ⟨rfl, rfl⟩
    | _ => cases h
omit [FnTab] in
theorem zL_map : ∀ k : List Int, zL (k.map D.int) = some k
  | [] => rfl
  | z :: k => by
    show (zL (k.map D.int)).bind _ = _
    rw [zL_map k]
    rfl
theorem tup_sq {a : Addr} {k : List Int} (r : Rep K w (.ref a) (.tup (k.map D.int))) : SqT K w.H a (k.map V.int) := by
  generalize e : D.tup (k.map D.int) = d at r
  cases r with
  | tup l rs =>
    cases e
    rw [← (zL_of rs (zL_map k)).1]
    exact l.sq
  | _ => cases e
theorem tzL_of : ∀ {xs : List V} {ds : List D} {ks : List (List Int)}, Reps K w xs ds → tzL ds = some ks →
    ∃ ps : List (Addr × List Int), ps.map (·.2) = ks ∧ xs = ps.map (fun p => V.ref p.1) ∧ (∀ p ∈ ps, SqT K w.H p.1 (p.2.map V.int)) ∧ (∀ p ∈ ps, Rep K w (.ref p.1) (.tup (p.2.map D.int))) ∧ ds = ks.map fun k => D.tup (k.map D.int)
  | _, _, ks, .nil, h => by cases h; exact ⟨[], rfl, rfl, fun p hp => absurd hp (List.not_mem_nil), fun p hp => absurd hp (List.not_mem_nil), rfl⟩
  | x :: xs, d :: ds, ks, .cons r rs, h => by
    cases d with
    | tup l =>
      obtain ⟨k, h1, h⟩ := Option.bind_eq_some_iff.mp h
      obtain ⟨ks', h2, h⟩ := Option.bind_eq_some_iff.mp h
      cases h
      obtain ⟨ps, e1, e2, e3, e5, e4⟩ := tzL_of rs h2
      have r' := r
      cases r with
      | @tup a xs ds l' rs' =>
        obtain ⟨e5', e6⟩ := zL_of rs' h1
        subst e5' e6
        refine ⟨(a, k) :: ps, by rw [List.map_cons, e1], by rw [List.map_cons, e2], fun p hp => ?_, fun p hp => ?_, by rw [List.map_cons, e4]⟩
        · rcases List.mem_cons.mp hp with rfl | hp
          · exact l'.sq
          · exact e3 p hp
        · rcases List.mem_cons.mp hp with rfl | hp
          · exact r'
          · exact e5 p hp
    | _ => cases h
end
section
variable {X : Cx} {pos p pos2 p2 : Pos} {e : Expr} {f : Ex} {l : Ea}
/-- len(set) -/
def rLenT (K : PySem.W.Frag) (P : Program) (w : World) : List V → Hp → VK → Prop := fun vs H Q => ∃ (a : Addr) (L : List (Addr × List Int)), vs = [V.ref a] ∧ H a = some (SetTO P w a L) ∧ (∀ p ∈ L, SqT K H p.1 (p.2.map V.int)) ∧
  ((L.map (·.2)).Nodup → Q (.int L.length) H)
omit [FnTab] in
theorem cr_lenT : CallR X (.builtin "len") (rLenT X.K X.prog X.w) := by
  intro pins s σ H vs us Q I r h
  obtain ⟨a, L, rfl, ha, hk, q⟩ := h
  have R0 : SetT0 X.prog X.w s.heap a L := (I.hok a _ ha).1
  obtain ⟨es, ep, t, R⟩ := R0.full fun p hp => I.isT (hk p hp)
  obtain ⟨o, ho, hex, hd⟩ := R.ob
  rw [Vals.ref1 r]
  have hsz := R.size
  have hfew := R.few
  refine call_len_set ho hex hd R.fits (by omega) ?_
  exact ⟨.int L.length, H, I.kept (t' := s.toks + 1 + 1) (fun b o e => e), ⟨_, by rw [hsz]⟩, q R.nd⟩
def rLenSet (K : PySem.W.Frag) (P : Program) (w : World) : List V → Hp → VK → Prop := fun vs H Q => rSetOfT K P w vs H fun v H1 => rLenT K P w [v] H1 Q
def o_lset : D → Option R
  | .lst ds => if ds.length < 64 then (tzL ds).bind fun ks => some (.val (.int (nub ks).length)) else none
  | _ => none
theorem cl_lset {K : PySem.W.Frag} {P : Program} {W : World} : ClM K (rLenSet K P W) (f1 o_lset) := by
  refine clm_1 fun w g x a r z h Q q => ?_
  cases r with
  | @lst ad xs ds l rs =>
    simp only [o_lset] at h
    split at h
    · rename_i hl
      obtain ⟨ks, h1, h⟩ := Option.bind_eq_some_iff.mp h
      obtain ⟨ps, e1, e2, e3, e5, e4⟩ := tzL_of rs h1
      subst e2
      have hp : ps.length = ds.length := by rw [e4, List.length_map, ← e1, List.length_map]
      refine ⟨ad, ps, rfl, l.sq, e3, by omega, fun b L hb hs hc => ⟨b, L, rfl, upd_same, fun p hp => ?_, fun nd => ?_⟩⟩
      · exact tup_sq ((e5 p (hs p hp)).go g (Wd.put_step (o := SetTO P W b L) hb).step)
      · have pm : (L.map (·.2)).Perm (nub ks) := nub_perm nd fun k => by
          rw [← e1]
          refine ⟨fun hk => ?_, fun hk => ?_⟩
          · obtain ⟨p, hp, rfl⟩ := List.mem_map.mp hk
            exact List.mem_map.mpr ⟨p, hs p hp, rfl⟩
          · obtain ⟨p, hp, rfl⟩ := List.mem_map.mp hk
            exact hc p hp
        have hlen := pm.length_eq
        rw [List.length_map] at hlen
        cases h
        rw [hlen]
        exact q (.int _) (w.put b (SetTO P W b L)) (Wd.put_step hb) (Wd.put_good g hb) (.int _)
    · cases h
  | _ => first | cases h | cases hh
/-! sorted(set(xs)) -/
omit [FnTab] in
theorem perm_mapped {α β : Type} (m : α → β) {us vs : List β} (h : us.Perm vs) : ∀ L : List α, vs = L.map m → ∃ M : List α, M.Perm L ∧ us = M.map m := by
  induction h with
  | nil => intro L e; exact ⟨L, .refl _, by rw [← e]⟩
  | cons x _ ih =>
    intro L e
    cases L with
    | nil => cases e
    | cons y L =>
      obtain ⟨M, h1, h2⟩ := ih L (List.cons.inj e).2
      exact ⟨y :: M, h1.cons y, by rw [List.map_cons, ← h2, (List.cons.inj e).1]⟩
  | swap x y l =>
    intro L e
    cases L with
    | nil => cases e
    | cons a L =>
      cases L with
      | nil => cases e
      | cons b L =>
        refine ⟨b :: a :: L, .swap a b L, ?_⟩
        have e1 := List.cons.inj e
        have e2 := List.cons.inj e1.2
        rw [List.map_cons, List.map_cons, e1.1, e2.1, e2.2]
  | trans _ _ ih1 ih2 =>
    intro L e
    obtain ⟨M, h1, h2⟩ := ih2 L e
    obtain ⟨N, h3, h4⟩ := ih1 M h2
    exact ⟨N, h3.trans h1, h4⟩
def pyT (q : Addr × List Int) : PyData := .tuple (q.2.map PyData.int)
omit [FnTab] in
theorem reads_ints {h : Heap} : ∀ {vs : List Value} {k : List Int}, IntsAre vs k → ReadsAll h vs (k.map PyData.int) []
  | _, _, .nil => .nil
  | _, _, .cons n t r => ReadsAll.cons (.int n t) (reads_ints r)
omit [FnTab] in
theorem reads_T {P : Program} {W : World} {h : Heap} {k : List Int} {b : Addr} (x : IsT P W h k b) : Reads h (.ref b) (.tuple (k.map PyData.int)) [] := by
  obtain ⟨o, items, n, ho, hc, hd, hi⟩ := x
  exact .tuple ho hc hd (reads_ints (ints_of_items hi))
omit [FnTab] in
theorem eachT' {h : Heap} {a : Addr} : ∀ {L : List (Addr × List Int)}, (∀ q ∈ L, Reads h (.ref q.1) (pyT q) []) → PySem.W.EachIs (fun v q => ∃ as, Reads h v (pyT q) as ∧ a ∉ as) (L.map fun q => Value.ref q.1) L
  | [], _ => .nil
  | q :: L, r => .cons ⟨[], r q (List.mem_cons_self ..), List.not_mem_nil⟩ (eachT' fun x hx => r x (List.mem_cons_of_mem _ hx))
omit [FnTab] in
theorem eachR : ∀ L : List (Addr × List Int), PySem.W.EachIs (fun v (q : Addr × List Int) => v = Value.ref q.1) (L.map fun q => Value.ref q.1) L
  | [] => .nil
  | q :: L => .cons rfl (eachR L)
omit [FnTab] in
theorem ofEachR : ∀ {vs : List Value} {L : List (Addr × List Int)}, PySem.W.EachIs (fun v (q : Addr × List Int) => v = Value.ref q.1) vs L → vs = L.map fun q => Value.ref q.1
  | _, _, .nil => rfl
  | _, _, .cons a b => by rw [a, ofEachR b]; rfl
omit [FnTab] in
theorem depthZ : ∀ k : List Int, PyData.depthAll (k.map PyData.int) = 0
  | [] => rfl
  | z :: k => by
    show max _ _ = 0
    rw [depthZ k]
    rfl
omit [FnTab] in
theorem depthT (q : Addr × List Int) : (pyT q).depth ≤ 1 := by
  show PyData.depthAll _ + 1 ≤ 1
  rw [depthZ]
  exact Nat.le_refl _
def rSortTZ (K : PySem.W.Frag) (P : Program) (w : World) : List V → Hp → VK → Prop := fun vs H Q => ∃ (a : Addr) (L : List (Addr × List Int)), vs = [V.ref a] ∧ H a = some (SetTO P w a L) ∧ (∀ p ∈ L, SqT K H p.1 (p.2.map V.int)) ∧ PySem.W.AllAlike (L.map pyT) ∧ PySem.W.Sortable (L.map pyT) ∧
  ∀ (M : List (Addr × List Int)) (p : Addr), M.Perm L → (L.map (·.2)).Nodup → H p = none → Q (.ref p) (upd H p (.lst ((M.mergeSort (PySem.W.dataLe false pyT)).map fun q => V.ref q.1)))
omit [FnTab] in
theorem cr_sortTZ (hc : X.calm = true) (hu : X.A.units + 65 < cLine) : CallR X (.builtin "sorted") (rSortTZ X.K X.prog X.w) := by
  intro pins s σ H vs us Q I r h
  obtain ⟨a, L, rfl, ha, hk, hal, hso, q⟩ := h
  have R0 : SetT0 X.prog X.w s.heap a L := (I.hok a _ ha).1
  obtain ⟨es, ep, t, R⟩ := R0.full fun p hp => I.isT (hk p hp)
  obtain ⟨o, ho, hex, hd⟩ := R.ob
  rw [Vals.ref1 r]
  have hsz := R.size
  have hfew := R.few
  refine Calls.call_function_entry kind_sorted plain_sorted entry_sorted (args_sorted1 _) ?_
  unfold Builtin.«sorted»
  refine wpAny_bind (m := checkCount "sorted" 1 1 _) (wpAny_pure ?_)
  refine wpAny_bind (collect_set (A := X.A.in1) (I.ok.hd hc) ⟨o, ho, hex.1, hd⟩ R.fits (by unfold scanBound; omega) R.tab.ris R.led fun s1 vs k1 hz g1 o1 pm => ?_)
  have rws : es.toList.map (·.2) = L.map fun q => Value.ref q.1 := by
    rw [R.rows]
    unfold rowsOf
    rw [List.map_map]
    rfl
  rw [rws] at pm
  obtain ⟨M, pM, rfl⟩ := perm_mapped _ pm L rfl
  have hM : M.length < 64 := by rw [pM.length_eq]; exact hfew
  refine wpAny_bind (wpAny_newList ?_ (by rw [sizeLine_eq, List.length_map]; omega))
  have old : ∀ b u, s.heap.get? b = some u → (s1.heap.push (seqObj "list" (M.map fun q => Value.ref q.1).toArray 0)).get? b = some u := fun b u e => Heap.get?_push_of_some _ (k1 b u e)
  have rd : ∀ q ∈ M, Reads (s1.heap.push (seqObj "list" (M.map fun q => Value.ref q.1).toArray 0)) (.ref q.1) (pyT q) [] := fun q hq => reads_T (isT_keep (R.tup q (pM.mem_iff.mp hq)) old)
  have mem : ∀ d, d ∈ M.map pyT → d ∈ L.map pyT := fun d hd => (pM.map pyT).mem_iff.mp hd
  have hMl : M.length ≤ sizeLine := by rw [sizeLine_eq]; omega
  refine wpAny_bind (wpAny_holding (PySem.W.list_sort_data (s := { s1 with heap := s1.heap.push (seqObj "list" (M.map fun q => Value.ref q.1).toArray 0) }) (a := s1.heap.objs.size) (bs := M) (enc := pyT) (R := fun v q => v = Value.ref q.1)
    (Heap.get?_push_size _ rfl) (eachR M) (eachT' rd) (fun d hd d' hd' => hal d (mem d hd) d' (mem d' hd')) (hso.imp (fun h d hd => h d (mem d hd)) fun h d hd => h d (mem d hd)) hMl (fun q _ => ?_) fun out ol oe => ?_))
  · have hd1 := depthT q
    show X.A.units + 1 + 1 + (pyT q).depth < cLine
    omega
  · obtain rfl := ofEachR oe
    obtain ⟨c, hcc⟩ := sortedHeap_at (a := s1.heap.objs.size) (vs := M.map fun q => Value.ref q.1) (out := ((M.mergeSort (PySem.W.dataLe false pyT)).map fun q => Value.ref q.1).toArray) (n := 0) (Heap.get?_push_size _ rfl)
    have hn : H s1.heap.objs.size = none := I.hok.fresh hz
    have keep : ∀ b u, s.heap.get? b = some u → (sortedHeap (s1.heap.push (seqObj "list" (M.map fun q => Value.ref q.1).toArray 0)) s1.heap.objs.size (M.map fun q => Value.ref q.1) ((M.mergeSort (PySem.W.dataLe false pyT)).map fun q => Value.ref q.1).toArray).get? b = some u := by
      intro b u e
      have hlt := Heap.lt_size (k1 b u e)
      rw [sortedHeap_old (Nat.ne_of_lt hlt) (by rw [size_push']; exact Nat.lt_succ_of_lt hlt)]
      exact old b u e
    have hv : Vals ((M.mergeSort (PySem.W.dataLe false pyT)).map fun q => V.ref q.1) ((M.mergeSort (PySem.W.dataLe false pyT)).map fun q => Value.ref q.1) := vals_of_refs _
    have hlen : ((M.mergeSort (PySem.W.dataLe false pyT)).map fun q => V.ref q.1).length ≤ sizeLine := by
      rw [List.length_map, List.length_mergeSort]
      exact hMl
    refine wpAny_pure ⟨_, rfl, ?_⟩
    have J : Inv X pins σ (upd H s1.heap.objs.size (.lst ((M.mergeSort (PySem.W.dataLe false pyT)).map fun q => V.ref q.1))) { s with heap := sortedHeap (s1.heap.push (seqObj "list" (M.map fun q => Value.ref q.1).toArray 0)) s1.heap.objs.size (M.map fun q => Value.ref q.1) ((M.mergeSort (PySem.W.dataLe false pyT)).map fun q => Value.ref q.1).toArray, gens := s1.gens, drawn := s1.drawn, toks := s1.toks } :=
      I.call (ch := []) (Un.laid keep hz hn) (I.hok.laid keep hz ⟨hlen, _, c, hv, hcc⟩) (by rw [g1]; exact I.bare) (fun _ z => nomatch z)
    rw [← o1] at J
    exact ⟨.ref s1.heap.objs.size, _, J, rfl, q M _ pM R.nd hn⟩
omit [FnTab] in
/-- in order, whatever the order ahead -/
theorem ltv_anti {a b : D} (h1 : a.ltv b = false) (h2 : b.ltv a = false) : PySem.W.keyToks a.py = PySem.W.keyToks b.py := (listOrd itemOrd).total _ _ h1 h2
omit [FnTab] in
theorem srt_tot : PySem.W.TotalLe fun a b : D => !b.ltv a := PySem.W.sortLe_total (listOrd itemOrd) false fun d : D => PySem.W.keyToks d.py
omit [FnTab] in
theorem srt_perm {l m : List D} (h : l.Perm m) (anti : ∀ a ∈ l, ∀ b ∈ l, PySem.W.keyToks a.py = PySem.W.keyToks b.py → a = b) : D.srt l = D.srt m := by
  refine List.Perm.eq_of_pairwise (le := fun a b => (!b.ltv a) = true) (fun a b ha hb h1 h2 => ?_) (PySem.W.sort_pairwise srt_tot l) (PySem.W.sort_pairwise srt_tot m) ((List.mergeSort_perm l _).trans (h.trans (List.mergeSort_perm m _).symm))
  have ma : a ∈ l := (List.mergeSort_perm l _).mem_iff.mp ha
  have mb : b ∈ l := h.mem_iff.mpr ((List.mergeSort_perm m _).mem_iff.mp hb)
  exact anti a ma b mb (ltv_anti (by simpa using h2) (by simpa using h1))
def tupZ (k : List Int) : D := .tup (k.map D.int)
omit [FnTab] in
theorem toks_ints : ∀ {k l : List Int}, PySem.W.keyToksAll (D.pys (k.map D.int)) = PySem.W.keyToksAll (D.pys (l.map D.int)) → k = l
  | [], [], _ => rfl
  | [], z :: l, h => by
    have e : Sum.inl (0 : Int) = (Sum.inl 1 : Int ⊕ List Nat) := (List.cons.inj h).1
    cases e
  | z :: k, [], h => by
    have e : Sum.inl (1 : Int) = (Sum.inl 0 : Int ⊕ List Nat) := (List.cons.inj h).1
    cases e
  | z :: k, y :: l, h => by
    have e := (List.cons.inj h).2
    have e1 : (Sum.inl z : Int ⊕ List Nat) = .inl y := (List.cons.inj e).1
    have e2 := toks_ints (List.cons.inj e).2
    cases e1
    rw [e2]
omit [FnTab] in
theorem toks_tupZ {k l : List Int} (h : PySem.W.keyToks (tupZ k).py = PySem.W.keyToks (tupZ l).py) : k = l := toks_ints h
def rSortSet (K : PySem.W.Frag) (P : Program) (w : World) : List V → Hp → VK → Prop := fun vs H Q => rSetOfT K P w vs H fun v H1 => rSortTZ K P w [v] H1 Q
/-- tuples of ints that can be told in order -/
def zOk (ks : List (List Int)) : Bool := ks.all (fun a => ks.all fun b => PySem.W.alike (tupZ a).py (tupZ b).py) && ks.all fun a => !a.isEmpty
def o_sset : D → Option R
  | .lst ds => if ds.length < 64 then (tzL ds).bind fun ks => if zOk ks = true then some (.own (.lst (D.srt ((nub ks).map tupZ)))) else none else none
  | _ => none
omit [FnTab] in
theorem pysZ : ∀ k : List Int, D.pys (k.map D.int) = k.map PyData.int
  | [] => rfl
  | z :: k => by
    show PyData.int z :: D.pys (k.map D.int) = _
    rw [pysZ k]
    rfl
omit [FnTab] in
theorem pyT_eq (q : Addr × List Int) : pyT q = (tupZ q.2).py := by
  show PyData.tuple _ = PyData.tuple (D.pys _)
  rw [pysZ]
theorem cl_sset {K : PySem.W.Frag} {P : Program} {W : World} : ClM K (rSortSet K P W) (f1 o_sset) := by
  refine clm_1 fun w g x a r z h Q q => ?_
  cases r with
  | @lst ad xs ds l rs =>
    simp only [o_sset] at h
    split at h
    · rename_i hl
      obtain ⟨ks, h1, h⟩ := Option.bind_eq_some_iff.mp h
      split at h
      · rename_i hz
        obtain ⟨ps, e1, e2, e3, e5, e4⟩ := tzL_of rs h1
        subst e2
        have hp : ps.length = ds.length := by rw [e4, List.length_map, ← e1, List.length_map]
        unfold zOk at hz
        simp only [Bool.and_eq_true, List.all_eq_true] at hz
        refine ⟨ad, ps, rfl, l.sq, e3, by omega, fun b L hb hs hc => ⟨b, L, rfl, upd_same, fun p hp => ?_, ?_, ?_, fun M p pM nd hn => ?_⟩⟩
        · exact tup_sq ((e5 p (hs p hp)).go g (Wd.put_step (o := SetTO P W b L) hb).step)
        · intro d hd d' hd'
          obtain ⟨u, hu, rfl⟩ := List.mem_map.mp hd
          obtain ⟨v, hv, rfl⟩ := List.mem_map.mp hd'
          rw [pyT_eq, pyT_eq]
          exact hz.1 _ (by rw [← e1]; exact List.mem_map.mpr ⟨u, hs u hu, rfl⟩) _ (by rw [← e1]; exact List.mem_map.mpr ⟨v, hs v hv, rfl⟩)
        · refine .inl fun d hd => ?_
          obtain ⟨u, hu, rfl⟩ := List.mem_map.mp hd
          have := hz.2 u.2 (by rw [← e1]; exact List.mem_map.mpr ⟨u, hs u hu, rfl⟩)
          unfold pyT
          cases hu2 : u.2 with
          | nil => rw [hu2] at this; cases this
          | cons x r => exact ⟨_, _, rfl⟩
        · have pm : (L.map (·.2)).Perm (nub ks) := nub_perm nd fun k => by
            rw [← e1]
            refine ⟨fun hk => ?_, fun hk => ?_⟩
            · obtain ⟨p, hp, rfl⟩ := List.mem_map.mp hk
              exact List.mem_map.mpr ⟨p, hs p hp, rfl⟩
            · obtain ⟨p, hp, rfl⟩ := List.mem_map.mp hk
              exact hc p hp
          cases h
          have es : (M.mergeSort (PySem.W.dataLe false pyT)).map (fun q => tupZ q.2) = D.srt ((nub ks).map tupZ) := by
            have e1 : (M.mergeSort (PySem.W.dataLe false pyT)).map (fun q => tupZ q.2) = D.srt (M.map fun q => tupZ q.2) := by
              unfold D.srt
              refine List.map_mergeSort fun a _ b _ => ?_
              show (!PySem.W.dataLt (pyT b) (pyT a)) = _
              rw [pyT_eq, pyT_eq]
              rfl
            rw [e1]
            refine srt_perm ?_ fun a ha b hb e => ?_
            · have := ((pM.map (·.2)).trans pm).map tupZ
              rw [List.map_map] at this
              exact this
            · obtain ⟨u, hu, rfl⟩ := List.mem_map.mp ha
              obtain ⟨v, hv, rfl⟩ := List.mem_map.mp hb
              rw [toks_tupZ e]
          have g2 : Good (w.put b (SetTO P W b L)) := Wd.put_good g hb
          have rr : Reps K (w.put b (SetTO P W b L)) ((M.mergeSort (PySem.W.dataLe false pyT)).map fun q => V.ref q.1) (D.srt ((nub ks).map tupZ)) := by
            rw [← es]
            have : ∀ N : List (Addr × List Int), (∀ q ∈ N, q ∈ ps) → Reps K (w.put b (SetTO P W b L)) (N.map fun q => V.ref q.1) (N.map fun q => tupZ q.2) := by
              intro N
              induction N with
              | nil => intro _; exact .nil
              | cons q N ih =>
                intro hN
                exact .cons ((e5 q (hN q (List.mem_cons_self ..))).go g (Wd.put_step (o := SetTO P W b L) hb).step) (ih fun x hx => hN x (List.mem_cons_of_mem _ hx))
            exact this _ fun q hq => hs q (pM.mem_iff.mp ((List.mergeSort_perm M _).mem_iff.mp hq))
          refine outL g2 hn rr rfl fun v w' s' g' r' => q v w' ((Wd.put_step (o := SetTO P W b L) hb).trans s') g' ?_
          obtain ⟨c, hv, hcc, ho⟩ := r'
          refine ⟨c, hv, ⟨?_, hcc.2⟩, ho⟩
          have hc1 : upd w.H b (SetTO P W b L) c = none := hcc.1
          by_cases e : c = b
          · rw [e, upd_same] at hc1
            cases hc1
          · rwa [upd_ne e] at hc1
      · cases h
    · cases h
  | _ => first | cases h | cases hh
theorem x_lset (hc : X.calm = true) (hu : X.A.units + 64 < cLine) (hm : X.mg "len" = none) (hm2 : X.mg "set" = none) (ha : XA X [e] l) (hg : Gl X "len" := by rfl) (hg2 : Gl X "set" := by rfl)
    (he : starEach [.Call (.Name "set" p2) [e] [] pos2] X.env = (false, eval (.Call (.Name "set" p2) [e] [] pos2) X.env) :: starEach [] X.env := by rfl) (hpl : (backTo pos (starEach [] X.env)).any (·.1) = false := by rfl)
    (he2 : starEach [e] X.env = (false, eval e X.env) :: starEach [] X.env := by rfl) (hpl2 : (backTo pos2 (starEach [] X.env)).any (·.1) = false := by rfl) :
    XE X (.Call (.Name "len" p) [.Call (.Name "set" p2) [e] [] pos2] [] pos) (eB (f1 o_lset) l) :=
  let ⟨_, p', q'⟩ := ha
  ⟨_, pe_callB cr_lenT hg hm (by decide +kernel) (pa_cons (pe_callTy (cr_setOfT hc hu) hg2 hm2 (by decide +kernel) p' (by decide) (by decide) he2 hpl2) pa_nil he) (by decide) (by decide) he hpl, em_B (r := rLenSet X.K X.prog X.w) cl_lset q'⟩
theorem x_sset (hc : X.calm = true) (hu : X.A.units + 65 < cLine) (hm : X.mg "sorted" = none) (hm2 : X.mg "set" = none) (ha : XA X [e] l) (hg : Gl X "sorted" := by rfl) (hg2 : Gl X "set" := by rfl)
    (he : starEach [.Call (.Name "set" p2) [e] [] pos2] X.env = (false, eval (.Call (.Name "set" p2) [e] [] pos2) X.env) :: starEach [] X.env := by rfl) (hpl : (backTo pos (starEach [] X.env)).any (·.1) = false := by rfl)
    (he2 : starEach [e] X.env = (false, eval e X.env) :: starEach [] X.env := by rfl) (hpl2 : (backTo pos2 (starEach [] X.env)).any (·.1) = false := by rfl) :
    XE X (.Call (.Name "sorted" p) [.Call (.Name "set" p2) [e] [] pos2] [] pos) (eB (f1 o_sset) l) :=
  let ⟨_, p', q'⟩ := ha
  ⟨_, pe_callB (cr_sortTZ hc hu) hg hm (by decide +kernel) (pa_cons (pe_callTy (cr_setOfT hc (by omega)) hg2 hm2 (by decide +kernel) p' (by decide) (by decide) he2 hpl2) pa_nil he) (by decide) (by decide) he hpl, em_B (r := rSortSet X.K X.prog X.w) cl_sset q'⟩
end
end Vz
set_option maxRecDepth 100000
set_option maxHeartbeats 3200000
/-! Vz9g: len(set(xs)), xs a tuple of tuples of ints. -/
namespace L2
open PySem PySem.Spec PyProof.Rows
/-- the set as it is laid -/
abbrev Zset (w : World) : Obj := { cls := .type "set", dict := none, data := .set #[] 0 (.fresh 0 0 (!w.params.followText "set-order")) }
section
variable {P : Program} {w : World} {A : Around} {E : Value → Shared → Prop} {s : Shared}
theorem heap_end (h : Heap) {b : Addr} (hb : h.objs.size ≤ b) : h.get? b = none := by
  cases q : h.get? b with
  | none => rfl
  | some o => exact absurd (Heap.lt_size q) (Nat.not_lt.mpr hb)
theorem items_at {items : Array Value} {ks : List (Addr × List Int)} (hit : items.toList = ks.map fun p => Value.ref p.1) : items.size = ks.length ∧ ∀ (i : Nat) (v : Value), items[i]? = some v → ∃ p, ks[i]? = some p ∧ v = .ref p.1 := by
  refine ⟨?_, fun i v hv => ?_⟩
  · rw [← Array.length_toList, hit, List.length_map]
  · rw [← Array.getElem?_toList, hit, List.getElem?_map] at hv
    obtain ⟨p, h1, h2⟩ := Option.map_eq_some_iff.mp hv
    exact ⟨p, h1, h2.symm⟩
theorem set_of_tuple {l : Addr} {items : Array Value} (ks : List (Addr × List Int)) {Q : Value → Shared → Prop} (hh : A.handled = none) (hl : s.heap.IsTuple l items) (hit : items.toList = ks.map fun p => Value.ref p.1)
    (hk : ∀ p ∈ ks, IsT P w s.heap p.2 p.1) (hfew : ks.length < 64) (hu : A.units + 3 < cLine)
    (h : ∀ (h' : Heap) (tk : Nat) L es ep t, SetTR P w h' s.heap.objs.size L es ep t → Got ks ks.length L → (∀ b o, s.heap.get? b = some o → h'.get? b = some o) → Q (.ref s.heap.objs.size) { s with heap := h', toks := tk }) :
    wpAny (model P w) A (call (.type "set") [.ref l]) Q E s := by
  obtain ⟨hsz, hval⟩ := items_at hit
  obtain ⟨c, tl, hmro⟩ := F.called_set.mro
  have made := F.called_set.made
  have subs := F.called_set.sub
  refine wpAny_call (codeAny_of_tree ?_)
  show wpAny _ _ (callAny (.type "set") _) _ _ _
  refine wpAny_pure ⟨Code.quiet_builtin _ (by decide +kernel), codeAny_builtin F.entry_type_call ?_⟩
  rw [Around.under_plain (weight_type_call_type "set" [.ref l] []) rfl]
  have k1 := F.called_set.notType
  have k2 := F.called_set.canCreate
  have k3 := F.typeCall_set_1 (.ref l)
  repeat (any_goals (first | assumption | wp_step))
  refine codeAny_mono (code_set_led1 (.ref l) (E := E) (Q₁ := fun obj s₁ => obj = .ref s.heap.objs.size ∧ s₁ = { s with heap := s.heap.push (Zset w) }) ⟨rfl, rfl⟩) fun r s₁ hr => ?_
  cases r with
  | error e => exact hr
  | ok fl =>
    cases fl with
    | ret obj =>
      obtain ⟨rfl, rfl⟩ := hr
      have hS : (s.heap.push (Zset w)).get? s.heap.objs.size = some (Zset w) := Heap.get?_push_size _ rfl
      have hT : Shared.TypeIs { s with heap := s.heap.push (Zset w) } (.ref s.heap.objs.size) "set" := ⟨_, hS, rfl⟩
      have i1 := F.called_set.init.lookup
      have i2 := F.called_set.init.bind (.ref s.heap.objs.size)
      repeat (any_goals (first | assumption | wp_step))
      refine codeAny_mono (codeAny_call_builtin (R := wants (fun r s₂ => r = .none ∧ ∃ h' tk L es ep t, s₂ = { s with heap := h', toks := tk } ∧ SetTR P w h' s.heap.objs.size L es ep t ∧ Got ks ks.length L ∧ (∀ b o, s.heap.get? b = some o → h'.get? b = some o)) E)
        F.called_set.init.plain F.entry_set_init (check_set_init_1 hT ?_)) fun r₂ s₂ hr₂ => ?_
      · obtain ⟨ol, hol, hcl, nl, hdl⟩ := hl
        obtain ⟨ocls, odict, odata, oslots⟩ := ol
        simp only at hcl hdl
        subst hcl; subst hdl
        have hol' : (s.heap.push (Zset w)).get? l = some { cls := .type "tuple", dict := odict, data := .seq items nl, slots := oslots } := Heap.get?_push_of_some _ hol
        have u1 := F.sub_tuple_set
        have u2 := F.sub_tuple_frozenset
        have hne : (Value.type "tuple" == Value.type "dict") = false := by decide
        have hl1 : (s.heap.push (Zset w)).IsTuple l items := ⟨_, hol', rfl, nl, rfl⟩
        unfold Builtin.«set.__init__» noKeywords Builtin.Frozenset.updateFrom
        generalize hPI : pyIter = PI
        wp_walk
        subst hPI
        refine wpAny_pyIter_tuple hl1 ?_
        refine wpAny_bind (wpAny_runValue ?_)
        have hlS : l < s.heap.objs.size := Heap.lt_size hol
        have hz : (s.heap.push (Zset w)).objs.size = s.heap.objs.size + 1 := Heap.size_push ..
        have h3 : A.in1.in1.in1.handled = none := by simp [hh]
        have nI : l ≠ (s.heap.push (Zset w)).objs.size := by rw [hz]; exact Nat.ne_of_lt (Nat.lt_succ_of_lt hlS)
        have nF : s.heap.objs.size ∉ [(s.heap.push (Zset w)).objs.size, l] := by
          rw [hz]
          simp only [List.mem_cons, List.not_mem_nil, or_false, not_or]
          exact ⟨Nat.ne_of_lt (Nat.lt_succ_self _), Nat.ne_of_gt hlS⟩
        refine set_update_tups ((Walks.tuple h3 _ l nI items).toS) s.heap.objs.size nF ks hsz hfew hval s.heap hk (heap_end _ (Nat.le_refl _)) (fun b hb => heap_end _ (by rw [List.mem_singleton.mp hb, hz]; omega)) hu (items.size - 0) 0 _ (by omega) (Nat.zero_le _)
          ⟨⟨_, Heap.get?_push_size _ rfl, rfl, rfl⟩, hl1.push _⟩ (fun b o e => Heap.get?_push_of_some _ (Heap.get?_push_of_some _ e)) ⟨[], #[], 0, _, setTR_fresh (Heap.get?_push_of_some _ hS), Got.zero ks⟩ fun s' L es ep t hm hS' g' kp => ?_
        obtain ⟨h', g2, d', tk', os'⟩ := s'
        have eg : g2 = s.gens := hm.gens
        have ed : d' = s.drawn := hm.drawn
        have eo : os' = s.os := hm.os
        subst eg; subst ed; subst eo
        show wpAny _ _ _ _ _ _
        refine wpAny_pure ?_
        show wpAny _ _ (ret Value.none) _ _ _
        rw [hsz] at g'
        exact wpAny_pure ⟨rfl, h', tk', L, es, ep, t, rfl, hS', g', kp⟩
      · cases r₂ with
        | error e => exact hr₂
        | ok fl₂ =>
          cases fl₂ with
          | ret r =>
            obtain ⟨rfl, h', tk, L, es, ep, t, rfl, hS', g', hk'⟩ := hr₂
            repeat (any_goals (first | assumption | wp_step))
            exact h _ _ _ _ _ _ hS' g' hk'
          | _ => exact hr₂.elim
    | _ => exact hr.elim
end
end L2
namespace Vz
open PySem PySem.Spec PyProof.Rows L2
section
variable {X : Cx}
def rSetOfU (K : PySem.W.Frag) (P : Program) (w : World) : List V → Hp → VK → Prop := fun xs H Q => ∃ (l : Addr) (ks : List (Addr × List Int)), xs = [V.ref l] ∧ SqT K H l (ks.map fun p => V.ref p.1) ∧ (∀ p ∈ ks, SqT K H p.1 (p.2.map V.int)) ∧ ks.length < 64 ∧
  ∀ a L, H a = none → (∀ p ∈ L, p ∈ ks) → (∀ p ∈ ks, p.2 ∈ L.map (·.2)) → Q (.ref a) (upd H a (SetTO P w a L))
theorem cr_setOfU (hc : X.calm = true) (hu : X.A.units + 64 < cLine) : CallR X (.type "set") (rSetOfU X.K X.prog X.w) := by
  intro pins s σ H xs us Q I r h
  obtain ⟨l, ks, rfl, hl, hk, hf, q⟩ := h
  rw [Vals.ref1 r]
  obtain ⟨its, rv, ⟨o, ho, hcl, hd⟩, hz⟩ := I.tuple hl
  have hn : H s.heap.objs.size = none := I.hok.fresh (Nat.le_refl _)
  refine set_of_tuple (P := X.prog) (w := X.w) (items := its.toArray) ks (I.ok.hd hc) ⟨o, ho, hcl, hd⟩ (by simpa using refs_of_vals rv) (fun p hp => I.isT (hk p hp)) hf (by omega) fun h' tk L es ep t R g k => ?_
  refine ⟨.ref s.heap.objs.size, upd H s.heap.objs.size (SetTO X.prog X.w s.heap.objs.size L), I.laid (t' := tk) k (Nat.le_refl _) (setTO_new R.t0), rfl, q _ L hn (fun p hp => ?_) fun p hp => ?_⟩
  · exact List.mem_of_mem_take (g.sub p hp)
  · exact g.all p (by rw [List.take_length]; exact hp)
def rSetOf2 (K : PySem.W.Frag) (P : Program) (w : World) : List V → Hp → VK → Prop := fun xs H Q => rSetOfT K P w xs H Q ∨ rSetOfU K P w xs H Q
theorem cr_setOf2 (hc : X.calm = true) (hu : X.A.units + 64 < cLine) : CallR X (.type "set") (rSetOf2 X.K X.prog X.w) := by
  intro pins s σ H xs us Q I r h
  rcases h with h | h
  · exact cr_setOfT hc hu pins s σ H xs us Q I r h
  · exact cr_setOfU hc hu pins s σ H xs us Q I r h
end
/-! xs[::k] -/
def stpL {α : Type} (k : Int) (xs : List α) : List α := (sliceRange 0 xs.length k).filterMap (xs[·]?)
theorem stp_pick {k : Int} (hk : 0 < k) (items : Array Value) : slicePick items none none (some k) = (stpL k items.toList).toArray := by
  unfold slicePick stpL
  have e : sliceBounds none none (some k) items.size = (0, (items.size : Int), k) := by
    unfold sliceBounds
    simp [hk]
  rw [e]
  simp
theorem vals_pick {xs : List V} {us : List Value} (r : Vals xs us) : ∀ js : List Nat, Vals (js.filterMap (xs[·]?)) (js.filterMap (us[·]?))
  | [] => .nil
  | j :: js => by
    have hl := r.length
    by_cases h : j < xs.length
    · obtain ⟨u, h1, h2⟩ := r.get (List.getElem?_eq_getElem h)
      rw [List.filterMap_cons_some (List.getElem?_eq_getElem h), List.filterMap_cons_some h1]
      exact .cons h2 (vals_pick r js)
    · rw [List.filterMap_cons_none (List.getElem?_eq_none (by omega)), List.filterMap_cons_none (List.getElem?_eq_none (by omega))]
      exact vals_pick r js
theorem stp_len {α : Type} {k : Int} (hk : 0 < k) (xs : List α) : (stpL k xs).length ≤ xs.length :=
  Nat.le_trans (List.length_filterMap_le ..) (sliceRange_length_le 0 xs.length k xs.length (fun _ => ⟨Int.le_refl _, Int.le_refl _⟩) fun h => absurd hk h)
section
variable [FnTab] {K : PySem.W.Frag} {w : Wd}
theorem Reps.pick {vs : List V} {ds : List D} (r : Reps K w vs ds) : ∀ js : List Nat, Reps K w (js.filterMap (vs[·]?)) (js.filterMap (ds[·]?))
  | [] => .nil
  | j :: js => by
    have hl := r.length
    by_cases h : j < ds.length
    · obtain ⟨u, h1, h2⟩ := r.get (List.getElem?_eq_getElem h)
      rw [List.filterMap_cons_some (List.getElem?_eq_getElem h), List.filterMap_cons_some h1]
      exact .cons h2 (r.pick js)
    · rw [List.filterMap_cons_none (List.getElem?_eq_none (by omega)), List.filterMap_cons_none (List.getElem?_eq_none (by omega))]
      exact r.pick js
theorem Reps.stp {vs : List V} {ds : List D} (r : Reps K w vs ds) (k : Int) : Reps K w (stpL k vs) (stpL k ds) := by
  unfold stpL
  rw [r.length]
  exact r.pick _
end
section
variable {X : Cx}
def tStp (K : PySem.W.Frag) (k : Int) (te : TE) : TE := fun σ H Q => te σ H fun x H1 => ∃ a xs, x = .ref a ∧ SqL K H1 a xs ∧ ∀ p, H1 p = none → Q (.ref p) (upd H1 p (.lst (stpL k xs)))
theorem pe_stp {e : Expr} {te : TE} {k : Int} {u : Nat} {p1 p3 pos : Pos} (hk : 0 < k) (he : PE X e te) : PE X (.Subscript e (.Slice none none (some (.Constant (.int k) u p1)) p3) pos) (tStp X.K k te) := by
  refine ⟨fun pins s σ H Q I h => ?_⟩
  refine Subscript_ (thn (he.run pins s σ H _ I h) fun v s1 ⟨x, H1, I1, r1, q1⟩ => ?_)
  obtain ⟨a, xs, ex, hx, q⟩ := q1
  subst ex
  cases r1
  have hst : PO X (some (.Constant (.int k) u p1)) (tPart (tC (.int k))) := po_some pe_int
  refine wpAny_Slice (thn (po_none.run pins s1 σ H1 (fun o H2 => o = none ∧ H2 = H1) I1 ⟨rfl, rfl⟩) fun vl s2 ⟨l, H2, I2, pl, el, e2⟩ => ?_)
  subst el e2
  refine thn (po_none.run pins s2 σ H2 (fun o H3 => o = none ∧ H3 = H2) I2 ⟨rfl, rfl⟩) fun vu s3 ⟨o3, H3, I3, pu, eu, e3⟩ => ?_
  subst eu e3
  refine thn (hst.run pins s3 σ H3 (fun o H4 => o = some k ∧ H4 = H3) I3 ⟨k, rfl, rfl, rfl⟩) fun vs s4 ⟨o, H4, I4, ps, eo, e4⟩ => ?_
  subst eo e4
  have I5 : Inv X pins σ H4 { s4 with heap := s4.heap.push { cls := .type "slice", data := .fields #[vl, vu, vs] } } := I4.kept (t' := s4.toks) fun b ob q => Heap.get?_push_of_some _ q
  obtain ⟨its, r, ht, hz⟩ := I5.list hx
  have hlen := r.length
  show wpAny (model X.prog X.w) X.A (subscriptTail e (.Slice none none (some (.Constant (.int k) u p1)) p3) (.ref a) (.ref s4.heap.objs.size)) (EP X pins σ Q) X.xe { s4 with heap := s4.heap.push { cls := .type "slice", data := .fields #[vl, vu, vs] } }
  refine tail_any (ops := [.ref a, .ref s4.heap.objs.size]) ht.isList.typeIs (PySem.slot_list_getitem.lookup) ?_ (by with_unfolding_all rfl)
  refine wpAny_getItem_list_slice ht.isList (Heap.IsSliceOf.new _ vl vu vs) pl pu ps (fun z => by cases z; exact absurd hk (by decide)) ?_ (by rw [List.size_toArray]; omega)
  rw [stp_pick hk]
  have hv : Vals (stpL k xs) (stpL k its) := by
    unfold stpL
    rw [hlen]
    exact vals_pick r _
  refine ⟨.ref _, _, I5.laid (t' := s4.toks) (o := .lst (stpL k xs)) (fun b ob q => Heap.get?_push_of_some _ q) (Nat.le_refl _) ?_, rfl, q _ (I5.hok.fresh (Nat.le_refl _))⟩
  exact ⟨Nat.le_trans (stp_len hk xs) hz, _, 0, hv, Heap.get?_push_size _ rfl⟩
end
section
variable [FnTab] {K : PySem.W.Frag} {X : Cx} {pos p pos2 p2 : Pos} {e : Expr} {f : Ex} {l : Ea}
def o_stp (k : Int) : D → Option R
  | .lst ds => some (.own (.lst (stpL k ds)))
  | _ => none
theorem em_stp {te : TE} {k : Int} (hf : EM K te f) : EM K (tStp K k te) (e1 (o_stp k) f) := by
  intro w0 w σ env e z env' h Q q
  obtain ⟨⟨x, e1⟩, h1, h⟩ := Option.bind_eq_some_iff.mp h
  obtain ⟨z', h3, h⟩ := Option.bind_eq_some_iff.mp h
  cases h
  refine hf.v w0 w σ env e x _ h1 _ fun v w1 E1 s1 r1 => ?_
  have fin : ∀ v w', PStep w1 w' → Good w' → RepZ K w1 w' v z → Q v w'.H := fun v w' s g r => q v w' (E1.grow s g) (s1.trans s.step) (r.r E1)
  cases r1 with
  | lst l r => exact ⟨_, _, rfl, l.sq, fun p hp => outL E1.good hp (r.stp k) h3 fin⟩
  | _ => first | cases h3 | cases hh
theorem x_stp {k : Int} {u : Nat} {p1 p3 : Pos} (ha : XE X e f) (hk : 0 < k := by decide) : XE X (.Subscript e (.Slice none none (some (.Constant (.int k) u p1)) p3) pos) (e1 (o_stp k) f) :=
  let ⟨_, p, q⟩ := ha; ⟨_, pe_stp hk p, em_stp q⟩
/-! len(set(xs)) -/
def lsetR (ds : List D) : Option R := if ds.length < 64 then (tzL ds).bind fun ks => some (.val (.int (nub ks).length)) else none
def o_lset2 : D → Option R
  | .lst ds => lsetR ds
  | .tup ds => lsetR ds
  | _ => none
def rLenSet2 (K : PySem.W.Frag) (P : Program) (w : World) : List V → Hp → VK → Prop := fun vs H Q => rSetOf2 K P w vs H fun v H1 => rLenT K P w [v] H1 Q
theorem cl_lset2 {P : Program} {W : World} : ClM K (rLenSet2 K P W) (f1 o_lset2) := by
  refine clm_1 fun w g x a r z h Q q => ?_
  have main : ∀ (ad : Addr) (xs : List V) (ds : List D), Reps K w xs ds → lsetR ds = some z → ∃ ps : List (Addr × List Int), xs = ps.map (fun p => V.ref p.1) ∧ (∀ p ∈ ps, SqT K w.H p.1 (p.2.map V.int)) ∧ ps.length < 64 ∧
      ∀ b L, w.H b = none → (∀ p ∈ L, p ∈ ps) → (∀ p ∈ ps, p.2 ∈ L.map (·.2)) → rLenT K P W [V.ref b] (upd w.H b (SetTO P W b L)) Q := by
    intro ad xs ds rs h
    unfold lsetR at h
    split at h
    · rename_i hl
      obtain ⟨ks, h1, h⟩ := Option.bind_eq_some_iff.mp h
      obtain ⟨ps, e1, e2, e3, e5, e4⟩ := tzL_of rs h1
      subst e2
      have hp : ps.length = ds.length := by rw [e4, List.length_map, ← e1, List.length_map]
      refine ⟨ps, rfl, e3, by omega, fun b L hb hs hc => ⟨b, L, rfl, upd_same, fun p hp => ?_, fun nd => ?_⟩⟩
      · exact tup_sq ((e5 p (hs p hp)).go g (Wd.put_step (o := SetTO P W b L) hb).step)
      · have pm : (L.map (·.2)).Perm (nub ks) := nub_perm nd fun k => by
          rw [← e1]
          refine ⟨fun hk => ?_, fun hk => ?_⟩
          · obtain ⟨p, hp, rfl⟩ := List.mem_map.mp hk
            exact List.mem_map.mpr ⟨p, hs p hp, rfl⟩
          · obtain ⟨p, hp, rfl⟩ := List.mem_map.mp hk
            exact hc p hp
        have hlen := pm.length_eq
        rw [List.length_map] at hlen
        cases h
        rw [hlen]
        exact q (.int _) (w.put b (SetTO P W b L)) (Wd.put_step hb) (Wd.put_good g hb) (.int _)
    · cases h
  cases r with
  | @lst ad xs ds l rs =>
    obtain ⟨ps, e, h1, h2, h3⟩ := main ad xs ds rs h
    subst e
    exact .inl ⟨ad, ps, rfl, l.sq, h1, h2, h3⟩
  | @tup ad xs ds l rs =>
    obtain ⟨ps, e, h1, h2, h3⟩ := main ad xs ds rs h
    subst e
    exact .inr ⟨ad, ps, rfl, l.sq, h1, h2, h3⟩
  | _ => first | cases h | cases hh
theorem x_lset2 (hc : X.calm = true) (hu : X.A.units + 64 < cLine) (hm : X.mg "len" = none) (hm2 : X.mg "set" = none) (ha : XA X [e] l) (hg : Gl X "len" := by rfl) (hg2 : Gl X "set" := by rfl)
    (he : starEach [.Call (.Name "set" p2) [e] [] pos2] X.env = (false, eval (.Call (.Name "set" p2) [e] [] pos2) X.env) :: starEach [] X.env := by rfl) (hpl : (backTo pos (starEach [] X.env)).any (·.1) = false := by rfl)
    (he2 : starEach [e] X.env = (false, eval e X.env) :: starEach [] X.env := by rfl) (hpl2 : (backTo pos2 (starEach [] X.env)).any (·.1) = false := by rfl) :
    XE X (.Call (.Name "len" p) [.Call (.Name "set" p2) [e] [] pos2] [] pos) (eB (f1 o_lset2) l) :=
  let ⟨_, p', q'⟩ := ha
  ⟨_, pe_callB cr_lenT hg hm (by decide +kernel) (pa_cons (pe_callTy (cr_setOf2 hc hu) hg2 hm2 (by decide +kernel) p' (by decide) (by decide) he2 hpl2) pa_nil he) (by decide) (by decide) he hpl, em_B (r := rLenSet2 X.K X.prog X.w) cl_lset2 q'⟩
end
end Vz
set_option maxRecDepth 100000
set_option maxHeartbeats 1000000
/-! Vm: what the mirrors reckon, evaluated from the front. -/
namespace Vz
open PySem PySem.Spec PyProof.Rows L2
def Ok {α : Type} (o : Option α) (P : α → Prop) : Prop := ∃ x, o = some x ∧ P x
section
variable {α β : Type} {P Q : α → Prop}
theorem Ok_some {x : α} : Ok (some x) P ↔ P x := by
  constructor
  · rintro ⟨_, e, h⟩; cases e; exact h
  · intro h; exact ⟨x, rfl, h⟩
theorem Ok_none : Ok (none : Option α) P ↔ False := by
  constructor
  · rintro ⟨_, e, h⟩; cases e
  · intro h; exact h.elim
/-- what comes behind -/
def Th (f : β → Option α) (P : α → Prop) (x : β) : Prop := Ok (f x) P
theorem Th_eq {f : β → Option α} {x : β} : Th f P x ↔ Ok (f x) P := Iff.rfl
theorem Ok_bind {o : Option β} {f : β → Option α} : Ok (o.bind f) P ↔ Ok o (Th f P) := by
  cases o with
  | none => rw [Option.bind_none, Ok_none, Ok_none]
  | some x => rw [Option.bind_some, Ok_some]; exact Iff.rfl
theorem Ok_ite {c : Prop} [Decidable c] {a b : Option α} : Ok (if c then a else b) P ↔ if c then Ok a P else Ok b P := by
  split <;> exact Iff.rfl
theorem Ok_need {c : Prop} [Decidable c] {a : Option α} : Ok (if c then a else none) P ↔ c ∧ Ok a P := by
  split
  · rename_i h; exact ⟨fun k => ⟨h, k⟩, fun k => k.2⟩
  · rename_i h
    constructor
    · intro k; exact (Ok_none.mp k).elim
    · intro k; exact absurd k.1 h
theorem Ok.mono {o : Option α} (h : Ok o P) (k : ∀ x, P x → Q x) : Ok o Q := let ⟨x, e, p⟩ := h; ⟨x, e, k x p⟩
theorem Ok.of {o : Option α} {x : α} (e : o = some x) (h : P x) : Ok o P := ⟨x, e, h⟩
theorem Ok.eq {o : Option α} {x : α} (h : Ok o fun y => y = x) : o = some x := let ⟨_, e, p⟩ := h; by rw [e, p]
end

/-! ### the parts, with a state at hand; what comes behind them is named, not written out -/
section
variable {env e e' : List Sl} {f g h : Ex} {c c' : Et} {a b : Cm} {d x y : D} {r : R} {tr : Bool} {ds ds' : List D} {i j k n : Nat}
/-! values -/
def kvf (p : R × List Sl) : Option (D × List Sl) := some (p.1.d, p.2)
theorem vf_eq : vf f env = (f env).bind kvf := by unfold vf; cases f env <;> rfl
theorem kvf_eq : kvf (r, e) = some (r.d, e) := rfl
theorem e_c_eq : e_c d env = some (.val d, env) := rfl
theorem vc_eq : vf (e_c d) env = some (d, env) := rfl
def getV (s : Option Sl) (env : List Sl) : Option (R × List Sl) := match s with
  | some (.val d) => some (.val d, env)
  | _ => none
theorem e_v_eq : e_v i env = getV env[i]? env := by unfold e_v getV; rfl
theorem getV_eq : getV (some (.val d)) env = some (.val d, env) := rfl
def getW (s : Option Sl) (env : List Sl) : Option (D × List Sl) := match s with
  | some (.val d) => some (d, env)
  | _ => none
theorem vv_eq : vf (e_v i) env = getW env[i]? env := by
  unfold vf e_v getW
  cases env[i]? with
  | none => rfl
  | some s => cases s <;> rfl
theorem getW_eq : getW (some (.val d)) env = some (d, env) := rfl
def getT (i : Nat) (s : Option Sl) (env : List Sl) : Option (R × List Sl) := match s with
  | some (.own o) => some (.own o, env.set i .no)
  | _ => none
theorem e_take_eq : e_take i env = getT i env[i]? env := by unfold e_take getT; rfl
theorem getT_eq {o : Ow} : getT i (some (.own o)) env = some (.own o, env.set i .no) := rfl
def getF (i : Nat) (s : Option Sl) (env : List Sl) : Option (R × List Sl) := match s with
  | some (.own o) => some (.val o.d, env.set i (.val o.d))
  | some (.val d) => some (.val d, env)
  | _ => none
theorem e_fz_eq : e_fz i env = getF i env[i]? env := by unfold e_fz getF; rfl
theorem getF_own {o : Ow} : getF i (some (.own o)) env = some (.val o.d, env.set i (.val o.d)) := rfl
theorem getF_val : getF i (some (.val d)) env = some (.val d, env) := rfl
/-! operators -/
def k1 (op : D → Option R) (p : D × List Sl) : Option (R × List Sl) := (op p.1).bind fun z => some (z, p.2)
def kz (e : List Sl) (z : R) : Option (R × List Sl) := some (z, e)
theorem kz_eq : kz e r = some (r, e) := rfl
theorem k1_eq {op : D → Option R} : k1 op (x, e) = (op x).bind (kz e) := rfl
def k2b (op : D → D → Option R) (x : D) (q : D × List Sl) : Option (R × List Sl) := (op x q.1).bind fun z => some (z, q.2)
def k2 (op : D → D → Option R) (g : Ex) (p : D × List Sl) : Option (R × List Sl) := (vf g p.2).bind (k2b op p.1)
theorem e2_eq {op : D → D → Option R} : e2 op f g env = (vf f env).bind (k2 op g) := rfl
theorem k2_eq {op : D → D → Option R} : k2 op g (x, e) = (vf g e).bind (k2b op x) := rfl
theorem k2b_eq {op : D → D → Option R} : k2b op x (y, e) = (op x y).bind (kz e) := rfl
theorem e1_eq {op : D → Option R} : e1 op f env = (vf f env).bind (k1 op) := rfl
def klf (e : List Sl) (z : R) : Option (R × List Sl) := if z.lf = true then some (z, e) else none
theorem klf_eq : klf e r = if r.lf = true then some (r, e) else none := rfl
def k2o' (op : D → D → Option R) (s : Option Ow) (y : D) (e : List Sl) : Option (R × List Sl) := match s with
  | some o => (op o.d y).bind (klf e)
  | none => none
theorem k2o'_eq {op : D → D → Option R} {o : Ow} : k2o' op (some o) y e = (op o.d y).bind (klf e) := rfl
def k2o (op : D → D → Option R) (i : Nat) (q : D × List Sl) : Option (R × List Sl) := k2o' op (owOf q.2[i]?) q.1 q.2
theorem k2o_eq {op : D → D → Option R} : k2o op i (y, e) = k2o' op (owOf e[i]?) y e := rfl
def has {α : Type} (s : Option Ow) (z : Option α) : Option α := match s with
  | some _ => z
  | none => none
theorem has_eq {α : Type} {o : Ow} {z : Option α} : has (some o) z = z := rfl
theorem e2o_eq {op : D → D → Option R} : e2o op i g env = has (owOf env[i]?) ((vf g env).bind (k2o op i)) := by
  unfold e2o has k2o k2o'
  cases owOf env[i]? with
  | none => rfl
  | some o =>
    simp only
    congr 1
def k2r' (op : D → D → Option R) (s : Option Ow) (x : D) (e : List Sl) : Option (R × List Sl) := match s with
  | some o => (op x o.d).bind (klf e)
  | none => none
theorem k2r'_eq {op : D → D → Option R} {o : Ow} : k2r' op (some o) x e = (op x o.d).bind (klf e) := rfl
def k2r (op : D → D → Option R) (i : Nat) (q : D × List Sl) : Option (R × List Sl) := k2r' op (owOf q.2[i]?) q.1 q.2
theorem k2r_eq {op : D → D → Option R} : k2r op i (x, e) = k2r' op (owOf e[i]?) x e := rfl
theorem e2r_eq {op : D → D → Option R} : e2r op f i env = (vf f env).bind (k2r op i) := by
  unfold e2r
  congr 1
def kBo (op : List D → Option R) (s : Option Ow) (e : List Sl) : Option (R × List Sl) := match s with
  | some o => (op [o.d]).bind (klf e)
  | none => none
theorem kBo_eq {op : List D → Option R} {o : Ow} : kBo op (some o) e = (op [o.d]).bind (klf e) := rfl
theorem eBo_eq {op : List D → Option R} : eBo op i env = kBo op (owOf env[i]?) env := by
  unfold eBo kBo
  cases owOf env[i]? <;> rfl
/-! lists of arguments -/
def kB (op : List D → Option R) (p : List D × List Sl) : Option (R × List Sl) := (op p.1).bind (kz p.2)
theorem eB_eq {op : List D → Option R} {l : Ea} : eB op l env = (l env).bind (kB op) := rfl
theorem kB_eq {op : List D → Option R} : kB op (ds, e) = (op ds).bind (kz e) := rfl
def ka2 (x : D) (q : List D × List Sl) : Option (List D × List Sl) := some (x :: q.1, q.2)
def ka (l : Ea) (p : D × List Sl) : Option (List D × List Sl) := (l p.2).bind (ka2 p.1)
theorem a_nil_eq : a_nil env = some ([], env) := rfl
theorem a_cons_eq {l : Ea} : a_cons f l env = (vf f env).bind (ka l) := rfl
theorem ka_eq {l : Ea} : ka l (x, e) = (l e).bind (ka2 x) := rfl
theorem ka2_eq : ka2 x (ds, e) = some (x :: ds, e) := rfl
def kr2 (x : AV) (q : List AV × List Sl) : Option (List AV × List Sl) := some (x :: q.1, q.2)
def kr (l : Er) (p : D × List Sl) : Option (List AV × List Sl) := (l p.2).bind (kr2 (.d p.1))
theorem r_nil_eq : r_nil env = some ([], env) := rfl
theorem r_v_eq {l : Er} : r_v f l env = (vf f env).bind (kr l) := rfl
theorem kr_eq {l : Er} : kr l (x, e) = (l e).bind (kr2 (.d x)) := rfl
theorem kr2_eq {v : AV} {vs : List AV} : kr2 v (vs, e) = some (v :: vs, e) := rfl
theorem r_m_eq {l : Er} : r_m i l env = if isO env[i]? = true then (l env).bind (kr2 (.m i)) else none := rfl
def kc3 (as : List AV) (e : List Sl) (q : R × List Sl) : Option (R × List Sl) := some (q.1, backs as q.2 e)
theorem kc3_eq {as : List AV} {e1 : List Sl} : kc3 as e (r, e1) = some (r, backs as e1 e) := rfl
def kc2 (m : FM) (as : List AV) (e : List Sl) (ss : List Sl) : Option (R × List Sl) := (m ss).bind (kc3 as e)
theorem kc2_eq {m : FM} {as : List AV} {ss : List Sl} : kc2 m as e ss = (m ss).bind (kc3 as e) := rfl
def kc (m : FM) (dd : List D) (p : List AV × List Sl) : Option (R × List Sl) := if (msOf p.1).Nodup then (slotsOf p.2 (p.1 ++ dd.map AV.d)).bind (kc2 m (p.1 ++ dd.map AV.d) p.2) else none
theorem kc_eq {m : FM} {dd : List D} {vs : List AV} : kc m dd (vs, e) = if (msOf vs).Nodup then (slotsOf e (vs ++ dd.map AV.d)).bind (kc2 m (vs ++ dd.map AV.d) e) else none := rfl
theorem e_call_eq {m : FM} {dd : List D} {l : Er} : e_call m dd l env = (l env).bind (kc m dd) := rfl
def kso (as : List AV) (e : List Sl) (o : Ow) : Option (List Sl) := (slotsOf e as).bind fun ss => some (.arg o :: ss)
def ksl (s : Sl) (ss : List Sl) : Option (List Sl) := some (s :: ss)
theorem ksl_eq {s : Sl} {ss : List Sl} : ksl s ss = some (s :: ss) := rfl
theorem kso_eq {as : List AV} {o : Ow} : kso as e o = (slotsOf e as).bind (ksl (.arg o)) := rfl
theorem slotsOf_nil : slotsOf e [] = some [] := rfl
theorem slotsOf_d {as : List AV} : slotsOf e (.d x :: as) = (slotsOf e as).bind (ksl (.val x)) := rfl
theorem slotsOf_m {as : List AV} : slotsOf e (.m i :: as) = (owOf e[i]?).bind (kso as e) := rfl
theorem msOf_nil : msOf [] = [] := rfl
theorem msOf_d {as : List AV} : msOf (.d x :: as) = msOf as := rfl
theorem msOf_m {as : List AV} : msOf (.m i :: as) = i :: msOf as := rfl
theorem owOf_own {o : Ow} : owOf (some (.own o)) = some o := rfl
theorem owOf_arg {o : Ow} : owOf (some (.arg o)) = some o := rfl
theorem isO_own {o : Ow} : isO (some (.own o)) = true := rfl
theorem isO_arg {o : Ow} : isO (some (.arg o)) = true := rfl
theorem backs_nil {ss : List Sl} : backs [] ss e = e := by cases ss <;> rfl
theorem backs_d {as : List AV} {s : Sl} {ss : List Sl} : backs (.d x :: as) (s :: ss) e = backs as ss e := rfl
theorem backs_m {as : List AV} {o : Ow} {ss : List Sl} : backs (.m i :: as) (.arg o :: ss) e = backs as ss (putOw e i o) := rfl
def putK (e : List Sl) (i : Nat) (o : Ow) (s : Option Sl) : List Sl := match s with
  | some (.own _) => e.set i (.own o)
  | some (.arg _) => e.set i (.arg o)
  | some s => e.set i s
  | none => e
theorem putOw_eq {o : Ow} : putOw e i o = putK e i o e[i]? := by
  unfold putOw putK
  cases e[i]? with
  | none => rfl
  | some s => cases s <;> rfl
theorem putK_own {o o' : Ow} : putK e i o (some (.own o')) = e.set i (.own o) := rfl
theorem putK_arg {o o' : Ow} : putK e i o (some (.arg o')) = e.set i (.arg o) := rfl
/-! tests -/
def kbf' (d : D) (e : List Sl) : Option (Bool × List Sl) := match d with
  | .bl b => some (b, e)
  | _ => none
def kbf (p : D × List Sl) : Option (Bool × List Sl) := kbf' p.1 p.2
theorem bf_eq : bf f env = (vf f env).bind kbf := by
  unfold bf
  congr 1
theorem kbf_eq : kbf (.bl tr, e) = some (tr, e) := rfl
def kand (c : Et) (p : Bool × List Sl) : Option (Bool × List Sl) := if p.1 = true then c p.2 else some (false, p.2)
def kor (c : Et) (p : Bool × List Sl) : Option (Bool × List Sl) := if p.1 = true then some (true, p.2) else c p.2
def knot (p : Bool × List Sl) : Option (Bool × List Sl) := some (!p.1, p.2)
def ktv (p : Bool × List Sl) : Option (R × List Sl) := some (.val (.bl p.1), p.2)
theorem t_and_eq : t_and c c' env = (c env).bind (kand c') := rfl
theorem t_or_eq : t_or c c' env = (c env).bind (kor c') := rfl
theorem t_not_eq : t_not c env = (c env).bind knot := rfl
theorem kand_eq : kand c (tr, e) = if tr = true then c e else some (false, e) := rfl
theorem kor_eq : kor c (tr, e) = if tr = true then some (true, e) else c e := rfl
theorem knot_eq : knot (tr, e) = some (!tr, e) := rfl
theorem tv_eq : tv c env = (c env).bind ktv := rfl
theorem ktv_eq : ktv (tr, e) = some (.val (.bl tr), e) := rfl
def kif (f g : Ex) (p : Bool × List Sl) : Option (R × List Sl) := if p.1 = true then f p.2 else g p.2
theorem e_if_eq : e_if c f g env = (c env).bind (kif f g) := rfl
theorem kif_eq : kif f g (tr, e) = if tr = true then f e else g e := rfl
def ktru (p : D × List Sl) : Option (Bool × List Sl) := (p.1.tru).bind fun b => some (b, p.2)
def ktr (e : List Sl) (b : Bool) : Option (Bool × List Sl) := some (b, e)
theorem ktr_eq : ktr e tr = some (tr, e) := rfl
theorem t_tru_eq : t_tru f env = (vf f env).bind ktru := rfl
theorem ktru_eq : ktru (x, e) = x.tru.bind (ktr e) := rfl
theorem tru_non : D.tru .non = some false := rfl
theorem tru_bl : D.tru (.bl tr) = some tr := rfl
theorem tru_int {z : Int} : D.tru (.int z) = some (z != 0) := rfl
theorem tru_tup : D.tru (.tup ds) = some (!ds.isEmpty) := rfl
theorem tru_lst : D.tru (.lst ds) = some (!ds.isEmpty) := rfl
theorem t_yes_eq : t_yes env = some (true, env) := rfl
/-- a < b < c -/
def kch4 (e : List Sl) (z : R) : Option (R × List Sl) := match z with
  | .val (.bl b) => some (.val (.bl b), e)
  | _ => none
theorem kch4_eq : kch4 e (.val (.bl tr)) = some (.val (.bl tr), e) := rfl
def kch3 (o2 : D → D → Option R) (y : D) (u : D × List Sl) : Option (R × List Sl) := (o2 y u.1).bind (kch4 u.2)
theorem kch3_eq {o2 : D → D → Option R} : kch3 o2 x (y, e) = (o2 x y).bind (kch4 e) := rfl
def kch2 (o2 : D → D → Option R) (h : Ex) (y : D) (e : List Sl) (z : R) : Option (R × List Sl) := match z with
  | .val (.bl b) => if b = true then (vf h e).bind (kch3 o2 y) else some (.val (.bl false), e)
  | _ => none
theorem kch2_eq {o2 : D → D → Option R} : kch2 o2 h y e (.val (.bl tr)) = if tr = true then (vf h e).bind (kch3 o2 y) else some (.val (.bl false), e) := rfl
def kch1 (o1 o2 : D → D → Option R) (h : Ex) (x : D) (q : D × List Sl) : Option (R × List Sl) := (o1 x q.1).bind (kch2 o2 h q.1 q.2)
theorem kch1_eq {o1 o2 : D → D → Option R} : kch1 o1 o2 h x (y, e) = (o1 x y).bind (kch2 o2 h y e) := rfl
def kch0 (o1 o2 : D → D → Option R) (g h : Ex) (p : D × List Sl) : Option (R × List Sl) := (vf g p.2).bind (kch1 o1 o2 h p.1)
theorem kch0_eq {o1 o2 : D → D → Option R} : kch0 o1 o2 g h (x, e) = (vf g e).bind (kch1 o1 o2 h x) := rfl
theorem e_chain_eq {o1 o2 : D → D → Option R} : e_chain o1 o2 f g h env = (vf f env).bind (kch0 o1 o2 g h) := by
  unfold e_chain
  congr 1
  funext p
  unfold kch0
  congr 1
  funext q
  unfold kch1
  congr 1
  funext z
  unfold kch2
  cases z with
  | own o => rfl
  | val d =>
    cases d with
    | bl b =>
      cases b with
      | true =>
        simp only [if_true]
        congr 1
      | false => rfl
    | _ => rfl
/-! slices -/
theorem p_no_eq : p_no env = some (none, env) := rfl
def kpa' (d : D) (e : List Sl) : Option (Option Int × List Sl) := match d with
  | .int i => some (some i, e)
  | _ => none
def kpa (p : D × List Sl) : Option (Option Int × List Sl) := kpa' p.1 p.2
theorem p_at_eq : p_at f env = (vf f env).bind kpa := by
  unfold p_at
  congr 1
theorem kpa_eq {z : Int} : kpa (.int z, e) = some (some z, e) := rfl
def ksl3 (x : D) (lo : Option Int) (u : Option Int × List Sl) : Option (R × List Sl) := (o_sl x lo u.1).bind (kz u.2)
theorem ksl3_eq {lo hi : Option Int} : ksl3 x lo (hi, e) = (o_sl x lo hi).bind (kz e) := rfl
def ksl2 (u : Eo) (x : D) (q : Option Int × List Sl) : Option (R × List Sl) := (u q.2).bind (ksl3 x q.1)
theorem ksl2_eq {u : Eo} {lo : Option Int} : ksl2 u x (lo, e) = (u e).bind (ksl3 x lo) := rfl
def ksl1 (l u : Eo) (p : D × List Sl) : Option (R × List Sl) := (l p.2).bind (ksl2 u p.1)
theorem ksl1_eq {l u : Eo} : ksl1 l u (x, e) = (l e).bind (ksl2 u x) := rfl
theorem e_sl_eq {l u : Eo} : e_sl f l u env = (vf f env).bind (ksl1 l u) := rfl
theorem o_sl_lst {lo hi : Option Int} : o_sl (.lst ds) lo hi = some (.own (.lst (cutL ds lo hi))) := rfl
theorem o_sl_tup {lo hi : Option Int} : o_sl (.tup ds) lo hi = some (.val (.tup (cutL ds lo hi))) := rfl
def kso3' (s : Option Ow) (lo hi : Option Int) (e : List Sl) : Option (R × List Sl) := match s with
  | some o => (o_sl o.d lo hi).bind (klf e)
  | none => none
theorem kso3'_eq {o : Ow} {lo hi : Option Int} : kso3' (some o) lo hi e = (o_sl o.d lo hi).bind (klf e) := rfl
def kso3 (i : Nat) (lo : Option Int) (t : Option Int × List Sl) : Option (R × List Sl) := kso3' (owOf t.2[i]?) lo t.1 t.2
theorem kso3_eq {lo hi : Option Int} : kso3 i lo (hi, e) = kso3' (owOf e[i]?) lo hi e := rfl
def kso2 (u : Eo) (i : Nat) (q : Option Int × List Sl) : Option (R × List Sl) := (u q.2).bind (kso3 i q.1)
theorem kso2_eq {u : Eo} {lo : Option Int} : kso2 u i (lo, e) = (u e).bind (kso3 i lo) := rfl
theorem e_slo_eq {l u : Eo} : e_slo i l u env = has (owOf env[i]?) ((l env).bind (kso2 u i)) := by
  unfold e_slo has
  cases owOf env[i]? with
  | none => rfl
  | some o =>
    simp only
    congr 1
/-! statements -/
def ksq (b : Cm) (o : Out) : Option Out := match o with
  | .nx e => b e
  | o => some o
theorem c_seq_eq : c_seq a b env = (a env).bind (ksq b) := by
  unfold c_seq
  congr 1
theorem ksq_nx : ksq b (.nx e) = b e := rfl
theorem ksq_rt : ksq b (.rt r e) = some (.rt r e) := rfl
theorem ksq_bk : ksq b (.bk e) = some (.bk e) := rfl
theorem ksq_ct : ksq b (.ct e) = some (.ct e) := rfl
theorem c_nx_eq : c_nx env = some (.nx env) := rfl
theorem c_bk_eq : c_bk env = some (.bk env) := rfl
theorem c_ct_eq : c_ct env = some (.ct env) := rfl
theorem c_retN_eq : c_retN env = some (.rt (.val .non) env) := rfl
def krt (p : R × List Sl) : Option Out := some (.rt p.1 p.2)
theorem c_ret_eq : c_ret f env = (f env).bind krt := rfl
theorem krt_eq : krt (r, e) = some (.rt r e) := rfl
def kex (p : R × List Sl) : Option Out := some (.nx p.2)
theorem c_ex_eq : c_ex f env = (f env).bind kex := rfl
theorem kex_eq : kex (r, e) = some (.nx e) := rfl
def kci (a b : Cm) (p : Bool × List Sl) : Option Out := if p.1 = true then a p.2 else b p.2
theorem c_if_eq : c_if c a b env = (c env).bind (kci a b) := rfl
theorem kci_eq : kci a b (tr, e) = if tr = true then a e else b e := rfl
def knx (e : List Sl) : Option Out := some (.nx e)
theorem knx_eq : knx e = some (.nx e) := rfl
def kas (t : Tg) (p : R × List Sl) : Option Out := (t p.1 p.2).bind knx
theorem c_asg_eq {t : Tg} : c_asg t f env = (f env).bind (kas t) := rfl
theorem kas_eq {t : Tg} : kas t (r, e) = (t r e).bind knx := rfl
theorem g_n_eq : g_n i r env = if i < env.length ∧ Sl.isArg env[i]? = false then some (env.set i r.sl) else none := rfl
theorem gv_eq {t : Tg} : gv t r env = t (.val r.d) env := rfl
theorem Rd_val : R.d (.val d) = d := rfl
theorem Rd_own {o : Ow} : R.d (.own o) = o.d := rfl
theorem Owd_lst : Ow.d (.lst ds) = .lst ds := rfl
theorem Rsl_val : R.sl (.val d) = .val d := rfl
theorem Rsl_own {o : Ow} : R.sl (.own o) = .own o := rfl
theorem isArg_val : Sl.isArg (some (.val d)) = false := rfl
theorem isArg_own {o : Ow} : Sl.isArg (some (.own o)) = false := rfl
theorem isArg_nov : Sl.isArg (some .no) = false := rfl
def kgs (u : Tgs) (ds : List D) (e : List Sl) : Option (List Sl) := u ds e
theorem gs_nil_eq : gs_nil [] env = some env := rfl
theorem gs_cons_eq {t : Tg} {u : Tgs} : gs_cons t u (d :: ds) env = (t (.val d) env).bind (kgs u ds) := rfl
theorem kgs_eq {u : Tgs} : kgs u ds e = u ds e := rfl
theorem g_tup_eq {u : Tgs} : g_tup n u (.val (.tup ds)) env = if ds.length = n then u ds env else none := rfl
def kp3 (e : List Sl) : Option Out := some (.nx e)
def kp2 (j : Nat) (y : D) (e : List Sl) : Option Out := (g_n j (.val y) e).bind knx
theorem kp2_eq : kp2 j y e = (g_n j (.val y) e).bind knx := rfl
def kp' (i j : Nat) (l : List D) (e : List Sl) : Option Out := match l with
  | [a, b] => (g_n i (.val a) e).bind (kp2 j b)
  | _ => none
def kp (i j : Nat) (p : List D × List Sl) : Option Out := kp' i j p.1 p.2
theorem c_par_eq {l : Ea} : c_par i j l env = (l env).bind (kp i j) := by
  unfold c_par
  congr 1
theorem kp_eq : kp i j ([x, y], e) = (g_n i (.val x) e).bind (kp2 j y) := rfl
def kq3 (k : Nat) (z : D) (e : List Sl) : Option Out := (g_n k (.val z) e).bind knx
theorem kq3_eq : kq3 k x e = (g_n k (.val x) e).bind knx := rfl
def kq2 (j k : Nat) (y z : D) (e : List Sl) : Option Out := (g_n j (.val y) e).bind (kq3 k z)
theorem kq2_eq : kq2 j k x y e = (g_n j (.val x) e).bind (kq3 k y) := rfl
def kq' (i j k : Nat) (l : List D) (e : List Sl) : Option Out := match l with
  | [a, b, c] => (g_n i (.val a) e).bind (kq2 j k b c)
  | _ => none
def kq (i j k : Nat) (p : List D × List Sl) : Option Out := kq' i j k p.1 p.2
theorem c_par3_eq {l : Ea} : c_par3 i j k l env = (l env).bind (kq i j k) := by
  unfold c_par3
  congr 1
theorem kq_eq {z : D} : kq i j k ([x, y, z], e) = (g_n i (.val x) e).bind (kq2 j k y z) := rfl
/-! objects of one's own, changed -/
def kap' (s : Option Ow) (i : Nat) (x : D) (e : List Sl) : Option (R × List Sl) := match s with
  | some (.lst ds) => if ds.length < 100000 then some (.val .non, putOw e i (.lst (ds ++ [x]))) else none
  | _ => none
theorem kap'_eq : kap' (some (.lst ds)) i x e = if ds.length < 100000 then some (.val .non, putOw e i (.lst (ds ++ [x]))) else none := rfl
def kap (i : Nat) (p : D × List Sl) : Option (R × List Sl) := kap' (owOf p.2[i]?) i p.1 p.2
theorem kap_eq : kap i (x, e) = kap' (owOf e[i]?) i x e := rfl
def hasL {α : Type} (s : Option Ow) (z : Option α) : Option α := match s with
  | some (.lst _) => z
  | _ => none
theorem hasL_eq {α : Type} {z : Option α} : hasL (some (.lst ds)) z = z := rfl
theorem e_app_eq : e_app i f env = hasL (owOf env[i]?) ((vf f env).bind (kap i)) := by
  unfold e_app hasL
  cases owOf env[i]? with
  | none => rfl
  | some o =>
    cases o with
    | lst ds =>
      simp only
      congr 1
theorem e_clr_eq : e_clr i env = hasL (owOf env[i]?) (some (.val .non, putOw env i (.lst []))) := by
  unfold e_clr hasL
  cases owOf env[i]? with
  | none => rfl
  | some o => cases o <;> rfl
def kix' (s : Option Ow) (i : Nat) (x y : D) (e : List Sl) : Option (List Sl) := match x, s with
  | .int k, some (.lst ds) => (ixN ds.length k).bind fun j => some (putOw e i (.lst (ds.set j y)))
  | _, _ => none
def kixs (i : Nat) (ds : List D) (y : D) (e : List Sl) (j : Nat) : Option (List Sl) := some (putOw e i (.lst (ds.set j y)))
theorem kixs_eq : kixs i ds y e j = some (putOw e i (.lst (ds.set j y))) := rfl
theorem kix'_eq {z : Int} : kix' (some (.lst ds)) i (.int z) y e = (ixN ds.length z).bind (kixs i ds y e) := rfl
def kix (i : Nat) (y : D) (p : D × List Sl) : Option (List Sl) := kix' (owOf p.2[i]?) i p.1 y p.2
theorem kix_eq : kix i y (x, e) = kix' (owOf e[i]?) i x y e := rfl
theorem g_ix_eq : g_ix i f (.val y) env = hasL (owOf env[i]?) ((vf f env).bind (kix i y)) := by
  unfold g_ix hasL
  cases owOf env[i]? with
  | none => rfl
  | some o =>
    cases o with
    | lst ds =>
      simp only
      congr 1
      funext p
      obtain ⟨d, e⟩ := p
      unfold kix kix'
      simp only
      cases d <;> cases owOf e[i]? <;> try rfl
/-! loops -/
theorem c_for_eq {t : Tg} {s : Src} : c_for t s b env = (s env).bind fun p => forGo t b p.1 p.2 := rfl
def kfo (t : Tg) (b : Cm) (p : List D × List Sl) : Option Out := forGo t b p.1 p.2
theorem c_for_eq' {t : Tg} {s : Src} : c_for t s b env = (s env).bind (kfo t b) := rfl
theorem kfo_eq {t : Tg} : kfo t b (ds, e) = forGo t b ds e := rfl
def kss (p : D × List Sl) : Option (List D × List Sl) := match p.1 with
  | .lst ds => some (ds, p.2)
  | .tup ds => some (ds, p.2)
  | _ => none
theorem s_seq_eq : s_seq f env = (vf f env).bind kss := by
  unfold s_seq
  congr 1
theorem kss_lst : kss (.lst ds, e) = some (ds, e) := rfl
theorem kss_tup : kss (.tup ds, e) = some (ds, e) := rfl
open Classical in
noncomputable def ksr (p : List D × List Sl) : Option (List D × List Sl) := match p.1 with
  | [.int j] => if rngOK j then some (rngL 0 j.toNat, p.2) else none
  | _ => none
theorem s_rng_eq {l : Ea} : s_rng l env = (l env).bind ksr := by
  unfold s_rng
  congr 1
open Classical in
theorem ksr_ok {z : Int} : ksr ([.int z], e) = if rngOK z then some (rngL 0 z.toNat, e) else none := by
  unfold ksr
  simp only
open Classical in
noncomputable def ksr2 (p : List D × List Sl) : Option (List D × List Sl) := match p.1 with
  | [.int i, .int j] => if rngOK i ∧ rngOK j then some (rngL i (j - i).toNat, p.2) else none
  | _ => none
theorem s_rng2_eq {l : Ea} : s_rng2 l env = (l env).bind ksr2 := by
  unfold s_rng2
  congr 1
open Classical in
theorem ksr2_ok {z u : Int} : ksr2 ([.int z, .int u], e) = if rngOK z ∧ rngOK u then some (rngL z (u - z).toNat, e) else none := by
  unfold ksr2
  simp only
def kse (p : List D × List Sl) : Option (List D × List Sl) := match p.1 with
  | [.lst ds] => some (enumL 0 ds, p.2)
  | _ => none
theorem s_enum_eq {l : Ea} : s_enum l env = (l env).bind kse := by
  unfold s_enum
  congr 1
theorem kse_eq : kse ([.lst ds], e) = some (enumL 0 ds, e) := rfl
def ksz (p : List D × List Sl) : Option (List D × List Sl) := match p.1 with
  | [.lst as, .lst bs] => some (zipL as bs, p.2)
  | [.tup as, .tup bs] => some (zipL as bs, p.2)
  | _ => none
theorem s_zip_eq {l : Ea} : s_zip l env = (l env).bind ksz := by
  unfold s_zip
  congr 1
theorem ksz_lst : ksz ([.lst ds, .lst ds'], e) = some (zipL ds ds', e) := rfl
theorem ksz_tup : ksz ([.tup ds, .tup ds'], e) = some (zipL ds ds', e) := rfl
/-! defs -/
def kfn (args : List Sl) (o : Out) : Option (R × List Sl) := match o with
  | .rt r e => some (r, outArgs args e)
  | .nx e => some (.val .non, outArgs args e)
  | _ => none
theorem fnM_eq {args : List Sl} {cm : Cm} (h1 : args.length = k) (h2 : args.all okArg = true) : fnM n k cm args = (cm (args ++ List.replicate (n - k) .no)).bind (kfn args) := by
  unfold fnM
  rw [if_pos ⟨h1, h2⟩]
  congr 1
theorem Ok_fn {args : List Sl} {cm : Cm} {P : R × List Sl → Prop} (h1 : args.length = k) (h2 : args.all okArg = true) (h : Ok (cm (args ++ List.replicate (n - k) .no)) (Th (kfn args) P)) : Ok (fnM n k cm args) P := by
  rw [fnM_eq h1 h2]
  exact Ok_bind.mpr h
theorem kfn_rt {args : List Sl} : kfn args (.rt r e) = some (r, outArgs args e) := rfl
theorem kfn_nx {args : List Sl} : kfn args (.nx e) = some (.val .non, outArgs args e) := rfl
end
/-! ### operators at work -/
section
variable {P : R → Prop} {i j : Int} {x y : Str} {a b : Bool} {ds ds' : List D} {d : D}
theorem ok_fdiv : Ok (o_fdiv (.int i) (.int j)) P ↔ (j ≠ 0 ∧ j.natAbs.log2 < 9000) ∧ P (.val (.int (i.fdiv j))) := by
  unfold o_fdiv o_II; exact (@Ok_need _ _ _ (Classical.propDecidable _) _).trans (and_congr Iff.rfl Ok_some)
theorem ok_mod : Ok (o_mod (.int i) (.int j)) P ↔ j ≠ 0 ∧ P (.val (.int (i.fmod j))) := by
  unfold o_mod o_II; exact (@Ok_need _ _ _ (Classical.propDecidable _) _).trans (and_congr Iff.rfl Ok_some)
theorem ok_pow : Ok (o_pow (.int i) (.int j)) P ↔ CPow i j ∧ P (.val (.int (i ^ j.toNat))) := by
  unfold o_pow o_II; exact (@Ok_need _ _ _ (Classical.propDecidable _) _).trans (and_congr Iff.rfl Ok_some)
theorem ok_mul : Ok (o_mul (.int i) (.int j)) P ↔ IntMulOk i j ∧ P (.val (.int (i * j))) := by
  unfold o_mul; exact (@Ok_need _ _ _ (Classical.propDecidable _) _).trans (and_congr Iff.rfl Ok_some)
theorem add_int : o_add (.int i) (.int j) = some (.val (.int (i + j))) := rfl
theorem ok_add_str : Ok (o_add (.str x) (.str y)) P ↔ x.length + y.length ≤ 100000 ∧ P (.val (.str (x ++ y))) := by
  unfold o_add; exact Ok_need.trans (and_congr Iff.rfl Ok_some)
theorem ok_add_lst : Ok (o_add (.lst ds) (.lst ds')) P ↔ ds.length + ds'.length ≤ 100000 ∧ P (.own (.lst (ds ++ ds'))) := by
  unfold o_add; exact Ok_need.trans (and_congr Iff.rfl Ok_some)
theorem ok_add_tup : Ok (o_add (.tup ds) (.tup ds')) P ↔ ds.length + ds'.length ≤ 100000 ∧ P (.val (.tup (ds ++ ds'))) := by
  unfold o_add; exact Ok_need.trans (and_congr Iff.rfl Ok_some)
theorem sub_int : o_sub (.int i) (.int j) = some (.val (.int (i - j))) := rfl
theorem neg_int : o_neg (.int i) = some (.val (.int (-i))) := rfl
theorem lt_int : o_lt (.int i) (.int j) = some (.val (.bl (decide (i < j)))) := rfl
theorem le_int' : o_le (.int i) (.int j) = some (.val (.bl (decide (i ≤ j)))) := rfl
theorem gt_int : o_gt (.int i) (.int j) = some (.val (.bl (decide (j < i)))) := rfl
theorem ge_int : o_ge (.int i) (.int j) = some (.val (.bl (decide (j ≤ i)))) := rfl
theorem eqv_int : (D.int i).eqv (.int j) = decide (i = j) := by
  show PyData.eqv (.int i) (.int j) = _
  simp only [PyData.eqv]
  rfl
theorem eqv_bl : (D.bl a).eqv (.bl b) = decide (a = b) := by
  show PyData.eqv (.bool a) (.bool b) = _
  simp only [PyData.eqv]
  cases a <;> cases b <;> rfl
theorem eq_int' : o_eq (.int i) (.int j) = some (.val (.bl (decide (i = j)))) := by
  unfold o_eq; rw [if_pos ⟨rfl, rfl⟩, eqv_int]
theorem ne_int' : o_ne (.int i) (.int j) = some (.val (.bl (!decide (i = j)))) := by
  unfold o_ne; rw [if_pos ⟨rfl, rfl⟩, eqv_int]
theorem eq_bl' : o_eq (.bl a) (.bl b) = some (.val (.bl (decide (a = b)))) := by
  unfold o_eq; rw [if_pos ⟨rfl, rfl⟩, eqv_bl]
theorem ne_bl' : o_ne (.bl a) (.bl b) = some (.val (.bl (!decide (a = b)))) := by
  unfold o_ne; rw [if_pos ⟨rfl, rfl⟩, eqv_bl]
theorem is_non : o_is d .non = some (.val (.bl d.isNon)) := by cases d <;> rfl
theorem isnt_non : o_isnt d .non = some (.val (.bl (!d.isNon))) := by cases d <;> rfl
theorem is_bl : o_is (.bl a) (.bl b) = some (.val (.bl (decide (a = b)))) := rfl
theorem isNon_non : D.isNon .non = true := rfl
theorem isNon_tup : D.isNon (.tup ds) = false := rfl
theorem isNon_int : D.isNon (.int i) = false := rfl
theorem isNon_str : D.isNon (.str x) = false := rfl
theorem isNon_lst : D.isNon (.lst ds) = false := rfl
theorem isNon_bl : D.isNon (.bl a) = false := rfl
theorem f1_eq {op : D → Option R} : f1 op [d] = op d := rfl
theorem f2_eq {op : D → D → Option R} {d' : D} : f2 op [d, d'] = op d d' := rfl
theorem abs_int : o_abs (.int i) = some (.val (.int (if i < 0 then -i else i))) := rfl
theorem int_int : o_int (.int i) = some (.val (.int i)) := rfl
theorem int_bl : o_int (.bl a) = some (.val (.int (if a then 1 else 0))) := rfl
theorem max_int : o_max2 (.int i) (.int j) = some (.val (.int (if j > i then j else i))) := rfl
theorem min_int : o_min2 (.int i) (.int j) = some (.val (.int (if j < i then j else i))) := rfl
theorem len_lst : o_len (.lst ds) = some (.val (.int ds.length)) := rfl
theorem len_tup : o_len (.tup ds) = some (.val (.int ds.length)) := rfl
theorem ok_tup : Ok (o_tup ds) P ↔ ds.length ≤ 100000 ∧ P (.val (.tup ds)) := by
  unfold o_tup; exact Ok_need.trans (and_congr Iff.rfl Ok_some)
theorem ok_lst : Ok (o_lst ds) P ↔ ds.length ≤ 100000 ∧ P (.own (.lst ds)) := by
  unfold o_lst; exact Ok_need.trans (and_congr Iff.rfl Ok_some)
theorem list_lst : o_list (.lst ds) = some (.own (.lst ds)) := rfl
theorem list_tup : o_list (.tup ds) = some (.own (.lst ds)) := rfl
theorem tuple_lst : o_tuple (.lst ds) = some (.val (.tup ds)) := rfl
theorem tuple_tup : o_tuple (.tup ds) = some (.val (.tup ds)) := rfl
def kat (d : D) : Option R := some (.val d)
theorem kat_eq : kat d = some (.val d) := rfl
theorem ix_lst : o_ix (.lst ds) (.int i) = (atI ds i).bind kat := rfl
theorem ix_tup' : o_ix (.tup ds) (.int i) = (atI ds i).bind kat := rfl
/-- places -/
theorem atI_nat' {α : Type} {xs : List α} {j : Nat} : atI xs (j : Int) = xs[j]? := by
  unfold atI ixN
  rw [if_pos (by omega)]
  by_cases h : (j : Int) < (xs.length : Int)
  · rw [if_pos h]; simp
  · rw [if_neg h, List.getElem?_eq_none (by omega)]; rfl
theorem atI_ge {α : Type} {xs : List α} {i : Int} (h : 0 ≤ i) : atI xs i = xs[i.toNat]? := by
  obtain ⟨j, rfl⟩ := Int.eq_ofNat_of_zero_le h
  rw [atI_nat', Int.toNat_natCast]
theorem atI_0 {α : Type} {xs : List α} : atI xs 0 = xs[0]? := atI_nat' (j := 0)
theorem atI_1 {α : Type} {xs : List α} : atI xs 1 = xs[1]? := atI_nat' (j := 1)
theorem atI_2 {α : Type} {xs : List α} : atI xs 2 = xs[2]? := atI_nat' (j := 2)
theorem atI_3 {α : Type} {xs : List α} : atI xs 3 = xs[3]? := atI_nat' (j := 3)
theorem atI_4 {α : Type} {xs : List α} : atI xs 4 = xs[4]? := atI_nat' (j := 4)
theorem atI_5 {α : Type} {xs : List α} : atI xs 5 = xs[5]? := atI_nat' (j := 5)
theorem atI_6 {α : Type} {xs : List α} : atI xs 6 = xs[6]? := atI_nat' (j := 6)
theorem atI_7 {α : Type} {xs : List α} : atI xs 7 = xs[7]? := atI_nat' (j := 7)
theorem atI_8 {α : Type} {xs : List α} : atI xs 8 = xs[8]? := atI_nat' (j := 8)
theorem atI_9 {α : Type} {xs : List α} : atI xs 9 = xs[9]? := atI_nat' (j := 9)
theorem atI_neg {α : Type} {xs : List α} {k : Nat} (h0 : 0 < k) (h : k ≤ xs.length) : atI xs (-(k : Int)) = xs[xs.length - k]? := by
  unfold atI ixN
  rw [if_neg (by omega), if_pos (by omega)]
  have : (-(k : Int) + (xs.length : Int)).toNat = xs.length - k := by omega
  rw [this]
  rfl
theorem atI_m1 {α : Type} {xs : List α} : atI xs (-1) = xs.getLast? := by
  cases xs with
  | nil => rfl
  | cons x r =>
    have := atI_neg (xs := x :: r) (k := 1) (by omega) (by simp)
    rw [show (-1 : Int) = -((1 : Nat) : Int) from rfl, this, List.getLast?_eq_getElem?]
theorem isi_eq {T : String} {c : Bool} (h : kitB d.typ T = some c) (hn : d.isFn = false := by rfl) : o_isi T d = some (.val (.bl c)) := by
  unfold o_isi; rw [if_pos hn, h]; rfl
theorem Rlf_val : (R.val d).lf = d.lf := rfl
theorem lf_int : (D.int i).lf = true := rfl
theorem lf_bl : (D.bl a).lf = true := rfl
theorem lf_str : (D.str x).lf = true := rfl
theorem lf_non : D.non.lf = true := rfl
theorem lf_tup : (D.tup ds).lf = D.lfs ds := rfl
theorem lfs_nil : D.lfs [] = true := rfl
theorem lfs_cons : D.lfs (d :: ds) = (d.lf && D.lfs ds) := rfl
end
end Vz
set_option maxRecDepth 100000
set_option maxHeartbeats 1000000
set_option exponentiation.threshold 20000
/-! Vn: loops by what holds; sizes of ints. -/
namespace Vz
open PySem PySem.Spec PyProof.Rows L2
section
variable {t : Tg} {b : Cm} {c : Et} {ds : List D} {env e : List Sl} {P : Out → Prop} {r : R} {i n : Nat}
/-- behind a turn -/
def Turn (I : List Sl → Prop) (P : Out → Prop) : Out → Prop
  | .nx e => I e
  | .ct e => I e
  | .bk e => P (.nx e)
  | .rt r e => P (.rt r e)
variable {J : List Sl → Prop}
theorem Turn_nx : Turn J P (.nx e) ↔ J e := Iff.rfl
theorem Turn_ct : Turn J P (.ct e) ↔ J e := Iff.rfl
theorem Turn_bk : Turn J P (.bk e) ↔ P (.nx e) := Iff.rfl
theorem Turn_rt : Turn J P (.rt r e) ↔ P (.rt r e) := Iff.rfl
theorem forGo_ok (I : Nat → List Sl → Prop) (h0 : I 0 env) (hs : ∀ (i : Nat) (d : D) (e : List Sl), ds[i]? = some d → I i e → Ok (t (.val d) e) (Th b (Turn (I (i + 1)) P))) (he : ∀ e, I ds.length e → P (.nx e)) : Ok (forGo t b ds env) P := by
  induction ds generalizing env I with
  | nil => exact Ok_some.mpr (he env h0)
  | cons d ds ih =>
    obtain ⟨e1, h1, o, h2, h3⟩ := hs 0 d env rfl h0
    show Ok ((t (.val d) env).bind _) P
    rw [h1, Option.bind_some, h2, Option.bind_some]
    have go : ∀ e2, I 1 e2 → Ok (forGo t b ds e2) P := fun e2 k => ih (fun i e => I (i + 1) e) k (fun i d' e hd hi => hs (i + 1) d' e (by simpa using hd) hi) he
    cases o with
    | nx e2 => exact go e2 h3
    | ct e2 => exact go e2 h3
    | bk e2 => exact Ok_some.mpr h3
    | rt r e2 => exact Ok_some.mpr h3
theorem forRng_ok {lo : Int} (I : Nat → List Sl → Prop) (h0 : I 0 env) (hs : ∀ (i : Nat) (e : List Sl), i < n → I i e → Ok (t (.val (.int (lo + (i : Int)))) e) (Th b (Turn (I (i + 1)) P))) (he : ∀ e, I n e → P (.nx e)) : Ok (forGo t b (rngL lo n) env) P := by
  refine forGo_ok I h0 (fun i d e hd hi => ?_) (fun e h => he e (by rw [rngL_length] at h; exact h))
  obtain ⟨h1, rfl⟩ := rngL_get hd
  exact hs i e h1 hi
/-- behind a test of a while -/
def WTurn (b : Cm) (I : Nat → List Sl → Prop) (m : Nat) (P : Out → Prop) (p : Bool × List Sl) : Prop := if p.1 = true then Ok (b p.2) (Turn (fun e => ∃ k, k < m ∧ I k e) P) else P (.nx p.2)
theorem WTurn_eq {I : Nat → List Sl → Prop} {m : Nat} {x : Bool} : WTurn b I m P (x, e) ↔ if x = true then Ok (b e) (Turn (fun e => ∃ k, k < m ∧ I k e) P) else P (.nx e) := Iff.rfl
theorem whGo_ok (I : Nat → List Sl → Prop) (hs : ∀ m e, I m e → Ok (c e) (WTurn b I m P)) : ∀ (n m : Nat) (env : List Sl), m < n → I m env → Ok (whGo c b n env) P := by
  intro n
  induction n with
  | zero => intro m env h; omega
  | succ n ih =>
    intro m env hm hI
    obtain ⟨⟨x, e1⟩, h1, h2⟩ := hs m env hI
    show Ok ((c env).bind _) P
    rw [h1, Option.bind_some]
    cases x with
    | false => exact Ok_some.mpr h2
    | true =>
      obtain ⟨o, h3, h4⟩ : Ok (b e1) (Turn (fun e => ∃ k, k < m ∧ I k e) P) := h2
      simp only [if_true]
      rw [h3, Option.bind_some]
      cases o with
      | nx e2 => obtain ⟨k, k1, k2⟩ := h4; exact ih k e2 (by omega) k2
      | ct e2 => obtain ⟨k, k1, k2⟩ := h4; exact ih k e2 (by omega) k2
      | bk e2 => exact Ok_some.mpr h4
      | rt r e2 => exact Ok_some.mpr h4
theorem c_wh_eq {fu : List Sl → Nat} : c_wh fu c b env = whGo c b (fu env) env := rfl
end

theorem Ok_atI {α : Type} {xs : List α} {i : Int} {P : α → Prop} (h0 : 0 ≤ i) (h1 : i < xs.length) : Ok (atI xs i) P ↔ P (xs[i.toNat]'(by omega)) := by
  rw [atI_ge h0, List.getElem?_eq_getElem (by omega), Ok_some]
theorem ixN_ge {n : Nat} {i : Int} (h0 : 0 ≤ i) (h1 : i < n) : ixN n i = some i.toNat := by
  unfold ixN
  rw [if_pos h0, if_pos h1]
theorem isi_int_int {i : Int} : o_isi "int" (.int i) = some (.val (.bl true)) := isi_eq (show kitB "int" "int" = some true by decide +kernel)
theorem isi_int_bool {i : Int} : o_isi "bool" (.int i) = some (.val (.bl false)) := isi_eq (show kitB "int" "bool" = some false by decide +kernel)
theorem isi_bool_bool {b : Bool} : o_isi "bool" (.bl b) = some (.val (.bl true)) := isi_eq (show kitB "bool" "bool" = some true by decide +kernel)
theorem isi_tup_tuple {ds : List D} : o_isi "tuple" (.tup ds) = some (.val (.bl true)) := isi_eq (show kitB "tuple" "tuple" = some true by decide +kernel)
theorem isi_tup_list {ds : List D} : o_isi "list" (.tup ds) = some (.val (.bl false)) := isi_eq (show kitB "tuple" "list" = some false by decide +kernel)
theorem isi_lst_list {ds : List D} : o_isi "list" (.lst ds) = some (.val (.bl true)) := isi_eq (show kitB "list" "list" = some true by decide +kernel)
theorem isi_str_str {x : Str} : o_isi "str" (.str x) = some (.val (.bl true)) := isi_eq (show kitB "str" "str" = some true by decide +kernel)
theorem isi_bool_int {b : Bool} : o_isi "int" (.bl b) = some (.val (.bl true)) := isi_eq (show kitB "bool" "int" = some true by decide +kernel)
theorem isi_lst_tuple {ds : List D} : o_isi "tuple" (.lst ds) = some (.val (.bl false)) := isi_eq (show kitB "list" "tuple" = some false by decide +kernel)
theorem isi_int_str {i : Int} : o_isi "str" (.int i) = some (.val (.bl false)) := isi_eq (show kitB "int" "str" = some false by decide +kernel)
theorem isi_non_tuple  : o_isi "tuple" (.non) = some (.val (.bl false)) := isi_eq (show kitB "NoneType" "tuple" = some false by decide +kernel)
theorem isi_int_tuple {i : Int} : o_isi "tuple" (.int i) = some (.val (.bl false)) := isi_eq (show kitB "int" "tuple" = some false by decide +kernel)
theorem cutL_length {α : Type} {xs : List α} {lo hi : Option Int} : (cutL xs lo hi).length ≤ xs.length := by
  unfold cutL
  rw [List.length_take, List.length_drop]
  omega
theorem cutL_to {α : Type} {xs : List α} {b : Int} (hb : 0 ≤ b) : cutL xs none (some b) = xs.take b.toNat := by
  unfold cutL
  rw [HT.sIx_none, List.drop_zero, Nat.sub_zero]
  obtain ⟨k, rfl⟩ := Int.eq_ofNat_of_zero_le hb
  rw [HT.sIx_nat, Int.toNat_natCast]
  by_cases h : k ≤ xs.length
  · rw [Nat.min_eq_left h]
  · rw [Nat.min_eq_right (by omega), List.take_of_length_le (by omega), List.take_of_length_le (by omega)]
theorem cutL_from {α : Type} {xs : List α} {a : Int} (ha : 0 ≤ a) : cutL xs (some a) none = xs.drop a.toNat := by
  unfold cutL
  rw [HT.sIx_none]
  obtain ⟨k, rfl⟩ := Int.eq_ofNat_of_zero_le ha
  rw [HT.sIx_nat, Int.toNat_natCast]
  by_cases h : k ≤ xs.length
  · rw [Nat.min_eq_left h, List.take_of_length_le (by rw [List.length_drop]; omega)]
  · rw [Nat.min_eq_right (by omega), List.drop_of_length_le (by omega), List.drop_of_length_le (by omega)]
    simp
theorem cutL_mid {α : Type} {xs : List α} {a b : Int} (ha : 0 ≤ a) (hb : 0 ≤ b) : cutL xs (some a) (some b) = (xs.take b.toNat).drop a.toNat := by
  unfold cutL
  obtain ⟨k, rfl⟩ := Int.eq_ofNat_of_zero_le ha
  obtain ⟨m, rfl⟩ := Int.eq_ofNat_of_zero_le hb
  rw [HT.sIx_nat, HT.sIx_nat, Int.toNat_natCast, Int.toNat_natCast, List.drop_take]
  apply List.ext_getElem?
  intro i
  rw [List.getElem?_take, List.getElem?_take]
  by_cases h1 : k ≤ xs.length
  · rw [Nat.min_eq_left h1]
    by_cases h2 : m ≤ xs.length
    · rw [Nat.min_eq_left h2]
    · rw [Nat.min_eq_right (by omega)]
      rw [List.getElem?_drop]
      by_cases h3 : k + i < xs.length
      · rw [if_pos (by omega), if_pos (by omega)]
      · rw [List.getElem?_eq_none (by omega)]
        simp
  · rw [Nat.min_eq_right (show xs.length ≤ k by omega), List.drop_of_length_le (Nat.le_refl _), List.drop_of_length_le (show xs.length ≤ k by omega)]
    simp
theorem rounds {n m : Int} (h : 0 ≤ n) (hm : n ≤ m) : ∃ N : Nat, (if n > 1 then n else 1) = (N : Int) ∧ 1 ≤ N ∧ (N : Int) ≤ max m 1 := by
  refine ⟨(if n > 1 then n else 1).toNat, ?_, ?_, ?_⟩ <;> split <;> omega
/-! ### comprehensions -/
section
variable {vs : List Nat} {t : Tg} {c : Et} {f : Ex} {env e1 e2 e3 : List Sl} {ds acc : List D} {s : Src} {P : R × List Sl → Prop} {x : D} {v : Nat} {b : Bool} {o : Option D}
def nOw : Option Sl → Bool
  | some .no => true
  | some (.val _) => true
  | _ => false
theorem nOw_no : nOw (some .no) = true := rfl
theorem nOw_val : nOw (some (.val x)) = true := rfl
theorem noOw_nil : noOw env [] = true := rfl
theorem noOw_cons : noOw env (v :: vs) = (nOw env[v]? && noOw env vs) := by
  unfold noOw
  rw [List.all_cons]
  congr 1
theorem wipeE_nil : wipeE env [] = env := rfl
theorem wipeE_cons : wipeE env (v :: vs) = (wipeE env vs).set v .no := rfl
def klc (vs : List Nat) (t : Tg) (c : Et) (f : Ex) (p : List D × List Sl) : Option (R × List Sl) := if noOw p.2 vs = true then lcGo vs t c f p.1 p.2 [] else none
theorem klc_eq : klc vs t c f (ds, env) = if noOw env vs = true then lcGo vs t c f ds env [] else none := rfl
theorem e_lc_eq : e_lc vs t s c f env = (s env).bind (klc vs t c f) := rfl
/-- behind an element that leaves the slots as they were: o is the element, or none -/
def LcF (env : List Sl) (vs : List Nat) (o : Option D) (p : D × List Sl) : Prop := o = some p.1 ∧ p.2.length = env.length ∧ rest env p.2 vs = env
theorem LcF_eq : LcF env vs o (x, e3) ↔ o = some x ∧ e3.length = env.length ∧ rest env e3 vs = env := Iff.rfl
def LcC (f : Ex) (env : List Sl) (vs : List Nat) (o : Option D) (p : Bool × List Sl) : Prop := if p.1 = true then Ok (vf f p.2) (LcF env vs o) else o = none ∧ p.2.length = env.length ∧ rest env p.2 vs = env
theorem LcC_eq : LcC f env vs o (b, e2) ↔ if b = true then Ok (vf f e2) (LcF env vs o) else o = none ∧ e2.length = env.length ∧ rest env e2 vs = env := Iff.rfl
def LcT (c : Et) (f : Ex) (env : List Sl) (vs : List Nat) (o : Option D) (e1 : List Sl) : Prop := Ok (c e1) (LcC f env vs o)
theorem LcT_eq : LcT c f env vs o e1 ↔ Ok (c e1) (LcC f env vs o) := Iff.rfl
theorem lc_eq (F : D → Option D) : ∀ (ds acc : List D), (∀ d ∈ ds, Ok (t (.val d) (wipeE env vs)) (LcT c f env vs (F d))) → acc.length + ds.length ≤ 100000 → lcGo vs t c f ds env acc = some (.own (.lst (acc ++ ds.filterMap F)), env) := by
  intro ds
  induction ds with
  | nil => intro acc _ _; simp [lcGo]
  | cons d ds ih =>
    intro acc h hl
    obtain ⟨e1, h1, ⟨b, e2⟩, h2, h3⟩ := h d List.mem_cons_self
    have hl' : acc.length + (ds.length + 1) ≤ 100000 := hl
    show (t (.val d) (wipeE env vs)).bind _ = _
    rw [h1, Option.bind_some, h2, Option.bind_some]
    cases b with
    | true =>
      obtain ⟨⟨x, e3⟩, h4, h5, h6, h7⟩ : Ok (vf f e2) (LcF env vs (F d)) := h3
      simp only at h5 h6 h7
      simp only [if_true]
      rw [h4, Option.bind_some]
      simp only
      rw [if_pos ⟨h6, by omega⟩, h7, ih _ (fun d' hd => h d' (List.mem_cons_of_mem _ hd)) (by rw [List.length_append, List.length_singleton]; omega), List.filterMap_cons, h5]
      simp
    | false =>
      obtain ⟨h5, h6, h7⟩ : F d = none ∧ e2.length = env.length ∧ rest env e2 vs = env := h3
      simp only [Bool.false_eq_true, if_false]
      rw [if_pos h6, h7, ih _ (fun d' hd => h d' (List.mem_cons_of_mem _ hd)) (by omega), List.filterMap_cons, h5]
/-- .. all elements, none left out -/
theorem Ok_lcmap (F : D → D) (hl : ds.length ≤ 100000) (h : ∀ d ∈ ds, Ok (t (.val d) (wipeE env vs)) (LcT c f env vs (some (F d)))) (hp : P (.own (.lst (ds.map F)), env)) : Ok (lcGo vs t c f ds env []) P := by
  rw [lc_eq (fun d => some (F d)) ds [] h (by simpa using hl), Ok_some, List.nil_append]
  rw [List.filterMap_eq_map']
  exact hp
theorem Ok_lcfilter (F : D → Option D) (hl : ds.length ≤ 100000) (h : ∀ d ∈ ds, Ok (t (.val d) (wipeE env vs)) (LcT c f env vs (F d))) (hp : P (.own (.lst (ds.filterMap F)), env)) : Ok (lcGo vs t c f ds env []) P := by
  rw [lc_eq F ds [] h (by simpa using hl), Ok_some, List.nil_append]
  exact hp
/-- .. that changes slots: by what holds -/
def LiF (env : List Sl) (vs : List Nat) (acc : List D) (J : List Sl → List D → Prop) (p : D × List Sl) : Prop := (p.2.length = env.length ∧ acc.length < 100000) ∧ J (rest env p.2 vs) (acc ++ [p.1])
theorem LiF_eq {J : List Sl → List D → Prop} : LiF env vs acc J (x, e3) ↔ (e3.length = env.length ∧ acc.length < 100000) ∧ J (rest env e3 vs) (acc ++ [x]) := Iff.rfl
def LiC (f : Ex) (env : List Sl) (vs : List Nat) (acc : List D) (J : List Sl → List D → Prop) (p : Bool × List Sl) : Prop := if p.1 = true then Ok (vf f p.2) (LiF env vs acc J) else p.2.length = env.length ∧ J (rest env p.2 vs) acc
theorem LiC_eq {J : List Sl → List D → Prop} : LiC f env vs acc J (b, e2) ↔ if b = true then Ok (vf f e2) (LiF env vs acc J) else e2.length = env.length ∧ J (rest env e2 vs) acc := Iff.rfl
def LiT (c : Et) (f : Ex) (env : List Sl) (vs : List Nat) (acc : List D) (J : List Sl → List D → Prop) (e1 : List Sl) : Prop := Ok (c e1) (LiC f env vs acc J)
theorem LiT_eq {J : List Sl → List D → Prop} : LiT c f env vs acc J e1 ↔ Ok (c e1) (LiC f env vs acc J) := Iff.rfl
theorem lcGo_ok (I : Nat → List Sl → List D → Prop) : ∀ (ds : List D) (env : List Sl) (acc : List D), I 0 env acc → (∀ (i : Nat) (d : D) (e : List Sl) (a : List D), ds[i]? = some d → I i e a → Ok (t (.val d) (wipeE e vs)) (LiT c f e vs a (I (i + 1)))) →
    (∀ e a, I ds.length e a → P (.own (.lst a), e)) → Ok (lcGo vs t c f ds env acc) P := by
  intro ds
  induction ds generalizing I with
  | nil => intro env acc h0 _ he; exact Ok_some.mpr (he env acc h0)
  | cons d ds ih =>
    intro env acc h0 hs he
    obtain ⟨e1, h1, ⟨b, e2⟩, h2, h3⟩ := hs 0 d env acc rfl h0
    show Ok ((t (.val d) (wipeE env vs)).bind _) P
    rw [h1, Option.bind_some, h2, Option.bind_some]
    have go : ∀ e a, I 1 e a → Ok (lcGo vs t c f ds e a) P := fun e a k => ih (fun i e a => I (i + 1) e a) e a k (fun i d' e a hd hi => hs (i + 1) d' e a (by simpa using hd) hi) he
    cases b with
    | true =>
      obtain ⟨⟨x, e3⟩, h4, h5, h6⟩ : Ok (vf f e2) (LiF env vs acc (I 1)) := h3
      simp only [if_true]
      rw [h4, Option.bind_some]
      simp only
      rw [if_pos h5]
      exact go _ _ h6
    | false =>
      obtain ⟨h5, h6⟩ : e2.length = env.length ∧ I 1 (rest env e2 vs) acc := h3
      simp only [Bool.false_eq_true, if_false]
      rw [if_pos h5]
      exact go _ _ h6
end
/-! ### .. over written lists -/
section
variable {vs : List Nat} {t : Tg} {c : Et} {f : Ex} {env e1 e2 e3 old new : List Sl} {ds acc : List D} {x d : D} {b : Bool} {i : Nat} {so sn : Sl}
def restGo (vs : List Nat) : Nat → List Sl → List Sl → List Sl
  | i, o :: old, n :: new => (if i ∈ vs then o else n) :: restGo vs (i + 1) old new
  | _, _, [] => []
  | i, [], n :: new => (if i ∈ vs then .no else n) :: restGo vs (i + 1) [] new
theorem rest_go (vs : List Nat) : ∀ (new old : List Sl) (i : Nat), (new.mapIdx fun j s => if j + i ∈ vs then old.getD j .no else s) = restGo vs i old new
  | [], old, i => by cases old <;> rfl
  | n :: new, [], i => by
    have := rest_go vs new [] (i + 1)
    rw [List.mapIdx_cons]
    simp only [restGo, Nat.zero_add, List.getD_nil] at *
    rw [← this]
    congr 1
    apply List.mapIdx_eq_mapIdx_iff.mpr
    intro j hj
    rw [show j + 1 + i = j + (i + 1) by omega]
  | n :: new, o :: old, i => by
    have := rest_go vs new old (i + 1)
    rw [List.mapIdx_cons]
    simp only [restGo, Nat.zero_add, List.getD_cons_zero, List.getD_cons_succ]
    rw [← this]
    congr 1
    apply List.mapIdx_eq_mapIdx_iff.mpr
    intro j hj
    rw [show j + 1 + i = j + (i + 1) by omega]
theorem rest_eq : rest old new vs = restGo vs 0 old new := rest_go vs new old 0
theorem restGo_cons : restGo vs i (so :: old) (sn :: new) = (if i ∈ vs then so else sn) :: restGo vs (i + 1) old new := rfl
theorem restGo_nil : restGo vs i [] [] = [] := rfl
def kl3 (vs : List Nat) (t : Tg) (c : Et) (f : Ex) (ds : List D) (env : List Sl) (acc : List D) (q : D × List Sl) : Option (R × List Sl) := if q.2.length = env.length ∧ acc.length < 100000 then lcGo vs t c f ds (rest env q.2 vs) (acc ++ [q.1]) else none
def kl2 (vs : List Nat) (t : Tg) (c : Et) (f : Ex) (ds : List D) (env : List Sl) (acc : List D) (p : Bool × List Sl) : Option (R × List Sl) := if p.1 = true then (vf f p.2).bind (kl3 vs t c f ds env acc) else if p.2.length = env.length then lcGo vs t c f ds (rest env p.2 vs) acc else none
def kl1 (vs : List Nat) (t : Tg) (c : Et) (f : Ex) (ds : List D) (env : List Sl) (acc : List D) (e1 : List Sl) : Option (R × List Sl) := (c e1).bind (kl2 vs t c f ds env acc)
theorem lcGo_nil : lcGo vs t c f [] env acc = some (.own (.lst acc), env) := rfl
theorem lcGo_cons : lcGo vs t c f (d :: ds) env acc = (t (.val d) (wipeE env vs)).bind (kl1 vs t c f ds env acc) := rfl
theorem kl1_eq : kl1 vs t c f ds env acc e1 = (c e1).bind (kl2 vs t c f ds env acc) := rfl
theorem kl2_eq : kl2 vs t c f ds env acc (b, e2) = if b = true then (vf f e2).bind (kl3 vs t c f ds env acc) else if e2.length = env.length then lcGo vs t c f ds (rest env e2 vs) acc else none := rfl
theorem kl3_eq : kl3 vs t c f ds env acc (x, e3) = if e3.length = env.length ∧ acc.length < 100000 then lcGo vs t c f ds (rest env e3 vs) (acc ++ [x]) else none := rfl
variable {bd : Cm}
def kf2 (t : Tg) (b : Cm) (ds : List D) (o : Out) : Option Out := match o with
  | .nx e2 => forGo t b ds e2
  | .ct e2 => forGo t b ds e2
  | .bk e2 => some (.nx e2)
  | .rt r e2 => some (.rt r e2)
def kf1 (t : Tg) (b : Cm) (ds : List D) (e1 : List Sl) : Option Out := (b e1).bind (kf2 t b ds)
theorem forGo_nil : forGo t bd [] env = some (.nx env) := rfl
theorem forGo_cons : forGo t bd (d :: ds) env = (t (.val d) env).bind (kf1 t bd ds) := rfl
theorem kf1_eq : kf1 t bd ds e1 = (bd e1).bind (kf2 t bd ds) := rfl
theorem kf2_nx : kf2 t bd ds (.nx e1) = forGo t bd ds e1 := rfl
theorem kf2_ct : kf2 t bd ds (.ct e1) = forGo t bd ds e1 := rfl
theorem kf2_bk : kf2 t bd ds (.bk e1) = some (.nx e1) := rfl
theorem kf2_rt {r : R} : kf2 t bd ds (.rt r e1) = some (.rt r e1) := rfl
end
/-! ### == of data without truths -/
mutual
def D.pl : D → Bool
  | .non => true
  | .bl _ => false
  | .int _ => true
  | .str x => PyData.canLay0 (.str x)
  | .tup ds => D.pls ds
  | .lst ds => D.pls ds
  | .fn _ _ => false
def D.pls : List D → Bool
  | [] => true
  | d :: ds => D.pl d && D.pls ds
end
mutual
def D.dep : D → Nat
  | .tup ds => D.deps ds + 1
  | .lst ds => D.deps ds + 1
  | _ => 0
def D.deps : List D → Nat
  | [] => 0
  | d :: ds => max (D.dep d) (D.deps ds)
end
mutual
theorem pl_lay : ∀ d : D, d.pl = true → d.py.canLay0 = true
  | .non, _ => rfl
  | .bl _, h => by cases h
  | .int _, _ => rfl
  | .str x, h => h
  | .tup ds, h => by
    have := pls_lay ds h
    simpa [D.py, PyData.canLay0] using this
  | .lst ds, h => by
    have := pls_lay ds h
    simpa [D.py, PyData.canLay0] using this
  | .fn _ _, h => by cases h
theorem pls_lay : ∀ ds : List D, D.pls ds = true → PyData.canLayAll0 (D.pys ds) = true
  | [], _ => rfl
  | d :: ds, h => by
    have h' := Bool.and_eq_true_iff.mp (show (D.pl d && D.pls ds) = true from h)
    simp only [D.pys, PyData.canLayAll0, pl_lay d h'.1, pls_lay ds h'.2, Bool.and_self]
end
mutual
theorem dep_py : ∀ d : D, d.py.depth = d.dep
  | .non => rfl
  | .bl _ => rfl
  | .int _ => rfl
  | .str _ => rfl
  | .tup ds => by simp only [D.py, PyData.depth, D.dep, deps_py ds]
  | .lst ds => by simp only [D.py, PyData.depth, D.dep, deps_py ds]
  | .fn _ _ => rfl
theorem deps_py : ∀ ds : List D, PyData.depthAll (D.pys ds) = D.deps ds
  | [] => rfl
  | d :: ds => by simp only [D.pys, PyData.depthAll, D.deps, dep_py d, deps_py ds]
end
mutual
theorem pl_nf : ∀ d : D, d.pl = true → d.nf = true
  | .non, _ => rfl
  | .bl _, h => by cases h
  | .int _, _ => rfl
  | .str _, _ => rfl
  | .tup ds, h => pls_nf ds h
  | .lst ds, h => pls_nf ds h
  | .fn _ _, h => by cases h
theorem pls_nf : ∀ ds : List D, D.pls ds = true → D.nfs ds = true
  | [], _ => rfl
  | d :: ds, h => by
    have h' := Bool.and_eq_true_iff.mp (show (D.pl d && D.pls ds) = true from h)
    exact Bool.and_eq_true_iff.mpr ⟨pl_nf d h'.1, pls_nf ds h'.2⟩
end
theorem ok_pl {d : D} (h : d.pl = true) (hd : d.dep ≤ 64) : d.ok = true := by
  unfold D.ok SeqAt.shaped
  rw [pl_nf d h, pl_lay d h, dep_py]
  simp [hd]
mutual
theorem eqv_pl : ∀ a b : D, a.pl = true → b.pl = true → (a.eqv b = true ↔ a = b)
  | .non, b, _, h => by cases b <;> simp [D.eqv, D.py, PyData.eqv] <;> cases h
  | .bl _, _, h, _ => by cases h
  | .int i, b, _, h => by cases b <;> simp [D.eqv, D.py, PyData.eqv] <;> cases h
  | .str x, b, _, h => by cases b <;> simp [D.eqv, D.py, PyData.eqv] <;> cases h
  | .tup ds, b, h1, h2 => by
    cases b with
    | tup es =>
      have := eqvs_pl ds es h1 h2
      simpa [D.eqv, D.py, PyData.eqv] using this
    | fn _ _ => cases h2
    | _ => simp [D.eqv, D.py, PyData.eqv]
  | .lst ds, b, h1, h2 => by
    cases b with
    | lst es =>
      have := eqvs_pl ds es h1 h2
      simpa [D.eqv, D.py, PyData.eqv] using this
    | fn _ _ => cases h2
    | _ => simp [D.eqv, D.py, PyData.eqv]
  | .fn _ _, _, h, _ => by cases h
theorem eqvs_pl : ∀ as bs : List D, D.pls as = true → D.pls bs = true → (PyData.eqvAll (D.pys as) (D.pys bs) = true ↔ as = bs)
  | [], [], _, _ => by simp [D.pys, PyData.eqvAll]
  | [], _ :: _, _, _ => by simp [D.pys, PyData.eqvAll]
  | _ :: _, [], _, _ => by simp [D.pys, PyData.eqvAll]
  | a :: as, b :: bs, h1, h2 => by
    have h1' := Bool.and_eq_true_iff.mp (show (D.pl a && D.pls as) = true from h1)
    have h2' := Bool.and_eq_true_iff.mp (show (D.pl b && D.pls bs) = true from h2)
    have x := eqv_pl a b h1'.1 h2'.1
    have y := eqvs_pl as bs h1'.2 h2'.2
    unfold D.eqv at x
    simp only [D.pys, PyData.eqvAll, Bool.and_eq_true, x, y, List.cons.injEq]
end
theorem eq_pl {a b : D} {p : Prop} [Decidable p] (ha : a.pl = true) (hb : b.pl = true) (da : a.dep ≤ 64) (db : b.dep ≤ 64) (h : a = b ↔ p) : o_eq a b = some (.val (.bl (decide p))) := by
  unfold o_eq
  rw [if_pos ⟨ok_pl ha da, ok_pl hb db⟩]
  have e : a.eqv b = decide p := by
    rw [Bool.eq_iff_iff, eqv_pl a b ha hb, decide_eq_true_iff]
    exact h
  rw [e]
theorem ne_pl {a b : D} {p : Prop} [Decidable p] (ha : a.pl = true) (hb : b.pl = true) (da : a.dep ≤ 64) (db : b.dep ≤ 64) (h : a = b ↔ p) : o_ne a b = some (.val (.bl (!decide p))) := by
  unfold o_ne
  rw [if_pos ⟨ok_pl ha da, ok_pl hb db⟩]
  have e : a.eqv b = decide p := by
    rw [Bool.eq_iff_iff, eqv_pl a b ha hb, decide_eq_true_iff]
    exact h
  rw [e]
/-! ### texts by their codes -/
def codes (x : Str) : List Nat := x.cps.toList
theorem codes_inj {x y : Str} (h : codes x = codes y) : x = y := by
  obtain ⟨a⟩ := x
  obtain ⟨b⟩ := y
  exact congrArg Str.mk (Array.toList_inj.mp h)
theorem codes_append (x y : Str) : codes (x ++ y) = codes x ++ codes y := by
  show (x.cps ++ y.cps).toList = _
  rw [Array.toList_append]
  rfl
theorem codes_len (x : Str) : x.length = (codes x).length := by
  unfold codes
  rw [Array.length_toList]
  rfl
theorem codes_lit (s : String) : codes (Str.ofString s) = s.toList.map Char.toNat := by
  rw [Str.ofString_eq_toList]
  unfold codes
  simp
/-- a text of codes -/
def dstr (l : List Nat) : Str := ⟨l.toArray⟩
theorem codes_dstr (l : List Nat) : codes (dstr l) = l := by unfold codes dstr; simp
theorem dstr_app (l m : List Nat) : dstr l ++ dstr m = dstr (l ++ m) := codes_inj (by rw [codes_append, codes_dstr, codes_dstr, codes_dstr])
theorem dstr_of {x : Str} {l : List Nat} (h : codes x = l) : x = dstr l := codes_inj (by rw [codes_dstr]; exact h)
def okc (l : List Nat) : Bool := l.all (· < 0x110000)
theorem str_pl {x : Str} (h : okc (codes x) = true) : (D.str x).pl = true := by
  show PyData.canLay0 (.str x) = true
  simp only [PyData.canLay0]
  unfold PyData.strOk
  rw [← Array.all_toList]
  exact h
theorem str_dep {x : Str} : (D.str x).dep ≤ 64 := Nat.zero_le 64
theorem ok_ix_str {x : Str} {i : Int} {P : R → Prop} : Ok (o_ix (.str x) (.int i)) P ↔ x.length ≤ 100000 ∧ Ok (atI (codes x) i) fun c => P (.val (.str ⟨#[c]⟩)) := by
  unfold o_ix
  simp only
  rw [Ok_need, Ok_bind]
  refine and_congr Iff.rfl ?_
  unfold Th
  simp only [Ok_some]
  rfl
theorem ok_mul_str {x : Str} {k : Int} {P : R → Prop} : Ok (o_mul (.str x) (.int k)) P ↔ (x.length * k.toNat ≤ 100000 ∧ -1000000 ≤ k ∧ k ≤ 1000000) ∧ P (.val (.str (Txt.mul x k))) := by
  unfold o_mul
  simp only
  exact Ok_need.trans (and_congr Iff.rfl Ok_some)
theorem ok_str_int {i : Int} {P : R → Prop} : Ok (o_str (.int i)) P ↔ i.natAbs.log2 < 1920 ∧ P (.val (.str (Str.ofString (toString i)))) := by
  unfold o_str
  exact Ok_need.trans (and_congr Iff.rfl Ok_some)
theorem rngL2 : rngL 0 2 = [.int 0, .int 1] := rfl
theorem rngL3 : rngL 0 3 = [.int 0, .int 1, .int 2] := rfl
/-! ### sizes -/
def Bd (n : Nat) (a : Int) : Prop := a.natAbs < 2 ^ n
section
variable {a b : Int} {n m k : Nat}
theorem Bd.le (h : Bd n a) (hn : n ≤ m) : Bd m a := Nat.lt_of_lt_of_le h (Nat.pow_le_pow_right (by omega) hn)
theorem Bd.mul (h1 : Bd n a) (h2 : Bd m b) : Bd (n + m) (a * b) := by
  unfold Bd at *
  rw [Int.natAbs_mul, Nat.pow_add]
  exact Nat.mul_lt_mul'' h1 h2
theorem Bd.add (h1 : Bd n a) (h2 : Bd m b) : Bd (max n m + 1) (a + b) := by
  have h3 := h1.le (Nat.le_max_left n m)
  have h4 := h2.le (Nat.le_max_right n m)
  unfold Bd at *
  have := Int.natAbs_add_le a b
  rw [Nat.pow_succ]
  omega
theorem Bd.neg (h : Bd n a) : Bd n (-a) := by unfold Bd at *; rwa [Int.natAbs_neg]
theorem Bd.sub (h1 : Bd n a) (h2 : Bd m b) : Bd (max n m + 1) (a - b) := by rw [Int.sub_eq_add_neg]; exact h1.add h2.neg
theorem Bd.self : Bd (a.natAbs.log2 + 1) a := Nat.lt_log2_self
theorem Bd.ite {c : Prop} [Decidable c] (h1 : Bd n a) (h2 : Bd m b) : Bd (max n m) (if c then a else b) := by
  split
  · exact h1.le (Nat.le_max_left n m)
  · exact h2.le (Nat.le_max_right n m)
theorem Bd.of_le (h : Bd n a) (hb : b.natAbs ≤ a.natAbs) : Bd n b := Nat.lt_of_le_of_lt hb h
theorem natAbs_fdiv_le (a b : Int) : (a.fdiv b).natAbs ≤ a.natAbs := by
  cases a with
  | ofNat a =>
    cases b with
    | ofNat b =>
      show ((a : Int).fdiv (b : Int)).natAbs ≤ a
      rw [Int.fdiv_eq_ediv_of_nonneg _ (Int.natCast_nonneg b)]
      exact Nat.div_le_self a b
    | negSucc b =>
      cases a with
      | zero => simp
      | succ a =>
        show (Int.negSucc (a / b.succ)).natAbs ≤ _
        rw [Int.natAbs_negSucc]
        show a / b.succ + 1 ≤ a + 1
        have := Nat.div_le_self a b.succ
        omega
  | negSucc a =>
    cases b with
    | ofNat b =>
      cases b with
      | zero => simp
      | succ b =>
        show (Int.negSucc (a / b.succ)).natAbs ≤ _
        rw [Int.natAbs_negSucc, Int.natAbs_negSucc]
        have := Nat.div_le_self a b.succ
        omega
    | negSucc b =>
      show (Int.ofNat (a.succ / b.succ)).natAbs ≤ _
      exact Nat.div_le_self _ _
theorem Bd.fdiv (h : Bd n a) : Bd n (a.fdiv b) := h.of_le (natAbs_fdiv_le a b)
theorem Bd.ediv (h : Bd n a) : Bd n (a / b) := h.of_le (Int.natAbs_ediv_le_natAbs a b)
theorem Bd.fmod (h : Bd n b) (hb : 0 < b) : Bd n (a.fmod b) := by
  refine h.of_le ?_
  have h1 := Int.fmod_nonneg_of_pos a hb
  have h2 := Int.fmod_lt_of_pos a hb
  omega
theorem Bd.emod (h : Bd n b) (hb : 0 < b) : Bd n (a % b) := by
  refine h.of_le ?_
  have h1 := Int.emod_nonneg a (show b ≠ 0 by omega)
  have h2 := Int.emod_lt_of_pos a hb
  omega
theorem Bd.mulOk (h1 : Bd n a) (h2 : Bd m b) (h : n + m ≤ 134217728) : IntMulOk a b := (mulx_ok h1 h2 h).ok
theorem Bd.divOk (h1 : Bd n a) (h0 : a ≠ 0) (h : n ≤ 9000) : a ≠ 0 ∧ a.natAbs.log2 < 9000 :=
  ⟨h0, (Nat.log2_lt (by omega)).mpr (Nat.lt_of_lt_of_le h1 (Nat.pow_le_pow_right (by omega) h))⟩
theorem mulOk_right (h : Bd 64 b) : IntMulOk a b := .of_right (intBits_le h)
theorem mulOk_left (h : Bd 64 a) : IntMulOk a b := .of_left (intBits_le h)
theorem Bd.abs (h : Bd n a) : Bd n (if a < 0 then -a else a) := h.of_le (by split <;> omega)
theorem Bd.lt_of (h : a.natAbs < k) (hk : k ≤ 2 ^ n) : Bd n a := Nat.lt_of_lt_of_le h hk
end
end Vz
set_option maxRecDepth 100000
set_option maxHeartbeats 1000000
namespace Vz
open PySem PySem.Spec PyProof.Rows L2
section
variable {env : List Sl} {f : Ex} {ds : List D}
theorem rev_t_tup : o_rev "tuple" (.tup ds) = some (.val (.tup ds.reverse)) := rfl
theorem rev_t_lst : o_rev "tuple" (.lst ds) = some (.val (.tup ds.reverse)) := rfl
theorem rev_l_tup : o_rev "list" (.tup ds) = some (.own (.lst ds.reverse)) := rfl
theorem rev_l_lst : o_rev "list" (.lst ds) = some (.own (.lst ds.reverse)) := rfl
def ksrev : D × List Sl → Option (List D × List Sl) := fun p => match p.1 with
  | .lst ds => some (ds.reverse, p.2)
  | .tup ds => some (ds.reverse, p.2)
  | _ => none
theorem s_rev_eq : s_rev f env = (vf f env).bind ksrev := rfl
theorem ksrev_lst : ksrev (.lst ds, env) = some (ds.reverse, env) := rfl
theorem ksrev_tup : ksrev (.tup ds, env) = some (ds.reverse, env) := rfl
theorem in_pls {a : D} : ∀ {ds : List D}, D.pls ds = true → a.pl = true → ((ds.any fun z => z.eqv a) = true ↔ a ∈ ds)
  | [], _, _ => by simp
  | d :: ds, h, ha => by
    have h' := Bool.and_eq_true_iff.mp (show (d.pl && D.pls ds) = true from h)
    rw [List.any_cons, Bool.or_eq_true, in_pls h'.2 ha, eqv_pl _ _ h'.1 ha, List.mem_cons]
    exact or_congr_left eq_comm
theorem in_pl {a b : D} {ds : List D} {p : Prop} [Decidable p] (hb : b.its = some ds) (ha : a.pl = true) (hd : D.pls ds = true) (da : a.dep ≤ 64) (db : D.deps ds < 64) (h : a ∈ ds ↔ p) : o_inX false a b = some (.val (.bl (decide p))) := by
  unfold o_inX
  rw [hb]
  have h1 : a.ok = true := ok_pl ha da
  have h2 : (D.lst ds).ok = true := ok_pl (d := .lst ds) hd (by show D.deps ds + 1 ≤ 64; omega)
  have h3 : (ds.any fun z => z.eqv a) = decide p := by rw [Bool.eq_iff_iff, decide_eq_true_iff, ← h]; exact in_pls hd ha
  simp only [h1, h2, h3, and_self, if_true, Bool.false_eq_true, if_false]
theorem notin_pl {a b : D} {ds : List D} {p : Prop} [Decidable p] (hb : b.its = some ds) (ha : a.pl = true) (hd : D.pls ds = true) (da : a.dep ≤ 64) (db : D.deps ds < 64) (h : a ∈ ds ↔ p) : o_inX true a b = some (.val (.bl (!decide p))) := by
  unfold o_inX
  rw [hb]
  have h1 : a.ok = true := ok_pl ha da
  have h2 : (D.lst ds).ok = true := ok_pl (d := .lst ds) hd (by show D.deps ds + 1 ≤ 64; omega)
  have h3 : (ds.any fun z => z.eqv a) = decide p := by rw [Bool.eq_iff_iff, decide_eq_true_iff, ← h]; exact in_pls hd ha
  simp only [h1, h2, h3, and_self, if_true]
theorem pls_map {α : Type} {f : α → D} : ∀ {xs : List α}, (∀ x ∈ xs, (f x).pl = true) → D.pls (xs.map f) = true
  | [], _ => rfl
  | x :: xs, h => Bool.and_eq_true_iff.mpr ⟨h x (List.mem_cons_self ..), pls_map fun y hy => h y (List.mem_cons_of_mem _ hy)⟩
theorem deps_map {α : Type} {f : α → D} {n : Nat} : ∀ {xs : List α}, (∀ x ∈ xs, (f x).dep ≤ n) → D.deps (xs.map f) ≤ n
  | [], _ => Nat.zero_le _
  | x :: xs, h => Nat.max_le.mpr ⟨h x (List.mem_cons_self ..), deps_map fun y hy => h y (List.mem_cons_of_mem _ hy)⟩
theorem its_lst : (D.lst ds).its = some ds := rfl
theorem its_tup : (D.tup ds).its = some ds := rfl
theorem rngOK_of {z : Int} (h : z.natAbs ≤ 1000000) : rngOK z := ⟨by omega, by omega⟩
theorem rngOK_nat {n : Nat} (h : n ≤ 1000000) : rngOK (n : Int) := rngOK_of (by omega)
theorem rngOK_0 : rngOK 0 = True := eq_true (rngOK_of (by decide))
theorem rngOK_1 : rngOK 1 = True := eq_true (rngOK_of (by decide))
theorem rngOK_2 : rngOK 2 = True := eq_true (rngOK_of (by decide))
theorem rngOK_3 : rngOK 3 = True := eq_true (rngOK_of (by decide))
theorem rngOK_4 : rngOK 4 = True := eq_true (rngOK_of (by decide))
theorem rngOK_5 : rngOK 5 = True := eq_true (rngOK_of (by decide))
theorem rngOK_6 : rngOK 6 = True := eq_true (rngOK_of (by decide))
theorem rngOK_7 : rngOK 7 = True := eq_true (rngOK_of (by decide))
theorem rngOK_8 : rngOK 8 = True := eq_true (rngOK_of (by decide))
theorem rngOK_9 : rngOK 9 = True := eq_true (rngOK_of (by decide))
theorem rngOK_10 : rngOK 10 = True := eq_true (rngOK_of (by decide))
theorem rngOK_11 : rngOK 11 = True := eq_true (rngOK_of (by decide))
theorem rngOK_12 : rngOK 12 = True := eq_true (rngOK_of (by decide))
theorem rngOK_13 : rngOK 13 = True := eq_true (rngOK_of (by decide))
theorem rngOK_14 : rngOK 14 = True := eq_true (rngOK_of (by decide))
theorem rngOK_15 : rngOK 15 = True := eq_true (rngOK_of (by decide))
theorem rngOK_16 : rngOK 16 = True := eq_true (rngOK_of (by decide))
theorem rngOK_17 : rngOK 17 = True := eq_true (rngOK_of (by decide))
theorem rngOK_18 : rngOK 18 = True := eq_true (rngOK_of (by decide))
theorem rngOK_19 : rngOK 19 = True := eq_true (rngOK_of (by decide))
theorem rngOK_20 : rngOK 20 = True := eq_true (rngOK_of (by decide))
theorem rngOK_21 : rngOK 21 = True := eq_true (rngOK_of (by decide))
theorem rngOK_22 : rngOK 22 = True := eq_true (rngOK_of (by decide))
theorem rngOK_23 : rngOK 23 = True := eq_true (rngOK_of (by decide))
theorem rngOK_24 : rngOK 24 = True := eq_true (rngOK_of (by decide))
theorem rngOK_25 : rngOK 25 = True := eq_true (rngOK_of (by decide))
theorem rngOK_26 : rngOK 26 = True := eq_true (rngOK_of (by decide))
theorem rngOK_27 : rngOK 27 = True := eq_true (rngOK_of (by decide))
theorem rngOK_28 : rngOK 28 = True := eq_true (rngOK_of (by decide))
theorem rngOK_29 : rngOK 29 = True := eq_true (rngOK_of (by decide))
theorem rngOK_30 : rngOK 30 = True := eq_true (rngOK_of (by decide))
theorem rngOK_31 : rngOK 31 = True := eq_true (rngOK_of (by decide))
theorem rngOK_32 : rngOK 32 = True := eq_true (rngOK_of (by decide))
theorem rngOK_33 : rngOK 33 = True := eq_true (rngOK_of (by decide))
theorem rngOK_34 : rngOK 34 = True := eq_true (rngOK_of (by decide))
theorem rngOK_35 : rngOK 35 = True := eq_true (rngOK_of (by decide))
theorem rngOK_36 : rngOK 36 = True := eq_true (rngOK_of (by decide))
theorem rngOK_37 : rngOK 37 = True := eq_true (rngOK_of (by decide))
theorem rngOK_38 : rngOK 38 = True := eq_true (rngOK_of (by decide))
theorem rngOK_39 : rngOK 39 = True := eq_true (rngOK_of (by decide))
theorem rngOK_40 : rngOK 40 = True := eq_true (rngOK_of (by decide))
theorem rngOK_63 : rngOK 63 = True := eq_true (rngOK_of (by decide))
/-! order -/
theorem dlt_int {i j : Int} : PySem.W.dataLt (.int i) (.int j) = decide (i < j) := by
  have h := congrFun (congrFun (PySem.W.dataLe_int (β := Int) id) j) i
  have h2 : (!PySem.W.dataLt (.int i) (.int j)) = decide (j ≤ i) := h
  by_cases hij : i < j
  · rw [decide_eq_true hij]
    rw [decide_eq_false (by omega)] at h2
    simpa using h2
  · rw [decide_eq_false hij]
    rw [decide_eq_true (by omega)] at h2
    simpa using h2
theorem ltX_int {i j : Int} : o_ltX (.int i) (.int j) = some (.val (.bl (decide (i < j)))) := by
  show (if true = true then some (R.val (.bl (PySem.W.dataLt (.int i) (.int j)))) else none) = _
  rw [dlt_int]
  rfl
theorem gtX_int {i j : Int} : o_gtX (.int i) (.int j) = some (.val (.bl (decide (j < i)))) := by
  show (if true = true then some (R.val (.bl (PySem.W.dataLt (.int j) (.int i)))) else none) = _
  rw [dlt_int]
  rfl
theorem leX_int {i j : Int} : o_leX (.int i) (.int j) = some (.val (.bl (decide (i ≤ j)))) := by
  show (if true = true then some (R.val (.bl (!PySem.W.dataLt (.int j) (.int i)))) else none) = _
  rw [dlt_int, if_pos rfl, ← decide_not]
  simp only [Int.not_lt]
theorem geX_int {i j : Int} : o_geX (.int i) (.int j) = some (.val (.bl (decide (j ≤ i)))) := by
  show (if true = true then some (R.val (.bl (!PySem.W.dataLt (.int i) (.int j)))) else none) = _
  rw [dlt_int, if_pos rfl, ← decide_not]
  simp only [Int.not_lt]
theorem maxX_int {i j : Int} : o_maxX (.int i) (.int j) = some (.val (.int (if j > i then j else i))) := by
  show (if true = true then some (R.val (if PySem.W.dataLt (.int i) (.int j) = true then D.int j else D.int i)) else none) = _
  rw [dlt_int, if_pos rfl]
  by_cases h : i < j
  · rw [decide_eq_true h, if_pos rfl, if_pos (by omega)]
  · rw [decide_eq_false h, if_neg Bool.false_ne_true, if_neg (by omega)]
theorem minX_int {i j : Int} : o_minX (.int i) (.int j) = some (.val (.int (if j < i then j else i))) := by
  show (if true = true then some (R.val (if PySem.W.dataLt (.int j) (.int i) = true then D.int j else D.int i)) else none) = _
  rw [dlt_int, if_pos rfl]
  by_cases h : j < i
  · rw [decide_eq_true h, if_pos rfl, if_pos (by omega)]
  · rw [decide_eq_false h, if_neg Bool.false_ne_true, if_neg (by omega)]
theorem g_lst_eq {n : Nat} {u : Tgs} {env : List Sl} {ds : List D} : g_lst n u (.val (.lst ds)) env = if ds.length = n then u ds env else none := rfl
def kcv (tab : Nat → Option FM) (s : Option Sl) (l : Er) (env : List Sl) : Option (R × List Sl) := match s with
  | some (.val (.fn k [])) => (tab k).bind fun m => e_call m [] l env
  | _ => none
theorem e_callv_eq {tab : Nat → Option FM} {i : Nat} {l : Er} {env : List Sl} : e_callv tab i l env = kcv tab env[i]? l env := rfl
theorem kcv_eq {tab : Nat → Option FM} {k : Nat} {l : Er} {env : List Sl} {m : FM} (h : tab k = some m) : kcv tab (some (.val (.fn k []))) l env = e_call m [] l env := by
  show (tab k).bind _ = _
  rw [h]
  rfl
end
section
variable {e : List Sl} {l : Ea}
open Classical in
noncomputable def ksr3 (p : List D × List Sl) : Option (List D × List Sl) := match p.1 with
  | [.int i, .int j, .int c] => if rngOK3 i j c then some (rngC i c (rngN i j c), p.2) else none
  | _ => none
theorem s_rng3_eq : s_rng3 l e = (l e).bind ksr3 := by
  unfold s_rng3
  congr 1
theorem ksr3_ok {i j c : Int} {n : Nat} (h : RgC i j c n) : ksr3 ([.int i, .int j, .int c], e) = some (rngC i c n, e) := by
  have hn : rngN i j c = n := by unfold rngN; rw [h.2.2.2]; rfl
  unfold ksr3
  simp only
  rw [hn, if_pos ⟨by rw [hn]; exact h⟩]
end
end Vz
set_option maxRecDepth 100000
set_option maxHeartbeats 4000000
namespace Lw
open PySem PySem.Spec PyProof.Rows L2 Vz
noncomputable def c_divisor_t5 : Cm := c_ret (e_v 0)
noncomputable def c_divisor_b3 : Cm := c_par 0 1 (a_cons (e_v 1) (a_cons (e2 o_mod (e_v 0) (e_v 1)) (a_nil)))
noncomputable def c_divisor : Cm := c_seq (c_asg (gv (g_n 0)) (eB (f1 o_abs) (a_cons (e_v 0) (a_nil)))) (c_seq (c_asg (gv (g_n 1)) (eB (f1 o_abs) (a_cons (e_v 1) (a_nil)))) (c_seq (c_wh (fuI 1) (bf (e2 o_ne (e_v 1) (e_c (.int
    0)))) (c_divisor_b3)) (c_divisor_t5)))
noncomputable def m_divisor : FM := fnM 2 2 c_divisor
noncomputable def c_ahead_t5 : Cm := c_ret (e2 o_ltX (e2 o_mul (e2 o_ix (e_v 0) (e_c (.int 1))) (e2 o_ix (e_v 1) (e_c (.int 2)))) (e2 o_mul (e2 o_ix (e_v 1) (e_c (.int 1))) (e2 o_ix (e_v 0) (e_c (.int 2)))))
noncomputable def c_ahead : Cm := c_seq (c_asg (gv (g_n 2)) (e2 o_mul (e2 o_ix (e_v 0) (e_c (.int 0))) (e2 o_ix (e_v 1) (e_c (.int 2))))) (c_seq (c_asg (gv (g_n 3)) (e2 o_mul (e2 o_ix (e_v 1) (e_c (.int 0))) (e2 o_ix (e_v 0)
    (e_c (.int 2))))) (c_seq (c_if (bf (e2 o_ne (e_v 2) (e_v 3))) (c_ret (e2 o_ltX (e_v 2) (e_v 3))) (c_nx)) (c_ahead_t5)))
noncomputable def m_ahead : FM := fnM 4 2 c_ahead
noncomputable def c_turn : Cm := c_seq (c_asg (gv (g_n 3)) (e2 o_mul (e2 o_ix (e_v 0) (e_c (.int 0))) (e2 o_sub (e2 o_mul (e2 o_ix (e_v 1) (e_c (.int 1))) (e2 o_ix (e_v 2) (e_c (.int 2)))) (e2 o_mul (e2 o_ix (e_v 2) (e_c
    (.int 1))) (e2 o_ix (e_v 1) (e_c (.int 2))))))) (c_seq (c_asg (gv (g_n 3)) (e2 o_sub (e_v 3) (e2 o_mul (e2 o_ix (e_v 0) (e_c (.int 1))) (e2 o_sub (e2 o_mul (e2 o_ix (e_v 1) (e_c (.int 0)))
    (e2 o_ix (e_v 2) (e_c (.int 2)))) (e2 o_mul (e2 o_ix (e_v 2) (e_c (.int 0))) (e2 o_ix (e_v 1) (e_c (.int 2)))))))) (c_seq (c_asg (gv (g_n 3)) (e2 o_add (e_v 3) (e2 o_mul (e2 o_ix (e_v 0)
    (e_c (.int 2))) (e2 o_sub (e2 o_mul (e2 o_ix (e_v 1) (e_c (.int 0))) (e2 o_ix (e_v 2) (e_c (.int 1)))) (e2 o_mul (e2 o_ix (e_v 2) (e_c (.int 0))) (e2 o_ix (e_v 1) (e_c (.int 1))))))))
    (c_ret (e2 o_sub (eB (f1 o_int) (a_cons (e2 o_gtX (e_v 3) (e_c (.int 0))) (a_nil))) (eB (f1 o_int) (a_cons (e2 o_ltX (e_v 3) (e_c (.int 0))) (a_nil)))))))
noncomputable def m_turn : FM := fnM 4 3 c_turn
noncomputable def c_apart : Cm := c_seq (c_asg (g_tup 2 (gs_cons (g_n 3) (gs_cons (g_n 4) (gs_nil)))) (e_v 0)) (c_seq (c_asg (gv (g_n 5)) (e_if (bf (e2 o_ltX (e2 o_mul (e2 o_ix (e_v 3) (e_v 2)) (e2 o_ix (e_v 4) (e_c (.int
    2)))) (e2 o_mul (e2 o_ix (e_v 4) (e_v 2)) (e2 o_ix (e_v 3) (e_c (.int 2)))))) (e_v 3) (e_v 4))) (c_seq (c_asg (g_tup 2 (gs_cons (g_n 3) (gs_cons (g_n 4) (gs_nil)))) (e_v 1)) (c_seq (c_asg
    (gv (g_n 6)) (e_if (bf (e2 o_ltX (e2 o_mul (e2 o_ix (e_v 3) (e_v 2)) (e2 o_ix (e_v 4) (e_c (.int 2)))) (e2 o_mul (e2 o_ix (e_v 4) (e_v 2)) (e2 o_ix (e_v 3) (e_c (.int 2)))))) (e_v 4) (e_v
    3))) (c_ret (e2 o_ltX (e2 o_mul (e2 o_ix (e_v 6) (e_v 2)) (e2 o_ix (e_v 5) (e_c (.int 2)))) (e2 o_mul (e2 o_ix (e_v 5) (e_v 2)) (e2 o_ix (e_v 6) (e_c (.int 2)))))))))
noncomputable def m_apart : FM := fnM 7 3 c_apart
noncomputable def c_row_of : Cm := c_ret (eB o_tup (a_cons (e2 o_sub (e2 o_mul (e2 o_ix (e_v 0) (e_c (.int 1))) (e2 o_ix (e_v 1) (e_c (.int 2)))) (e2 o_mul (e2 o_ix (e_v 0) (e_c (.int 2))) (e2 o_ix (e_v 1) (e_c (.int 1)))))
    (a_cons (e2 o_sub (e2 o_mul (e2 o_ix (e_v 0) (e_c (.int 2))) (e2 o_ix (e_v 1) (e_c (.int 0)))) (e2 o_mul (e2 o_ix (e_v 0) (e_c (.int 0))) (e2 o_ix (e_v 1) (e_c (.int 2))))) (a_cons (e2
    o_sub (e2 o_mul (e2 o_ix (e_v 0) (e_c (.int 0))) (e2 o_ix (e_v 1) (e_c (.int 1)))) (e2 o_mul (e2 o_ix (e_v 0) (e_c (.int 1))) (e2 o_ix (e_v 1) (e_c (.int 0))))) (a_nil)))))
noncomputable def m_row_of : FM := fnM 2 2 c_row_of
noncomputable def c_sides_of_t4 : Cm := c_ret (e_take 1)
noncomputable def c_sides_of_b2 : Cm := c_ex (e_app 1 (eB o_tup (a_cons (e2 o_ix (e_v 0) (e_v 2)) (a_cons (e2 o_ix (e_v 0) (e2 o_mod (e2 o_add (e_v 2) (e_c (.int 1))) (eB (f1 o_len) (a_cons (e_v 0) (a_nil))))) (a_nil)))))
noncomputable def c_sides_of : Cm := c_seq (c_asg (g_n 1) (eB o_lst (a_nil))) (c_seq (c_for (g_n 2) (s_rng (a_cons (eB (f1 o_len) (a_cons (e_v 0) (a_nil))) (a_nil))) (c_sides_of_b2)) (c_sides_of_t4))
noncomputable def m_sides_of : FM := fnM 3 1 c_sides_of
noncomputable def c_l_pool_t11 : Cm := c_seq (c_asg (gv (g_n 7)) (e2 o_mul (eB (f1 o_abs) (a_cons (e_v 2) (a_nil))) (eB (f1 o_int) (a_cons (tv (t_and (bf (e2 o_gtX (eB (f1 o_len) (a_cons (e_v 0) (a_nil))) (e_c (.int 0)))) (bf (e2
    o_eq (e2 o_mod (e2 o_ix (e_v 0) (e_c (.int 0))) (e_c (.int 2))) (e_c (.int 1)))))) (a_nil))))) (c_ret (eB o_lst (a_cons (e_v 7) (a_cons (e_v 4) (a_nil)))))
noncomputable def c_l_pool_b6 : Cm := c_seq (c_asg (gv (g_n 3)) (e2 o_add (e2 o_mul (e_v 3) (e_c (.int 6364136223846793005))) (e2 o_mul (e_c (.int 1442695040888963407)) (e2 o_add (e2 o_add (e_v 1) (e_v 5)) (e_c (.int 1))))))
    (c_seq (c_asg (gv (g_n 3)) (e2 o_mod (e_v 3) (e_c (.int 2305843009213693951)))) (c_seq (c_asg (gv (g_n 6)) (e2 o_mul (e2 o_fdiv (e_v 3) (e_c (.int 1024))) (e2 o_add (e2 o_add (e2 o_mod (e_v
    3) (e_c (.int 1000003))) (e2 o_mul (e_c (.int 7919)) (e_v 5))) (e_c (.int 1))))) (c_asg (gv (g_n 4)) (e2 o_add (e2 o_mul (e_v 4) (e_c (.int 1099511627776))) (e2 o_mod (e_v 6) (e_c (.int
    1099511627776)))))))
noncomputable def c_l_pool_t4 : Cm := c_seq (c_asg (gv (g_n 3)) (e2 o_add (e2 o_add (e2 o_mod (eB (f1 o_abs) (a_cons (e_v 2) (a_nil))) (e_c (.int 2305843009213693951))) (e2 o_mul (e_c (.int 7919)) (e_v 1))) (e_c (.int 5))))
    (c_seq (c_asg (gv (g_n 4)) (e_c (.int 0))) (c_seq (c_for (g_n 5) (s_rng (a_cons (e_c (.int 12)) (a_nil))) (c_l_pool_b6)) (c_l_pool_t11)))
noncomputable def c_l_pool : Cm := c_seq (c_asg (gv (g_n 2)) (e_c (.int 0))) (c_seq (c_if (bf (e2 o_ltX (e_v 1) (eB (f1 o_len) (a_cons (e_v 0) (a_nil))))) (c_asg (gv (g_n 2)) (e2 o_ix (e_v 0) (e_v 1))) (c_nx)) (c_l_pool_t4))
noncomputable def m_l_pool : FM := fnM 8 2 c_l_pool
noncomputable def c_l_digit : Cm := c_seq (c_asg (gv (g_n 2)) (eB (f1 o_int) (a_cons (e2 o_eq (e2o o_ix 0 (e_c (.int 0))) (e_c (.int 0))) (a_nil)))) (c_seq (c_asg (gv (g_n 3)) (e2 o_mod (e2o o_ix 0 (e_v 2)) (e_v 1))) (c_seq
    (c_asg (gv (g_ix 0 (e_v 2))) (e2 o_fdiv (e2o o_ix 0 (e_v 2)) (e_v 1))) (c_ret (e_v 3))))
noncomputable def m_l_digit : FM := fnM 4 2 c_l_digit
noncomputable def c_l_shared_t5 : Cm := c_ret (e_v 0)
noncomputable def c_l_shared_b3 : Cm := c_par 0 1 (a_cons (e_v 1) (a_cons (e2 o_mod (e_v 0) (e_v 1)) (a_nil)))
noncomputable def c_l_shared : Cm := c_seq (c_asg (gv (g_n 0)) (eB (f1 o_abs) (a_cons (e_v 0) (a_nil)))) (c_seq (c_asg (gv (g_n 1)) (eB (f1 o_abs) (a_cons (e_v 1) (a_nil)))) (c_seq (c_wh (fuI 1) (bf (e2 o_gtX (e_v 1) (e_c (.int
    0)))) (c_l_shared_b3)) (c_l_shared_t5)))
noncomputable def m_l_shared : FM := fnM 2 2 c_l_shared
noncomputable def c_l_across : Cm := c_ret (e2 o_sub (e2 o_mul (e2 o_ix (e_v 0) (e_c (.int 0))) (e2 o_ix (e_v 1) (e_c (.int 1)))) (e2 o_mul (e2 o_ix (e_v 0) (e_c (.int 1))) (e2 o_ix (e_v 1) (e_c (.int 0)))))
noncomputable def m_l_across : FM := fnM 2 2 c_l_across
noncomputable def c_spot_t5 : Cm := c_seq (c_asg (gv (g_n 3)) (e_call m_divisor [] (r_v (e_call m_divisor [] (r_v (e_v 0) (r_v (e_v 1) (r_nil)))) (r_v (e_v 2) (r_nil))))) (c_ret (eB o_tup (a_cons (e2 o_fdiv (e_v 0) (e_v 3))
    (a_cons (e2 o_fdiv (e_v 1) (e_v 3)) (a_cons (e2 o_fdiv (e_v 2) (e_v 3)) (a_nil))))))
noncomputable def c_spot : Cm := c_seq (c_if (bf (e2 o_ltX (e_v 2) (e_c (.int 0)))) (c_seq (c_asg (gv (g_n 0)) (e2 o_sub (e_c (.int 0)) (e_v 0))) (c_seq (c_asg (gv (g_n 1)) (e2 o_sub (e_c (.int 0)) (e_v 1))) (c_asg (gv (g_n
    2)) (e2 o_sub (e_c (.int 0)) (e_v 2))))) (c_nx)) (c_spot_t5)
noncomputable def m_spot : FM := fnM 4 3 c_spot
noncomputable def c_ends_t3 : Cm := c_ret (eB o_tup (a_cons (e2 o_ix (e_v 0) (e_c (.int 0))) (a_cons (e2 o_ix (e_v 0) (e_c (.int 1))) (a_nil))))
noncomputable def c_ends : Cm := c_seq (c_if (t_tru (e_call m_ahead [] (r_v (e2 o_ix (e_v 0) (e_c (.int 1))) (r_v (e2 o_ix (e_v 0) (e_c (.int 0))) (r_nil))))) (c_ret (eB o_tup (a_cons (e2 o_ix (e_v 0) (e_c (.int 1))) (a_cons
    (e2 o_ix (e_v 0) (e_c (.int 0))) (a_nil))))) (c_nx)) (c_ends_t3)
noncomputable def m_ends : FM := fnM 1 1 c_ends
noncomputable def c_l_drawn_t8 : Cm := c_ret (e2 o_sub (e_call m_l_digit [] (r_m 0 (r_v (e2 o_add (e2 o_mul (e_c (.int 2)) (e2 o_pow (e_c (.int 10)) (e_c (.int 9)))) (e_c (.int 1))) (r_nil)))) (e2 o_pow (e_c (.int 10)) (e_c (.int
    9))))
noncomputable def c_l_drawn_t6 : Cm := c_seq (c_if (bf (e2 o_eq (e_v 1) (e_c (.int 3)))) (c_ret (e2 o_mul (e2 o_sub (e_c (.int 999999)) (e_call m_l_digit [] (r_m 0 (r_v (e_c (.int 3)) (r_nil))))) (e2 o_sub (e_c (.int 1)) (e2 o_mul
    (e_c (.int 2)) (e_call m_l_digit [] (r_m 0 (r_v (e_c (.int 2)) (r_nil)))))))) (c_nx)) (c_l_drawn_t8)
noncomputable def c_l_drawn_t4 : Cm := c_seq (c_if (bf (e2 o_eq (e_v 1) (e_c (.int 2)))) (c_ret (e2 o_sub (e_call m_l_digit [] (r_m 0 (r_v (e_c (.int 1999999)) (r_nil)))) (e_c (.int 999999)))) (c_nx)) (c_l_drawn_t6)
noncomputable def c_l_drawn : Cm := c_seq (c_asg (gv (g_n 1)) (e_call m_l_digit [] (r_m 0 (r_v (e_c (.int 5)) (r_nil))))) (c_seq (c_if (bf (e2 o_ltX (e_v 1) (e_c (.int 2)))) (c_ret (e2 o_sub (e_call m_l_digit [] (r_m 0 (r_v
    (e_c (.int 9)) (r_nil)))) (e_c (.int 4)))) (c_nx)) (c_l_drawn_t4))
noncomputable def m_l_drawn : FM := fnM 2 1 c_l_drawn
noncomputable def c_l_below : Cm := c_seq (c_asg (gv (g_n 1)) (e_call m_l_digit [] (r_m 0 (r_v (e_c (.int 5)) (r_nil))))) (c_ret (e2 o_add (e_c (.int 1)) (e_call m_l_digit [] (r_m 0 (r_v (e2 o_ix (eB o_lst (a_cons (e_c (.int
    1)) (a_cons (e_c (.int 1)) (a_cons (e_c (.int 9)) (a_cons (e_c (.int 999999)) (a_cons (e2 o_pow (e_c (.int 10)) (e_c (.int 9))) (a_nil))))))) (e_v 1)) (r_nil))))))
noncomputable def m_l_below : FM := fnM 2 1 c_l_below
noncomputable def c_l_lowest_t3 : Cm := c_seq (c_asg (gv (g_n 3)) (e_call m_l_shared [] (r_v (e_call m_l_shared [] (r_v (e_v 0) (r_v (e_v 1) (r_nil)))) (r_v (e_v 2) (r_nil))))) (c_ret (eB o_tup (a_cons (e2 o_fdiv (e_v 0) (e_v 3))
    (a_cons (e2 o_fdiv (e_v 1) (e_v 3)) (a_cons (e2 o_fdiv (e_v 2) (e_v 3)) (a_nil))))))
noncomputable def c_l_lowest : Cm := c_seq (c_if (bf (e2 o_ltX (e_v 2) (e_c (.int 0)))) (c_par3 0 1 2 (a_cons (e2 o_sub (e_c (.int 0)) (e_v 0)) (a_cons (e2 o_sub (e_c (.int 0)) (e_v 1)) (a_cons (e2 o_sub (e_c (.int 0)) (e_v 2))
    (a_nil))))) (c_nx)) (c_l_lowest_t3)
noncomputable def m_l_lowest : FM := fnM 4 3 c_l_lowest
noncomputable def c_stretch_t11 : Cm := c_ret (eB o_tup (a_cons (e_c (.str (PySem.Str.ofString "stretch"))) (a_cons (e_v 2) (a_cons (e_v 3) (a_nil)))))
noncomputable def c_stretch_t9 : Cm := c_seq (c_if (bf (e2 o_eq (e_v 2) (e_v 3))) (c_ret (eB o_tup (a_cons (e_c (.str (PySem.Str.ofString "spot"))) (a_cons (e_v 2) (a_nil))))) (c_nx)) (c_stretch_t11)
noncomputable def c_stretch_t7 : Cm := c_seq (c_if (t_tru (e_call m_ahead [] (r_v (e_v 3) (r_v (e_v 2) (r_nil))))) (c_ret (e_c .non)) (c_nx)) (c_stretch_t9)
noncomputable def c_stretch_t5 : Cm := c_seq (c_if (t_tru (e_call m_ahead [] (r_v (e_v 5) (r_v (e_v 3) (r_nil))))) (c_asg (gv (g_n 3)) (e_v 5)) (c_nx)) (c_stretch_t7)
noncomputable def c_stretch : Cm := c_seq (c_asg (g_tup 2 (gs_cons (g_n 2) (gs_cons (g_n 3) (gs_nil)))) (e_call m_ends [] (r_v (e_v 0) (r_nil)))) (c_seq (c_asg (g_tup 2 (gs_cons (g_n 4) (gs_cons (g_n 5) (gs_nil)))) (e_call
    m_ends [] (r_v (e_v 1) (r_nil)))) (c_seq (c_if (t_tru (e_call m_ahead [] (r_v (e_v 2) (r_v (e_v 4) (r_nil))))) (c_asg (gv (g_n 2)) (e_v 4)) (c_nx)) (c_stretch_t5)))
noncomputable def m_stretch : FM := fnM 6 2 c_stretch
noncomputable def c_crossing : Cm := c_seq (c_asg (g_tup 3 (gs_cons (g_n 2) (gs_cons (g_n 3) (gs_cons (g_n 4) (gs_nil))))) (e_call m_row_of [] (r_v (e_call m_row_of [] (r_v (e2 o_ix (e_v 0) (e_c (.int 0))) (r_v (e2 o_ix (e_v 0)
    (e_c (.int 1))) (r_nil)))) (r_v (e_call m_row_of [] (r_v (e2 o_ix (e_v 1) (e_c (.int 0))) (r_v (e2 o_ix (e_v 1) (e_c (.int 1))) (r_nil)))) (r_nil))))) (c_ret (e_call m_spot [] (r_v (e_v 2)
    (r_v (e_v 3) (r_v (e_v 4) (r_nil))))))
noncomputable def m_crossing : FM := fnM 5 2 c_crossing
noncomputable def c_l_spot_t4 : Cm := c_ret (e_call m_l_lowest [] (r_v (e_call m_l_digit [] (r_m 0 (r_v (e2 o_add (e_c (.int 5)) (e2 o_mul (e_c (.int 4)) (e_v 1))) (r_nil)))) (r_v (e_call m_l_digit [] (r_m 0 (r_v (e2 o_add (e_c
    (.int 5)) (e2 o_mul (e_c (.int 4)) (e_v 1))) (r_nil)))) (r_v (e2 o_ix (eB o_lst (a_cons (e_c (.int 1)) (a_cons (e_c (.int 1)) (a_cons (e_c (.int 2)) (a_nil))))) (e_call m_l_digit [] (r_m 0
    (r_v (e_c (.int 3)) (r_nil))))) (r_nil)))))
noncomputable def c_l_spot : Cm := c_seq (c_asg (gv (g_n 1)) (e_call m_l_digit [] (r_m 0 (r_v (e_c (.int 3)) (r_nil))))) (c_seq (c_if (bf (e2 o_eq (e_v 1) (e_c (.int 0)))) (c_ret (e_call m_l_lowest [] (r_v (e_call m_l_drawn []
    (r_m 0 (r_nil))) (r_v (e_call m_l_drawn [] (r_m 0 (r_nil))) (r_v (e_call m_l_below [] (r_m 0 (r_nil))) (r_nil)))))) (c_nx)) (c_l_spot_t4))
noncomputable def m_l_spot : FM := fnM 2 1 c_l_spot
noncomputable def c_l_unlike_t4 : Cm := c_ret (e_v 0)
noncomputable def c_l_unlike_b1 : Cm := c_if (bf (e2 (o_inX false) (e_v 0) (e_v 1))) (c_asg (gv (g_n 0)) (e_call m_l_lowest [] (r_v (e2 o_add (e2 o_ix (e_v 0) (e_c (.int 0))) (e2 o_ix (e_v 0) (e_c (.int 2)))) (r_v (e2 o_ix (e_v 0)
    (e_c (.int 1))) (r_v (e2 o_ix (e_v 0) (e_c (.int 2))) (r_nil)))))) (c_nx)
noncomputable def c_l_unlike : Cm := c_seq (c_for (g_n 2) (s_rng (a_cons (e2 o_add (eB (f1 o_len) (a_cons (e_v 1) (a_nil))) (e_c (.int 1))) (a_nil))) (c_l_unlike_b1)) (c_l_unlike_t4)
noncomputable def m_l_unlike : FM := fnM 3 2 c_l_unlike
noncomputable def c_l_between : Cm := c_seq (c_asg (gv (g_n 3)) (e2 o_sub (e_call m_l_digit [] (r_m 0 (r_v (e_c (.int 7)) (r_nil)))) (e_c (.int 1)))) (c_seq (c_asg (gv (g_n 4)) (e2 o_add (e_c (.int 1)) (e_call m_l_digit [] (r_m 0
    (r_v (e_c (.int 5)) (r_nil)))))) (c_seq (c_asg (gv (g_n 5)) (e2 o_add (e2 o_mul (e2 o_mul (e2 o_ix (e_v 1) (e_c (.int 0))) (e2 o_ix (e_v 2) (e_c (.int 2)))) (e2 o_sub (e_v 4) (e_v 3))) (e2
    o_mul (e2 o_mul (e2 o_ix (e_v 2) (e_c (.int 0))) (e2 o_ix (e_v 1) (e_c (.int 2)))) (e_v 3)))) (c_seq (c_asg (gv (g_n 6)) (e2 o_add (e2 o_mul (e2 o_mul (e2 o_ix (e_v 1) (e_c (.int 1))) (e2
    o_ix (e_v 2) (e_c (.int 2)))) (e2 o_sub (e_v 4) (e_v 3))) (e2 o_mul (e2 o_mul (e2 o_ix (e_v 2) (e_c (.int 1))) (e2 o_ix (e_v 1) (e_c (.int 2)))) (e_v 3)))) (c_ret (e_call m_l_lowest [] (r_v
    (e_v 5) (r_v (e_v 6) (r_v (e2 o_mul (e2 o_mul (e2 o_ix (e_v 1) (e_c (.int 2))) (e2 o_ix (e_v 2) (e_c (.int 2)))) (e_v 4)) (r_nil)))))))))
noncomputable def m_l_between : FM := fnM 7 3 c_l_between
noncomputable def c_l_lone : Cm := c_ret (eB o_tup (a_cons (e_c (.str (PySem.Str.ofString "spot"))) (a_cons (e_call m_l_lowest [] (r_v (e_v 0) (r_v (e_v 1) (r_v (e_v 2) (r_nil))))) (a_nil))))
noncomputable def m_l_lone : FM := fnM 3 3 c_l_lone
noncomputable def c_l_round_t12 : Cm := c_ret (eB (f1 o_tuple) (a_cons (e_fz 7) (a_nil)))
noncomputable def c_l_round_b8 : Cm := c_seq (c_asg (gv (g_n 8)) (e2 o_add (e_c (.int 1)) (e_call m_l_digit [] (r_m 0 (r_v (e_c (.int 60)) (r_nil)))))) (c_seq (c_asg (gv (g_n 9)) (e2 o_add (e_c (.int 1)) (e_call m_l_digit [] (r_m
    0 (r_v (e_c (.int 5)) (r_nil)))))) (c_ex (e_app 7 (e_call m_l_lowest [] (r_v (e2 o_add (e2 o_mul (e_v 2) (e_v 9)) (e2 o_mul (e2 o_ix (e_v 6) (e_c (.int 0))) (e_v 8))) (r_v (e2 o_add (e2
    o_mul (e_v 3) (e_v 9)) (e2 o_mul (e2 o_ix (e_v 6) (e_c (.int 1))) (e_v 8))) (r_v (e_v 9) (r_nil))))))))
noncomputable def c_l_round : Cm := c_seq (c_asg (gv (g_n 1)) (eB o_lst (a_cons (eB o_tup (a_cons (e_c (.int 4)) (a_cons (e_c (.int 0)) (a_nil)))) (a_cons (eB o_tup (a_cons (e_c (.int 7)) (a_cons (e_c (.int 1)) (a_nil))))
    (a_cons (eB o_tup (a_cons (e_c (.int 3)) (a_cons (e_c (.int 1)) (a_nil)))) (a_cons (eB o_tup (a_cons (e_c (.int 1)) (a_cons (e_c (.int 1)) (a_nil)))) (a_cons (eB o_tup (a_cons (e_c (.int
    2)) (a_cons (e_c (.int 3)) (a_nil)))) (a_cons (eB o_tup (a_cons (e_c (.int 1)) (a_cons (e_c (.int 4)) (a_nil)))) (a_cons (eB o_tup (a_cons (e_c (.int 0)) (a_cons (e_c (.int 5)) (a_nil))))
    (a_cons (eB o_tup (a_cons (e1 o_neg (e_c (.int 1))) (a_cons (e_c (.int 6)) (a_nil)))) (a_cons (eB o_tup (a_cons (e1 o_neg (e_c (.int 1))) (a_cons (e_c (.int 3)) (a_nil)))) (a_cons (eB o_tup
    (a_cons (e1 o_neg (e_c (.int 1))) (a_cons (e_c (.int 1)) (a_nil)))) (a_cons (eB o_tup (a_cons (e1 o_neg (e_c (.int 3))) (a_cons (e_c (.int 2)) (a_nil)))) (a_cons (eB o_tup (a_cons (e1 o_neg
    (e_c (.int 5))) (a_cons (e_c (.int 1)) (a_nil)))) (a_nil))))))))))))))) (c_seq (c_asg (gv (g_n 1)) (e2 o_add (e_v 1) (eB o_lst (a_cons (eB o_tup (a_cons (e1 o_neg (e_c (.int 4))) (a_cons
    (e_c (.int 0)) (a_nil)))) (a_cons (eB o_tup (a_cons (e1 o_neg (e_c (.int 4))) (a_cons (e1 o_neg (e_c (.int 1))) (a_nil)))) (a_cons (eB o_tup (a_cons (e1 o_neg (e_c (.int 3))) (a_cons (e1
    o_neg (e_c (.int 2))) (a_nil)))) (a_cons (eB o_tup (a_cons (e1 o_neg (e_c (.int 1))) (a_cons (e1 o_neg (e_c (.int 1))) (a_nil)))) (a_cons (eB o_tup (a_cons (e1 o_neg (e_c (.int 1))) (a_cons
    (e1 o_neg (e_c (.int 4))) (a_nil)))) (a_cons (eB o_tup (a_cons (e_c (.int 0)) (a_cons (e1 o_neg (e_c (.int 5))) (a_nil)))) (a_cons (eB o_tup (a_cons (e_c (.int 1)) (a_cons (e1 o_neg (e_c
    (.int 3))) (a_nil)))) (a_cons (eB o_tup (a_cons (e_c (.int 2)) (a_cons (e1 o_neg (e_c (.int 3))) (a_nil)))) (a_cons (eB o_tup (a_cons (e_c (.int 2)) (a_cons (e1 o_neg (e_c (.int 2)))
    (a_nil)))) (a_cons (eB o_tup (a_cons (e_c (.int 3)) (a_cons (e1 o_neg (e_c (.int 1))) (a_nil)))) (a_nil)))))))))))))) (c_seq (c_asg (gv (g_n 1)) (e2 o_add (e_v 1) (eB o_lst (a_cons (eB
    o_tup (a_cons (e_c (.int 5)) (a_cons (e1 o_neg (e_c (.int 1))) (a_nil)))) (a_cons (eB o_tup (a_cons (e_c (.int 9)) (a_cons (e1 o_neg (e_c (.int 1))) (a_nil)))) (a_nil)))))) (c_seq (c_par 2
    3 (a_cons (e2 o_sub (e_call m_l_digit [] (r_m 0 (r_v (e_c (.int 2000)) (r_nil)))) (e_c (.int 1000))) (a_cons (e2 o_sub (e_call m_l_digit [] (r_m 0 (r_v (e_c (.int 2000)) (r_nil)))) (e_c
    (.int 1000))) (a_nil)))) (c_seq (c_asg (gv (g_n 4)) (e2 o_add (e_c (.int 1)) (e_call m_l_digit [] (r_m 0 (r_v (e_c (.int 3)) (r_nil)))))) (c_seq (c_asg (gv (g_n 5)) (e_lc [6] (g_n 6) (s_seq
    (e_v 1)) (t_or (bf (e2 o_ltX (e_call m_l_digit [] (r_m 0 (r_v (e_v 4) (r_nil)))) (e_c (.int 2)))) (bf (e2 (o_inX false) (e_v 6) (e1 (o_stp 8) (e_v 1))))) (e_v 6))) (c_seq (c_asg (g_n 7) (eB
    o_lst (a_nil))) (c_seq (c_for (g_n 6) (s_seq (e_v 5)) (c_l_round_b8)) (c_l_round_t12))))))))
noncomputable def m_l_round : FM := fnM 10 1 c_l_round
noncomputable def c_common_t11 : Cm := c_ret (eB o_tup (a_cons (e_c (.str (PySem.Str.ofString "spot"))) (a_cons (e_call m_crossing [] (r_v (e_v 0) (r_v (e_v 1) (r_nil)))) (a_nil))))
noncomputable def c_common_t9 : Cm := c_seq (c_if (t_or (bf (e2 o_gtX (e2 o_mul (e_v 6) (e_v 7)) (e_c (.int 0)))) (bf (e2 o_gtX (e2 o_mul (e_call m_turn [] (r_v (e_v 4) (r_v (e_v 5) (r_v (e_v 2) (r_nil))))) (e_call m_turn [] (r_v
    (e_v 4) (r_v (e_v 5) (r_v (e_v 3) (r_nil)))))) (e_c (.int 0))))) (c_ret (e_c .non)) (c_nx)) (c_common_t11)
noncomputable def c_common_t3 : Cm := c_seq (c_asg (g_tup 2 (gs_cons (g_n 2) (gs_cons (g_n 3) (gs_nil)))) (e_v 0)) (c_seq (c_asg (g_tup 2 (gs_cons (g_n 4) (gs_cons (g_n 5) (gs_nil)))) (e_v 1)) (c_seq (c_asg (gv (g_n 6)) (e_call
    m_turn [] (r_v (e_v 2) (r_v (e_v 3) (r_v (e_v 4) (r_nil)))))) (c_seq (c_asg (gv (g_n 7)) (e_call m_turn [] (r_v (e_v 2) (r_v (e_v 3) (r_v (e_v 5) (r_nil)))))) (c_seq (c_if (t_and (bf (e2
    o_eq (e_v 6) (e_c (.int 0)))) (bf (e2 o_eq (e_v 7) (e_c (.int 0))))) (c_ret (e_call m_stretch [] (r_v (e_v 0) (r_v (e_v 1) (r_nil))))) (c_nx)) (c_common_t9)))))
noncomputable def c_common : Cm := c_seq (c_if (t_or (t_tru (e_call m_apart [] (r_v (e_v 0) (r_v (e_v 1) (r_v (e_c (.int 0)) (r_nil)))))) (t_or (t_tru (e_call m_apart [] (r_v (e_v 1) (r_v (e_v 0) (r_v (e_c (.int 0))
    (r_nil)))))) (t_or (t_tru (e_call m_apart [] (r_v (e_v 0) (r_v (e_v 1) (r_v (e_c (.int 1)) (r_nil)))))) (t_tru (e_call m_apart [] (r_v (e_v 1) (r_v (e_v 0) (r_v (e_c (.int 1))
    (r_nil))))))))) (c_ret (e_c .non)) (c_nx)) (c_common_t3)
noncomputable def m_common : FM := fnM 8 2 c_common
noncomputable def c_l_loop_t5 : Cm := c_ret (eB (f1 o_tuple) (a_cons (e_fz 2) (a_nil)))
noncomputable def c_l_loop_b3 : Cm := c_ex (e_app 2 (e_call m_l_unlike [] (r_v (e_call m_l_spot [] (r_m 0 (r_nil))) (r_v (e2 o_add (eB o_lst (a_cons (e2o o_ix 2 (e1 o_neg (e_c (.int 1)))) (a_nil))) (e_slo 2 (p_no) (p_at (eB (f1
    o_int) (a_cons (e2 o_eq (e2 o_add (e_v 4) (e_c (.int 1))) (e_v 3)) (a_nil)))))) (r_nil)))))
noncomputable def c_l_loop : Cm := c_seq (c_asg (g_n 2) (eB o_lst (a_cons (e_call m_l_spot [] (r_m 0 (r_nil))) (a_nil)))) (c_seq (c_asg (gv (g_n 3)) (e2 o_add (e_c (.int 3)) (e_call m_l_digit [] (r_m 0 (r_v (e2 o_sub (e_v 1)
    (e_c (.int 2))) (r_nil)))))) (c_seq (c_for (g_n 4) (s_rng2 (a_cons (e_c (.int 1)) (a_cons (e_v 3) (a_nil)))) (c_l_loop_b3)) (c_l_loop_t5)))
noncomputable def m_l_loop : FM := fnM 5 2 c_l_loop
noncomputable def c_l_in_row_t7 : Cm := c_ret (eB o_tup (a_cons (e_c (.str (PySem.Str.ofString "stretch"))) (a_cons (e_call m_l_lowest [] (r_v (e2 o_ix (e_v 3) (e_c (.int 0))) (r_v (e2 o_ix (e_v 3) (e_c (.int 1))) (r_v (e_v 2)
    (r_nil))))) (a_cons (e_call m_l_lowest [] (r_v (e2 o_ix (e_v 4) (e_c (.int 0))) (r_v (e2 o_ix (e_v 4) (e_c (.int 1))) (r_v (e_v 2) (r_nil))))) (a_nil)))))
noncomputable def c_l_in_row_t5 : Cm := c_seq (c_if (bf (e2 o_eq (e_v 3) (e_v 4))) (c_ret (e_call m_l_lone [] (r_v (e2 o_ix (e_v 3) (e_c (.int 0))) (r_v (e2 o_ix (e_v 3) (e_c (.int 1))) (r_v (e_v 2) (r_nil)))))) (c_nx))
    (c_l_in_row_t7)
noncomputable def c_l_in_row : Cm := c_seq (c_asg (gv (g_n 3)) (eB (f2 o_maxX) (a_cons (e2 o_ix (e_v 0) (e_c (.int 0))) (a_cons (e2 o_ix (e_v 1) (e_c (.int 0))) (a_nil))))) (c_seq (c_asg (gv (g_n 4)) (eB (f2 o_minX) (a_cons (e2
    o_ix (e_v 0) (e_c (.int 1))) (a_cons (e2 o_ix (e_v 1) (e_c (.int 1))) (a_nil))))) (c_seq (c_if (bf (e2 o_gtX (e_v 3) (e_v 4))) (c_ret (e_c .non)) (c_nx)) (c_l_in_row_t5)))
noncomputable def m_l_in_row : FM := fnM 5 3 c_l_in_row
noncomputable def c_l_spoilt_t9 : Cm := c_seq (c_asg (gv (g_n 3)) (e_call m_l_unlike [] (r_v (e_v 3) (r_v (eB o_lst (a_cons (e2 o_ix (e_v 1) (e2 o_sub (e_v 2) (e_c (.int 1)))) (a_cons (e2 o_ix (e_v 1) (e2 o_mod (e2 o_add (e_v 2)
    (e_c (.int 1))) (eB (f1 o_len) (a_cons (e_v 1) (a_nil))))) (a_nil)))) (r_nil))))) (c_ret (e2 o_add (e2 o_add (e_sl (e_v 1) (p_no) (p_at (e_v 2))) (eB o_tup (a_cons (e_v 3) (a_nil)))) (e_sl
    (e_v 1) (p_at (e2 o_add (e_v 2) (e_c (.int 1)))) (p_no))))
noncomputable def c_l_spoilt_t7 : Cm := c_seq (c_if (bf (e2 o_eq (e_v 4) (e_c (.int 2)))) (c_asg (gv (g_n 3)) (e2 o_ix (e_v 1) (e_call m_l_digit [] (r_m 0 (r_v (eB (f1 o_len) (a_cons (e_v 1) (a_nil))) (r_nil)))))) (c_nx))
    (c_l_spoilt_t9)
noncomputable def c_l_spoilt : Cm := c_seq (c_asg (gv (g_n 2)) (e_call m_l_digit [] (r_m 0 (r_v (eB (f1 o_len) (a_cons (e_v 1) (a_nil))) (r_nil))))) (c_seq (c_asg (gv (g_n 3)) (e_call m_l_spot [] (r_m 0 (r_nil)))) (c_seq (c_asg
    (gv (g_n 4)) (e_call m_l_digit [] (r_m 0 (r_v (e_c (.int 3)) (r_nil))))) (c_seq (c_if (bf (e2 o_eq (e_v 4) (e_c (.int 1)))) (c_seq (c_asg (gv (g_n 5)) (e_call m_l_digit [] (r_m 0 (r_v (eB
    (f1 o_len) (a_cons (e_v 1) (a_nil))) (r_nil))))) (c_asg (gv (g_n 3)) (e_call m_l_between [] (r_m 0 (r_v (e2 o_ix (e_v 1) (e2 o_sub (e_v 5) (e_c (.int 1)))) (r_v (e2 o_ix (e_v 1) (e_v 5))
    (r_nil))))))) (c_nx)) (c_l_spoilt_t7))))
noncomputable def m_l_spoilt : FM := fnM 6 2 c_l_spoilt
noncomputable def c_is_simple_t14 : Cm := c_ret (e_c (.bl true))
noncomputable def c_is_simple_t12 : Cm := c_if (bf (e2 o_ne (e_call m_common [] (r_v (e2 o_ix (e_v 1) (e_v 4)) (r_v (e2 o_ix (e_v 1) (e_v 3)) (r_nil)))) (e_v 5))) (c_ret (e_c (.bl false))) (c_nx)
noncomputable def c_is_simple_b6 : Cm := c_seq (c_asg (gv (g_n 5)) (e_c .non)) (c_seq (c_if (bf (e2 o_eq (e2 o_add (e_v 4) (e_c (.int 1))) (e_v 3))) (c_asg (gv (g_n 5)) (eB o_tup (a_cons (e_c (.str (PySem.Str.ofString "spot")))
    (a_cons (e2 o_ix (e_v 0) (e_v 3)) (a_nil))))) (c_if (t_and (bf (e2 o_eq (e_v 4) (e_c (.int 0)))) (bf (e2 o_eq (e_v 3) (e_v 2)))) (c_asg (gv (g_n 5)) (eB o_tup (a_cons (e_c (.str
    (PySem.Str.ofString "spot"))) (a_cons (e2 o_ix (e_v 0) (e_c (.int 0))) (a_nil))))) (c_nx))) (c_is_simple_t12))
noncomputable def c_is_simple_b5 : Cm := c_for (g_n 4) (s_rng (a_cons (e_v 3) (a_nil))) (c_is_simple_b6)
noncomputable def c_is_simple_t3 : Cm := c_seq (c_asg (gv (g_n 1)) (e_call m_sides_of [] (r_v (e_v 0) (r_nil)))) (c_seq (c_asg (gv (g_n 2)) (e2 o_sub (eB (f1 o_len) (a_cons (e_v 1) (a_nil))) (e_c (.int 1)))) (c_seq (c_for (g_n 3)
    (s_rng (a_cons (e2 o_add (e_v 2) (e_c (.int 1))) (a_nil))) (c_is_simple_b5)) (c_is_simple_t14)))
noncomputable def c_is_simple : Cm := c_seq (c_if (t_or (bf (e2 o_ltX (eB (f1 o_len) (a_cons (e_v 0) (a_nil))) (e_c (.int 3)))) (bf (e2 o_ne (eB (f1 o_lset2) (a_cons (e_v 0) (a_nil))) (eB (f1 o_len) (a_cons (e_v 0) (a_nil))))))
    (c_ret (e_c (.bl false))) (c_nx)) (c_is_simple_t3)
noncomputable def m_is_simple : FM := fnM 6 1 c_is_simple
noncomputable def c_l_shares_t15 : Cm := c_ret (e_call m_l_lone [] (r_v (e2 o_add (e2 o_mul (e2 o_ix (e_v 3) (e_c (.int 0))) (e_v 11)) (e2 o_mul (e2 o_ix (e_v 8) (e_c (.int 0))) (e_v 12))) (r_v (e2 o_add (e2 o_mul (e2 o_ix (e_v 3)
    (e_c (.int 1))) (e_v 11)) (e2 o_mul (e2 o_ix (e_v 8) (e_c (.int 1))) (e_v 12))) (r_v (e2 o_mul (e_v 2) (e_v 11)) (r_nil)))))
noncomputable def c_l_shares_t13 : Cm := c_seq (c_if (t_or (bf (e2 o_eq (e_v 11) (e_c (.int 0)))) (t_or (t_not (bf (e_chain o_leX o_leX (e_c (.int 0)) (e_v 12) (e_v 11)))) (t_not (bf (e_chain o_leX o_leX (e_c (.int 0)) (e_v 13) (e_v
    11)))))) (c_ret (e_c .non)) (c_nx)) (c_l_shares_t15)
noncomputable def c_l_shares_t11 : Cm := c_seq (c_if (bf (e2 o_ltX (e_v 11) (e_c (.int 0)))) (c_par3 11 12 13 (a_cons (e2 o_sub (e_c (.int 0)) (e_v 11)) (a_cons (e2 o_sub (e_c (.int 0)) (e_v 12)) (a_cons (e2 o_sub (e_c (.int 0))
    (e_v 13)) (a_nil))))) (c_nx)) (c_l_shares_t13)
noncomputable def c_l_shares : Cm := c_seq (c_asg (gv (g_n 2)) (e2 o_mul (e2 o_mul (e2 o_mul (e2 o_ix (e2 o_ix (e_v 0) (e_c (.int 0))) (e_c (.int 2))) (e2 o_ix (e2 o_ix (e_v 0) (e_c (.int 1))) (e_c (.int 2)))) (e2 o_ix (e2 o_ix
    (e_v 1) (e_c (.int 0))) (e_c (.int 2)))) (e2 o_ix (e2 o_ix (e_v 1) (e_c (.int 1))) (e_c (.int 2))))) (c_seq (c_asg (gv (g_lst 4 (gs_cons (g_n 3) (gs_cons (g_n 4) (gs_cons (g_n 5) (gs_cons
    (g_n 6) (gs_nil))))))) (e_lc [7] (g_n 7) (s_seq (e2 o_add (e_v 0) (e_v 1))) (t_yes) (eB o_tup (a_cons (e2 o_mul (e2 o_ix (e_v 7) (e_c (.int 0))) (e2 o_fdiv (e_v 2) (e2 o_ix (e_v 7) (e_c
    (.int 2))))) (a_cons (e2 o_mul (e2 o_ix (e_v 7) (e_c (.int 1))) (e2 o_fdiv (e_v 2) (e2 o_ix (e_v 7) (e_c (.int 2))))) (a_nil)))))) (c_seq (c_asg (gv (g_n 8)) (eB o_tup (a_cons (e2 o_sub (e2
    o_ix (e_v 4) (e_c (.int 0))) (e2 o_ix (e_v 3) (e_c (.int 0)))) (a_cons (e2 o_sub (e2 o_ix (e_v 4) (e_c (.int 1))) (e2 o_ix (e_v 3) (e_c (.int 1)))) (a_nil))))) (c_seq (c_asg (gv (g_n 9))
    (eB o_tup (a_cons (e2 o_sub (e2 o_ix (e_v 6) (e_c (.int 0))) (e2 o_ix (e_v 5) (e_c (.int 0)))) (a_cons (e2 o_sub (e2 o_ix (e_v 6) (e_c (.int 1))) (e2 o_ix (e_v 5) (e_c (.int 1))))
    (a_nil))))) (c_seq (c_asg (gv (g_n 10)) (eB o_tup (a_cons (e2 o_sub (e2 o_ix (e_v 5) (e_c (.int 0))) (e2 o_ix (e_v 3) (e_c (.int 0)))) (a_cons (e2 o_sub (e2 o_ix (e_v 5) (e_c (.int 1))) (e2
    o_ix (e_v 3) (e_c (.int 1)))) (a_nil))))) (c_seq (c_asg (gv (g_n 11)) (e_call m_l_across [] (r_v (e_v 8) (r_v (e_v 9) (r_nil))))) (c_seq (c_asg (gv (g_n 12)) (e_call m_l_across [] (r_v (e_v
    10) (r_v (e_v 9) (r_nil))))) (c_seq (c_asg (gv (g_n 13)) (e_call m_l_across [] (r_v (e_v 10) (r_v (e_v 8) (r_nil))))) (c_seq (c_if (t_and (bf (e2 o_eq (e_v 11) (e_c (.int 0)))) (bf (e2 o_eq
    (e_v 13) (e_c (.int 0))))) (c_ret (e_call m_l_in_row [] (r_v (eB (f1 o_sorted) (a_cons (eB o_lst (a_cons (e_v 3) (a_cons (e_v 4) (a_nil)))) (a_nil))) (r_v (eB (f1 o_sorted) (a_cons (eB
    o_lst (a_cons (e_v 5) (a_cons (e_v 6) (a_nil)))) (a_nil))) (r_v (e_v 2) (r_nil)))))) (c_nx)) (c_l_shares_t11)))))))))
noncomputable def m_l_shares : FM := fnM 14 2 c_l_shares
noncomputable def c_l_is_simple_t14 : Cm := c_ret (e_c (.bl true))
noncomputable def c_l_is_simple_t12 : Cm := c_if (bf (e2 o_ne (e_call m_l_shares [] (r_v (e2 o_ix (e_v 2) (e_v 4)) (r_v (e2 o_ix (e_v 2) (e_v 3)) (r_nil)))) (e_v 5))) (c_ret (e_c (.bl false))) (c_nx)
noncomputable def c_l_is_simple_t10 : Cm := c_seq (c_if (t_and (bf (e2 o_eq (e_v 4) (e_c (.int 0)))) (bf (e2 o_eq (e_v 3) (e2 o_sub (e_v 1) (e_c (.int 1)))))) (c_asg (gv (g_n 5)) (eB o_tup (a_cons (e_c (.str (PySem.Str.ofString
    "spot"))) (a_cons (e2 o_ix (e_v 0) (e_c (.int 0))) (a_nil))))) (c_nx)) (c_l_is_simple_t12)
noncomputable def c_l_is_simple_b6 : Cm := c_seq (c_asg (gv (g_n 5)) (e_c .non)) (c_seq (c_if (bf (e2 o_eq (e2 o_sub (e_v 3) (e_v 4)) (e_c (.int 1)))) (c_asg (gv (g_n 5)) (eB o_tup (a_cons (e_c (.str (PySem.Str.ofString "spot")))
    (a_cons (e2 o_ix (e_v 0) (e_v 3)) (a_nil))))) (c_nx)) (c_l_is_simple_t10))
noncomputable def c_l_is_simple_b5 : Cm := c_for (g_n 4) (s_rng (a_cons (e_v 3) (a_nil))) (c_l_is_simple_b6)
noncomputable def c_l_is_simple_t3 : Cm := c_seq (c_asg (gv (g_n 1)) (eB (f1 o_len) (a_cons (e_v 0) (a_nil)))) (c_seq (c_asg (gv (g_n 2)) (e_lc [3] (g_n 3) (s_rng (a_cons (e_v 1) (a_nil))) (t_yes) (eB o_tup (a_cons (e2 o_ix (e_v 0)
    (e_v 3)) (a_cons (e2 o_ix (e_v 0) (e2 o_mod (e2 o_add (e_v 3) (e_c (.int 1))) (e_v 1))) (a_nil)))))) (c_seq (c_for (g_n 3) (s_rng (a_cons (e_v 1) (a_nil))) (c_l_is_simple_b5))
    (c_l_is_simple_t14)))
noncomputable def c_l_is_simple : Cm := c_seq (c_if (bf (e2 o_ne (eB (f1 o_lset2) (a_cons (e_v 0) (a_nil))) (eB (f1 o_len) (a_cons (e_v 0) (a_nil))))) (c_ret (e_c (.bl false))) (c_nx)) (c_l_is_simple_t3)
noncomputable def m_l_is_simple : FM := fnM 6 1 c_l_is_simple
noncomputable def c_law_t22 : Cm := c_ret (e_c (.bl true))
noncomputable def c_law_t20 : Cm := c_if (bf (e2 o_ne (e_call m_is_simple [] (r_v (e1 (o_rev "tuple") (e_v 4)) (r_nil))) (e_v 8))) (c_ret (e_c (.bl false))) (c_nx)
noncomputable def c_law_t15 : Cm := c_seq (c_asg (gv (g_n 8)) (e_call m_l_is_simple [] (r_v (e_v 4) (r_nil)))) (c_seq (c_asg (gv (g_n 9)) (e_call m_is_simple [] (r_v (e_v 4) (r_nil)))) (c_seq (c_asg (gv (g_n 10)) (e_call
    m_l_digit [] (r_m 2 (r_v (eB (f1 o_len) (a_cons (e_v 4) (a_nil))) (r_nil))))) (c_seq (c_if (t_or (t_not (t_tru (e1 (o_isi "bool") (e_v 9)))) (t_or (bf (e2 o_ne (e_v 9) (e_v 8))) (bf (e2
    o_ne (e_call m_is_simple [] (r_v (e2 o_add (e_sl (e_v 4) (p_at (e_v 10)) (p_no)) (e_sl (e_v 4) (p_no) (p_at (e_v 10)))) (r_nil))) (e_v 8))))) (c_ret (e_c (.bl false))) (c_nx))
    (c_law_t20))))
noncomputable def c_law_t13 : Cm := c_seq (c_if (bf (e2 o_eq (e_v 3) (e_c (.int 2)))) (c_asg (gv (g_n 4)) (e_call m_l_spoilt [] (r_m 2 (r_v (e_v 4) (r_nil))))) (c_nx)) (c_law_t15)
noncomputable def c_law_t9 : Cm := c_seq (c_if (bf (e2 o_gtX (e_v 3) (e_c (.int 0)))) (c_seq (c_asg (gv (g_n 4)) (e_call m_l_round [] (r_m 2 (r_nil)))) (c_if (bf (e2 o_isnt (e_call m_is_simple [] (r_v (e_v 4) (r_nil))) (e_c
    (.bl true)))) (c_ret (e_c (.bl false))) (c_nx))) (c_nx)) (c_law_t13)
noncomputable def c_law_b6 : Cm := c_if (bf (e2 o_isnt (e_call m_is_simple [] (r_v (e_v 7) (r_nil))) (e_c (.bl false)))) (c_ret (e_c (.bl false))) (c_nx)
noncomputable def c_law_b1 : Cm := c_seq (c_asg (g_n 2) (e_call m_l_pool [] (r_v (e_v 0) (r_v (e2 o_add (e_c (.int 1)) (e_v 1)) (r_nil))))) (c_seq (c_asg (gv (g_n 3)) (e_call m_l_digit [] (r_m 2 (r_v (e_c (.int 3)) (r_nil)))))
    (c_seq (c_asg (gv (g_n 4)) (e_call m_l_loop [] (r_m 2 (r_v (e_c (.int 9)) (r_nil))))) (c_seq (c_asg (g_tup 2 (gs_cons (g_n 5) (gs_cons (g_n 6) (gs_nil)))) (e_sl (e_v 4) (p_no) (p_at (e_c
    (.int 2))))) (c_seq (c_for (g_n 7) (s_seq (eB o_lst (a_cons (eB o_tup (a_nil)) (a_cons (eB o_tup (a_cons (e_v 5) (a_nil))) (a_cons (eB o_tup (a_cons (e_v 5) (a_cons (e_v 6) (a_nil))))
    (a_cons (eB o_tup (a_cons (e_v 5) (a_cons (e_v 5) (a_cons (e_v 6) (a_nil))))) (a_cons (eB o_tup (a_cons (e_v 5) (a_cons (e_v 6) (a_cons (e_v 6) (a_nil))))) (a_cons (eB o_tup (a_cons (e_v 5)
    (a_cons (e_v 6) (a_cons (e_v 5) (a_nil))))) (a_nil))))))))) (c_law_b6)) (c_law_t9)))))
noncomputable def c_law : Cm := c_seq (c_for (g_n 1) (s_rng (a_cons (eB (f2 o_maxX) (a_cons (e_c (.int 1)) (a_cons (eB (f1 o_len) (a_cons (e_sl (e_v 0) (p_at (e_c (.int 1))) (p_at (e_c (.int 4)))) (a_nil))) (a_nil))))
    (a_nil))) (c_law_b1)) (c_law_t22)
noncomputable def m_law : FM := fnM 11 1 c_law
end Lw
set_option maxRecDepth 100000
set_option maxHeartbeats 4000000
set_option exponentiation.threshold 20000
set_option autoImplicit false
namespace Lw
open PySem PySem.Spec PyProof.Rows L2 Vz
local macro_rules | `(tactic| walk_at "ev") => `(tactic| simp only [Vz.Ok_some, Vz.Ok_none, Vz.Ok_bind, Vz.Th_eq, Vz.Ok_need, Vz.Ok_ite, if_false_right, if_false_left, Vz.vf_eq, Vz.kvf_eq, Vz.e_c_eq, Vz.vc_eq, Vz.e_v_eq, Vz.getV_eq, Vz.vv_eq, Vz.getW_eq, Vz.e_take_eq, Vz.getT_eq, Vz.e_fz_eq, Vz.getF_own, Vz.getF_val, Vz.kz_eq, Vz.k1_eq, Vz.e2_eq, Vz.k2_eq, Vz.k2b_eq, Vz.e1_eq, Vz.klf_eq, Vz.k2o'_eq, Vz.k2o_eq, Vz.has_eq, Vz.e2o_eq, Vz.k2r'_eq, Vz.k2r_eq, Vz.e2r_eq, Vz.kBo_eq, Vz.eBo_eq, Vz.eB_eq, Vz.kB_eq, Vz.a_nil_eq, Vz.a_cons_eq, Vz.ka_eq, Vz.ka2_eq, Vz.r_nil_eq, Vz.r_v_eq, Vz.kr_eq, Vz.kr2_eq, Vz.r_m_eq, Vz.kc3_eq, Vz.kc2_eq, Vz.kc_eq, Vz.e_call_eq, Vz.ksl_eq, Vz.kso_eq, Vz.slotsOf_nil, Vz.slotsOf_d, Vz.slotsOf_m, Vz.msOf_nil, Vz.msOf_d, Vz.msOf_m, Vz.owOf_own, Vz.owOf_arg, Vz.isO_own, Vz.isO_arg, Vz.backs_nil, Vz.backs_d, Vz.backs_m, Vz.putOw_eq, Vz.putK_own, Vz.putK_arg, Vz.bf_eq, Vz.kbf_eq, Vz.t_and_eq, Vz.t_or_eq, Vz.t_not_eq, Vz.kand_eq, Vz.kor_eq, Vz.knot_eq, Vz.tv_eq, Vz.ktv_eq, Vz.e_if_eq, Vz.kif_eq, Vz.ktr_eq, Vz.t_tru_eq, Vz.ktru_eq, Vz.tru_non, Vz.tru_bl, Vz.tru_int, Vz.tru_tup, Vz.tru_lst, Vz.t_yes_eq, Vz.kch4_eq, Vz.kch3_eq, Vz.kch2_eq, Vz.kch1_eq, Vz.kch0_eq, Vz.e_chain_eq, Vz.p_no_eq, Vz.p_at_eq, Vz.kpa_eq, Vz.ksl3_eq, Vz.ksl2_eq, Vz.ksl1_eq, Vz.e_sl_eq, Vz.o_sl_lst, Vz.o_sl_tup, Vz.kso3'_eq, Vz.kso3_eq, Vz.kso2_eq, Vz.e_slo_eq, Vz.c_seq_eq, Vz.ksq_nx, Vz.ksq_rt, Vz.ksq_bk, Vz.ksq_ct, Vz.c_nx_eq, Vz.c_bk_eq, Vz.c_ct_eq, Vz.c_retN_eq, Vz.c_ret_eq, Vz.krt_eq, Vz.c_ex_eq, Vz.kex_eq, Vz.c_if_eq, Vz.kci_eq, Vz.knx_eq, Vz.c_asg_eq, Vz.kas_eq, Vz.g_n_eq, Vz.gv_eq, Vz.Rd_val, Vz.Rd_own, Vz.Owd_lst, Vz.Rsl_val, Vz.Rsl_own, Vz.isArg_val, Vz.isArg_own, Vz.isArg_nov, Vz.gs_nil_eq, Vz.gs_cons_eq, Vz.kgs_eq, Vz.g_tup_eq, Vz.g_lst_eq, Vz.e_callv_eq, Vz.kp2_eq, Vz.c_par_eq, Vz.kp_eq, Vz.kq3_eq, Vz.kq2_eq, Vz.c_par3_eq, Vz.kq_eq, Vz.kap'_eq, Vz.kap_eq, Vz.hasL_eq, Vz.e_app_eq, Vz.e_clr_eq, Vz.kixs_eq, Vz.kix'_eq, Vz.kix_eq, Vz.g_ix_eq, Vz.c_for_eq', Vz.kfo_eq, Vz.s_seq_eq, Vz.kss_lst, Vz.kss_tup, Vz.s_rng_eq, Vz.ksr_ok, Vz.s_rng2_eq, Vz.ksr2_ok, Vz.s_rng3_eq, Vz.s_enum_eq, Vz.kse_eq, Vz.s_zip_eq, Vz.ksz_lst, Vz.ksz_tup, Vz.kfn_rt, Vz.kfn_nx, Vz.outArgs, Vz.ok_fdiv, Vz.ok_mod, Vz.ok_pow, Vz.ok_mul, Vz.add_int, Vz.ok_add_str, Vz.ok_add_lst, Vz.ok_add_tup, Vz.sub_int, Vz.neg_int, Vz.lt_int, Vz.ltX_int, Vz.gtX_int, Vz.leX_int, Vz.geX_int, Vz.maxX_int, Vz.minX_int, Vz.le_int', Vz.gt_int, Vz.ge_int, Vz.eq_int', Vz.ne_int', Vz.eq_bl', Vz.ne_bl', Vz.is_non, Vz.isnt_non, Vz.is_bl, Vz.isNon_non, Vz.isNon_tup, Vz.isNon_int, Vz.isNon_str, Vz.isNon_lst, Vz.isNon_bl, Vz.f1_eq, Vz.f2_eq, Vz.abs_int, Vz.int_int, Vz.int_bl, Vz.max_int, Vz.min_int, Vz.len_lst, Vz.len_tup, Vz.ok_tup, Vz.ok_lst, Vz.list_lst, Vz.list_tup, Vz.tuple_lst, Vz.tuple_tup, Vz.kat_eq, Vz.rngL2, Vz.rngL3, Vz.ok_ix_str, Vz.ok_mul_str, Vz.ok_str_int, Vz.lcGo_nil, Vz.lcGo_cons, Vz.kl1_eq, Vz.kl2_eq, Vz.kl3_eq, Vz.rest_eq, Vz.restGo_cons, Vz.restGo_nil, Vz.forGo_nil, Vz.forGo_cons, Vz.kf1_eq, Vz.kf2_nx, Vz.kf2_ct, Vz.kf2_bk, Vz.kf2_rt, Vz.klc_eq, Vz.e_lc_eq, Vz.noOw_nil, Vz.noOw_cons, Vz.nOw_no, Vz.nOw_val, Vz.wipeE_nil, Vz.wipeE_cons, Vz.LcF_eq, Vz.LcC_eq, Vz.LcT_eq, Vz.LiF_eq, Vz.LiC_eq, Vz.LiT_eq, Vz.isi_int_int, Vz.isi_int_bool, Vz.isi_bool_bool, Vz.isi_tup_tuple, Vz.isi_tup_list, Vz.isi_lst_list, Vz.isi_str_str, Vz.isi_bool_int, Vz.isi_lst_tuple, Vz.isi_int_str, Vz.isi_non_tuple, Vz.isi_int_tuple, Vz.ix_lst, Vz.ix_tup', Vz.atI_0, Vz.atI_1, Vz.atI_2, Vz.atI_3, Vz.atI_4, Vz.atI_5, Vz.atI_6, Vz.atI_7, Vz.atI_8, Vz.atI_9, Vz.Rlf_val, Vz.lf_int, Vz.lf_bl, Vz.lf_str, Vz.lf_non, Vz.lf_tup, Vz.lfs_nil, Vz.lfs_cons, Vz.rev_t_tup, Vz.rev_t_lst, Vz.rev_l_tup, Vz.rev_l_lst, Vz.s_rev_eq, Vz.ksrev_lst, Vz.ksrev_tup, Vz.rngOK_0, Vz.rngOK_1, Vz.rngOK_2, Vz.rngOK_3, Vz.rngOK_4, Vz.rngOK_5, Vz.rngOK_6, Vz.rngOK_7, Vz.rngOK_8, Vz.rngOK_9, Vz.rngOK_10, Vz.rngOK_11, Vz.rngOK_12, Vz.rngOK_13, Vz.rngOK_14, Vz.rngOK_15, Vz.rngOK_16, Vz.rngOK_17, Vz.rngOK_18, Vz.rngOK_19, Vz.rngOK_20, Vz.rngOK_21, Vz.rngOK_22, Vz.rngOK_23, Vz.rngOK_24, Vz.rngOK_25, Vz.rngOK_26, Vz.rngOK_27, Vz.rngOK_28, Vz.rngOK_29, Vz.rngOK_30, Vz.rngOK_31, Vz.rngOK_32, Vz.rngOK_33, Vz.rngOK_34, Vz.rngOK_35, Vz.rngOK_36, Vz.rngOK_37, Vz.rngOK_38, Vz.rngOK_39, Vz.rngOK_40, Vz.rngOK_63,
  List.getElem?_cons_zero, List.getElem?_cons_succ, List.getElem?_nil, List.set_cons_zero, List.set_cons_succ, List.length_cons, List.length_nil, List.cons_append, List.nil_append, List.append_nil, List.map_cons, List.map_nil, List.nodup_cons, List.not_mem_nil, List.mem_cons, List.nodup_nil, List.replicate, Nat.reduceAdd, Nat.reduceSub, Nat.reduceLT, Nat.reduceLeDiff, Nat.reduceEqDiff, Nat.reduceLT, Nat.reduceLeDiff, Int.reduceToNat, Int.reduceLT, Int.reduceLE, Int.reduceEq, Int.reduceNe, Int.toNat_zero, Int.zero_sub, Int.cast_ofNat_Int, Int.natCast_one, Int.natCast_zero,  Int.reducePow, Int.reduceMul, Int.reduceAdd, Int.reduceSub, Int.reduceNeg, Nat.zero_add, Nat.reduceMul, reduceIte, if_true, if_false, and_self, and_true, true_and, not_false_eq_true, not_true_eq_false, Bool.false_eq_true, Bool.not_eq_true', Bool.not_true, Bool.not_false, decide_eq_true_eq, decide_eq_false_iff_not, Bool.true_and, Bool.and_true, reduceCtorEq, or_false, false_or, or_true, true_or, and_false, false_and, Int.reduceNeg, not_false, Nat.lt_irrefl, Nat.succ_ne_zero, ne_eq, Nat.add_one_ne_zero, Nat.zero_ne_one, Nat.one_ne_zero, Nat.lt_add_one, Nat.zero_lt_succ])
local macro_rules | `(tactic| walk_at "bd1") => `(tactic| first | assumption | (apply Bd.mul <;> walk_at "bd1") | (apply Bd.add <;> walk_at "bd1") | (apply Bd.sub <;> walk_at "bd1") | (apply Bd.neg; walk_at "bd1") | (apply Bd.abs; walk_at "bd1") | (apply Bd.ite <;> walk_at "bd1") | (apply Bd.fdiv; walk_at "bd1") | (apply Bd.fmod; (· walk_at "bd1"); (· first | assumption | omega)) | exact Bd.self)
local macro_rules | `(tactic| walk_at "sz") => `(tactic| first | assumption | (apply Bd.mulOk; (· walk_at "bd1"); (· walk_at "bd1"); (· first | decide | omega)) | (apply mulOk_right; apply Bd.le; (· walk_at "bd1"); (· first | decide | omega)) | (apply mulOk_left; apply Bd.le; (· walk_at "bd1"); (· first | decide | omega)) | (apply Bd.divOk; (· walk_at "bd1"); (· first | assumption | omega); (· first | decide | omega)) | (apply Bd.le; (· walk_at "bd1"); (· first | decide | omega)) | (refine ⟨?_, ?_, ?_⟩ <;> decide) | decide | omega)
local macro_rules | `(tactic| walk_at "szs") => `(tactic| first | trivial | walk_at "sz" | (apply And.intro <;> walk_at "szs") | rfl)
local macro_rules | `(tactic| walk_at "szm") => `(tactic| first | walk_at "sz" | (apply And.intro <;> walk_at "szm") | skip)
theorem m_l_shared_eq (a b : Int) : m_l_shared [.val (.int a), .val (.int b)] = some (.val (.int (Int.gcd a b)), [.val (.int a), .val (.int b)]) := by
  apply Ok.eq
  refine Ok_fn rfl rfl ?_
  unfold c_l_shared c_l_shared_b3 c_l_shared_t5
  walk_at "ev"
  rw [c_wh_eq]
  have ea : (if a < 0 then -a else a) = (a.natAbs : Int) := by split <;> omega
  have eb : (if b < 0 then -b else b) = (b.natAbs : Int) := by split <;> omega
  rw [ea, eb]
  refine whGo_ok (fun m e => ∃ x y : Nat, m = y ∧ Nat.gcd x y = Int.gcd a b ∧ e = [.val (.int x), .val (.int y)]) (fun m e => ?_) _ b.natAbs _ (by show b.natAbs < (((b.natAbs : Nat) : Int)).natAbs + 1; omega) ⟨a.natAbs, b.natAbs, rfl, rfl, rfl⟩
  rintro ⟨x, y, rfl, hg, rfl⟩
  walk_at "ev"
  rw [WTurn_eq]
  by_cases hy : (m : Int) = 0
  · have : m = 0 := by omega
    subst this
    rw [Nat.gcd_zero_right] at hg
    simp only [Int.natCast_zero, Int.lt_irrefl, decide_false, Bool.false_eq_true, if_false]
    walk_at "ev"
    simp [hg]
  · rw [decide_eq_true (show (0 : Int) < (m : Int) by omega)]
    simp only [if_true]
    walk_at "ev"
    refine ⟨hy, ?_⟩
    rw [Turn_nx, Int.fmod_eq_emod_of_nonneg _ (by omega)]
    exact ⟨x % m, Nat.mod_lt _ (by omega), m, x % m, rfl, by rw [Nat.gcd_comm, ← Nat.gcd_rec, Nat.gcd_comm]; exact hg, rfl⟩
theorem pos_of_mul {a b : Int} (ha : 0 ≤ a) (h : 0 < a * b) : 0 < b := by
  by_cases hb : 0 < b
  · exact hb
  · have := Int.mul_le_mul_of_nonneg_left (show b ≤ 0 by omega) ha
    rw [Int.mul_zero] at this
    omega
/-- a number in lowest form -/
def numZ (n d : Int) : Int × Int := if d < 0 then (-n / (Int.gcd (-n) (-d) : Int), -d / (Int.gcd (-n) (-d) : Int)) else (n / (Int.gcd n d : Int), d / (Int.gcd n d : Int))
abbrev nd (p : Int × Int) : D := .tup [.int p.1, .int p.2]
structure NumOf (p : Int × Int) (n d : Int) : Prop where
  pos : 0 < p.2
  low : Int.gcd p.1 p.2 = 1
  same : p.1 * d = n * p.2
theorem low_of {n d : Int} (hd : 0 < d) : NumOf (n / (Int.gcd n d : Int), d / (Int.gcd n d : Int)) n d := by
  have hg : 0 < Int.gcd n d := Int.gcd_pos_of_ne_zero_right _ (by omega)
  obtain ⟨a, ha⟩ := Int.gcd_dvd_left n d
  obtain ⟨b, hb⟩ := Int.gcd_dvd_right n d
  generalize hG : (Int.gcd n d) = G at *
  have hG0 : (G : Int) ≠ 0 := by omega
  have e1 : n / (G : Int) = a := by rw [ha]; exact Int.mul_ediv_cancel_left a hG0
  have e2 : d / (G : Int) = b := by rw [hb]; exact Int.mul_ediv_cancel_left b hG0
  refine ⟨?_, ?_, ?_⟩
  · simp only [e2]
    rw [hb] at hd
    exact pos_of_mul (by omega) hd
  · simp only [e1, e2]
    have := Int.gcd_mul_left (G : Int) a b
    rw [← ha, ← hb, hG] at this
    simp at this
    have h2 : G * 1 = G * Int.gcd a b := by omega
    exact (Nat.eq_of_mul_eq_mul_left hg h2).symm
  · simp only [e1, e2]
    rw [ha, hb]
    grind
theorem numZ_of {n d : Int} (hd : d ≠ 0) : NumOf (numZ n d) n d := by
  unfold numZ
  split
  · have h := low_of (n := -n) (d := -d) (by omega)
    refine ⟨h.pos, h.low, ?_⟩
    have := h.same
    grind
  · exact low_of (by omega)
theorem numZ_bd {n d : Int} {k m : Nat} (h1 : Bd k n) (h2 : Bd m d) : Bd k (numZ n d).1 ∧ Bd m (numZ n d).2 := by
  unfold numZ
  split
  · exact ⟨h1.neg.ediv, h2.neg.ediv⟩
  · exact ⟨h1.ediv, h2.ediv⟩
theorem gcd_bd {n d : Int} {m : Nat} (h2 : Bd m d) (hd : d ≠ 0) : Bd m (Int.gcd n d : Int) := by
  refine h2.of_le ?_
  have := Int.gcd_le_natAbs_right n hd
  omega
/-! spots -/
theorem fdiv_ex {a b c : Int} (hb : 0 < b) (h : a = b * c) : a.fdiv b = c := by
  rw [h, Int.fdiv_eq_ediv_of_nonneg _ (by omega), Int.mul_ediv_cancel_left _ (by omega)]
abbrev Spot := Int × Int × Int
abbrev sd (p : Spot) : D := .tup [.int p.1, .int p.2.1, .int p.2.2]
theorem sd_inj {p q : Spot} : sd p = sd q ↔ p = q := by
  obtain ⟨a, b, c⟩ := p
  obtain ⟨d, e, f⟩ := q
  simp [sd]
theorem sd_pl (p : Spot) : (sd p).pl = true := rfl
theorem sd_dep (p : Spot) : (sd p).dep = 1 := rfl
/-- what all three are divided by -/
def part3 (x y w : Int) : Int := (Int.gcd (Int.gcd x y : Int) w : Int)
def low3 (x y w : Int) : Spot := (x / part3 x y w, y / part3 x y w, w / part3 x y w)
def spotZ (x y w : Int) : Spot := if w < 0 then low3 (-x) (-y) (-w) else low3 x y w
structure IsSpot (p : Spot) : Prop where
  pos : 0 < p.2.2
  low : part3 p.1 p.2.1 p.2.2 = 1
/-- p stands at x / w, y / w -/
structure AtXY (p : Spot) (x y w : Int) : Prop where
  sx : p.1 * w = x * p.2.2
  sy : p.2.1 * w = y * p.2.2
structure SpotOf (p : Spot) (x y w : Int) : Prop extends IsSpot p, AtXY p x y w
theorem part3_pos {x y w : Int} (hw : w ≠ 0) : 0 < part3 x y w := by
  unfold part3
  have : 0 < Int.gcd (Int.gcd x y : Int) w := Int.gcd_pos_of_ne_zero_right _ hw
  omega
theorem part3_le {x y w : Int} (hw : w ≠ 0) : (part3 x y w).natAbs ≤ w.natAbs := by
  unfold part3
  exact Int.gcd_le_natAbs_right _ hw
theorem part3_dvd (x y w : Int) : part3 x y w ∣ x ∧ part3 x y w ∣ y ∧ part3 x y w ∣ w := by
  unfold part3
  have h1 := Int.gcd_dvd_left (Int.gcd x y : Int) w
  have h2 := Int.gcd_dvd_right (Int.gcd x y : Int) w
  exact ⟨Int.dvd_trans h1 (Int.gcd_dvd_left x y), Int.dvd_trans h1 (Int.gcd_dvd_right x y), h2⟩
theorem part3_mul {g x y w : Int} (hg : 0 ≤ g) : part3 (g * x) (g * y) (g * w) = g * part3 x y w := by
  unfold part3
  rw [Int.gcd_mul_left]
  have e : ((g.natAbs * Int.gcd x y : Nat) : Int) = g * (Int.gcd x y : Int) := by
    rw [Int.natCast_mul]
    congr 1
    omega
  rw [e, Int.gcd_mul_left, Int.natCast_mul]
  congr 1
  omega
theorem low3_of {x y w : Int} (hw : 0 < w) : SpotOf (low3 x y w) x y w := by
  have hg := part3_pos (x := x) (y := y) (w := w) (by omega)
  obtain ⟨⟨a, ha⟩, ⟨b, hb⟩, ⟨c, hc⟩⟩ := part3_dvd x y w
  unfold low3
  have hm := part3_mul (g := part3 x y w) (x := a) (y := b) (w := c) (by omega)
  rw [← ha, ← hb, ← hc] at hm
  generalize part3 x y w = g at *
  have e1 : x / g = a := by rw [ha]; exact Int.mul_ediv_cancel_left a (by omega)
  have e2 : y / g = b := by rw [hb]; exact Int.mul_ediv_cancel_left b (by omega)
  have e3 : w / g = c := by rw [hc]; exact Int.mul_ediv_cancel_left c (by omega)
  rw [e1, e2, e3]
  refine ⟨⟨?_, ?_⟩, ⟨?_, ?_⟩⟩
  · rw [hc] at hw
    exact pos_of_mul (by omega) hw
  · have : g * 1 = g * part3 a b c := by omega
    exact (Int.eq_of_mul_eq_mul_left (by omega) this).symm
  · show a * w = x * c
    rw [ha, hc]; grind
  · show b * w = y * c
    rw [hb, hc]; grind
theorem spotZ_of {x y w : Int} (hw : w ≠ 0) : SpotOf (spotZ x y w) x y w := by
  unfold spotZ
  split
  · have h := low3_of (x := -x) (y := -y) (w := -w) (by omega)
    refine ⟨h.toIsSpot, ?_, ?_⟩
    · have := h.sx
      grind
    · have := h.sy
      grind
  · exact low3_of (by omega)
/-- one tuple for each place -/
theorem spot_same {p q : Spot} (hp : IsSpot p) (hq : IsSpot q) (hx : p.1 * q.2.2 = q.1 * p.2.2) (hy : p.2.1 * q.2.2 = q.2.1 * p.2.2) : p = q := by
  obtain ⟨a, b, c⟩ := p
  obtain ⟨x, y, z⟩ := q
  have h1 := hp.pos
  have h2 := hq.pos
  have l1 := hp.low
  have l2 := hq.low
  simp only at hx hy h1 h2 l1 l2
  have m1 := part3_mul (g := z) (x := a) (y := b) (w := c) (by omega)
  have m2 := part3_mul (g := c) (x := x) (y := y) (w := z) (by omega)
  rw [show z * a = c * x by grind, show z * b = c * y by grind, show z * c = c * z by grind, m2, l1, l2] at m1
  have ec : c = z := by omega
  subst ec
  have ea : a = x := Int.eq_of_mul_eq_mul_right (by omega) hx
  have eb : b = y := Int.eq_of_mul_eq_mul_right (by omega) hy
  rw [ea, eb]
theorem SpotOf.uniq {p : Spot} {x y w : Int} (hw : w ≠ 0) (h : SpotOf p x y w) : p = spotZ x y w := by
  have h2 := spotZ_of (x := x) (y := y) hw
  refine spot_same h.toIsSpot h2.toIsSpot ?_ ?_
  · have a := h.sx
    have b := h2.sx
    generalize spotZ x y w = q at *
    have : w * (p.1 * q.2.2) = w * (q.1 * p.2.2) := by grind
    exact Int.eq_of_mul_eq_mul_left hw this
  · have a := h.sy
    have b := h2.sy
    generalize spotZ x y w = q at *
    have : w * (p.2.1 * q.2.2) = w * (q.2.1 * p.2.2) := by grind
    exact Int.eq_of_mul_eq_mul_left hw this
theorem IsSpot.self {p : Spot} (h : IsSpot p) : spotZ p.1 p.2.1 p.2.2 = p := (SpotOf.uniq (Int.ne_of_gt h.pos) ⟨h, rfl, rfl⟩).symm
theorem spotZ_bd {x y w : Int} {k m n : Nat} (h1 : Bd k x) (h2 : Bd m y) (h3 : Bd n w) : Bd k (spotZ x y w).1 ∧ Bd m (spotZ x y w).2.1 ∧ Bd n (spotZ x y w).2.2 := by
  unfold spotZ low3
  split
  · exact ⟨h1.neg.ediv, h2.neg.ediv, h3.neg.ediv⟩
  · exact ⟨h1.ediv, h2.ediv, h3.ediv⟩
/-- the numbers of a spot are small -/
structure SB (n : Nat) (p : Spot) : Prop extends IsSpot p where
  b1 : Bd n p.1
  b2 : Bd n p.2.1
  b3 : Bd n p.2.2
theorem SB.le {n m : Nat} {p : Spot} (h : SB n p) (hn : n ≤ m) : SB m p := ⟨h.toIsSpot, h.b1.le hn, h.b2.le hn, h.b3.le hn⟩
theorem spotZ_sb {x y w : Int} {n : Nat} (hw : w ≠ 0) (h1 : Bd n x) (h2 : Bd n y) (h3 : Bd n w) : SB n (spotZ x y w) :=
  let h := spotZ_bd h1 h2 h3; ⟨(spotZ_of hw).toIsSpot, h.1, h.2.1, h.2.2⟩
theorem m_l_lowest_eq {x y w : Int} (hw : w ≠ 0) (hb : Bd 9000 w) : m_l_lowest [.val (.int x), .val (.int y), .val (.int w)] = some (.val (sd (spotZ x y w)), [.val (.int x), .val (.int y), .val (.int w)]) := by
  apply Ok.eq
  refine Ok_fn rfl rfl ?_
  have go : ∀ x y w : Int, w ≠ 0 → Bd 9000 w → ((Int.gcd (Int.gcd x y : Int) w : Int) ≠ 0 ∧ (Int.gcd (Int.gcd x y : Int) w : Int).natAbs.log2 < 9000) := fun x y w h1 h2 => by
    have hg := part3_pos (x := x) (y := y) h1
    have hl := part3_le (x := x) (y := y) h1
    unfold part3 at hg hl
    have := h2.of_le hl
    walk_at "sz"
  have fd : ∀ x : Int, ∀ n : Nat, x.fdiv (n : Int) = x / (n : Int) := fun x n => Int.fdiv_eq_ediv_of_nonneg _ (Int.natCast_nonneg _)
  unfold c_l_lowest c_l_lowest_t3 spotZ low3 part3
  walk_at "ev"
  split
  · rw [m_l_shared_eq]
    walk_at "ev"
    rw [m_l_shared_eq]
    walk_at "ev"
    have g := go (-x) (-y) (-w) (by omega) hb.neg
    refine ⟨g, g, g, ?_⟩
    rw [fd, fd, fd]
  · rw [m_l_shared_eq]
    walk_at "ev"
    rw [m_l_shared_eq]
    walk_at "ev"
    have g := go x y w hw hb
    refine ⟨g, g, g, ?_⟩
    rw [fd, fd, fd]
/-! a row of spots, its items -/
abbrev d0 : Spot := (0, 0, 0)
abbrev spt (L : List Spot) (k : Nat) : Spot := L.getD k d0
theorem spt_lt {L : List Spot} {k : Nat} (h : k < L.length) : spt L k = L[k] := by
  unfold spt
  rw [List.getD_eq_getElem?_getD, List.getElem?_eq_getElem h]
  rfl
theorem spt_app {L M : List Spot} {k : Nat} (h : k < L.length) : spt (L ++ M) k = spt L k := by
  unfold spt
  rw [List.getD_eq_getElem?_getD, List.getD_eq_getElem?_getD, List.getElem?_append_left h]
abbrev sds (L : List Spot) : List D := L.map sd
theorem sds_len {L : List Spot} : (sds L).length = L.length := List.length_map ..
theorem atI_nat {α : Type} {xs : List α} {k : Nat} (h : k < xs.length) : atI xs (k : Int) = xs[k]? := by
  unfold atI
  rw [ixN_ge (by omega) (by omega)]
  rfl
theorem sds_at {L : List Spot} {k : Nat} (h : k < L.length) : (sds L)[k]? = some (sd (spt L k)) := by
  rw [List.getElem?_map, List.getElem?_eq_getElem h, spt_lt h]
  rfl
theorem atI_spt {L : List Spot} {k : Nat} {i : Int} (hi : i = (k : Int)) (h : k < L.length) : atI (sds L) i = some (sd (spt L k)) := by
  rw [hi, atI_nat (by rw [sds_len]; exact h), sds_at h]
theorem atI_prev {L : List Spot} {k : Nat} {i : Int} (hi : i = (k : Int) - 1) (h : k < L.length) : atI (sds L) i = some (sd (spt L ((k + L.length - 1) % L.length))) := by
  subst hi
  by_cases hk : k = 0
  · subst hk
    have e : (0 + L.length - 1) % L.length = L.length - 1 := by rw [Nat.mod_eq_of_lt] <;> omega
    rw [e]
    unfold atI
    have : ixN (sds L).length (((0 : Nat) : Int) - 1) = some (L.length - 1) := by
      unfold ixN
      rw [sds_len]
      simp
      omega
    rw [this]
    exact sds_at (by omega)
  · have e : (k + L.length - 1) % L.length = k - 1 := by
      rw [show k + L.length - 1 = (k - 1) + L.length by omega, Nat.add_mod_right, Nat.mod_eq_of_lt (by omega)]
    rw [e]
    exact atI_spt (by omega) (by omega)
theorem spt_mem {L : List Spot} {k : Nat} (h : k < L.length) : spt L k ∈ L := by
  rw [spt_lt h]
  exact List.getElem_mem h
def AllSB (n : Nat) (L : List Spot) : Prop := ∀ p ∈ L, SB n p
/-- so often a whole way to the right -/
def shiftS (p : Spot) (j : Nat) : Spot := (p.1 + j * p.2.2, p.2.1, p.2.2)
theorem shift_0 {p : Spot} : shiftS p 0 = p := by simp [shiftS]
theorem shift_is {p : Spot} {j : Nat} (h : IsSpot p) : IsSpot (shiftS p j) := by
  refine ⟨h.pos, ?_⟩
  have hl := h.low
  show part3 (p.1 + j * p.2.2) p.2.1 p.2.2 = 1
  unfold part3 at hl ⊢
  have e : Int.gcd (Int.gcd (p.1 + j * p.2.2) p.2.1 : Int) p.2.2 = Int.gcd (Int.gcd p.1 p.2.1 : Int) p.2.2 := by
    apply Nat.dvd_antisymm
    · refine Int.dvd_gcd (Int.natCast_dvd_natCast.mpr (Int.dvd_gcd ?_ ?_)) (Int.gcd_dvd_right _ _)
      · have h1 : ((Int.gcd (Int.gcd (p.1 + j * p.2.2) p.2.1 : Int) p.2.2 : Nat) : Int) ∣ p.1 + j * p.2.2 := Int.dvd_trans (Int.gcd_dvd_left _ _) (Int.gcd_dvd_left _ _)
        have h2 : ((Int.gcd (Int.gcd (p.1 + j * p.2.2) p.2.1 : Int) p.2.2 : Nat) : Int) ∣ p.2.2 := Int.gcd_dvd_right _ _
        exact (Int.dvd_add_left (Int.dvd_mul_of_dvd_right h2)).mp h1
      · exact Int.dvd_trans (Int.gcd_dvd_left _ _) (Int.gcd_dvd_right _ _)
    · refine Int.dvd_gcd (Int.natCast_dvd_natCast.mpr (Int.dvd_gcd ?_ ?_)) (Int.gcd_dvd_right _ _)
      · have h1 : ((Int.gcd (Int.gcd p.1 p.2.1 : Int) p.2.2 : Nat) : Int) ∣ p.1 := Int.dvd_trans (Int.gcd_dvd_left _ _) (Int.gcd_dvd_left _ _)
        have h2 : ((Int.gcd (Int.gcd p.1 p.2.1 : Int) p.2.2 : Nat) : Int) ∣ p.2.2 := Int.gcd_dvd_right _ _
        exact Int.dvd_add h1 (Int.dvd_mul_of_dvd_right h2)
      · exact Int.dvd_trans (Int.gcd_dvd_left _ _) (Int.gcd_dvd_right _ _)
  rw [e]
  exact hl
theorem shift_inj {p : Spot} {i j : Nat} (h : IsSpot p) (e : shiftS p i = shiftS p j) : i = j := by
  have h1 : p.1 + i * p.2.2 = p.1 + j * p.2.2 := congrArg Prod.fst e
  have h2 : (i : Int) * p.2.2 = j * p.2.2 := by omega
  have h3 := Int.eq_of_mul_eq_mul_right (by have := h.pos; omega) h2
  omega
theorem shift_next {p : Spot} {j : Nat} (h : IsSpot p) : spotZ ((shiftS p j).1 + (shiftS p j).2.2) (shiftS p j).2.1 (shiftS p j).2.2 = shiftS p (j + 1) := by
  have e : shiftS p (j + 1) = ((shiftS p j).1 + (shiftS p j).2.2, (shiftS p j).2.1, (shiftS p j).2.2) := by
    unfold shiftS
    simp only [Prod.mk.injEq, and_true]
    rw [Int.natCast_add, Int.natCast_one, Int.add_mul]
    omega
  have h2 := (shift_is (j := j + 1) h).self
  rw [← h2, e]
theorem shift_sb {p : Spot} {j n : Nat} (h : SB n p) (hj : j ≤ 1000) : SB (n + 12) (shiftS p j) := by
  refine ⟨shift_is h.toIsSpot, ?_, h.b2.le (by omega), h.b3.le (by omega)⟩
  show Bd (n + 12) (p.1 + j * p.2.2)
  have b : Bd 10 (j : Int) := Bd.lt_of (k := 1001) (by omega) (by decide)
  have := h.b1.add (b.mul h.b3)
  exact this.le (by omega)
theorem nodup_sub {α : Type} [DecidableEq α] : ∀ {L S : List α}, L.Nodup → (∀ x ∈ L, x ∈ S) → L.length ≤ S.length
  | [], _, _, _ => Nat.zero_le _
  | a :: L, S, h, hs => by
    have h1 := List.nodup_cons.mp h
    have h2 : a ∈ S := hs a (List.mem_cons_self ..)
    have h3 := nodup_sub (S := S.erase a) h1.2 fun x hx => (List.mem_erase_of_ne (fun e => h1.1 (by rw [← e]; exact hx))).mpr (hs x (List.mem_cons_of_mem _ hx))
    rw [List.length_erase_of_mem h2] at h3
    have := List.length_pos_of_mem h2
    simp only [List.length_cons]
    omega
theorem mem_sds {p : Spot} {S : List Spot} : sd p ∈ sds S ↔ p ∈ S := by
  rw [List.mem_map]
  exact ⟨fun ⟨q, h1, h2⟩ => sd_inj.mp h2 ▸ h1, fun h => ⟨p, h, rfl⟩⟩
theorem in_spots {p : Spot} {S : List Spot} : o_inX false (sd p) (.lst (sds S)) = some (.val (.bl (decide (p ∈ S)))) :=
  in_pl its_lst (sd_pl p) (pls_map fun q _ => sd_pl q) (by rw [sd_dep]; decide) (Nat.lt_of_le_of_lt (deps_map (n := 1) fun q _ => Nat.le_of_eq (sd_dep q)) (by decide)) mem_sds
theorem m_l_unlike_ok {p : Spot} {S : List Spot} {n : Nat} (h : SB n p) (hn : n ≤ 1000) (hS : S.length < 1000) :
    ∃ j, j ≤ S.length ∧ shiftS p j ∉ S ∧ m_l_unlike [.val (sd p), .val (.lst (sds S))] = some (.val (sd (shiftS p j)), [.val (sd p), .val (.lst (sds S))]) := by
  have hh : Ok (m_l_unlike [.val (sd p), .val (.lst (sds S))]) fun z => ∃ j, j ≤ S.length ∧ shiftS p j ∉ S ∧ z = (.val (sd (shiftS p j)), [.val (sd p), .val (.lst (sds S))]) := by
    refine Ok_fn rfl rfl ?_
    unfold c_l_unlike
    walk_at "ev"
    rw [sds_len]
    have r1 : rngOK ((S.length : Int) + 1) := rngOK_of (by omega)
    refine ⟨r1, ?_⟩
    rw [show ((S.length : Int) + 1).toNat = S.length + 1 by omega]
    refine forRng_ok (fun i e => ∃ (j : Nat) (s : Sl), j ≤ i ∧ (∀ k < j, shiftS p k ∈ S) ∧ (j = i ∨ shiftS p j ∉ S) ∧ Sl.isArg (some s) = false ∧ e = [.val (sd (shiftS p j)), .val (.lst (sds S)), s]) ⟨0, .no, Nat.le_refl _, fun k hk => absurd hk (Nat.not_lt_zero _), .inl rfl, rfl, by rw [shift_0]⟩ (fun i e hi he => ?_) (fun e he => ?_)
    · obtain ⟨j, s, hj, hk, ho, hs, rfl⟩ := he
      unfold c_l_unlike_b1
      walk_at "ev"
      refine ⟨hs, ?_⟩
      rw [in_spots]
      walk_at "ev"
      split
      · rename_i hm
        have hji : j = i := ho.elim id fun k => absurd hm k
        subst hji
        have sb := shift_sb (j := j) h (by omega)
        have w0 := sb.pos
        rw [m_l_lowest_eq (by omega) (sb.b3.le (by omega))]
        walk_at "ev"
        rw [Turn_nx, shift_next h.toIsSpot]
        refine ⟨j + 1, _, Nat.le_refl _, fun k hk' => ?_, .inl rfl, rfl, rfl⟩
        by_cases e : k = j
        · rw [e]; exact hm
        · exact hk k (by omega)
      · rename_i hm
        rw [Turn_nx]
        exact ⟨j, _, by omega, hk, .inr hm, rfl, rfl⟩
    · obtain ⟨j, s, hj, hk, ho, hs, rfl⟩ := he
      unfold c_l_unlike_t4
      walk_at "ev"
      have hjl : j ≤ S.length := by
        have nd : ((List.range j).map (shiftS p)).Nodup := by
          unfold List.Nodup
          rw [List.pairwise_map]
          refine List.pairwise_lt_range.imp fun {a b} hab e => ?_
          have := shift_inj h.toIsSpot e
          omega
        have := nodup_sub nd (S := S) fun x hx => by
          obtain ⟨k, h1, rfl⟩ := List.mem_map.mp hx
          exact hk k (List.mem_range.mp h1)
        rwa [List.length_map, List.length_range] at this
      refine ⟨j, hjl, ?_, rfl⟩
      rcases ho with ho | ho
      · omega
      · exact ho
  obtain ⟨z, e, j, h1, h2, rfl⟩ := hh
  exact ⟨j, h1, h2, e⟩
theorem k_unlike {p : Spot} {S : List Spot} {n : Nat} {P : R × List Sl → Prop} (h : SB n p) (hn : n ≤ 1000) (hS : S.length < 1000) (hp : ∀ q, SB (n + 12) q → q ∉ S → P (.val (sd q), [.val (sd p), .val (.lst (sds S))])) :
    Ok (m_l_unlike [.val (sd p), .val (.lst (sds S))]) P := by
  obtain ⟨j, h1, h2, e⟩ := m_l_unlike_ok h hn hS
  exact ⟨_, e, hp _ (shift_sb h (by omega)) h2⟩
abbrev pool (a b : Int) : Sl := .arg (.lst [.int a, .int b])
theorem k_digit {a b m : Int} {P : R × List Sl → Prop} (hm : 0 < m) (hb : Bd 9000 m) (h : ∀ r a' b' : Int, 0 ≤ r → r < m → P (.val (.int r), [pool a' b', .val (.int m)])) : Ok (m_l_digit [pool a b, .val (.int m)]) P := by
  refine Ok_fn rfl rfl ?_
  unfold c_l_digit
  walk_at "ev"
  have h1 := fun x => Int.fmod_nonneg_of_pos x hm
  have h2 := fun x => Int.fmod_lt_of_pos x hm
  have h3 : m ≠ 0 ∧ m.natAbs.log2 < 9000 := by walk_at "sz"
  have x0 : ixN 2 0 = some 0 := rfl
  have x1 : ixN 2 1 = some 1 := rfl
  by_cases ha : a = 0
  · rw [if_pos ha]
    walk_at "ev"
    refine ⟨by omega, ?_⟩
    rw [x1]
    walk_at "ev"
    exact ⟨h3, h _ _ _ (h1 _) (h2 _)⟩
  · rw [if_neg ha]
    walk_at "ev"
    refine ⟨by omega, ?_⟩
    rw [x0]
    walk_at "ev"
    exact ⟨h3, h _ _ _ (h1 _) (h2 _)⟩
theorem k_between {a b : Int} {p q : Spot} {n : Nat} {P : R × List Sl → Prop} (hn : n ≤ 1000) (hp : SB n p) (hq : SB n q) (h : ∀ (r : Spot) (a' b' : Int), SB (2 * n + 10) r → P (.val (sd r), [pool a' b', .val (sd p), .val (sd q)])) : Ok (m_l_between [pool a b, .val (sd p), .val (sd q)]) P := by
  refine Ok_fn rfl rfl ?_
  unfold c_l_between
  walk_at "ev"
  refine k_digit (by decide) (by walk_at "sz") fun z p1 q1 h1 h2 => ?_
  walk_at "ev"
  refine k_digit (by decide) (by walk_at "sz") fun y p2 q2 h3 h4 => ?_
  walk_at "ev"
  obtain ⟨ip, a1, a2, a3⟩ := hp
  obtain ⟨iq, e1, e2, e3⟩ := hq
  have b1 : Bd 4 (z - 1) := Bd.lt_of (k := 7) (by omega) (by decide)
  have b2 : Bd 4 (1 + y - (z - 1)) := Bd.lt_of (k := 9) (by omega) (by decide)
  have b3 : Bd 4 (1 + y) := Bd.lt_of (k := 9) (by omega) (by decide)
  have hw := Int.mul_pos (Int.mul_pos ip.pos iq.pos) (show 0 < 1 + y by omega)
  have c1 : Bd (2 * n + 10) (p.1 * q.2.2 * (1 + y - (z - 1)) + q.1 * p.2.2 * (z - 1)) := by apply Bd.le; (· walk_at "bd1"); omega
  have c2 : Bd (2 * n + 10) (p.2.1 * q.2.2 * (1 + y - (z - 1)) + q.2.1 * p.2.2 * (z - 1)) := by apply Bd.le; (· walk_at "bd1"); omega
  have c3 : Bd (2 * n + 10) (p.2.2 * q.2.2 * (1 + y)) := by apply Bd.le; (· walk_at "bd1"); omega
  have k : m_l_lowest [.val (.int (p.1 * q.2.2 * (1 + y - (z - 1)) + q.1 * p.2.2 * (z - 1))), .val (.int (p.2.1 * q.2.2 * (1 + y - (z - 1)) + q.2.1 * p.2.2 * (z - 1))), .val (.int (p.2.2 * q.2.2 * (1 + y)))] = _ := m_l_lowest_eq (by omega) (c3.le (by omega))
  refine ⟨by walk_at "sz", by walk_at "sz", by walk_at "sz", by walk_at "sz", by walk_at "sz", by walk_at "sz", by walk_at "sz", by walk_at "sz", by walk_at "sz", by walk_at "sz", ?_⟩
  rw [k]
  walk_at "ev"
  exact h _ _ _ (spotZ_sb (by omega) c1 c2 c3)
theorem k_pool_t4 {ns : List Int} {k cell : Int} {P : R × List Sl → Prop} (hbk : Bd 64 k) (h : ∀ a b : Int, P (.own (.lst [.int a, .int b]), [.val (.lst (ns.map D.int)), .val (.int k)])) :
    Ok (c_l_pool_t4 [.val (.lst (ns.map D.int)), .val (.int k), .val (.int cell), .no, .no, .no, .no, .no]) (Th (kfn [.val (.lst (ns.map D.int)), .val (.int k)]) P) := by
  unfold c_l_pool_t4
  walk_at "ev"
  refine ⟨by walk_at "sz", ?_⟩
  refine forRng_ok (fun i e => ∃ (m t : Int) (s5 s6 : Sl), Bd 100 m ∧ Sl.isArg (some s5) = false ∧ Sl.isArg (some s6) = false ∧ e = [.val (.lst (ns.map D.int)), .val (.int k), .val (.int cell), .val (.int m), .val (.int t), s5, s6, .no]) ⟨_, _, .no, .no, ?_, rfl, rfl, rfl⟩ (fun i e hi he => ?_) (fun e he => ?_)
  · walk_at "sz"
  · obtain ⟨m, t, s5, s6, hm, h5, h6, rfl⟩ := he
    unfold c_l_pool_b6
    have hbi : Bd 64 (0 + (i : Int)) := Bd.lt_of (k := 12) (by omega) (by decide)
    walk_at "ev"
    refine ⟨h5, ?_⟩
    have hm2 : Bd 100 ((m * 6364136223846793005 + 1442695040888963407 * (k + (0 + (i : Int)) + 1)).fmod 2305843009213693951) := by
      apply Bd.le
      · exact Bd.fmod Bd.self (by decide)
      · decide
    refine ⟨by walk_at "sz", by walk_at "sz", by decide, by walk_at "sz", by walk_at "sz", h6, by walk_at "sz", ?_⟩
    rw [Turn_nx]
    exact ⟨_, _, _, _, hm2, rfl, rfl, rfl⟩
  · obtain ⟨m, t, s5, s6, hm, h5, h6, rfl⟩ := he
    walk_at "ev"
    unfold c_l_pool_t11
    walk_at "ev"
    cases ns with
    | nil =>
      rw [if_neg (by simp)]
      exact ⟨by walk_at "sz", h _ _⟩
    | cons n ns =>
      rw [if_pos (by simp)]
      walk_at "ev"
      exact ⟨by walk_at "sz", h _ _⟩
theorem k_pool {ns : List Int} {k : Int} {P : R × List Sl → Prop} (h0 : 0 ≤ k) (hk : k < 100000) (h : ∀ a b : Int, P (.own (.lst [.int a, .int b]), [.val (.lst (ns.map D.int)), .val (.int k)])) : Ok (m_l_pool [.val (.lst (ns.map D.int)), .val (.int k)]) P := by
  refine Ok_fn rfl rfl ?_
  unfold c_l_pool
  have hbk : Bd 64 k := Bd.lt_of (k := 100000) (by omega) (by decide)
  walk_at "ev"
  split
  · rename_i hlt
    rw [List.length_map] at hlt
    rw [Ok_atI h0 (by rw [List.length_map]; exact hlt), List.getElem_map]
    walk_at "ev"
    exact k_pool_t4 hbk h
  · exact k_pool_t4 hbk h
theorem k_drawn {a b : Int} {P : R × List Sl → Prop} (h : ∀ v a' b' : Int, v.natAbs ≤ 10 ^ 9 → P (.val (.int v), [pool a' b'])) : Ok (m_l_drawn [pool a b]) P := by
  refine Ok_fn rfl rfl ?_
  unfold c_l_drawn c_l_drawn_t4 c_l_drawn_t6 c_l_drawn_t8
  walk_at "ev"
  refine k_digit (by decide) (by walk_at "sz") fun r a1 b1 h0 h1 => ?_
  walk_at "ev"
  split
  · refine k_digit (by decide) (by walk_at "sz") fun r2 a2 b2 h2 h3 => ?_
    walk_at "ev"
    exact h _ _ _ (by omega)
  split
  · refine k_digit (by decide) (by walk_at "sz") fun r2 a2 b2 h2 h3 => ?_
    walk_at "ev"
    exact h _ _ _ (by omega)
  split
  · refine k_digit (by decide) (by walk_at "sz") fun r2 a2 b2 h2 h3 => ?_
    walk_at "ev"
    refine k_digit (by decide) (by walk_at "sz") fun r3 a3 b3 h4 h5 => ?_
    walk_at "ev"
    have h6 : Bd 10 r3 := Bd.lt_of (k := 2) (by omega) (by decide)
    refine ⟨by walk_at "sz", by walk_at "sz", h _ _ _ ?_⟩
    rw [Int.natAbs_mul]
    have h7 : (999999 - r2).natAbs ≤ 1000000 := by omega
    have h8 : (1 - 2 * r3).natAbs ≤ 1 := by omega
    have := Nat.mul_le_mul h7 h8
    omega
  · refine ⟨by walk_at "sz", by walk_at "sz", k_digit (by decide) (by walk_at "sz") fun r2 a2 b2 h2 h3 => ?_⟩
    walk_at "ev"
    exact ⟨by walk_at "sz", h _ _ _ (by omega)⟩
theorem k_below {a b : Int} {P : R × List Sl → Prop} (h : ∀ v a' b' : Int, 0 < v → v.natAbs ≤ 10 ^ 9 → P (.val (.int v), [pool a' b'])) : Ok (m_l_below [pool a b]) P := by
  refine Ok_fn rfl rfl ?_
  unfold c_l_below
  walk_at "ev"
  refine k_digit (by decide) (by walk_at "sz") fun r a1 b1 h0 h1 => ?_
  walk_at "ev"
  refine ⟨by walk_at "sz", ?_⟩
  have hr : r = 0 ∨ r = 1 ∨ r = 2 ∨ r = 3 ∨ r = 4 := by omega
  rcases hr with rfl | rfl | rfl | rfl | rfl <;> walk_at "ev" <;> refine k_digit (by decide) (by walk_at "sz") fun r2 a2 b2 h2 h3 => ?_ <;> walk_at "ev" <;> exact h _ _ _ (by omega) (by omega)
theorem bd9 {v : Int} (h : v.natAbs ≤ 10 ^ 9) : Bd 30 v := Bd.lt_of (k := 10 ^ 9 + 1) (by omega) (by decide)
theorem k_spot {a b : Int} {P : R × List Sl → Prop} (h : ∀ (p : Spot) (a' b' : Int), SB 30 p → P (.val (sd p), [pool a' b'])) : Ok (m_l_spot [pool a b]) P := by
  refine Ok_fn rfl rfl ?_
  unfold c_l_spot c_l_spot_t4
  walk_at "ev"
  refine k_digit (by decide) (by walk_at "sz") fun z p0 q0 h1 h2 => ?_
  walk_at "ev"
  split
  · refine k_drawn fun x p1 q1 hx => ?_
    walk_at "ev"
    refine k_drawn fun y p2 q2 hy => ?_
    walk_at "ev"
    refine k_below fun w p3 q3 hw0 hw => ?_
    walk_at "ev"
    have bx := bd9 hx
    have bY := bd9 hy
    have bw := bd9 hw
    rw [m_l_lowest_eq (by omega) (by walk_at "sz")]
    walk_at "ev"
    exact h _ _ _ (spotZ_sb (by omega) bx bY bw)
  · have hz : z = 1 ∨ z = 2 := by omega
    have hb : Bd 9000 (5 + 4 * z) := Bd.lt_of (k := 100) (by omega) (by decide)
    refine ⟨by walk_at "sz", k_digit (by omega) hb fun x p1 q1 hx0 hx => ?_⟩
    walk_at "ev"
    refine ⟨by walk_at "sz", k_digit (by omega) hb fun y p2 q2 hy0 hy => ?_⟩
    walk_at "ev"
    refine k_digit (by decide) (by walk_at "sz") fun w p3 q3 hw0 hw => ?_
    have bx : Bd 30 x := Bd.lt_of (k := 20) (by omega) (by decide)
    have bY : Bd 30 y := Bd.lt_of (k := 20) (by omega) (by decide)
    have hw' : w = 0 ∨ w = 1 ∨ w = 2 := by omega
    rcases hw' with rfl | rfl | rfl <;> walk_at "ev" <;> rw [m_l_lowest_eq (by omega) (by walk_at "sz")] <;> walk_at "ev" <;>
      exact h _ _ _ (spotZ_sb (by omega) bx bY (Bd.lt_of (k := 3) (by decide) (by decide)))
theorem m_divisor_eq (a b : Int) : m_divisor [.val (.int a), .val (.int b)] = some (.val (.int (Int.gcd a b)), [.val (.int a), .val (.int b)]) := by
  apply Ok.eq
  refine Ok_fn rfl rfl ?_
  unfold c_divisor c_divisor_b3 c_divisor_t5
  walk_at "ev"
  rw [c_wh_eq]
  have ea : (if a < 0 then -a else a) = (a.natAbs : Int) := by split <;> omega
  have eb : (if b < 0 then -b else b) = (b.natAbs : Int) := by split <;> omega
  rw [ea, eb]
  refine whGo_ok (fun m e => ∃ x y : Nat, m = y ∧ Nat.gcd x y = Int.gcd a b ∧ e = [.val (.int x), .val (.int y)]) (fun m e => ?_) _ b.natAbs _ (by show b.natAbs < (((b.natAbs : Nat) : Int)).natAbs + 1; omega) ⟨a.natAbs, b.natAbs, rfl, rfl, rfl⟩
  rintro ⟨x, y, rfl, hg, rfl⟩
  walk_at "ev"
  rw [WTurn_eq]
  by_cases hy : (m : Int) = 0
  · have : m = 0 := by omega
    subst this
    rw [Nat.gcd_zero_right] at hg
    simp only [Int.natCast_zero, decide_true, Bool.not_true, Bool.false_eq_true, if_false]
    walk_at "ev"
    simp [hg]
  · rw [decide_eq_false hy]
    simp only [Bool.not_false, if_true]
    walk_at "ev"
    refine ⟨hy, ?_⟩
    rw [Turn_nx, Int.fmod_eq_emod_of_nonneg _ (by omega)]
    exact ⟨x % m, Nat.mod_lt _ (by omega), m, x % m, rfl, by rw [Nat.gcd_comm, ← Nat.gcd_rec, Nat.gcd_comm]; exact hg, rfl⟩
theorem m_spot_eq {x y w : Int} (hw : w ≠ 0) (hb : Bd 9000 w) : m_spot [.val (.int x), .val (.int y), .val (.int w)] = some (.val (sd (spotZ x y w)), [.val (.int x), .val (.int y), .val (.int w)]) := by
  apply Ok.eq
  refine Ok_fn rfl rfl ?_
  have go : ∀ x y w : Int, w ≠ 0 → Bd 9000 w → ((Int.gcd (Int.gcd x y : Int) w : Int) ≠ 0 ∧ (Int.gcd (Int.gcd x y : Int) w : Int).natAbs.log2 < 9000) := fun x y w h1 h2 => by
    have hg := part3_pos (x := x) (y := y) h1
    have hl := part3_le (x := x) (y := y) h1
    unfold part3 at hg hl
    have := h2.of_le hl
    walk_at "sz"
  have fd : ∀ x : Int, ∀ n : Nat, x.fdiv (n : Int) = x / (n : Int) := fun x n => Int.fdiv_eq_ediv_of_nonneg _ (Int.natCast_nonneg _)
  unfold c_spot c_spot_t5 spotZ low3 part3
  walk_at "ev"
  split
  · rw [m_divisor_eq]
    walk_at "ev"
    rw [m_divisor_eq]
    walk_at "ev"
    have g := go (-x) (-y) (-w) (by omega) hb.neg
    refine ⟨g, g, g, ?_⟩
    rw [fd, fd, fd]
  · rw [m_divisor_eq]
    walk_at "ev"
    rw [m_divisor_eq]
    walk_at "ev"
    have g := go x y w hw hb
    refine ⟨g, g, g, ?_⟩
    rw [fd, fd, fd]
/-! whole numbers as rational ones -/
theorem ne_cast {a : Int} (h : a ≠ 0) : (a : Rat) ≠ 0 := fun h2 => h (Rat.intCast_inj.mp (by grind : (a : Rat) = ((0 : Int) : Rat)))
theorem cast_eq {a b c d : Int} (h : (a : Rat) * d = c * b) : a * d = c * b := Rat.intCast_inj.mp (by grind : ((a * d : Int) : Rat) = ((c * b : Int) : Rat))
theorem cast_of {a b c d : Int} (h : a * d = c * b) : (a : Rat) * d = c * b := by
  have : ((a * d : Int) : Rat) = ((c * b : Int) : Rat) := by rw [h]
  grind
def sgn (f : Int) : Int := (if 0 < f then 1 else 0) - (if f < 0 then 1 else 0)
theorem sgn_neg (f : Int) : sgn (-f) = - sgn f := by
  unfold sgn
  split <;> split <;> split <;> split <;> omega
theorem sgn_zero : sgn 0 = 0 := rfl
theorem sgn_mul {w f : Int} (hw : 0 < w) : sgn (w * f) = sgn f := by
  unfold sgn
  have h1 : 0 < w * f ↔ 0 < f := ⟨fun h => pos_of_mul (by omega) h, fun h => Int.mul_pos hw h⟩
  have h2 : w * f < 0 ↔ f < 0 := by
    have : 0 < w * (-f) ↔ 0 < -f := ⟨fun h => pos_of_mul (by omega) h, fun h => Int.mul_pos hw h⟩
    rw [Int.mul_neg] at this
    omega
  simp only [h1, h2]
def detZ (a b c : Spot) : Int := a.1 * (b.2.1 * c.2.2 - c.2.1 * b.2.2) - a.2.1 * (b.1 * c.2.2 - c.1 * b.2.2) + a.2.2 * (b.1 * c.2.1 - c.1 * b.2.1)
def turnZ (a b c : Spot) : Int := sgn (detZ a b c)
theorem turn_rot {a b c : Spot} : turnZ b c a = turnZ a b c := by
  unfold turnZ
  rw [show detZ b c a = detZ a b c by unfold detZ; grind]
theorem turn_swap {a b c : Spot} : turnZ b a c = - turnZ a b c := by
  unfold turnZ
  rw [show detZ b a c = - detZ a b c by unfold detZ; grind, sgn_neg]
theorem turn_back {a b c : Spot} : turnZ c b a = - turnZ a b c := by
  unfold turnZ
  rw [show detZ c b a = - detZ a b c by unfold detZ; grind, sgn_neg]
theorem turn_aa {a c : Spot} : turnZ a a c = 0 := by
  unfold turnZ
  rw [show detZ a a c = 0 by unfold detZ; grind, sgn_zero]
theorem turn_cc {a c : Spot} : turnZ a c c = 0 := by
  unfold turnZ
  rw [show detZ a c c = 0 by unfold detZ; grind, sgn_zero]
def aheadB (p q : Spot) : Bool := if p.1 * q.2.2 ≠ q.1 * p.2.2 then decide (p.1 * q.2.2 < q.1 * p.2.2) else decide (p.2.1 * q.2.2 < q.2.1 * p.2.2)
def lowS (a b : Spot) : Spot := if aheadB b a = true then b else a
def highS (a b : Spot) : Spot := if aheadB b a = true then a else b
abbrev sdd (a b : Spot) : D := .tup [sd a, sd b]
def onB (p a b : Spot) : Bool := decide (turnZ (lowS a b) (highS a b) p = 0) && (!aheadB p (lowS a b) && !aheadB (highS a b) p)
theorem low_sb {n : Nat} {a b : Spot} (h1 : SB n a) (h2 : SB n b) : SB n (lowS a b) := by unfold lowS; split <;> assumption
theorem high_sb {n : Nat} {a b : Spot} (h1 : SB n a) (h2 : SB n b) : SB n (highS a b) := by unfold highS; split <;> assumption
/-! sides as sets of places -/
abbrev Pt := Rat × Rat
def ptQ (p : Spot) : Pt := ((p.1 : Rat) / p.2.2, (p.2.1 : Rat) / p.2.2)
def ltL (P Q : Pt) : Prop := P.1 < Q.1 ∨ (P.1 = Q.1 ∧ P.2 < Q.2)
def leL (P Q : Pt) : Prop := P.1 < Q.1 ∨ (P.1 = Q.1 ∧ P.2 ≤ Q.2)
theorem pt_ext {P Q : Pt} (h1 : P.1 = Q.1) (h2 : P.2 = Q.2) : P = Q := Prod.ext h1 h2
theorem leL_refl (P : Pt) : leL P P := .inr ⟨rfl, by grind⟩
theorem leL_trans {P Q R : Pt} (h1 : leL P Q) (h2 : leL Q R) : leL P R := by unfold leL at *; grind
theorem leL_anti {P Q : Pt} (h1 : leL P Q) (h2 : leL Q P) : P = Q := by
  unfold leL at *
  exact pt_ext (by grind) (by grind)
theorem leL_total (P Q : Pt) : leL P Q ∨ leL Q P := by unfold leL; grind
theorem not_ltL {P Q : Pt} : ¬ ltL P Q ↔ leL Q P := by unfold ltL leL; grind
theorem not_leL {P Q : Pt} : ¬ leL P Q ↔ ltL Q P := by unfold ltL leL; grind
theorem ltL_le {P Q : Pt} (h : ltL P Q) : leL P Q := by unfold ltL leL at *; grind
theorem ltL_ne {P Q : Pt} (h : ltL P Q) : P ≠ Q := by intro e; subst e; unfold ltL at h; grind
theorem ltL_of {P Q : Pt} (h : leL P Q) (n : P ≠ Q) : ltL P Q := by
  unfold leL at h
  unfold ltL
  by_cases h1 : P.1 < Q.1
  · exact .inl h1
  · refine .inr ⟨by grind, ?_⟩
    have : P.2 ≠ Q.2 := fun e => n (pt_ext (by grind) e)
    grind
def crs (A B P : Pt) : Rat := (B.1 - A.1) * (P.2 - A.2) - (B.2 - A.2) * (P.1 - A.1)
def seg (A B P : Pt) : Prop := crs A B P = 0 ∧ ((leL A P ∧ leL P B) ∨ (leL B P ∧ leL P A))
theorem crs_swap {A B P : Pt} : crs B A P = - crs A B P := by unfold crs; grind
theorem seg_swap {A B P : Pt} : seg B A P ↔ seg A B P := by
  unfold seg
  rw [crs_swap]
  have : (- crs A B P = 0) ↔ (crs A B P = 0) := by grind
  rw [this]
  exact and_congr_right fun _ => or_comm
theorem lt_mul {a b : Rat} (ha : 0 < a) (hb : 0 < b) : 0 < a * b := Rat.mul_pos ha hb
/-- on a row: so far along -/
theorem row_at {A B P : Pt} (hn : A ≠ B) (h : crs A B P = 0) : ∃ t : Rat, P.1 = A.1 + t * (B.1 - A.1) ∧ P.2 = A.2 + t * (B.2 - A.2) := by
  unfold crs at h
  by_cases h1 : B.1 - A.1 = 0
  · have h2 : B.2 - A.2 ≠ 0 := fun e => hn (pt_ext (by grind) (by grind))
    refine ⟨(P.2 - A.2) / (B.2 - A.2), ?_, ?_⟩ <;> grind
  · refine ⟨(P.1 - A.1) / (B.1 - A.1), ?_, ?_⟩ <;> grind
theorem at_row {A B P : Pt} {t : Rat} (h1 : P.1 = A.1 + t * (B.1 - A.1)) (h2 : P.2 = A.2 + t * (B.2 - A.2)) : crs A B P = 0 := by
  unfold crs
  rw [h1, h2]
  grind
theorem mul_le_of {t d : Rat} (hd : 0 < d) : (0 ≤ t * d ↔ 0 ≤ t) := by
  constructor
  · intro h
    by_cases ht : 0 ≤ t
    · exact ht
    · have := lt_mul (show 0 < -t by grind) hd
      grind
  · intro h
    exact Rat.mul_nonneg h (by grind)
/-- .. and the order there -/
theorem order_at {A B P : Pt} {t : Rat} (hl : ltL A B) (h1 : P.1 = A.1 + t * (B.1 - A.1)) (h2 : P.2 = A.2 + t * (B.2 - A.2)) : (leL A P ↔ 0 ≤ t) ∧ (leL P B ↔ t ≤ 1) := by
  unfold ltL at hl
  unfold leL
  rw [h1, h2]
  rcases hl with hl | ⟨e, hl⟩
  · have d : 0 < B.1 - A.1 := by grind
    have k1 := mul_le_of (t := t) d
    have k2 := mul_le_of (t := 1 - t) d
    have k3 : t * (B.1 - A.1) = 0 → t = 0 := by grind
    have k4 : (1 - t) * (B.1 - A.1) = 0 → t = 1 := by grind
    generalize hx : t * (B.1 - A.1) = x at *
    have k5 : (1 - t) * (B.1 - A.1) = B.1 - A.1 - x := by grind
    rw [k5] at k2 k4
    constructor
    · constructor
      · intro h; exact k1.mp (by grind)
      · intro h
        by_cases hx0 : x = 0
        · have := k3 hx0
          subst this
          grind
        · have := k1.mpr h; grind
    · constructor
      · intro h; have := k2.mp (by grind); grind
      · intro h
        have := k2.mpr (by grind)
        by_cases hx0 : B.1 - A.1 - x = 0
        · have := k4 hx0
          subst this
          grind
        · grind
  · have d : 0 < B.2 - A.2 := by grind
    have k1 := mul_le_of (t := t) d
    have k2 := mul_le_of (t := 1 - t) d
    have e0 : B.1 - A.1 = 0 := by grind
    rw [e0, Rat.mul_zero]
    have k5 : (1 - t) * (B.2 - A.2) = B.2 - A.2 - t * (B.2 - A.2) := by grind
    rw [k5] at k2
    generalize t * (B.2 - A.2) = x at *
    constructor
    · constructor
      · intro h; exact k1.mp (by grind)
      · intro h; have := k1.mpr h; grind
    · constructor
      · intro h; have := k2.mp (by grind); grind
      · intro h; have := k2.mpr (by grind); grind
theorem seg_iff {A B P : Pt} (hn : A ≠ B) : seg A B P ↔ ∃ t : Rat, (0 ≤ t ∧ t ≤ 1) ∧ P.1 = A.1 + t * (B.1 - A.1) ∧ P.2 = A.2 + t * (B.2 - A.2) := by
  have main : ∀ A B : Pt, ltL A B → (seg A B P ↔ ∃ t : Rat, (0 ≤ t ∧ t ≤ 1) ∧ P.1 = A.1 + t * (B.1 - A.1) ∧ P.2 = A.2 + t * (B.2 - A.2)) := by
    intro A B hl
    constructor
    · rintro ⟨hc, ho⟩
      obtain ⟨t, h1, h2⟩ := row_at (ltL_ne hl) hc
      obtain ⟨o1, o2⟩ := order_at hl h1 h2
      refine ⟨t, ?_, h1, h2⟩
      rcases ho with ⟨k1, k2⟩ | ⟨k1, k2⟩
      · exact ⟨o1.mp k1, o2.mp k2⟩
      · exact absurd (leL_trans k1 k2) (not_leL.mpr hl)
    · rintro ⟨t, ⟨t0, t1⟩, h1, h2⟩
      obtain ⟨o1, o2⟩ := order_at hl h1 h2
      exact ⟨at_row h1 h2, .inl ⟨o1.mpr t0, o2.mpr t1⟩⟩
  rcases leL_total A B with h | h
  · exact main A B (ltL_of h hn)
  · rw [← seg_swap, main B A (ltL_of h hn.symm)]
    constructor
    · rintro ⟨t, ⟨t0, t1⟩, h1, h2⟩
      exact ⟨1 - t, ⟨by grind, by grind⟩, by rw [h1]; grind, by rw [h2]; grind⟩
    · rintro ⟨t, ⟨t0, t1⟩, h1, h2⟩
      exact ⟨1 - t, ⟨by grind, by grind⟩, by rw [h1]; grind, by rw [h2]; grind⟩
theorem seg_a {A B : Pt} : seg A B A := by
  refine ⟨by unfold crs; grind, ?_⟩
  rcases leL_total A B with h | h
  · exact .inl ⟨leL_refl A, h⟩
  · exact .inr ⟨h, leL_refl A⟩
theorem seg_b {A B : Pt} : seg A B B := seg_swap.mp seg_a
theorem seg_lt {A B P : Pt} (hl : ltL A B) : seg A B P ↔ crs A B P = 0 ∧ leL A P ∧ leL P B := by
  constructor
  · rintro ⟨hc, ho⟩
    rcases ho with k | ⟨k1, k2⟩
    · exact ⟨hc, k⟩
    · exact absurd (leL_trans k1 k2) (not_leL.mpr hl)
  · rintro ⟨hc, k⟩
    exact ⟨hc, .inl k⟩
/-- two unlike places of a row tell the same row -/
theorem row_same {A B C D P : Pt} (hab : A ≠ B) (hcd : C ≠ D) (hc : crs A B C = 0) (hd : crs A B D = 0) : crs C D P = 0 ↔ crs A B P = 0 := by
  obtain ⟨s, s1, s2⟩ := row_at hab hc
  obtain ⟨r, r1, r2⟩ := row_at hab hd
  have hsr : r - s ≠ 0 := fun e => hcd (pt_ext (by rw [s1, r1]; grind) (by rw [s2, r2]; grind))
  have e : crs C D P = (r - s) * crs A B P := by
    unfold crs
    rw [s1, s2, r1, r2]
    grind
  rw [e]
  constructor
  · intro h; grind
  · intro h; rw [h]; grind
/-! .. of spots -/
theorem cast_lt {a b : Int} : (a : Rat) < b ↔ a < b := Rat.intCast_lt_intCast
theorem cast_pos {a : Int} (h : 0 < a) : (0 : Rat) < a := by
  have := cast_lt.mpr h
  grind
theorem pt_inj {p q : Spot} (hp : IsSpot p) (hq : IsSpot q) (h : ptQ p = ptQ q) : p = q := by
  have h0 := ne_cast (a := p.2.2) (by have := hp.pos; omega)
  have h1 := ne_cast (a := q.2.2) (by have := hq.pos; omega)
  have e1 := congrArg Prod.fst h
  have e2 := congrArg Prod.snd h
  unfold ptQ at e1 e2
  simp only at e1 e2
  exact spot_same hp hq (cast_eq (by grind)) (cast_eq (by grind))
theorem frac_lt {a b c d : Int} (hb : 0 < b) (hd : 0 < d) : (a : Rat) / b < (c : Rat) / d ↔ a * d < c * b := by
  have h0 := cast_pos hb
  have h1 := cast_pos hd
  rw [← cast_lt]
  have h2 := lt_mul h0 h1
  have e : ((c * b : Int) : Rat) - ((a * d : Int) : Rat) = ((c : Rat) / d - (a : Rat) / b) * ((b : Rat) * d) := by grind
  have k : 0 < ((c : Rat) / d - (a : Rat) / b) * ((b : Rat) * d) ↔ 0 < (c : Rat) / d - (a : Rat) / b := by
    constructor
    · intro h
      have h3 := (mul_le_of (t := (c : Rat) / d - (a : Rat) / b) h2).mp (by grind)
      by_cases h4 : (c : Rat) / d - (a : Rat) / b = 0
      · rw [h4] at h; grind
      · grind
    · intro h; exact lt_mul h h2
  constructor
  · intro h; have := k.mpr (by grind); grind
  · intro h; have := k.mp (by grind); grind
theorem frac_eq {a b c d : Int} (hb : 0 < b) (hd : 0 < d) : (a : Rat) / b = (c : Rat) / d ↔ a * d = c * b := by
  have h0 := ne_cast (a := b) (by omega)
  have h1 := ne_cast (a := d) (by omega)
  constructor
  · intro h; exact cast_eq (by grind)
  · intro h; have := cast_of h; grind
theorem ahead_lt {p q : Spot} (hp : 0 < p.2.2) (hq : 0 < q.2.2) : aheadB p q = true ↔ ltL (ptQ p) (ptQ q) := by
  unfold ltL ptQ
  simp only
  rw [frac_lt hp hq, frac_lt hp hq, frac_eq hp hq]
  unfold aheadB
  split <;> rw [decide_eq_true_iff] <;> omega
theorem det_crs {a b c : Spot} (ha : 0 < a.2.2) (hb : 0 < b.2.2) (hc : 0 < c.2.2) : (detZ a b c : Rat) = ((a.2.2 : Rat) * b.2.2 * c.2.2) * crs (ptQ a) (ptQ b) (ptQ c) := by
  have h0 := ne_cast (a := a.2.2) (by omega)
  have h1 := ne_cast (a := b.2.2) (by omega)
  have h2 := ne_cast (a := c.2.2) (by omega)
  unfold detZ crs ptQ
  simp only
  grind
theorem sgn_val (f : Int) : (0 < f ∧ sgn f = 1) ∨ (f = 0 ∧ sgn f = 0) ∨ (f < 0 ∧ sgn f = -1) := by unfold sgn; split <;> split <;> omega
theorem pos_scale {k x : Rat} (hk : 0 < k) : (0 < k * x ↔ 0 < x) ∧ (k * x < 0 ↔ x < 0) ∧ (k * x = 0 ↔ x = 0) := by
  have h1 : 0 < k * x ↔ 0 < x := by
    constructor
    · intro h
      have h3 := (mul_le_of (t := x) hk).mp (by grind)
      by_cases h4 : x = 0
      · rw [h4] at h; grind
      · grind
    · intro h; exact lt_mul hk h
  have h2 : 0 < k * (-x) ↔ 0 < -x := by
    constructor
    · intro h
      have h3 := (mul_le_of (t := -x) hk).mp (by grind)
      by_cases h4 : x = 0
      · rw [h4] at h; grind
      · grind
    · intro h; exact lt_mul hk h
  refine ⟨h1, ?_, ?_⟩
  · constructor
    · intro h; have := h2.mp (by grind); grind
    · intro h; have := h2.mpr (by grind); grind
  · constructor
    · intro h; grind
    · intro h; rw [h]; grind
/-- the turn is the sign -/
theorem turn_val {a b c : Spot} (ha : 0 < a.2.2) (hb : 0 < b.2.2) (hc : 0 < c.2.2) :
    (0 < crs (ptQ a) (ptQ b) (ptQ c) ∧ turnZ a b c = 1) ∨ (crs (ptQ a) (ptQ b) (ptQ c) = 0 ∧ turnZ a b c = 0) ∨ (crs (ptQ a) (ptQ b) (ptQ c) < 0 ∧ turnZ a b c = -1) := by
  have e := det_crs ha hb hc
  have k := pos_scale (x := crs (ptQ a) (ptQ b) (ptQ c)) (lt_mul (lt_mul (cast_pos ha) (cast_pos hb)) (cast_pos hc))
  rw [← e] at k
  unfold turnZ
  have c0 : ((0 : Int) : Rat) = 0 := by grind
  rcases sgn_val (detZ a b c) with ⟨h, s⟩ | ⟨h, s⟩ | ⟨h, s⟩
  · exact .inl ⟨k.1.mp (cast_pos h), s⟩
  · exact .inr (.inl ⟨k.2.2.mp (by rw [h, c0]), s⟩)
  · refine .inr (.inr ⟨k.2.1.mp ?_, s⟩)
    have := cast_lt.mpr h
    grind
theorem turn_zero {a b c : Spot} (ha : 0 < a.2.2) (hb : 0 < b.2.2) (hc : 0 < c.2.2) : turnZ a b c = 0 ↔ crs (ptQ a) (ptQ b) (ptQ c) = 0 := by
  rcases turn_val ha hb hc with ⟨h, s⟩ | ⟨h, s⟩ | ⟨h, s⟩
  · rw [s]; constructor
    · intro k; cases k
    · intro k; grind
  · rw [s, h]; simp
  · rw [s]; constructor
    · intro k; cases k
    · intro k; grind
theorem on_seg {p a b : Spot} (hp : 0 < p.2.2) (ha : 0 < a.2.2) (hb : 0 < b.2.2) : onB p a b = true ↔ seg (ptQ a) (ptQ b) (ptQ p) := by
  have main : ∀ l h : Spot, 0 < l.2.2 → 0 < h.2.2 → ((decide (turnZ l h p = 0) && (!aheadB p l && !aheadB h p)) = true ↔ crs (ptQ l) (ptQ h) (ptQ p) = 0 ∧ leL (ptQ l) (ptQ p) ∧ leL (ptQ p) (ptQ h)) := by
    intro l h hl hh
    rw [Bool.and_eq_true, Bool.and_eq_true, decide_eq_true_iff, turn_zero hl hh hp, Bool.not_eq_true', Bool.not_eq_true', ← Bool.not_eq_true, ← Bool.not_eq_true, ahead_lt hp hl, ahead_lt hh hp, not_ltL, not_ltL]
  unfold onB lowS highS
  by_cases hB : aheadB b a = true
  · simp only [if_pos hB]
    rw [main b a hb ha, ← seg_lt ((ahead_lt hb ha).mp hB), seg_swap]
  · simp only [if_neg hB]
    rw [main a b ha hb]
    have hle : leL (ptQ a) (ptQ b) := not_ltL.mp fun k => hB ((ahead_lt hb ha).mpr k)
    unfold seg
    refine and_congr_right fun _ => ?_
    constructor
    · exact .inl
    · rintro (k | ⟨k1, k2⟩)
      · exact k
      · have e1 := leL_anti (leL_trans k1 k2) hle
        rw [e1] at k1
        have e2 := leL_anti k1 k2
        rw [e1, e2]
        exact ⟨leL_refl _, leL_refl _⟩
/-! what two sides have in common -/
inductive Com where
  | no | one (p : Spot) | two (p q : Spot)
def isCom (S : Pt → Prop) : Com → Prop
  | .no => ∀ P, ¬ S P
  | .one p => IsSpot p ∧ ∀ P, S P ↔ P = ptQ p
  | .two p q => IsSpot p ∧ IsSpot q ∧ ltL (ptQ p) (ptQ q) ∧ ∀ P, S P ↔ seg (ptQ p) (ptQ q) P
theorem seg_least {p q : Pt} (h : ltL p q) {P : Pt} (hp : seg p q P) : leL p P ∧ leL P q := ((seg_lt h).mp hp).2
theorem com_uniq {S : Pt → Prop} {x y : Com} (hx : isCom S x) (hy : isCom S y) : x = y := by
  cases x with
  | no =>
    cases y with
    | no => rfl
    | one p => exact absurd ((hy.2 _).mpr rfl) (hx _)
    | two p q => exact absurd ((hy.2.2.2 _).mpr seg_a) (hx _)
  | one p =>
    cases y with
    | no => exact absurd ((hx.2 _).mpr rfl) (hy _)
    | one q => rw [pt_inj hx.1 hy.1 ((hy.2 _).mp ((hx.2 _).mpr rfl))]
    | two q r =>
      have e1 := (hx.2 _).mp ((hy.2.2.2 _).mpr seg_a)
      have e2 := (hx.2 _).mp ((hy.2.2.2 _).mpr seg_b)
      exact absurd (e1.trans e2.symm) (ltL_ne hy.2.2.1)
  | two p q =>
    cases y with
    | no => exact absurd ((hx.2.2.2 _).mpr seg_a) (hy _)
    | one r =>
      have e1 := (hy.2 _).mp ((hx.2.2.2 _).mpr seg_a)
      have e2 := (hy.2 _).mp ((hx.2.2.2 _).mpr seg_b)
      exact absurd (e1.trans e2.symm) (ltL_ne hx.2.2.1)
    | two r s =>
      have go : ∀ P, seg (ptQ p) (ptQ q) P ↔ seg (ptQ r) (ptQ s) P := fun P => (hx.2.2.2 P).symm.trans (hy.2.2.2 P)
      have a1 := seg_least hy.2.2.1 ((go _).mp seg_a)
      have a2 := seg_least hy.2.2.1 ((go _).mp seg_b)
      have b1 := seg_least hx.2.2.1 ((go _).mpr seg_a)
      have b2 := seg_least hx.2.2.1 ((go _).mpr seg_b)
      rw [pt_inj hx.1 hy.1 (leL_anti b1.1 a1.1), pt_inj hx.2.1 hy.2.1 (leL_anti a2.2 b2.2)]
theorem com_imp {S T : Pt → Prop} {x : Com} (h : isCom S x) (k : ∀ P, T P ↔ S P) : isCom T x := by
  cases x with
  | no => exact fun P hp => h P ((k P).mp hp)
  | one p => exact ⟨h.1, fun P => (k P).trans (h.2 P)⟩
  | two p q => exact ⟨h.1, h.2.1, h.2.2.1, fun P => (k P).trans (h.2.2.2 P)⟩
def both (a b c d : Spot) (P : Pt) : Prop := seg (ptQ a) (ptQ b) P ∧ seg (ptQ c) (ptQ d) P
/-- in one row -/
def strZ (a b c d : Spot) : Com :=
  let l := if aheadB (lowS a b) (lowS c d) = true then lowS c d else lowS a b
  let h := if aheadB (highS c d) (highS a b) = true then highS c d else highS a b
  if aheadB h l = true then .no else if l = h then .one l else .two l h
structure SideOk (a b : Spot) : Prop where
  ha : IsSpot a
  hb : IsSpot b
  ne : a ≠ b
theorem SideOk.swap {a b : Spot} (h : SideOk a b) : SideOk b a := ⟨h.hb, h.ha, h.ne.symm⟩
theorem low_cases (a b : Spot) : (lowS a b = a ∧ highS a b = b ∧ aheadB b a = false) ∨ (lowS a b = b ∧ highS a b = a ∧ aheadB b a = true) := by
  unfold lowS highS
  cases h : aheadB b a
  · exact .inl ⟨rfl, rfl, rfl⟩
  · exact .inr ⟨rfl, rfl, rfl⟩
structure Ordered (l h a b : Spot) : Prop where
  hl : IsSpot l
  hh : IsSpot h
  lt : ltL (ptQ l) (ptQ h)
  sg : ∀ P, seg (ptQ a) (ptQ b) P ↔ seg (ptQ l) (ptQ h) P
  cr : ∀ P, crs (ptQ a) (ptQ b) P = 0 ↔ crs (ptQ l) (ptQ h) P = 0
theorem ordered {a b : Spot} (h : SideOk a b) : Ordered (lowS a b) (highS a b) a b := by
  rcases low_cases a b with ⟨e1, e2, e3⟩ | ⟨e1, e2, e3⟩
  · rw [e1, e2]
    refine ⟨h.ha, h.hb, ?_, fun P => Iff.rfl, fun P => Iff.rfl⟩
    have : ¬ ltL (ptQ b) (ptQ a) := fun k => by rw [(ahead_lt h.hb.pos h.ha.pos).mpr k] at e3; cases e3
    exact ltL_of (not_ltL.mp this) fun e => h.ne (pt_inj h.ha h.hb e)
  · rw [e1, e2]
    refine ⟨h.hb, h.ha, (ahead_lt h.hb.pos h.ha.pos).mp e3, fun P => seg_swap.symm, fun P => ?_⟩
    rw [crs_swap (A := ptQ a)]
    constructor <;> intro k <;> grind
theorem strZ_is {a b c d : Spot} (h1 : SideOk a b) (h2 : SideOk c d) (hc : crs (ptQ a) (ptQ b) (ptQ c) = 0) (hd : crs (ptQ a) (ptQ b) (ptQ d) = 0) : isCom (both a b c d) (strZ a b c d) := by
  have o1 := ordered h1
  have o2 := ordered h2
  have nab : ptQ a ≠ ptQ b := fun e => h1.ne (pt_inj h1.ha h1.hb e)
  have ncd : ptQ c ≠ ptQ d := fun e => h2.ne (pt_inj h2.ha h2.hb e)
  have rs : ∀ P, crs (ptQ c) (ptQ d) P = 0 ↔ crs (ptQ a) (ptQ b) P = 0 := fun P => row_same nab ncd hc hd
  have hl1 : crs (ptQ a) (ptQ b) (ptQ (lowS a b)) = 0 := (o1.cr _).mpr (seg_a (A := ptQ (lowS a b)) (B := ptQ (highS a b))).1
  have hh1 : crs (ptQ a) (ptQ b) (ptQ (highS a b)) = 0 := (o1.cr _).mpr (seg_b (A := ptQ (lowS a b)) (B := ptQ (highS a b))).1
  have hl2 : crs (ptQ a) (ptQ b) (ptQ (lowS c d)) = 0 := (rs _).mp ((o2.cr _).mpr (seg_a (A := ptQ (lowS c d)) (B := ptQ (highS c d))).1)
  have hh2 : crs (ptQ a) (ptQ b) (ptQ (highS c d)) = 0 := (rs _).mp ((o2.cr _).mpr (seg_b (A := ptQ (lowS c d)) (B := ptQ (highS c d))).1)
  have hS : ∀ P, both a b c d P ↔ crs (ptQ a) (ptQ b) P = 0 ∧ (leL (ptQ (lowS a b)) P ∧ leL (ptQ (lowS c d)) P) ∧ (leL P (ptQ (highS a b)) ∧ leL P (ptQ (highS c d))) := fun P => by
    unfold both
    rw [o1.sg, o2.sg, seg_lt o1.lt, seg_lt o2.lt, ← o1.cr, ← o2.cr, rs]
    constructor
    · rintro ⟨⟨x1, x2, x3⟩, ⟨x4, x5, x6⟩⟩; exact ⟨x1, ⟨x2, x5⟩, ⟨x3, x6⟩⟩
    · rintro ⟨x1, ⟨x2, x5⟩, ⟨x3, x6⟩⟩; exact ⟨⟨x1, x2, x3⟩, ⟨x1, x5, x6⟩⟩
  obtain ⟨l, el, sl, cl, ll⟩ : ∃ l, (if aheadB (lowS a b) (lowS c d) = true then lowS c d else lowS a b) = l ∧ IsSpot l ∧ crs (ptQ a) (ptQ b) (ptQ l) = 0 ∧ ∀ P, (leL (ptQ (lowS a b)) P ∧ leL (ptQ (lowS c d)) P) ↔ leL (ptQ l) P := by
    by_cases k : aheadB (lowS a b) (lowS c d) = true
    · refine ⟨_, if_pos k, o2.hl, hl2, fun P => ⟨fun x => x.2, fun x => ⟨leL_trans (ltL_le ((ahead_lt o1.hl.pos o2.hl.pos).mp k)) x, x⟩⟩⟩
    · refine ⟨_, if_neg k, o1.hl, hl1, fun P => ⟨fun x => x.1, fun x => ⟨x, leL_trans (not_ltL.mp fun y => k ((ahead_lt o1.hl.pos o2.hl.pos).mpr y)) x⟩⟩⟩
  obtain ⟨h, eh, sh, ch, lh⟩ : ∃ h, (if aheadB (highS c d) (highS a b) = true then highS c d else highS a b) = h ∧ IsSpot h ∧ crs (ptQ a) (ptQ b) (ptQ h) = 0 ∧ ∀ P, (leL P (ptQ (highS a b)) ∧ leL P (ptQ (highS c d))) ↔ leL P (ptQ h) := by
    by_cases k : aheadB (highS c d) (highS a b) = true
    · refine ⟨_, if_pos k, o2.hh, hh2, fun P => ⟨fun x => x.2, fun x => ⟨leL_trans x (ltL_le ((ahead_lt o2.hh.pos o1.hh.pos).mp k)), x⟩⟩⟩
    · refine ⟨_, if_neg k, o1.hh, hh1, fun P => ⟨fun x => x.1, fun x => ⟨x, leL_trans x (not_ltL.mp fun y => k ((ahead_lt o2.hh.pos o1.hh.pos).mpr y))⟩⟩⟩
  have hS2 : ∀ P, both a b c d P ↔ crs (ptQ a) (ptQ b) P = 0 ∧ leL (ptQ l) P ∧ leL P (ptQ h) := fun P => by rw [hS, ll, lh]
  unfold strZ
  simp only
  rw [el, eh]
  by_cases k : aheadB h l = true
  · rw [if_pos k]
    intro P hP
    obtain ⟨_, x, y⟩ := (hS2 P).mp hP
    exact not_leL.mpr ((ahead_lt sh.pos sl.pos).mp k) (leL_trans x y)
  · have hle : leL (ptQ l) (ptQ h) := not_ltL.mp fun y => k ((ahead_lt sh.pos sl.pos).mpr y)
    rw [if_neg k]
    by_cases e : l = h
    · rw [if_pos e]
      subst e
      refine ⟨sl, fun P => (hS2 P).trans ⟨fun ⟨_, x, y⟩ => leL_anti y x, fun e => ?_⟩⟩
      rw [e]
      exact ⟨cl, leL_refl _, leL_refl _⟩
    · rw [if_neg e]
      have lt := ltL_of hle fun x => e (pt_inj sl sh x)
      refine ⟨sl, sh, lt, fun P => ?_⟩
      rw [hS2, seg_lt lt, row_same nab (ltL_ne lt) cl ch]
/-- not in one row -/
def whQ (A B C D : Pt) : Rat := (B.1 - A.1) * (D.2 - C.2) - (B.2 - A.2) * (D.1 - C.1)
def miQ (A B C D : Pt) : Rat := (C.1 - A.1) * (D.2 - C.2) - (C.2 - A.2) * (D.1 - C.1)
def thQ (A B C D : Pt) : Rat := (C.1 - A.1) * (B.2 - A.2) - (C.2 - A.2) * (B.1 - A.1)
theorem div_unit {m w : Rat} (hw : w ≠ 0) : (0 ≤ m / w ∧ m / w ≤ 1) ↔ ((0 < w ∧ 0 ≤ m ∧ m ≤ w) ∨ (w < 0 ∧ m ≤ 0 ∧ w ≤ m)) := by
  have e : m = (m / w) * w := by grind
  generalize m / w = x at *
  subst e
  by_cases h : 0 < w
  · have k1 := mul_le_of (t := x) h
    have k2 := mul_le_of (t := 1 - x) h
    have e2 : (1 - x) * w = w - x * w := by grind
    rw [e2] at k2
    constructor
    · rintro ⟨h1, h2⟩
      exact .inl ⟨h, k1.mpr h1, by have := k2.mpr (by grind); grind⟩
    · rintro (⟨_, h1, h2⟩ | ⟨h1, _⟩)
      · exact ⟨k1.mp h1, by have := k2.mp (by grind); grind⟩
      · grind
  · have hn : 0 < -w := by grind
    have k1 := mul_le_of (t := x) hn
    have k2 := mul_le_of (t := 1 - x) hn
    have e2 : (1 - x) * -w = x * w - w := by grind
    have e3 : x * -w = - (x * w) := by grind
    rw [e2] at k2
    rw [e3] at k1
    constructor
    · rintro ⟨h1, h2⟩
      refine .inr ⟨by grind, by have := k1.mpr h1; grind, by have := k2.mpr (by grind); grind⟩
    · rintro (⟨h1, _⟩ | ⟨_, h1, h2⟩)
      · grind
      · exact ⟨k1.mp (by grind), by have := k2.mp (by grind); grind⟩
theorem cross_at {A B C D P : Pt} (hab : A ≠ B) (hcd : C ≠ D) (hp : seg A B P ∧ seg C D P) : ∃ s r : Rat, (0 ≤ s ∧ s ≤ 1) ∧ (0 ≤ r ∧ r ≤ 1) ∧ s * whQ A B C D = miQ A B C D ∧ r * whQ A B C D = thQ A B C D ∧ P.1 = A.1 + s * (B.1 - A.1) ∧ P.2 = A.2 + s * (B.2 - A.2) := by
  obtain ⟨s, hs, s1, s2⟩ := (seg_iff hab).mp hp.1
  obtain ⟨r, hr, r1, r2⟩ := (seg_iff hcd).mp hp.2
  refine ⟨s, r, hs, hr, ?_, ?_, s1, s2⟩
  · unfold whQ miQ; grind
  · unfold whQ thQ; grind
theorem cross_none {A B C D : Pt} (hab : A ≠ B) (hcd : C ≠ D) (hw : whQ A B C D = 0) (ht : thQ A B C D ≠ 0) (P : Pt) : ¬ (seg A B P ∧ seg C D P) := fun hp => by
  obtain ⟨s, r, _, _, _, h, _⟩ := cross_at hab hcd hp
  rw [hw] at h
  grind
theorem cross_out {A B C D : Pt} (hab : A ≠ B) (hcd : C ≠ D) (hw : whQ A B C D ≠ 0) (ho : ¬ ((0 ≤ miQ A B C D / whQ A B C D ∧ miQ A B C D / whQ A B C D ≤ 1) ∧ (0 ≤ thQ A B C D / whQ A B C D ∧ thQ A B C D / whQ A B C D ≤ 1))) (P : Pt) : ¬ (seg A B P ∧ seg C D P) := fun hp => by
  obtain ⟨s, r, hs, hr, h1, h2, _⟩ := cross_at hab hcd hp
  have e1 : miQ A B C D / whQ A B C D = s := by grind
  have e2 : thQ A B C D / whQ A B C D = r := by grind
  rw [e1, e2] at ho
  exact ho ⟨hs, hr⟩
theorem cross_one {A B C D X : Pt} (hab : A ≠ B) (hcd : C ≠ D) (hw : whQ A B C D ≠ 0) (ho : (0 ≤ miQ A B C D / whQ A B C D ∧ miQ A B C D / whQ A B C D ≤ 1) ∧ (0 ≤ thQ A B C D / whQ A B C D ∧ thQ A B C D / whQ A B C D ≤ 1))
    (x1 : X.1 * whQ A B C D = A.1 * whQ A B C D + miQ A B C D * (B.1 - A.1)) (x2 : X.2 * whQ A B C D = A.2 * whQ A B C D + miQ A B C D * (B.2 - A.2)) (P : Pt) : (seg A B P ∧ seg C D P) ↔ P = X := by
  constructor
  · intro hp
    obtain ⟨s, r, hs, hr, h1, h2, s1, s2⟩ := cross_at hab hcd hp
    refine pt_ext ?_ ?_
    · have : P.1 * whQ A B C D = X.1 * whQ A B C D := by rw [x1, s1]; grind
      grind
    · have : P.2 * whQ A B C D = X.2 * whQ A B C D := by rw [x2, s2]; grind
      grind
  · intro e
    subst e
    constructor
    · refine (seg_iff hab).mpr ⟨_, ho.1, ?_, ?_⟩ <;> grind
    · refine (seg_iff hcd).mpr ⟨_, ho.2, ?_, ?_⟩
      · have : P.1 * whQ A B C D = C.1 * whQ A B C D + thQ A B C D * (D.1 - C.1) := by rw [x1]; unfold whQ miQ thQ; grind
        grind
      · have : P.2 * whQ A B C D = C.2 * whQ A B C D + thQ A B C D * (D.2 - C.2) := by rw [x2]; unfold whQ miQ thQ; grind
        grind
/-! what the program and the law reckon -/
def lowF (f : Spot → Int) (a b : Spot) : Spot := if f a * b.2.2 < f b * a.2.2 then a else b
def highF (f : Spot → Int) (a b : Spot) : Spot := if f a * b.2.2 < f b * a.2.2 then b else a
def apartF (f : Spot → Int) (a b c d : Spot) : Bool := decide (f (highF f c d) * (lowF f a b).2.2 < f (lowF f a b) * (highF f c d).2.2)
def rowS (a b : Spot) : Spot := (a.2.1 * b.2.2 - a.2.2 * b.2.1, a.2.2 * b.1 - a.1 * b.2.2, a.1 * b.2.1 - a.2.1 * b.1)
def crossS (a b c d : Spot) : Spot := spotZ (rowS (rowS a b) (rowS c d)).1 (rowS (rowS a b) (rowS c d)).2.1 (rowS (rowS a b) (rowS c d)).2.2
def coX (p : Spot) : Int := p.1
def coY (p : Spot) : Int := p.2.1
def comZ (a b c d : Spot) : Com :=
  if apartF coX a b c d = true ∨ apartF coX c d a b = true ∨ apartF coY a b c d = true ∨ apartF coY c d a b = true then .no
  else if turnZ a b c = 0 ∧ turnZ a b d = 0 then strZ a b c d
  else if 0 < turnZ a b c * turnZ a b d ∨ 0 < turnZ c d a * turnZ c d b then .no
  else .one (crossS a b c d)
theorem seg_co {A B P : Pt} (hn : A ≠ B) (h : seg A B P) : ((A.1 ≤ P.1 ∧ P.1 ≤ B.1) ∨ (B.1 ≤ P.1 ∧ P.1 ≤ A.1)) ∧ ((A.2 ≤ P.2 ∧ P.2 ≤ B.2) ∨ (B.2 ≤ P.2 ∧ P.2 ≤ A.2)) := by
  obtain ⟨t, ⟨h0, h1⟩, e1, e2⟩ := (seg_iff hn).mp h
  rw [e1, e2]
  have go : ∀ x y : Rat, (x ≤ x + t * (y - x) ∧ x + t * (y - x) ≤ y) ∨ (y ≤ x + t * (y - x) ∧ x + t * (y - x) ≤ x) := fun x y => by
    by_cases hxy : x ≤ y
    · have k1 := Rat.mul_nonneg h0 (show 0 ≤ y - x by grind)
      have k2 := Rat.mul_nonneg (show 0 ≤ 1 - t by grind) (show 0 ≤ y - x by grind)
      have e : (1 - t) * (y - x) = y - x - t * (y - x) := by grind
      rw [e] at k2
      exact .inl ⟨by grind, by grind⟩
    · have k1 := Rat.mul_nonneg h0 (show 0 ≤ x - y by grind)
      have k2 := Rat.mul_nonneg (show 0 ≤ 1 - t by grind) (show 0 ≤ x - y by grind)
      have e : (1 - t) * (x - y) = x - y - t * (x - y) := by grind
      have e3 : t * (x - y) = - (t * (y - x)) := by grind
      rw [e] at k2
      rw [e3] at k1 k2
      exact .inr ⟨by grind, by grind⟩
  exact ⟨go _ _, go _ _⟩
theorem lowF_le {f : Spot → Int} {a b : Spot} (ha : 0 < a.2.2) (hb : 0 < b.2.2) : (f (lowF f a b) : Rat) / (lowF f a b).2.2 ≤ (f a : Rat) / a.2.2 ∧ (f (lowF f a b) : Rat) / (lowF f a b).2.2 ≤ (f b : Rat) / b.2.2 := by
  unfold lowF
  have := frac_lt (a := f a) (c := f b) ha hb
  split <;> constructor <;> grind
theorem highF_ge {f : Spot → Int} {a b : Spot} (ha : 0 < a.2.2) (hb : 0 < b.2.2) : (f a : Rat) / a.2.2 ≤ (f (highF f a b) : Rat) / (highF f a b).2.2 ∧ (f b : Rat) / b.2.2 ≤ (f (highF f a b) : Rat) / (highF f a b).2.2 := by
  unfold highF
  have := frac_lt (a := f a) (c := f b) ha hb
  split <;> constructor <;> grind
theorem lowF_pos {f : Spot → Int} {a b : Spot} (ha : 0 < a.2.2) (hb : 0 < b.2.2) : 0 < (lowF f a b).2.2 ∧ 0 < (highF f a b).2.2 := by
  unfold lowF highF
  split <;> exact ⟨by assumption, by assumption⟩
theorem apart_lt {f : Spot → Int} {a b c d : Spot} (ha : 0 < a.2.2) (hb : 0 < b.2.2) (hc : 0 < c.2.2) (hd : 0 < d.2.2) (h : apartF f a b c d = true) {x : Rat}
    (h1 : ((f a : Rat) / a.2.2 ≤ x ∧ x ≤ (f b : Rat) / b.2.2) ∨ ((f b : Rat) / b.2.2 ≤ x ∧ x ≤ (f a : Rat) / a.2.2)) (h2 : ((f c : Rat) / c.2.2 ≤ x ∧ x ≤ (f d : Rat) / d.2.2) ∨ ((f d : Rat) / d.2.2 ≤ x ∧ x ≤ (f c : Rat) / c.2.2)) : False := by
  unfold apartF at h
  rw [decide_eq_true_iff] at h
  have p1 := lowF_pos (f := f) ha hb
  have p2 := lowF_pos (f := f) hc hd
  have k := (frac_lt p2.2 p1.1).mpr h
  have l := lowF_le (f := f) ha hb
  have g := highF_ge (f := f) hc hd
  generalize (f (highF f c d) : Rat) / (highF f c d).2.2 = u at *
  generalize (f (lowF f a b) : Rat) / (lowF f a b).2.2 = v at *
  generalize (f a : Rat) / a.2.2 = x1 at *
  generalize (f b : Rat) / b.2.2 = x2 at *
  generalize (f c : Rat) / c.2.2 = x3 at *
  generalize (f d : Rat) / d.2.2 = x4 at *
  rcases h1 with h1 | h1 <;> rcases h2 with h2 | h2 <;> grind
theorem sq_pos {x : Rat} (h : x ≠ 0) : 0 < x * x := by
  by_cases h1 : 0 < x
  · exact lt_mul h1 h1
  · have := lt_mul (show 0 < -x by grind) (show 0 < -x by grind)
    grind
theorem spotQ {x y w : Int} (hw : w ≠ 0) : (ptQ (spotZ x y w)).1 = (x : Rat) / w ∧ (ptQ (spotZ x y w)).2 = (y : Rat) / w := by
  have h := spotZ_of (x := x) (y := y) hw
  have h0 := ne_cast hw
  have h1 := ne_cast (a := (spotZ x y w).2.2) (by have := h.pos; omega)
  have a := cast_of h.sx
  have b := cast_of h.sy
  unfold ptQ
  generalize spotZ x y w = q at *
  simp only
  constructor <;> grind
theorem comZ_is {a b c d : Spot} (h1 : SideOk a b) (h2 : SideOk c d) : isCom (both a b c d) (comZ a b c d) := by
  have nab : ptQ a ≠ ptQ b := fun e => h1.ne (pt_inj h1.ha h1.hb e)
  have ncd : ptQ c ≠ ptQ d := fun e => h2.ne (pt_inj h2.ha h2.hb e)
  have pa := h1.ha.pos
  have pb := h1.hb.pos
  have pc := h2.ha.pos
  have pd := h2.hb.pos
  unfold comZ
  split
  · rename_i h
    intro P hP
    have k1 := seg_co nab hP.1
    have k2 := seg_co ncd hP.2
    rcases h with h | h | h | h
    · exact apart_lt pa pb pc pd h k1.1 k2.1
    · exact apart_lt pc pd pa pb h k2.1 k1.1
    · exact apart_lt pa pb pc pd h k1.2 k2.2
    · exact apart_lt pc pd pa pb h k2.2 k1.2
  · split
    · rename_i h
      exact strZ_is h1 h2 ((turn_zero pa pb pc).mp h.1) ((turn_zero pa pb pd).mp h.2)
    · rename_i hn
      have v1 := turn_val pa pb pc
      have v2 := turn_val pa pb pd
      have v3 := turn_val pc pd pa
      have v4 := turn_val pc pd pb
      have e1 : crs (ptQ a) (ptQ b) (ptQ c) = - thQ (ptQ a) (ptQ b) (ptQ c) (ptQ d) := by unfold crs thQ; grind
      have e2 : crs (ptQ a) (ptQ b) (ptQ d) = whQ (ptQ a) (ptQ b) (ptQ c) (ptQ d) - thQ (ptQ a) (ptQ b) (ptQ c) (ptQ d) := by unfold crs thQ whQ; grind
      have e3 : crs (ptQ c) (ptQ d) (ptQ a) = miQ (ptQ a) (ptQ b) (ptQ c) (ptQ d) := by unfold crs miQ; grind
      have e4 : crs (ptQ c) (ptQ d) (ptQ b) = miQ (ptQ a) (ptQ b) (ptQ c) (ptQ d) - whQ (ptQ a) (ptQ b) (ptQ c) (ptQ d) := by unfold crs miQ whQ; grind
      rw [e1] at v1
      rw [e2] at v2
      rw [e3] at v3
      rw [e4] at v4
      have out := fun hw => cross_out nab ncd (hw : whQ (ptQ a) (ptQ b) (ptQ c) (ptQ d) ≠ 0)
      have non := fun hw => cross_none nab ncd (hw : whQ (ptQ a) (ptQ b) (ptQ c) (ptQ d) = 0)
      have u1 := fun hw => div_unit (m := miQ (ptQ a) (ptQ b) (ptQ c) (ptQ d)) (hw : whQ (ptQ a) (ptQ b) (ptQ c) (ptQ d) ≠ 0)
      have u2 := fun hw => div_unit (m := thQ (ptQ a) (ptQ b) (ptQ c) (ptQ d)) (hw : whQ (ptQ a) (ptQ b) (ptQ c) (ptQ d) ≠ 0)
      split
      · rename_i hs
        intro P hP
        by_cases hw : whQ (ptQ a) (ptQ b) (ptQ c) (ptQ d) = 0
        · refine non hw (fun e => ?_) P hP
          rw [e] at v1
          rw [e, hw] at v2
          exact hn ⟨by grind, by grind⟩
        · refine out hw (fun ho => ?_) P hP
          have m1 := (u1 hw).mp ho.1
          have m2 := (u2 hw).mp ho.2
          clear non out u1 u2 ho
          rcases hs with hs | hs
          · rcases v1 with ⟨x1, y1⟩ | ⟨x1, y1⟩ | ⟨x1, y1⟩ <;> rcases v2 with ⟨x2, y2⟩ | ⟨x2, y2⟩ | ⟨x2, y2⟩ <;> rw [y1, y2] at hs <;> first | (exact absurd hs (by decide)) | grind
          · rcases v3 with ⟨x1, y1⟩ | ⟨x1, y1⟩ | ⟨x1, y1⟩ <;> rcases v4 with ⟨x2, y2⟩ | ⟨x2, y2⟩ | ⟨x2, y2⟩ <;> rw [y1, y2] at hs <;> first | (exact absurd hs (by decide)) | grind
      · rename_i hs
        have hw : whQ (ptQ a) (ptQ b) (ptQ c) (ptQ d) ≠ 0 := fun hw => by
          rw [hw] at v2
          rcases v1 with ⟨x1, y1⟩ | ⟨x1, y1⟩ | ⟨x1, y1⟩ <;> rcases v2 with ⟨x2, y2⟩ | ⟨x2, y2⟩ | ⟨x2, y2⟩ <;> rw [y1, y2] at hs hn <;> first | (exact hs (.inl (by decide))) | (exact hn ⟨rfl, rfl⟩) | grind
        have ho : (0 ≤ miQ (ptQ a) (ptQ b) (ptQ c) (ptQ d) / whQ (ptQ a) (ptQ b) (ptQ c) (ptQ d) ∧ miQ (ptQ a) (ptQ b) (ptQ c) (ptQ d) / whQ (ptQ a) (ptQ b) (ptQ c) (ptQ d) ≤ 1) ∧ (0 ≤ thQ (ptQ a) (ptQ b) (ptQ c) (ptQ d) / whQ (ptQ a) (ptQ b) (ptQ c) (ptQ d) ∧ thQ (ptQ a) (ptQ b) (ptQ c) (ptQ d) / whQ (ptQ a) (ptQ b) (ptQ c) (ptQ d) ≤ 1) := by
          rw [u1 hw, u2 hw]
          clear non out u1 u2
          refine ⟨?_, ?_⟩
          · rcases v3 with ⟨x1, y1⟩ | ⟨x1, y1⟩ | ⟨x1, y1⟩ <;> rcases v4 with ⟨x2, y2⟩ | ⟨x2, y2⟩ | ⟨x2, y2⟩ <;> rw [y1, y2] at hs <;> first | (exact absurd (.inr (by decide)) hs) | grind
          · rcases v1 with ⟨x1, y1⟩ | ⟨x1, y1⟩ | ⟨x1, y1⟩ <;> rcases v2 with ⟨x2, y2⟩ | ⟨x2, y2⟩ | ⟨x2, y2⟩ <;> rw [y1, y2] at hs <;> first | (exact absurd (.inl (by decide)) hs) | grind
        have z1 := ne_cast (a := a.2.2) (by omega)
        have z2 := ne_cast (a := b.2.2) (by omega)
        have z3 := ne_cast (a := c.2.2) (by omega)
        have z4 := ne_cast (a := d.2.2) (by omega)
        have ew : ((rowS (rowS a b) (rowS c d)).2.2 : Rat) = ((a.2.2 : Rat) * b.2.2 * c.2.2 * d.2.2) * whQ (ptQ a) (ptQ b) (ptQ c) (ptQ d) := by
          unfold rowS whQ ptQ
          simp only
          grind
        have ex : ((rowS (rowS a b) (rowS c d)).1 : Rat) = ((a.2.2 : Rat) * b.2.2 * c.2.2 * d.2.2) * ((ptQ a).1 * whQ (ptQ a) (ptQ b) (ptQ c) (ptQ d) + miQ (ptQ a) (ptQ b) (ptQ c) (ptQ d) * ((ptQ b).1 - (ptQ a).1)) := by
          unfold rowS whQ miQ ptQ
          simp only
          grind
        have ey : ((rowS (rowS a b) (rowS c d)).2.1 : Rat) = ((a.2.2 : Rat) * b.2.2 * c.2.2 * d.2.2) * ((ptQ a).2 * whQ (ptQ a) (ptQ b) (ptQ c) (ptQ d) + miQ (ptQ a) (ptQ b) (ptQ c) (ptQ d) * ((ptQ b).2 - (ptQ a).2)) := by
          unfold rowS whQ miQ ptQ
          simp only
          grind
        have hk : (a.2.2 : Rat) * b.2.2 * c.2.2 * d.2.2 ≠ 0 := by
          have := lt_mul (lt_mul (lt_mul (cast_pos pa) (cast_pos pb)) (cast_pos pc)) (cast_pos pd)
          grind
        have hw0 : (rowS (rowS a b) (rowS c d)).2.2 ≠ 0 := fun e => by
          rw [e] at ew
          grind
        have hsq := spotQ (x := (rowS (rowS a b) (rowS c d)).1) (y := (rowS (rowS a b) (rowS c d)).2.1) hw0
        refine ⟨(spotZ_of hw0).toIsSpot, fun P => cross_one nab ncd hw ho ?_ ?_ P⟩
        · show (ptQ (spotZ _ _ _)).1 * _ = _
          rw [hsq.1, ex, ew]
          generalize whQ (ptQ a) (ptQ b) (ptQ c) (ptQ d) = w at *
          generalize (a.2.2 : Rat) * b.2.2 * c.2.2 * d.2.2 = k at *
          grind
        · show (ptQ (spotZ _ _ _)).2 * _ = _
          rw [hsq.2, ey, ew]
          generalize whQ (ptQ a) (ptQ b) (ptQ c) (ptQ d) = w at *
          generalize (a.2.2 : Rat) * b.2.2 * c.2.2 * d.2.2 = k at *
          grind
/-! the law's own look: all told over one number -/
def bigW (a b c d : Spot) : Int := a.2.2 * b.2.2 * c.2.2 * d.2.2
def scl (w : Int) (p : Spot) : Int × Int := (p.1 * w.fdiv p.2.2, p.2.1 * w.fdiv p.2.2)
def acr (u v : Int × Int) : Int := u.1 * v.2 - u.2 * v.1
def sub2 (u v : Int × Int) : Int × Int := (u.1 - v.1, u.2 - v.2)
structure ShN (a b c d : Spot) (wh mi th : Int) : Prop where
  ew : (wh : Rat) = ((bigW a b c d : Rat) * bigW a b c d) * whQ (ptQ a) (ptQ b) (ptQ c) (ptQ d)
  em : (mi : Rat) = ((bigW a b c d : Rat) * bigW a b c d) * miQ (ptQ a) (ptQ b) (ptQ c) (ptQ d)
  et : (th : Rat) = ((bigW a b c d : Rat) * bigW a b c d) * thQ (ptQ a) (ptQ b) (ptQ c) (ptQ d)
theorem scl_q {w : Int} {p : Spot} (hp : 0 < p.2.2) (hd : p.2.2 ∣ w) : ((scl w p).1 : Rat) = w * (ptQ p).1 ∧ ((scl w p).2 : Rat) = w * (ptQ p).2 := by
  obtain ⟨c, rfl⟩ := hd
  have e : (p.2.2 * c).fdiv p.2.2 = c := by rw [Int.fdiv_eq_ediv_of_nonneg _ (by omega), Int.mul_ediv_cancel_left _ (by omega)]
  have h0 := ne_cast (a := p.2.2) (by omega)
  unfold scl ptQ
  rw [e]
  simp only
  constructor <;> grind
theorem bigW_dvd (a b c d : Spot) : a.2.2 ∣ bigW a b c d ∧ b.2.2 ∣ bigW a b c d ∧ c.2.2 ∣ bigW a b c d ∧ d.2.2 ∣ bigW a b c d := by
  unfold bigW
  refine ⟨⟨b.2.2 * c.2.2 * d.2.2, by grind⟩, ⟨a.2.2 * c.2.2 * d.2.2, by grind⟩, ⟨a.2.2 * b.2.2 * d.2.2, by grind⟩, ⟨a.2.2 * b.2.2 * c.2.2, by grind⟩⟩
theorem bigW_pos {a b c d : Spot} (ha : 0 < a.2.2) (hb : 0 < b.2.2) (hc : 0 < c.2.2) (hd : 0 < d.2.2) : 0 < bigW a b c d := Int.mul_pos (Int.mul_pos (Int.mul_pos ha hb) hc) hd
def sA (a b c d p : Spot) : Int × Int := scl (bigW a b c d) p
def whZ (a b c d : Spot) : Int := acr (sub2 (sA a b c d b) (sA a b c d a)) (sub2 (sA a b c d d) (sA a b c d c))
def miZ (a b c d : Spot) : Int := acr (sub2 (sA a b c d c) (sA a b c d a)) (sub2 (sA a b c d d) (sA a b c d c))
def thZ (a b c d : Spot) : Int := acr (sub2 (sA a b c d c) (sA a b c d a)) (sub2 (sA a b c d b) (sA a b c d a))
theorem sh_n {a b c d : Spot} (ha : 0 < a.2.2) (hb : 0 < b.2.2) (hc : 0 < c.2.2) (hd : 0 < d.2.2) : ShN a b c d (whZ a b c d) (miZ a b c d) (thZ a b c d) := by
  obtain ⟨d1, d2, d3, d4⟩ := bigW_dvd a b c d
  have q1 := scl_q ha d1
  have q2 := scl_q hb d2
  have q3 := scl_q hc d3
  have q4 := scl_q hd d4
  refine ⟨?_, ?_, ?_⟩
  · unfold whZ acr sub2 sA whQ
    simp only
    grind
  · unfold miZ acr sub2 sA miQ
    simp only
    grind
  · unfold thZ acr sub2 sA thQ
    simp only
    grind
/-- where they cross, by numbers either way about -/
def oneS (a b c d : Spot) (wh mi : Int) : Spot := spotZ ((sA a b c d a).1 * wh + (sub2 (sA a b c d b) (sA a b c d a)).1 * mi) ((sA a b c d a).2 * wh + (sub2 (sA a b c d b) (sA a b c d a)).2 * mi) (bigW a b c d * wh)
def midZ (a b c d : Spot) (wh mi th : Int) : Com := if wh = 0 ∨ ¬ (0 ≤ mi ∧ mi ≤ wh) ∨ ¬ (0 ≤ th ∧ th ≤ wh) then .no else .one (oneS a b c d wh mi)
def shZ (a b c d : Spot) : Com :=
  if whZ a b c d = 0 ∧ thZ a b c d = 0 then strZ a b c d
  else if whZ a b c d < 0 then midZ a b c d (- whZ a b c d) (- miZ a b c d) (- thZ a b c d)
  else midZ a b c d (whZ a b c d) (miZ a b c d) (thZ a b c d)
theorem mid_is {a b c d : Spot} (h1 : SideOk a b) (h2 : SideOk c d) {wh mi th : Int} {k : Rat} (hk : k ≠ 0) (ew : (wh : Rat) = k * whQ (ptQ a) (ptQ b) (ptQ c) (ptQ d)) (em : (mi : Rat) = k * miQ (ptQ a) (ptQ b) (ptQ c) (ptQ d)) (et : (th : Rat) = k * thQ (ptQ a) (ptQ b) (ptQ c) (ptQ d))
    (h0 : 0 ≤ wh) (hn : ¬ (wh = 0 ∧ th = 0)) : isCom (both a b c d) (midZ a b c d wh mi th) := by
  have nab : ptQ a ≠ ptQ b := fun e => h1.ne (pt_inj h1.ha h1.hb e)
  have ncd : ptQ c ≠ ptQ d := fun e => h2.ne (pt_inj h2.ha h2.hb e)
  have c0 : ((0 : Int) : Rat) = 0 := by grind
  have ew0 : wh = 0 ↔ whQ (ptQ a) (ptQ b) (ptQ c) (ptQ d) = 0 := by
    constructor
    · intro h; rw [h, c0] at ew; grind
    · intro h; rw [h] at ew; exact Rat.intCast_inj.mp (by rw [ew]; grind)
  have et0 : thQ (ptQ a) (ptQ b) (ptQ c) (ptQ d) = 0 → th = 0 := fun h => by
    rw [h] at et
    exact Rat.intCast_inj.mp (by rw [et]; grind)
  have rat : wh ≠ 0 → ((0 ≤ mi ∧ mi ≤ wh) ↔ (0 ≤ miQ (ptQ a) (ptQ b) (ptQ c) (ptQ d) / whQ (ptQ a) (ptQ b) (ptQ c) (ptQ d) ∧ miQ (ptQ a) (ptQ b) (ptQ c) (ptQ d) / whQ (ptQ a) (ptQ b) (ptQ c) (ptQ d) ≤ 1)) ∧
      ((0 ≤ th ∧ th ≤ wh) ↔ (0 ≤ thQ (ptQ a) (ptQ b) (ptQ c) (ptQ d) / whQ (ptQ a) (ptQ b) (ptQ c) (ptQ d) ∧ thQ (ptQ a) (ptQ b) (ptQ c) (ptQ d) / whQ (ptQ a) (ptQ b) (ptQ c) (ptQ d) ≤ 1)) := fun hw => by
    have hq : whQ (ptQ a) (ptQ b) (ptQ c) (ptQ d) ≠ 0 := fun e => hw (ew0.mpr e)
    have hwq : (wh : Rat) ≠ 0 := ne_cast hw
    have go : ∀ (x : Int) (q : Rat), (x : Rat) = k * q → ((0 ≤ x ∧ x ≤ wh) ↔ (0 ≤ q / whQ (ptQ a) (ptQ b) (ptQ c) (ptQ d) ∧ q / whQ (ptQ a) (ptQ b) (ptQ c) (ptQ d) ≤ 1)) := fun x q hx => by
      have e : q / whQ (ptQ a) (ptQ b) (ptQ c) (ptQ d) = (x : Rat) / wh := by rw [hx, ew]; grind
      rw [e, div_unit hwq]
      have hp := cast_pos (a := wh) (by omega)
      have l1 := cast_lt (a := x) (b := 0)
      have l2 := cast_lt (a := wh) (b := x)
      rw [c0] at l1
      constructor
      · rintro ⟨x1, x2⟩
        refine .inl ⟨hp, ?_, ?_⟩
        · have : ¬ (x : Rat) < 0 := fun y => by have := l1.mp y; omega
          grind
        · have : ¬ (wh : Rat) < x := fun y => by have := l2.mp y; omega
          grind
      · rintro (⟨_, x1, x2⟩ | ⟨x1, _⟩)
        · refine ⟨?_, ?_⟩
          · have : ¬ x < 0 := fun y => by have := l1.mpr y; grind
            omega
          · have : ¬ wh < x := fun y => by have := l2.mpr y; grind
            omega
        · grind
    exact ⟨go _ _ em, go _ _ et⟩
  unfold midZ
  split
  · rename_i h
    by_cases hw : wh = 0
    · exact cross_none nab ncd (ew0.mp hw) fun e => hn ⟨hw, et0 e⟩
    · refine cross_out nab ncd (fun e => hw (ew0.mpr e)) fun ho => ?_
      obtain ⟨r1, r2⟩ := rat hw
      rcases h with h | h | h
      · exact hw h
      · exact h (r1.mpr ho.1)
      · exact h (r2.mpr ho.2)
  · rename_i h
    have hw : wh ≠ 0 := fun e => h (.inl e)
    obtain ⟨r1, r2⟩ := rat hw
    have m1 : 0 ≤ mi ∧ mi ≤ wh := Classical.byContradiction fun e => h (.inr (.inl e))
    have m2 : 0 ≤ th ∧ th ≤ wh := Classical.byContradiction fun e => h (.inr (.inr e))
    have hW := bigW_pos h1.ha.pos h1.hb.pos h2.ha.pos h2.hb.pos
    have hww : bigW a b c d * wh ≠ 0 := Int.mul_ne_zero (by omega) hw
    obtain ⟨d1, d2, d3, d4⟩ := bigW_dvd a b c d
    have q1 := scl_q h1.ha.pos d1
    have q2 := scl_q h1.hb.pos d2
    have hsq := spotQ (x := (sA a b c d a).1 * wh + (sub2 (sA a b c d b) (sA a b c d a)).1 * mi) (y := (sA a b c d a).2 * wh + (sub2 (sA a b c d b) (sA a b c d a)).2 * mi) hww
    have hWq : (bigW a b c d : Rat) ≠ 0 := ne_cast (by omega)
    have hwq : (wh : Rat) ≠ 0 := ne_cast hw
    have e3 : ((bigW a b c d * wh : Int) : Rat) = (bigW a b c d : Rat) * wh := by grind
    refine ⟨(spotZ_of hww).toIsSpot, fun P => cross_one nab ncd (fun e => hw (ew0.mpr e)) ⟨r1.mp m1, r2.mp m2⟩ ?_ ?_ P⟩
    · show (ptQ (spotZ _ _ _)).1 * _ = _
      have e1 : (((sA a b c d a).1 * wh + (sub2 (sA a b c d b) (sA a b c d a)).1 * mi : Int) : Rat) = bigW a b c d * ((ptQ a).1 * wh + mi * ((ptQ b).1 - (ptQ a).1)) := by
        unfold sA sub2
        simp only
        grind
      rw [hsq.1, e1, e3, ew, em]
      rw [ew] at hwq
      generalize whQ (ptQ a) (ptQ b) (ptQ c) (ptQ d) = w at *
      generalize miQ (ptQ a) (ptQ b) (ptQ c) (ptQ d) = m at *
      generalize (bigW a b c d : Rat) = W at *
      clear rat ew0 et0 hsq e1 e3 q1 q2 ew em et
      grind
    · show (ptQ (spotZ _ _ _)).2 * _ = _
      have e1 : (((sA a b c d a).2 * wh + (sub2 (sA a b c d b) (sA a b c d a)).2 * mi : Int) : Rat) = bigW a b c d * ((ptQ a).2 * wh + mi * ((ptQ b).2 - (ptQ a).2)) := by
        unfold sA sub2
        simp only
        grind
      rw [hsq.2, e1, e3, ew, em]
      rw [ew] at hwq
      generalize whQ (ptQ a) (ptQ b) (ptQ c) (ptQ d) = w at *
      generalize miQ (ptQ a) (ptQ b) (ptQ c) (ptQ d) = m at *
      generalize (bigW a b c d : Rat) = W at *
      clear rat ew0 et0 hsq e1 e3 q1 q2 ew em et
      grind
theorem shZ_is {a b c d : Spot} (h1 : SideOk a b) (h2 : SideOk c d) : isCom (both a b c d) (shZ a b c d) := by
  have n := sh_n h1.ha.pos h1.hb.pos h2.ha.pos h2.hb.pos
  have hW := cast_pos (bigW_pos h1.ha.pos h1.hb.pos h2.ha.pos h2.hb.pos)
  have hk := lt_mul hW hW
  have c0 : ((0 : Int) : Rat) = 0 := by grind
  unfold shZ
  split
  · rename_i h
    have e1 := n.ew
    have e2 := n.et
    rw [h.1, c0] at e1
    rw [h.2, c0] at e2
    have w0 : whQ (ptQ a) (ptQ b) (ptQ c) (ptQ d) = 0 := (pos_scale hk).2.2.mp e1.symm
    have t0 : thQ (ptQ a) (ptQ b) (ptQ c) (ptQ d) = 0 := (pos_scale hk).2.2.mp e2.symm
    refine strZ_is h1 h2 ?_ ?_
    · have : crs (ptQ a) (ptQ b) (ptQ c) = - thQ (ptQ a) (ptQ b) (ptQ c) (ptQ d) := by unfold crs thQ; grind
      rw [this, t0]; grind
    · have : crs (ptQ a) (ptQ b) (ptQ d) = whQ (ptQ a) (ptQ b) (ptQ c) (ptQ d) - thQ (ptQ a) (ptQ b) (ptQ c) (ptQ d) := by unfold crs thQ whQ; grind
      rw [this, t0, w0]; grind
  · rename_i h
    have e1 := n.ew
    have e2 := n.em
    have e3 := n.et
    split
    · rename_i hlt
      refine mid_is h1 h2 (k := -((bigW a b c d : Rat) * bigW a b c d)) (by grind) ?_ ?_ ?_ (by omega) (by omega)
      · grind
      · grind
      · grind
    · rename_i hlt
      exact mid_is h1 h2 (k := (bigW a b c d : Rat) * bigW a b c d) (by grind) e1 e2 e3 (by omega) (by omega)
theorem sh_com {a b c d : Spot} (h1 : SideOk a b) (h2 : SideOk c d) : comZ a b c d = shZ a b c d := com_uniq (comZ_is h1 h2) (shZ_is h1 h2)
theorem com_swap {a b c d : Spot} (h1 : SideOk a b) (h2 : SideOk c d) : comZ c d a b = comZ a b c d := com_uniq (comZ_is h2 h1) (com_imp (comZ_is h1 h2) fun P => And.comm)
theorem com_back {a b c d : Spot} (h1 : SideOk a b) (h2 : SideOk c d) : comZ b a c d = comZ a b c d := com_uniq (comZ_is h1.swap h2) (com_imp (comZ_is h1 h2) fun P => and_congr seg_swap Iff.rfl)
/-- a comprehension over spots -/
def unS : D → Spot
  | .tup [.int x, .int y, .int w] => (x, y, w)
  | _ => d0
theorem unS_sd (p : Spot) : unS (sd p) = p := rfl
theorem Ok_lcS {vs : List Nat} {t : Tg} {c : Et} {f : Ex} {env : List Sl} {P : R × List Sl → Prop} (F : Spot → Spot) {L : List Spot} (hl : L.length ≤ 100000) (h : ∀ p ∈ L, Ok (t (.val (sd p)) (wipeE env vs)) (LcT c f env vs (some (sd (F p))))) (hp : P (.own (.lst (sds (L.map F))), env)) : Ok (lcGo vs t c f (sds L) env []) P := by
  refine Ok_lcmap (fun d => sd (F (unS d))) (by rw [sds_len]; exact hl) (fun d hd => ?_) ?_
  · obtain ⟨p, hp, rfl⟩ := List.mem_map.mp hd
    rw [unS_sd]
    exact h p hp
  · have e : (sds L).map (fun d => sd (F (unS d))) = sds (L.map F) := by
      unfold sds
      rw [List.map_map, List.map_map]
      rfl
    rw [e]
    exact hp
theorem ne_sd {p q : Spot} : o_ne (sd p) (sd q) = some (.val (.bl (!decide (p = q)))) := ne_pl rfl rfl (show 1 ≤ 64 by decide) (show 1 ≤ 64 by decide) sd_inj
theorem eq_sd {p q : Spot} : o_eq (sd p) (sd q) = some (.val (.bl (decide (p = q)))) := eq_pl (sd_pl p) (sd_pl q) (show 1 ≤ 64 by decide) (show 1 ≤ 64 by decide) sd_inj
/-! comprehensions over rows of things -/
theorem lc_eqX {α : Type} {vs : List Nat} {t : Tg} {c : Et} {f : Ex} {env : List Sl} (em : α → D) (F : α → Option D) : ∀ (xs : List α) (acc : List D), (∀ x ∈ xs, Ok (t (.val (em x)) (wipeE env vs)) (LcT c f env vs (F x))) → acc.length + xs.length ≤ 100000 →
    lcGo vs t c f (xs.map em) env acc = some (.own (.lst (acc ++ xs.filterMap F)), env)
  | [], acc, _, _ => by simp [lcGo]
  | x :: xs, acc, h, hl => by
    obtain ⟨e1, h1, ⟨b, e2⟩, h2, h3⟩ := h x List.mem_cons_self
    have hl' : acc.length + (xs.length + 1) ≤ 100000 := hl
    show (t (.val (em x)) (wipeE env vs)).bind _ = _
    rw [h1, Option.bind_some, h2, Option.bind_some]
    cases b with
    | true =>
      obtain ⟨⟨y, e3⟩, h4, h5, h6, h7⟩ : Ok (vf f e2) (LcF env vs (F x)) := h3
      simp only at h5 h6 h7
      simp only [if_true]
      rw [h4, Option.bind_some]
      simp only
      rw [if_pos ⟨h6, by omega⟩, h7, lc_eqX em F xs _ (fun d' hd => h d' (List.mem_cons_of_mem _ hd)) (by rw [List.length_append, List.length_singleton]; omega), List.filterMap_cons, h5]
      simp
    | false =>
      obtain ⟨h5, h6, h7⟩ : F x = none ∧ e2.length = env.length ∧ rest env e2 vs = env := h3
      simp only [Bool.false_eq_true, if_false]
      rw [if_pos h6, h7, lc_eqX em F xs _ (fun d' hd => h d' (List.mem_cons_of_mem _ hd)) (by omega), List.filterMap_cons, h5]
theorem Ok_lcX {α : Type} {vs : List Nat} {t : Tg} {c : Et} {f : Ex} {env : List Sl} {P : R × List Sl → Prop} {xs : List α} (em : α → D) (F : α → Option D) (hl : xs.length ≤ 100000) (h : ∀ x ∈ xs, Ok (t (.val (em x)) (wipeE env vs)) (LcT c f env vs (F x))) (hp : P (.own (.lst (xs.filterMap F)), env)) :
    Ok (lcGo vs t c f (xs.map em) env []) P := by
  rw [lc_eqX em F xs [] h (by simpa using hl), Ok_some, List.nil_append]
  exact hp
theorem Ok_lcM {α : Type} {vs : List Nat} {t : Tg} {c : Et} {f : Ex} {env : List Sl} {P : R × List Sl → Prop} {xs : List α} (em : α → D) (F : α → D) (hl : xs.length ≤ 100000) (h : ∀ x ∈ xs, Ok (t (.val (em x)) (wipeE env vs)) (LcT c f env vs (some (F x)))) (hp : P (.own (.lst (xs.map F)), env)) :
    Ok (lcGo vs t c f (xs.map em) env []) P := by
  refine Ok_lcX em (fun x => some (F x)) hl h ?_
  rw [List.filterMap_eq_map']
  exact hp
theorem fm_filter {α β : Type} (p : α → Bool) (f : α → β) : ∀ xs : List α, (xs.filterMap fun x => if p x = true then some (f x) else none) = (xs.filter p).map f
  | [] => rfl
  | x :: xs => by
    rw [List.filterMap_cons, List.filter_cons]
    by_cases h : p x = true
    · rw [if_pos h, if_pos h, List.map_cons, fm_filter p f xs]
    · rw [if_neg h, if_neg h, fm_filter p f xs]
theorem Ok_lcP {α : Type} {vs : List Nat} {t : Tg} {c : Et} {f : Ex} {env : List Sl} {P : R × List Sl → Prop} {xs : List α} (em : α → D) (p : α → Bool) (F : α → D) (hl : xs.length ≤ 100000) (h : ∀ x ∈ xs, Ok (t (.val (em x)) (wipeE env vs)) (LcT c f env vs (if p x = true then some (F x) else none))) (hp : P (.own (.lst ((xs.filter p).map F)), env)) :
    Ok (lcGo vs t c f (xs.map em) env []) P := by
  refine Ok_lcX em (fun x => if p x = true then some (F x) else none) hl h ?_
  rw [fm_filter]
  exact hp
theorem rng_map {lo : Int} {n : Nat} : rngL lo n = (List.range n).map fun (k : Nat) => D.int (lo + (k : Int)) := rfl
theorem bls_map {α : Type} {f : α → Bool} : ∀ xs : List α, bls (xs.map fun x => D.bl (f x)) = some (xs.map f)
  | [] => rfl
  | x :: xs => by
    show (bls (xs.map fun x => D.bl (f x))).bind _ = _
    rw [bls_map xs]
    rfl
theorem any_map {α : Type} {f : α → Bool} {xs : List α} : o_any (.lst (xs.map fun x => D.bl (f x))) = some (.val (.bl (xs.any f))) := by
  unfold o_any
  simp only
  rw [bls_map, Option.bind_some, List.any_map]
  rfl
theorem all_map {α : Type} {f : α → Bool} {xs : List α} : o_all (.lst (xs.map fun x => D.bl (f x))) = some (.val (.bl (xs.all f))) := by
  unfold o_all
  simp only
  rw [bls_map, Option.bind_some, List.all_map]
  rfl
theorem notin_sds {p : Spot} {S : List Spot} : o_inX true (sd p) (.tup (sds S)) = some (.val (.bl (!decide (p ∈ S)))) :=
  notin_pl its_tup (sd_pl p) (pls_map fun q _ => sd_pl q) (by rw [sd_dep]; decide) (Nat.lt_of_le_of_lt (deps_map (n := 1) fun q _ => Nat.le_of_eq (sd_dep q)) (by decide)) mem_sds
/-! loops in order, spot by spot -/
def lexB : List Spot → List Spot → Bool
  | p :: ps, q :: qs => if p = q then lexB ps qs else aheadB p q
  | _, _ => false
theorem ahead_irr (p : Spot) : aheadB p p = false := by
  unfold aheadB
  rw [if_neg (by simp)]
  exact decide_eq_false (Int.lt_irrefl _)
theorem ahead_tr {p q r : Spot} (hp : IsSpot p) (hq : IsSpot q) (hr : IsSpot r) (h1 : aheadB p q = true) (h2 : aheadB q r = true) : aheadB p r = true := by
  rw [ahead_lt hp.pos hq.pos] at h1
  rw [ahead_lt hq.pos hr.pos] at h2
  rw [ahead_lt hp.pos hr.pos]
  unfold ltL at *
  grind
theorem ahead_tot {p q : Spot} (hp : IsSpot p) (hq : IsSpot q) (hn : p ≠ q) : aheadB p q = !aheadB q p := by
  have k1 := ahead_lt hp.pos hq.pos
  have k2 := ahead_lt hq.pos hp.pos
  have hne : ptQ p ≠ ptQ q := fun e => hn (pt_inj hp hq e)
  have a : ltL (ptQ p) (ptQ q) ∨ ltL (ptQ q) (ptQ p) := by
    rcases leL_total (ptQ p) (ptQ q) with h | h
    · exact .inl (ltL_of h hne)
    · exact .inr (ltL_of h hne.symm)
  have b : ¬ (ltL (ptQ p) (ptQ q) ∧ ltL (ptQ q) (ptQ p)) := fun h => not_leL.mpr h.1 (ltL_le h.2)
  rw [← k1, ← k2] at a b
  cases x : aheadB p q <;> cases y : aheadB q p <;> simp_all
def AllIs (L : List Spot) : Prop := ∀ p ∈ L, IsSpot p
theorem lex_irr : ∀ L : List Spot, lexB L L = false
  | [] => rfl
  | p :: L => by rw [lexB, if_pos rfl, lex_irr L]
theorem lex_tr : ∀ {L M N : List Spot}, AllIs L → AllIs M → AllIs N → lexB L M = true → lexB M N = true → lexB L N = true
  | [], _, _, _, _, _, h, _ => by simp [lexB] at h
  | _ :: _, [], _, _, _, _, h, _ => by simp [lexB] at h
  | _ :: _, _ :: _, [], _, _, _, _, h => by simp [lexB] at h
  | p :: L, q :: M, r :: N, hL, hM, hN, h1, h2 => by
    have ip := hL p (List.mem_cons_self ..)
    have iq := hM q (List.mem_cons_self ..)
    have ir := hN r (List.mem_cons_self ..)
    rw [lexB] at h1 h2 ⊢
    by_cases e1 : p = q
    · rw [if_pos e1] at h1
      subst e1
      by_cases e2 : p = r
      · rw [if_pos e2] at h2 ⊢
        exact lex_tr (fun x hx => hL x (List.mem_cons_of_mem _ hx)) (fun x hx => hM x (List.mem_cons_of_mem _ hx)) (fun x hx => hN x (List.mem_cons_of_mem _ hx)) h1 h2
      · rw [if_neg e2] at h2 ⊢
        exact h2
    · rw [if_neg e1] at h1
      by_cases e2 : q = r
      · subst e2
        rw [if_neg e1]
        exact h1
      · rw [if_neg e2] at h2
        have h3 := ahead_tr ip iq ir h1 h2
        have e3 : p ≠ r := fun e => by subst e; rw [ahead_irr] at h3; cases h3
        rw [if_neg e3]
        exact h3
theorem lex_tot : ∀ {L M : List Spot}, AllIs L → AllIs M → L.length = M.length → lexB L M = false → lexB M L = false → L = M
  | [], [], _, _, _, _, _ => rfl
  | [], _ :: _, _, _, h, _, _ => by simp at h
  | _ :: _, [], _, _, h, _, _ => by simp at h
  | p :: L, q :: M, hL, hM, hl, h1, h2 => by
    rw [lexB] at h1 h2
    by_cases e : p = q
    · subst e
      rw [if_pos rfl] at h1 h2
      rw [lex_tot (fun x hx => hL x (List.mem_cons_of_mem _ hx)) (fun x hx => hM x (List.mem_cons_of_mem _ hx)) (by simpa using hl) h1 h2]
    · rw [if_neg e] at h1
      rw [if_neg fun k => e k.symm] at h2
      have := ahead_tot (hL p (List.mem_cons_self ..)) (hM q (List.mem_cons_self ..)) e
      rw [h1, h2] at this
      cases this
theorem lex_asym {L M : List Spot} (hL : AllIs L) (hM : AllIs M) (h : lexB L M = true) : lexB M L = false := by
  cases k : lexB M L
  · rfl
  · have := lex_tr hL hM hL h k
    rw [lex_irr] at this
    cases this
def rotS (L : List Spot) (k : Nat) : List Spot := L.drop k ++ L.take k
theorem rot_len {L : List Spot} {k : Nat} : (rotS L k).length = L.length := by
  unfold rotS
  rw [List.length_append, List.length_drop, List.length_take]
  omega
theorem rot_mem {L : List Spot} {k : Nat} {p : Spot} : p ∈ rotS L k → p ∈ L := fun h => (List.mem_append.mp h).elim List.mem_of_mem_drop List.mem_of_mem_take
theorem rot_0 (L : List Spot) : rotS L 0 = L := by unfold rotS; simp
theorem rot_all (L : List Spot) : rotS L L.length = L := by unfold rotS; simp
theorem rot_rot {L : List Spot} {j k : Nat} (h : j + k ≤ L.length) : rotS (rotS L j) k = rotS L (j + k) := by
  unfold rotS
  have e1 : (L.drop j ++ L.take j).drop k = L.drop (j + k) ++ L.take j := by
    rw [List.drop_append_of_le_length (by rw [List.length_drop]; omega), List.drop_drop]
  have e2 : (L.drop j ++ L.take j).take k = (L.drop j).take k := by
    rw [List.take_append_of_le_length (by rw [List.length_drop]; omega)]
  rw [e1, e2, List.append_assoc]
  congr 1
  rw [List.take_add]
/-- every turn of a turn is a turn -/
theorem rot_of {L : List Spot} {j k : Nat} (hj : j < L.length) (hk : k < L.length) : ∃ i, i < L.length ∧ rotS (rotS L j) k = rotS L i := by
  by_cases h : j + k < L.length
  · exact ⟨j + k, h, rot_rot (by omega)⟩
  · refine ⟨j + k - L.length, by omega, ?_⟩
    have e1 : rotS (rotS L j) (L.length - j) = L := by rw [rot_rot (by omega), show j + (L.length - j) = L.length by omega, rot_all]
    have e2 : rotS (rotS (rotS L j) (L.length - j)) (j + k - L.length) = rotS (rotS L j) k := by
      rw [rot_rot (by rw [rot_len]; omega), show L.length - j + (j + k - L.length) = k by omega]
    rw [← e2, e1]
theorem rot_back {L : List Spot} {j i : Nat} (hj : j < L.length) (hi : i < L.length) : ∃ k, k < L.length ∧ rotS L i = rotS (rotS L j) k := by
  by_cases h : j ≤ i
  · exact ⟨i - j, by omega, by rw [rot_rot (by omega), show j + (i - j) = i by omega]⟩
  · refine ⟨L.length - j + i, by omega, ?_⟩
    have e1 : rotS (rotS L j) (L.length - j) = L := by rw [rot_rot (by omega), show j + (L.length - j) = L.length by omega, rot_all]
    have e2 : rotS (rotS (rotS L j) (L.length - j)) i = rotS (rotS L j) (L.length - j + i) := rot_rot (by rw [rot_len]; omega)
    rw [← e2, e1]
def bestR (L : List Spot) : Nat → List Spot
  | 0 => L
  | n + 1 => if lexB (rotS L (n + 1)) (bestR L n) = true then rotS L (n + 1) else bestR L n
def turnS (L : List Spot) : List Spot := bestR L (L.length - 1)
theorem AllIs.rot {L : List Spot} (h : AllIs L) (k : Nat) : AllIs (rotS L k) := fun p hp => h p (rot_mem hp)
theorem best_rot (L : List Spot) : ∀ n, ∃ k, k ≤ n ∧ bestR L n = rotS L k
  | 0 => ⟨0, Nat.le_refl _, (rot_0 L).symm⟩
  | n + 1 => by
    obtain ⟨k, hk, e⟩ := best_rot L n
    unfold bestR
    split
    · exact ⟨n + 1, Nat.le_refl _, rfl⟩
    · exact ⟨k, by omega, e⟩
theorem best_min {L : List Spot} (h : AllIs L) : ∀ n k, k ≤ n → lexB (rotS L k) (bestR L n) = false
  | 0, k, hk => by
    have : k = 0 := by omega
    subst this
    rw [rot_0]
    exact lex_irr L
  | n + 1, k, hk => by
    obtain ⟨j, hj, ej⟩ := best_rot L n
    have ib : AllIs (bestR L n) := by rw [ej]; exact h.rot j
    have i := best_min h n
    unfold bestR
    by_cases hb : lexB (rotS L (n + 1)) (bestR L n) = true
    · rw [if_pos hb]
      by_cases e : k = n + 1
      · rw [e]; exact lex_irr _
      · cases x : lexB (rotS L k) (rotS L (n + 1))
        · rfl
        · have := lex_tr (h.rot k) (h.rot (n + 1)) ib x hb
          rw [i k (by omega)] at this
          cases this
    · rw [if_neg hb]
      by_cases e : k = n + 1
      · rw [e]; simpa using hb
      · exact i k (by omega)
theorem turn_rotS {L : List Spot} (hL : L ≠ []) : ∃ k, k < L.length ∧ turnS L = rotS L k := by
  have := List.length_pos_iff.mpr hL
  obtain ⟨k, hk, e⟩ := best_rot L (L.length - 1)
  exact ⟨k, by omega, e⟩
theorem turn_min {L : List Spot} (h : AllIs L) {k : Nat} (hk : k < L.length) : lexB (rotS L k) (turnS L) = false := best_min h _ k (by omega)
/-- the same one from each spot on -/
theorem turn_same {L : List Spot} (h : AllIs L) {j : Nat} (hj : j < L.length) : turnS (rotS L j) = turnS L := by
  have hL : L ≠ [] := List.length_pos_iff.mp (by omega)
  have hR : rotS L j ≠ [] := List.length_pos_iff.mp (by rw [rot_len]; omega)
  obtain ⟨a, ha, ea⟩ := turn_rotS hL
  obtain ⟨b, hb, eb⟩ := turn_rotS hR
  rw [rot_len] at hb
  obtain ⟨c, hc, ec⟩ := rot_of hj hb
  obtain ⟨d, hd, ed⟩ := rot_back hj ha
  have m1 := turn_min h hc
  have m2 := turn_min (h.rot j) (k := d) (by rw [rot_len]; exact hd)
  rw [← ec, ← eb] at m1
  rw [← ed, ← ea] at m2
  refine lex_tot ?_ ?_ ?_ m1 m2
  · rw [eb]; exact (h.rot j).rot b
  · rw [ea]; exact h.rot a
  · rw [eb, ea, rot_len, rot_len, rot_len]
theorem m_turn_eq {a b c : Spot} (h1 : SB 9000 a) (h2 : SB 9000 b) (h3 : SB 9000 c) : m_turn [.val (sd a), .val (sd b), .val (sd c)] = some (.val (.int (turnZ a b c)), [.val (sd a), .val (sd b), .val (sd c)]) := by
  apply Ok.eq
  refine Ok_fn rfl rfl ?_
  obtain ⟨_, a1, a2, a3⟩ := h1
  obtain ⟨_, b1, b2, b3⟩ := h2
  obtain ⟨_, c1, c2, c3⟩ := h3
  unfold c_turn
  walk_at "ev"
  repeat' apply And.intro
  all_goals first | walk_at "sz" | rfl
theorem m_ahead_eq {p q : Spot} (h1 : SB 9000 p) (h2 : SB 9000 q) : m_ahead [.val (sd p), .val (sd q)] = some (.val (.bl (aheadB p q)), [.val (sd p), .val (sd q)]) := by
  apply Ok.eq
  refine Ok_fn rfl rfl ?_
  obtain ⟨_, a1, a2, a3⟩ := h1
  obtain ⟨_, b1, b2, b3⟩ := h2
  unfold c_ahead c_ahead_t5 aheadB
  walk_at "ev"
  refine ⟨by walk_at "sz", by walk_at "sz", ?_⟩
  split
  · rfl
  · exact ⟨by walk_at "sz", by walk_at "sz", rfl⟩
theorem m_ends_eq {a b : Spot} (h1 : SB 9000 a) (h2 : SB 9000 b) : m_ends [.val (sdd a b)] = some (.val (sdd (lowS a b) (highS a b)), [.val (sdd a b)]) := by
  apply Ok.eq
  refine Ok_fn rfl rfl ?_
  unfold c_ends c_ends_t3 lowS highS
  walk_at "ev"
  rw [m_ahead_eq h2 h1]
  walk_at "ev"
  split
  · rfl
  · rfl
abbrev sSpot : D := .str (PySem.Str.ofString "spot")
abbrev sStr : D := .str (PySem.Str.ofString "stretch")
def comD : Com → D
  | .no => .non
  | .one p => .tup [sSpot, sd p]
  | .two p q => .tup [sStr, sd p, sd q]
theorem m_apartX {a b c d : Spot} (h1 : SB 4000 a) (h2 : SB 4000 b) (h3 : SB 4000 c) (h4 : SB 4000 d) : m_apart [.val (sdd a b), .val (sdd c d), .val (.int 0)] = some (.val (.bl (apartF coX a b c d)), [.val (sdd a b), .val (sdd c d), .val (.int 0)]) := by
  apply Ok.eq
  refine Ok_fn rfl rfl ?_
  obtain ⟨_, a1, a2, a3⟩ := h1
  obtain ⟨_, b1, b2, b3⟩ := h2
  obtain ⟨_, c1, c2, c3⟩ := h3
  obtain ⟨_, d1, d2, d3⟩ := h4
  unfold c_apart apartF lowF highF coX
  walk_at "ev"
  refine ⟨by walk_at "sz", by walk_at "sz", ?_⟩
  by_cases k1 : a.1 * b.2.2 < b.1 * a.2.2 <;> by_cases k2 : c.1 * d.2.2 < d.1 * c.2.2 <;> simp only [k1, k2, if_true, if_false] <;> walk_at "ev" <;> walk_at "szs"
theorem m_apartY {a b c d : Spot} (h1 : SB 4000 a) (h2 : SB 4000 b) (h3 : SB 4000 c) (h4 : SB 4000 d) : m_apart [.val (sdd a b), .val (sdd c d), .val (.int 1)] = some (.val (.bl (apartF coY a b c d)), [.val (sdd a b), .val (sdd c d), .val (.int 1)]) := by
  apply Ok.eq
  refine Ok_fn rfl rfl ?_
  obtain ⟨_, a1, a2, a3⟩ := h1
  obtain ⟨_, b1, b2, b3⟩ := h2
  obtain ⟨_, c1, c2, c3⟩ := h3
  obtain ⟨_, d1, d2, d3⟩ := h4
  unfold c_apart apartF lowF highF coY
  walk_at "ev"
  refine ⟨by walk_at "sz", by walk_at "sz", ?_⟩
  by_cases k1 : a.2.1 * b.2.2 < b.2.1 * a.2.2 <;> by_cases k2 : c.2.1 * d.2.2 < d.2.1 * c.2.2 <;> simp only [k1, k2, if_true, if_false] <;> walk_at "ev" <;> walk_at "szs"
theorem m_stretch_eq {a b c d : Spot} (h1 : SB 4000 a) (h2 : SB 4000 b) (h3 : SB 4000 c) (h4 : SB 4000 d) : m_stretch [.val (sdd a b), .val (sdd c d)] = some (.val (comD (strZ a b c d)), [.val (sdd a b), .val (sdd c d)]) := by
  apply Ok.eq
  refine Ok_fn rfl rfl ?_
  have l1 := (low_sb h1 h2).le (show 4000 ≤ 9000 by decide)
  have g1 := (high_sb h1 h2).le (show 4000 ≤ 9000 by decide)
  have l2 := (low_sb h3 h4).le (show 4000 ≤ 9000 by decide)
  have g2 := (high_sb h3 h4).le (show 4000 ≤ 9000 by decide)
  have m1 := m_ends_eq (h1.le (show 4000 ≤ 9000 by decide)) (h2.le (show 4000 ≤ 9000 by decide))
  have m2 := m_ends_eq (h3.le (show 4000 ≤ 9000 by decide)) (h4.le (show 4000 ≤ 9000 by decide))
  unfold c_stretch strZ
  walk_at "ev"
  rw [m1]
  walk_at "ev"
  rw [m2]
  walk_at "ev"
  generalize lowS a b = u at *
  generalize highS a b = v at *
  generalize lowS c d = x at *
  generalize highS c d = y at *
  rw [m_ahead_eq l1 l2]
  walk_at "ev"
  have tail : ∀ l, SB 9000 l → Ok (c_stretch_t5 [.val (sdd a b), .val (sdd c d), .val (sd l), .val (sd v), .val (sd x), .val (sd y)]) (Th (kfn [.val (sdd a b), .val (sdd c d)]) fun z => z = (.val (comD (if aheadB (if aheadB y v = true then y else v) l = true then .no else if l = (if aheadB y v = true then y else v) then .one l else .two l (if aheadB y v = true then y else v))), [.val (sdd a b), .val (sdd c d)])) := by
    intro l hl
    unfold c_stretch_t5
    walk_at "ev"
    rw [m_ahead_eq g2 g1]
    walk_at "ev"
    have tail2 : ∀ h, SB 9000 h → Ok (c_stretch_t7 [.val (sdd a b), .val (sdd c d), .val (sd l), .val (sd h), .val (sd x), .val (sd y)]) (Th (kfn [.val (sdd a b), .val (sdd c d)]) fun z => z = (.val (comD (if aheadB h l = true then .no else if l = h then .one l else .two l h)), [.val (sdd a b), .val (sdd c d)])) := by
      intro h hh
      unfold c_stretch_t7 c_stretch_t9 c_stretch_t11
      walk_at "ev"
      rw [m_ahead_eq hh hl]
      walk_at "ev"
      by_cases k : aheadB h l = true
      · rw [if_pos k, if_pos k]
        rfl
      · rw [if_neg k, if_neg k]
        rw [eq_sd]
        walk_at "ev"
        by_cases e : l = h
        · rw [if_pos e, if_pos e]
          rfl
        · rw [if_neg e, if_neg e]
          rfl
    by_cases k : aheadB y v = true
    · rw [if_pos k, if_pos k]
      exact tail2 y g2
    · rw [if_neg k, if_neg k]
      exact tail2 v g1
  by_cases k : aheadB u x = true
  · rw [if_pos k, if_pos k]
    exact tail x l2
  · rw [if_neg k, if_neg k]
    exact tail u l1
theorem m_row_eq {a b : Spot} (ha : Bd 9000 a.1 ∧ Bd 9000 a.2.1 ∧ Bd 9000 a.2.2) (hb : Bd 9000 b.1 ∧ Bd 9000 b.2.1 ∧ Bd 9000 b.2.2) : m_row_of [.val (sd a), .val (sd b)] = some (.val (sd (rowS a b)), [.val (sd a), .val (sd b)]) := by
  apply Ok.eq
  refine Ok_fn rfl rfl ?_
  obtain ⟨a1, a2, a3⟩ := ha
  obtain ⟨b1, b2, b3⟩ := hb
  unfold c_row_of rowS
  walk_at "ev"
  walk_at "szs"
theorem row_bd {n m : Nat} {a b : Spot} (ha : Bd n a.1 ∧ Bd n a.2.1 ∧ Bd n a.2.2) (hb : Bd m b.1 ∧ Bd m b.2.1 ∧ Bd m b.2.2) : Bd (n + m + 1) (rowS a b).1 ∧ Bd (n + m + 1) (rowS a b).2.1 ∧ Bd (n + m + 1) (rowS a b).2.2 := by
  obtain ⟨a1, a2, a3⟩ := ha
  obtain ⟨b1, b2, b3⟩ := hb
  unfold rowS
  refine ⟨?_, ?_, ?_⟩ <;> (apply Bd.le; (· walk_at "bd1"); omega)
theorem m_crossing_eq {a b c d : Spot} {n : Nat} (hn : n ≤ 2000) (h1 : SB n a) (h2 : SB n b) (h3 : SB n c) (h4 : SB n d) (hw : (rowS (rowS a b) (rowS c d)).2.2 ≠ 0) : m_crossing [.val (sdd a b), .val (sdd c d)] = some (.val (sd (crossS a b c d)), [.val (sdd a b), .val (sdd c d)]) ∧ SB (4 * n + 4) (crossS a b c d) := by
  have k1 := h1.le (show n ≤ 9000 by omega)
  have k2 := h2.le (show n ≤ 9000 by omega)
  have k3 := h3.le (show n ≤ 9000 by omega)
  have k4 := h4.le (show n ≤ 9000 by omega)
  have r1 := row_bd (n := n) (m := n) ⟨h1.b1, h1.b2, h1.b3⟩ ⟨h2.b1, h2.b2, h2.b3⟩
  have r2 := row_bd (n := n) (m := n) ⟨h3.b1, h3.b2, h3.b3⟩ ⟨h4.b1, h4.b2, h4.b3⟩
  have r3 := row_bd r1 r2
  refine ⟨?_, spotZ_sb hw (r3.1.le (by omega)) (r3.2.1.le (by omega)) (r3.2.2.le (by omega))⟩
  apply Ok.eq
  refine Ok_fn rfl rfl ?_
  unfold c_crossing crossS
  walk_at "ev"
  rw [m_row_eq ⟨k1.b1, k1.b2, k1.b3⟩ ⟨k2.b1, k2.b2, k2.b3⟩]
  walk_at "ev"
  rw [m_row_eq ⟨k3.b1, k3.b2, k3.b3⟩ ⟨k4.b1, k4.b2, k4.b3⟩]
  walk_at "ev"
  rw [m_row_eq ⟨r1.1.le (by omega), r1.2.1.le (by omega), r1.2.2.le (by omega)⟩ ⟨r2.1.le (by omega), r2.2.1.le (by omega), r2.2.2.le (by omega)⟩]
  walk_at "ev"
  rw [m_spot_eq hw (r3.2.2.le (by omega))]
  walk_at "ev"
theorem str_sb {n : Nat} {a b c d : Spot} (h1 : SB n a) (h2 : SB n b) (h3 : SB n c) (h4 : SB n d) : ∀ p, (strZ a b c d = .one p → SB n p) ∧ ∀ q, (strZ a b c d = .two p q → SB n p ∧ SB n q) := by
  have l1 := low_sb h1 h2
  have g1 := high_sb h1 h2
  have l2 := low_sb h3 h4
  have g2 := high_sb h3 h4
  unfold strZ
  simp only
  generalize lowS a b = u at *
  generalize highS a b = v at *
  generalize lowS c d = x at *
  generalize highS c d = y at *
  have sl : SB n (if aheadB u x = true then x else u) := by split <;> assumption
  have sh : SB n (if aheadB y v = true then y else v) := by split <;> assumption
  generalize (if aheadB u x = true then x else u) = l at *
  generalize (if aheadB y v = true then y else v) = h at *
  intro p
  refine ⟨fun e => ?_, fun q e => ?_⟩
  · split at e
    · cases e
    · split at e
      · cases e; exact sl
      · cases e
  · split at e
    · cases e
    · split at e
      · cases e
      · cases e; exact ⟨sl, sh⟩
/-- the spots told are not greater than so -/
structure ComSB (n : Nat) (x : Com) : Prop where
  one : ∀ p, x = .one p → SB n p
  two : ∀ p q, x = .two p q → SB n p ∧ SB n q
theorem m_common_eq {a b c d : Spot} {n : Nat} (hn : n ≤ 2000) (o1 : SideOk a b) (o2 : SideOk c d) (h1 : SB n a) (h2 : SB n b) (h3 : SB n c) (h4 : SB n d) :
    m_common [.val (sdd a b), .val (sdd c d)] = some (.val (comD (comZ a b c d)), [.val (sdd a b), .val (sdd c d)]) ∧ ComSB (4 * n + 4) (comZ a b c d) := by
  have k1 := h1.le (show n ≤ 4000 by omega)
  have k2 := h2.le (show n ≤ 4000 by omega)
  have k3 := h3.le (show n ≤ 4000 by omega)
  have k4 := h4.le (show n ≤ 4000 by omega)
  have j1 := h1.le (show n ≤ 9000 by omega)
  have j2 := h2.le (show n ≤ 9000 by omega)
  have j3 := h3.le (show n ≤ 9000 by omega)
  have j4 := h4.le (show n ≤ 9000 by omega)
  have nab : ptQ a ≠ ptQ b := fun e => o1.ne (pt_inj o1.ha o1.hb e)
  have ncd : ptQ c ≠ ptQ d := fun e => o2.ne (pt_inj o2.ha o2.hb e)
  have hw : ¬ (turnZ a b c = 0 ∧ turnZ a b d = 0) → ¬ (0 < turnZ a b c * turnZ a b d ∨ 0 < turnZ c d a * turnZ c d b) → (rowS (rowS a b) (rowS c d)).2.2 ≠ 0 := fun hn hs e => by
    have pa := o1.ha.pos
    have pb := o1.hb.pos
    have pc := o2.ha.pos
    have pd := o2.hb.pos
    have v1 := turn_val pa pb pc
    have v2 := turn_val pa pb pd
    have z1 := ne_cast (a := a.2.2) (by omega)
    have z2 := ne_cast (a := b.2.2) (by omega)
    have z3 := ne_cast (a := c.2.2) (by omega)
    have z4 := ne_cast (a := d.2.2) (by omega)
    have hk := lt_mul (lt_mul (lt_mul (cast_pos pa) (cast_pos pb)) (cast_pos pc)) (cast_pos pd)
    have ew : ((rowS (rowS a b) (rowS c d)).2.2 : Rat) = ((a.2.2 : Rat) * b.2.2 * c.2.2 * d.2.2) * (crs (ptQ a) (ptQ b) (ptQ d) - crs (ptQ a) (ptQ b) (ptQ c)) := by
      unfold rowS crs ptQ
      simp only
      grind
    rw [e] at ew
    have e0 : crs (ptQ a) (ptQ b) (ptQ d) - crs (ptQ a) (ptQ b) (ptQ c) = 0 := (pos_scale hk).2.2.mp (by rw [← ew]; grind)
    have e1 : crs (ptQ a) (ptQ b) (ptQ d) = crs (ptQ a) (ptQ b) (ptQ c) := by grind
    rw [e1] at v2
    clear ew e0 e1
    rcases v1 with ⟨x1, y1⟩ | ⟨x1, y1⟩ | ⟨x1, y1⟩ <;> rcases v2 with ⟨x2, y2⟩ | ⟨x2, y2⟩ | ⟨x2, y2⟩ <;> rw [y1, y2] at hs hn <;> first | (exact hs (.inl (by decide))) | (exact hn ⟨rfl, rfl⟩) | grind
  constructor
  · apply Ok.eq
    refine Ok_fn rfl rfl ?_
    have tail : Ok (c_common_t3 [.val (sdd a b), .val (sdd c d), .no, .no, .no, .no, .no, .no]) (Th (kfn [.val (sdd a b), .val (sdd c d)]) fun z => z = (.val (comD (if turnZ a b c = 0 ∧ turnZ a b d = 0 then strZ a b c d else if 0 < turnZ a b c * turnZ a b d ∨ 0 < turnZ c d a * turnZ c d b then .no else .one (crossS a b c d))), [.val (sdd a b), .val (sdd c d)])) := by
      unfold c_common_t3
      walk_at "ev"
      rw [m_turn_eq j1 j2 j3]
      walk_at "ev"
      rw [m_turn_eq j1 j2 j4]
      walk_at "ev"
      have rest : ¬ (turnZ a b c = 0 ∧ turnZ a b d = 0) → Ok (c_common_t9 [.val (sdd a b), .val (sdd c d), .val (sd a), .val (sd b), .val (sd c), .val (sd d), .val (.int (turnZ a b c)), .val (.int (turnZ a b d))]) (Th (kfn [.val (sdd a b), .val (sdd c d)]) fun z => z = (.val (comD (if 0 < turnZ a b c * turnZ a b d ∨ 0 < turnZ c d a * turnZ c d b then .no else .one (crossS a b c d))), [.val (sdd a b), .val (sdd c d)])) := by
        intro hz
        have tb : ∀ x y z : Spot, Bd 10 (turnZ x y z) := fun x y z => by
          have := sgn_val (detZ x y z)
          exact Bd.lt_of (k := 2) (by unfold turnZ; omega) (by decide)
        have b1 := tb a b c
        have b2 := tb a b d
        have b3 := tb c d a
        have b4 := tb c d b
        unfold c_common_t9 c_common_t11
        walk_at "ev"
        refine ⟨by walk_at "sz", ?_⟩
        by_cases s1 : 0 < turnZ a b c * turnZ a b d
        · rw [if_pos s1, if_pos (.inl s1)]
          rfl
        · rw [if_neg s1, m_turn_eq j3 j4 j1]
          walk_at "ev"
          rw [m_turn_eq j3 j4 j2]
          walk_at "ev"
          refine ⟨by walk_at "sz", ?_⟩
          by_cases s2 : 0 < turnZ c d a * turnZ c d b
          · rw [if_pos s2, if_pos (.inr s2)]
            rfl
          · have ns : ¬ (0 < turnZ a b c * turnZ a b d ∨ 0 < turnZ c d a * turnZ c d b) := fun k => k.elim s1 s2
            rw [if_neg s2, if_neg ns, (m_crossing_eq hn h1 h2 h3 h4 (hw hz ns)).1]
            walk_at "ev"
            rfl
      by_cases e1 : turnZ a b c = 0
      · rw [if_pos e1]
        by_cases e2 : turnZ a b d = 0
        · rw [if_pos e2, if_pos ⟨e1, e2⟩, m_stretch_eq k1 k2 k3 k4]
          walk_at "ev"
        · rw [if_neg e2, if_neg fun k => e2 k.2]
          exact rest fun k => e2 k.2
      · rw [if_neg e1, if_neg fun k => e1 k.1]
        exact rest fun k => e1 k.1
    unfold c_common comZ
    walk_at "ev"
    rw [m_apartX k1 k2 k3 k4]
    walk_at "ev"
    by_cases p1 : apartF coX a b c d = true
    · rw [if_pos p1, if_pos (.inl p1)]
      rfl
    rw [if_neg p1, m_apartX k3 k4 k1 k2]
    walk_at "ev"
    by_cases p2 : apartF coX c d a b = true
    · rw [if_pos p2, if_pos (.inr (.inl p2))]
      rfl
    rw [if_neg p2, m_apartY k1 k2 k3 k4]
    walk_at "ev"
    by_cases p3 : apartF coY a b c d = true
    · rw [if_pos p3, if_pos (.inr (.inr (.inl p3)))]
      rfl
    rw [if_neg p3, m_apartY k3 k4 k1 k2]
    walk_at "ev"
    by_cases p4 : apartF coY c d a b = true
    · rw [if_pos p4, if_pos (.inr (.inr (.inr p4)))]
      rfl
    rw [if_neg p4, if_neg fun k => k.elim p1 fun k => k.elim p2 fun k => k.elim p3 p4]
    exact tail
  · unfold comZ
    refine ⟨fun p e => ?_, fun p q e => ?_⟩
    · split at e
      · cases e
      · split at e
        · exact ((str_sb h1 h2 h3 h4 p).1 e).le (by omega)
        · split at e
          · cases e
          · rename_i x1 x2 x3
            cases e
            exact (m_crossing_eq hn h1 h2 h3 h4 (hw x2 x3)).2
    · split at e
      · cases e
      · split at e
        · have := (str_sb h1 h2 h3 h4 p).2 q e
          exact ⟨this.1.le (by omega), this.2.le (by omega)⟩
        · split at e
          · cases e
          · cases e
theorem nd_inj2 {p q : Int × Int} : (D.tup [.int p.1, .int p.2]) = .tup [.int q.1, .int q.2] ↔ p = q := by
  obtain ⟨a, b⟩ := p
  obtain ⟨c, d⟩ := q
  simp
abbrev pr (p : Int × Int) : D := .tup [.int p.1, .int p.2]
def lexI (u v : Int × Int) : Prop := u.1 < v.1 ∨ (u.1 = v.1 ∧ u.2 < v.2)
instance {u v : Int × Int} : Decidable (lexI u v) := by unfold lexI; infer_instance
theorem pr_lt {u v : Int × Int} : PySem.W.dataLt (pr u).py (pr v).py = decide (lexI u v) := PySem.W.dataLt_ii _ _ _ _
theorem max_pr {u v : Int × Int} : o_maxX (pr u) (pr v) = some (.val (pr (if lexI u v then v else u))) := by
  show (if true = true then some (R.val (if PySem.W.dataLt (pr u).py (pr v).py = true then pr v else pr u)) else none) = _
  rw [pr_lt, if_pos rfl]
  by_cases h : lexI u v
  · rw [if_pos h, if_pos (decide_eq_true h)]
  · rw [if_neg h, if_neg (by rw [decide_eq_false h]; decide)]
theorem min_pr {u v : Int × Int} : o_minX (pr u) (pr v) = some (.val (pr (if lexI v u then v else u))) := by
  show (if true = true then some (R.val (if PySem.W.dataLt (pr v).py (pr u).py = true then pr v else pr u)) else none) = _
  rw [pr_lt, if_pos rfl]
  by_cases h : lexI v u
  · rw [if_pos h, if_pos (decide_eq_true h)]
  · rw [if_neg h, if_neg (by rw [decide_eq_false h]; decide)]
theorem gt_pr {u v : Int × Int} : o_gtX (pr u) (pr v) = some (.val (.bl (decide (lexI v u)))) := by
  show (if true = true then some (R.val (.bl (PySem.W.dataLt (pr v).py (pr u).py))) else none) = _
  rw [pr_lt, if_pos rfl]
theorem eq_pr {u v : Int × Int} : o_eq (pr u) (pr v) = some (.val (.bl (decide (u = v)))) := eq_pl rfl rfl (show 1 ≤ 64 by decide) (show 1 ≤ 64 by decide) nd_inj2
theorem sort_pr {u v : Int × Int} : o_sorted (.lst [pr u, pr v]) = some (.own (.lst (if lexI v u then [pr v, pr u] else [pr u, pr v]))) := by
  show (if true = true then some (R.own (.lst (D.srt [pr u, pr v]))) else none) = _
  rw [if_pos rfl]
  have e : D.srt [pr u, pr v] = if lexI v u then [pr v, pr u] else [pr u, pr v] := by
    unfold D.srt D.ltv
    rw [List.mergeSort]
    simp only [List.MergeSort.Internal.splitInTwo_fst, List.MergeSort.Internal.splitInTwo_snd]
    simp [pr_lt]
    rw [List.cons_merge_cons, pr_lt]
    by_cases h : lexI v u
    · rw [if_pos h, decide_eq_true h]
      simp
    · rw [if_neg h, decide_eq_false h]
      simp
  rw [e]
theorem scl_lex {w : Int} {p q : Spot} (hw : 0 < w) (hp : 0 < p.2.2) (hq : 0 < q.2.2) (dp : p.2.2 ∣ w) (dq : q.2.2 ∣ w) : lexI (scl w p) (scl w q) ↔ aheadB p q = true := by
  rw [ahead_lt hp hq]
  have k1 := scl_q hp dp
  have k2 := scl_q hq dq
  have hw2 := cast_pos hw
  unfold lexI ltL
  rw [← cast_lt, ← cast_lt, k1.1, k1.2, k2.1, k2.2]
  have m1 := (pos_scale (x := (ptQ q).1 - (ptQ p).1) hw2)
  have m2 := (pos_scale (x := (ptQ q).2 - (ptQ p).2) hw2)
  have e0 : (scl w p).1 = (scl w q).1 ↔ (ptQ p).1 = (ptQ q).1 := by
    constructor
    · intro h
      have : ((scl w p).1 : Rat) = (scl w q).1 := by rw [h]
      rw [k1.1, k2.1] at this
      have := m1.2.2.mp (by grind)
      grind
    · intro h
      refine Rat.intCast_inj.mp ?_
      rw [k1.1, k2.1, h]
  rw [e0]
  constructor
  · rintro (h | ⟨h1, h2⟩)
    · exact .inl (by have := m1.1.mp (by grind); grind)
    · exact .inr ⟨h1, by have := m2.1.mp (by grind); grind⟩
  · rintro (h | ⟨h1, h2⟩)
    · exact .inl (by have := m1.1.mpr (by grind); grind)
    · exact .inr ⟨h1, by have := m2.1.mpr (by grind); grind⟩
theorem scl_back {w : Int} {p : Spot} (hw : 0 < w) (hp : IsSpot p) (dp : p.2.2 ∣ w) : spotZ (scl w p).1 (scl w p).2 w = p := by
  have hpos := hp.pos
  obtain ⟨c, rfl⟩ := dp
  have e : (p.2.2 * c).fdiv p.2.2 = c := by rw [Int.fdiv_eq_ediv_of_nonneg _ (by omega), Int.mul_ediv_cancel_left _ (by omega)]
  refine (SpotOf.uniq (by omega) ⟨hp, ?_, ?_⟩).symm
  · unfold scl
    rw [e]
    simp only
    grind
  · unfold scl
    rw [e]
    simp only
    grind
theorem scl_inj {w : Int} {p q : Spot} (hw : 0 < w) (hp : IsSpot p) (hq : IsSpot q) (dp : p.2.2 ∣ w) (dq : q.2.2 ∣ w) : scl w p = scl w q ↔ p = q := by
  constructor
  · intro h
    rw [← scl_back hw hp dp, ← scl_back hw hq dq, h]
  · intro h; rw [h]
theorem scl_bd {n m : Nat} {w : Int} {p : Spot} (h : SB n p) (hw : Bd m w) : Bd (n + m) (scl w p).1 ∧ Bd (n + m) (scl w p).2 := ⟨h.b1.mul hw.fdiv, h.b2.mul hw.fdiv⟩

theorem srtS {w : Int} {a b : Spot} (hw : 0 < w) (ha : 0 < a.2.2) (hb : 0 < b.2.2) (da : a.2.2 ∣ w) (db : b.2.2 ∣ w) : (if lexI (scl w b) (scl w a) then [pr (scl w b), pr (scl w a)] else [pr (scl w a), pr (scl w b)]) = [pr (scl w (lowS a b)), pr (scl w (highS a b))] := by
  have k := scl_lex hw hb ha db da
  unfold lowS highS
  by_cases h : aheadB b a = true
  · rw [if_pos (k.mpr h), if_pos h, if_pos h]
  · rw [if_neg fun x => h (k.mp x), if_neg h, if_neg h]
structure Fit (w : Int) (n : Nat) (p : Spot) : Prop extends SB n p where
  dv : p.2.2 ∣ w
theorem low_fit {w : Int} {n : Nat} {a b : Spot} (h1 : Fit w n a) (h2 : Fit w n b) : Fit w n (lowS a b) := by unfold lowS; split <;> assumption
theorem high_fit {w : Int} {n : Nat} {a b : Spot} (h1 : Fit w n a) (h2 : Fit w n b) : Fit w n (highS a b) := by unfold highS; split <;> assumption
theorem m_lone_eq {x y w : Int} (hw : w ≠ 0) (hb : Bd 9000 w) : m_l_lone [.val (.int x), .val (.int y), .val (.int w)] = some (.val (comD (.one (spotZ x y w))), [.val (.int x), .val (.int y), .val (.int w)]) := by
  apply Ok.eq
  refine Ok_fn rfl rfl ?_
  unfold c_l_lone
  walk_at "ev"
  rw [m_l_lowest_eq hw hb]
  walk_at "ev"
  rfl
theorem m_in_row_eq {a b c d : Spot} {w : Int} {n : Nat} (hw : 0 < w) (hb : Bd 9000 w) (h1 : Fit w n a) (h2 : Fit w n b) (h3 : Fit w n c) (h4 : Fit w n d) :
    m_l_in_row [.val (.lst [pr (scl w (lowS a b)), pr (scl w (highS a b))]), .val (.lst [pr (scl w (lowS c d)), pr (scl w (highS c d))]), .val (.int w)] =
      some (.val (comD (strZ a b c d)), [.val (.lst [pr (scl w (lowS a b)), pr (scl w (highS a b))]), .val (.lst [pr (scl w (lowS c d)), pr (scl w (highS c d))]), .val (.int w)]) := by
  apply Ok.eq
  refine Ok_fn rfl rfl ?_
  have l1 := low_fit h1 h2
  have g1 := high_fit h1 h2
  have l2 := low_fit h3 h4
  have g2 := high_fit h3 h4
  unfold c_l_in_row strZ
  generalize lowS a b = u at *
  generalize highS a b = v at *
  generalize lowS c d = x at *
  generalize highS c d = y at *
  walk_at "ev"
  rw [max_pr]
  walk_at "ev"
  rw [min_pr]
  walk_at "ev"
  have el : (if lexI (scl w u) (scl w x) then scl w x else scl w u) = scl w (if aheadB u x = true then x else u) := by
    have k := scl_lex hw l1.pos l2.pos l1.dv l2.dv
    by_cases h : aheadB u x = true
    · rw [if_pos (k.mpr h), if_pos h]
    · rw [if_neg fun z => h (k.mp z), if_neg h]
  have eh : (if lexI (scl w y) (scl w v) then scl w y else scl w v) = scl w (if aheadB y v = true then y else v) := by
    have k := scl_lex hw g2.pos g1.pos g2.dv g1.dv
    by_cases h : aheadB y v = true
    · rw [if_pos (k.mpr h), if_pos h]
    · rw [if_neg fun z => h (k.mp z), if_neg h]
  rw [el, eh]
  have fl : Fit w n (if aheadB u x = true then x else u) := by split <;> assumption
  have fh : Fit w n (if aheadB y v = true then y else v) := by split <;> assumption
  generalize (if aheadB u x = true then x else u) = l at *
  generalize (if aheadB y v = true then y else v) = h at *
  rw [gt_pr]
  walk_at "ev"
  have k := scl_lex hw fh.pos fl.pos fh.dv fl.dv
  by_cases hk : aheadB h l = true
  · rw [if_pos (k.mpr hk), if_pos hk]
    rfl
  · rw [if_neg fun z => hk (k.mp z), if_neg hk]
    unfold c_l_in_row_t5 c_l_in_row_t7
    walk_at "ev"
    rw [eq_pr]
    walk_at "ev"
    have ki := scl_inj hw fl.toIsSpot fh.toIsSpot fl.dv fh.dv
    have bl := scl_back hw fl.toIsSpot fl.dv
    have bh := scl_back hw fh.toIsSpot fh.dv
    by_cases he : l = h
    · rw [if_pos (ki.mpr he), if_pos he, m_lone_eq (by omega) hb]
      walk_at "ev"
      rw [bl]
    · rw [if_neg fun z => he (ki.mp z), if_neg he, m_l_lowest_eq (by omega) hb]
      walk_at "ev"
      rw [m_l_lowest_eq (by omega) hb]
      walk_at "ev"
      rw [bl, bh]
      rfl
theorem m_across_eq {u v : Int × Int} (h1 : Bd 9000 u.1) (h2 : Bd 9000 u.2) (h3 : Bd 9000 v.1) (h4 : Bd 9000 v.2) : m_l_across [.val (pr u), .val (pr v)] = some (.val (.int (acr u v)), [.val (pr u), .val (pr v)]) := by
  apply Ok.eq
  refine Ok_fn rfl rfl ?_
  unfold c_l_across acr
  walk_at "ev"
  walk_at "szs"
theorem m_shares_eq {a b c d : Spot} {n : Nat} (hn : n ≤ 200) (h1 : SB n a) (h2 : SB n b) (h3 : SB n c) (h4 : SB n d) :
    m_l_shares [.val (sdd a b), .val (sdd c d)] = some (.val (comD (shZ a b c d)), [.val (sdd a b), .val (sdd c d)]) := by
  have hW := bigW_pos h1.pos h2.pos h3.pos h4.pos
  obtain ⟨d1, d2, d3, d4⟩ := bigW_dvd a b c d
  have j1 := h1.le hn
  have j2 := h2.le hn
  have j3 := h3.le hn
  have j4 := h4.le hn
  have bW : Bd 800 (bigW a b c d) := (((j1.b3.mul j2.b3).mul j3.b3).mul j4.b3).le (by decide)
  have s1 := scl_bd j1 bW
  have s2 := scl_bd j2 bW
  have s3 := scl_bd j3 bW
  have s4 := scl_bd j4 bW
  apply Ok.eq
  refine Ok_fn rfl rfl ?_
  unfold c_l_shares
  walk_at "ev"
  have f1 : ∀ p : Spot, p.1 * (bigW a b c d).fdiv p.2.2 = (scl (bigW a b c d) p).1 := fun _ => rfl
  have f2 : ∀ p : Spot, p.2.1 * (bigW a b c d).fdiv p.2.2 = (scl (bigW a b c d) p).2 := fun _ => rfl
  have f3 : a.2.2 * b.2.2 * c.2.2 * d.2.2 = bigW a b c d := rfl
  obtain ⟨i1, a1, a2, a3⟩ := j1
  obtain ⟨i2, b1, b2, b3⟩ := j2
  obtain ⟨i3, c1, c2, c3⟩ := j3
  obtain ⟨i4, e1, e2, e3⟩ := j4
  have p1 := i1.pos
  have p2 := i2.pos
  have p3 := i3.pos
  have p4 := i4.pos
  have z1 : ¬ a.2.2 = 0 ∧ a.2.2.natAbs.log2 < 9000 := Bd.divOk a3 (by omega) (by decide)
  have z2 : ¬ b.2.2 = 0 ∧ b.2.2.natAbs.log2 < 9000 := Bd.divOk b3 (by omega) (by decide)
  have z3 : ¬ c.2.2 = 0 ∧ c.2.2.natAbs.log2 < 9000 := Bd.divOk c3 (by omega) (by decide)
  have z4 : ¬ d.2.2 = 0 ∧ d.2.2.natAbs.log2 < 9000 := Bd.divOk e3 (by omega) (by decide)
  refine ⟨by walk_at "sz", by walk_at "sz", by walk_at "sz", z1, by walk_at "sz", z1, by walk_at "sz", z2, by walk_at "sz", z2, by walk_at "sz", z3, by walk_at "sz", z3, by walk_at "sz", z4, by walk_at "sz", z4, by walk_at "sz", ?_⟩
  simp only [f3]
  simp only [f1, f2]
  clear f1 f2 f3 i1 i2 i3 i4 z1 z2 z3 z4
  have hA := srtS hW p1 p2 d1 d2
  have hC := srtS hW p3 p4 d3 d4
  have fit1 : Fit (bigW a b c d) n a := ⟨h1, d1⟩
  have fit2 : Fit (bigW a b c d) n b := ⟨h2, d2⟩
  have fit3 : Fit (bigW a b c d) n c := ⟨h3, d3⟩
  have fit4 : Fit (bigW a b c d) n d := ⟨h4, d4⟩
  have hrow := m_in_row_eq hW (bW.le (by decide)) fit1 fit2 fit3 fit4
  have eW : m_l_across [.val (.tup [.int ((scl (bigW a b c d) b).1 - (scl (bigW a b c d) a).1), .int ((scl (bigW a b c d) b).2 - (scl (bigW a b c d) a).2)]), .val (.tup [.int ((scl (bigW a b c d) d).1 - (scl (bigW a b c d) c).1), .int ((scl (bigW a b c d) d).2 - (scl (bigW a b c d) c).2)])] = some (.val (.int (whZ a b c d)), _) :=
    m_across_eq (u := sub2 (sA a b c d b) (sA a b c d a)) (v := sub2 (sA a b c d d) (sA a b c d c)) ((s2.1.sub s1.1).le (by decide)) ((s2.2.sub s1.2).le (by decide)) ((s4.1.sub s3.1).le (by decide)) ((s4.2.sub s3.2).le (by decide))
  have eM : m_l_across [.val (.tup [.int ((scl (bigW a b c d) c).1 - (scl (bigW a b c d) a).1), .int ((scl (bigW a b c d) c).2 - (scl (bigW a b c d) a).2)]), .val (.tup [.int ((scl (bigW a b c d) d).1 - (scl (bigW a b c d) c).1), .int ((scl (bigW a b c d) d).2 - (scl (bigW a b c d) c).2)])] = some (.val (.int (miZ a b c d)), _) :=
    m_across_eq (u := sub2 (sA a b c d c) (sA a b c d a)) (v := sub2 (sA a b c d d) (sA a b c d c)) ((s3.1.sub s1.1).le (by decide)) ((s3.2.sub s1.2).le (by decide)) ((s4.1.sub s3.1).le (by decide)) ((s4.2.sub s3.2).le (by decide))
  have eT : m_l_across [.val (.tup [.int ((scl (bigW a b c d) c).1 - (scl (bigW a b c d) a).1), .int ((scl (bigW a b c d) c).2 - (scl (bigW a b c d) a).2)]), .val (.tup [.int ((scl (bigW a b c d) b).1 - (scl (bigW a b c d) a).1), .int ((scl (bigW a b c d) b).2 - (scl (bigW a b c d) a).2)])] = some (.val (.int (thZ a b c d)), _) :=
    m_across_eq (u := sub2 (sA a b c d c) (sA a b c d a)) (v := sub2 (sA a b c d b) (sA a b c d a)) ((s3.1.sub s1.1).le (by decide)) ((s3.2.sub s1.2).le (by decide)) ((s2.1.sub s1.1).le (by decide)) ((s2.2.sub s1.2).le (by decide))
  have bw : Bd 2100 (whZ a b c d) := by unfold whZ acr sub2 sA; apply Bd.le; (· exact (((s2.1.sub s1.1).mul (s4.2.sub s3.2)).sub ((s2.2.sub s1.2).mul (s4.1.sub s3.1)))); decide
  have bm : Bd 2100 (miZ a b c d) := by unfold miZ acr sub2 sA; apply Bd.le; (· exact (((s3.1.sub s1.1).mul (s4.2.sub s3.2)).sub ((s3.2.sub s1.2).mul (s4.1.sub s3.1)))); decide
  have mid : ∀ wh mi th : Int, wh ≠ 0 ∨ th ≠ 0 → Bd 2100 wh → Bd 2100 mi → Ok (c_l_shares_t13 [.val (sdd a b), .val (sdd c d), .val (.int (bigW a b c d)), .val (pr (scl (bigW a b c d) a)), .val (pr (scl (bigW a b c d) b)), .val (pr (scl (bigW a b c d) c)), .val (pr (scl (bigW a b c d) d)), .no,
      .val (.tup [.int ((scl (bigW a b c d) b).1 - (scl (bigW a b c d) a).1), .int ((scl (bigW a b c d) b).2 - (scl (bigW a b c d) a).2)]), .val (.tup [.int ((scl (bigW a b c d) d).1 - (scl (bigW a b c d) c).1), .int ((scl (bigW a b c d) d).2 - (scl (bigW a b c d) c).2)]), .val (.tup [.int ((scl (bigW a b c d) c).1 - (scl (bigW a b c d) a).1), .int ((scl (bigW a b c d) c).2 - (scl (bigW a b c d) a).2)]),
      .val (.int wh), .val (.int mi), .val (.int th)]) (Th (kfn [.val (sdd a b), .val (sdd c d)]) fun z => z = (.val (comD (midZ a b c d wh mi th)), [.val (sdd a b), .val (sdd c d)])) := by
    intro wh mi th hn bwh bmi
    unfold c_l_shares_t13 c_l_shares_t15
    walk_at "ev"
    by_cases k0 : wh = 0
    · rw [if_pos k0]
      unfold midZ
      rw [if_pos (.inl k0)]
      rfl
    rw [if_neg k0]
    by_cases k1 : 0 ≤ mi
    · by_cases k2 : mi ≤ wh
      · by_cases k3 : 0 ≤ th
        · by_cases k4 : th ≤ wh
          · have em : midZ a b c d wh mi th = .one (oneS a b c d wh mi) := by
              unfold midZ
              rw [if_neg]
              rintro (x | x | x)
              · exact k0 x
              · exact x ⟨k1, k2⟩
              · exact x ⟨k3, k4⟩
            rw [em]
            simp only [k1, k2, k3, k4, if_true, if_false, decide_true, Bool.not_true, Bool.false_eq_true, not_true_eq_false]
            have hwh : bigW a b c d * wh ≠ 0 := Int.mul_ne_zero (by omega) k0
            have bd1 : Bd 9000 (bigW a b c d * wh) := (bW.mul bwh).le (by decide)
            have hl : m_l_lone [.val (.int ((scl (bigW a b c d) a).1 * wh + ((scl (bigW a b c d) b).1 - (scl (bigW a b c d) a).1) * mi)), .val (.int ((scl (bigW a b c d) a).2 * wh + ((scl (bigW a b c d) b).2 - (scl (bigW a b c d) a).2) * mi)), .val (.int (bigW a b c d * wh))] = some (.val (comD (.one (oneS a b c d wh mi))), _) := m_lone_eq hwh bd1
            obtain ⟨s11, s12⟩ := s1
            obtain ⟨s21, s22⟩ := s2
            refine ⟨by walk_at "sz", by walk_at "sz", by walk_at "sz", by walk_at "sz", by walk_at "sz", ?_⟩
            rw [hl]
            walk_at "ev"
          · have em : midZ a b c d wh mi th = .no := by
              unfold midZ
              rw [if_pos (.inr (.inr fun x => k4 x.2))]
            rw [em]
            simp only [k1, k2, k3, k4, if_true, if_false, decide_true, decide_false, Bool.not_true, Bool.not_false, Bool.false_eq_true, not_true_eq_false, not_false_eq_true]
            rfl
        · have em : midZ a b c d wh mi th = .no := by
            unfold midZ
            rw [if_pos (.inr (.inr fun x => k3 x.1))]
          rw [em]
          simp only [k1, k2, k3, if_true, if_false, decide_true, decide_false, Bool.not_true, Bool.not_false, Bool.false_eq_true, not_true_eq_false, not_false_eq_true]
          rfl
      · have em : midZ a b c d wh mi th = .no := by
          unfold midZ
          rw [if_pos (.inr (.inl fun x => k2 x.2))]
        rw [em]
        simp only [k1, k2, if_true, if_false, decide_true, decide_false, Bool.not_true, Bool.not_false, Bool.false_eq_true, not_true_eq_false, not_false_eq_true]
        rfl
    · have em : midZ a b c d wh mi th = .no := by
        unfold midZ
        rw [if_pos (.inr (.inl fun x => k1 x.1))]
      rw [em]
      simp only [k1, if_true, if_false, decide_true, decide_false, Bool.not_true, Bool.not_false, Bool.false_eq_true, not_true_eq_false, not_false_eq_true]
      rfl
  rw [eW]
  walk_at "ev"
  rw [eM]
  walk_at "ev"
  rw [eT]
  walk_at "ev"
  have sA1 : o_sorted (.lst [.tup [.int (scl (bigW a b c d) a).1, .int (scl (bigW a b c d) a).2], .tup [.int (scl (bigW a b c d) b).1, .int (scl (bigW a b c d) b).2]]) = some (.own (.lst [pr (scl (bigW a b c d) (lowS a b)), pr (scl (bigW a b c d) (highS a b))])) := by
    rw [← hA]
    exact sort_pr
  have sC1 : o_sorted (.lst [.tup [.int (scl (bigW a b c d) c).1, .int (scl (bigW a b c d) c).2], .tup [.int (scl (bigW a b c d) d).1, .int (scl (bigW a b c d) d).2]]) = some (.own (.lst [pr (scl (bigW a b c d) (lowS c d)), pr (scl (bigW a b c d) (highS c d))])) := by
    rw [← hC]
    exact sort_pr
  have rest : ¬ (whZ a b c d = 0 ∧ thZ a b c d = 0) → Ok (c_l_shares_t11 [.val (sdd a b), .val (sdd c d), .val (.int (bigW a b c d)), .val (pr (scl (bigW a b c d) a)), .val (pr (scl (bigW a b c d) b)), .val (pr (scl (bigW a b c d) c)), .val (pr (scl (bigW a b c d) d)), .no,
      .val (.tup [.int ((scl (bigW a b c d) b).1 - (scl (bigW a b c d) a).1), .int ((scl (bigW a b c d) b).2 - (scl (bigW a b c d) a).2)]), .val (.tup [.int ((scl (bigW a b c d) d).1 - (scl (bigW a b c d) c).1), .int ((scl (bigW a b c d) d).2 - (scl (bigW a b c d) c).2)]), .val (.tup [.int ((scl (bigW a b c d) c).1 - (scl (bigW a b c d) a).1), .int ((scl (bigW a b c d) c).2 - (scl (bigW a b c d) a).2)]),
      .val (.int (whZ a b c d)), .val (.int (miZ a b c d)), .val (.int (thZ a b c d))]) (Th (kfn [.val (sdd a b), .val (sdd c d)]) fun z => z = (.val (comD (shZ a b c d)), [.val (sdd a b), .val (sdd c d)])) := by
    intro hz
    unfold c_l_shares_t11 shZ
    rw [if_neg hz]
    walk_at "ev"
    by_cases hlt : whZ a b c d < 0
    · rw [if_pos hlt, if_pos hlt]
      exact mid _ _ _ (by omega) bw.neg bm.neg
    · rw [if_neg hlt, if_neg hlt]
      exact mid _ _ _ (by omega) bw bm
  by_cases k1 : whZ a b c d = 0
  · rw [if_pos k1]
    by_cases k2 : thZ a b c d = 0
    · rw [if_pos k2, sA1]
      walk_at "ev"
      rw [sC1]
      walk_at "ev"
      rw [hrow]
      walk_at "ev"
      unfold shZ
      rw [if_pos ⟨k1, k2⟩]
    · rw [if_neg k2]
      exact rest fun k => k2 k.2
  · rw [if_neg k1]
    exact rest fun k => k1 k.1
def sideD (L : List Spot) (k : Nat) : D := .tup [sd (spt L k), sd (spt L ((k + 1) % L.length))]
def sidesD (L : List Spot) (n : Nat) : List D := (List.range n).map (sideD L)
theorem sidesD_len {L : List Spot} {n : Nat} : (sidesD L n).length = n := by unfold sidesD; rw [List.length_map, List.length_range]
theorem sidesD_at {L : List Spot} {n k : Nat} (h : k < n) : (sidesD L n)[k]? = some (sideD L k) := by
  unfold sidesD
  rw [List.getElem?_map, List.getElem?_range h]
  rfl
theorem sidesD_next {L : List Spot} {n : Nat} : sidesD L (n + 1) = sidesD L n ++ [sideD L n] := by
  unfold sidesD
  rw [List.range_succ, List.map_append]
  rfl
theorem m_sides_of_eq {L : List Spot} (hn : L.length ≤ 1000) : m_sides_of [.val (.tup (sds L))] = some (.own (.lst (sidesD L L.length)), [.val (.tup (sds L))]) := by
  apply Ok.eq
  refine Ok_fn rfl rfl ?_
  unfold c_sides_of
  walk_at "ev"
  rw [sds_len]
  refine ⟨rngOK_nat (by omega), ?_⟩
  rw [Int.toNat_natCast]
  refine forRng_ok (fun i e => ∃ s : Sl, Sl.isArg (some s) = false ∧ e = [.val (.tup (sds L)), .own (.lst (sidesD L i)), s]) ⟨.no, rfl, rfl⟩ (fun i e hi he => ?_) (fun e he => ?_)
  · obtain ⟨s, hs, rfl⟩ := he
    unfold c_sides_of_b2
    walk_at "ev"
    refine ⟨hs, ?_⟩
    rw [atI_spt (k := i) (by omega) hi]
    walk_at "ev"
    rw [sds_len]
    refine ⟨by omega, ?_⟩
    have e1 : (0 + (i : Int) + 1).fmod (L.length : Int) = (((i + 1) % L.length : Nat) : Int) := by
      rw [Int.fmod_eq_emod_of_nonneg _ (by omega), Int.natCast_emod]
      congr 1
      omega
    rw [atI_spt (k := (i + 1) % L.length) e1 (Nat.mod_lt _ (by omega))]
    walk_at "ev"
    rw [sidesD_len]
    refine ⟨by omega, ?_⟩
    rw [Turn_nx]
    refine ⟨.val (.int (0 + (i : Int))), rfl, ?_⟩
    rw [sidesD_next]
    rfl
  · obtain ⟨s, hs, rfl⟩ := he
    unfold c_sides_of_t4
    walk_at "ev"
/-- each unlike the next one, the last one unlike the first -/
structure IsLoop (L : List Spot) : Prop where
  many : 3 ≤ L.length
  next : ∀ k, k + 1 < L.length → spt L k ≠ spt L (k + 1)
  last : spt L (L.length - 1) ≠ spt L 0
theorem getLast_spt {L : List Spot} (h : L ≠ []) : (sds L).getLast? = some (sd (spt L (L.length - 1))) := by
  have hl := List.length_pos_iff.mpr h
  rw [List.getLast?_eq_getElem?, sds_len, sds_at (by omega)]
theorem AllSB.snoc {n : Nat} {L : List Spot} {p : Spot} (h : AllSB n L) (hp : SB n p) : AllSB n (L ++ [p]) := fun q hq => by
  rcases List.mem_append.mp hq with k | k
  · exact h q k
  · rw [List.mem_singleton.mp k]; exact hp
theorem AllSB.le {n m : Nat} {L : List Spot} (h : AllSB n L) (hn : n ≤ m) : AllSB m L := fun p hp => (h p hp).le hn
theorem spt_snoc {L : List Spot} {p : Spot} : spt (L ++ [p]) L.length = p := by
  unfold spt
  rw [List.getD_eq_getElem?_getD, List.getElem?_append_right (Nat.le_refl _), Nat.sub_self]
  rfl
theorem k_loop {a b m : Int} {P : R × List Sl → Prop} (h3 : 3 ≤ m) (hm : m ≤ 100) (h : ∀ (L : List Spot) (a' b' : Int), IsLoop L → (L.length : Int) ≤ m → AllSB 42 L → P (.val (.tup (sds L)), [pool a' b', .val (.int m)])) : Ok (m_l_loop [pool a b, .val (.int m)]) P := by
  refine Ok_fn rfl rfl ?_
  unfold c_l_loop
  walk_at "ev"
  refine k_spot fun p p1 q1 hp => ?_
  walk_at "ev"
  have hb : Bd 9000 (m - 2) := Bd.lt_of (k := 1000) (by omega) (by decide)
  refine k_digit (by omega) hb fun z p2 q2 h1 h2 => ?_
  walk_at "ev"
  have r1 : rngOK (3 + z) := rngOK_of (by omega)
  refine ⟨r1, ?_⟩
  refine forRng_ok (fun i e => ∃ (L : List Spot) (a' b' : Int) (s : Sl), L.length = i + 1 ∧ AllSB 42 L ∧ (∀ k, k + 1 < L.length → spt L k ≠ spt L (k + 1)) ∧ ((i : Int) = 2 + z → spt L i ≠ spt L 0) ∧ Sl.isArg (some s) = false ∧
    e = [pool a' b', .val (.int m), .own (.lst (sds L)), .val (.int (3 + z)), s]) ⟨[p], _, _, .no, rfl, fun q hq => by rw [List.mem_singleton.mp hq]; exact hp.le (by decide), fun k hk => by simp at hk, fun k => by omega, rfl, rfl⟩ (fun i e hi he => ?_) (fun e he => ?_)
  · obtain ⟨L, a', b', s, hl, hs, hn, hz, ha, rfl⟩ := he
    have hne : L ≠ [] := by intro e; rw [e] at hl; simp at hl
    unfold c_l_loop_b3
    walk_at "ev"
    refine ⟨ha, ?_⟩
    refine k_spot fun x p3 q3 hx => ?_
    walk_at "ev"
    rw [atI_m1, getLast_spt hne]
    walk_at "ev"
    have step : ∀ q, SB 42 q → q ≠ spt L i → ((i : Int) + 1 = 2 + z → q ≠ spt L 0) → ∃ (L' : List Spot) (a' b' : Int) (s : Sl), L'.length = i + 1 + 1 ∧ AllSB 42 L' ∧ (∀ k, k + 1 < L'.length → spt L' k ≠ spt L' (k + 1)) ∧ (((i + 1 : Nat) : Int) = 2 + z → spt L' (i + 1) ≠ spt L' 0) ∧ Sl.isArg (some s) = false ∧
        [pool p3 q3, .val (.int m), .own (.lst (sds L ++ [sd q])), .val (.int (3 + z)), .val (.int (1 + (i : Int)))] = [pool a' b', .val (.int m), .own (.lst (sds L')), .val (.int (3 + z)), s] := by
      intro q h1 h2 h3
      refine ⟨L ++ [q], _, _, _, by rw [List.length_append, hl]; rfl, hs.snoc h1, fun k hk => ?_, fun hk => ?_, rfl, by unfold sds; rw [List.map_append]; rfl⟩
      · rw [List.length_append, List.length_singleton] at hk
        by_cases hk2 : k + 1 < L.length
        · rw [spt_app (by omega), spt_app hk2]
          exact hn k hk2
        · have : k = i := by omega
          subst this
          rw [spt_app (by omega), ← hl, spt_snoc]
          exact h2.symm
      · rw [spt_app (k := 0) (by omega), ← hl, spt_snoc]
        exact h3 (by omega)
    have e1 : L.length - 1 = i := by omega
    rw [e1]
    have hx2 : SB 30 x := hx
    by_cases hc : (1 + (i : Int) + 1) = 3 + z
    · rw [if_pos hc]
      rw [cutL_to (by decide)]
      have e2 : (sds L).take (1 : Int).toNat = [sd (spt L 0)] := by
        obtain ⟨p0, L', rfl⟩ := List.exists_cons_of_ne_nil hne
        rfl
      rw [e2]
      refine ⟨rfl, by simp, ?_⟩
      refine k_unlike (S := [spt L i, spt L 0]) hx2 (by decide) (by simp) fun q h1 h2 => ?_
      walk_at "ev"
      rw [sds_len]
      refine ⟨by omega, ?_⟩
      rw [Turn_nx]
      exact step q h1 (fun e => h2 (by rw [e]; simp)) fun _ e => h2 (by rw [e]; simp)
    · rw [if_neg hc]
      rw [cutL_to (by decide)]
      have e2 : (sds L).take (0 : Int).toNat = [] := rfl
      rw [e2]
      refine ⟨rfl, by simp, ?_⟩
      refine k_unlike (S := [spt L i]) hx2 (by decide) (by simp) fun q h1 h2 => ?_
      walk_at "ev"
      rw [sds_len]
      refine ⟨by omega, ?_⟩
      rw [Turn_nx]
      exact step q h1 (fun e => h2 (by rw [e]; simp)) fun h _ => absurd h (by omega)
  · obtain ⟨L, a', b', s, hl, hs, hn, hz, ha, rfl⟩ := he
    have h5 : ((3 + z - 1).toNat : Int) = 2 + z := by omega
    unfold c_l_loop_t5
    walk_at "ev"
    refine h L _ _ ⟨by omega, hn, ?_⟩ (by omega) hs
    have := hz h5
    rw [show L.length - 1 = (3 + z - 1).toNat by omega]
    exact this
/-! simple loops: two sides meet in ends that they share, and nowhere else -/
def sdK (L : List Spot) (k : Nat) : Spot × Spot := (spt L k, spt L ((k + 1) % L.length))
def isSide (L : List Spot) (s : Spot × Spot) : Prop := ∃ k, k < L.length ∧ s = sdK L k
def segS (s : Spot × Spot) (P : Pt) : Prop := seg (ptQ s.1) (ptQ s.2) P
def endS (s : Spot × Spot) (p : Spot) : Prop := p = s.1 ∨ p = s.2
structure Simple (L : List Spot) : Prop where
  nd : L.Nodup
  meet : ∀ s t, isSide L s → isSide L t → s ≠ t → ∀ P, segS s P → segS t P → ∃ p, endS s p ∧ endS t p ∧ P = ptQ p
theorem spt_inj {L : List Spot} (nd : L.Nodup) {i j : Nat} (hi : i < L.length) (hj : j < L.length) (e : spt L i = spt L j) : i = j := by
  rw [spt_lt hi, spt_lt hj] at e
  exact (List.getElem_inj nd).mp e
theorem mod_next {k n : Nat} (h : k < n) : (k + 1) % n = if k + 1 = n then 0 else k + 1 := by
  split
  · rename_i e
    rw [e, Nat.mod_self]
  · rw [Nat.mod_eq_of_lt (by omega)]
theorem next_lt {k n : Nat} (h : k < n) : (k + 1) % n < n := Nat.mod_lt _ (by omega)
theorem side_ok {L : List Spot} (h3 : 3 ≤ L.length) (hi : AllIs L) (nd : L.Nodup) {k : Nat} (hk : k < L.length) : SideOk (spt L k) (spt L ((k + 1) % L.length)) := by
  refine ⟨hi _ (spt_mem hk), hi _ (spt_mem (next_lt hk)), fun e => ?_⟩
  have := spt_inj nd hk (next_lt hk) e
  rw [mod_next hk] at this
  split at this <;> omega
def dueC (L : List Spot) (j k : Nat) : Com := if j + 1 = k then .one (spt L k) else if j = 0 ∧ k = L.length - 1 then .one (spt L 0) else .no
def comK (L : List Spot) (j k : Nat) : Com := comZ (spt L j) (spt L ((j + 1) % L.length)) (spt L k) (spt L ((k + 1) % L.length))
def RawSimple (L : List Spot) : Prop := L.Nodup ∧ ∀ k, k < L.length → ∀ j, j < k → comK L j k = dueC L j k
theorem raw_simple {L : List Spot} (h3 : 3 ≤ L.length) (hi : AllIs L) : RawSimple L ↔ Simple L := by
  constructor
  · rintro ⟨nd, h⟩
    refine ⟨nd, ?_⟩
    have main : ∀ j k, j < k → k < L.length → ∀ P, segS (sdK L j) P → segS (sdK L k) P → ∃ p, endS (sdK L j) p ∧ endS (sdK L k) p ∧ P = ptQ p := by
      intro j k hjk hk P hp hq
      have o1 := side_ok h3 hi nd (k := j) (by omega)
      have o2 := side_ok h3 hi nd hk
      have hc := comZ_is o1 o2
      have e : comZ (spt L j) (spt L ((j + 1) % L.length)) (spt L k) (spt L ((k + 1) % L.length)) = dueC L j k := h k hk j hjk
      rw [e] at hc
      unfold dueC at hc
      have n1 := mod_next (k := j) (n := L.length) (by omega)
      have n2 := mod_next hk
      unfold endS sdK
      simp only
      split at hc
      · rename_i e1
        refine ⟨spt L k, .inr ?_, .inl rfl, (hc.2 P).mp ⟨hp, hq⟩⟩
        rw [n1, if_neg (by omega), e1]
      · split at hc
        · rename_i e2
          refine ⟨spt L 0, .inl ?_, .inr ?_, (hc.2 P).mp ⟨hp, hq⟩⟩
          · rw [e2.1]
          · rw [n2, if_pos (by omega)]
        · exact absurd ⟨hp, hq⟩ (hc P)
    rintro s t ⟨j, hj, rfl⟩ ⟨k, hk, rfl⟩ hne P hp hq
    rcases Nat.lt_trichotomy j k with h1 | h1 | h1
    · exact main j k h1 hk P hp hq
    · subst h1
      exact absurd rfl hne
    · obtain ⟨p, a, b, c⟩ := main k j h1 hj P hq hp
      exact ⟨p, b, a, c⟩
  · rintro ⟨nd, h⟩
    refine ⟨nd, fun k hk j hjk => ?_⟩
    have hj : j < L.length := by omega
    have o1 := side_ok h3 hi nd hj
    have o2 := side_ok h3 hi nd hk
    refine com_uniq (comZ_is o1 o2) ?_
    have n1 := mod_next hj
    have n2 := mod_next hk
    have hne : sdK L j ≠ sdK L k := fun e => by
      have := spt_inj nd hj hk (congrArg Prod.fst e)
      omega
    have key : ∀ P, both (spt L j) (spt L ((j + 1) % L.length)) (spt L k) (spt L ((k + 1) % L.length)) P → ∃ m, m < L.length ∧ (m = j ∨ m = (j + 1) % L.length) ∧ (m = k ∨ m = (k + 1) % L.length) ∧ P = ptQ (spt L m) := by
      rintro P ⟨hp, hq⟩
      obtain ⟨p, a, b, c⟩ := h _ _ ⟨j, hj, rfl⟩ ⟨k, hk, rfl⟩ hne P hp hq
      unfold endS sdK at a b
      simp only at a b
      rcases a with a | a <;> rcases b with b | b
      · exact ⟨j, hj, .inl rfl, .inl (spt_inj nd hj hk (a.symm.trans b)), by rw [c, a]⟩
      · exact ⟨j, hj, .inl rfl, .inr (spt_inj nd hj (next_lt hk) (a.symm.trans b)), by rw [c, a]⟩
      · exact ⟨_, next_lt hj, .inr rfl, .inl (spt_inj nd (next_lt hj) hk (a.symm.trans b)), by rw [c, a]⟩
      · exact ⟨_, next_lt hj, .inr rfl, .inr (spt_inj nd (next_lt hj) (next_lt hk) (a.symm.trans b)), by rw [c, a]⟩
    unfold dueC
    by_cases e1 : j + 1 = k
    · rw [if_pos e1]
      refine ⟨hi _ (spt_mem hk), fun P => ⟨fun hp => ?_, fun e => ?_⟩⟩
      · obtain ⟨m, hm, a, b, c⟩ := key P hp
        have : m = k := by
          rw [n1] at a
          rw [n2] at b
          split at b <;> split at a <;> omega
        rw [c, this]
      · rw [e]
        refine ⟨?_, seg_a⟩
        rw [n1, if_neg (by omega), e1]
        exact seg_b
    · rw [if_neg e1]
      by_cases e2 : j = 0 ∧ k = L.length - 1
      · rw [if_pos e2]
        refine ⟨hi _ (spt_mem (by omega)), fun P => ⟨fun hp => ?_, fun e => ?_⟩⟩
        · obtain ⟨m, hm, a, b, c⟩ := key P hp
          have : m = 0 := by
            rw [n1] at a
            rw [n2] at b
            split at b <;> split at a <;> omega
          rw [c, this]
        · rw [e]
          refine ⟨?_, ?_⟩
          · rw [e2.1]
            exact seg_a
          · rw [n2, if_pos (by omega)]
            exact seg_b
      · rw [if_neg e2]
        intro P hp
        obtain ⟨m, hm, a, b, c⟩ := key P hp
        rw [n1] at a
        rw [n2] at b
        split at b <;> split at a <;> omega
/-! told from another spot on, gone back -/
theorem spt_rot {L : List Spot} {j k : Nat} (hj : j ≤ L.length) (hk : k < L.length) : spt (rotS L j) k = spt L ((k + j) % L.length) := by
  have hm := Nat.mod_lt (k + j) (show L.length > 0 by omega)
  rw [spt_lt (by rw [rot_len]; exact hk), spt_lt hm]
  unfold rotS
  by_cases h : k < L.length - j
  · have e : (k + j) % L.length = k + j := Nat.mod_eq_of_lt (by omega)
    rw [List.getElem_append_left (by rw [List.length_drop]; exact h), List.getElem_drop]
    congr 1
    omega
  · have e : (k + j) % L.length = k + j - L.length := by rw [Nat.mod_eq_sub_mod (by omega), Nat.mod_eq_of_lt (by omega)]
    rw [List.getElem_append_right (by rw [List.length_drop]; omega), List.getElem_take]
    congr 1
    rw [List.length_drop]
    omega
theorem side_rot {L : List Spot} {j : Nat} (hj : j ≤ L.length) {s : Spot × Spot} (h : isSide (rotS L j) s) : isSide L s := by
  obtain ⟨k, hk, rfl⟩ := h
  rw [rot_len] at hk
  refine ⟨(k + j) % L.length, Nat.mod_lt _ (by omega), ?_⟩
  unfold sdK
  rw [rot_len, spt_rot hj hk, spt_rot hj (next_lt hk)]
  have e : ((k + 1) % L.length + j) % L.length = ((k + j) % L.length + 1) % L.length := by
    rw [Nat.mod_add_mod, Nat.mod_add_mod]
    congr 1
    omega
  rw [e]
theorem Simple.rot {L : List Spot} (h : Simple L) {j : Nat} (hj : j ≤ L.length) : Simple (rotS L j) := by
  refine ⟨?_, fun s t hs ht => h.meet s t (side_rot hj hs) (side_rot hj ht)⟩
  have p : (rotS L j).Perm L := by
    unfold rotS
    exact List.perm_append_comm.trans (by rw [List.take_append_drop])
  exact p.nodup_iff.mpr h.nd
theorem simple_rot {L : List Spot} {j : Nat} (hj : j ≤ L.length) : Simple (rotS L j) ↔ Simple L := by
  refine ⟨fun h => ?_, fun h => h.rot hj⟩
  have e : rotS (rotS L j) (L.length - j) = L := by rw [rot_rot (by omega), show j + (L.length - j) = L.length by omega, rot_all]
  rw [← e]
  exact h.rot (by rw [rot_len]; omega)
theorem spt_rev {L : List Spot} {k : Nat} (hk : k < L.length) : spt L.reverse k = spt L (L.length - 1 - k) := by
  rw [spt_lt (by rw [List.length_reverse]; exact hk), spt_lt (by omega), List.getElem_reverse]
theorem side_rev {L : List Spot} {s : Spot × Spot} (h : isSide L.reverse s) : isSide L (s.2, s.1) := by
  obtain ⟨k, hk, rfl⟩ := h
  rw [List.length_reverse] at hk
  unfold sdK
  rw [List.length_reverse, spt_rev hk, spt_rev (next_lt hk), mod_next hk]
  by_cases e : k + 1 = L.length
  · rw [if_pos e]
    refine ⟨L.length - 1, by omega, ?_⟩
    unfold sdK
    rw [mod_next (show L.length - 1 < L.length by omega), if_pos (by omega)]
    simp only [Prod.mk.injEq]
    exact ⟨by congr 1, by congr 1; omega⟩
  · rw [if_neg e]
    refine ⟨L.length - 1 - (k + 1), by omega, ?_⟩
    unfold sdK
    rw [mod_next (show L.length - 1 - (k + 1) < L.length by omega), if_neg (by omega)]
    simp only [Prod.mk.injEq]
    exact ⟨trivial, by congr 1; omega⟩
theorem Simple.rev {L : List Spot} (h : Simple L) : Simple L.reverse := by
  refine ⟨(List.reverse_perm L).nodup_iff.mpr h.nd, fun s t hs ht hne P hp hq => ?_⟩
  obtain ⟨p, a, b, c⟩ := h.meet _ _ (side_rev hs) (side_rev ht) (fun e => hne (by
    have e1 := congrArg Prod.fst e
    have e2 := congrArg Prod.snd e
    exact Prod.ext e2 e1)) P (seg_swap.mpr hp) (seg_swap.mpr hq)
  exact ⟨p, a.symm, b.symm, c⟩
theorem simple_rev {L : List Spot} : Simple L.reverse ↔ Simple L := by
  refine ⟨fun h => ?_, Simple.rev⟩
  have := h.rev
  rwa [List.reverse_reverse] at this
/-! round a spot -/
def crV (u v : Pt) : Rat := u.1 * v.2 - u.2 * v.1
def upV (v : Pt) : Prop := 0 < v.2 ∨ (v.2 = 0 ∧ 0 < v.1)
/-- ahead, going left from straight right -/
def bef (u v : Pt) : Prop := (upV u ∧ ¬ upV v) ∨ ((upV u ↔ upV v) ∧ 0 < crV u v)
theorem up_trans {u v w : Pt} (hu : upV u) (hv : upV v) (hw : upV w) (h1 : 0 < crV u v) (h2 : 0 < crV v w) : 0 < crV u w := by
  have id : crV u w * v.2 = crV u v * w.2 + crV v w * u.2 := by unfold crV; grind
  have ny : ∀ x : Pt, upV x → 0 ≤ x.2 := fun x hx => by unfold upV at hx; grind
  have pos : 0 < v.2 := by
    rcases hv with h | ⟨h, h'⟩
    · exact h
    · unfold crV at h1
      rw [h, Rat.mul_zero] at h1
      have := Rat.mul_nonneg (ny u hu) (show 0 ≤ v.1 by grind)
      grind
  have wp : 0 < w.2 := by
    rcases hw with h | ⟨h, h'⟩
    · exact h
    · unfold crV at h2
      rw [h, Rat.mul_zero] at h2
      have := lt_mul pos h'
      grind
  have k1 := lt_mul h1 wp
  have k2 := Rat.mul_nonneg (show 0 ≤ crV v w by grind) (ny u hu)
  have k3 : 0 < v.2 * crV u w := by
    have : v.2 * crV u w = crV u w * v.2 := Rat.mul_comm _ _
    grind
  exact (pos_scale pos).1.mp k3
def ngV (u : Pt) : Pt := (-u.1, -u.2)
theorem cr_ng {u v : Pt} : crV (ngV u) (ngV v) = crV u v := by unfold crV ngV; grind
theorem ng_up {u v : Pt} (h : ¬ upV u) (hc : crV u v ≠ 0 ∨ crV v u ≠ 0) : upV (ngV u) := by
  unfold upV ngV at *
  simp only
  unfold crV at hc
  by_cases h2 : u.2 < 0
  · exact .inl (by grind)
  · have e : u.2 = 0 := by grind
    refine .inr ⟨by grind, ?_⟩
    have : u.1 ≠ 0 := fun e1 => by
      rw [e, e1] at hc
      grind
    grind
theorem bef_trans {u v w : Pt} (h1 : bef u v) (h2 : bef v w) : bef u w := by
  unfold bef at *
  by_cases a : upV u <;> by_cases b : upV v <;> by_cases c : upV w
  · refine .inr ⟨by simp [a, c], up_trans a b c ?_ ?_⟩ <;> simp_all
  · exact .inl ⟨a, c⟩
  · simp_all
  · exact .inl ⟨a, c⟩
  · simp_all
  · simp_all
  · simp_all
  · have k1 : 0 < crV u v := by simp_all
    have k2 : 0 < crV v w := by simp_all
    refine .inr ⟨by simp [a, c], ?_⟩
    rw [← cr_ng] at k1 k2 ⊢
    refine up_trans (v := ngV v) (ng_up (v := v) a (.inl ?_)) (ng_up (v := w) b (.inl ?_)) (ng_up (v := v) c (.inr ?_)) k1 k2 <;> rw [cr_ng] at * <;> grind
theorem bef_irr {u : Pt} : ¬ bef u u := by
  unfold bef crV
  rintro (⟨h1, h2⟩ | ⟨_, h⟩)
  · exact h2 h1
  · grind
/-- a place between two, from a spot -/
theorem cone {u v P : Pt} {t : Rat} (h0 : 0 ≤ t) (h1 : t ≤ 1) (hb : bef u v) (hc : 0 < crV u v) (e1 : P.1 = (1 - t) * u.1 + t * v.1) (e2 : P.2 = (1 - t) * u.2 + t * v.2) : (0 < t → bef u P) ∧ (t < 1 → bef P v) := by
  have c1 : crV u P = t * crV u v := by unfold crV; rw [e1, e2]; grind
  have c2 : crV P v = (1 - t) * crV u v := by unfold crV; rw [e1, e2]; grind
  have up : upV u → upV v → upV P := fun hu hv => by
    by_cases z0 : t = 0
    · have : P = u := pt_ext (by rw [e1, z0]; grind) (by rw [e2, z0]; grind)
      rw [this]; exact hu
    by_cases z1 : t = 1
    · have : P = v := pt_ext (by rw [e1, z1]; grind) (by rw [e2, z1]; grind)
      rw [this]; exact hv
    have p0 : 0 < t := by grind
    have p1 : 0 < 1 - t := by grind
    unfold upV at *
    rw [e1, e2]
    rcases hu with a | ⟨a, a'⟩ <;> rcases hv with b | ⟨b, b'⟩
    · have := lt_mul p1 a; have := lt_mul p0 b; grind
    · have := lt_mul p1 a; rw [b]; grind
    · have := lt_mul p0 b; rw [a]; grind
    · have := lt_mul p1 a'; have := lt_mul p0 b'; rw [a, b]; grind
  have lo : ¬ upV u → ¬ upV v → ¬ upV P := fun hu hv => by
    by_cases z0 : t = 0
    · have : P = u := pt_ext (by rw [e1, z0]; grind) (by rw [e2, z0]; grind)
      rw [this]; exact hu
    by_cases z1 : t = 1
    · have : P = v := pt_ext (by rw [e1, z1]; grind) (by rw [e2, z1]; grind)
      rw [this]; exact hv
    have p0 : 0 < t := by grind
    have p1 : 0 < 1 - t := by grind
    unfold upV at *
    rw [e1, e2]
    have hu1 : u.2 ≤ 0 := by grind
    have hv1 : v.2 ≤ 0 := by grind
    have k1 := Rat.mul_nonneg (show 0 ≤ 1 - t by grind) (show 0 ≤ -u.2 by grind)
    have k2 := Rat.mul_nonneg h0 (show 0 ≤ -v.2 by grind)
    rintro (h | ⟨h, h'⟩)
    · grind
    · have z1 : u.2 = 0 := by
        by_cases z : u.2 = 0
        · exact z
        · have := lt_mul p1 (show 0 < -u.2 by grind); grind
      have z2 : v.2 = 0 := by
        by_cases z : v.2 = 0
        · exact z
        · have := lt_mul p0 (show 0 < -v.2 by grind); grind
      have k3 := Rat.mul_nonneg (show 0 ≤ 1 - t by grind) (show 0 ≤ -u.1 by grind)
      have k4 := Rat.mul_nonneg h0 (show 0 ≤ -v.1 by grind)
      grind
  refine ⟨fun ht => ?_, fun ht => ?_⟩
  · have k : 0 < crV u P := by rw [c1]; exact lt_mul ht hc
    unfold bef at hb ⊢
    by_cases a : upV u <;> by_cases b : upV v
    · exact .inr ⟨by simp [a, up a b], k⟩
    · by_cases c : upV P
      · exact .inr ⟨by simp [a, c], k⟩
      · exact .inl ⟨a, c⟩
    · simp_all
    · exact .inr ⟨by simp [a, lo a b], k⟩
  · have k : 0 < crV P v := by rw [c2]; exact lt_mul (by grind) hc
    unfold bef at hb ⊢
    by_cases a : upV u <;> by_cases b : upV v
    · exact .inr ⟨by simp [b, up a b], k⟩
    · by_cases c : upV P
      · exact .inl ⟨c, b⟩
      · exact .inr ⟨by simp [b, c], k⟩
    · simp_all
    · exact .inr ⟨by simp [b, lo a b], k⟩
def frm (C P : Pt) : Pt := (P.1 - C.1, P.2 - C.2)
theorem frm_inj {C P Q : Pt} (h : frm C P = frm C Q) : P = Q := by
  have h1 := congrArg Prod.fst h
  have h2 := congrArg Prod.snd h
  unfold frm at h1 h2
  simp only at h1 h2
  exact pt_ext (by grind) (by grind)
theorem seg_cone {C A B P : Pt} (hn : A ≠ B) (hs : seg A B P) (hb : bef (frm C A) (frm C B)) (hc : 0 < crV (frm C A) (frm C B)) : (P = A ∨ bef (frm C A) (frm C P)) ∧ (P = B ∨ bef (frm C P) (frm C B)) := by
  obtain ⟨t, ⟨h0, h1⟩, e1, e2⟩ := (seg_iff hn).mp hs
  have k := cone (u := frm C A) (v := frm C B) (P := frm C P) h0 h1 hb hc (by unfold frm; simp only; rw [e1]; grind) (by unfold frm; simp only; rw [e2]; grind)
  constructor
  · by_cases z : t = 0
    · exact .inl (pt_ext (by rw [e1, z]; grind) (by rw [e2, z]; grind))
    · exact .inr (k.1 (by grind))
  · by_cases z : t = 1
    · exact .inl (pt_ext (by rw [e1, z]; grind) (by rw [e2, z]; grind))
    · exact .inr (k.2 (by grind))
/-- the side home, to the first spot, straight right -/
theorem seg_home {C A B P : Pt} (hn : A ≠ B) (hs : seg A B P) (hl : (frm C A).2 < 0) (h0 : (frm C B).2 = 0) (h1 : 0 < (frm C B).1) : P = A ∨ P = B ∨ bef (frm C A) (frm C P) := by
  obtain ⟨t, ⟨t0, t1⟩, e1, e2⟩ := (seg_iff hn).mp hs
  by_cases z0 : t = 0
  · exact .inl (pt_ext (by rw [e1, z0]; grind) (by rw [e2, z0]; grind))
  by_cases z1 : t = 1
  · exact .inr (.inl (pt_ext (by rw [e1, z1]; grind) (by rw [e2, z1]; grind)))
  refine .inr (.inr ?_)
  have p0 : 0 < t := by grind
  have p1 : 0 < 1 - t := by grind
  have f2 : (frm C P).2 = (1 - t) * (frm C A).2 := by
    have : (frm C P).2 = (1 - t) * (frm C A).2 + t * (frm C B).2 := by unfold frm; simp only; rw [e2]; grind
    rw [this, h0]; grind
  have f1 : (frm C P).1 = (1 - t) * (frm C A).1 + t * (frm C B).1 := by unfold frm; simp only; rw [e1]; grind
  have k1 := lt_mul p1 (show 0 < -(frm C A).2 by grind)
  have k2 := lt_mul p0 (lt_mul h1 (show 0 < -(frm C A).2 by grind))
  unfold bef
  refine .inr ⟨?_, ?_⟩
  · unfold upV
    constructor
    · intro h; grind
    · intro h; rw [f2] at h; grind
  · unfold crV
    rw [f1, f2]
    grind
theorem round_simple {L : List Spot} {C : Pt} (hi : AllIs L) (h3 : 3 ≤ L.length) (hb : ∀ i j, i < j → j < L.length → bef (frm C (ptQ (spt L i))) (frm C (ptQ (spt L j))))
    (hc : ∀ i, i + 1 < L.length → 0 < crV (frm C (ptQ (spt L i))) (frm C (ptQ (spt L (i + 1))))) (h0 : (frm C (ptQ (spt L 0))).2 = 0) (h1 : 0 < (frm C (ptQ (spt L 0))).1) (hl : (frm C (ptQ (spt L (L.length - 1)))).2 < 0) : Simple L := by
  have ne : ∀ i j, i < j → j < L.length → spt L i ≠ spt L j := fun i j hij hj e => by
    have := hb i j hij hj
    rw [e] at this
    exact bef_irr this
  have nd : L.Nodup := by
    refine List.pairwise_iff_getElem.mpr fun i j hi hj hij => ?_
    have := ne i j hij hj
    rwa [spt_lt hi, spt_lt hj] at this
  have nq : ∀ i j, i < j → j < L.length → ptQ (spt L i) ≠ ptQ (spt L j) := fun i j hij hj e => ne i j hij hj (pt_inj (hi _ (spt_mem (by omega))) (hi _ (spt_mem hj)) e)
  have bb := @bef_trans
  have main : ∀ i j, i < j → j < L.length → ∀ P, segS (sdK L i) P → segS (sdK L j) P → ∃ p, endS (sdK L i) p ∧ endS (sdK L j) p ∧ P = ptQ p := by
    intro i j hij hj P hp hq
    unfold segS sdK at hp hq
    simp only at hp hq
    rw [mod_next (show i < L.length by omega), if_neg (by omega)] at hp
    obtain ⟨a1, a2⟩ := seg_cone (nq i (i + 1) (by omega) (by omega)) hp (hb i (i + 1) (by omega) (by omega)) (hc i (by omega))
    -- the far end of the first is the near end of the second, or the way back to the first
    have low : (P = ptQ (spt L j) ∨ bef (frm C (ptQ (spt L j))) (frm C P)) → ∃ p, endS (sdK L i) p ∧ endS (sdK L j) p ∧ P = ptQ p := by
      intro a3
      by_cases e : i + 1 = j
      · have fin : P = ptQ (spt L j) → ∃ p, endS (sdK L i) p ∧ endS (sdK L j) p ∧ P = ptQ p := fun k => by
          refine ⟨spt L j, .inr ?_, .inl rfl, k⟩
          unfold sdK
          simp only
          rw [mod_next (show i < L.length by omega), if_neg (by omega), e]
        rw [e] at a2
        rcases a2 with a2 | a2
        · exact fin a2
        · rcases a3 with a3 | a3
          · exact fin a3
          · exact absurd (bef_trans a2 a3) bef_irr
      · have k := hb (i + 1) j (by omega) hj
        have k2 : bef (frm C P) (frm C (ptQ (spt L j))) := by
          rcases a2 with a2 | a2
          · rw [a2]; exact k
          · exact bef_trans a2 k
        rcases a3 with a3 | a3
        · rw [a3] at k2
          exact absurd k2 bef_irr
        · exact absurd (bef_trans k2 a3) bef_irr
    by_cases e : j + 1 = L.length
    · rw [mod_next hj, if_pos e] at hq
      have e' : L.length - 1 = j := by omega
      rw [e'] at hl
      rcases seg_home (fun k => nq 0 j (by omega) hj k.symm) hq hl h0 h1 with k | k | k
      · exact low (.inl k)
      · by_cases z : i = 0
        · refine ⟨spt L 0, .inl ?_, .inr ?_, k⟩
          · unfold sdK
            rw [z]
          · unfold sdK
            simp only
            rw [mod_next hj, if_pos e]
        · have k2 := hb 0 i (by omega) (by omega)
          rcases a1 with a1 | a1
          · rw [a1] at k
            exact absurd k (fun x => nq 0 i (by omega) (by omega) x.symm)
          · rw [k] at a1
            exact absurd (bef_trans k2 a1) bef_irr
      · exact low (.inr k)
    · rw [mod_next hj, if_neg e] at hq
      exact low (seg_cone (nq j (j + 1) (by omega) (by omega)) hq (hb j (j + 1) (by omega) (by omega)) (hc j (by omega))).1
  refine ⟨nd, ?_⟩
  rintro s t ⟨i, hi', rfl⟩ ⟨j, hj, rfl⟩ hne P hp hq
  rcases Nat.lt_trichotomy i j with h | h | h
  · exact main i j h hj P hp hq
  · subst h
    exact absurd rfl hne
  · obtain ⟨p, a, b, c⟩ := main j i h hi' P hq hp
    exact ⟨p, b, a, c⟩
theorem com_pl (x : Com) : (comD x).pl = true ∧ (comD x).dep ≤ 64 := by
  have h1 : sSpot.pl = true := by decide +kernel
  have h2 : sStr.pl = true := by decide +kernel
  cases x with
  | no => exact ⟨rfl, by decide⟩
  | one p =>
    refine ⟨?_, ?_⟩
    · show (sSpot.pl && ((sd p).pl && true)) = true
      rw [h1]
      rfl
    · show 2 ≤ 64
      decide
  | two p q =>
    refine ⟨?_, ?_⟩
    · show (sStr.pl && ((sd p).pl && ((sd q).pl && true))) = true
      rw [h2]
      rfl
    · show 2 ≤ 64
      decide
theorem sSpot_ne : sSpot ≠ sStr := fun h => absurd (D.str.inj h) (by decide +kernel)
theorem comD_inj {x y : Com} : comD x = comD y ↔ x = y := by
  constructor
  · intro h
    cases x <;> cases y <;> simp_all [comD, sd_inj, sd]
    all_goals first | (refine Prod.ext h.1 (Prod.ext h.2.1 h.2.2)) | (exact ⟨Prod.ext h.1.1 (Prod.ext h.1.2.1 h.1.2.2), Prod.ext h.2.1 (Prod.ext h.2.2.1 h.2.2.2)⟩)
  · intro h; rw [h]
theorem ne_comD {x y : Com} {p : Prop} [Decidable p] (h : x = y ↔ p) : o_ne (comD x) (comD y) = some (.val (.bl (!decide p))) :=
  ne_pl (com_pl x).1 (com_pl y).1 (com_pl x).2 (com_pl y).2 (comD_inj.trans h)
/-! len(set(..)) of spots -/
def zS (p : Spot) : List Int := [p.1, p.2.1, p.2.2]
theorem zS_inj {p q : Spot} (h : zS p = zS q) : p = q := by
  obtain ⟨a, b, c⟩ := p
  obtain ⟨x, y, z⟩ := q
  unfold zS at h
  simp only [List.cons.injEq, and_true] at h
  rw [h.1, h.2.1, h.2.2]
theorem tzS : ∀ L : List Spot, tzL (sds L) = some (L.map zS)
  | [] => rfl
  | p :: L => by
    show (zL [D.int p.1, .int p.2.1, .int p.2.2]).bind (fun k => (tzL (sds L)).bind fun ks => some (k :: ks)) = _
    rw [tzS L]
    rfl
theorem nub_len {α : Type} [DecidableEq α] : ∀ l : List α, (nub l).length ≤ l.length ∧ ((nub l).length = l.length ↔ l.Nodup)
  | [] => ⟨Nat.le_refl _, by simp [nub]⟩
  | b :: l => by
    obtain ⟨h1, h2⟩ := nub_len l
    unfold nub
    by_cases h : b ∈ l
    · rw [if_pos h, List.nodup_cons, List.length_cons]
      exact ⟨by omega, ⟨fun e => by omega, fun e => absurd h e.1⟩⟩
    · rw [if_neg h, List.nodup_cons, List.length_cons, List.length_cons, ← h2]
      exact ⟨by omega, ⟨fun e => ⟨h, by omega⟩, fun e => by omega⟩⟩
theorem nd_zS {L : List Spot} : (L.map zS).Nodup ↔ L.Nodup := by
  constructor
  · intro h
    exact (List.pairwise_map.mp h).imp fun k e => k (by rw [e])
  · intro h
    exact List.pairwise_map.mpr (h.imp fun k e => k (zS_inj e))
/-- how many unlike ones -/
def manyS (L : List Spot) : Nat := (nub (L.map zS)).length
theorem many_nd {L : List Spot} : manyS L = L.length ↔ L.Nodup := by
  unfold manyS
  rw [← nd_zS, ← (nub_len _).2, List.length_map]
theorem lset2_sds {L : List Spot} (h : L.length < 64) : o_lset2 (.tup (sds L)) = some (.val (.int (manyS L))) := by
  show lsetR (sds L) = _
  unfold lsetR
  rw [if_pos (by rw [sds_len]; exact h), tzS]
  rfl
/-! a loop round a spot -/
def waysI : List (Int × Int) := [(4, 0), (7, 1), (3, 1), (1, 1), (2, 3), (1, 4), (0, 5), (-1, 6), (-1, 3), (-1, 1), (-3, 2), (-5, 1), (-4, 0), (-4, -1), (-3, -2), (-1, -1), (-1, -4), (0, -5), (1, -3), (2, -3), (2, -2), (3, -1), (5, -1), (9, -1)]
def mustI : List (Int × Int) := [(4, 0), (-1, 3), (-1, -4)]
def crI (u v : Int × Int) : Int := u.1 * v.2 - u.2 * v.1
def upI (v : Int × Int) : Prop := 0 < v.2 ∨ (v.2 = 0 ∧ 0 < v.1)
instance {v : Int × Int} : Decidable (upI v) := by unfold upI; infer_instance
def befI (u v : Int × Int) : Prop := (upI u ∧ ¬ upI v) ∨ ((upI u ↔ upI v) ∧ 0 < crI u v)
instance {u v : Int × Int} : Decidable (befI u v) := by unfold befI; infer_instance
theorem ways_pw : waysI.Pairwise befI := by decide +kernel
theorem ways_first : ∀ v ∈ waysI, ¬ befI v (4, 0) := by decide +kernel
theorem ways_last : ∀ v ∈ waysI, (v = (-1, -4) ∨ befI (-1, -4) v) → v.2 < 0 := by decide +kernel
theorem ways_mid : ∀ u ∈ waysI, (u = (-1, 3) ∨ befI (-1, 3) u) → upI u → ∀ v ∈ waysI, (v = (-1, -4) ∨ befI v (-1, -4)) → ¬ upI v → 0 < crI u v := by decide +kernel
theorem must_nd : mustI.Nodup := by decide
/-- v, r times as far -/
def farV (r : Rat) (v : Int × Int) : Pt := (r * v.1, r * v.2)
theorem far_up {r : Rat} {v : Int × Int} (hr : 0 < r) : upV (farV r v) ↔ upI v := by
  unfold upV upI farV
  have k1 := (pos_scale (x := (v.1 : Rat)) hr).1
  have k2 := (pos_scale (x := (v.2 : Rat)) hr)
  simp only
  rw [k1, k2.1, k2.2.2]
  have c1 : (0 : Rat) < (v.1 : Rat) ↔ 0 < v.1 := by
    have := Rat.intCast_lt_intCast (a := 0) (b := v.1)
    simpa using this
  have c2 : (0 : Rat) < (v.2 : Rat) ↔ 0 < v.2 := by
    have := Rat.intCast_lt_intCast (a := 0) (b := v.2)
    simpa using this
  have c3 : (v.2 : Rat) = 0 ↔ v.2 = 0 := by
    have := Rat.intCast_inj (a := v.2) (b := 0)
    simpa using this
  rw [c1, c2, c3]
theorem far_cr {r s : Rat} {u v : Int × Int} (hr : 0 < r) (hs : 0 < s) : 0 < crV (farV r u) (farV s v) ↔ 0 < crI u v := by
  have e : crV (farV r u) (farV s v) = r * (s * ((crI u v : Int) : Rat)) := by
    unfold crV farV crI
    simp only
    rw [Rat.intCast_sub, Rat.intCast_mul, Rat.intCast_mul]
    grind
  rw [e, (pos_scale hr).1, (pos_scale hs).1]
  have := Rat.intCast_lt_intCast (a := 0) (b := crI u v)
  simpa using this
theorem far_bef {r s : Rat} {u v : Int × Int} (hr : 0 < r) (hs : 0 < s) : bef (farV r u) (farV s v) ↔ befI u v := by
  unfold bef befI
  rw [far_up hr, far_up hs, far_cr hr hs]
/-- the spot that lies a way's f / w from x, y -/
def onWay (x y : Int) (v : Int × Int) (p : Spot) : Prop := ∃ f w : Int, 0 < f ∧ 0 < w ∧ p = spotZ (x * w + v.1 * f) (y * w + v.2 * f) w
theorem rat_pos {a b : Int} (ha : 0 < a) (hb : 0 < b) : 0 < (a : Rat) / b := by
  have h1 : (0 : Rat) < a := by
    have := Rat.intCast_lt_intCast (a := 0) (b := a)
    simpa using this.mpr ha
  have h2 : (0 : Rat) < b := by
    have := Rat.intCast_lt_intCast (a := 0) (b := b)
    simpa using this.mpr hb
  rw [Rat.div_def]
  exact Rat.mul_pos h1 (Rat.inv_pos.mpr h2)
theorem onWay.far {x y : Int} {v : Int × Int} {p : Spot} (h : onWay x y v p) : IsSpot p ∧ ∃ r : Rat, 0 < r ∧ frm ((x : Rat), (y : Rat)) (ptQ p) = farV r v := by
  obtain ⟨f, w, hf, hw, e⟩ := h
  have k := spotZ_of (x := x * w + v.1 * f) (y := y * w + v.2 * f) (w := w) (by omega)
  rw [← e] at k
  refine ⟨k.toIsSpot, (f : Rat) / w, rat_pos hf hw, ?_⟩
  have e1 := cast_of k.sx
  have e2 := cast_of k.sy
  have n1 := ne_cast (a := w) (by omega)
  have n2 := ne_cast (a := p.2.2) (by have := k.pos; omega)
  rw [Rat.intCast_add, Rat.intCast_mul, Rat.intCast_mul] at e1 e2
  unfold frm ptQ farV
  refine pt_ext ?_ ?_
  · simp only
    grind
  · simp only
    grind
theorem round_of {x y : Int} {B : List (Int × Int)} {S : List Spot} (hb : B.Sublist waysI) (hm : ∀ v ∈ mustI, v ∈ B) (hl : S.length = B.length) (hp : ∀ k (h : k < B.length), onWay x y B[k] (spt S k)) : Simple S ∧ 3 ≤ S.length ∧ S.length ≤ 24 := by
  have l1 : 3 ≤ B.length := nodup_sub must_nd hm
  have l2 : B.length ≤ 24 := hb.length_le
  have pw : B.Pairwise befI := List.Pairwise.sublist hb ways_pw
  have sub : ∀ v ∈ B, v ∈ waysI := fun v h => hb.subset h
  have pw' : ∀ i j (h : i < j) (hj : j < B.length), befI (B[i]'(by omega)) B[j] := fun i j h hj => List.pairwise_iff_getElem.mp pw i j (by omega) hj h
  have at_ : ∀ v ∈ mustI, ∃ k, ∃ h : k < B.length, B[k] = v := fun v h => List.mem_iff_getElem.mp (hm v h)
  have hsp : AllIs S := fun p hp' => by
    obtain ⟨k, hk, e⟩ := List.mem_iff_getElem.mp hp'
    have := (hp k (by omega)).far.1
    rwa [spt_lt hk, e] at this
  refine ⟨round_simple (C := ((x : Rat), (y : Rat))) hsp (by omega) (fun i j hij hj => ?_) (fun i hi => ?_) ?_ ?_ ?_, by omega, by omega⟩
  · obtain ⟨r, r0, e1⟩ := (hp i (by omega)).far.2
    obtain ⟨s, s0, e2⟩ := (hp j (by omega)).far.2
    rw [e1, e2, far_bef r0 s0]
    exact pw' i j hij (by omega)
  · obtain ⟨r, r0, e1⟩ := (hp i (by omega)).far.2
    obtain ⟨s, s0, e2⟩ := (hp (i + 1) (by omega)).far.2
    rw [e1, e2, far_cr r0 s0]
    have b := pw' i (i + 1) (by omega) (by omega)
    have b' := b
    unfold befI at b'
    rcases b' with ⟨u1, u2⟩ | ⟨_, b'⟩
    · obtain ⟨a, ha, ea⟩ := at_ (-1, 3) (by decide)
      obtain ⟨c, hc, ec⟩ := at_ (-1, -4) (by decide)
      have up8 : upI (-1, 3) := by decide
      have up16 : ¬ upI (-1, -4) := by decide
      refine ways_mid _ (sub _ (List.getElem_mem _)) ?_ u1 _ (sub _ (List.getElem_mem _)) ?_ u2
      · rcases Nat.lt_trichotomy a i with h | h | h
        · exact .inr (ea ▸ pw' a i h (by omega))
        · subst h
          exact .inl ea
        · exfalso
          by_cases h2 : a = i + 1
          · subst h2
            rw [ea] at u2
            exact u2 up8
          · have k := pw' (i + 1) a (by omega) ha
            rw [ea] at k
            unfold befI at k
            rcases k with ⟨k, _⟩ | ⟨k, _⟩
            · exact u2 k
            · exact u2 (k.mpr up8)
      · rcases Nat.lt_trichotomy c (i + 1) with h | h | h
        · exfalso
          by_cases h2 : c = i
          · subst h2
            rw [ec] at u1
            exact up16 u1
          · have k := pw' c i (by omega) (by omega)
            rw [ec] at k
            unfold befI at k
            rcases k with ⟨k, _⟩ | ⟨k, _⟩
            · exact up16 k
            · exact up16 (k.mpr u1)
        · subst h
          exact .inl ec
        · exact .inr (ec ▸ pw' (i + 1) c h hc)
    · exact b'
  · obtain ⟨a, ha, ea⟩ := at_ (4, 0) (by decide)
    have e0 : B[0]'(by omega) = (4, 0) := by
      by_cases h : a = 0
      · subst h; exact ea
      · have := pw' 0 a (by omega) ha
        rw [ea] at this
        exact absurd this (ways_first _ (sub _ (List.getElem_mem _)))
    obtain ⟨r, r0, e1⟩ := (hp 0 (by omega)).far.2
    rw [e1, e0]
    unfold farV
    simp only
    exact Rat.mul_zero r
  · obtain ⟨a, ha, ea⟩ := at_ (4, 0) (by decide)
    have e0 : B[0]'(by omega) = (4, 0) := by
      by_cases h : a = 0
      · subst h; exact ea
      · have := pw' 0 a (by omega) ha
        rw [ea] at this
        exact absurd this (ways_first _ (sub _ (List.getElem_mem _)))
    obtain ⟨r, r0, e1⟩ := (hp 0 (by omega)).far.2
    rw [e1, e0]
    unfold farV
    simp only
    exact Rat.mul_pos r0 (by decide +kernel)
  · have hk : S.length - 1 < B.length := by omega
    obtain ⟨c, hc, ec⟩ := at_ (-1, -4) (by decide)
    have e2 : (B[S.length - 1]).2 < 0 := by
      refine ways_last _ (sub _ (List.getElem_mem _)) ?_
      by_cases h : c = S.length - 1
      · subst h; exact .inl ec
      · exact .inr (ec ▸ pw' c (S.length - 1) (by omega) hk)
    obtain ⟨r, r0, e1⟩ := (hp _ hk).far.2
    rw [e1]
    unfold farV
    simp only
    have h1 : (0 : Rat) < ((-(B[S.length - 1]).2 : Int) : Rat) := by
      have := Rat.intCast_lt_intCast (a := 0) (b := -(B[S.length - 1]).2)
      simpa using this.mpr (by omega)
    have h2 := Rat.mul_pos r0 h1
    rw [Rat.intCast_neg] at h2
    grind
end Lw
set_option maxRecDepth 100000
set_option maxHeartbeats 4000000
set_option exponentiation.threshold 20000
set_option autoImplicit false
namespace Lw
open PySem PySem.Spec PyProof.Rows L2 Vz
local macro_rules | `(tactic| walk_at "ev") => `(tactic| simp only [Vz.Ok_some, Vz.Ok_none, Vz.Ok_bind, Vz.Th_eq, Vz.Ok_need, Vz.Ok_ite, if_false_right, if_false_left, Vz.vf_eq, Vz.kvf_eq, Vz.e_c_eq, Vz.vc_eq, Vz.e_v_eq, Vz.getV_eq, Vz.vv_eq, Vz.getW_eq, Vz.e_take_eq, Vz.getT_eq, Vz.e_fz_eq, Vz.getF_own, Vz.getF_val, Vz.kz_eq, Vz.k1_eq, Vz.e2_eq, Vz.k2_eq, Vz.k2b_eq, Vz.e1_eq, Vz.klf_eq, Vz.k2o'_eq, Vz.k2o_eq, Vz.has_eq, Vz.e2o_eq, Vz.k2r'_eq, Vz.k2r_eq, Vz.e2r_eq, Vz.kBo_eq, Vz.eBo_eq, Vz.eB_eq, Vz.kB_eq, Vz.a_nil_eq, Vz.a_cons_eq, Vz.ka_eq, Vz.ka2_eq, Vz.r_nil_eq, Vz.r_v_eq, Vz.kr_eq, Vz.kr2_eq, Vz.r_m_eq, Vz.kc3_eq, Vz.kc2_eq, Vz.kc_eq, Vz.e_call_eq, Vz.ksl_eq, Vz.kso_eq, Vz.slotsOf_nil, Vz.slotsOf_d, Vz.slotsOf_m, Vz.msOf_nil, Vz.msOf_d, Vz.msOf_m, Vz.owOf_own, Vz.owOf_arg, Vz.isO_own, Vz.isO_arg, Vz.backs_nil, Vz.backs_d, Vz.backs_m, Vz.putOw_eq, Vz.putK_own, Vz.putK_arg, Vz.bf_eq, Vz.kbf_eq, Vz.t_and_eq, Vz.t_or_eq, Vz.t_not_eq, Vz.kand_eq, Vz.kor_eq, Vz.knot_eq, Vz.tv_eq, Vz.ktv_eq, Vz.e_if_eq, Vz.kif_eq, Vz.ktr_eq, Vz.t_tru_eq, Vz.ktru_eq, Vz.tru_non, Vz.tru_bl, Vz.tru_int, Vz.tru_tup, Vz.tru_lst, Vz.t_yes_eq, Vz.kch4_eq, Vz.kch3_eq, Vz.kch2_eq, Vz.kch1_eq, Vz.kch0_eq, Vz.e_chain_eq, Vz.p_no_eq, Vz.p_at_eq, Vz.kpa_eq, Vz.ksl3_eq, Vz.ksl2_eq, Vz.ksl1_eq, Vz.e_sl_eq, Vz.o_sl_lst, Vz.o_sl_tup, Vz.kso3'_eq, Vz.kso3_eq, Vz.kso2_eq, Vz.e_slo_eq, Vz.c_seq_eq, Vz.ksq_nx, Vz.ksq_rt, Vz.ksq_bk, Vz.ksq_ct, Vz.c_nx_eq, Vz.c_bk_eq, Vz.c_ct_eq, Vz.c_retN_eq, Vz.c_ret_eq, Vz.krt_eq, Vz.c_ex_eq, Vz.kex_eq, Vz.c_if_eq, Vz.kci_eq, Vz.knx_eq, Vz.c_asg_eq, Vz.kas_eq, Vz.g_n_eq, Vz.gv_eq, Vz.Rd_val, Vz.Rd_own, Vz.Owd_lst, Vz.Rsl_val, Vz.Rsl_own, Vz.isArg_val, Vz.isArg_own, Vz.isArg_nov, Vz.gs_nil_eq, Vz.gs_cons_eq, Vz.kgs_eq, Vz.g_tup_eq, Vz.g_lst_eq, Vz.e_callv_eq, Vz.kp2_eq, Vz.c_par_eq, Vz.kp_eq, Vz.kq3_eq, Vz.kq2_eq, Vz.c_par3_eq, Vz.kq_eq, Vz.kap'_eq, Vz.kap_eq, Vz.hasL_eq, Vz.e_app_eq, Vz.e_clr_eq, Vz.kixs_eq, Vz.kix'_eq, Vz.kix_eq, Vz.g_ix_eq, Vz.c_for_eq', Vz.kfo_eq, Vz.s_seq_eq, Vz.kss_lst, Vz.kss_tup, Vz.s_rng_eq, Vz.ksr_ok, Vz.s_rng2_eq, Vz.ksr2_ok, Vz.s_rng3_eq, Vz.s_enum_eq, Vz.kse_eq, Vz.s_zip_eq, Vz.ksz_lst, Vz.ksz_tup, Vz.kfn_rt, Vz.kfn_nx, Vz.outArgs, Vz.ok_fdiv, Vz.ok_mod, Vz.ok_pow, Vz.ok_mul, Vz.add_int, Vz.ok_add_str, Vz.ok_add_lst, Vz.ok_add_tup, Vz.sub_int, Vz.neg_int, Vz.lt_int, Vz.ltX_int, Vz.gtX_int, Vz.leX_int, Vz.geX_int, Vz.maxX_int, Vz.minX_int, Vz.le_int', Vz.gt_int, Vz.ge_int, Vz.eq_int', Vz.ne_int', Vz.eq_bl', Vz.ne_bl', Vz.is_non, Vz.isnt_non, Vz.is_bl, Vz.isNon_non, Vz.isNon_tup, Vz.isNon_int, Vz.isNon_str, Vz.isNon_lst, Vz.isNon_bl, Vz.f1_eq, Vz.f2_eq, Vz.abs_int, Vz.int_int, Vz.int_bl, Vz.max_int, Vz.min_int, Vz.len_lst, Vz.len_tup, Vz.ok_tup, Vz.ok_lst, Vz.list_lst, Vz.list_tup, Vz.tuple_lst, Vz.tuple_tup, Vz.kat_eq, Vz.rngL2, Vz.rngL3, Vz.ok_ix_str, Vz.ok_mul_str, Vz.ok_str_int, Vz.lcGo_nil, Vz.lcGo_cons, Vz.kl1_eq, Vz.kl2_eq, Vz.kl3_eq, Vz.rest_eq, Vz.restGo_cons, Vz.restGo_nil, Vz.forGo_nil, Vz.forGo_cons, Vz.kf1_eq, Vz.kf2_nx, Vz.kf2_ct, Vz.kf2_bk, Vz.kf2_rt, Vz.klc_eq, Vz.e_lc_eq, Vz.noOw_nil, Vz.noOw_cons, Vz.nOw_no, Vz.nOw_val, Vz.wipeE_nil, Vz.wipeE_cons, Vz.LcF_eq, Vz.LcC_eq, Vz.LcT_eq, Vz.LiF_eq, Vz.LiC_eq, Vz.LiT_eq, Vz.isi_int_int, Vz.isi_int_bool, Vz.isi_bool_bool, Vz.isi_tup_tuple, Vz.isi_tup_list, Vz.isi_lst_list, Vz.isi_str_str, Vz.isi_bool_int, Vz.isi_lst_tuple, Vz.isi_int_str, Vz.isi_non_tuple, Vz.isi_int_tuple, Vz.ix_lst, Vz.ix_tup', Vz.atI_0, Vz.atI_1, Vz.atI_2, Vz.atI_3, Vz.atI_4, Vz.atI_5, Vz.atI_6, Vz.atI_7, Vz.atI_8, Vz.atI_9, Vz.Rlf_val, Vz.lf_int, Vz.lf_bl, Vz.lf_str, Vz.lf_non, Vz.lf_tup, Vz.lfs_nil, Vz.lfs_cons, Vz.rev_t_tup, Vz.rev_t_lst, Vz.rev_l_tup, Vz.rev_l_lst, Vz.s_rev_eq, Vz.ksrev_lst, Vz.ksrev_tup, Vz.rngOK_0, Vz.rngOK_1, Vz.rngOK_2, Vz.rngOK_3, Vz.rngOK_4, Vz.rngOK_5, Vz.rngOK_6, Vz.rngOK_7, Vz.rngOK_8, Vz.rngOK_9, Vz.rngOK_10, Vz.rngOK_11, Vz.rngOK_12, Vz.rngOK_13, Vz.rngOK_14, Vz.rngOK_15, Vz.rngOK_16, Vz.rngOK_17, Vz.rngOK_18, Vz.rngOK_19, Vz.rngOK_20, Vz.rngOK_21, Vz.rngOK_22, Vz.rngOK_23, Vz.rngOK_24, Vz.rngOK_25, Vz.rngOK_26, Vz.rngOK_27, Vz.rngOK_28, Vz.rngOK_29, Vz.rngOK_30, Vz.rngOK_31, Vz.rngOK_32, Vz.rngOK_33, Vz.rngOK_34, Vz.rngOK_35, Vz.rngOK_36, Vz.rngOK_37, Vz.rngOK_38, Vz.rngOK_39, Vz.rngOK_40, Vz.rngOK_63,
  List.getElem?_cons_zero, List.getElem?_cons_succ, List.getElem?_nil, List.set_cons_zero, List.set_cons_succ, List.length_cons, List.length_nil, List.cons_append, List.nil_append, List.append_nil, List.map_cons, List.map_nil, List.nodup_cons, List.not_mem_nil, List.mem_cons, List.nodup_nil, List.replicate, Nat.reduceAdd, Nat.reduceSub, Nat.reduceLT, Nat.reduceLeDiff, Nat.reduceEqDiff, Nat.reduceLT, Nat.reduceLeDiff, Int.reduceToNat, Int.reduceLT, Int.reduceLE, Int.reduceEq, Int.reduceNe, Int.toNat_zero, Int.zero_sub, Int.cast_ofNat_Int, Int.natCast_one, Int.natCast_zero,  Int.reducePow, Int.reduceMul, Int.reduceAdd, Int.reduceSub, Int.reduceNeg, Nat.zero_add, Nat.reduceMul, reduceIte, if_true, if_false, and_self, and_true, true_and, not_false_eq_true, not_true_eq_false, Bool.false_eq_true, Bool.not_eq_true', Bool.not_true, Bool.not_false, decide_eq_true_eq, decide_eq_false_iff_not, Bool.true_and, Bool.and_true, reduceCtorEq, or_false, false_or, or_true, true_or, and_false, false_and, Int.reduceNeg, not_false, Nat.lt_irrefl, Nat.succ_ne_zero, ne_eq, Nat.add_one_ne_zero, Nat.zero_ne_one, Nat.one_ne_zero, Nat.lt_add_one, Nat.zero_lt_succ])
local macro_rules | `(tactic| walk_at "bd1") => `(tactic| first | assumption | (apply Bd.mul <;> walk_at "bd1") | (apply Bd.add <;> walk_at "bd1") | (apply Bd.sub <;> walk_at "bd1") | (apply Bd.neg; walk_at "bd1") | (apply Bd.abs; walk_at "bd1") | (apply Bd.ite <;> walk_at "bd1") | (apply Bd.fdiv; walk_at "bd1") | (apply Bd.fmod; (· walk_at "bd1"); (· first | assumption | omega)) | exact Bd.self)
local macro_rules | `(tactic| walk_at "sz") => `(tactic| first | assumption | (apply Bd.mulOk; (· walk_at "bd1"); (· walk_at "bd1"); (· first | decide | omega)) | (apply mulOk_right; apply Bd.le; (· walk_at "bd1"); (· first | decide | omega)) | (apply mulOk_left; apply Bd.le; (· walk_at "bd1"); (· first | decide | omega)) | (apply Bd.divOk; (· walk_at "bd1"); (· first | assumption | omega); (· first | decide | omega)) | (apply Bd.le; (· walk_at "bd1"); (· first | decide | omega)) | (refine ⟨?_, ?_, ?_⟩ <;> decide) | decide | omega)
local macro_rules | `(tactic| walk_at "szs") => `(tactic| first | trivial | walk_at "sz" | (apply And.intro <;> walk_at "szs") | rfl)
local macro_rules | `(tactic| walk_at "szm") => `(tactic| first | walk_at "sz" | (apply And.intro <;> walk_at "szm") | skip)
open Classical in
noncomputable def simB (L : List Spot) : Bool := decide (Simple L)
theorem simB_iff {L : List Spot} : simB L = true ↔ Simple L := by unfold simB; exact @decide_eq_true_iff _ (Classical.propDecidable _)
theorem simB_no {L : List Spot} (h : ¬ Simple L) : simB L = false := Bool.eq_false_iff.mpr fun e => h (simB_iff.mp e)
theorem simB_yes {L : List Spot} (h : Simple L) : simB L = true := simB_iff.mpr h
theorem simB_congr {L M : List Spot} (h : Simple L ↔ Simple M) : simB L = simB M := by
  rw [Bool.eq_iff_iff, simB_iff, simB_iff]; exact h
theorem AllSB.is {n : Nat} {L : List Spot} (h : AllSB n L) : AllIs L := fun p hp => (h p hp).toIsSpot
theorem at_sides {L : List Spot} {n k : Nat} {i : Int} (hi : i = (k : Int)) (h : k < n) : atI (sidesD L n) i = some (sideD L k) := by
  rw [hi, atI_nat (by rw [sidesD_len]; exact h), sidesD_at h]
theorem sideD_eq (L : List Spot) (k : Nat) : sideD L k = sdd (spt L k) (spt L ((k + 1) % L.length)) := rfl
theorem due_next {L : List Spot} {j k : Nat} (h : j + 1 = k) : dueC L j k = .one (spt L k) := by unfold dueC; rw [if_pos h]
theorem due_last {L : List Spot} {j k : Nat} (h : ¬ j + 1 = k) (h1 : j = 0) (h2 : k = L.length - 1) : dueC L j k = .one (spt L 0) := by unfold dueC; rw [if_neg h, if_pos ⟨h1, h2⟩]
theorem due_no {L : List Spot} {j k : Nat} (h : ¬ j + 1 = k) (h1 : ¬ (j = 0 ∧ k = L.length - 1)) : dueC L j k = .no := by unfold dueC; rw [if_neg h, if_neg h1]
theorem m_is_simple_eq {L : List Spot} (hs : AllSB 150 L) (hl : L.length ≤ 60) : m_is_simple [.val (.tup (sds L))] = some (.val (.bl (decide (3 ≤ L.length) && simB L)), [.val (.tup (sds L))]) := by
  apply Ok.eq
  refine Ok_fn rfl rfl ?_
  unfold c_is_simple
  walk_at "ev"
  rw [sds_len]
  by_cases h3 : (L.length : Int) < 3
  · rw [if_pos h3, decide_eq_false (show ¬ 3 ≤ L.length by omega), Bool.false_and]
  · have h3' : 3 ≤ L.length := by omega
    rw [if_neg h3, decide_eq_true h3', Bool.true_and]
    rw [lset2_sds (by omega)]
    walk_at "ev"
    rw [sds_len]
    by_cases hd : L.Nodup
    · have em : (manyS L : Int) = L.length := by rw [many_nd.mpr hd]
      rw [em, if_neg fun k => k rfl]
      unfold c_is_simple_t3
      walk_at "ev"
      rw [m_sides_of_eq (by omega)]
      walk_at "ev"
      rw [sidesD_len]
      refine ⟨rngOK_of (by omega), ?_⟩
      rw [show ((L.length : Int) - 1 + 1).toNat = L.length by omega]
      refine forRng_ok (fun i e => (∀ k, k < i → ∀ j, j < k → comK L j k = dueC L j k) ∧ ∃ s3 s4 s5 : Sl, Sl.isArg (some s3) = false ∧ Sl.isArg (some s4) = false ∧ Sl.isArg (some s5) = false ∧ e = [.val (.tup (sds L)), .val (.lst (sidesD L L.length)), .val (.int ((L.length : Int) - 1)), s3, s4, s5])
        ⟨fun k hk => absurd hk (Nat.not_lt_zero _), .no, .no, .no, rfl, rfl, rfl, rfl⟩ (fun i e hi he => ?_) (fun e he => ?_)
      · obtain ⟨hk, s3, s4, s5, n3, n4, n5, rfl⟩ := he
        unfold c_is_simple_b5
        walk_at "ev"
        refine ⟨n3, rngOK_of (by omega), ?_⟩
        rw [show (0 + (i : Int)).toNat = i by omega]
        refine forRng_ok (fun j e => (∀ m, m < j → comK L m i = dueC L m i) ∧ ∃ s4 s5 : Sl, Sl.isArg (some s4) = false ∧ Sl.isArg (some s5) = false ∧ e = [.val (.tup (sds L)), .val (.lst (sidesD L L.length)), .val (.int ((L.length : Int) - 1)), .val (.int (0 + (i : Int))), s4, s5])
          ⟨fun k hk => absurd hk (Nat.not_lt_zero _), _, _, n4, n5, rfl⟩ (fun j e hj he => ?_) (fun e he => ?_)
        · obtain ⟨hm, s4, s5, n4, n5, rfl⟩ := he
          have o1 := side_ok h3' hs.is hd (k := j) (by omega)
          have o2 := side_ok h3' hs.is hd hi
          have b1 := hs _ (spt_mem (k := j) (by omega))
          have b2 := hs _ (spt_mem (next_lt (k := j) (n := L.length) (by omega)))
          have b3 := hs _ (spt_mem hi)
          have b4 := hs _ (spt_mem (next_lt hi))
          have fin : ∀ s5 : Sl, s5 = .val (comD (dueC L j i)) → Ok (c_is_simple_t12 [.val (.tup (sds L)), .val (.lst (sidesD L L.length)), .val (.int ((L.length : Int) - 1)), .val (.int (0 + (i : Int))), .val (.int (0 + (j : Int))), s5])
              (Turn (fun e => (∀ m, m < j + 1 → comK L m i = dueC L m i) ∧ ∃ s4 s5 : Sl, Sl.isArg (some s4) = false ∧ Sl.isArg (some s5) = false ∧ e = [.val (.tup (sds L)), .val (.lst (sidesD L L.length)), .val (.int ((L.length : Int) - 1)), .val (.int (0 + (i : Int))), s4, s5])
                (fun x => Turn (fun e => (∀ k, k < i + 1 → ∀ j, j < k → comK L j k = dueC L j k) ∧ ∃ s3 s4 s5 : Sl, Sl.isArg (some s3) = false ∧ Sl.isArg (some s4) = false ∧ Sl.isArg (some s5) = false ∧ e = [.val (.tup (sds L)), .val (.lst (sidesD L L.length)), .val (.int ((L.length : Int) - 1)), s3, s4, s5])
                  (Th (ksq c_is_simple_t14) (Th (kfn [.val (.tup (sds L))]) fun z => z = (.val (.bl (simB L)), [.val (.tup (sds L))]))) x)) := by
            rintro s5 rfl
            unfold c_is_simple_t12
            walk_at "ev"
            rw [at_sides (k := j) (by omega) (by omega)]
            walk_at "ev"
            rw [at_sides (k := i) (by omega) hi]
            walk_at "ev"
            rw [sideD_eq, sideD_eq, (m_common_eq (by decide) o1 o2 b1 b2 b3 b4).1]
            walk_at "ev"
            have e : comZ (spt L j) (spt L ((j + 1) % L.length)) (spt L i) (spt L ((i + 1) % L.length)) = comK L j i := rfl
            rw [e]
            by_cases hc : comK L j i = dueC L j i
            · rw [ne_comD (p := True) ⟨fun _ => trivial, fun _ => hc⟩]
              walk_at "ev"
              rw [Turn_nx]
              refine ⟨fun m hm' => ?_, _, _, rfl, rfl, rfl⟩
              by_cases e : m = j
              · rw [e]; exact hc
              · exact hm m (by omega)
            · rw [ne_comD (p := False) ⟨fun x => hc x, False.elim⟩]
              walk_at "ev"
              rw [Turn_rt, Turn_rt]
              walk_at "ev"
              rw [simB_no fun k => hc (((raw_simple h3' hs.is).mpr k).2 i hi j hj)]
          unfold c_is_simple_b6
          walk_at "ev"
          refine ⟨n4, n5, ?_⟩
          by_cases e1 : j + 1 = i
          · have due := due_next (L := L) e1
            rw [if_pos (show (0 + (j : Int) + 1) = 0 + (i : Int) by omega)]
            rw [atI_spt (k := i) (by omega) hi]
            walk_at "ev"
            exact fin _ (by rw [due]; rfl)
          · have due0 := due_no (L := L) e1
            have due1 := due_last (L := L) e1
            rw [if_neg (show ¬ (0 + (j : Int) + 1) = 0 + (i : Int) by omega)]
            by_cases e2 : j = 0
            · rw [if_pos (show (0 + (j : Int)) = 0 by omega)]
              by_cases e3 : i = L.length - 1
              · have due := due1 e2 e3
                rw [if_pos (show (0 + (i : Int)) = (L.length : Int) - 1 by omega), sds_at (k := 0) (by omega)]
                walk_at "ev"
                exact fin _ (by rw [due]; rfl)
              · have due := due0 (fun k => e3 k.2)
                rw [if_neg (show ¬ (0 + (i : Int)) = (L.length : Int) - 1 by omega)]
                exact fin _ (by rw [due]; rfl)
            · have due := due0 (fun k => e2 k.1)
              rw [if_neg (show ¬ (0 + (j : Int)) = 0 by omega)]
              exact fin _ (by rw [due]; rfl)
        · obtain ⟨hm, s4, s5, n4, n5, rfl⟩ := he
          rw [Turn_nx]
          refine ⟨fun k hk' j hj => ?_, _, _, _, rfl, n4, n5, rfl⟩
          by_cases e : k = i
          · subst e
            exact hm j hj
          · exact hk k (by omega) j hj
      · obtain ⟨hk, s3, s4, s5, n3, n4, n5, rfl⟩ := he
        unfold c_is_simple_t14
        walk_at "ev"
        rw [simB_yes ((raw_simple h3' hs.is).mp ⟨hd, hk⟩)]
    · have em : (manyS L : Int) ≠ L.length := fun e => hd (many_nd.mp (by omega))
      rw [if_pos em]
      rw [simB_no fun k => hd k.nd]
theorem m_l_is_simple_eq {L : List Spot} (h3 : 3 ≤ L.length) (hs : AllSB 150 L) (hl : L.length ≤ 60) : m_l_is_simple [.val (.tup (sds L))] = some (.val (.bl (simB L)), [.val (.tup (sds L))]) := by
  apply Ok.eq
  refine Ok_fn rfl rfl ?_
  unfold c_l_is_simple
  walk_at "ev"
  rw [lset2_sds (by omega)]
  walk_at "ev"
  rw [sds_len]
  by_cases hd : L.Nodup
  · have em : (manyS L : Int) = L.length := by rw [many_nd.mpr hd]
    rw [em]
    rw [if_neg fun k => k rfl]
    unfold c_l_is_simple_t3
    walk_at "ev"
    rw [sds_len]
    refine ⟨rngOK_nat (by omega), ?_⟩
    rw [Int.toNat_natCast, rng_map]
    refine Ok_lcM _ (sideD L) (by rw [List.length_range]; omega) (fun k hk => ?_) ?_
    · have hk := List.mem_range.mp hk
      walk_at "ev"
      rw [atI_spt (k := k) (by omega) hk]
      walk_at "ev"
      refine ⟨by omega, ?_⟩
      have e1 : (0 + (k : Int) + 1).fmod (L.length : Int) = (((k + 1) % L.length : Nat) : Int) := by
        rw [Int.fmod_eq_emod_of_nonneg _ (by omega), Int.natCast_emod]
        congr 1
        omega
      rw [atI_spt (k := (k + 1) % L.length) e1 (Nat.mod_lt _ (by omega))]
      walk_at "ev"
      rfl
    · have e2 : (List.range L.length).map (sideD L) = sidesD L L.length := rfl
      rw [e2]
      walk_at "ev"
      refine ⟨rngOK_nat (by omega), ?_⟩
      rw [Int.toNat_natCast]
      refine forRng_ok (fun i e => (∀ k, k < i → ∀ j, j < k → comK L j k = dueC L j k) ∧ ∃ s3 s4 s5 : Sl, Sl.isArg (some s3) = false ∧ Sl.isArg (some s4) = false ∧ Sl.isArg (some s5) = false ∧ e = [.val (.tup (sds L)), .val (.int (L.length : Int)), .val (.lst (sidesD L L.length)), s3, s4, s5])
        ⟨fun k hk => absurd hk (Nat.not_lt_zero _), .no, .no, .no, rfl, rfl, rfl, rfl⟩ (fun i e hi he => ?_) (fun e he => ?_)
      · obtain ⟨hk, s3, s4, s5, n3, n4, n5, rfl⟩ := he
        unfold c_l_is_simple_b5
        walk_at "ev"
        refine ⟨n3, rngOK_of (by omega), ?_⟩
        rw [show (0 + (i : Int)).toNat = i by omega]
        refine forRng_ok (fun j e => (∀ m, m < j → comK L m i = dueC L m i) ∧ ∃ s4 s5 : Sl, Sl.isArg (some s4) = false ∧ Sl.isArg (some s5) = false ∧ e = [.val (.tup (sds L)), .val (.int (L.length : Int)), .val (.lst (sidesD L L.length)), .val (.int (0 + (i : Int))), s4, s5])
          ⟨fun k hk => absurd hk (Nat.not_lt_zero _), _, _, n4, n5, rfl⟩ (fun j e hj he => ?_) (fun e he => ?_)
        · obtain ⟨hm, s4, s5, n4, n5, rfl⟩ := he
          have o1 := side_ok h3 hs.is hd (k := j) (by omega)
          have o2 := side_ok h3 hs.is hd hi
          have b1 := hs _ (spt_mem (k := j) (by omega))
          have b2 := hs _ (spt_mem (next_lt (k := j) (n := L.length) (by omega)))
          have b3 := hs _ (spt_mem hi)
          have b4 := hs _ (spt_mem (next_lt hi))
          have fin : ∀ s5 : Sl, s5 = .val (comD (dueC L j i)) → Ok (c_l_is_simple_t12 [.val (.tup (sds L)), .val (.int (L.length : Int)), .val (.lst (sidesD L L.length)), .val (.int (0 + (i : Int))), .val (.int (0 + (j : Int))), s5])
              (Turn (fun e => (∀ m, m < j + 1 → comK L m i = dueC L m i) ∧ ∃ s4 s5 : Sl, Sl.isArg (some s4) = false ∧ Sl.isArg (some s5) = false ∧ e = [.val (.tup (sds L)), .val (.int (L.length : Int)), .val (.lst (sidesD L L.length)), .val (.int (0 + (i : Int))), s4, s5])
                (fun x => Turn (fun e => (∀ k, k < i + 1 → ∀ j, j < k → comK L j k = dueC L j k) ∧ ∃ s3 s4 s5 : Sl, Sl.isArg (some s3) = false ∧ Sl.isArg (some s4) = false ∧ Sl.isArg (some s5) = false ∧ e = [.val (.tup (sds L)), .val (.int (L.length : Int)), .val (.lst (sidesD L L.length)), s3, s4, s5])
                  (Th (ksq c_l_is_simple_t14) (Th (kfn [.val (.tup (sds L))]) fun z => z = (.val (.bl (simB L)), [.val (.tup (sds L))]))) x)) := by
            rintro s5 rfl
            unfold c_l_is_simple_t12
            walk_at "ev"
            rw [at_sides (k := j) (by omega) (by omega)]
            walk_at "ev"
            rw [at_sides (k := i) (by omega) hi]
            walk_at "ev"
            rw [sideD_eq, sideD_eq, m_shares_eq (by decide) b1 b2 b3 b4, ← sh_com o1 o2]
            walk_at "ev"
            have e : comZ (spt L j) (spt L ((j + 1) % L.length)) (spt L i) (spt L ((i + 1) % L.length)) = comK L j i := rfl
            rw [e]
            by_cases hc : comK L j i = dueC L j i
            · rw [ne_comD (p := True) ⟨fun _ => trivial, fun _ => hc⟩]
              walk_at "ev"
              rw [Turn_nx]
              refine ⟨fun m hm' => ?_, _, _, rfl, rfl, rfl⟩
              by_cases e : m = j
              · rw [e]; exact hc
              · exact hm m (by omega)
            · rw [ne_comD (p := False) ⟨fun x => hc x, False.elim⟩]
              walk_at "ev"
              rw [Turn_rt, Turn_rt]
              walk_at "ev"
              rw [simB_no fun k => hc (((raw_simple h3 hs.is).mpr k).2 i hi j hj)]
          unfold c_l_is_simple_b6 c_l_is_simple_t10
          walk_at "ev"
          refine ⟨n4, n5, ?_⟩
          by_cases e1 : j + 1 = i
          · have due := due_next (L := L) e1
            rw [if_pos (show (0 + (i : Int) - (0 + (j : Int))) = 1 by omega)]
            rw [atI_spt (k := i) (by omega) hi]
            walk_at "ev"
            by_cases e2 : j = 0
            · rw [if_pos (show (0 + (j : Int)) = 0 by omega), if_neg (show ¬ (0 + (i : Int)) = (L.length : Int) - 1 by omega)]
              exact fin _ (by rw [due]; rfl)
            · rw [if_neg (show ¬ (0 + (j : Int)) = 0 by omega)]
              exact fin _ (by rw [due]; rfl)
          · have due0 := due_no (L := L) e1
            have due1 := due_last (L := L) e1
            rw [if_neg (show ¬ (0 + (i : Int) - (0 + (j : Int))) = 1 by omega)]
            by_cases e2 : j = 0
            · rw [if_pos (show (0 + (j : Int)) = 0 by omega)]
              by_cases e3 : i = L.length - 1
              · have due := due1 e2 e3
                rw [if_pos (show (0 + (i : Int)) = (L.length : Int) - 1 by omega), sds_at (k := 0) (by omega)]
                walk_at "ev"
                exact fin _ (by rw [due]; rfl)
              · have due := due0 (fun k => e3 k.2)
                rw [if_neg (show ¬ (0 + (i : Int)) = (L.length : Int) - 1 by omega)]
                exact fin _ (by rw [due]; rfl)
            · have due := due0 (fun k => e2 k.1)
              rw [if_neg (show ¬ (0 + (j : Int)) = 0 by omega)]
              exact fin _ (by rw [due]; rfl)
        · obtain ⟨hm, s4, s5, n4, n5, rfl⟩ := he
          rw [Turn_nx]
          refine ⟨fun k hk' j hj => ?_, _, _, _, rfl, n4, n5, rfl⟩
          by_cases e : k = i
          · subst e
            exact hm j hj
          · exact hk k (by omega) j hj
      · obtain ⟨hk, s3, s4, s5, n3, n4, n5, rfl⟩ := he
        unfold c_l_is_simple_t14
        walk_at "ev"
        rw [simB_yes ((raw_simple h3 hs.is).mp ⟨hd, hk⟩)]
  · have em : (manyS L : Int) ≠ L.length := fun e => hd (many_nd.mp (by omega))
    rw [if_pos em, simB_no fun k => hd k.nd]
/-! the loop round a spot -/
theorem stp_ways : o_stp 8 (.lst (waysI.map pr)) = some (.own (.lst (mustI.map pr))) := by rfl
theorem in_must {v : Int × Int} : o_inX false (pr v) (.lst (mustI.map pr)) = some (.val (.bl (decide (v ∈ mustI)))) := by
  refine in_pl its_lst rfl (pls_map fun _ _ => rfl) (show 1 ≤ 64 by decide) (Nat.lt_of_le_of_lt (deps_map (n := 1) fun q _ => Nat.le_refl 1) (by decide)) ?_
  rw [List.mem_map]
  exact ⟨fun ⟨q, h1, h2⟩ => nd_inj2.mp h2 ▸ h1, fun h => ⟨v, h, rfl⟩⟩
theorem k_round {a b : Int} {P : R × List Sl → Prop} (h : ∀ (L : List Spot) (a' b' : Int), Simple L → AllSB 42 L → 3 ≤ L.length → L.length ≤ 24 → P (.val (.tup (sds L)), [pool a' b'])) : Ok (m_l_round [pool a b]) P := by
  refine Ok_fn rfl rfl ?_
  unfold c_l_round
  walk_at "ev"
  have ew : ([.tup [.int 4, .int 0], .tup [.int 7, .int 1], .tup [.int 3, .int 1], .tup [.int 1, .int 1], .tup [.int 2, .int 3], .tup [.int 1, .int 4], .tup [.int 0, .int 5], .tup [.int (-1), .int 6], .tup [.int (-1), .int 3], .tup [.int (-1), .int 1], .tup [.int (-3), .int 2], .tup [.int (-5), .int 1], .tup [.int (-4), .int 0], .tup [.int (-4), .int (-1)], .tup [.int (-3), .int (-2)], .tup [.int (-1), .int (-1)], .tup [.int (-1), .int (-4)], .tup [.int 0, .int (-5)], .tup [.int 1, .int (-3)], .tup [.int 2, .int (-3)], .tup [.int 2, .int (-2)], .tup [.int 3, .int (-1)], .tup [.int 5, .int (-1)], .tup [.int 9, .int (-1)]] : List D) = waysI.map pr := rfl
  rw [ew]
  clear ew
  refine k_digit (by decide) (by walk_at "sz") fun x p1 q1 x0 x1 => ?_
  walk_at "ev"
  refine k_digit (by decide) (by walk_at "sz") fun y p2 q2 y0 y1 => ?_
  walk_at "ev"
  refine k_digit (by decide) (by walk_at "sz") fun z p3 q3 z0 z1 => ?_
  walk_at "ev"
  generalize hx : x - 1000 = cx
  generalize hy : y - 1000 = cy
  have wl : waysI.length = 24 := rfl
  refine lcGo_ok (fun i e acc => ∃ (a b : Int) (B : List (Int × Int)), B.Sublist (waysI.take i) ∧ (∀ v ∈ waysI.take i, v ∈ mustI → v ∈ B) ∧ acc = B.map pr ∧ e = [pool a b, .val (.lst (waysI.map pr)), .val (.int cx), .val (.int cy), .val (.int (1 + z)), .no, .no, .no, .no, .no]) _ _ _
    ⟨_, _, [], List.Sublist.refl _, fun v hv => absurd hv (by simp), rfl, rfl⟩ (fun i d e acc hd he => ?_) (fun e acc he => ?_)
  · obtain ⟨a, b, B, h1, h2, rfl, rfl⟩ := he
    rw [List.getElem?_map] at hd
    obtain ⟨v, hv, rfl⟩ := Option.map_eq_some_iff.mp hd
    obtain ⟨hi, ev⟩ := List.getElem?_eq_some_iff.mp hv
    have et : waysI.take (i + 1) = waysI.take i ++ [v] := by rw [List.take_add_one, hv]; rfl
    have lb : B.length < 100000 := by
      have := h1.length_le
      rw [List.length_take] at this
      omega
    have yes : ∀ a' b' : Int, ∃ (a b : Int) (B' : List (Int × Int)), B'.Sublist (waysI.take (i + 1)) ∧ (∀ v ∈ waysI.take (i + 1), v ∈ mustI → v ∈ B') ∧ B.map pr ++ [pr v] = B'.map pr ∧
        [pool a' b', .val (.lst (waysI.map pr)), .val (.int cx), .val (.int cy), .val (.int (1 + z)), .no, .no, .no, .no, .no] = [pool a b, .val (.lst (waysI.map pr)), .val (.int cx), .val (.int cy), .val (.int (1 + z)), .no, .no, .no, .no, .no] := by
      intro a' b'
      refine ⟨a', b', B ++ [v], ?_, ?_, by rw [List.map_append]; rfl, rfl⟩
      · rw [et]
        exact h1.append (List.Sublist.refl _)
      · intro w hw hm
        rw [et] at hw
        rcases List.mem_append.mp hw with k | k
        · exact List.mem_append_left _ (h2 w k hm)
        · exact List.mem_append_right _ k
    have no : v ∉ mustI → ∀ a' b' : Int, ∃ (a b : Int) (B' : List (Int × Int)), B'.Sublist (waysI.take (i + 1)) ∧ (∀ v ∈ waysI.take (i + 1), v ∈ mustI → v ∈ B') ∧ B.map pr = B'.map pr ∧
        [pool a' b', .val (.lst (waysI.map pr)), .val (.int cx), .val (.int cy), .val (.int (1 + z)), .no, .no, .no, .no, .no] = [pool a b, .val (.lst (waysI.map pr)), .val (.int cx), .val (.int cy), .val (.int (1 + z)), .no, .no, .no, .no, .no] := by
      intro hv a' b'
      refine ⟨a', b', B, ?_, ?_, rfl, rfl⟩
      · rw [et]
        exact h1.trans (List.sublist_append_left _ _)
      · intro w hw hm
        rw [et] at hw
        rcases List.mem_append.mp hw with k | k
        · exact h2 w k hm
        · rw [List.mem_singleton.mp k] at hm
          exact absurd hm hv
    walk_at "ev"
    have z2 : Bd 9000 (1 + z) := Bd.lt_of (k := 100) (by omega) (by decide)
    refine k_digit (by omega) z2 fun u p4 q4 u0 u1 => ?_
    walk_at "ev"
    split
    · exact ⟨by rw [List.length_map]; exact lb, yes _ _⟩
    · rw [stp_ways]
      walk_at "ev"
      rw [in_must]
      walk_at "ev"
      by_cases hm : v ∈ mustI
      · rw [if_pos hm]
        exact ⟨by rw [List.length_map]; exact lb, yes _ _⟩
      · rw [if_neg hm]
        exact no hm _ _
  · obtain ⟨a, b, B, h1, h2, rfl, rfl⟩ := he
    rw [List.length_map, wl, List.take_of_length_le (by rw [wl]; exact Nat.le_refl _)] at h1 h2
    have lB : B.length ≤ 24 := h1.length_le
    walk_at "ev"
    refine forGo_ok (fun i e => ∃ (a b : Int) (S : List Spot) (s6 s8 s9 : Sl), S.length = i ∧ AllSB 42 S ∧ (∀ k (h : k < B.length), k < i → onWay cx cy B[k] (spt S k)) ∧ Sl.isArg (some s6) = false ∧ Sl.isArg (some s8) = false ∧ Sl.isArg (some s9) = false ∧
      e = [pool a b, .val (.lst (waysI.map pr)), .val (.int cx), .val (.int cy), .val (.int (1 + z)), .val (.lst (B.map pr)), s6, .own (.lst (sds S)), s8, s9])
      ⟨_, _, [], _, _, _, rfl, fun q hq => absurd hq (by simp), fun k _ hk => absurd hk (Nat.not_lt_zero _), rfl, rfl, rfl, rfl⟩ (fun i d e hd he => ?_) (fun e he => ?_)
    · obtain ⟨a, b, S, s6, s8, s9, hl, hs, hk, n6, n8, n9, rfl⟩ := he
      rw [List.getElem?_map] at hd
      obtain ⟨v, hv, rfl⟩ := Option.map_eq_some_iff.mp hd
      obtain ⟨hi, ev⟩ := List.getElem?_eq_some_iff.mp hv
      have vb : ∀ v ∈ waysI, v.1.natAbs ≤ 9 ∧ v.2.natAbs ≤ 9 := by decide
      have vb := vb v (h1.subset (ev ▸ List.getElem_mem _))
      unfold c_l_round_b8
      walk_at "ev"
      refine ⟨n6, ?_⟩
      refine k_digit (by decide) (by walk_at "sz") fun f p5 q5 f0 f1 => ?_
      walk_at "ev"
      refine ⟨n8, ?_⟩
      refine k_digit (by decide) (by walk_at "sz") fun w p6 q6 w0 w1 => ?_
      walk_at "ev"
      have bx : Bd 12 cx := Bd.lt_of (k := 2001) (by omega) (by decide)
      have by_ : Bd 12 cy := Bd.lt_of (k := 2001) (by omega) (by decide)
      have bv1 : Bd 4 v.1 := Bd.lt_of (k := 10) (by omega) (by decide)
      have bv2 : Bd 4 v.2 := Bd.lt_of (k := 10) (by omega) (by decide)
      have bf : Bd 10 (1 + f) := Bd.lt_of (k := 100) (by omega) (by decide)
      have bw : Bd 10 (1 + w) := Bd.lt_of (k := 100) (by omega) (by decide)
      refine ⟨n9, by walk_at "sz", by walk_at "sz", by walk_at "sz", by walk_at "sz", ?_⟩
      rw [m_l_lowest_eq (by omega) (by walk_at "sz")]
      walk_at "ev"
      rw [sds_len]
      refine ⟨by omega, ?_⟩
      rw [Turn_nx]
      have c1 : Bd 42 (cx * (1 + w) + v.1 * (1 + f)) := by apply Bd.le; (· walk_at "bd1"); omega
      have c2 : Bd 42 (cy * (1 + w) + v.2 * (1 + f)) := by apply Bd.le; (· walk_at "bd1"); omega
      refine ⟨_, _, S ++ [spotZ (cx * (1 + w) + v.1 * (1 + f)) (cy * (1 + w) + v.2 * (1 + f)) (1 + w)], _, _, _, by rw [List.length_append, hl]; rfl, hs.snoc (spotZ_sb (by omega) c1 c2 (bw.le (by decide))), fun k hk1 hk2 => ?_, rfl, rfl, rfl, by unfold sds; rw [List.map_append]; rfl⟩
      by_cases e : k < i
      · rw [spt_app (by omega)]
        exact hk k hk1 e
      · have : k = i := by omega
        subst this
        have es : ∀ q : Spot, spt (S ++ [q]) k = q := fun q => by rw [← hl, spt_snoc]
        rw [ev, es]
        exact ⟨1 + f, 1 + w, by omega, by omega, rfl⟩
    · obtain ⟨a, b, S, s6, s8, s9, hl, hs, hk, n6, n8, n9, rfl⟩ := he
      rw [List.length_map] at hl hk
      unfold c_l_round_t12
      walk_at "ev"
      obtain ⟨r1, r2, r3⟩ := round_of h1 (fun v hv => h2 v (by revert v; decide) hv) hl (fun k hk1 => hk k hk1 hk1)
      exact h S _ _ r1 hs r2 r3
/-! a loop spoilt -/
theorem atI_m {L : List Spot} {i : Int} (h : L ≠ []) (h0 : -(L.length : Int) ≤ i) (h1 : i < L.length) : ∃ p, p ∈ L ∧ atI (sds L) i = some (sd p) := by
  by_cases hi : 0 ≤ i
  · exact ⟨spt L i.toNat, spt_mem (by omega), atI_spt (k := i.toNat) (by omega) (by omega)⟩
  · obtain ⟨k, hk⟩ : ∃ k : Nat, i = -(k : Int) := ⟨(-i).toNat, by omega⟩
    subst hk
    refine ⟨spt L (L.length - k), spt_mem (by omega), ?_⟩
    rw [atI_neg (by omega) (by rw [sds_len]; omega), sds_len, sds_at (by omega)]
theorem k_spoilt {L : List Spot} {a b : Int} {P : R × List Sl → Prop} (hL : AllSB 42 L) (h3 : 3 ≤ L.length) (hl : L.length ≤ 24) (h : ∀ (M : List Spot) (a' b' : Int), AllSB 150 M → M.length = L.length → P (.val (.tup (sds M)), [pool a' b', .val (.tup (sds L))])) :
    Ok (m_l_spoilt [pool a b, .val (.tup (sds L))]) P := by
  have hne : L ≠ [] := by intro e; rw [e] at h3; simp at h3
  have bl : Bd 9000 (L.length : Int) := Bd.lt_of (k := 1000) (by omega) (by decide)
  refine Ok_fn rfl rfl ?_
  unfold c_l_spoilt
  walk_at "ev"
  rw [sds_len]
  refine k_digit (by omega) bl fun at_ p1 q1 a0 a1 => ?_
  walk_at "ev"
  refine k_spot fun p p2 q2 hp => ?_
  walk_at "ev"
  refine k_digit (by decide) (by walk_at "sz") fun pick p3 q3 c0 c1 => ?_
  walk_at "ev"
  have last : ∀ (p : Spot) (c d : Int) (s4 s5 : Sl), SB 94 p → Ok (c_l_spoilt_t9 [pool c d, .val (.tup (sds L)), .val (.int at_), .val (sd p), s4, s5]) (Th (kfn [pool a b, .val (.tup (sds L))]) P) := by
    intro p c d s4 s5 hp
    obtain ⟨u, hu, eu⟩ := atI_m (L := L) (i := at_ - 1) hne (by omega) (by omega)
    obtain ⟨m, hm⟩ : ∃ m : Nat, at_ = m := ⟨at_.toNat, by omega⟩
    subst hm
    have e1 : ((m : Int) + 1).fmod (L.length : Int) = (((m + 1) % L.length : Nat) : Int) := by
      rw [Int.fmod_eq_emod_of_nonneg _ (by omega), Int.natCast_emod]
      rfl
    unfold c_l_spoilt_t9
    walk_at "ev"
    rw [eu]
    walk_at "ev"
    rw [sds_len]
    refine ⟨by omega, ?_⟩
    rw [atI_spt (k := (m + 1) % L.length) e1 (Nat.mod_lt _ (by omega))]
    walk_at "ev"
    refine k_unlike (S := [u, spt L ((m + 1) % L.length)]) hp (by decide) (by simp) fun q h1 h2 => ?_
    walk_at "ev"
    rw [cutL_from (by omega), cutL_to (by omega), show ((m : Int) + 1).toNat = m + 1 by omega, Int.toNat_natCast]
    have lt : ((sds L).take m).length = m := by rw [List.length_take, sds_len]; omega
    have ld : ((sds L).drop (m + 1)).length = L.length - (m + 1) := by rw [List.length_drop, sds_len]
    have es : (sds L).take m ++ [sd q] ++ (sds L).drop (m + 1) = sds (L.take m ++ [q] ++ L.drop (m + 1)) := by
      unfold sds
      rw [List.map_append, List.map_append, List.map_take, List.map_drop]
      rfl
    have hm : (L.take m ++ [q] ++ L.drop (m + 1)).length = L.length := by
      rw [List.length_append, List.length_append, List.length_take, List.length_drop]
      simp only [List.length_singleton]
      omega
    have hb : AllSB 150 (L.take m ++ [q] ++ L.drop (m + 1)) := fun x hx => by
      rcases List.mem_append.mp hx with k | k
      · rcases List.mem_append.mp k with k | k
        · exact (hL x (List.mem_of_mem_take k)).le (by decide)
        · rw [List.mem_singleton.mp k]; exact h1.le (by decide)
      · exact (hL x (List.mem_of_mem_drop k)).le (by decide)
    refine ⟨by rw [lt]; omega, by rw [List.length_append, lt, ld, List.length_singleton]; omega, ?_⟩
    rw [es]
    exact h _ _ _ hb hm
  have next : ∀ (p : Spot) (c d : Int) (s5 : Sl), SB 94 p → Ok (c_l_spoilt_t7 [pool c d, .val (.tup (sds L)), .val (.int at_), .val (sd p), .val (.int pick), s5]) (Th (kfn [pool a b, .val (.tup (sds L))]) P) := by
    intro p c d s5 hp
    unfold c_l_spoilt_t7
    walk_at "ev"
    split
    · rw [sds_len]
      refine k_digit (by omega) bl fun z p1 q1 z0 z1 => ?_
      walk_at "ev"
      rw [atI_spt (k := z.toNat) (by omega) (by omega)]
      walk_at "ev"
      exact last _ _ _ _ _ ((hL _ (spt_mem (k := z.toNat) (by omega))).le (by decide))
    · exact last _ _ _ _ _ hp
  split
  · rw [sds_len]
    refine k_digit (by omega) bl fun z p4 q4 z0 z1 => ?_
    walk_at "ev"
    obtain ⟨u, hu, eu⟩ := atI_m (L := L) (i := z - 1) hne (by omega) (by omega)
    rw [eu]
    walk_at "ev"
    rw [atI_spt (k := z.toNat) (by omega) (by omega)]
    walk_at "ev"
    refine k_between (by decide) (hL _ hu) (hL _ (spt_mem (by omega))) fun r p5 q5 hr => ?_
    walk_at "ev"
    exact next _ _ _ _ hr
  · exact next _ _ _ _ (hp.le (by decide))
/-! the law -/
theorem few_eq {L : List Spot} (hs : AllSB 150 L) (hl : L.length ≤ 60) (h : ¬ 3 ≤ L.length ∨ ¬ L.Nodup) : m_is_simple [.val (.tup (sds L))] = some (.val (.bl false), [.val (.tup (sds L))]) := by
  rw [m_is_simple_eq hs hl]
  rcases h with h | h
  · rw [decide_eq_false h]; rfl
  · rw [simB_no fun k => h k.nd, Bool.and_false]
theorem isnt_bl {a b : Bool} : o_isnt (.bl a) (.bl b) = some (.val (.bl (!decide (a = b)))) := rfl
theorem AllSB.rot {n : Nat} {L : List Spot} (h : AllSB n L) (k : Nat) : AllSB n (rotS L k) := fun p hp => h p (rot_mem hp)
theorem sds_rot {L : List Spot} {k : Nat} : (sds L).drop k ++ (sds L).take k = sds (rotS L k) := by unfold sds rotS; rw [List.map_append, List.map_drop, List.map_take]
theorem few_step {s0 s1 s2 s3 s4 s5 s6 s8 s9 s10 : Sl} {d : D} (h : m_is_simple [.val d] = some (.val (.bl false), [.val d])) : c_law_b6 [s0, s1, s2, s3, s4, s5, s6, .val d, s8, s9, s10] = some (.nx [s0, s1, s2, s3, s4, s5, s6, .val d, s8, s9, s10]) := by
  apply Ok.eq
  unfold c_law_b6
  walk_at "ev"
  rw [h]
  walk_at "ev"
  rw [isnt_bl]
  walk_at "ev"
abbrev EnvL (ns : List Int) (e : List Sl) : Prop := ∃ s1 s2 s3 s4 s5 s6 s7 s8 s9 s10 : Sl, Sl.isArg (some s1) = false ∧ Sl.isArg (some s2) = false ∧ Sl.isArg (some s3) = false ∧ Sl.isArg (some s4) = false ∧ Sl.isArg (some s5) = false ∧ Sl.isArg (some s6) = false ∧ Sl.isArg (some s7) = false ∧ Sl.isArg (some s8) = false ∧ Sl.isArg (some s9) = false ∧ Sl.isArg (some s10) = false ∧
  e = [.val (.lst (ns.map D.int)), s1, s2, s3, s4, s5, s6, s7, s8, s9, s10]
theorem k_round_law {ns : List Int} {P : Out → Prop} {s2 s3 s4 s5 s6 s7 s8 s9 s10 : Sl} {k : Nat} (hk : k < 1000) (n2 : Sl.isArg (some s2) = false) (n3 : Sl.isArg (some s3) = false) (n4 : Sl.isArg (some s4) = false) (n5 : Sl.isArg (some s5) = false) (n6 : Sl.isArg (some s6) = false) (n7 : Sl.isArg (some s7) = false) (n8 : Sl.isArg (some s8) = false) (n9 : Sl.isArg (some s9) = false) (n10 : Sl.isArg (some s10) = false)
    (h : ∀ e, EnvL ns e → P (.nx e)) : Ok (c_law_b1 [.val (.lst (ns.map D.int)), .val (.int (0 + (k : Int))), s2, s3, s4, s5, s6, s7, s8, s9, s10]) P := by
  unfold c_law_b1
  walk_at "ev"
  refine k_pool (by omega) (by omega) fun pa pb => ?_
  walk_at "ev"
  refine ⟨n2, ?_⟩
  refine k_digit (by decide) (by walk_at "sz") fun z p1 q1 z0 z1 => ?_
  walk_at "ev"
  refine ⟨n3, k_loop (by decide) (by decide) fun L a1 b1 hL1 hL2 bL => ?_⟩
  walk_at "ev"
  have l3 := hL1.many
  have l9 : L.length ≤ 9 := by omega
  rw [cutL_to (by decide)]
  have e2 : (sds L).take (2 : Int).toNat = [sd (spt L 0), sd (spt L 1)] := by
    match L, l3 with
    | p :: q :: L', _ => rfl
  rw [e2]
  have hp := (bL _ (spt_mem (k := 0) (by omega))).le (show 42 ≤ 150 by decide)
  have hq := (bL _ (spt_mem (k := 1) (by omega))).le (show 42 ≤ 150 by decide)
  generalize spt L 0 = p at *
  generalize spt L 1 = q at *
  have f0 : m_is_simple [.val (.tup [])] = some (.val (.bl false), [.val (.tup [])]) := few_eq (L := []) (fun x hx => absurd hx (by simp)) (by decide) (.inl (by decide))
  have sb2 : ∀ M : List Spot, (∀ x ∈ M, x = p ∨ x = q) → AllSB 150 M := fun M h x hx => by
    rcases h x hx with rfl | rfl
    · exact hp
    · exact hq
  have f1 : m_is_simple [.val (.tup [sd p])] = some (.val (.bl false), [.val (.tup [sd p])]) := few_eq (L := [p]) (sb2 _ (by simp)) (by simp) (.inl (by simp))
  have f2 : m_is_simple [.val (.tup [sd p, sd q])] = some (.val (.bl false), [.val (.tup [sd p, sd q])]) := few_eq (L := [p, q]) (sb2 _ (by simp)) (by simp) (.inl (by simp))
  have f3 : m_is_simple [.val (.tup [sd p, sd p, sd q])] = some (.val (.bl false), [.val (.tup [sd p, sd p, sd q])]) := few_eq (L := [p, p, q]) (sb2 _ (by simp)) (by simp) (.inr (by simp))
  have f4 : m_is_simple [.val (.tup [sd p, sd q, sd q])] = some (.val (.bl false), [.val (.tup [sd p, sd q, sd q])]) := few_eq (L := [p, q, q]) (sb2 _ (by simp)) (by simp) (.inr (by simp))
  have f5 : m_is_simple [.val (.tup [sd p, sd q, sd p])] = some (.val (.bl false), [.val (.tup [sd p, sd q, sd p])]) := few_eq (L := [p, q, p]) (sb2 _ (by simp)) (by simp) (.inr (by simp))
  walk_at "ev"
  refine ⟨n4, n5, n6, n7, ?_⟩
  rw [few_step f0]
  walk_at "ev"
  rw [few_step f1]
  walk_at "ev"
  rw [few_step f2]
  walk_at "ev"
  rw [few_step f3]
  walk_at "ev"
  rw [few_step f4]
  walk_at "ev"
  rw [few_step f5]
  walk_at "ev"
  clear f0 f1 f2 f3 f4 f5 sb2 e2 hp hq
  have tail : ∀ (M : List Spot) (a b : Int), AllSB 150 M → 3 ≤ M.length → M.length ≤ 24 → Ok (c_law_t15 [.val (.lst (ns.map D.int)), .val (.int (0 + (k : Int))), .own (.lst [.int a, .int b]), .val (.int z), .val (.tup (sds M)), .val (sd p), .val (sd q), .val (.tup [sd p, sd q, sd p]), s8, s9, s10]) P := by
    intro M a b hM h3 hl
    have bl : Bd 9000 (M.length : Int) := Bd.lt_of (k := 1000) (by omega) (by decide)
    have s := m_is_simple_eq hM (by omega)
    rw [decide_eq_true h3, Bool.true_and] at s
    unfold c_law_t15 c_law_t20
    walk_at "ev"
    rw [m_l_is_simple_eq h3 hM (by omega)]
    walk_at "ev"
    refine ⟨n8, ?_⟩
    rw [s]
    walk_at "ev"
    refine ⟨n9, ?_⟩
    rw [sds_len]
    refine k_digit (by omega) bl fun y p2 q2 y0 y1 => ?_
    walk_at "ev"
    refine ⟨n10, ?_⟩
    rw [cutL_from (by omega), cutL_to (by omega), sds_rot]
    have sr := m_is_simple_eq (hM.rot y.toNat) (by rw [rot_len]; omega)
    rw [rot_len, decide_eq_true h3, Bool.true_and, simB_congr (simple_rot (show y.toNat ≤ M.length by omega))] at sr
    have sv := m_is_simple_eq (L := M.reverse) (fun x hx => hM x (List.mem_reverse.mp hx)) (by rw [List.length_reverse]; omega)
    rw [List.length_reverse, decide_eq_true h3, Bool.true_and, simB_congr simple_rev] at sv
    refine ⟨by rw [List.length_drop, List.length_take, sds_len]; omega, ?_⟩
    rw [sr]
    walk_at "ev"
    rw [show (sds M).reverse = sds M.reverse from List.map_reverse.symm, sv]
    walk_at "ev"
    exact h _ ⟨_, _, _, _, _, _, _, _, _, _, rfl, rfl, rfl, rfl, rfl, rfl, rfl, rfl, rfl, rfl, rfl⟩
  unfold c_law_t9 c_law_t13
  walk_at "ev"
  by_cases c0 : 0 < z
  · rw [if_pos c0]
    refine k_round fun M a2 b2 hM bM m3 ml => ?_
    walk_at "ev"
    have s := m_is_simple_eq (bM.le (show 42 ≤ 150 by decide)) (by omega)
    rw [decide_eq_true m3, Bool.true_and, simB_yes hM] at s
    rw [s]
    walk_at "ev"
    rw [isnt_bl]
    walk_at "ev"
    by_cases c2 : z = 2
    · rw [if_pos c2]
      refine k_spoilt bM m3 ml fun N a3 b3 bN lN => ?_
      walk_at "ev"
      exact tail N _ _ bN (by omega) (by omega)
    · rw [if_neg c2]
      exact tail M _ _ (bM.le (by decide)) m3 ml
  · rw [if_neg c0, if_neg (show ¬ z = 2 by omega)]
    exact tail L _ _ (bL.le (by decide)) l3 (by omega)
theorem math (ns : List Int) (h : ns.length ≤ 63) : m_law [.val (.lst (ns.map D.int))] = some (.val (.bl true), [.val (.lst (ns.map D.int))]) := by
  apply Ok.eq
  refine Ok_fn rfl rfl ?_
  unfold c_law
  walk_at "ev"
  have hl := cutL_length (xs := ns.map D.int) (lo := some 1) (hi := some 4)
  rw [List.length_map] at hl
  obtain ⟨N, hN, hN1, hN2⟩ := rounds (n := ((cutL (ns.map D.int) (some 1) (some 4)).length : Int)) (m := 63) (by omega) (by omega)
  rw [hN]
  refine ⟨rngOK_nat (by omega), ?_⟩
  rw [Int.toNat_natCast]
  refine forRng_ok (fun _ e => EnvL ns e) ⟨_, _, _, _, _, _, _, _, _, _, rfl, rfl, rfl, rfl, rfl, rfl, rfl, rfl, rfl, rfl, rfl⟩ (fun i e hi he => ?_) (fun e he => ?_)
  · obtain ⟨s1, s2, s3, s4, s5, s6, s7, s8, s9, s10, n1, n2, n3, n4, n5, n6, n7, n8, n9, n10, rfl⟩ := he
    walk_at "ev"
    refine ⟨n1, ?_⟩
    refine k_round_law (by omega) n2 n3 n4 n5 n6 n7 n8 n9 n10 fun e he => ?_
    rw [Turn_nx]
    exact he
  · obtain ⟨s1, s2, s3, s4, s5, s6, s7, s8, s9, s10, n1, n2, n3, n4, n5, n6, n7, n8, n9, n10, rfl⟩ := he
    unfold c_law_t22
    walk_at "ev"
end Lw
set_option maxRecDepth 100000
set_option maxHeartbeats 4000000
namespace Lw
open PySem PySem.Spec PyProof.Rows L2 Vz
def top (i : Nat) : Stmt := PySem.Challenge.pw_sheetlay_k18_simple_or_not.main.body.getD i (.Pass ⟨0, 0, 0, 0⟩)
structure Blt (mg : Str → Option Value) : Prop where
  b_abs : mg "abs" = none
  b_bool : mg "bool" = none
  b_int : mg "int" = none
  b_isinstance : mg "isinstance" = none
  b_len : mg "len" = none
  b_max : mg "max" = none
  b_min : mg "min" = none
  b_range : mg "range" = none
  b_reversed : mg "reversed" = none
  b_set : mg "set" = none
  b_sorted : mg "sorted" = none
  b_tuple : mg "tuple" = none
instance : FnTab := ⟨fun _ _ _ => False⟩
abbrev s_divisor : Stmt := top 1
abbrev N_divisor : List Str := ["a", "b"]
theorem sc_divisor : FnScope N_divisor ["a", "b"] (defScope s_divisor) := ⟨rfl, rfl, rfl, by decide +kernel, rfl, by decide +kernel, by decide +kernel⟩
theorem ok_divisor {P : Program} {w : World} {K : PySem.W.Frag} {mg : Str → Option Value} {base : Heap} {f : Addr} {fd : FuncData} (F : FunD K "divisor" "divisor" (defArgs s_divisor) (defBody s_divisor) (defScope s_divisor) [] [] f fd) (B : Blt mg) : FnOk P w K mg base CX0 1 f fd ["a", "b"] (spM K m_divisor) :=
  fn_okD F sc_divisor fun cdv A outer s H E hr => xb_cons (xs_setv 0 sc_divisor.nd (x_abs B.b_abs (xa_cons (x_v 0) (xa_nil)))) (xb_cons (xs_setv 1 sc_divisor.nd (x_abs B.b_abs (xa_cons (x_v 1) (xa_nil)))) (xb_cons (xs_wh (fuI 1)
    PassesOwn.never (xt_cmp (op_neD hr.units) opm_ne (x_v 1) (x_int)) (xb_one (xs_par 0 1 rfl sc_divisor.nd (by decide) (xa_cons (x_v 1) (xa_cons (x_mod (x_v 0) (x_v 1)) (xa_nil)))))) (xb_one
    (xs_ret (x_v 0)))))
abbrev s_ahead : Stmt := top 4
abbrev N_ahead : List Str := ["p", "q", "one", "other"]
theorem sc_ahead : FnScope N_ahead ["p", "q"] (defScope s_ahead) := ⟨rfl, rfl, rfl, by decide +kernel, rfl, by decide +kernel, by decide +kernel⟩
theorem ok_ahead {P : Program} {w : World} {K : PySem.W.Frag} {mg : Str → Option Value} {base : Heap} {f : Addr} {fd : FuncData} (F : FunD K "ahead" "ahead" (defArgs s_ahead) (defBody s_ahead) (defScope s_ahead) [] [] f fd) (B : Blt mg) : FnOk P w K mg base CX0 1 f fd ["p", "q"] (spM K m_ahead) :=
  fn_okD F sc_ahead fun cdv A outer s H E hr => xb_cons (xs_setv 2 sc_ahead.nd (x_mul (x_ix (x_v 0) (x_int)) (x_ix (x_v 1) (x_int)))) (xb_cons (xs_setv 3 sc_ahead.nd (x_mul (x_ix (x_v 1) (x_int)) (x_ix (x_v 0) (x_int)))) (xb_cons (xs_if
    (xt_cmp (op_neD hr.units) opm_ne (x_v 2) (x_v 3)) (xb_one (xs_ret (x_cmp (op_ltD (in_room hr)) opm_ord (x_v 2) (x_v 3)))) (xb_nil)) (xb_one (xs_ret (x_cmp (op_ltD (in_room hr)) opm_ord
    (x_mul (x_ix (x_v 0) (x_int)) (x_ix (x_v 1) (x_int))) (x_mul (x_ix (x_v 1) (x_int)) (x_ix (x_v 0) (x_int))))))))
abbrev s_turn : Stmt := top 5
abbrev N_turn : List Str := ["a", "b", "c", "found"]
theorem sc_turn : FnScope N_turn ["a", "b", "c"] (defScope s_turn) := ⟨rfl, rfl, rfl, by decide +kernel, rfl, by decide +kernel, by decide +kernel⟩
theorem ok_turn {P : Program} {w : World} {K : PySem.W.Frag} {mg : Str → Option Value} {base : Heap} {f : Addr} {fd : FuncData} (F : FunD K "turn" "turn" (defArgs s_turn) (defBody s_turn) (defScope s_turn) [] [] f fd) (B : Blt mg) : FnOk P w K mg base CX0 1 f fd ["a", "b", "c"] (spM K m_turn) :=
  fn_okD F sc_turn fun cdv A outer s H E hr => xb_cons (xs_setv 3 sc_turn.nd (x_mul (x_ix (x_v 0) (x_int)) (x_sub (x_mul (x_ix (x_v 1) (x_int)) (x_ix (x_v 2) (x_int))) (x_mul (x_ix (x_v 2) (x_int)) (x_ix (x_v 1) (x_int)))))) (xb_cons
    (xs_setv 3 sc_turn.nd (x_sub (x_v 3) (x_mul (x_ix (x_v 0) (x_int)) (x_sub (x_mul (x_ix (x_v 1) (x_int)) (x_ix (x_v 2) (x_int))) (x_mul (x_ix (x_v 2) (x_int)) (x_ix (x_v 1) (x_int)))))))
    (xb_cons (xs_setv 3 sc_turn.nd (x_add (x_v 3) (x_mul (x_ix (x_v 0) (x_int)) (x_sub (x_mul (x_ix (x_v 1) (x_int)) (x_ix (x_v 2) (x_int))) (x_mul (x_ix (x_v 2) (x_int)) (x_ix (x_v 1)
    (x_int))))))) (xb_one (xs_ret (x_sub (x_intc B.b_int (xa_cons (x_cmp (op_gtD (in_room hr)) opm_ord (x_v 3) (x_int)) (xa_nil))) (x_intc B.b_int (xa_cons (x_cmp (op_ltD (in_room hr)) opm_ord
    (x_v 3) (x_int)) (xa_nil))))))))
abbrev s_apart : Stmt := top 8
abbrev N_apart : List Str := ["a", "b", "at", "one", "other", "low", "high"]
theorem sc_apart : FnScope N_apart ["a", "b", "at"] (defScope s_apart) := ⟨rfl, rfl, rfl, by decide +kernel, rfl, by decide +kernel, by decide +kernel⟩
theorem ok_apart {P : Program} {w : World} {K : PySem.W.Frag} {mg : Str → Option Value} {base : Heap} {f : Addr} {fd : FuncData} (F : FunD K "apart" "apart" (defArgs s_apart) (defBody s_apart) (defScope s_apart) [] [] f fd) (B : Blt mg) : FnOk P w K mg base CX0 1 f fd ["a", "b", "at"] (spM K m_apart) :=
  fn_okD F sc_apart fun cdv A outer s H E hr => xb_cons (xs_asg (x_v 0) (xg_tup rfl (xgs_cons (xg_n 3 sc_apart.nd) (xgs_cons (xg_n 4 sc_apart.nd) (xgs_nil))))) (xb_cons (xs_setv 5 sc_apart.nd (x_if (xt_cmp (op_ltD (in_room hr)) opm_ord
    (x_mul (x_ix (x_v 3) (x_v 2)) (x_ix (x_v 4) (x_int))) (x_mul (x_ix (x_v 4) (x_v 2)) (x_ix (x_v 3) (x_int)))) (x_v 3) (x_v 4))) (xb_cons (xs_asg (x_v 1) (xg_tup rfl (xgs_cons (xg_n 3
    sc_apart.nd) (xgs_cons (xg_n 4 sc_apart.nd) (xgs_nil))))) (xb_cons (xs_setv 6 sc_apart.nd (x_if (xt_cmp (op_ltD (in_room hr)) opm_ord (x_mul (x_ix (x_v 3) (x_v 2)) (x_ix (x_v 4) (x_int)))
    (x_mul (x_ix (x_v 4) (x_v 2)) (x_ix (x_v 3) (x_int)))) (x_v 4) (x_v 3))) (xb_one (xs_ret (x_cmp (op_ltD (in_room hr)) opm_ord (x_mul (x_ix (x_v 6) (x_v 2)) (x_ix (x_v 5) (x_int))) (x_mul
    (x_ix (x_v 5) (x_v 2)) (x_ix (x_v 6) (x_int)))))))))
abbrev s_row_of : Stmt := top 10
abbrev N_row_of : List Str := ["a", "b"]
theorem sc_row_of : FnScope N_row_of ["a", "b"] (defScope s_row_of) := ⟨rfl, rfl, rfl, by decide +kernel, rfl, by decide +kernel, by decide +kernel⟩
theorem ok_row_of {P : Program} {w : World} {K : PySem.W.Frag} {mg : Str → Option Value} {base : Heap} {f : Addr} {fd : FuncData} (F : FunD K "row_of" "row_of" (defArgs s_row_of) (defBody s_row_of) (defScope s_row_of) [] [] f fd) (B : Blt mg) : FnOk P w K mg base CX0 1 f fd ["a", "b"] (spM K m_row_of) :=
  fn_okD F sc_row_of fun cdv A outer s H E hr => xb_one (xs_ret (x_tup (xa_cons (x_sub (x_mul (x_ix (x_v 0) (x_int)) (x_ix (x_v 1) (x_int))) (x_mul (x_ix (x_v 0) (x_int)) (x_ix (x_v 1) (x_int)))) (xa_cons (x_sub (x_mul (x_ix (x_v 0)
    (x_int)) (x_ix (x_v 1) (x_int))) (x_mul (x_ix (x_v 0) (x_int)) (x_ix (x_v 1) (x_int)))) (xa_cons (x_sub (x_mul (x_ix (x_v 0) (x_int)) (x_ix (x_v 1) (x_int))) (x_mul (x_ix (x_v 0) (x_int))
    (x_ix (x_v 1) (x_int)))) (xa_nil))))))
abbrev s_sides_of : Stmt := top 14
abbrev N_sides_of : List Str := ["loop", "found", "k"]
theorem sc_sides_of : FnScope N_sides_of ["loop"] (defScope s_sides_of) := ⟨rfl, rfl, rfl, by decide +kernel, rfl, by decide +kernel, by decide +kernel⟩
theorem ok_sides_of {P : Program} {w : World} {K : PySem.W.Frag} {mg : Str → Option Value} {base : Heap} {f : Addr} {fd : FuncData} (F : FunD K "sides_of" "sides_of" (defArgs s_sides_of) (defBody s_sides_of) (defScope s_sides_of) [] [] f fd) (B : Blt mg) : FnOk P w K mg base CX0 1 f fd ["loop"] (spM K m_sides_of) :=
  fn_okD F sc_sides_of fun cdv A outer s H E hr => xb_cons (xs_set 1 sc_sides_of.nd (x_lst (xa_nil))) (xb_cons (xs_for PassesOwn.never rfl (xi_rng B.b_range (xa_cons (x_len B.b_len (xa_cons (x_v 0) (xa_nil))) (xa_nil))) (xg_n 2
    sc_sides_of.nd) (xb_one (xs_ex (x_app 1 (x_tup (xa_cons (x_ix (x_v 0) (x_v 2)) (xa_cons (x_ix (x_v 0) (x_mod (x_add (x_v 2) (x_int)) (x_len B.b_len (xa_cons (x_v 0) (xa_nil)))))
    (xa_nil)))))))) (xb_one (xs_ret (x_tk 1))))
abbrev s_l_pool : Stmt := top 17
abbrev N_l_pool : List Str := ["_law_script", "_law_k", "_law_cell", "_law_mixed", "_law_total", "_law_j", "_law_more", "_law_own"]
theorem sc_l_pool : FnScope N_l_pool ["_law_script", "_law_k"] (defScope s_l_pool) := ⟨rfl, rfl, rfl, by decide +kernel, rfl, by decide +kernel, by decide +kernel⟩
theorem ok_l_pool {P : Program} {w : World} {K : PySem.W.Frag} {mg : Str → Option Value} {base : Heap} {f : Addr} {fd : FuncData} (F : FunD K "_law_pool" "_law_pool" (defArgs s_l_pool) (defBody s_l_pool) (defScope s_l_pool) [] [] f fd) (B : Blt mg) : FnOk P w K mg base CX0 1 f fd ["_law_script", "_law_k"] (spM K m_l_pool) :=
  fn_okD F sc_l_pool fun cdv A outer s H E hr => xb_cons (xs_setv 2 sc_l_pool.nd (x_int)) (xb_cons (xs_if (xt_cmp (op_ltD (in_room hr)) opm_ord (x_v 1) (x_len B.b_len (xa_cons (x_v 0) (xa_nil)))) (xb_one (xs_setv 2 sc_l_pool.nd (x_ix (x_v
    0) (x_v 1)))) (xb_nil)) (xb_cons (xs_setv 3 sc_l_pool.nd (x_add (x_add (x_mod (x_abs B.b_abs (xa_cons (x_v 2) (xa_nil))) (x_int)) (x_mul (x_int) (x_v 1))) (x_int))) (xb_cons (xs_setv 4
    sc_l_pool.nd (x_int)) (xb_cons (xs_for PassesOwn.never rfl (xi_rng B.b_range (xa_cons (x_int) (xa_nil))) (xg_n 5 sc_l_pool.nd) (xb_cons (xs_setv 3 sc_l_pool.nd (x_add (x_mul (x_v 3)
    (x_int)) (x_mul (x_int) (x_add (x_add (x_v 1) (x_v 5)) (x_int))))) (xb_cons (xs_setv 3 sc_l_pool.nd (x_mod (x_v 3) (x_int))) (xb_cons (xs_setv 6 sc_l_pool.nd (x_mul (x_fdiv (x_v 3) (x_int))
    (x_add (x_add (x_mod (x_v 3) (x_int)) (x_mul (x_int) (x_v 5))) (x_int)))) (xb_one (xs_setv 4 sc_l_pool.nd (x_add (x_mul (x_v 4) (x_int)) (x_mod (x_v 6) (x_int))))))))) (xb_cons (xs_setv 7
    sc_l_pool.nd (x_mul (x_abs B.b_abs (xa_cons (x_v 2) (xa_nil))) (x_intc B.b_int (xa_cons (x_and (x_cmp (op_gtD (in_room hr)) opm_ord (x_len B.b_len (xa_cons (x_v 0) (xa_nil))) (x_int))
    (x_one (x_cmp (op_eqD hr.units) opm_eq (x_mod (x_ix (x_v 0) (x_int)) (x_int)) (x_int)))) (xa_nil))))) (xb_one (xs_ret (x_lst (xa_cons (x_v 7) (xa_cons (x_v 4) (xa_nil)))))))))))
abbrev s_l_digit : Stmt := top 18
abbrev N_l_digit : List Str := ["_law_pool_here", "_law_many", "_law_at", "_law_digit_here"]
theorem sc_l_digit : FnScope N_l_digit ["_law_pool_here", "_law_many"] (defScope s_l_digit) := ⟨rfl, rfl, rfl, by decide +kernel, rfl, by decide +kernel, by decide +kernel⟩
theorem ok_l_digit {P : Program} {w : World} {K : PySem.W.Frag} {mg : Str → Option Value} {base : Heap} {f : Addr} {fd : FuncData} (F : FunD K "_law_digit" "_law_digit" (defArgs s_l_digit) (defBody s_l_digit) (defScope s_l_digit) [] [] f fd) (B : Blt mg) : FnOk P w K mg base CX0 1 f fd ["_law_pool_here", "_law_many"] (spM K m_l_digit) :=
  fn_okD F sc_l_digit fun cdv A outer s H E hr => xb_cons (xs_setv 2 sc_l_digit.nd (x_intc B.b_int (xa_cons (x_cmp (op_eqD hr.units) opm_eq (x_ixo 0 (x_int)) (x_int)) (xa_nil)))) (xb_cons (xs_setv 3 sc_l_digit.nd (x_mod (x_ixo 0 (x_v 2))
    (x_v 1))) (xb_cons (xs_asg (x_fdiv (x_ixo 0 (x_v 2)) (x_v 1)) (xg_ix 0 (x_v 2))) (xb_one (xs_ret (x_v 3)))))
abbrev s_l_shared : Stmt := top 21
abbrev N_l_shared : List Str := ["_law_a", "_law_b"]
theorem sc_l_shared : FnScope N_l_shared ["_law_a", "_law_b"] (defScope s_l_shared) := ⟨rfl, rfl, rfl, by decide +kernel, rfl, by decide +kernel, by decide +kernel⟩
theorem ok_l_shared {P : Program} {w : World} {K : PySem.W.Frag} {mg : Str → Option Value} {base : Heap} {f : Addr} {fd : FuncData} (F : FunD K "_law_shared" "_law_shared" (defArgs s_l_shared) (defBody s_l_shared) (defScope s_l_shared) [] [] f fd) (B : Blt mg) : FnOk P w K mg base CX0 1 f fd ["_law_a", "_law_b"] (spM K m_l_shared) :=
  fn_okD F sc_l_shared fun cdv A outer s H E hr => xb_cons (xs_setv 0 sc_l_shared.nd (x_abs B.b_abs (xa_cons (x_v 0) (xa_nil)))) (xb_cons (xs_setv 1 sc_l_shared.nd (x_abs B.b_abs (xa_cons (x_v 1) (xa_nil)))) (xb_cons (xs_wh (fuI 1)
    PassesOwn.never (xt_cmp (op_gtD (in_room hr)) opm_ord (x_v 1) (x_int)) (xb_one (xs_par 0 1 rfl sc_l_shared.nd (by decide) (xa_cons (x_v 1) (xa_cons (x_mod (x_v 0) (x_v 1)) (xa_nil))))))
    (xb_one (xs_ret (x_v 0)))))
abbrev s_l_across : Stmt := top 29
abbrev N_l_across : List Str := ["_law_a", "_law_b"]
theorem sc_l_across : FnScope N_l_across ["_law_a", "_law_b"] (defScope s_l_across) := ⟨rfl, rfl, rfl, by decide +kernel, rfl, by decide +kernel, by decide +kernel⟩
theorem ok_l_across {P : Program} {w : World} {K : PySem.W.Frag} {mg : Str → Option Value} {base : Heap} {f : Addr} {fd : FuncData} (F : FunD K "_law_across" "_law_across" (defArgs s_l_across) (defBody s_l_across) (defScope s_l_across) [] [] f fd) (B : Blt mg) : FnOk P w K mg base CX0 1 f fd ["_law_a", "_law_b"] (spM K m_l_across) :=
  fn_okD F sc_l_across fun cdv A outer s H E hr => xb_one (xs_ret (x_sub (x_mul (x_ix (x_v 0) (x_int)) (x_ix (x_v 1) (x_int))) (x_mul (x_ix (x_v 0) (x_int)) (x_ix (x_v 1) (x_int)))))
abbrev s_spot : Stmt := top 3
abbrev N_spot : List Str := ["x", "y", "w", "part"]
theorem sc_spot : FnScope N_spot ["x", "y", "w"] (defScope s_spot) := ⟨rfl, rfl, rfl, by decide +kernel, rfl, by decide +kernel, by decide +kernel⟩
theorem ok_spot {P : Program} {w : World} {K : PySem.W.Frag} {mg : Str → Option Value} {base : Heap} {f : Addr} {fd : FuncData} (F : FunD K "spot" "spot" (defArgs s_spot) (defBody s_spot) (defScope s_spot) [(V.int 1)] [] f fd) (B : Blt mg) (U_divisor : FnU P w K mg base 1 "divisor" m_divisor []) : FnOk P w K mg base CX0 2 f fd ["x", "y", "w"] (spM K m_spot) :=
  fn_okD F sc_spot fun cdv A outer s H E hr => xb_cons (xs_if (xt_cmp (op_ltD (in_room hr)) opm_ord (x_v 2) (x_int)) (xb_cons (xs_setv 0 sc_spot.nd (x_sub (x_int) (x_v 0))) (xb_cons (xs_setv 1 sc_spot.nd (x_sub (x_int) (x_v 1))) (xb_one
    (xs_setv 2 sc_spot.nd (x_sub (x_int) (x_v 2)))))) (xb_nil)) (xb_cons (xs_setv 3 sc_spot.nd (x_call U_divisor hr (by decide) (xr_v (x_call U_divisor hr (by decide) (xr_v (x_v 0) (xr_v (x_v
    1) (xr_nil)))) (xr_v (x_v 2) (xr_nil))))) (xb_one (xs_ret (x_tup (xa_cons (x_fdiv (x_v 0) (x_v 3)) (xa_cons (x_fdiv (x_v 1) (x_v 3)) (xa_cons (x_fdiv (x_v 2) (x_v 3)) (xa_nil))))))))
abbrev s_ends : Stmt := top 7
abbrev N_ends : List Str := ["side"]
theorem sc_ends : FnScope N_ends ["side"] (defScope s_ends) := ⟨rfl, rfl, rfl, by decide +kernel, rfl, by decide +kernel, by decide +kernel⟩
theorem ok_ends {P : Program} {w : World} {K : PySem.W.Frag} {mg : Str → Option Value} {base : Heap} {f : Addr} {fd : FuncData} (F : FunD K "ends" "ends" (defArgs s_ends) (defBody s_ends) (defScope s_ends) [] [] f fd) (B : Blt mg) (U_ahead : FnU P w K mg base 1 "ahead" m_ahead []) : FnOk P w K mg base CX0 2 f fd ["side"] (spM K m_ends) :=
  fn_okD F sc_ends fun cdv A outer s H E hr => xb_cons (xs_if (xt_tru (x_call U_ahead hr (by decide) (xr_v (x_ix (x_v 0) (x_int)) (xr_v (x_ix (x_v 0) (x_int)) (xr_nil))))) (xb_one (xs_ret (x_tup (xa_cons (x_ix (x_v 0) (x_int)) (xa_cons
    (x_ix (x_v 0) (x_int)) (xa_nil)))))) (xb_nil)) (xb_one (xs_ret (x_tup (xa_cons (x_ix (x_v 0) (x_int)) (xa_cons (x_ix (x_v 0) (x_int)) (xa_nil))))))
abbrev s_l_drawn : Stmt := top 19
abbrev N_l_drawn : List Str := ["_law_pool_here", "_law_pick"]
theorem sc_l_drawn : FnScope N_l_drawn ["_law_pool_here"] (defScope s_l_drawn) := ⟨rfl, rfl, rfl, by decide +kernel, rfl, by decide +kernel, by decide +kernel⟩
theorem ok_l_drawn {P : Program} {w : World} {K : PySem.W.Frag} {mg : Str → Option Value} {base : Heap} {f : Addr} {fd : FuncData} (F : FunD K "_law_drawn" "_law_drawn" (defArgs s_l_drawn) (defBody s_l_drawn) (defScope s_l_drawn) [] [] f fd) (B : Blt mg) (U_l_digit : FnU P w K mg base 1 "_law_digit" m_l_digit []) : FnOk P w K mg base CX0 2 f fd ["_law_pool_here"] (spM K m_l_drawn) :=
  fn_okD F sc_l_drawn fun cdv A outer s H E hr => xb_cons (xs_setv 1 sc_l_drawn.nd (x_call U_l_digit hr (by decide) (xr_m 0 (xr_v (x_int) (xr_nil))))) (xb_cons (xs_if (xt_cmp (op_ltD (in_room hr)) opm_ord (x_v 1) (x_int)) (xb_one (xs_ret
    (x_sub (x_call U_l_digit hr (by decide) (xr_m 0 (xr_v (x_int) (xr_nil)))) (x_int)))) (xb_nil)) (xb_cons (xs_if (xt_cmp (op_eqD hr.units) opm_eq (x_v 1) (x_int)) (xb_one (xs_ret (x_sub
    (x_call U_l_digit hr (by decide) (xr_m 0 (xr_v (x_int) (xr_nil)))) (x_int)))) (xb_nil)) (xb_cons (xs_if (xt_cmp (op_eqD hr.units) opm_eq (x_v 1) (x_int)) (xb_one (xs_ret (x_mul (x_sub
    (x_int) (x_call U_l_digit hr (by decide) (xr_m 0 (xr_v (x_int) (xr_nil))))) (x_sub (x_int) (x_mul (x_int) (x_call U_l_digit hr (by decide) (xr_m 0 (xr_v (x_int) (xr_nil))))))))) (xb_nil))
    (xb_one (xs_ret (x_sub (x_call U_l_digit hr (by decide) (xr_m 0 (xr_v (x_add (x_mul (x_int) (x_pow (x_int) (x_int))) (x_int)) (xr_nil)))) (x_pow (x_int) (x_int))))))))
abbrev s_l_below : Stmt := top 20
abbrev N_l_below : List Str := ["_law_pool_here", "_law_pick"]
theorem sc_l_below : FnScope N_l_below ["_law_pool_here"] (defScope s_l_below) := ⟨rfl, rfl, rfl, by decide +kernel, rfl, by decide +kernel, by decide +kernel⟩
theorem ok_l_below {P : Program} {w : World} {K : PySem.W.Frag} {mg : Str → Option Value} {base : Heap} {f : Addr} {fd : FuncData} (F : FunD K "_law_below" "_law_below" (defArgs s_l_below) (defBody s_l_below) (defScope s_l_below) [] [] f fd) (B : Blt mg) (U_l_digit : FnU P w K mg base 1 "_law_digit" m_l_digit []) : FnOk P w K mg base CX0 2 f fd ["_law_pool_here"] (spM K m_l_below) :=
  fn_okD F sc_l_below fun cdv A outer s H E hr => xb_cons (xs_setv 1 sc_l_below.nd (x_call U_l_digit hr (by decide) (xr_m 0 (xr_v (x_int) (xr_nil))))) (xb_one (xs_ret (x_add (x_int) (x_call U_l_digit hr (by decide) (xr_m 0 (xr_v (x_ix (x_lst
    (xa_cons (x_int) (xa_cons (x_int) (xa_cons (x_int) (xa_cons (x_int) (xa_cons (x_pow (x_int) (x_int)) (xa_nil))))))) (x_v 1)) (xr_nil)))))))
abbrev s_l_lowest : Stmt := top 22
abbrev N_l_lowest : List Str := ["_law_x", "_law_y", "_law_w", "_law_part"]
theorem sc_l_lowest : FnScope N_l_lowest ["_law_x", "_law_y", "_law_w"] (defScope s_l_lowest) := ⟨rfl, rfl, rfl, by decide +kernel, rfl, by decide +kernel, by decide +kernel⟩
theorem ok_l_lowest {P : Program} {w : World} {K : PySem.W.Frag} {mg : Str → Option Value} {base : Heap} {f : Addr} {fd : FuncData} (F : FunD K "_law_lowest" "_law_lowest" (defArgs s_l_lowest) (defBody s_l_lowest) (defScope s_l_lowest) [] [] f fd) (B : Blt mg) (U_l_shared : FnU P w K mg base 1 "_law_shared" m_l_shared []) : FnOk P w K mg base CX0 2 f fd ["_law_x", "_law_y", "_law_w"] (spM K m_l_lowest) :=
  fn_okD F sc_l_lowest fun cdv A outer s H E hr => xb_cons (xs_if (xt_cmp (op_ltD (in_room hr)) opm_ord (x_v 2) (x_int)) (xb_one (xs_par3 0 1 2 rfl sc_l_lowest.nd (by decide) (by decide) (by decide) (xa_cons (x_sub (x_int) (x_v 0)) (xa_cons
    (x_sub (x_int) (x_v 1)) (xa_cons (x_sub (x_int) (x_v 2)) (xa_nil)))))) (xb_nil)) (xb_cons (xs_setv 3 sc_l_lowest.nd (x_call U_l_shared hr (by decide) (xr_v (x_call U_l_shared hr (by decide)
    (xr_v (x_v 0) (xr_v (x_v 1) (xr_nil)))) (xr_v (x_v 2) (xr_nil))))) (xb_one (xs_ret (x_tup (xa_cons (x_fdiv (x_v 0) (x_v 3)) (xa_cons (x_fdiv (x_v 1) (x_v 3)) (xa_cons (x_fdiv (x_v 2) (x_v
    3)) (xa_nil))))))))
abbrev s_stretch : Stmt := top 9
abbrev N_stretch : List Str := ["one", "other", "low", "high", "begin", "end"]
theorem sc_stretch : FnScope N_stretch ["one", "other"] (defScope s_stretch) := ⟨rfl, rfl, rfl, by decide +kernel, rfl, by decide +kernel, by decide +kernel⟩
theorem ok_stretch {P : Program} {w : World} {K : PySem.W.Frag} {mg : Str → Option Value} {base : Heap} {f : Addr} {fd : FuncData} (F : FunD K "stretch" "stretch" (defArgs s_stretch) (defBody s_stretch) (defScope s_stretch) [] [] f fd) (B : Blt mg) (U_ahead : FnU P w K mg base 1 "ahead" m_ahead []) (U_ends : FnU P w K mg base 2 "ends" m_ends []) : FnOk P w K mg base CX0 3 f fd ["one", "other"] (spM K m_stretch) :=
  fn_okD F sc_stretch fun cdv A outer s H E hr => xb_cons (xs_asg (x_call U_ends hr (by decide) (xr_v (x_v 0) (xr_nil))) (xg_tup rfl (xgs_cons (xg_n 2 sc_stretch.nd) (xgs_cons (xg_n 3 sc_stretch.nd) (xgs_nil))))) (xb_cons (xs_asg (x_call
    U_ends hr (by decide) (xr_v (x_v 1) (xr_nil))) (xg_tup rfl (xgs_cons (xg_n 4 sc_stretch.nd) (xgs_cons (xg_n 5 sc_stretch.nd) (xgs_nil))))) (xb_cons (xs_if (xt_tru (x_call U_ahead hr (by
    decide) (xr_v (x_v 2) (xr_v (x_v 4) (xr_nil))))) (xb_one (xs_setv 2 sc_stretch.nd (x_v 4))) (xb_nil)) (xb_cons (xs_if (xt_tru (x_call U_ahead hr (by decide) (xr_v (x_v 5) (xr_v (x_v 3)
    (xr_nil))))) (xb_one (xs_setv 3 sc_stretch.nd (x_v 5))) (xb_nil)) (xb_cons (xs_if (xt_tru (x_call U_ahead hr (by decide) (xr_v (x_v 3) (xr_v (x_v 2) (xr_nil))))) (xb_one (xs_ret (x_non)))
    (xb_nil)) (xb_cons (xs_if (xt_cmp (op_eqD hr.units) opm_eq (x_v 2) (x_v 3)) (xb_one (xs_ret (x_tup (xa_cons (x_str) (xa_cons (x_v 2) (xa_nil)))))) (xb_nil)) (xb_one (xs_ret (x_tup (xa_cons
    (x_str) (xa_cons (x_v 2) (xa_cons (x_v 3) (xa_nil))))))))))))
abbrev s_crossing : Stmt := top 11
abbrev N_crossing : List Str := ["one", "other", "x", "y", "w"]
theorem sc_crossing : FnScope N_crossing ["one", "other"] (defScope s_crossing) := ⟨rfl, rfl, rfl, by decide +kernel, rfl, by decide +kernel, by decide +kernel⟩
theorem ok_crossing {P : Program} {w : World} {K : PySem.W.Frag} {mg : Str → Option Value} {base : Heap} {f : Addr} {fd : FuncData} (F : FunD K "crossing" "crossing" (defArgs s_crossing) (defBody s_crossing) (defScope s_crossing) [] [] f fd) (B : Blt mg) (U_row_of : FnU P w K mg base 1 "row_of" m_row_of []) (U_spot : FnU P w K mg base 2 "spot" m_spot []) : FnOk P w K mg base CX0 3 f fd ["one", "other"] (spM K m_crossing) :=
  fn_okD F sc_crossing fun cdv A outer s H E hr => xb_cons (xs_asg (x_call U_row_of hr (by decide) (xr_v (x_call U_row_of hr (by decide) (xr_v (x_ix (x_v 0) (x_int)) (xr_v (x_ix (x_v 0) (x_int)) (xr_nil)))) (xr_v (x_call U_row_of hr (by
    decide) (xr_v (x_ix (x_v 1) (x_int)) (xr_v (x_ix (x_v 1) (x_int)) (xr_nil)))) (xr_nil)))) (xg_tup rfl (xgs_cons (xg_n 2 sc_crossing.nd) (xgs_cons (xg_n 3 sc_crossing.nd) (xgs_cons (xg_n 4
    sc_crossing.nd) (xgs_nil)))))) (xb_one (xs_ret (x_call U_spot hr (by decide) (xr_v (x_v 2) (xr_v (x_v 3) (xr_v (x_v 4) (xr_nil)))))))
abbrev s_l_spot : Stmt := top 23
abbrev N_l_spot : List Str := ["_law_pool_here", "_law_pick"]
theorem sc_l_spot : FnScope N_l_spot ["_law_pool_here"] (defScope s_l_spot) := ⟨rfl, rfl, rfl, by decide +kernel, rfl, by decide +kernel, by decide +kernel⟩
theorem ok_l_spot {P : Program} {w : World} {K : PySem.W.Frag} {mg : Str → Option Value} {base : Heap} {f : Addr} {fd : FuncData} (F : FunD K "_law_spot" "_law_spot" (defArgs s_l_spot) (defBody s_l_spot) (defScope s_l_spot) [] [] f fd) (B : Blt mg) (U_l_below : FnU P w K mg base 2 "_law_below" m_l_below []) (U_l_digit : FnU P w K mg base 1 "_law_digit" m_l_digit []) (U_l_drawn : FnU P w K mg base 2 "_law_drawn" m_l_drawn []) (U_l_lowest : FnU P w K mg base 2 "_law_lowest" m_l_lowest []) : FnOk P w K mg base CX0 3 f fd ["_law_pool_here"] (spM K m_l_spot) :=
  fn_okD F sc_l_spot fun cdv A outer s H E hr => xb_cons (xs_setv 1 sc_l_spot.nd (x_call U_l_digit hr (by decide) (xr_m 0 (xr_v (x_int) (xr_nil))))) (xb_cons (xs_if (xt_cmp (op_eqD hr.units) opm_eq (x_v 1) (x_int)) (xb_one (xs_ret (x_call
    U_l_lowest hr (by decide) (xr_v (x_call U_l_drawn hr (by decide) (xr_m 0 (xr_nil))) (xr_v (x_call U_l_drawn hr (by decide) (xr_m 0 (xr_nil))) (xr_v (x_call U_l_below hr (by decide) (xr_m 0
    (xr_nil))) (xr_nil))))))) (xb_nil)) (xb_one (xs_ret (x_call U_l_lowest hr (by decide) (xr_v (x_call U_l_digit hr (by decide) (xr_m 0 (xr_v (x_add (x_int) (x_mul (x_int) (x_v 1)))
    (xr_nil)))) (xr_v (x_call U_l_digit hr (by decide) (xr_m 0 (xr_v (x_add (x_int) (x_mul (x_int) (x_v 1))) (xr_nil)))) (xr_v (x_ix (x_lst (xa_cons (x_int) (xa_cons (x_int) (xa_cons (x_int)
    (xa_nil))))) (x_call U_l_digit hr (by decide) (xr_m 0 (xr_v (x_int) (xr_nil))))) (xr_nil))))))))
abbrev s_l_unlike : Stmt := top 24
abbrev N_l_unlike : List Str := ["_law_p", "_law_some", "_law_k"]
theorem sc_l_unlike : FnScope N_l_unlike ["_law_p", "_law_some"] (defScope s_l_unlike) := ⟨rfl, rfl, rfl, by decide +kernel, rfl, by decide +kernel, by decide +kernel⟩
theorem ok_l_unlike {P : Program} {w : World} {K : PySem.W.Frag} {mg : Str → Option Value} {base : Heap} {f : Addr} {fd : FuncData} (F : FunD K "_law_unlike" "_law_unlike" (defArgs s_l_unlike) (defBody s_l_unlike) (defScope s_l_unlike) [] [] f fd) (B : Blt mg) (U_l_lowest : FnU P w K mg base 2 "_law_lowest" m_l_lowest []) : FnOk P w K mg base CX0 3 f fd ["_law_p", "_law_some"] (spM K m_l_unlike) :=
  fn_okD F sc_l_unlike fun cdv A outer s H E hr => xb_cons (xs_for PassesOwn.never rfl (xi_rng B.b_range (xa_cons (x_add (x_len B.b_len (xa_cons (x_v 1) (xa_nil))) (x_int)) (xa_nil))) (xg_n 2 sc_l_unlike.nd) (xb_one (xs_if (xt_cmp (op_inX
    (in_room hr)) opm_inX (x_v 0) (x_v 1)) (xb_one (xs_setv 0 sc_l_unlike.nd (x_call U_l_lowest hr (by decide) (xr_v (x_add (x_ix (x_v 0) (x_int)) (x_ix (x_v 0) (x_int))) (xr_v (x_ix (x_v 0)
    (x_int)) (xr_v (x_ix (x_v 0) (x_int)) (xr_nil))))))) (xb_nil)))) (xb_one (xs_ret (x_v 0)))
abbrev s_l_between : Stmt := top 25
abbrev N_l_between : List Str := ["_law_pool_here", "_law_a", "_law_b", "_law_n", "_law_d", "_law_x", "_law_y"]
theorem sc_l_between : FnScope N_l_between ["_law_pool_here", "_law_a", "_law_b"] (defScope s_l_between) := ⟨rfl, rfl, rfl, by decide +kernel, rfl, by decide +kernel, by decide +kernel⟩
theorem ok_l_between {P : Program} {w : World} {K : PySem.W.Frag} {mg : Str → Option Value} {base : Heap} {f : Addr} {fd : FuncData} (F : FunD K "_law_between" "_law_between" (defArgs s_l_between) (defBody s_l_between) (defScope s_l_between) [] [] f fd) (B : Blt mg) (U_l_digit : FnU P w K mg base 1 "_law_digit" m_l_digit []) (U_l_lowest : FnU P w K mg base 2 "_law_lowest" m_l_lowest []) : FnOk P w K mg base CX0 3 f fd ["_law_pool_here", "_law_a", "_law_b"] (spM K m_l_between) :=
  fn_okD F sc_l_between fun cdv A outer s H E hr => xb_cons (xs_setv 3 sc_l_between.nd (x_sub (x_call U_l_digit hr (by decide) (xr_m 0 (xr_v (x_int) (xr_nil)))) (x_int))) (xb_cons (xs_setv 4 sc_l_between.nd (x_add (x_int) (x_call U_l_digit hr
    (by decide) (xr_m 0 (xr_v (x_int) (xr_nil)))))) (xb_cons (xs_setv 5 sc_l_between.nd (x_add (x_mul (x_mul (x_ix (x_v 1) (x_int)) (x_ix (x_v 2) (x_int))) (x_sub (x_v 4) (x_v 3))) (x_mul
    (x_mul (x_ix (x_v 2) (x_int)) (x_ix (x_v 1) (x_int))) (x_v 3)))) (xb_cons (xs_setv 6 sc_l_between.nd (x_add (x_mul (x_mul (x_ix (x_v 1) (x_int)) (x_ix (x_v 2) (x_int))) (x_sub (x_v 4) (x_v
    3))) (x_mul (x_mul (x_ix (x_v 2) (x_int)) (x_ix (x_v 1) (x_int))) (x_v 3)))) (xb_one (xs_ret (x_call U_l_lowest hr (by decide) (xr_v (x_v 5) (xr_v (x_v 6) (xr_v (x_mul (x_mul (x_ix (x_v 1)
    (x_int)) (x_ix (x_v 2) (x_int))) (x_v 4)) (xr_nil))))))))))
abbrev s_l_lone : Stmt := top 27
abbrev N_l_lone : List Str := ["_law_x", "_law_y", "_law_w"]
theorem sc_l_lone : FnScope N_l_lone ["_law_x", "_law_y", "_law_w"] (defScope s_l_lone) := ⟨rfl, rfl, rfl, by decide +kernel, rfl, by decide +kernel, by decide +kernel⟩
theorem ok_l_lone {P : Program} {w : World} {K : PySem.W.Frag} {mg : Str → Option Value} {base : Heap} {f : Addr} {fd : FuncData} (F : FunD K "_law_lone" "_law_lone" (defArgs s_l_lone) (defBody s_l_lone) (defScope s_l_lone) [] [] f fd) (B : Blt mg) (U_l_lowest : FnU P w K mg base 2 "_law_lowest" m_l_lowest []) : FnOk P w K mg base CX0 3 f fd ["_law_x", "_law_y", "_law_w"] (spM K m_l_lone) :=
  fn_okD F sc_l_lone fun cdv A outer s H E hr => xb_one (xs_ret (x_tup (xa_cons (x_str) (xa_cons (x_call U_l_lowest hr (by decide) (xr_v (x_v 0) (xr_v (x_v 1) (xr_v (x_v 2) (xr_nil))))) (xa_nil)))))
abbrev s_l_round : Stmt := top 32
abbrev N_l_round : List Str := ["_law_pool_here", "_law_ways", "_law_x", "_law_y", "_law_rare", "_law_left", "_law_way", "_law_spots", "_law_far", "_law_w"]
theorem sc_l_round : FnScope N_l_round ["_law_pool_here"] (defScope s_l_round) := ⟨rfl, rfl, rfl, by decide +kernel, rfl, by decide +kernel, by decide +kernel⟩
theorem ok_l_round {P : Program} {w : World} {K : PySem.W.Frag} {mg : Str → Option Value} {base : Heap} {f : Addr} {fd : FuncData} (F : FunD K "_law_round" "_law_round" (defArgs s_l_round) (defBody s_l_round) (defScope s_l_round) [] [] f fd) (B : Blt mg) (U_l_digit : FnU P w K mg base 1 "_law_digit" m_l_digit []) (U_l_lowest : FnU P w K mg base 2 "_law_lowest" m_l_lowest []) : FnOk P w K mg base CX0 3 f fd ["_law_pool_here"] (spM K m_l_round) :=
  fn_okD F sc_l_round fun cdv A outer s H E hr => xb_cons (xs_setv 1 sc_l_round.nd (x_lst (xa_cons (x_tup (xa_cons (x_int) (xa_cons (x_int) (xa_nil)))) (xa_cons (x_tup (xa_cons (x_int) (xa_cons (x_int) (xa_nil)))) (xa_cons (x_tup (xa_cons
    (x_int) (xa_cons (x_int) (xa_nil)))) (xa_cons (x_tup (xa_cons (x_int) (xa_cons (x_int) (xa_nil)))) (xa_cons (x_tup (xa_cons (x_int) (xa_cons (x_int) (xa_nil)))) (xa_cons (x_tup (xa_cons
    (x_int) (xa_cons (x_int) (xa_nil)))) (xa_cons (x_tup (xa_cons (x_int) (xa_cons (x_int) (xa_nil)))) (xa_cons (x_tup (xa_cons (x_neg (x_int)) (xa_cons (x_int) (xa_nil)))) (xa_cons (x_tup
    (xa_cons (x_neg (x_int)) (xa_cons (x_int) (xa_nil)))) (xa_cons (x_tup (xa_cons (x_neg (x_int)) (xa_cons (x_int) (xa_nil)))) (xa_cons (x_tup (xa_cons (x_neg (x_int)) (xa_cons (x_int)
    (xa_nil)))) (xa_cons (x_tup (xa_cons (x_neg (x_int)) (xa_cons (x_int) (xa_nil)))) (xa_nil))))))))))))))) (xb_cons (xs_setv 1 sc_l_round.nd (x_add (x_v 1) (x_lst (xa_cons (x_tup (xa_cons
    (x_neg (x_int)) (xa_cons (x_int) (xa_nil)))) (xa_cons (x_tup (xa_cons (x_neg (x_int)) (xa_cons (x_neg (x_int)) (xa_nil)))) (xa_cons (x_tup (xa_cons (x_neg (x_int)) (xa_cons (x_neg (x_int))
    (xa_nil)))) (xa_cons (x_tup (xa_cons (x_neg (x_int)) (xa_cons (x_neg (x_int)) (xa_nil)))) (xa_cons (x_tup (xa_cons (x_neg (x_int)) (xa_cons (x_neg (x_int)) (xa_nil)))) (xa_cons (x_tup
    (xa_cons (x_int) (xa_cons (x_neg (x_int)) (xa_nil)))) (xa_cons (x_tup (xa_cons (x_int) (xa_cons (x_neg (x_int)) (xa_nil)))) (xa_cons (x_tup (xa_cons (x_int) (xa_cons (x_neg (x_int))
    (xa_nil)))) (xa_cons (x_tup (xa_cons (x_int) (xa_cons (x_neg (x_int)) (xa_nil)))) (xa_cons (x_tup (xa_cons (x_int) (xa_cons (x_neg (x_int)) (xa_nil)))) (xa_nil)))))))))))))) (xb_cons
    (xs_setv 1 sc_l_round.nd (x_add (x_v 1) (x_lst (xa_cons (x_tup (xa_cons (x_int) (xa_cons (x_neg (x_int)) (xa_nil)))) (xa_cons (x_tup (xa_cons (x_int) (xa_cons (x_neg (x_int)) (xa_nil))))
    (xa_nil)))))) (xb_cons (xs_par 2 3 rfl sc_l_round.nd (by decide) (xa_cons (x_sub (x_call U_l_digit hr (by decide) (xr_m 0 (xr_v (x_int) (xr_nil)))) (x_int)) (xa_cons (x_sub (x_call
    U_l_digit hr (by decide) (xr_m 0 (xr_v (x_int) (xr_nil)))) (x_int)) (xa_nil)))) (xb_cons (xs_setv 4 sc_l_round.nd (x_add (x_int) (x_call U_l_digit hr (by decide) (xr_m 0 (xr_v (x_int)
    (xr_nil)))))) (xb_cons (xs_lcv 5 ([("_law_way", 6)]) rfl sc_l_round.nd (xi_seq (x_v 1)) (blkOk_by (N := N_l_round) (sc := defScope s_l_round) (by decide +kernel)) (fun _ _ _ _ _ => (pg_name
    (i := 6) sc_l_round.nd rfl (Or.inl rfl))) (gm_n) (only_n (by decide)) (fun _ _ _ _ _ => xts_one (xt_w (xw_or (xt_cmp (op_ltD (in_room hr)) opm_ord (x_call U_l_digit hr (by decide) (xr_m 0
    (xr_v (x_v 4) (xr_nil)))) (x_int)) (xw_or1 (xt_cmp (op_inX (in_room hr)) opm_inX (x_v 6) (x_stp (x_v 1))))))) (fun _ _ _ _ _ => x_v 6)) (xb_cons (xs_set 7 sc_l_round.nd (x_lst (xa_nil)))
    (xb_cons (xs_for PassesOwn.never rfl (xi_seq (x_v 5)) (xg_n 6 sc_l_round.nd) (xb_cons (xs_setv 8 sc_l_round.nd (x_add (x_int) (x_call U_l_digit hr (by decide) (xr_m 0 (xr_v (x_int)
    (xr_nil)))))) (xb_cons (xs_setv 9 sc_l_round.nd (x_add (x_int) (x_call U_l_digit hr (by decide) (xr_m 0 (xr_v (x_int) (xr_nil)))))) (xb_one (xs_ex (x_app 7 (x_call U_l_lowest hr (by decide)
    (xr_v (x_add (x_mul (x_v 2) (x_v 9)) (x_mul (x_ix (x_v 6) (x_int)) (x_v 8))) (xr_v (x_add (x_mul (x_v 3) (x_v 9)) (x_mul (x_ix (x_v 6) (x_int)) (x_v 8))) (xr_v (x_v 9) (xr_nil)))))))))))
    (xb_one (xs_ret (x_tupc B.b_tuple (xa_cons (x_fz 7) (xa_nil))))))))))))
abbrev s_common : Stmt := top 12
abbrev N_common : List Str := ["one", "other", "a", "b", "c", "d", "first", "second"]
theorem sc_common : FnScope N_common ["one", "other"] (defScope s_common) := ⟨rfl, rfl, rfl, by decide +kernel, rfl, by decide +kernel, by decide +kernel⟩
theorem ok_common {P : Program} {w : World} {K : PySem.W.Frag} {mg : Str → Option Value} {base : Heap} {f : Addr} {fd : FuncData} (F : FunD K "common" "common" (defArgs s_common) (defBody s_common) (defScope s_common) [] [] f fd) (B : Blt mg) (U_apart : FnU P w K mg base 1 "apart" m_apart []) (U_crossing : FnU P w K mg base 3 "crossing" m_crossing []) (U_stretch : FnU P w K mg base 3 "stretch" m_stretch []) (U_turn : FnU P w K mg base 1 "turn" m_turn []) : FnOk P w K mg base CX0 4 f fd ["one", "other"] (spM K m_common) :=
  fn_okD F sc_common fun cdv A outer s H E hr => xb_cons (xs_if (xt_w (xw_or (xt_tru (x_call U_apart hr (by decide) (xr_v (x_v 0) (xr_v (x_v 1) (xr_v (x_int) (xr_nil)))))) (xw_or (xt_tru (x_call U_apart hr (by decide) (xr_v (x_v 1) (xr_v
    (x_v 0) (xr_v (x_int) (xr_nil)))))) (xw_or (xt_tru (x_call U_apart hr (by decide) (xr_v (x_v 0) (xr_v (x_v 1) (xr_v (x_int) (xr_nil)))))) (xw_or1 (xt_tru (x_call U_apart hr (by decide)
    (xr_v (x_v 1) (xr_v (x_v 0) (xr_v (x_int) (xr_nil))))))))))) (xb_one (xs_ret (x_non))) (xb_nil)) (xb_cons (xs_asg (x_v 0) (xg_tup rfl (xgs_cons (xg_n 2 sc_common.nd) (xgs_cons (xg_n 3
    sc_common.nd) (xgs_nil))))) (xb_cons (xs_asg (x_v 1) (xg_tup rfl (xgs_cons (xg_n 4 sc_common.nd) (xgs_cons (xg_n 5 sc_common.nd) (xgs_nil))))) (xb_cons (xs_setv 6 sc_common.nd (x_call
    U_turn hr (by decide) (xr_v (x_v 2) (xr_v (x_v 3) (xr_v (x_v 4) (xr_nil)))))) (xb_cons (xs_setv 7 sc_common.nd (x_call U_turn hr (by decide) (xr_v (x_v 2) (xr_v (x_v 3) (xr_v (x_v 5)
    (xr_nil)))))) (xb_cons (xs_if (xt_w (xw_and (xt_cmp (op_eqD hr.units) opm_eq (x_v 6) (x_int)) (xw_and1 (xt_cmp (op_eqD hr.units) opm_eq (x_v 7) (x_int))))) (xb_one (xs_ret (x_call U_stretch
    hr (by decide) (xr_v (x_v 0) (xr_v (x_v 1) (xr_nil)))))) (xb_nil)) (xb_cons (xs_if (xt_w (xw_or (xt_cmp (op_gtD (in_room hr)) opm_ord (x_mul (x_v 6) (x_v 7)) (x_int)) (xw_or1 (xt_cmp
    (op_gtD (in_room hr)) opm_ord (x_mul (x_call U_turn hr (by decide) (xr_v (x_v 4) (xr_v (x_v 5) (xr_v (x_v 2) (xr_nil))))) (x_call U_turn hr (by decide) (xr_v (x_v 4) (xr_v (x_v 5) (xr_v
    (x_v 3) (xr_nil)))))) (x_int))))) (xb_one (xs_ret (x_non))) (xb_nil)) (xb_one (xs_ret (x_tup (xa_cons (x_str) (xa_cons (x_call U_crossing hr (by decide) (xr_v (x_v 0) (xr_v (x_v 1)
    (xr_nil)))) (xa_nil))))))))))))
abbrev s_l_loop : Stmt := top 26
abbrev N_l_loop : List Str := ["_law_pool_here", "_law_most", "_law_spots", "_law_many", "_law_k"]
theorem sc_l_loop : FnScope N_l_loop ["_law_pool_here", "_law_most"] (defScope s_l_loop) := ⟨rfl, rfl, rfl, by decide +kernel, rfl, by decide +kernel, by decide +kernel⟩
theorem ok_l_loop {P : Program} {w : World} {K : PySem.W.Frag} {mg : Str → Option Value} {base : Heap} {f : Addr} {fd : FuncData} (F : FunD K "_law_loop" "_law_loop" (defArgs s_l_loop) (defBody s_l_loop) (defScope s_l_loop) [] [] f fd) (B : Blt mg) (U_l_digit : FnU P w K mg base 1 "_law_digit" m_l_digit []) (U_l_spot : FnU P w K mg base 3 "_law_spot" m_l_spot []) (U_l_unlike : FnU P w K mg base 3 "_law_unlike" m_l_unlike []) : FnOk P w K mg base CX0 4 f fd ["_law_pool_here", "_law_most"] (spM K m_l_loop) :=
  fn_okD F sc_l_loop fun cdv A outer s H E hr => xb_cons (xs_set 2 sc_l_loop.nd (x_lst (xa_cons (x_call U_l_spot hr (by decide) (xr_m 0 (xr_nil))) (xa_nil)))) (xb_cons (xs_setv 3 sc_l_loop.nd (x_add (x_int) (x_call U_l_digit hr (by decide)
    (xr_m 0 (xr_v (x_sub (x_v 1) (x_int)) (xr_nil)))))) (xb_cons (xs_for PassesOwn.never rfl (xi_rng2 B.b_range (xa_cons (x_int) (xa_cons (x_v 3) (xa_nil)))) (xg_n 4 sc_l_loop.nd) (xb_one
    (xs_ex (x_app 2 (x_call U_l_unlike hr (by decide) (xr_v (x_call U_l_spot hr (by decide) (xr_m 0 (xr_nil))) (xr_v (x_add (x_lst (xa_cons (x_ixo 2 (x_neg (x_int))) (xa_nil))) (x_slo 2 (xo_no)
    (xo_at (x_intc B.b_int (xa_cons (x_cmp (op_eqD hr.units) opm_eq (x_add (x_v 4) (x_int)) (x_v 3)) (xa_nil)))))) (xr_nil)))))))) (xb_one (xs_ret (x_tupc B.b_tuple (xa_cons (x_fz 2)
    (xa_nil)))))))
abbrev s_l_in_row : Stmt := top 28
abbrev N_l_in_row : List Str := ["_law_mine", "_law_theirs", "_law_w", "_law_low", "_law_high"]
theorem sc_l_in_row : FnScope N_l_in_row ["_law_mine", "_law_theirs", "_law_w"] (defScope s_l_in_row) := ⟨rfl, rfl, rfl, by decide +kernel, rfl, by decide +kernel, by decide +kernel⟩
theorem ok_l_in_row {P : Program} {w : World} {K : PySem.W.Frag} {mg : Str → Option Value} {base : Heap} {f : Addr} {fd : FuncData} (F : FunD K "_law_in_row" "_law_in_row" (defArgs s_l_in_row) (defBody s_l_in_row) (defScope s_l_in_row) [] [] f fd) (B : Blt mg) (U_l_lone : FnU P w K mg base 3 "_law_lone" m_l_lone []) (U_l_lowest : FnU P w K mg base 2 "_law_lowest" m_l_lowest []) : FnOk P w K mg base CX0 4 f fd ["_law_mine", "_law_theirs", "_law_w"] (spM K m_l_in_row) :=
  fn_okD F sc_l_in_row fun cdv A outer s H E hr => xb_cons (xs_setv 3 sc_l_in_row.nd (x_maxX rfl (in_room hr) B.b_max (xa_cons (x_ix (x_v 0) (x_int)) (xa_cons (x_ix (x_v 1) (x_int)) (xa_nil))))) (xb_cons (xs_setv 4 sc_l_in_row.nd (x_minX rfl
    (in_room hr) B.b_min (xa_cons (x_ix (x_v 0) (x_int)) (xa_cons (x_ix (x_v 1) (x_int)) (xa_nil))))) (xb_cons (xs_if (xt_cmp (op_gtD (in_room hr)) opm_ord (x_v 3) (x_v 4)) (xb_one (xs_ret
    (x_non))) (xb_nil)) (xb_cons (xs_if (xt_cmp (op_eqD hr.units) opm_eq (x_v 3) (x_v 4)) (xb_one (xs_ret (x_call U_l_lone hr (by decide) (xr_v (x_ix (x_v 3) (x_int)) (xr_v (x_ix (x_v 3)
    (x_int)) (xr_v (x_v 2) (xr_nil))))))) (xb_nil)) (xb_one (xs_ret (x_tup (xa_cons (x_str) (xa_cons (x_call U_l_lowest hr (by decide) (xr_v (x_ix (x_v 3) (x_int)) (xr_v (x_ix (x_v 3) (x_int))
    (xr_v (x_v 2) (xr_nil))))) (xa_cons (x_call U_l_lowest hr (by decide) (xr_v (x_ix (x_v 4) (x_int)) (xr_v (x_ix (x_v 4) (x_int)) (xr_v (x_v 2) (xr_nil))))) (xa_nil))))))))))
abbrev s_l_spoilt : Stmt := top 33
abbrev N_l_spoilt : List Str := ["_law_pool_here", "_law_loop_here", "_law_at", "_law_p", "_law_pick", "_law_j"]
theorem sc_l_spoilt : FnScope N_l_spoilt ["_law_pool_here", "_law_loop_here"] (defScope s_l_spoilt) := ⟨rfl, rfl, rfl, by decide +kernel, rfl, by decide +kernel, by decide +kernel⟩
theorem ok_l_spoilt {P : Program} {w : World} {K : PySem.W.Frag} {mg : Str → Option Value} {base : Heap} {f : Addr} {fd : FuncData} (F : FunD K "_law_spoilt" "_law_spoilt" (defArgs s_l_spoilt) (defBody s_l_spoilt) (defScope s_l_spoilt) [] [] f fd) (B : Blt mg) (U_l_between : FnU P w K mg base 3 "_law_between" m_l_between []) (U_l_digit : FnU P w K mg base 1 "_law_digit" m_l_digit []) (U_l_spot : FnU P w K mg base 3 "_law_spot" m_l_spot []) (U_l_unlike : FnU P w K mg base 3 "_law_unlike" m_l_unlike []) : FnOk P w K mg base CX0 4 f fd ["_law_pool_here", "_law_loop_here"] (spM K m_l_spoilt) :=
  fn_okD F sc_l_spoilt fun cdv A outer s H E hr => xb_cons (xs_setv 2 sc_l_spoilt.nd (x_call U_l_digit hr (by decide) (xr_m 0 (xr_v (x_len B.b_len (xa_cons (x_v 1) (xa_nil))) (xr_nil))))) (xb_cons (xs_setv 3 sc_l_spoilt.nd (x_call U_l_spot hr
    (by decide) (xr_m 0 (xr_nil)))) (xb_cons (xs_setv 4 sc_l_spoilt.nd (x_call U_l_digit hr (by decide) (xr_m 0 (xr_v (x_int) (xr_nil))))) (xb_cons (xs_if (xt_cmp (op_eqD hr.units) opm_eq (x_v
    4) (x_int)) (xb_cons (xs_setv 5 sc_l_spoilt.nd (x_call U_l_digit hr (by decide) (xr_m 0 (xr_v (x_len B.b_len (xa_cons (x_v 1) (xa_nil))) (xr_nil))))) (xb_one (xs_setv 3 sc_l_spoilt.nd
    (x_call U_l_between hr (by decide) (xr_m 0 (xr_v (x_ix (x_v 1) (x_sub (x_v 5) (x_int))) (xr_v (x_ix (x_v 1) (x_v 5)) (xr_nil)))))))) (xb_nil)) (xb_cons (xs_if (xt_cmp (op_eqD hr.units)
    opm_eq (x_v 4) (x_int)) (xb_one (xs_setv 3 sc_l_spoilt.nd (x_ix (x_v 1) (x_call U_l_digit hr (by decide) (xr_m 0 (xr_v (x_len B.b_len (xa_cons (x_v 1) (xa_nil))) (xr_nil))))))) (xb_nil))
    (xb_cons (xs_setv 3 sc_l_spoilt.nd (x_call U_l_unlike hr (by decide) (xr_v (x_v 3) (xr_v (x_lst (xa_cons (x_ix (x_v 1) (x_sub (x_v 2) (x_int))) (xa_cons (x_ix (x_v 1) (x_mod (x_add (x_v 2)
    (x_int)) (x_len B.b_len (xa_cons (x_v 1) (xa_nil))))) (xa_nil)))) (xr_nil))))) (xb_one (xs_ret (x_add (x_add (x_sl (x_v 1) (xo_no) (xo_at (x_v 2))) (x_tup (xa_cons (x_v 3) (xa_nil)))) (x_sl
    (x_v 1) (xo_at (x_add (x_v 2) (x_int))) (xo_no))))))))))
abbrev s_is_simple : Stmt := top 15
abbrev N_is_simple : List Str := ["loop", "sides", "last", "k", "j", "due"]
theorem sc_is_simple : FnScope N_is_simple ["loop"] (defScope s_is_simple) := ⟨rfl, rfl, rfl, by decide +kernel, rfl, by decide +kernel, by decide +kernel⟩
theorem ok_is_simple {P : Program} {w : World} {K : PySem.W.Frag} {mg : Str → Option Value} {base : Heap} {f : Addr} {fd : FuncData} (F : FunD K "is_simple" "is_simple" (defArgs s_is_simple) (defBody s_is_simple) (defScope s_is_simple) [] [] f fd) (B : Blt mg) (U_common : FnU P w K mg base 4 "common" m_common []) (U_sides_of : FnU P w K mg base 1 "sides_of" m_sides_of []) : FnOk P w K mg base CX0 5 f fd ["loop"] (spM K m_is_simple) :=
  fn_okD F sc_is_simple fun cdv A outer s H E hr => xb_cons (xs_if (xt_w (xw_or (xt_cmp (op_ltD (in_room hr)) opm_ord (x_len B.b_len (xa_cons (x_v 0) (xa_nil))) (x_int)) (xw_or1 (xt_cmp (op_neD hr.units) opm_ne (x_lset2 rfl (Nat.lt_of_succ_lt
    (in_room hr)) B.b_len B.b_set (xa_cons (x_v 0) (xa_nil))) (x_len B.b_len (xa_cons (x_v 0) (xa_nil))))))) (xb_one (xs_ret (x_bl))) (xb_nil)) (xb_cons (xs_setv 1 sc_is_simple.nd (x_call
    U_sides_of hr (by decide) (xr_v (x_v 0) (xr_nil)))) (xb_cons (xs_setv 2 sc_is_simple.nd (x_sub (x_len B.b_len (xa_cons (x_v 1) (xa_nil))) (x_int))) (xb_cons (xs_for PassesOwn.never rfl
    (xi_rng B.b_range (xa_cons (x_add (x_v 2) (x_int)) (xa_nil))) (xg_n 3 sc_is_simple.nd) (xb_one (xs_for PassesOwn.never rfl (xi_rng B.b_range (xa_cons (x_v 3) (xa_nil))) (xg_n 4
    sc_is_simple.nd) (xb_cons (xs_setv 5 sc_is_simple.nd (x_non)) (xb_cons (xs_if (xt_cmp (op_eqD hr.units) opm_eq (x_add (x_v 4) (x_int)) (x_v 3)) (xb_one (xs_setv 5 sc_is_simple.nd (x_tup
    (xa_cons (x_str) (xa_cons (x_ix (x_v 0) (x_v 3)) (xa_nil)))))) (xb_one (xs_if (xt_w (xw_and (xt_cmp (op_eqD hr.units) opm_eq (x_v 4) (x_int)) (xw_and1 (xt_cmp (op_eqD hr.units) opm_eq (x_v
    3) (x_v 2))))) (xb_one (xs_setv 5 sc_is_simple.nd (x_tup (xa_cons (x_str) (xa_cons (x_ix (x_v 0) (x_int)) (xa_nil)))))) (xb_nil)))) (xb_one (xs_if (xt_cmp (op_neD hr.units) opm_ne (x_call
    U_common hr (by decide) (xr_v (x_ix (x_v 1) (x_v 4)) (xr_v (x_ix (x_v 1) (x_v 3)) (xr_nil)))) (x_v 5)) (xb_one (xs_ret (x_bl))) (xb_nil)))))))) (xb_one (xs_ret (x_bl))))))
abbrev s_l_shares : Stmt := top 30
abbrev N_l_shares : List Str := ["_law_one", "_law_other", "_law_w", "_law_a", "_law_b", "_law_c", "_law_d", "_law_p", "_law_along_one", "_law_along_other", "_law_way", "_law_whole", "_law_mine", "_law_theirs"]
theorem sc_l_shares : FnScope N_l_shares ["_law_one", "_law_other"] (defScope s_l_shares) := ⟨rfl, rfl, rfl, by decide +kernel, rfl, by decide +kernel, by decide +kernel⟩
theorem ok_l_shares {P : Program} {w : World} {K : PySem.W.Frag} {mg : Str → Option Value} {base : Heap} {f : Addr} {fd : FuncData} (F : FunD K "_law_shares" "_law_shares" (defArgs s_l_shares) (defBody s_l_shares) (defScope s_l_shares) [] [] f fd) (B : Blt mg) (U_l_across : FnU P w K mg base 1 "_law_across" m_l_across []) (U_l_in_row : FnU P w K mg base 4 "_law_in_row" m_l_in_row []) (U_l_lone : FnU P w K mg base 3 "_law_lone" m_l_lone []) : FnOk P w K mg base CX0 5 f fd ["_law_one", "_law_other"] (spM K m_l_shares) :=
  fn_okD F sc_l_shares fun cdv A outer s H E hr => xb_cons (xs_setv 2 sc_l_shares.nd (x_mul (x_mul (x_mul (x_ix (x_ix (x_v 0) (x_int)) (x_int)) (x_ix (x_ix (x_v 0) (x_int)) (x_int))) (x_ix (x_ix (x_v 1) (x_int)) (x_int))) (x_ix (x_ix (x_v 1)
    (x_int)) (x_int)))) (xb_cons (xs_asg (x_lc ([("_law_p", 7)]) rfl sc_l_shares.nd (xi_seq (x_add (x_v 0) (x_v 1))) (blkOk_by (N := N_l_shares) (sc := defScope s_l_shares) (by decide +kernel))
    (fun _ _ _ _ _ => (pg_name (i := 7) sc_l_shares.nd rfl (Or.inl rfl))) (gm_n) (only_n (by decide)) (fun _ _ _ _ _ => xts_nil) (fun _ _ _ _ _ => x_tup (xa_cons (x_mul (x_ix (x_v 7) (x_int))
    (x_fdiv (x_v 2) (x_ix (x_v 7) (x_int)))) (xa_cons (x_mul (x_ix (x_v 7) (x_int)) (x_fdiv (x_v 2) (x_ix (x_v 7) (x_int)))) (xa_nil))))) (xg_lst rfl (xgs_cons (xg_n 3 sc_l_shares.nd) (xgs_cons
    (xg_n 4 sc_l_shares.nd) (xgs_cons (xg_n 5 sc_l_shares.nd) (xgs_cons (xg_n 6 sc_l_shares.nd) (xgs_nil))))))) (xb_cons (xs_setv 8 sc_l_shares.nd (x_tup (xa_cons (x_sub (x_ix (x_v 4) (x_int))
    (x_ix (x_v 3) (x_int))) (xa_cons (x_sub (x_ix (x_v 4) (x_int)) (x_ix (x_v 3) (x_int))) (xa_nil))))) (xb_cons (xs_setv 9 sc_l_shares.nd (x_tup (xa_cons (x_sub (x_ix (x_v 6) (x_int)) (x_ix
    (x_v 5) (x_int))) (xa_cons (x_sub (x_ix (x_v 6) (x_int)) (x_ix (x_v 5) (x_int))) (xa_nil))))) (xb_cons (xs_setv 10 sc_l_shares.nd (x_tup (xa_cons (x_sub (x_ix (x_v 5) (x_int)) (x_ix (x_v 3)
    (x_int))) (xa_cons (x_sub (x_ix (x_v 5) (x_int)) (x_ix (x_v 3) (x_int))) (xa_nil))))) (xb_cons (xs_setv 11 sc_l_shares.nd (x_call U_l_across hr (by decide) (xr_v (x_v 8) (xr_v (x_v 9)
    (xr_nil))))) (xb_cons (xs_setv 12 sc_l_shares.nd (x_call U_l_across hr (by decide) (xr_v (x_v 10) (xr_v (x_v 9) (xr_nil))))) (xb_cons (xs_setv 13 sc_l_shares.nd (x_call U_l_across hr (by
    decide) (xr_v (x_v 10) (xr_v (x_v 8) (xr_nil))))) (xb_cons (xs_if (xt_w (xw_and (xt_cmp (op_eqD hr.units) opm_eq (x_v 11) (x_int)) (xw_and1 (xt_cmp (op_eqD hr.units) opm_eq (x_v 13)
    (x_int))))) (xb_one (xs_ret (x_call U_l_in_row hr (by decide) (xr_v (x_sorted (in_room hr) B.b_sorted (xa_cons (x_lst (xa_cons (x_v 3) (xa_cons (x_v 4) (xa_nil)))) (xa_nil))) (xr_v
    (x_sorted (in_room hr) B.b_sorted (xa_cons (x_lst (xa_cons (x_v 5) (xa_cons (x_v 6) (xa_nil)))) (xa_nil))) (xr_v (x_v 2) (xr_nil))))))) (xb_nil)) (xb_cons (xs_if (xt_cmp (op_ltD (in_room
    hr)) opm_ord (x_v 11) (x_int)) (xb_one (xs_par3 11 12 13 rfl sc_l_shares.nd (by decide) (by decide) (by decide) (xa_cons (x_sub (x_int) (x_v 11)) (xa_cons (x_sub (x_int) (x_v 12)) (xa_cons
    (x_sub (x_int) (x_v 13)) (xa_nil)))))) (xb_nil)) (xb_cons (xs_if (xt_w (xw_or (xt_cmp (op_eqD hr.units) opm_eq (x_v 11) (x_int)) (xw_or (xt_not (xt_chain (op_leD (in_room hr)) (op_leD
    (in_room hr)) opm_ord opm_ord (x_int) (x_v 12) (x_v 11))) (xw_or1 (xt_not (xt_chain (op_leD (in_room hr)) (op_leD (in_room hr)) opm_ord opm_ord (x_int) (x_v 13) (x_v 11))))))) (xb_one
    (xs_ret (x_non))) (xb_nil)) (xb_one (xs_ret (x_call U_l_lone hr (by decide) (xr_v (x_add (x_mul (x_ix (x_v 3) (x_int)) (x_v 11)) (x_mul (x_ix (x_v 8) (x_int)) (x_v 12))) (xr_v (x_add (x_mul
    (x_ix (x_v 3) (x_int)) (x_v 11)) (x_mul (x_ix (x_v 8) (x_int)) (x_v 12))) (xr_v (x_mul (x_v 2) (x_v 11)) (xr_nil)))))))))))))))))
abbrev s_l_is_simple : Stmt := top 31
abbrev N_l_is_simple : List Str := ["_law_loop_here", "_law_many", "_law_sides", "_law_k", "_law_j", "_law_due"]
theorem sc_l_is_simple : FnScope N_l_is_simple ["_law_loop_here"] (defScope s_l_is_simple) := ⟨rfl, rfl, rfl, by decide +kernel, rfl, by decide +kernel, by decide +kernel⟩
theorem ok_l_is_simple {P : Program} {w : World} {K : PySem.W.Frag} {mg : Str → Option Value} {base : Heap} {f : Addr} {fd : FuncData} (F : FunD K "_law_is_simple" "_law_is_simple" (defArgs s_l_is_simple) (defBody s_l_is_simple) (defScope s_l_is_simple) [] [] f fd) (B : Blt mg) (U_l_shares : FnU P w K mg base 5 "_law_shares" m_l_shares []) : FnOk P w K mg base CX0 6 f fd ["_law_loop_here"] (spM K m_l_is_simple) :=
  fn_okD F sc_l_is_simple fun cdv A outer s H E hr => xb_cons (xs_if (xt_cmp (op_neD hr.units) opm_ne (x_lset2 rfl (Nat.lt_of_succ_lt (in_room hr)) B.b_len B.b_set (xa_cons (x_v 0) (xa_nil))) (x_len B.b_len (xa_cons (x_v 0) (xa_nil)))) (xb_one
    (xs_ret (x_bl))) (xb_nil)) (xb_cons (xs_setv 1 sc_l_is_simple.nd (x_len B.b_len (xa_cons (x_v 0) (xa_nil)))) (xb_cons (xs_lcv 2 ([("_law_k", 3)]) rfl sc_l_is_simple.nd (xi_rng B.b_range
    (xa_cons (x_v 1) (xa_nil))) (blkOk_by (N := N_l_is_simple) (sc := defScope s_l_is_simple) (by decide +kernel)) (fun _ _ _ _ _ => (pg_name (i := 3) sc_l_is_simple.nd rfl (Or.inl rfl)))
    (gm_n) (only_n (by decide)) (fun _ _ _ _ _ => xts_nil) (fun _ _ _ _ _ => x_tup (xa_cons (x_ix (x_v 0) (x_v 3)) (xa_cons (x_ix (x_v 0) (x_mod (x_add (x_v 3) (x_int)) (x_v 1))) (xa_nil)))))
    (xb_cons (xs_for PassesOwn.never rfl (xi_rng B.b_range (xa_cons (x_v 1) (xa_nil))) (xg_n 3 sc_l_is_simple.nd) (xb_one (xs_for PassesOwn.never rfl (xi_rng B.b_range (xa_cons (x_v 3)
    (xa_nil))) (xg_n 4 sc_l_is_simple.nd) (xb_cons (xs_setv 5 sc_l_is_simple.nd (x_non)) (xb_cons (xs_if (xt_cmp (op_eqD hr.units) opm_eq (x_sub (x_v 3) (x_v 4)) (x_int)) (xb_one (xs_setv 5
    sc_l_is_simple.nd (x_tup (xa_cons (x_str) (xa_cons (x_ix (x_v 0) (x_v 3)) (xa_nil)))))) (xb_nil)) (xb_cons (xs_if (xt_w (xw_and (xt_cmp (op_eqD hr.units) opm_eq (x_v 4) (x_int)) (xw_and1
    (xt_cmp (op_eqD hr.units) opm_eq (x_v 3) (x_sub (x_v 1) (x_int)))))) (xb_one (xs_setv 5 sc_l_is_simple.nd (x_tup (xa_cons (x_str) (xa_cons (x_ix (x_v 0) (x_int)) (xa_nil)))))) (xb_nil))
    (xb_one (xs_if (xt_cmp (op_neD hr.units) opm_ne (x_call U_l_shares hr (by decide) (xr_v (x_ix (x_v 2) (x_v 4)) (xr_v (x_ix (x_v 2) (x_v 3)) (xr_nil)))) (x_v 5)) (xb_one (xs_ret (x_bl)))
    (xb_nil))))))))) (xb_one (xs_ret (x_bl))))))
abbrev s_law : Stmt := top 34
abbrev N_law : List Str := ["_law_script", "_law_k", "_law_pool_here", "_law_sort", "_law_loop_here", "_law_p", "_law_q", "_law_few", "_law_due", "_law_found", "_law_at"]
theorem sc_law : FnScope N_law ["_law_script"] (defScope s_law) := ⟨rfl, rfl, rfl, by decide +kernel, rfl, by decide +kernel, by decide +kernel⟩
theorem ok_law {P : Program} {w : World} {K : PySem.W.Frag} {mg : Str → Option Value} {base : Heap} {f : Addr} {fd : FuncData} (F : FunD K "law" "law" (defArgs s_law) (defBody s_law) (defScope s_law) [] [] f fd) (B : Blt mg) (U_l_digit : FnU P w K mg base 1 "_law_digit" m_l_digit []) (U_l_is_simple : FnU P w K mg base 6 "_law_is_simple" m_l_is_simple []) (U_l_loop : FnU P w K mg base 4 "_law_loop" m_l_loop []) (U_l_pool : FnU P w K mg base 1 "_law_pool" m_l_pool []) (U_l_round : FnU P w K mg base 3 "_law_round" m_l_round []) (U_l_spoilt : FnU P w K mg base 4 "_law_spoilt" m_l_spoilt []) (U_is_simple : FnU P w K mg base 5 "is_simple" m_is_simple []) : FnOk P w K mg base CX0 7 f fd ["_law_script"] (spM K m_law) :=
  fn_okD F sc_law fun cdv A outer s H E hr => xb_cons (xs_for PassesOwn.never rfl (xi_rng B.b_range (xa_cons (x_maxX rfl (in_room hr) B.b_max (xa_cons (x_int) (xa_cons (x_len B.b_len (xa_cons (x_sl (x_v 0) (xo_at (x_int)) (xo_at
    (x_int))) (xa_nil))) (xa_nil)))) (xa_nil))) (xg_n 1 sc_law.nd) (xb_cons (xs_set 2 sc_law.nd (x_call U_l_pool hr (by decide) (xr_v (x_v 0) (xr_v (x_add (x_int) (x_v 1)) (xr_nil))))) (xb_cons
    (xs_setv 3 sc_law.nd (x_call U_l_digit hr (by decide) (xr_m 2 (xr_v (x_int) (xr_nil))))) (xb_cons (xs_setv 4 sc_law.nd (x_call U_l_loop hr (by decide) (xr_m 2 (xr_v (x_int) (xr_nil)))))
    (xb_cons (xs_asg (x_sl (x_v 4) (xo_no) (xo_at (x_int))) (xg_tup rfl (xgs_cons (xg_n 5 sc_law.nd) (xgs_cons (xg_n 6 sc_law.nd) (xgs_nil))))) (xb_cons (xs_for PassesOwn.never rfl (xi_seq
    (x_lst (xa_cons (x_tup (xa_nil)) (xa_cons (x_tup (xa_cons (x_v 5) (xa_nil))) (xa_cons (x_tup (xa_cons (x_v 5) (xa_cons (x_v 6) (xa_nil)))) (xa_cons (x_tup (xa_cons (x_v 5) (xa_cons (x_v 5)
    (xa_cons (x_v 6) (xa_nil))))) (xa_cons (x_tup (xa_cons (x_v 5) (xa_cons (x_v 6) (xa_cons (x_v 6) (xa_nil))))) (xa_cons (x_tup (xa_cons (x_v 5) (xa_cons (x_v 6) (xa_cons (x_v 5) (xa_nil)))))
    (xa_nil))))))))) (xg_n 7 sc_law.nd) (xb_one (xs_if (xt_cmp op_notX opm_isnt (x_call U_is_simple hr (by decide) (xr_v (x_v 7) (xr_nil))) (x_bl)) (xb_one (xs_ret (x_bl))) (xb_nil)))) (xb_cons
    (xs_if (xt_cmp (op_gtD (in_room hr)) opm_ord (x_v 3) (x_int)) (xb_cons (xs_setv 4 sc_law.nd (x_call U_l_round hr (by decide) (xr_m 2 (xr_nil)))) (xb_one (xs_if (xt_cmp op_notX opm_isnt
    (x_call U_is_simple hr (by decide) (xr_v (x_v 4) (xr_nil))) (x_bl)) (xb_one (xs_ret (x_bl))) (xb_nil)))) (xb_nil)) (xb_cons (xs_if (xt_cmp (op_eqD hr.units) opm_eq (x_v 3) (x_int)) (xb_one
    (xs_setv 4 sc_law.nd (x_call U_l_spoilt hr (by decide) (xr_m 2 (xr_v (x_v 4) (xr_nil)))))) (xb_nil)) (xb_cons (xs_setv 8 sc_law.nd (x_call U_l_is_simple hr (by decide) (xr_v (x_v 4)
    (xr_nil)))) (xb_cons (xs_setv 9 sc_law.nd (x_call U_is_simple hr (by decide) (xr_v (x_v 4) (xr_nil)))) (xb_cons (xs_setv 10 sc_law.nd (x_call U_l_digit hr (by decide) (xr_m 2 (xr_v (x_len
    B.b_len (xa_cons (x_v 4) (xa_nil))) (xr_nil))))) (xb_cons (xs_if (xt_w (xw_or (xt_not (xt_tru (x_isi "bool" B.b_isinstance B.b_bool (by decide +kernel) (x_v 9)))) (xw_or (xt_cmp (op_neD
    hr.units) opm_ne (x_v 9) (x_v 8)) (xw_or1 (xt_cmp (op_neD hr.units) opm_ne (x_call U_is_simple hr (by decide) (xr_v (x_add (x_sl (x_v 4) (xo_at (x_v 10)) (xo_no)) (x_sl (x_v 4) (xo_no)
    (xo_at (x_v 10)))) (xr_nil))) (x_v 8)))))) (xb_one (xs_ret (x_bl))) (xb_nil)) (xb_one (xs_if (xt_cmp (op_neD hr.units) opm_ne (x_call U_is_simple hr (by decide) (xr_v (x_revt rfl B.b_tuple
    B.b_reversed (x_v 4)) (xr_nil))) (x_v 8)) (xb_one (xs_ret (x_bl))) (xb_nil))))))))))))))) (xb_one (xs_ret (x_bl)))
end Lw
set_option maxRecDepth 100000
set_option maxHeartbeats 4000000
namespace Lw
open PySem PySem.Spec PyProof.Rows L2 Vz
def d_divisor : He.DefD := ⟨("divisor", none), "divisor", "divisor", defArgs s_divisor, defBody s_divisor, defScope s_divisor, [], []⟩
def d_ahead : He.DefD := ⟨("ahead", none), "ahead", "ahead", defArgs s_ahead, defBody s_ahead, defScope s_ahead, [], []⟩
def d_turn : He.DefD := ⟨("turn", none), "turn", "turn", defArgs s_turn, defBody s_turn, defScope s_turn, [], []⟩
def d_apart : He.DefD := ⟨("apart", none), "apart", "apart", defArgs s_apart, defBody s_apart, defScope s_apart, [], []⟩
def d_row_of : He.DefD := ⟨("row_of", none), "row_of", "row_of", defArgs s_row_of, defBody s_row_of, defScope s_row_of, [], []⟩
def d_sides_of : He.DefD := ⟨("sides_of", none), "sides_of", "sides_of", defArgs s_sides_of, defBody s_sides_of, defScope s_sides_of, [], []⟩
def d_l_pool : He.DefD := ⟨("_law_pool", none), "_law_pool", "_law_pool", defArgs s_l_pool, defBody s_l_pool, defScope s_l_pool, [], []⟩
def d_l_digit : He.DefD := ⟨("_law_digit", none), "_law_digit", "_law_digit", defArgs s_l_digit, defBody s_l_digit, defScope s_l_digit, [], []⟩
def d_l_shared : He.DefD := ⟨("_law_shared", none), "_law_shared", "_law_shared", defArgs s_l_shared, defBody s_l_shared, defScope s_l_shared, [], []⟩
def d_l_across : He.DefD := ⟨("_law_across", none), "_law_across", "_law_across", defArgs s_l_across, defBody s_l_across, defScope s_l_across, [], []⟩
def d_spot : He.DefD := ⟨("spot", none), "spot", "spot", defArgs s_spot, defBody s_spot, defScope s_spot, [(He.Dv.int 1)], []⟩
def d_ends : He.DefD := ⟨("ends", none), "ends", "ends", defArgs s_ends, defBody s_ends, defScope s_ends, [], []⟩
def d_l_drawn : He.DefD := ⟨("_law_drawn", none), "_law_drawn", "_law_drawn", defArgs s_l_drawn, defBody s_l_drawn, defScope s_l_drawn, [], []⟩
def d_l_below : He.DefD := ⟨("_law_below", none), "_law_below", "_law_below", defArgs s_l_below, defBody s_l_below, defScope s_l_below, [], []⟩
def d_l_lowest : He.DefD := ⟨("_law_lowest", none), "_law_lowest", "_law_lowest", defArgs s_l_lowest, defBody s_l_lowest, defScope s_l_lowest, [], []⟩
def d_stretch : He.DefD := ⟨("stretch", none), "stretch", "stretch", defArgs s_stretch, defBody s_stretch, defScope s_stretch, [], []⟩
def d_crossing : He.DefD := ⟨("crossing", none), "crossing", "crossing", defArgs s_crossing, defBody s_crossing, defScope s_crossing, [], []⟩
def d_l_spot : He.DefD := ⟨("_law_spot", none), "_law_spot", "_law_spot", defArgs s_l_spot, defBody s_l_spot, defScope s_l_spot, [], []⟩
def d_l_unlike : He.DefD := ⟨("_law_unlike", none), "_law_unlike", "_law_unlike", defArgs s_l_unlike, defBody s_l_unlike, defScope s_l_unlike, [], []⟩
def d_l_between : He.DefD := ⟨("_law_between", none), "_law_between", "_law_between", defArgs s_l_between, defBody s_l_between, defScope s_l_between, [], []⟩
def d_l_lone : He.DefD := ⟨("_law_lone", none), "_law_lone", "_law_lone", defArgs s_l_lone, defBody s_l_lone, defScope s_l_lone, [], []⟩
def d_l_round : He.DefD := ⟨("_law_round", none), "_law_round", "_law_round", defArgs s_l_round, defBody s_l_round, defScope s_l_round, [], []⟩
def d_common : He.DefD := ⟨("common", none), "common", "common", defArgs s_common, defBody s_common, defScope s_common, [], []⟩
def d_l_loop : He.DefD := ⟨("_law_loop", none), "_law_loop", "_law_loop", defArgs s_l_loop, defBody s_l_loop, defScope s_l_loop, [], []⟩
def d_l_in_row : He.DefD := ⟨("_law_in_row", none), "_law_in_row", "_law_in_row", defArgs s_l_in_row, defBody s_l_in_row, defScope s_l_in_row, [], []⟩
def d_l_spoilt : He.DefD := ⟨("_law_spoilt", none), "_law_spoilt", "_law_spoilt", defArgs s_l_spoilt, defBody s_l_spoilt, defScope s_l_spoilt, [], []⟩
def d_is_simple : He.DefD := ⟨("is_simple", none), "is_simple", "is_simple", defArgs s_is_simple, defBody s_is_simple, defScope s_is_simple, [], []⟩
def d_l_shares : He.DefD := ⟨("_law_shares", none), "_law_shares", "_law_shares", defArgs s_l_shares, defBody s_l_shares, defScope s_l_shares, [], []⟩
def d_l_is_simple : He.DefD := ⟨("_law_is_simple", none), "_law_is_simple", "_law_is_simple", defArgs s_l_is_simple, defBody s_l_is_simple, defScope s_l_is_simple, [], []⟩
def d_law : He.DefD := ⟨("law", none), "law", "law", defArgs s_law, defBody s_law, defScope s_law, [], []⟩
def fn : List He.DefD := [d_divisor, d_ahead, d_turn, d_apart, d_row_of, d_sides_of, d_l_pool, d_l_digit, d_l_shared, d_l_across, d_spot, d_ends, d_l_drawn, d_l_below, d_l_lowest, d_stretch, d_crossing, d_l_spot, d_l_unlike, d_l_between, d_l_lone, d_l_round, d_common, d_l_loop, d_l_in_row, d_l_spoilt, d_is_simple, d_l_shares, d_l_is_simple, d_law]
def fa : List He.Fa := [.glo "divisor", .glo "ahead", .glo "turn", .glo "apart", .glo "row_of", .glo "sides_of", .glo "_law_pool", .glo "_law_digit", .glo "_law_shared", .glo "_law_across", .glo "spot", .glo "ends", .glo "_law_drawn", .glo "_law_below", .glo "_law_lowest", .glo "stretch", .glo "crossing", .glo "_law_spot", .glo "_law_unlike", .glo "_law_between", .glo "_law_lone", .glo "_law_round", .glo "common", .glo "_law_loop", .glo "_law_in_row", .glo "_law_spoilt", .glo "is_simple", .glo "_law_shares", .glo "_law_is_simple", .glo "law", .free "abs", .free "bool", .free "int", .free "isinstance", .free "len", .free "max", .free "min", .free "range", .free "reversed", .free "set", .free "sorted", .free "tuple"]
abbrev R : PySem.W.OpenRow := PySem.W.OpenLaw.row PySem.Challenge.rw_sheetlay_k18_simple_or_not
abbrev hk : PySem.W.Hook := He.hookD 4 fa fn
def ob (s : PySem.W.SharedT) : He.AlD := He.obsDG 4 fa fn (HandSHeadRun.getT s)
theorem ob_eq (s : PySem.W.SharedT) : ob s = hk.obs s.abs := He.obsDG_eq (HandSHeadRun.getT_eq s)
def loose : List Str := ["divisor", "spot", "ahead", "turn", "ends", "apart", "stretch", "row_of", "crossing", "common", "sides_of", "is_simple", "_law_pool", "_law_digit", "_law_drawn", "_law_below", "_law_shared", "_law_lowest", "_law_spot", "_law_unlike", "_law_between", "_law_loop", "_law_lone", "_law_in_row", "_law_across", "_law_shares", "_law_is_simple", "_law_round", "_law_spoilt"]
theorem run (w : World) : HandSHeadRun.RunEq R (PySem.W.view R.prog [34]) hk ob 3000 loose w := by
  intro os
  kernel_rfl
theorem facts {P : Program} {w : World} {K : PySem.W.Frag} {h : Heap} {mg : Str → Option Value} {f : Addr} (X : K.In h) (G : h.Ns mainGlobals mg) (hfa : mg ("law" : Str) = some (.ref f)) (c : He.SaysD fa fn K)
    (math : ∀ ns : List Int, ns.length ≤ 63 → m_law [.val (.lst (ns.map D.int))] = some (.val (.bl true), [.val (.lst (ns.map D.int))])) :
    ∃ fd : FuncData, (∀ (s : Shared) (v : Value), BindsTo s fd ⟨[v], []⟩ [("_law_script", v)]) ∧ ∀ base : Heap, K.In base → base.Ns mainGlobals mg → FnOk P w K mg base CX0 7 f fd ["_law_script"] (spLaw K) := by
  have B : Blt mg := ⟨He.free_ok X G (c.fact 30 (f := .free "abs") rfl), He.free_ok X G (c.fact 31 (f := .free "bool") rfl), He.free_ok X G (c.fact 32 (f := .free "int") rfl), He.free_ok X G (c.fact 33 (f := .free "isinstance") rfl), He.free_ok X G (c.fact 34 (f := .free "len") rfl), He.free_ok X G (c.fact 35 (f := .free "max") rfl), He.free_ok X G (c.fact 36 (f := .free "min") rfl), He.free_ok X G (c.fact 37 (f := .free "range") rfl), He.free_ok X G (c.fact 38 (f := .free "reversed") rfl), He.free_ok X G (c.fact 39 (f := .free "set") rfl), He.free_ok X G (c.fact 40 (f := .free "sorted") rfl), He.free_ok X G (c.fact 41 (f := .free "tuple") rfl)⟩
  obtain ⟨fd_divisor, F_divisor⟩ := c.def_ 0 (d := d_divisor) rfl
  obtain ⟨fd_ahead, F_ahead⟩ := c.def_ 1 (d := d_ahead) rfl
  obtain ⟨fd_turn, F_turn⟩ := c.def_ 2 (d := d_turn) rfl
  obtain ⟨fd_apart, F_apart⟩ := c.def_ 3 (d := d_apart) rfl
  obtain ⟨fd_row_of, F_row_of⟩ := c.def_ 4 (d := d_row_of) rfl
  obtain ⟨fd_sides_of, F_sides_of⟩ := c.def_ 5 (d := d_sides_of) rfl
  obtain ⟨fd_l_pool, F_l_pool⟩ := c.def_ 6 (d := d_l_pool) rfl
  obtain ⟨fd_l_digit, F_l_digit⟩ := c.def_ 7 (d := d_l_digit) rfl
  obtain ⟨fd_l_shared, F_l_shared⟩ := c.def_ 8 (d := d_l_shared) rfl
  obtain ⟨fd_l_across, F_l_across⟩ := c.def_ 9 (d := d_l_across) rfl
  obtain ⟨fd_spot, F_spot⟩ := c.def_ 10 (d := d_spot) rfl
  obtain ⟨fd_ends, F_ends⟩ := c.def_ 11 (d := d_ends) rfl
  obtain ⟨fd_l_drawn, F_l_drawn⟩ := c.def_ 12 (d := d_l_drawn) rfl
  obtain ⟨fd_l_below, F_l_below⟩ := c.def_ 13 (d := d_l_below) rfl
  obtain ⟨fd_l_lowest, F_l_lowest⟩ := c.def_ 14 (d := d_l_lowest) rfl
  obtain ⟨fd_stretch, F_stretch⟩ := c.def_ 15 (d := d_stretch) rfl
  obtain ⟨fd_crossing, F_crossing⟩ := c.def_ 16 (d := d_crossing) rfl
  obtain ⟨fd_l_spot, F_l_spot⟩ := c.def_ 17 (d := d_l_spot) rfl
  obtain ⟨fd_l_unlike, F_l_unlike⟩ := c.def_ 18 (d := d_l_unlike) rfl
  obtain ⟨fd_l_between, F_l_between⟩ := c.def_ 19 (d := d_l_between) rfl
  obtain ⟨fd_l_lone, F_l_lone⟩ := c.def_ 20 (d := d_l_lone) rfl
  obtain ⟨fd_l_round, F_l_round⟩ := c.def_ 21 (d := d_l_round) rfl
  obtain ⟨fd_common, F_common⟩ := c.def_ 22 (d := d_common) rfl
  obtain ⟨fd_l_loop, F_l_loop⟩ := c.def_ 23 (d := d_l_loop) rfl
  obtain ⟨fd_l_in_row, F_l_in_row⟩ := c.def_ 24 (d := d_l_in_row) rfl
  obtain ⟨fd_l_spoilt, F_l_spoilt⟩ := c.def_ 25 (d := d_l_spoilt) rfl
  obtain ⟨fd_is_simple, F_is_simple⟩ := c.def_ 26 (d := d_is_simple) rfl
  obtain ⟨fd_l_shares, F_l_shares⟩ := c.def_ 27 (d := d_l_shares) rfl
  obtain ⟨fd_l_is_simple, F_l_is_simple⟩ := c.def_ 28 (d := d_l_is_simple) rfl
  obtain ⟨fd_law, F_law⟩ := c.def_ 29 (d := d_law) rfl
  have e := hfa.symm.trans (He.glo_ok X G (c.fact 29 (f := .glo "law") rfl))
  cases e
  refine ⟨fd_law, fun s v => FunD.bindsA (ps := ["_law_script"]) F_law (fun _ _ _ _ _ _ us hl => match us, hl with | [_], _ => rfl) s [v] rfl, fun base _ _ => ?_⟩
  have G_divisor := ok_divisor (P := P) (w := w) (base := base) F_divisor B
  have U_divisor : FnU P w K mg base 1 "divisor" m_divisor [] := .mk0 G_divisor (He.glo_ok X G (c.fact 0 (f := .glo "divisor") rfl)) F_divisor.kp (FunD.bindsN F_divisor fun _ _ _ _ _ _ us hl => match us, hl with | [_, _], _ => rfl)
  have G_ahead := ok_ahead (P := P) (w := w) (base := base) F_ahead B
  have U_ahead : FnU P w K mg base 1 "ahead" m_ahead [] := .mk0 G_ahead (He.glo_ok X G (c.fact 1 (f := .glo "ahead") rfl)) F_ahead.kp (FunD.bindsN F_ahead fun _ _ _ _ _ _ us hl => match us, hl with | [_, _], _ => rfl)
  have G_turn := ok_turn (P := P) (w := w) (base := base) F_turn B
  have U_turn : FnU P w K mg base 1 "turn" m_turn [] := .mk0 G_turn (He.glo_ok X G (c.fact 2 (f := .glo "turn") rfl)) F_turn.kp (FunD.bindsN F_turn fun _ _ _ _ _ _ us hl => match us, hl with | [_, _, _], _ => rfl)
  have G_apart := ok_apart (P := P) (w := w) (base := base) F_apart B
  have U_apart : FnU P w K mg base 1 "apart" m_apart [] := .mk0 G_apart (He.glo_ok X G (c.fact 3 (f := .glo "apart") rfl)) F_apart.kp (FunD.bindsN F_apart fun _ _ _ _ _ _ us hl => match us, hl with | [_, _, _], _ => rfl)
  have G_row_of := ok_row_of (P := P) (w := w) (base := base) F_row_of B
  have U_row_of : FnU P w K mg base 1 "row_of" m_row_of [] := .mk0 G_row_of (He.glo_ok X G (c.fact 4 (f := .glo "row_of") rfl)) F_row_of.kp (FunD.bindsN F_row_of fun _ _ _ _ _ _ us hl => match us, hl with | [_, _], _ => rfl)
  have G_sides_of := ok_sides_of (P := P) (w := w) (base := base) F_sides_of B
  have U_sides_of : FnU P w K mg base 1 "sides_of" m_sides_of [] := .mk0 G_sides_of (He.glo_ok X G (c.fact 5 (f := .glo "sides_of") rfl)) F_sides_of.kp (FunD.bindsN F_sides_of fun _ _ _ _ _ _ us hl => match us, hl with | [_], _ => rfl)
  have G_l_pool := ok_l_pool (P := P) (w := w) (base := base) F_l_pool B
  have U_l_pool : FnU P w K mg base 1 "_law_pool" m_l_pool [] := .mk0 G_l_pool (He.glo_ok X G (c.fact 6 (f := .glo "_law_pool") rfl)) F_l_pool.kp (FunD.bindsN F_l_pool fun _ _ _ _ _ _ us hl => match us, hl with | [_, _], _ => rfl)
  have G_l_digit := ok_l_digit (P := P) (w := w) (base := base) F_l_digit B
  have U_l_digit : FnU P w K mg base 1 "_law_digit" m_l_digit [] := .mk0 G_l_digit (He.glo_ok X G (c.fact 7 (f := .glo "_law_digit") rfl)) F_l_digit.kp (FunD.bindsN F_l_digit fun _ _ _ _ _ _ us hl => match us, hl with | [_, _], _ => rfl)
  have G_l_shared := ok_l_shared (P := P) (w := w) (base := base) F_l_shared B
  have U_l_shared : FnU P w K mg base 1 "_law_shared" m_l_shared [] := .mk0 G_l_shared (He.glo_ok X G (c.fact 8 (f := .glo "_law_shared") rfl)) F_l_shared.kp (FunD.bindsN F_l_shared fun _ _ _ _ _ _ us hl => match us, hl with | [_, _], _ => rfl)
  have G_l_across := ok_l_across (P := P) (w := w) (base := base) F_l_across B
  have U_l_across : FnU P w K mg base 1 "_law_across" m_l_across [] := .mk0 G_l_across (He.glo_ok X G (c.fact 9 (f := .glo "_law_across") rfl)) F_l_across.kp (FunD.bindsN F_l_across fun _ _ _ _ _ _ us hl => match us, hl with | [_, _], _ => rfl)
  have G_spot := ok_spot (P := P) (w := w) (base := base) F_spot B U_divisor
  have U_spot : FnU P w K mg base 2 "spot" m_spot [] := .mkD G_spot (He.glo_ok X G (c.fact 10 (f := .glo "spot") rfl)) F_spot.kp (FunD.binds1 (ps := ["x", "y", "w"]) F_spot 3 1 (List.cons_ne_nil _ _) rfl fun T kV doc pm an cdv ct us its hl h2 => match us, its, hl, h2 with | [_, _, _], [_], _, _ => ⟨_, rfl, rfl⟩) fun _ => .nil
  have G_ends := ok_ends (P := P) (w := w) (base := base) F_ends B U_ahead
  have U_ends : FnU P w K mg base 2 "ends" m_ends [] := .mk0 G_ends (He.glo_ok X G (c.fact 11 (f := .glo "ends") rfl)) F_ends.kp (FunD.bindsN F_ends fun _ _ _ _ _ _ us hl => match us, hl with | [_], _ => rfl)
  have G_l_drawn := ok_l_drawn (P := P) (w := w) (base := base) F_l_drawn B U_l_digit
  have U_l_drawn : FnU P w K mg base 2 "_law_drawn" m_l_drawn [] := .mk0 G_l_drawn (He.glo_ok X G (c.fact 12 (f := .glo "_law_drawn") rfl)) F_l_drawn.kp (FunD.bindsN F_l_drawn fun _ _ _ _ _ _ us hl => match us, hl with | [_], _ => rfl)
  have G_l_below := ok_l_below (P := P) (w := w) (base := base) F_l_below B U_l_digit
  have U_l_below : FnU P w K mg base 2 "_law_below" m_l_below [] := .mk0 G_l_below (He.glo_ok X G (c.fact 13 (f := .glo "_law_below") rfl)) F_l_below.kp (FunD.bindsN F_l_below fun _ _ _ _ _ _ us hl => match us, hl with | [_], _ => rfl)
  have G_l_lowest := ok_l_lowest (P := P) (w := w) (base := base) F_l_lowest B U_l_shared
  have U_l_lowest : FnU P w K mg base 2 "_law_lowest" m_l_lowest [] := .mk0 G_l_lowest (He.glo_ok X G (c.fact 14 (f := .glo "_law_lowest") rfl)) F_l_lowest.kp (FunD.bindsN F_l_lowest fun _ _ _ _ _ _ us hl => match us, hl with | [_, _, _], _ => rfl)
  have G_stretch := ok_stretch (P := P) (w := w) (base := base) F_stretch B U_ahead U_ends
  have U_stretch : FnU P w K mg base 3 "stretch" m_stretch [] := .mk0 G_stretch (He.glo_ok X G (c.fact 15 (f := .glo "stretch") rfl)) F_stretch.kp (FunD.bindsN F_stretch fun _ _ _ _ _ _ us hl => match us, hl with | [_, _], _ => rfl)
  have G_crossing := ok_crossing (P := P) (w := w) (base := base) F_crossing B U_row_of U_spot
  have U_crossing : FnU P w K mg base 3 "crossing" m_crossing [] := .mk0 G_crossing (He.glo_ok X G (c.fact 16 (f := .glo "crossing") rfl)) F_crossing.kp (FunD.bindsN F_crossing fun _ _ _ _ _ _ us hl => match us, hl with | [_, _], _ => rfl)
  have G_l_spot := ok_l_spot (P := P) (w := w) (base := base) F_l_spot B U_l_below U_l_digit U_l_drawn U_l_lowest
  have U_l_spot : FnU P w K mg base 3 "_law_spot" m_l_spot [] := .mk0 G_l_spot (He.glo_ok X G (c.fact 17 (f := .glo "_law_spot") rfl)) F_l_spot.kp (FunD.bindsN F_l_spot fun _ _ _ _ _ _ us hl => match us, hl with | [_], _ => rfl)
  have G_l_unlike := ok_l_unlike (P := P) (w := w) (base := base) F_l_unlike B U_l_lowest
  have U_l_unlike : FnU P w K mg base 3 "_law_unlike" m_l_unlike [] := .mk0 G_l_unlike (He.glo_ok X G (c.fact 18 (f := .glo "_law_unlike") rfl)) F_l_unlike.kp (FunD.bindsN F_l_unlike fun _ _ _ _ _ _ us hl => match us, hl with | [_, _], _ => rfl)
  have G_l_between := ok_l_between (P := P) (w := w) (base := base) F_l_between B U_l_digit U_l_lowest
  have U_l_between : FnU P w K mg base 3 "_law_between" m_l_between [] := .mk0 G_l_between (He.glo_ok X G (c.fact 19 (f := .glo "_law_between") rfl)) F_l_between.kp (FunD.bindsN F_l_between fun _ _ _ _ _ _ us hl => match us, hl with | [_, _, _], _ => rfl)
  have G_l_lone := ok_l_lone (P := P) (w := w) (base := base) F_l_lone B U_l_lowest
  have U_l_lone : FnU P w K mg base 3 "_law_lone" m_l_lone [] := .mk0 G_l_lone (He.glo_ok X G (c.fact 20 (f := .glo "_law_lone") rfl)) F_l_lone.kp (FunD.bindsN F_l_lone fun _ _ _ _ _ _ us hl => match us, hl with | [_, _, _], _ => rfl)
  have G_l_round := ok_l_round (P := P) (w := w) (base := base) F_l_round B U_l_digit U_l_lowest
  have U_l_round : FnU P w K mg base 3 "_law_round" m_l_round [] := .mk0 G_l_round (He.glo_ok X G (c.fact 21 (f := .glo "_law_round") rfl)) F_l_round.kp (FunD.bindsN F_l_round fun _ _ _ _ _ _ us hl => match us, hl with | [_], _ => rfl)
  have G_common := ok_common (P := P) (w := w) (base := base) F_common B U_apart U_crossing U_stretch U_turn
  have U_common : FnU P w K mg base 4 "common" m_common [] := .mk0 G_common (He.glo_ok X G (c.fact 22 (f := .glo "common") rfl)) F_common.kp (FunD.bindsN F_common fun _ _ _ _ _ _ us hl => match us, hl with | [_, _], _ => rfl)
  have G_l_loop := ok_l_loop (P := P) (w := w) (base := base) F_l_loop B U_l_digit U_l_spot U_l_unlike
  have U_l_loop : FnU P w K mg base 4 "_law_loop" m_l_loop [] := .mk0 G_l_loop (He.glo_ok X G (c.fact 23 (f := .glo "_law_loop") rfl)) F_l_loop.kp (FunD.bindsN F_l_loop fun _ _ _ _ _ _ us hl => match us, hl with | [_, _], _ => rfl)
  have G_l_in_row := ok_l_in_row (P := P) (w := w) (base := base) F_l_in_row B U_l_lone U_l_lowest
  have U_l_in_row : FnU P w K mg base 4 "_law_in_row" m_l_in_row [] := .mk0 G_l_in_row (He.glo_ok X G (c.fact 24 (f := .glo "_law_in_row") rfl)) F_l_in_row.kp (FunD.bindsN F_l_in_row fun _ _ _ _ _ _ us hl => match us, hl with | [_, _, _], _ => rfl)
  have G_l_spoilt := ok_l_spoilt (P := P) (w := w) (base := base) F_l_spoilt B U_l_between U_l_digit U_l_spot U_l_unlike
  have U_l_spoilt : FnU P w K mg base 4 "_law_spoilt" m_l_spoilt [] := .mk0 G_l_spoilt (He.glo_ok X G (c.fact 25 (f := .glo "_law_spoilt") rfl)) F_l_spoilt.kp (FunD.bindsN F_l_spoilt fun _ _ _ _ _ _ us hl => match us, hl with | [_, _], _ => rfl)
  have G_is_simple := ok_is_simple (P := P) (w := w) (base := base) F_is_simple B U_common U_sides_of
  have U_is_simple : FnU P w K mg base 5 "is_simple" m_is_simple [] := .mk0 G_is_simple (He.glo_ok X G (c.fact 26 (f := .glo "is_simple") rfl)) F_is_simple.kp (FunD.bindsN F_is_simple fun _ _ _ _ _ _ us hl => match us, hl with | [_], _ => rfl)
  have G_l_shares := ok_l_shares (P := P) (w := w) (base := base) F_l_shares B U_l_across U_l_in_row U_l_lone
  have U_l_shares : FnU P w K mg base 5 "_law_shares" m_l_shares [] := .mk0 G_l_shares (He.glo_ok X G (c.fact 27 (f := .glo "_law_shares") rfl)) F_l_shares.kp (FunD.bindsN F_l_shares fun _ _ _ _ _ _ us hl => match us, hl with | [_, _], _ => rfl)
  have G_l_is_simple := ok_l_is_simple (P := P) (w := w) (base := base) F_l_is_simple B U_l_shares
  have U_l_is_simple : FnU P w K mg base 6 "_law_is_simple" m_l_is_simple [] := .mk0 G_l_is_simple (He.glo_ok X G (c.fact 28 (f := .glo "_law_is_simple") rfl)) F_l_is_simple.kp (FunD.bindsN F_l_is_simple fun _ _ _ _ _ _ us hl => match us, hl with | [_], _ => rfl)
  have G_law := ok_law (P := P) (w := w) (base := base) F_law B U_l_digit U_l_is_simple U_l_loop U_l_pool U_l_round U_l_spoilt U_is_simple
  exact law_ok G_law rfl math
end Lw
open PySem PySem.W PySem.Calls PyProof.Rows
theorem PySem.Challenge.cw_sheetlay_k18_simple_or_not_holds : PySem.Challenge.rw_sheetlay_k18_simple_or_not.Holds := by
  w_on; o_law
  refine HandSHeadRun.head_any (r := OpenLaw.row PySem.Challenge.rw_sheetlay_k18_simple_or_not) (q := view (OpenLaw.row PySem.Challenge.rw_sheetlay_k18_simple_or_not).prog [34]) (H := Lw.hk) (ob := Lw.ob) (M := 3000) (loose := Lw.loose) (d := HandSHeadRun.topDef (OpenLaw.row PySem.Challenge.rw_sheetlay_k18_simple_or_not).prog 34) (kwd := []) Lw.ob_eq
    (by kernel_rfl) (fun s => by kernel_rfl) Lw.run (by kernel_rfl) (by kernel_rfl) (by kernel_rfl) (by rfl) (by first | assumption | decide +kernel) (by decide +kernel) ⟨rfl, rfl, rfl, rfl, rfl, by decide +kernel⟩ ?hw ?hc
  case hw => w_witness2
  case hc =>
    refine L2.walk_ofE (l := PySem.Challenge.rw_sheetlay_k18_simple_or_not) (n := 63) (k := 7) (x := "_law_script") (CX := L2.CX0) rfl (by decide) (by kernel_rfl) ⟨rfl, by decide, by decide⟩ ?F (fun _ _ _ _ z => z)
    intro w mg fa h Y G hmg0
    obtain ⟨K, KX, c⟩ := Y
    have hmg : mg ("law" : PySem.Str) = some (.ref fa) := by
      have e : (HandSHeadRun.topDef (OpenLaw.row PySem.Challenge.rw_sheetlay_k18_simple_or_not).prog 34).name = ("law" : PySem.Str) := by kernel_rfl
      rw [← e]
      exact hmg0
    obtain ⟨fd, hb, hF⟩ := Lw.facts (P := (PySem.Challenge.rw_sheetlay_k18_simple_or_not).prog) (w := w) KX G hmg c Lw.math
    exact ⟨K, fd, Vz.spLaw K, KX, hb, fun H a ns hl _ hS => ⟨a, ns, rfl, hS, hl, fun _ => rfl⟩, hF⟩
#print axioms PySem.Challenge.cw_sheetlay_k18_simple_or_not_holds
