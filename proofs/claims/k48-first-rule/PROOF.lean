import PyProof.Rows.All
import Wide.All
import OpenK.AllK
import Wide.FinOn
import HandS.ForMost
import HandS.Wide
import HandS.TupAny
import HandS.Deep
import HandS.IsInst
import HandS.Style
import HandS.Zip
import HandS.Defaults
import HandS.Rev
import KE.DataMinMax
import KE.SortData
import HandS.NoneIn
import HandS.CallLocal
import PyProof.Rows.ChunkLeaf
import HandS.TupSets
import PyProof.SetRoads
import PyProof.TupleIter
import PyProof.WalksMore
import HandS.Small
import HandS.DictComp
import HandS.More
import HandS.Walk
import HandS.WideBits
import PySem.Challenge.RW_sheetlay_k48_the_first_rule
import KE.KStateDown
import Lean
import HandS.Ends
import HandS.Words
import HandS.WordsExc
import HandS.Head0
import HandS.Head1
import HandS.Head2
import HandS.HeadEnd
import HandS.HeadHook1
import HandS.HeadHook2
set_option Elab.async false
set_option linter.all false
set_option maxRecDepth 100000
set_option maxHeartbeats 1000000
/-! Vz: data by value over the hand layer: what a def of the program reckons, as a plain function of data. -/
namespace Vz
open PySem PySem.Spec PyProof.Rows L2

/-- data: what a value is worth -/
inductive D where
  | non | bl (b : Bool) | int (i : Int) | str (x : Str) | tup (ds : List D) | lst (ds : List D) | fn (k : Nat) (cs : List D) | dct (lk : Bool) (ks : List Key) (ds : List D)
/-- what a name owns: an object that may still be changed -/
inductive Ow where
  | lst (ds : List D) | dct (ks : List Key) (ds : List D)
def Ow.d : Ow → D
  | .lst ds => .lst ds
  | .dct ks ds => .dct false ks ds
/-- a slot: without a value, with data, with an object of its own, with an object that was handed in to be changed -/
inductive Sl where
  | no | val (d : D) | own (o : Ow) | arg (o : Ow)
/-- what an expression tells: data, or an object that is new and nobody else's -/
inductive R where
  | val (d : D) | own (o : Ow)
def R.d : R → D
  | .val d => d
  | .own o => o.d

/-- a state: what may be written, what data keep away from besides, the heap -/
structure Wd where
  W : Addr → Prop
  B : Addr → Prop
  H : Hp
/-- what data keep away from -/
def Wd.O (w : Wd) (p : Addr) : Prop := w.W p ∨ w.B p
structure Good (w : Wd) : Prop where
  dom : ∀ p, w.O p → w.H p ≠ none
theorem Good.wo {w : Wd} (_ : Good w) (p : Addr) (h : w.W p) : w.O p := .inl h
structure Step (w w' : Wd) : Prop where
  keep : ∀ b o, ¬ w.W b → w.H b = some o → w'.H b = some o
  trk : ∀ b, w.H b ≠ none → w'.H b ≠ none
  wsub : ∀ p, w'.W p → w.W p ∨ w.H p = none
  b1 : ∀ p, w.B p → w'.B p
  b2 : ∀ p, w'.B p → w.B p ∨ w.H p = none
theorem Step.osub {w w' : Wd} (s : Step w w') (p : Addr) (h : w'.O p) : w.O p ∨ w.H p = none := h.elim (fun k => (s.wsub p k).imp .inl id) fun k => (s.b2 p k).imp .inr id
theorem Step.refl (w : Wd) : Step w w := ⟨fun _ _ _ h => h, fun _ h => h, fun _ h => .inl h, fun _ h => h, fun _ h => .inl h⟩
theorem ne_none {α : Type} {o : Option α} {x : α} (h : o = some x) : o ≠ none := fun e => by rw [h] at e; cases e
theorem some_of {α : Type} {o : Option α} (h : o ≠ none) : ∃ x, o = some x := by
  cases o with
  | none => exact absurd rfl h
  | some x => exact ⟨x, rfl⟩
theorem Step.none_back {w w' : Wd} (s : Step w w') {p : Addr} (h : w'.H p = none) : w.H p = none := by
  cases e : w.H p with
  | none => rfl
  | some o => exact absurd h (s.trk p (ne_none e))
theorem Step.trans {a b c : Wd} (s : Step a b) (t : Step b c) : Step a c where
  keep := fun p o hw h => by
    refine t.keep p o (fun hb => ?_) (s.keep p o hw h)
    rcases s.wsub p hb with z | z
    · exact hw z
    · rw [h] at z; cases z
  trk := fun p h => t.trk p (s.trk p h)
  wsub := fun p h => by
    rcases t.wsub p h with z | z
    · exact s.wsub p z
    · exact .inr (s.none_back z)
  b1 := fun p h => t.b1 p (s.b1 p h)
  b2 := fun p h => by
    rcases t.b2 p h with z | z
    · exact s.b2 p z
    · exact .inr (s.none_back z)
/-- growth alone -/
structure PStep (w w' : Wd) : Prop where
  ext : ∀ b o, w.H b = some o → w'.H b = some o
  wle : ∀ p, w.W p → w'.W p
  b1 : ∀ p, w.B p → w'.B p
  wsub : ∀ p, w'.W p → w.W p ∨ w.H p = none
  b2 : ∀ p, w'.B p → w.B p ∨ w.H p = none
theorem PStep.ole {w w' : Wd} (s : PStep w w') (p : Addr) (h : w.O p) : w'.O p := h.imp (s.wle p) (s.b1 p)
theorem PStep.refl (w : Wd) : PStep w w := ⟨fun _ _ h => h, fun _ h => h, fun _ h => h, fun _ h => .inl h, fun _ h => .inl h⟩
theorem PStep.step {w w' : Wd} (s : PStep w w') : Step w w' := ⟨fun b o _ h => s.ext b o h, fun b h => by obtain ⟨o, e⟩ := some_of h; exact ne_none (s.ext b o e), s.wsub, s.b1, s.b2⟩
theorem PStep.osub {w w' : Wd} (s : PStep w w') (p : Addr) (h : w'.O p) : w.O p ∨ w.H p = none := s.step.osub p h
theorem PStep.trans {a b c : Wd} (s : PStep a b) (t : PStep b c) : PStep a c :=
  ⟨fun p o h => t.ext p o (s.ext p o h), fun p h => t.wle p (s.wle p h), fun p h => t.b1 p (s.b1 p h), (s.step.trans t.step).wsub, (s.step.trans t.step).b2⟩
/-- a new object -/
def Wd.put (w : Wd) (p : Addr) (o : HO) : Wd := { w with H := upd w.H p o }
theorem Wd.put_step {w : Wd} {p : Addr} {o : HO} (h : w.H p = none) : PStep w (w.put p o) :=
  ⟨fun b u e => by show upd w.H p o b = _; rw [upd_ne (ne_of_none e h)]; exact e, fun _ h => h, fun _ h => h, fun _ h => .inl h, fun _ h => .inl h⟩
theorem Wd.put_good {w : Wd} {p : Addr} {o : HO} (g : Good w) (h : w.H p = none) : Good (w.put p o) :=
  ⟨fun q hq => ((Wd.put_step (o := o) h).step).trk q (g.dom q hq)⟩
/-- a new object that is owned -/
def Wd.puts (w : Wd) (p : Addr) (o : HO) : Wd := ⟨fun q => w.W q ∨ q = p, w.B, upd w.H p o⟩
theorem Wd.puts_step {w : Wd} {p : Addr} {o : HO} (h : w.H p = none) : PStep w (w.puts p o) :=
  ⟨fun b u e => by show upd w.H p o b = _; rw [upd_ne (ne_of_none e h)]; exact e, fun _ h => .inl h, fun _ h => h,
    fun q hq => hq.elim .inl fun e => .inr (by rw [e]; exact h), fun q hq => .inl hq⟩
theorem Wd.puts_good {w : Wd} {p : Addr} {o : HO} (g : Good w) (h : w.H p = none) : Good (w.puts p o) :=
  ⟨fun q hq => by
    show upd w.H p o q ≠ none
    by_cases e : q = p
    · subst e; rw [upd_same]; exact fun z => nomatch z
    · rw [upd_ne e]
      rcases hq with (k | k) | k
      · exact g.dom q (.inl k)
      · exact absurd k e
      · exact g.dom q (.inr k)⟩
/-- an owned object is let be -/
def Wd.frz (w : Wd) (a : Addr) : Wd := ⟨fun q => w.W q ∧ q ≠ a, w.B, w.H⟩
theorem Wd.frz_step (w : Wd) (a : Addr) : Step w (w.frz a) := ⟨fun _ _ _ h => h, fun _ h => h, fun _ h => .inl h.1, fun _ h => h, fun _ h => .inl h⟩
theorem Wd.frz_good {w : Wd} (g : Good w) (a : Addr) : Good (w.frz a) := ⟨fun q h => g.dom q (h.imp (·.1) id)⟩

/-- a def's entry: the state, and the slots of the objects that were handed in to be changed -/
structure W0 extends Wd where
  pa : List (Nat × Addr)

/-! ### what a value is worth in a state -/
def KL (K : PySem.W.Frag) (a : Addr) (xs : List V) : Prop := ∃ (o : Obj) (its : Array Value) (n : Nat), K.lookup a = some o ∧ o.cls = .type "list" ∧ o.dict = none ∧ o.data = .seq its n ∧ its.size ≤ sizeLine ∧ Vals xs its.toList
def LvL (K : PySem.W.Frag) (w : Wd) (a : Addr) (xs : List V) : Prop := (Rd w.H a (.lst xs) ∧ ¬ w.O a) ∨ KL K a xs
def LvT (K : PySem.W.Frag) (w : Wd) (a : Addr) (xs : List V) : Prop := Rd w.H a (.tup xs) ∧ ¬ w.O a
/-- lk: the object is known and stays as it is -/
def LvD (w : Wd) (a : Addr) (lk : Bool) (ks : List Key) (xs : List V) : Prop := ks.length = xs.length ∧ (Rd w.H a (.dK (ks.zip xs)) ∧ ¬ w.O a) ∧ (lk = true → ∃ o, w.H a = some (.frz o (.dK (ks.zip xs))))
theorem LvL.sq {K : PySem.W.Frag} {w : Wd} {a : Addr} {xs : List V} (h : LvL K w a xs) : SqL K w.H a xs := h.imp (·.1) id
theorem LvT.sq {K : PySem.W.Frag} {w : Wd} {a : Addr} {xs : List V} (h : LvT K w a xs) : SqT K w.H a xs := .inl h.1
/-- which address holds which def -/
class FnTab where
  holds : PySem.W.Frag → Nat → Addr → Prop
variable [FnTab]
mutual
inductive Rep (K : PySem.W.Frag) (w : Wd) : V → D → Prop
  | non : Rep K w .non .non
  | bl (b : Bool) : Rep K w (.bl b) (.bl b)
  | int (i : Int) : Rep K w (.int i) (.int i)
  | str (x : Str) : Rep K w (.str x) (.str x)
  | tup {a : Addr} {xs : List V} {ds : List D} : LvT K w a xs → Reps K w xs ds → Rep K w (.ref a) (.tup ds)
  | lst {a : Addr} {xs : List V} {ds : List D} : LvL K w a xs → Reps K w xs ds → Rep K w (.ref a) (.lst ds)
  | fn {f : Addr} {k : Nat} : FnTab.holds K k f → Rep K w (.ref f) (.fn k [])
  | dct {a : Addr} {lk : Bool} {ks : List Key} {xs : List V} {ds : List D} : LvD w a lk ks xs → Reps K w xs ds → Rep K w (.ref a) (.dct lk ks ds)
inductive Reps (K : PySem.W.Frag) (w : Wd) : List V → List D → Prop
  | nil : Reps K w [] []
  | cons {v : V} {vs : List V} {d : D} {ds : List D} : Rep K w v d → Reps K w vs ds → Reps K w (v :: vs) (d :: ds)
end
section
variable {K : PySem.W.Frag} {w w' w1 w2 : Wd} {w0 : W0}
/-- what data live by -/
structure OStep (w w' : Wd) : Prop where
  keep : ∀ b o, ¬ w.O b → w.H b = some o → w'.H b = some o
  osub : ∀ p, w'.O p → w.O p ∨ w.H p = none
theorem Step.o (g : Good w) (s : Step w w') : OStep w w' := ⟨fun b o h e => s.keep b o (fun z => h (.inl z)) e, fun p h => s.osub p h⟩
theorem Rd.go {u : HO} {a : Addr} (s : OStep w w') (h : Rd w.H a u ∧ ¬ w.O a) : Rd w'.H a u ∧ ¬ w'.O a := by
  obtain ⟨h, n⟩ := h
  have nn : w.H a ≠ none := by
    rcases h with h | ⟨o, h⟩ <;> exact ne_none h
  refine ⟨?_, fun z => ?_⟩
  · rcases h with h | ⟨o, h⟩
    · exact .inl (s.keep a _ n h)
    · exact .inr ⟨o, s.keep a _ n h⟩
  · rcases s.osub a z with z | z
    · exact n z
    · exact nn z
theorem LvL.goO {a : Addr} {xs : List V} (h : LvL K w a xs) (s : OStep w w') : LvL K w' a xs := h.imp (Rd.go s) id
theorem LvT.goO {a : Addr} {xs : List V} (h : LvT K w a xs) (s : OStep w w') : LvT K w' a xs := Rd.go s h
theorem LvD.goO {a : Addr} {lk : Bool} {ks : List Key} {xs : List V} (h : LvD w a lk ks xs) (s : OStep w w') : LvD w' a lk ks xs := ⟨h.1, Rd.go s h.2.1, fun z => let ⟨o, e⟩ := h.2.2 z; ⟨o, s.keep a _ h.2.1.2 e⟩⟩
mutual
theorem Rep.goO' (s : OStep w w') : ∀ {d : D} {v : V}, Rep K w v d → Rep K w' v d
  | .non, _, h => by cases h; exact .non
  | .bl _, _, h => by cases h; exact .bl _
  | .int _, _, h => by cases h; exact .int _
  | .str _, _, h => by cases h; exact .str _
  | .tup _, _, h => by cases h with | tup a b => exact .tup (a.goO s) (Reps.goO' s b)
  | .lst _, _, h => by cases h with | lst a b => exact .lst (a.goO s) (Reps.goO' s b)
  | .fn _ _, _, h => by cases h with | fn a => exact .fn a
  | .dct _ _ _, _, h => by cases h with | dct a b => exact .dct (a.goO s) (Reps.goO' s b)
theorem Reps.goO' (s : OStep w w') : ∀ {ds : List D} {vs : List V}, Reps K w vs ds → Reps K w' vs ds
  | [], _, h => by cases h; exact .nil
  | _ :: _, _, h => by cases h with | cons a b => exact .cons (Rep.goO' s a) (Reps.goO' s b)
end
theorem Rep.goO {d : D} {v : V} (h : Rep K w v d) (s : OStep w w') : Rep K w' v d := Rep.goO' s h
theorem Reps.goO {ds : List D} {vs : List V} (h : Reps K w vs ds) (s : OStep w w') : Reps K w' vs ds := Reps.goO' s h
theorem Rep.go {d : D} {v : V} (h : Rep K w v d) (g : Good w) (s : Step w w') : Rep K w' v d := h.goO (s.o g)
theorem Reps.go {ds : List D} {vs : List V} (h : Reps K w vs ds) (g : Good w) (s : Step w w') : Reps K w' vs ds := h.goO (s.o g)
theorem Reps.length : ∀ {vs : List V} {ds : List D}, Reps K w vs ds → vs.length = ds.length
  | _, _, .nil => rfl
  | _, _, .cons _ t => congrArg (· + 1) (Reps.length t)
theorem Reps.get : ∀ {vs : List V} {ds : List D} {i : Nat} {d : D}, Reps K w vs ds → ds[i]? = some d → ∃ v, vs[i]? = some v ∧ Rep K w v d
  | _, _, _, _, .nil, e => by simp at e
  | _, _, 0, d, .cons r _, e => by simp at e; subst e; exact ⟨_, rfl, r⟩
  | _, _, i + 1, d, .cons _ t, e => by
    obtain ⟨v, h1, h2⟩ := Reps.get (i := i) (d := d) t (by simpa using e)
    exact ⟨v, by simpa using h1, h2⟩
theorem Reps.getV : ∀ {vs : List V} {ds : List D} {i : Nat} {v : V}, Reps K w vs ds → vs[i]? = some v → ∃ d, ds[i]? = some d ∧ Rep K w v d
  | _, _, _, _, .nil, e => by simp at e
  | _, _, 0, d, .cons r _, e => by simp at e; subst e; exact ⟨_, rfl, r⟩
  | _, _, i + 1, d, .cons _ t, e => by
    obtain ⟨v, h1, h2⟩ := Reps.getV (i := i) t (by simpa using e)
    exact ⟨v, by simpa using h1, h2⟩
theorem Reps.append : ∀ {vs us : List V} {ds es : List D}, Reps K w vs ds → Reps K w us es → Reps K w (vs ++ us) (ds ++ es)
  | _, _, _, _, .nil, s => s
  | _, _, _, _, .cons r t, s => .cons r (Reps.append t s)
theorem Reps.take : ∀ {vs : List V} {ds : List D} (n : Nat), Reps K w vs ds → Reps K w (vs.take n) (ds.take n)
  | _, _, 0, _ => .nil
  | _, _, _ + 1, .nil => .nil
  | _, _, n + 1, .cons r t => .cons r (Reps.take n t)
theorem Reps.drop : ∀ {vs : List V} {ds : List D} (n : Nat), Reps K w vs ds → Reps K w (vs.drop n) (ds.drop n)
  | _, _, 0, r => r
  | _, _, _ + 1, .nil => .nil
  | _, _, n + 1, .cons _ t => Reps.drop n t
theorem Reps.set {v : V} {d : D} (r : Rep K w v d) : ∀ {vs : List V} {ds : List D} (i : Nat), Reps K w vs ds → Reps K w (vs.set i v) (ds.set i d)
  | _, _, _, .nil => .nil
  | _, _, 0, .cons _ t => .cons r t
  | _, _, i + 1, .cons q t => .cons q (Reps.set r i t)
theorem Reps.reverse : ∀ {vs : List V} {ds : List D}, Reps K w vs ds → Reps K w vs.reverse ds.reverse
  | _, _, .nil => .nil
  | _, _, .cons r t => by
    rw [List.reverse_cons, List.reverse_cons]
    exact (Reps.reverse t).append (.cons r .nil)
theorem Reps.erase : ∀ {vs : List V} {ds : List D} (i : Nat), Reps K w vs ds → Reps K w (vs.eraseIdx i) (ds.eraseIdx i)
  | _, _, _, .nil => .nil
  | _, _, 0, .cons _ t => t
  | _, _, i + 1, .cons q t => .cons q (Reps.erase i t)

/-! ### objects of one's own -/
def OwIs (K : PySem.W.Frag) (w : Wd) (a : Addr) : Ow → Prop
  | .lst ds => ∃ xs, w.H a = some (.lst xs) ∧ Reps K w xs ds
  | .dct ks ds => ∃ xs, ks.length = xs.length ∧ w.H a = some (.dK (ks.zip xs)) ∧ Reps K w xs ds
structure OwAt (K : PySem.W.Frag) (w : Wd) (a : Addr) (o : Ow) : Prop where
  wa : w.W a
  is : OwIs K w a o
theorem OwAt.oa {a : Addr} {o : Ow} (h : OwAt K w a o) : w.O a := .inl h.wa
theorem OwIs.trk {a : Addr} {o : Ow} (h : OwIs K w a o) : w.H a ≠ none := by
  cases o with
  | lst ds => obtain ⟨xs, e, _⟩ := h; exact ne_none e
  | dct ks ds => obtain ⟨xs, _, e, _⟩ := h; exact ne_none e
theorem OwIs.grow {a : Addr} {o : Ow} (g : Good w) (h : OwIs K w a o) (s : PStep w w') : OwIs K w' a o := by
  cases o with
  | lst ds => obtain ⟨xs, e, r⟩ := h; exact ⟨xs, s.ext _ _ e, r.go g s.step⟩
  | dct ks ds => obtain ⟨xs, l, e, r⟩ := h; exact ⟨xs, l, s.ext _ _ e, r.go g s.step⟩
theorem OwAt.grow {a : Addr} {o : Ow} (g : Good w) (h : OwAt K w a o) (s : PStep w w') : OwAt K w' a o := ⟨s.wle _ h.wa, h.is.grow g s⟩
/-- a step that leaves this object be -/
theorem OwIs.go {a : Addr} {o : Ow} (g : Good w) (h : OwIs K w a o) (s : Step w w') (e : w'.H a = w.H a) : OwIs K w' a o := by
  cases o with
  | lst ds => obtain ⟨xs, q, r⟩ := h; exact ⟨xs, e.trans q, r.go g s⟩
  | dct ks ds => obtain ⟨xs, l, q, r⟩ := h; exact ⟨xs, l, e.trans q, r.go g s⟩
theorem OwIs.goO {a : Addr} {o : Ow} (h : OwIs K w a o) (s : OStep w w') (e : w'.H a = w.H a) : OwIs K w' a o := by
  cases o with
  | lst ds => obtain ⟨xs, q, r⟩ := h; exact ⟨xs, e.trans q, r.goO s⟩
  | dct ks ds => obtain ⟨xs, l, q, r⟩ := h; exact ⟨xs, l, e.trans q, r.goO s⟩
/-- let be: an object is data -/
theorem OwAt.frz {a : Addr} {o : Ow} (g : Good w) (h : OwAt K w a o) (nb : ¬ w.B a) : Rep K (w.frz a) (.ref a) o.d := by
  have is := h.is
  cases o with
  | lst ds =>
    obtain ⟨xs, e, r⟩ := is
    exact .lst (.inl ⟨.inl e, fun z => z.elim (fun k => k.2 rfl) nb⟩) (r.go g (w.frz_step a))
  | dct ks ds =>
    obtain ⟨xs, l, e, r⟩ := is
    exact .dct ⟨l, ⟨.inl e, fun z => z.elim (fun k => k.2 rfl) nb⟩, fun z => nomatch z⟩ (r.go g (w.frz_step a))

/-! ### the slots of a def -/
def isO : Option Sl → Bool
  | some (.own _) => true
  | some (.arg _) => true
  | _ => false
structure EnvOk (K : PySem.W.Frag) (w0 : W0) (w : Wd) (σ : L2.St) (env : List Sl) : Prop where
  g0 : Good w0.toWd
  good : Good w
  st : Step w0.toWd w
  len : σ.length = env.length
  val : ∀ (i : Nat) (d : D), env[i]? = some (Sl.val d) → ∃ v, σ[i]? = some (some v) ∧ Rep K w v d
  own : ∀ (i : Nat) (o : Ow), env[i]? = some (Sl.own o) → ∃ a : Addr, σ[i]? = some (some (V.ref a)) ∧ (w0.H a = none ∧ ¬ w.B a) ∧ OwAt K w a o
  arg : ∀ (i : Nat) (o : Ow), env[i]? = some (Sl.arg o) → ∃ a : Addr, σ[i]? = some (some (V.ref a)) ∧ (w0.H a ≠ none ∧ ¬ w.B a) ∧ OwAt K w a o
  inj : ∀ (i j : Nat) (a : Addr), isO env[i]? = true → isO env[j]? = true → σ[i]? = some (some (V.ref a)) → σ[j]? = some (some (V.ref a)) → i = j
  pin : ∀ p ∈ w0.pa, σ[p.1]? = some (some (V.ref p.2)) ∧ ∃ o : Ow, env[p.1]? = some (Sl.arg o)
variable {σ : L2.St} {env env' env1 : List Sl}
theorem EnvOk.owned {i : Nat} (e : EnvOk K w0 w σ env) (h : isO env[i]? = true) : ∃ (a : Addr) (o : Ow), σ[i]? = some (some (V.ref a)) ∧ (OwAt K w a o ∧ ¬ w.B a) ∧ (env[i]? = some (Sl.own o) ∨ env[i]? = some (Sl.arg o)) := by
  cases q : env[i]? with
  | none => rw [q] at h; cases h
  | some x =>
    cases x with
    | no => rw [q] at h; cases h
    | val d => rw [q] at h; cases h
    | own o => obtain ⟨a, h1, h3, h2⟩ := e.own i o q; exact ⟨a, o, h1, ⟨h2, h3.2⟩, .inl rfl⟩
    | arg o => obtain ⟨a, h1, h3, h2⟩ := e.arg i o q; exact ⟨a, o, h1, ⟨h2, h3.2⟩, .inr rfl⟩
theorem EnvOk.grow (e : EnvOk K w0 w σ env) (s : PStep w w') (g : Good w') : EnvOk K w0 w' σ env where
  g0 := e.g0
  good := g
  st := e.st.trans s.step
  len := e.len
  val := fun i d h => let ⟨v, h1, h2⟩ := e.val i d h; ⟨v, h1, h2.go e.good s.step⟩
  own := fun i o h => let ⟨a, h1, h2, h3⟩ := e.own i o h; ⟨a, h1, ⟨h2.1, fun z => (s.b2 a z).elim h2.2 h3.is.trk⟩, h3.grow e.good s⟩
  arg := fun i o h => let ⟨a, h1, h2, h3⟩ := e.arg i o h; ⟨a, h1, ⟨h2.1, fun z => (s.b2 a z).elim h2.2 h3.is.trk⟩, h3.grow e.good s⟩
  inj := e.inj
  pin := e.pin
/-- an object that no slot has is let be -/
theorem EnvOk.frz {a : Addr} (e : EnvOk K w0 w σ env) (hd : ∀ (i : Nat), isO env[i]? = true → σ[i]? ≠ some (some (V.ref a))) : EnvOk K w0 (w.frz a) σ env where
  g0 := e.g0
  good := Wd.frz_good e.good a
  st := e.st.trans (w.frz_step a)
  len := e.len
  val := fun i d h => let ⟨v, h1, h2⟩ := e.val i d h; ⟨v, h1, h2.go e.good (w.frz_step a)⟩
  own := fun i o h => by
    obtain ⟨b, h1, h2, h3⟩ := e.own i o h
    have nb : b ≠ a := fun z => hd i (by rw [h]; rfl) (by rw [h1, z])
    exact ⟨b, h1, h2, ⟨h3.wa, nb⟩, h3.is.go e.good (w.frz_step a) rfl⟩
  arg := fun i o h => by
    obtain ⟨b, h1, h2, h3⟩ := e.arg i o h
    have nb : b ≠ a := fun z => hd i (by rw [h]; rfl) (by rw [h1, z])
    exact ⟨b, h1, h2, ⟨h3.wa, nb⟩, h3.is.go e.good (w.frz_step a) rfl⟩
  inj := e.inj
  pin := e.pin

/-! ### expressions -/
abbrev Ex := List Sl → Option (R × List Sl)
abbrev Ev := List Sl → Option (D × List Sl)
abbrev Et := List Sl → Option (Bool × List Sl)
def RepR (K : PySem.W.Frag) (w0 : W0) (w' : Wd) (σ : L2.St) (env' : List Sl) (v : V) : R → Prop
  | .val d => Rep K w' v d
  | .own o => ∃ a : Addr, v = .ref a ∧ (w0.H a = none ∧ ¬ w'.B a) ∧ OwAt K w' a o ∧ ∀ (i : Nat), isO env'[i]? = true → σ[i]? ≠ some (some (V.ref a))
def EM (K : PySem.W.Frag) (te : TE) (f : Ex) : Prop := ∀ (w0 : W0) w σ env, EnvOk K w0 w σ env → ∀ r env', f env = some (r, env') →
  ∀ Q : VK, (∀ v w', EnvOk K w0 w' σ env' → Step w w' → RepR K w0 w' σ env' v r → Q v w'.H) → te σ w.H Q
def EV (K : PySem.W.Frag) (te : TE) (f : Ev) : Prop := ∀ (w0 : W0) w σ env, EnvOk K w0 w σ env → ∀ d env', f env = some (d, env') →
  ∀ Q : VK, (∀ v w', EnvOk K w0 w' σ env' → Step w w' → Rep K w' v d → Q v w'.H) → te σ w.H Q
def TM (K : PySem.W.Frag) (tt : TT) (f : Et) : Prop := ∀ (w0 : W0) w σ env, EnvOk K w0 w σ env → ∀ b env', f env = some (b, env') →
  ∀ Q : Bool → Hp → Prop, (∀ w', EnvOk K w0 w' σ env' → Step w w' → Q b w'.H) → tt σ w.H Q
/-- as data -/
def vf (f : Ex) : Ev := fun env => match f env with
  | some (r, e) => some (r.d, e)
  | none => none
theorem EM.v {te : TE} {f : Ex} (h : EM K te f) : EV K te (vf f) := by
  intro w0 w σ env e d env' hf Q q
  unfold vf at hf
  cases hr : f env with
  | none => rw [hr] at hf; cases hf
  | some p =>
    obtain ⟨r, e1⟩ := p
    rw [hr] at hf
    cases hf
    refine h w0 w σ env e r env' hr Q fun v w' ok s rr => ?_
    cases r with
    | val d => exact q v w' ok s rr
    | own o =>
      obtain ⟨a, rfl, hn, ha, hd⟩ := rr
      exact q _ (w'.frz a) (ok.frz hd) (s.trans (w'.frz_step a)) (ha.frz ok.good hn.2)
/-- data are told -/
def rv (f : Ev) : Ex := fun env => match f env with
  | some (d, e) => some (.val d, e)
  | none => none
theorem EV.m {te : TE} {f : Ev} (h : EV K te f) : EM K te (rv f) := by
  intro w0 w σ env e r env' hf Q q
  unfold rv at hf
  cases hr : f env with
  | none => rw [hr] at hf; cases hf
  | some p =>
    obtain ⟨d, e1⟩ := p
    rw [hr] at hf
    cases hf
    exact h w0 w σ env e d env' hr Q fun v w' ok s rr => q v w' ok s rr
end
end Vz
set_option maxRecDepth 100000
set_option maxHeartbeats 1000000
namespace Vz
open PySem PySem.Spec PyProof.Rows L2
variable [FnTab]
section
variable {K : PySem.W.Frag} {w w' w1 w2 : Wd} {w0 : W0} {σ : L2.St} {env env' env1 : List Sl}

/-! ### how an operator's answer lies -/
def RepZ (K : PySem.W.Frag) (w w' : Wd) (v : V) : R → Prop
  | .val d => Rep K w' v d
  | .own o => ∃ a : Addr, v = .ref a ∧ (w.H a = none ∧ ¬ w'.B a) ∧ OwAt K w' a o
theorem EnvOk.fresh_ne (e : EnvOk K w0 w σ env) {a : Addr} (h : w.H a = none) : ∀ i : Nat, isO env[i]? = true → σ[i]? ≠ some (some (V.ref a)) := fun i hi q => by
  obtain ⟨b, o, h1, h2, _⟩ := e.owned hi
  rw [h1] at q
  cases q
  exact h2.1.is.trk h
theorem RepZ.r (e : EnvOk K w0 w σ env) {v : V} {z : R} (h : RepZ K w w' v z) : RepR K w0 w' σ env v z := by
  cases z with
  | val d => exact h
  | own o => obtain ⟨a, rfl, h1, h2⟩ := h; exact ⟨a, rfl, ⟨e.st.none_back h1.1, h1.2⟩, h2, e.fresh_ne h1.1⟩
def OpM (K : PySem.W.Frag) (r : R2) (op : D → D → Option R) : Prop := ∀ w, Good w → ∀ x y a b, Rep K w x a → Rep K w y b → ∀ z, op a b = some z →
  ∀ Q : VK, (∀ v w', PStep w w' → Good w' → RepZ K w w' v z → Q v w'.H) → r x y w.H Q
def UnM (K : PySem.W.Frag) (r : V → Hp → VK → Prop) (op : D → Option R) : Prop := ∀ w, Good w → ∀ x a, Rep K w x a → ∀ z, op a = some z →
  ∀ Q : VK, (∀ v w', PStep w w' → Good w' → RepZ K w w' v z → Q v w'.H) → r x w.H Q
def ClM (K : PySem.W.Frag) (r : List V → Hp → VK → Prop) (op : List D → Option R) : Prop := ∀ w, Good w → ∀ xs as, Reps K w xs as → ∀ z, op as = some z →
  ∀ Q : VK, (∀ v w', PStep w w' → Good w' → RepZ K w w' v z → Q v w'.H) → r xs w.H Q

/-! ### expressions -/
def e_c (d : D) : Ex := fun env => some (.val d, env)
theorem em_int {i : Int} : EM K (tC (.int i)) (e_c (.int i)) := fun w0 w σ env e r env' h Q q => by cases h; exact q _ w e (.refl w) (.int i)
theorem em_bl {b : Bool} : EM K (tC (.bl b)) (e_c (.bl b)) := fun w0 w σ env e r env' h Q q => by cases h; exact q _ w e (.refl w) (.bl b)
theorem em_str {x : Str} : EM K (tC (.str x)) (e_c (.str x)) := fun w0 w σ env e r env' h Q q => by cases h; exact q _ w e (.refl w) (.str x)
theorem em_non : EM K (tC .non) (e_c .non) := fun w0 w σ env e r env' h Q q => by cases h; exact q _ w e (.refl w) .non
/-- a name -/
def e_v (i : Nat) : Ex := fun env => match env[i]? with
  | some (.val d) => some (.val d, env)
  | _ => none
theorem em_v {i : Nat} : EM K (tVar i) (e_v i) := by
  intro w0 w σ env e r env' h Q q
  unfold e_v at h
  cases hi : env[i]? with
  | none => rw [hi] at h; cases h
  | some x =>
    rw [hi] at h
    cases x with
    | val d =>
      cases h
      obtain ⟨v, h1, h2⟩ := e.val i d hi
      exact ⟨v, h1, q v w e (.refl w) h2⟩
    | no => cases h
    | own _ => cases h
    | arg _ => cases h
/-- an object of one's own is given away -/
def e_take (i : Nat) : Ex := fun env => match env[i]? with
  | some (.own o) => some (.own o, env.set i .no)
  | _ => none
/-- .. is let be -/
def e_fz (i : Nat) : Ex := fun env => match env[i]? with
  | some (.own o) => some (.val o.d, env.set i (.val o.d))
  | some (.val d) => some (.val d, env)
  | _ => none
theorem get_set_ne {α : Type} {l : List α} {i j : Nat} {x : α} (h : i ≠ j) : (l.set i x)[j]? = l[j]? := by rw [List.getElem?_set_ne h]
theorem get_set_eq {α : Type} {l : List α} {i : Nat} {x y : α} (h : l[i]? = some y) : (l.set i x)[i]? = some x := by
  rw [List.getElem?_set_self]
  exact (List.getElem?_eq_some_iff.mp h).1
/-- a slot that held no object of one's own, or one that goes, gets what holds no such object -/
theorem EnvOk.put0 {i : Nat} {x : Sl} (e : EnvOk K w0 w σ env) (hx : ∀ o, x ≠ .own o ∧ x ≠ .arg o) (hn : ∀ o : Ow, env[i]? ≠ some (Sl.arg o)) (hv : ∀ d, x = .val d → ∃ v, σ[i]? = some (some v) ∧ Rep K w v d) : EnvOk K w0 w σ (env.set i x) := by
  have key : ∀ (j : Nat) (y : Sl), (env.set i x)[j]? = some y → (j ≠ i ∧ env[j]? = some y) ∨ (j = i ∧ y = x) := fun j y h => by
    by_cases hj : j = i
    · subst hj
      rw [List.getElem?_set] at h
      simp at h
      exact .inr ⟨rfl, h.2.symm⟩
    · rw [get_set_ne (Ne.symm hj)] at h
      exact .inl ⟨hj, h⟩
  have keyO : ∀ j : Nat, isO (env.set i x)[j]? = true → j ≠ i ∧ isO env[j]? = true := fun j h => by
    cases q : (env.set i x)[j]? with
    | none => rw [q] at h; cases h
    | some y =>
      rcases key j y q with ⟨h1, h2⟩ | ⟨h1, h2⟩
      · rw [q] at h; rw [h2]; exact ⟨h1, h⟩
      · rw [q, h2] at h
        cases x with
        | no => cases h
        | val _ => cases h
        | own o => exact absurd rfl (hx o).1
        | arg o => exact absurd rfl (hx o).2
  refine ⟨e.g0, e.good, e.st, by rw [List.length_set]; exact e.len, fun j d h => ?_, fun j o h => ?_, fun j o h => ?_, fun j k a h1 h2 h3 h4 => e.inj j k a (keyO j h1).2 (keyO k h2).2 h3 h4, fun p hp => ?_⟩
  · rcases key j _ h with ⟨h1, h2⟩ | ⟨h1, h2⟩
    · exact e.val j d h2
    · subst h1; exact hv d h2.symm
  · rcases key j _ h with ⟨h1, h2⟩ | ⟨h1, h2⟩
    · exact e.own j o h2
    · exact absurd h2.symm (hx o).1
  · rcases key j _ h with ⟨h1, h2⟩ | ⟨h1, h2⟩
    · exact e.arg j o h2
    · exact absurd h2.symm (hx o).2
  · obtain ⟨h1, o, h2⟩ := e.pin p hp
    refine ⟨h1, o, ?_⟩
    rw [get_set_ne (fun z => hn o (by rw [z]; exact h2))]
    exact h2
theorem em_take {i : Nat} : EM K (tVar i) (e_take i) := by
  intro w0 w σ env e r env' h Q q
  unfold e_take at h
  cases hi : env[i]? with
  | none => rw [hi] at h; cases h
  | some x =>
    rw [hi] at h
    cases x with
    | own o =>
      cases h
      obtain ⟨a, h1, h2, h3⟩ := e.own i o hi
      refine ⟨_, h1, q _ w (e.put0 (fun _ => ⟨(fun z => nomatch z), (fun z => nomatch z)⟩) (fun _ z => by rw [hi] at z; cases z) fun _ z => nomatch z) (.refl w) ⟨a, rfl, h2, h3, fun j hj z => ?_⟩⟩
      by_cases hji : j = i
      · subst hji
        rw [get_set_eq hi] at hj
        cases hj
      · rw [get_set_ne (Ne.symm hji)] at hj
        exact hji (e.inj j i a hj (by rw [hi]; rfl) z h1)
    | no => cases h
    | val _ => cases h
    | arg _ => cases h
theorem em_fz {i : Nat} : EM K (tVar i) (e_fz i) := by
  intro w0 w σ env e r env' h Q q
  unfold e_fz at h
  cases hi : env[i]? with
  | none => rw [hi] at h; cases h
  | some x =>
    rw [hi] at h
    cases x with
    | own o =>
      cases h
      obtain ⟨a, h1, h2, h3⟩ := e.own i o hi
      have e1 : EnvOk K w0 w σ (env.set i .no) := e.put0 (fun _ => ⟨(fun z => nomatch z), (fun z => nomatch z)⟩) (fun _ z => by rw [hi] at z; cases z) fun _ z => nomatch z
      have hd : ∀ j : Nat, isO (env.set i .no)[j]? = true → σ[j]? ≠ some (some (V.ref a)) := fun j hj z => by
        by_cases hji : j = i
        · subst hji
          rw [get_set_eq hi] at hj
          cases hj
        · rw [get_set_ne (Ne.symm hji)] at hj
          exact hji (e.inj j i a hj (by rw [hi]; rfl) z h1)
      have e2 := e1.frz hd
      have rp := h3.frz e.good h2.2
      have e3 : EnvOk K w0 (w.frz a) σ ((env.set i .no).set i (.val o.d)) := e2.put0 (fun _ => ⟨(fun z => nomatch z), (fun z => nomatch z)⟩) (fun _ z => by rw [get_set_eq hi] at z; cases z) fun d z => by cases z; exact ⟨_, h1, rp⟩
      rw [List.set_set] at e3
      exact ⟨_, h1, q _ (w.frz a) e3 (w.frz_step a) rp⟩
    | val d =>
      cases h
      obtain ⟨v, h1, h2⟩ := e.val i d hi
      exact ⟨v, h1, q v w e (.refl w) h2⟩
    | no => cases h
    | arg _ => cases h

def e2 (op : D → D → Option R) (f g : Ex) : Ex := fun env => (vf f env).bind fun p => (vf g p.2).bind fun q => (op p.1 q.1).bind fun z => some (z, q.2)
theorem em_op {r : R2} {op : D → D → Option R} {ta tb : TE} {f g : Ex} (ho : OpM K r op) (ha : EM K ta f) (hb : EM K tb g) : EM K (tOp r ta tb) (e2 op f g) := by
  intro w0 w σ env e z env' h Q q
  obtain ⟨⟨x, e1⟩, h1, h⟩ := Option.bind_eq_some_iff.mp h
  obtain ⟨⟨y, e2⟩, h2, h⟩ := Option.bind_eq_some_iff.mp h
  obtain ⟨z', h3, h⟩ := Option.bind_eq_some_iff.mp h
  cases h
  refine ha.v w0 w σ env e x e1 h1 _ fun v w1 E1 s1 r1 => ?_
  refine hb.v w0 w1 σ e1 E1 y _ h2 _ fun u w2 E2 s2 r2 => ?_
  refine ho w2 E2.good v u x y (r1.go E1.good s2) r2 _ h3 Q fun t w3 s3 g3 r3 => ?_
  exact q t w3 (E2.grow s3 g3) ((s1.trans s2).trans s3.step) (r3.r E2)
def e1 (op : D → Option R) (f : Ex) : Ex := fun env => (vf f env).bind fun p => (op p.1).bind fun z => some (z, p.2)
theorem em_un {r : V → Hp → VK → Prop} {op : D → Option R} {ta : TE} {f : Ex} (ho : UnM K r op) (ha : EM K ta f) : EM K (tUn r ta) (e1 op f) := by
  intro w0 w σ env e z env' h Q q
  obtain ⟨⟨x, e1⟩, h1, h⟩ := Option.bind_eq_some_iff.mp h
  obtain ⟨z', h3, h⟩ := Option.bind_eq_some_iff.mp h
  cases h
  refine ha.v w0 w σ env e x _ h1 _ fun v w1 E1 s1 r1 => ?_
  refine ho w1 E1.good v x r1 _ h3 Q fun t w3 s3 g3 r3 => ?_
  exact q t w3 (E1.grow s3 g3) (s1.trans s3.step) (r3.r E1)

/-! ### argument lists -/
abbrev Ea := List Sl → Option (List D × List Sl)
def AM (K : PySem.W.Frag) (ta : TA) (f : Ea) : Prop := ∀ w0 w σ env, EnvOk K w0 w σ env → ∀ ds env', f env = some (ds, env') →
  ∀ Q : List V → Hp → Prop, (∀ vs w', EnvOk K w0 w' σ env' → Step w w' → Reps K w' vs ds → Q vs w'.H) → ta σ w.H Q
def a_nil : Ea := fun env => some ([], env)
def a_cons (f : Ex) (g : Ea) : Ea := fun env => (vf f env).bind fun p => (g p.2).bind fun q => some (p.1 :: q.1, q.2)
theorem am_nil : AM K tNil a_nil := fun w0 w σ env e ds env' h Q q => by cases h; exact q [] w e (.refl w) .nil
theorem am_cons {te : TE} {ta : TA} {f : Ex} {g : Ea} (hf : EM K te f) (hg : AM K ta g) : AM K (tCons te ta) (a_cons f g) := by
  intro w0 w σ env e ds env' h Q q
  obtain ⟨⟨x, e1⟩, h1, h⟩ := Option.bind_eq_some_iff.mp h
  obtain ⟨⟨y, e2⟩, h2, h⟩ := Option.bind_eq_some_iff.mp h
  cases h
  refine hf.v w0 w σ env e x e1 h1 _ fun v w1 E1 s1 r1 => ?_
  refine hg w0 w1 σ e1 E1 y _ h2 _ fun vs w2 E2 s2 r2 => ?_
  exact q _ w2 E2 (s1.trans s2) (.cons (r1.go E1.good s2) r2)
def eB (op : List D → Option R) (f : Ea) : Ex := fun env => (f env).bind fun p => (op p.1).bind fun z => some (z, p.2)
theorem em_B {r : List V → Hp → VK → Prop} {op : List D → Option R} {ta : TA} {f : Ea} (ho : ClM K r op) (ha : AM K ta f) : EM K (tCB r ta) (eB op f) := by
  intro w0 w σ env e z env' h Q q
  obtain ⟨⟨x, e1⟩, h1, h⟩ := Option.bind_eq_some_iff.mp h
  obtain ⟨z', h3, h⟩ := Option.bind_eq_some_iff.mp h
  cases h
  refine ha w0 w σ env e x _ h1 _ fun v w1 E1 s1 r1 => ?_
  refine ho w1 E1.good v x r1 _ h3 Q fun t w3 s3 g3 r3 => ?_
  exact q t w3 (E1.grow s3 g3) (s1.trans s3.step) (r3.r E1)
/-- a written tuple, list -/
def o_tup (ds : List D) : Option R := if ds.length ≤ 100000 then some (.val (.tup ds)) else none
def o_lst (ds : List D) : Option R := if ds.length ≤ 100000 then some (.own (.lst ds)) else none
omit [FnTab] in
theorem line5 : 100000 ≤ sizeLine := by rw [sizeLine_eq]; decide
theorem put_tup {p : Addr} {xs : List V} {ds : List D} (g : Good w) (hp : w.H p = none) (r : Reps K w xs ds) : Rep K (w.put p (.tup xs)) (.ref p) (.tup ds) :=
  .tup ⟨.inl upd_same, fun z => g.dom p z hp⟩ (r.go g (Wd.put_step hp).step)
theorem put_lst {p : Addr} {xs : List V} {ds : List D} (g : Good w) (hp : w.H p = none) (r : Reps K w xs ds) : OwAt K (w.puts p (.lst xs)) p (.lst ds) :=
  ⟨.inr rfl, xs, upd_same, r.go g (Wd.puts_step hp).step⟩
theorem em_tup {ta : TA} {f : Ea} (ha : AM K ta f) : EM K (tTup ta) (eB o_tup f) := by
  have h : ClM K (fun xs H Q => xs.length ≤ sizeLine ∧ ∀ p, H p = none → Q (.ref p) (upd H p (.tup xs))) o_tup := by
    intro w g xs as r z h Q q
    unfold o_tup at h
    split at h
    · rename_i hl
      cases h
      refine ⟨by rw [r.length]; exact Nat.le_trans hl line5, fun p hp => ?_⟩
      exact q _ (w.put p (.tup xs)) (Wd.put_step hp) (Wd.put_good g hp) (put_tup g hp r)
    · cases h
  exact em_B h ha
theorem em_lst {ta : TA} {f : Ea} (ha : AM K ta f) : EM K (tLst ta) (eB o_lst f) := by
  have h : ClM K (fun xs H Q => xs.length ≤ sizeLine ∧ ∀ p, H p = none → Q (.ref p) (upd H p (.lst xs))) o_lst := by
    intro w g xs as r z h Q q
    unfold o_lst at h
    split at h
    · rename_i hl
      cases h
      refine ⟨by rw [r.length]; exact Nat.le_trans hl line5, fun p hp => ?_⟩
      exact q _ (w.puts p (.lst xs)) (Wd.puts_step hp) (Wd.puts_good g hp) ⟨p, rfl, ⟨hp, fun z => g.dom p (.inr z) hp⟩, put_lst g hp r⟩
    · cases h
  exact em_B h ha

/-! ### tests -/
def bf (f : Ex) : Et := fun env => (vf f env).bind fun p => match p.1 with
  | .bl b => some (b, p.2)
  | _ => none
theorem bf_case {f : Ex} {b : Bool} (h : bf f env = some (b, env')) : vf f env = some (.bl b, env') := by
  obtain ⟨⟨x, e1⟩, h1, h⟩ := Option.bind_eq_some_iff.mp h
  cases x with
  | bl c => cases h; exact h1
  | non => cases h
  | int _ => cases h
  | str _ => cases h
  | tup _ => cases h
  | lst _ => cases h
  | fn _ _ => cases h
  | dct _ _ => cases h
theorem tm_test {te : TE} {f : Ex} (h : EM K te f) : TM K (tTest te) (bf f) := by
  intro w0 w σ env e b env' hb Q q
  refine h.v w0 w σ env e _ _ (bf_case hb) _ fun v w1 E1 s1 r1 => ?_
  cases r1
  exact ⟨b, rfl, q w1 E1 s1⟩
theorem tm_B {te : TE} {f : Ex} (h : EM K te f) : TM K (tB te) (bf f) := by
  intro w0 w σ env e b env' hb Q q
  refine h.v w0 w σ env e _ _ (bf_case hb) _ fun v w1 E1 s1 r1 => ?_
  cases r1
  exact ⟨b, rfl, q w1 E1 s1⟩
def t_and (f g : Et) : Et := fun env => (f env).bind fun p => if p.1 = true then g p.2 else some (false, p.2)
def t_or (f g : Et) : Et := fun env => (f env).bind fun p => if p.1 = true then some (true, p.2) else g p.2
def t_not (f : Et) : Et := fun env => (f env).bind fun p => some (!p.1, p.2)
theorem tm_and {t u : TT} {f g : Et} (h1 : TM K t f) (h2 : TM K u g) : TM K (tAnd t u) (t_and f g) := by
  intro w0 w σ env e b env' h Q q
  obtain ⟨⟨x, e1⟩, hx, h⟩ := Option.bind_eq_some_iff.mp h
  refine h1 w0 w σ env e x e1 hx _ fun w1 E1 s1 => ?_
  cases x with
  | true =>
    rw [if_pos rfl] at h ⊢
    exact h2 w0 w1 σ e1 E1 b env' h Q fun w2 E2 s2 => q w2 E2 (s1.trans s2)
  | false =>
    rw [if_neg Bool.false_ne_true] at h ⊢
    cases h
    exact q w1 E1 s1
theorem tm_or {t u : TT} {f g : Et} (h1 : TM K t f) (h2 : TM K u g) : TM K (tOr t u) (t_or f g) := by
  intro w0 w σ env e b env' h Q q
  obtain ⟨⟨x, e1⟩, hx, h⟩ := Option.bind_eq_some_iff.mp h
  refine h1 w0 w σ env e x e1 hx _ fun w1 E1 s1 => ?_
  cases x with
  | true =>
    rw [if_pos rfl] at h ⊢
    cases h
    exact q w1 E1 s1
  | false =>
    rw [if_neg Bool.false_ne_true] at h ⊢
    exact h2 w0 w1 σ e1 E1 b env' h Q fun w2 E2 s2 => q w2 E2 (s1.trans s2)
theorem tm_not {t : TT} {f : Et} (h1 : TM K t f) : TM K (tNot t) (t_not f) := by
  intro w0 w σ env e b env' h Q q
  obtain ⟨⟨x, e1⟩, hx, h⟩ := Option.bind_eq_some_iff.mp h
  cases h
  exact h1 w0 w σ env e x _ hx _ fun w1 E1 s1 => q w1 E1 s1
/-- tests as values -/
def tv (f : Et) : Ex := fun env => (f env).bind fun p => some (.val (.bl p.1), p.2)
theorem em_andV {ta tb : TE} {f g : Ex} (h1 : EM K ta f) (h2 : EM K tb g) : EM K (tAndV ta tb) (tv (t_and (bf f) (bf g))) := by
  intro w0 w σ env e r env' hh Q q
  obtain ⟨⟨b, e2⟩, h', hr⟩ := Option.bind_eq_some_iff.mp hh
  obtain ⟨⟨x, e1⟩, hx, h⟩ := Option.bind_eq_some_iff.mp h'
  cases hr
  refine h1.v w0 w σ env e _ _ (bf_case hx) _ fun v w1 E1 s1 r1 => ?_
  cases r1
  refine ⟨x, rfl, ?_⟩
  cases x with
  | true =>
    rw [if_pos rfl] at h ⊢
    exact h2.v w0 w1 σ e1 E1 _ _ (bf_case h) Q fun v w2 E2 s2 r2 => q v w2 E2 (s1.trans s2) r2
  | false =>
    rw [if_neg Bool.false_ne_true] at h ⊢
    cases h
    exact q _ w1 E1 s1 (.bl false)
theorem em_orV {ta tb : TE} {f g : Ex} (h1 : EM K ta f) (h2 : EM K tb g) : EM K (tOrV ta tb) (tv (t_or (bf f) (bf g))) := by
  intro w0 w σ env e r env' hh Q q
  obtain ⟨⟨b, e2⟩, h', hr⟩ := Option.bind_eq_some_iff.mp hh
  obtain ⟨⟨x, e1⟩, hx, h⟩ := Option.bind_eq_some_iff.mp h'
  cases hr
  refine h1.v w0 w σ env e _ _ (bf_case hx) _ fun v w1 E1 s1 r1 => ?_
  cases r1
  refine ⟨x, rfl, ?_⟩
  cases x with
  | true =>
    rw [if_pos rfl] at h ⊢
    cases h
    exact q _ w1 E1 s1 (.bl true)
  | false =>
    rw [if_neg Bool.false_ne_true] at h ⊢
    exact h2.v w0 w1 σ e1 E1 _ _ (bf_case h) Q fun v w2 E2 s2 r2 => q v w2 E2 (s1.trans s2) r2
theorem em_notV {ta : TE} {f : Ex} (h1 : EM K ta f) : EM K (tNotV ta) (tv (t_not (bf f))) := by
  intro w0 w σ env e r env' hh Q q
  obtain ⟨⟨b, e2⟩, h', hr⟩ := Option.bind_eq_some_iff.mp hh
  obtain ⟨⟨x, e1⟩, hx, h⟩ := Option.bind_eq_some_iff.mp h'
  cases hr
  cases h
  refine h1.v w0 w σ env e _ _ (bf_case hx) _ fun v w1 E1 s1 r1 => ?_
  cases r1
  exact ⟨x, rfl, q _ w1 E1 s1 (.bl _)⟩
def e_if (c : Et) (f g : Ex) : Ex := fun env => (c env).bind fun p => if p.1 = true then f p.2 else g p.2
theorem em_if {t : TT} {ta tb : TE} {c : Et} {f g : Ex} (hc : TM K t c) (hf : EM K ta f) (hg : EM K tb g) : EM K (tIf t ta tb) (e_if c f g) := by
  intro w0 w σ env e r env' h Q q
  obtain ⟨⟨x, e1⟩, hx, h⟩ := Option.bind_eq_some_iff.mp h
  refine hc w0 w σ env e x e1 hx _ fun w1 E1 s1 => ?_
  cases x with
  | true =>
    rw [if_pos rfl] at h ⊢
    exact hf w0 w1 σ e1 E1 r env' h Q fun v w2 E2 s2 => q v w2 E2 (s1.trans s2)
  | false =>
    rw [if_neg Bool.false_ne_true] at h ⊢
    exact hg w0 w1 σ e1 E1 r env' h Q fun v w2 E2 s2 => q v w2 E2 (s1.trans s2)
/-- truth of data -/
def D.tru : D → Option Bool
  | .non => some false
  | .bl b => some b
  | .int i => some (i != 0)
  | .str x => if x.length ≤ 100000 then some ((x.length : Int) != 0) else none
  | .tup ds => some (!ds.isEmpty)
  | .lst ds => some (!ds.isEmpty)
  | .fn _ _ => none
  | .dct _ _ _ => none
def t_tru (f : Ex) : Et := fun env => (vf f env).bind fun p => (p.1.tru).bind fun b => some (b, p.2)
theorem Reps.isEmpty {vs : List V} {ds : List D} (r : Reps K w vs ds) : vs.isEmpty = ds.isEmpty := by
  cases r <;> rfl
theorem Rep.tru {v : V} {d : D} {b : Bool} (r : Rep K w v d) (h : d.tru = some b) : TruV K v w.H b := by
  cases r with
  | non => cases h; rfl
  | bl _ => cases h; rfl
  | int _ => cases h; rfl
  | str x =>
    unfold D.tru at h
    simp only at h
    split at h
    · rename_i hl
      cases h
      exact ⟨Nat.le_trans hl line5, rfl⟩
    · cases h
  | fn _ => cases h
  | dct _ _ => cases h
  | tup a b => cases h; exact .inr (.inl ⟨_, a.sq, by rw [b.isEmpty]⟩)
  | lst a b => cases h; exact .inl ⟨_, a.sq, by rw [b.isEmpty]⟩
theorem tm_tru {te : TE} {f : Ex} (h : EM K te f) : TM K (fun σ H Q => te σ H fun x H' => ∃ k, TruV K x H' k ∧ Q k H') (t_tru f) := by
  intro w0 w σ env e b env' hb Q q
  obtain ⟨⟨x, e1⟩, h1, hb⟩ := Option.bind_eq_some_iff.mp hb
  obtain ⟨c, h2, hb⟩ := Option.bind_eq_some_iff.mp hb
  cases hb
  refine h.v w0 w σ env e _ _ h1 _ fun v w1 E1 s1 r1 => ?_
  exact ⟨b, r1.tru h2, q w1 E1 s1⟩
/-- a < b < c -/
def e_chain (o1 o2 : D → D → Option R) (f g h : Ex) : Ex := fun env => (vf f env).bind fun p => (vf g p.2).bind fun q => (o1 p.1 q.1).bind fun z => match z with
  | .val (.bl true) => (vf h q.2).bind fun u => (o2 q.1 u.1).bind fun z' => match z' with
    | .val (.bl b) => some (.val (.bl b), u.2)
    | _ => none
  | .val (.bl false) => some (.val (.bl false), q.2)
  | _ => none
theorem em_chain {r r' : R2} {o1 o2 : D → D → Option R} {ta tb tc : TE} {f g h : Ex} (h1 : OpM K r o1) (h2 : OpM K r' o2) (ha : EM K ta f) (hb : EM K tb g) (hc : EM K tc h) :
    EM K (tChain r r' ta tb tc) (e_chain o1 o2 f g h) := by
  intro w0 w σ env e z env' hh Q q
  obtain ⟨⟨x, e1⟩, k1, hh⟩ := Option.bind_eq_some_iff.mp hh
  obtain ⟨⟨y, e2⟩, k2, hh⟩ := Option.bind_eq_some_iff.mp hh
  obtain ⟨z1, k3, hh⟩ := Option.bind_eq_some_iff.mp hh
  refine ha.v w0 w σ env e x e1 k1 _ fun v w1 E1 s1 r1 => ?_
  refine hb.v w0 w1 σ e1 E1 y e2 k2 _ fun u w2 E2 s2 r2 => ?_
  refine h1 w2 E2.good v u x y (r1.go E1.good s2) r2 _ k3 _ fun t w3 s3 g3 r3 => ?_
  cases z1 with
  | own o => cases hh
  | val d =>
    cases d with
    | bl b =>
      cases r3
      refine ⟨b, rfl, ?_⟩
      have E3 := E2.grow s3 g3
      have s13 := (s1.trans s2).trans s3.step
      cases b with
      | true =>
        rw [if_pos rfl]
        obtain ⟨⟨c, e4⟩, k4, hh⟩ := Option.bind_eq_some_iff.mp hh
        obtain ⟨z2, k5, hh⟩ := Option.bind_eq_some_iff.mp hh
        refine hc.v w0 w3 σ e2 E3 c e4 k4 _ fun v4 w4 E4 s4 r4 => ?_
        refine h2 w4 E4.good u v4 y c (r2.go E2.good (s3.step.trans s4)) r4 _ k5 Q fun t5 w5 s5 g5 r5 => ?_
        cases z2 with
        | own o => cases hh
        | val d2 =>
          cases d2 with
          | bl b2 => cases hh; exact q t5 w5 (E4.grow s5 g5) ((s13.trans s4).trans s5.step) r5
          | non => cases hh
          | int _ => cases hh
          | str _ => cases hh
          | tup _ => cases hh
          | lst _ => cases hh
          | fn _ _ => cases hh
          | dct _ _ => cases hh
      | false =>
        rw [if_neg Bool.false_ne_true]
        cases hh
        exact q _ w3 E3 s13 (.bl false)
    | non => cases hh
    | int _ => cases hh
    | str _ => cases hh
    | tup _ => cases hh
    | lst _ => cases hh
    | fn _ _ => cases hh
    | dct _ _ => cases hh
end
end Vz
set_option maxRecDepth 100000
set_option maxHeartbeats 1000000
namespace Vz
open PySem PySem.Spec PyProof.Rows L2
variable [FnTab]
section
variable {K : PySem.W.Frag} {w w' w1 w2 : Wd} {w0 : W0} {σ : L2.St} {env env' env1 : List Sl}

/-! ### answers -/
theorem out0 {z : R} {d : D} {v : V} {Q : VK} (g : Good w) (r : Rep K w v d) (e : some (R.val d) = some z) (q : ∀ v w', PStep w w' → Good w' → RepZ K w w' v z → Q v w'.H) : Q v w.H := by
  cases e; exact q v w (.refl w) g r
theorem outL {z : R} {xs : List V} {ds : List D} {p : Addr} {Q : VK} (g : Good w) (hp : w.H p = none) (r : Reps K w xs ds) (e : some (R.own (.lst ds)) = some z) (q : ∀ v w', PStep w w' → Good w' → RepZ K w w' v z → Q v w'.H) : Q (.ref p) (upd w.H p (.lst xs)) := by
  cases e; exact q _ (w.puts p (.lst xs)) (Wd.puts_step hp) (Wd.puts_good g hp) ⟨p, rfl, ⟨hp, fun z => g.dom p (.inr z) hp⟩, put_lst g hp r⟩
theorem outT {z : R} {xs : List V} {ds : List D} {p : Addr} {Q : VK} (g : Good w) (hp : w.H p = none) (r : Reps K w xs ds) (e : some (R.val (.tup ds)) = some z) (q : ∀ v w', PStep w w' → Good w' → RepZ K w w' v z → Q v w'.H) : Q (.ref p) (upd w.H p (.tup xs)) := by
  cases e; exact q _ (w.put p (.tup xs)) (Wd.put_step hp) (Wd.put_good g hp) (put_tup g hp r)

/-! ### ints -/
open Classical in
/-- an operator of two ints -/
noncomputable def o_II (C : Int → Int → Prop) (g : Int → Int → D) : D → D → Option R
  | .int i, .int j => if C i j then some (.val (g i j)) else none
  | _, _ => none
theorem opm_II {C : Int → Int → Prop} {g : Int → Int → Int} : OpM K (rI C fun i j => .int (g i j)) (o_II C fun i j => .int (g i j)) := by
  intro w g0 x y a b ra rb z h Q q
  cases ra <;> cases rb <;> simp only [o_II] at h <;> try cases h
  split at h
  · rename_i hc
    exact ⟨_, _, rfl, rfl, hc, out0 g0 (.int _) h q⟩
  · cases h
def o_I (g : Int → Int → D) : D → D → Option R
  | .int i, .int j => some (.val (g i j))
  | _, _ => none
theorem opm_I {g : Int → Int → Int} : OpM K (rI0 fun i j => .int (g i j)) (o_I fun i j => .int (g i j)) := by
  intro w g0 x y a b ra rb z h Q q
  cases ra <;> cases rb <;> simp only [o_I] at h <;> try cases h
  exact ⟨_, _, rfl, rfl, out0 g0 (.int _) rfl q⟩
theorem opm_Ib {g : Int → Int → Bool} : OpM K (rI0 fun i j => .bl (g i j)) (o_I fun i j => .bl (g i j)) := by
  intro w g0 x y a b ra rb z h Q q
  cases ra <;> cases rb <;> simp only [o_I] at h <;> try cases h
  exact ⟨_, _, rfl, rfl, out0 g0 (.bl _) rfl q⟩
noncomputable abbrev o_mulI : D → D → Option R := o_II IntMulOk fun i j => .int (i * j)
noncomputable abbrev o_fdiv : D → D → Option R := o_II (fun _ j => j ≠ 0 ∧ j.natAbs.log2 < 9000) fun i j => .int (i.fdiv j)
noncomputable abbrev o_mod : D → D → Option R := o_II (fun _ j => j ≠ 0) fun i j => .int (i.fmod j)
noncomputable abbrev o_pow : D → D → Option R := o_II CPow fun i j => .int (i ^ j.toNat)
abbrev o_sub : D → D → Option R := o_I fun i j => .int (i - j)
theorem op_mulX {X : Cx} : OpR X (binaryOp .Mult) (rI IntMulOk fun i j => .int (i * j)) := opI fun _ _ _ _ _ _ _ hc q => mul_int q hc
theorem op_fdivX {X : Cx} : OpR X (binaryOp .FloorDiv) (rI (fun _ j => j ≠ 0 ∧ j.natAbs.log2 < 9000) fun i j => .int (i.fdiv j)) := opI fun _ _ _ _ _ _ _ hc q => floordiv_int hc.1 q (.inl (PyProof.noPylong_of_log2 hc.2))
theorem opm_sub : OpM K (rI0 fun i j => .int (i - j)) o_sub := opm_I

/-! ### + -/
def rCatR (K : PySem.W.Frag) : R2 := fun x y H Q => ∃ l b xs zs, x = .ref l ∧ y = .ref b ∧ SqL K H l xs ∧ SqL K H b zs ∧ xs.length + zs.length ≤ sizeLine ∧ ∀ p, H p = none → Q (.ref p) (upd H p (.lst (xs ++ zs)))
theorem op_catR {X : Cx} : OpR X (binaryOp .Add) (rCatR X.K) := by
  intro pins s σ H x y v u Q I rx ry h
  obtain ⟨l, b, xs, zs, rfl, rfl, hH, hB, hz, q⟩ := h
  cases rx
  cases ry
  obtain ⟨vs, r, p1, _⟩ := I.list hH
  obtain ⟨ws, r2, p2, _⟩ := I.list hB
  obtain ⟨⟨cls, dd, data, sl⟩, ho, hc, n, hd⟩ := p1.isList
  obtain ⟨⟨cls2, dd2, data2, sl2⟩, ho2, hc2, n2, hd2⟩ := p2.isList
  simp only at hc hd hc2 hd2
  subst hc hd hc2 hd2
  have e : vs.toArray ++ ws.toArray = (vs ++ ws).toArray := by simp
  refine concat_meets ⟨_, ho, rfl⟩ ⟨_, ho2, rfl⟩ noFill_list_add seq_list_add PySem.F.slot_list_add PySem.F.entry_list_add (PySem.F.args_list_add_2 _ _) (PyProof.Rows.list_addW l b vs.toArray ws.toArray n n2 dd dd2 sl sl2 (by have := r.length; have := r2.length; simp; omega)) ⟨ho, ho2, ?_⟩
  rw [e]
  exact ⟨.ref _, _, I.lnew (t' := s.toks) (r.append r2) (by rw [List.length_append]; omega), rfl, q _ I.fresh⟩
def o_add : D → D → Option R
  | .int i, .int j => some (.val (.int (i + j)))
  | .str x, .str y => if x.length + y.length ≤ 100000 then some (.val (.str (x ++ y))) else none
  | .lst a, .lst b => if a.length + b.length ≤ 100000 then some (.own (.lst (a ++ b))) else none
  | .tup a, .tup b => if a.length + b.length ≤ 100000 then some (.val (.tup (a ++ b))) else none
  | _, _ => none
def rStrAdd : R2 := fun x y H Q => ∃ i j, x = .str i ∧ y = .str j ∧ i.length + j.length ≤ sizeLine ∧ Q (.str (i ++ j)) H
def rAddX (K : PySem.W.Frag) : R2 := fun x y H Q => rI0 (fun i j => .int (i + j)) x y H Q ∨ (rStrAdd x y H Q ∨ (rCatR K x y H Q ∨ rCatA K x y H Q))
theorem op_addX {X : Cx} : OpR X (binaryOp .Add) (rAddX X.K) := op_add.or (op_add_str.or (op_catR.or op_catA))
theorem opm_add : OpM K (rAddX K) o_add := by
  intro w g x y a b ra rb z h Q q
  cases ra with
  | fn _ => first | cases h | cases hh | cases h3
  | dct _ _ => first | cases h | cases hh | cases h3
  | int i => cases rb <;> simp only [o_add] at h <;> try cases h
             exact .inl ⟨_, _, rfl, rfl, out0 g (.int _) rfl q⟩
  | str i => cases rb <;> simp only [o_add] at h <;> try cases h
             split at h
             · rename_i hl
               exact .inr (.inl ⟨_, _, rfl, rfl, Nat.le_trans hl line5, out0 g (.str _) h q⟩)
             · cases h
  | lst l r => cases rb <;> simp only [o_add] at h <;> try cases h
               rename_i l2 r2
               split at h
               · rename_i hl
                 exact .inr (.inr (.inl ⟨_, _, _, _, rfl, rfl, l.sq, l2.sq, by rw [r.length, r2.length]; exact Nat.le_trans hl line5, fun p hp => outL g hp (r.append r2) h q⟩))
               · cases h
  | tup l r => cases rb <;> simp only [o_add] at h <;> try cases h
               rename_i l2 r2
               split at h
               · rename_i hl
                 refine .inr (.inr (.inr ⟨_, _, _, _, rfl, rfl, l.sq, l2.sq, by rw [r.length, r2.length]; exact Nat.le_trans hl line5, fun e => ?_, fun _ e => ?_, fun _ _ p hp => outT g hp (r.append r2) h q⟩))
                 · subst e
                   cases r
                   exact out0 g (.tup l2 r2) h q
                 · subst e
                   cases r2
                   rw [List.append_nil] at h
                   exact out0 g (.tup l r) h q
               · cases h
  | non => cases rb <;> simp only [o_add] at h <;> cases h
  | bl _ => cases rb <;> simp only [o_add] at h <;> cases h

/-! ### == -/
mutual
def D.py : D → PyData
  | .non => .none
  | .bl b => .bool b
  | .int i => .int i
  | .str x => .str x
  | .tup ds => .tuple (D.pys ds)
  | .lst ds => .list (D.pys ds)
  | .fn _ _ => .none
  | .dct _ _ _ => .none
def D.pys : List D → List PyData
  | [] => []
  | d :: ds => D.py d :: D.pys ds
end
mutual
/-- no function in it -/
def D.nf : D → Bool
  | .non => true
  | .bl _ => true
  | .int _ => true
  | .str _ => true
  | .tup ds => D.nfs ds
  | .lst ds => D.nfs ds
  | .fn _ _ => false
  | .dct _ _ _ => false
def D.nfs : List D → Bool
  | [] => true
  | d :: ds => D.nf d && D.nfs ds
end
mutual
theorem Rep.dp : ∀ {d : D} {v : V}, Rep K w v d → d.nf = true → Dp K w.H v d.py
  | .non, _, h, _ => by cases h; exact .non
  | .bl _, _, h, _ => by cases h; exact .bl _
  | .int _, _, h, _ => by cases h; exact .int _
  | .str _, _, h, _ => by cases h; exact .str _
  | .tup _, _, h, n => by cases h with | tup a b => exact .tup a.sq (Reps.dp b n)
  | .lst _, _, h, n => by cases h with | lst a b => exact .lst a.sq (Reps.dp b n)
  | .fn _ _, _, _, n => by cases n
  | .dct _ _ _, _, _, n => by cases n
theorem Reps.dp : ∀ {ds : List D} {vs : List V}, Reps K w vs ds → D.nfs ds = true → DpAll K w.H vs (D.pys ds)
  | [], _, h, _ => by cases h; exact .nil
  | _ :: _, _, h, n => by
    cases h with
    | cons a b =>
      have n' := Bool.and_eq_true_iff.mp (show (D.nf _ && D.nfs _) = true from n)
      exact .cons (Rep.dp a n'.1) (Reps.dp b n'.2)
end
/-- what == can tell -/
def D.ok (d : D) : Bool := d.nf && SeqAt.shaped d.py
theorem ok_nf {d : D} (h : d.ok = true) : d.nf = true := (Bool.and_eq_true_iff.mp h).1
theorem ok_sh {d : D} (h : d.ok = true) : SeqAt.shaped d.py = true := (Bool.and_eq_true_iff.mp h).2
def D.eqv (a b : D) : Bool := PyData.eqv a.py b.py
def o_eq (a b : D) : Option R := if a.ok = true ∧ b.ok = true then some (.val (.bl (a.eqv b))) else none
def o_ne (a b : D) : Option R := if a.ok = true ∧ b.ok = true then some (.val (.bl (!a.eqv b))) else none
theorem opm_eq : OpM K (rEqD K) o_eq := by
  intro w g x y a b ra rb z h Q q
  unfold o_eq at h
  split at h
  · rename_i hc
    exact ⟨_, _, ra.dp (ok_nf hc.1), rb.dp (ok_nf hc.2), ok_sh hc.1, ok_sh hc.2, out0 g (.bl _) h q⟩
  · cases h
theorem opm_ne : OpM K (rNeD K) o_ne := by
  intro w g x y a b ra rb z h Q q
  unfold o_ne at h
  split at h
  · rename_i hc
    exact ⟨_, _, ra.dp (ok_nf hc.1), rb.dp (ok_nf hc.2), ok_sh hc.1, ok_sh hc.2, out0 g (.bl _) h q⟩
  · cases h

/-! ### <, is -/
abbrev o_lt : D → D → Option R := o_I fun i j => .bl (decide (i < j))
abbrev o_le : D → D → Option R := o_I fun i j => .bl (decide (i ≤ j))
abbrev o_gt : D → D → Option R := o_I fun i j => .bl (decide (j < i))
abbrev o_ge : D → D → Option R := o_I fun i j => .bl (decide (j ≤ i))
def D.isNon : D → Bool
  | .non => true
  | _ => false
def o_is : D → D → Option R
  | a, .non => some (.val (.bl a.isNon))
  | .bl a, .bl b => some (.val (.bl (decide (a = b))))
  | _, _ => none
def o_isnt : D → D → Option R
  | a, .non => some (.val (.bl (!a.isNon)))
  | .bl a, .bl b => some (.val (.bl (!decide (a = b))))
  | _, _ => none
def rIsX : R2 := fun x y H Q => (y = .non ∧ Q (.bl (decide (x = .non))) H) ∨ rIsB x y H Q
def rNotX : R2 := fun x y H Q => (y = .non ∧ Q (.bl (!decide (x = .non))) H) ∨ rNotB x y H Q
theorem op_isX {X : Cx} : OpR X (compareOp .Is) rIsX := op_isN.or op_isBl
theorem op_notX {X : Cx} : OpR X (compareOp .IsNot) rNotX := op_notN.or op_notBl
theorem Rep.isNon {v : V} {d : D} (r : Rep K w v d) : decide (v = .non) = d.isNon := by
  cases r <;> simp [D.isNon]
theorem opm_is : OpM K rIsX o_is := by
  intro w g x y a b ra rb z h Q q
  have hn := ra.isNon
  cases rb with
  | fn _ => first | cases h | cases hh | cases h3
  | dct _ _ => first | cases h | cases hh | cases h3
  | non =>
    have h' : some (R.val (.bl a.isNon)) = some z := by cases a <;> exact h
    exact .inl ⟨rfl, by rw [hn]; exact out0 g (.bl _) h' q⟩
  | bl b => cases ra <;> simp only [o_is] at h <;> try cases h
            exact .inr ⟨_, _, rfl, rfl, out0 g (.bl _) rfl q⟩
  | int _ => cases a <;> cases h
  | str _ => cases a <;> cases h
  | tup _ _ => cases a <;> cases h
  | lst _ _ => cases a <;> cases h
theorem opm_isnt : OpM K rNotX o_isnt := by
  intro w g x y a b ra rb z h Q q
  have hn := ra.isNon
  cases rb with
  | fn _ => first | cases h | cases hh | cases h3
  | dct _ _ => first | cases h | cases hh | cases h3
  | non =>
    have h' : some (R.val (.bl (!a.isNon))) = some z := by cases a <;> exact h
    exact .inl ⟨rfl, by rw [hn]; exact out0 g (.bl _) h' q⟩
  | bl b => cases ra <;> simp only [o_isnt] at h <;> try cases h
            exact .inr ⟨_, _, rfl, rfl, out0 g (.bl _) rfl q⟩
  | int _ => cases a <;> cases h
  | str _ => cases a <;> cases h
  | tup _ _ => cases a <;> cases h
  | lst _ _ => cases a <;> cases h

/-! ### in -/
def o_in (a : D) : D → Option R
  | .lst ds => if a.ok = true ∧ (D.lst ds).ok = true then some (.val (.bl (ds.any fun z => z.eqv a))) else none
  | _ => none
def o_notin (a : D) : D → Option R
  | .lst ds => if a.ok = true ∧ (D.lst ds).ok = true then some (.val (.bl (!ds.any fun z => z.eqv a))) else none
  | _ => none
theorem pys_any (a : PyData) : ∀ ds : List D, (D.pys ds).any (fun z => PyData.eqv z a) = ds.any fun z => PyData.eqv z.py a
  | [] => rfl
  | d :: ds => by simp only [D.pys, List.any_cons, pys_any a ds]
theorem opm_in : OpM K (rInD K) o_in := by
  intro w g x y a b ra rb z h Q q
  cases rb with
  | fn _ => first | cases h | cases hh | cases h3
  | dct _ _ => first | cases h | cases hh | cases h3
  | lst l r =>
    simp only [o_in] at h
    split at h
    · rename_i hc
      refine ⟨_, _, ra.dp (ok_nf hc.1), (Rep.lst l r).dp (ok_nf hc.2), ok_sh hc.1, ok_sh hc.2, ?_⟩
      have e := pys_any a.py
      rw [e]
      exact out0 g (.bl _) h q
    · cases h
  | non => cases h
  | bl _ => cases h
  | int _ => cases h
  | str _ => cases h
  | tup _ _ => cases h
theorem opm_notin : OpM K (rNotInD K) o_notin := by
  intro w g x y a b ra rb z h Q q
  cases rb with
  | fn _ => first | cases h | cases hh | cases h3
  | dct _ _ => first | cases h | cases hh | cases h3
  | lst l r =>
    simp only [o_notin] at h
    split at h
    · rename_i hc
      refine ⟨_, _, ra.dp (ok_nf hc.1), (Rep.lst l r).dp (ok_nf hc.2), ok_sh hc.1, ok_sh hc.2, ?_⟩
      have e := pys_any a.py
      rw [e]
      exact out0 g (.bl _) h q
    · cases h
  | non => cases h
  | bl _ => cases h
  | int _ => cases h
  | str _ => cases h
  | tup _ _ => cases h

/-! ### items, slices -/
theorem Reps.at {vs : List V} {ds : List D} {i : Int} {d : D} (r : Reps K w vs ds) (h : atI ds i = some d) : ∃ v, atI vs i = some v ∧ Rep K w v d := by
  obtain ⟨j, h1, h2⟩ := Option.bind_eq_some_iff.mp h
  obtain ⟨v, h3, h4⟩ := r.get h2
  refine ⟨v, ?_, h4⟩
  unfold atI
  rw [r.length, h1]
  exact h3
def o_ix : D → D → Option R
  | .lst ds, .int i => (atI ds i).bind fun d => some (.val d)
  | .tup ds, .int i => (atI ds i).bind fun d => some (.val d)
  | .str x, .int i => if x.length ≤ 100000 then (atI x.cps.toList i).bind fun c => some (.val (.str ⟨#[c]⟩)) else none
  | _, _ => none
theorem opm_ix : OpM K (rIx K) o_ix := by
  intro w g x y a b ra rb z h Q q
  cases rb with
  | fn _ => cases a <;> cases h
  | dct _ _ => cases a <;> cases h
  | int i =>
    cases ra with
    | fn _ => first | cases h | cases hh | cases h3
    | dct _ _ => first | cases h | cases hh | cases h3
    | lst l r =>
      simp only [o_ix] at h
      obtain ⟨d, h1, h⟩ := Option.bind_eq_some_iff.mp h
      obtain ⟨v, h2, h3⟩ := r.at h1
      exact .inl ⟨_, _, i, v, rfl, rfl, l.sq, h2, out0 g h3 h q⟩
    | tup l r =>
      simp only [o_ix] at h
      obtain ⟨d, h1, h⟩ := Option.bind_eq_some_iff.mp h
      obtain ⟨v, h2, h3⟩ := r.at h1
      exact .inr (.inl ⟨_, _, i, v, rfl, rfl, l.sq, h2, out0 g h3 h q⟩)
    | str x =>
      simp only [o_ix] at h
      split at h
      · rename_i hl
        obtain ⟨c, h1, h⟩ := Option.bind_eq_some_iff.mp h
        exact .inr (.inr ⟨_, i, c, rfl, rfl, Nat.le_trans hl line5, h1, out0 g (.str _) h q⟩)
      · cases h
    | non => cases h
    | bl _ => cases h
    | int _ => cases h
  | non => cases ra <;> cases h
  | bl _ => cases ra <;> cases h
  | str _ => cases ra <;> cases h
  | tup _ _ => cases ra <;> cases h
  | lst _ _ => cases ra <;> cases h
/-- parts of a slice -/
abbrev Eo := List Sl → Option (Option Int × List Sl)
def OM (K : PySem.W.Frag) (to : TO) (f : Eo) : Prop := ∀ w0 w σ env, EnvOk K w0 w σ env → ∀ o env', f env = some (o, env') →
  ∀ Q : Option Int → Hp → Prop, (∀ w', EnvOk K w0 w' σ env' → Step w w' → Q o w'.H) → to σ w.H Q
def p_no : Eo := fun env => some (none, env)
def p_at (f : Ex) : Eo := fun env => (vf f env).bind fun p => match p.1 with
  | .int i => some (some i, p.2)
  | _ => none
theorem om_no : OM K tNoPart p_no := fun w0 w σ env e o env' h Q q => by cases h; exact q w e (.refl w)
theorem om_at {te : TE} {f : Ex} (hf : EM K te f) : OM K (tPart te) (p_at f) := by
  intro w0 w σ env e o env' h Q q
  obtain ⟨⟨x, e1⟩, h1, h⟩ := Option.bind_eq_some_iff.mp h
  refine hf.v w0 w σ env e x e1 h1 _ fun v w1 E1 s1 r1 => ?_
  cases r1 with
  | fn _ => first | cases h | cases hh | cases h3
  | dct _ _ => first | cases h | cases hh | cases h3
  | int i => cases h; exact ⟨i, rfl, q w1 E1 s1⟩
  | non => cases h
  | bl _ => cases h
  | str _ => cases h
  | tup _ _ => cases h
  | lst _ _ => cases h
def cutL {α : Type} (xs : List α) (lo hi : Option Int) : List α := (xs.drop (HT.sIx xs.length 0 lo)).take (HT.sIx xs.length xs.length hi - HT.sIx xs.length 0 lo)
theorem Reps.cut {vs : List V} {ds : List D} (r : Reps K w vs ds) (lo hi : Option Int) : Reps K w (cutV vs lo hi) (cutL ds lo hi) := by
  unfold cutV cutL
  rw [r.length]
  exact (r.drop _).take _
def o_sl (d : D) (lo hi : Option Int) : Option R := match d with
  | .lst ds => some (.own (.lst (cutL ds lo hi)))
  | .tup ds => some (.val (.tup (cutL ds lo hi)))
  | _ => none
def rSlX (K : PySem.W.Frag) : V → Option Int → Option Int → Hp → VK → Prop := fun x lo hi H Q => rSlL K x lo hi H Q ∨ rSlA K x lo hi H Q
theorem sl_X {X : Cx} : SlR X (rSlX X.K) := sl_list.or sl_tupA
def e_sl (f : Ex) (l h : Eo) : Ex := fun env => (vf f env).bind fun p => (l p.2).bind fun q => (h q.2).bind fun u => (o_sl p.1 q.1 u.1).bind fun z => some (z, u.2)
omit [FnTab] in
theorem cutL_all {α : Type} {xs : List α} {lo hi : Option Int} (h : HT.sIx xs.length 0 lo = 0 ∧ HT.sIx xs.length xs.length hi = xs.length) : cutL xs lo hi = xs := by
  unfold cutL
  rw [h.1, h.2, List.drop_zero, Nat.sub_zero, List.take_length]
theorem em_sl {te : TE} {tl th : TO} {f : Ex} {l u : Eo} (hf : EM K te f) (hl : OM K tl l) (hu : OM K th u) : EM K (tSl (rSlX K) te tl th) (e_sl f l u) := by
  intro w0 w σ env e z env' h Q q
  obtain ⟨⟨x, e1⟩, h1, h⟩ := Option.bind_eq_some_iff.mp h
  obtain ⟨⟨lo, e2⟩, h2, h⟩ := Option.bind_eq_some_iff.mp h
  obtain ⟨⟨hi, e3⟩, h3, h⟩ := Option.bind_eq_some_iff.mp h
  obtain ⟨z', h4, h⟩ := Option.bind_eq_some_iff.mp h
  cases h
  refine hf.v w0 w σ env e x e1 h1 _ fun v w1 E1 s1 r1 => ?_
  refine hl w0 w1 σ e1 E1 lo e2 h2 _ fun w2 E2 s2 => ?_
  refine hu w0 w2 σ e2 E2 hi _ h3 _ fun w3 E3 s3 => ?_
  have r3 := r1.go E1.good (s2.trans s3)
  have fin : ∀ v w', PStep w3 w' → Good w' → RepZ K w3 w' v z → Q v w'.H := fun v w' s g r => q v w' (E3.grow s g) (((s1.trans s2).trans s3).trans s.step) (r.r E3)
  cases r3 with
  | fn _ => first | cases h | cases hh | cases h3
  | dct _ _ => first | cases h | cases hh | cases h3
  | lst l r => exact .inl ⟨_, _, rfl, l.sq, fun p hp => outL E3.good hp (r.cut lo hi) h4 fin⟩
  | tup l r =>
    refine .inr ⟨_, _, rfl, l.sq, fun hw => ?_, fun hw p hp => outT E3.good hp (r.cut lo hi) h4 fin⟩
    rw [r.length] at hw
    simp only [o_sl, cutL_all hw] at h4
    exact out0 E3.good (.tup l r) h4 fin
  | non => cases h4
  | bl _ => cases h4
  | int _ => cases h4
  | str _ => cases h4

/-! ### built-in functions -/
def f1 (op : D → Option R) : List D → Option R
  | [d] => op d
  | _ => none
def f2 (op : D → D → Option R) : List D → Option R
  | [a, b] => op a b
  | _ => none
theorem clm_1 {r : List V → Hp → VK → Prop} {op : D → Option R} (h : ∀ w, Good w → ∀ x a, Rep K w x a → ∀ z, op a = some z → ∀ Q : VK, (∀ v w', PStep w w' → Good w' → RepZ K w w' v z → Q v w'.H) → r [x] w.H Q) : ClM K r (f1 op) := by
  intro w g xs as ra z hz Q q
  cases ra with
  | nil => cases hz
  | cons h1 t =>
    cases t with
    | nil => exact h w g _ _ h1 z hz Q q
    | cons _ _ => cases hz
theorem clm_2 {r : List V → Hp → VK → Prop} {op : D → D → Option R} (h : ∀ w, Good w → ∀ x y a b, Rep K w x a → Rep K w y b → ∀ z, op a b = some z → ∀ Q : VK, (∀ v w', PStep w w' → Good w' → RepZ K w w' v z → Q v w'.H) → r [x, y] w.H Q) : ClM K r (f2 op) := by
  intro w g xs as ra z hz Q q
  cases ra with
  | nil => cases hz
  | cons h1 t =>
    cases t with
    | nil => cases hz
    | cons h2 t =>
      cases t with
      | nil => exact h w g _ _ _ _ h1 h2 z hz Q q
      | cons _ _ => cases hz
def o_abs : D → Option R
  | .int i => some (.val (.int (if i < 0 then -i else i)))
  | _ => none
theorem cl_abs : ClM K (fun xs H Q => ∃ i, xs = [.int i] ∧ Q (.int (if i < 0 then -i else i)) H) (f1 o_abs) := by
  refine clm_1 fun w g x a r z h Q q => ?_
  cases r <;> try cases h
  exact ⟨_, rfl, out0 g (.int _) rfl q⟩
def o_int : D → Option R
  | .int i => some (.val (.int i))
  | .bl b => some (.val (.int (if b then 1 else 0)))
  | _ => none
theorem cl_int : ClM K (fun xs H Q => (∃ i, xs = [.int i] ∧ Q (.int i) H) ∨ ∃ k, xs = [.bl k] ∧ Q (.int (if k then 1 else 0)) H) (f1 o_int) := by
  refine clm_1 fun w g x a r z h Q q => ?_
  cases r <;> try cases h
  · exact .inr ⟨_, rfl, out0 g (.int _) rfl q⟩
  · exact .inl ⟨_, rfl, out0 g (.int _) rfl q⟩
def o_max2 : D → D → Option R
  | .int i, .int j => some (.val (.int (if j > i then j else i)))
  | _, _ => none
def o_min2 : D → D → Option R
  | .int i, .int j => some (.val (.int (if j < i then j else i)))
  | _, _ => none
theorem cl_max2 : ClM K (fun xs H Q => ∃ i j, xs = [.int i, .int j] ∧ Q (.int (if j > i then j else i)) H) (f2 o_max2) := by
  refine clm_2 fun w g x y a b ra rb z h Q q => ?_
  cases ra <;> cases rb <;> try cases h
  exact ⟨_, _, rfl, out0 g (.int _) rfl q⟩
theorem cl_min2 : ClM K (fun xs H Q => ∃ i j, xs = [.int i, .int j] ∧ Q (.int (if j < i then j else i)) H) (f2 o_min2) := by
  refine clm_2 fun w g x y a b ra rb z h Q q => ?_
  cases ra <;> cases rb <;> try cases h
  exact ⟨_, _, rfl, out0 g (.int _) rfl q⟩
def o_len : D → Option R
  | .lst ds => some (.val (.int ds.length))
  | .tup ds => some (.val (.int ds.length))
  | .str x => if x.length ≤ 100000 then some (.val (.int x.length)) else none
  | _ => none
theorem cl_len : ClM K (fun xs H Q => ∃ x n, xs = [x] ∧ LenV K x H n ∧ Q (.int n) H) (f1 o_len) := by
  refine clm_1 fun w g x a r z h Q q => ?_
  cases r with
  | fn _ => first | cases h | cases hh | cases h3
  | dct _ _ => first | cases h | cases hh | cases h3
  | lst l r => exact ⟨_, _, rfl, .inl ⟨_, l.sq, r.length.symm⟩, out0 g (.int _) h q⟩
  | tup l r => exact ⟨_, _, rfl, .inr ⟨_, l.sq, r.length.symm⟩, out0 g (.int _) h q⟩
  | str x =>
    simp only [o_len] at h
    split at h
    · rename_i hl
      exact ⟨_, x.length, rfl, ⟨Nat.le_trans hl line5, rfl⟩, out0 g (.int _) h q⟩
    · cases h
  | non => cases h
  | bl _ => cases h
  | int _ => cases h
def o_list : D → Option R
  | .lst ds => some (.own (.lst ds))
  | .tup ds => some (.own (.lst ds))
  | _ => none
def o_tuple : D → Option R
  | .lst ds => some (.val (.tup ds))
  | .tup ds => some (.val (.tup ds))
  | _ => none
theorem cl_list : ClM K (fun xs H Q => ∃ p ys, xs = [.ref p] ∧ (SqL K H p ys ∨ SqT K H p ys) ∧ ∀ l, H l = none → Q (.ref l) (upd H l (.lst ys))) (f1 o_list) := by
  refine clm_1 fun w g x a r z h Q q => ?_
  cases r with
  | fn _ => first | cases h | cases hh | cases h3
  | dct _ _ => first | cases h | cases hh | cases h3
  | lst l r => exact ⟨_, _, rfl, .inl l.sq, fun p hp => outL g hp r h q⟩
  | tup l r => exact ⟨_, _, rfl, .inr l.sq, fun p hp => outL g hp r h q⟩
  | str _ => cases h
  | non => cases h
  | bl _ => cases h
  | int _ => cases h
theorem cl_tuple : ClM K (fun xs H Q => ∃ p ys, xs = [.ref p] ∧ ((SqL K H p ys ∧ ∀ l, H l = none → Q (.ref l) (upd H l (.tup ys))) ∨ (SqT K H p ys ∧ Q (.ref p) H))) (f1 o_tuple) := by
  refine clm_1 fun w g x a r z h Q q => ?_
  cases r with
  | fn _ => first | cases h | cases hh | cases h3
  | dct _ _ => first | cases h | cases hh | cases h3
  | lst l r => exact ⟨_, _, rfl, .inl ⟨l.sq, fun p hp => outT g hp r h q⟩⟩
  | tup l r => exact ⟨_, _, rfl, .inr ⟨l.sq, out0 g (.tup l r) h q⟩⟩
  | str _ => cases h
  | non => cases h
  | bl _ => cases h
  | int _ => cases h
def o_str : D → Option R
  | .int i => if i.natAbs.log2 < 1920 then some (.val (.str (toString i))) else none
  | _ => none
theorem cl_str : ClM K (fun xs H Q => ∃ i, xs = [.int i] ∧ i.natAbs.log2 < 1920 ∧ Q (.str (toString i)) H) (f1 o_str) := by
  refine clm_1 fun w g x a r z h Q q => ?_
  cases r with
  | fn _ => first | cases h | cases hh | cases h3
  | dct _ _ => first | cases h | cases hh | cases h3
  | int i =>
    simp only [o_str] at h
    split at h
    · rename_i hl
      exact ⟨_, rfl, hl, out0 g (.str _) h q⟩
    · cases h
  | lst _ _ => cases h
  | tup _ _ => cases h
  | str _ => cases h
  | non => cases h
  | bl _ => cases h
def o_neg : D → Option R
  | .int i => some (.val (.int (-i)))
  | _ => none
theorem un_neg' : UnM K (rU fun i => .int (-i)) o_neg := by
  intro w g x a r z h Q q
  cases r <;> try cases h
  exact ⟨_, rfl, out0 g (.int _) rfl q⟩
/-- any, all of a list of truths -/
def bls : List D → Option (List Bool)
  | [] => some []
  | .bl b :: ds => (bls ds).bind fun bs => some (b :: bs)
  | _ :: _ => none
theorem bls_of : ∀ {ds : List D} {vs : List V} {bs : List Bool}, Reps K w vs ds → bls ds = some bs → vs = bs.map V.bl
  | [], _, _, r, h => by cases r; cases h; rfl
  | d :: ds, _, _, r, h => by
    cases r with
    | cons r1 r2 =>
      cases r1 with
      | fn _ => first | cases h | cases hh | cases h3
      | dct _ _ => first | cases h | cases hh | cases h3
      | bl b =>
        obtain ⟨bs', h1, h2⟩ := Option.bind_eq_some_iff.mp h
        cases h2
        rw [bls_of r2 h1]
        rfl
      | non => cases h
      | int _ => cases h
      | str _ => cases h
      | tup _ _ => cases h
      | lst _ _ => cases h
def o_any : D → Option R
  | .lst ds => (bls ds).bind fun bs => some (.val (.bl (bs.any id)))
  | _ => none
def o_all : D → Option R
  | .lst ds => (bls ds).bind fun bs => some (.val (.bl (bs.all id)))
  | _ => none
theorem cl_any : ClM K (rAny K) (f1 o_any) := by
  refine clm_1 fun w g x a r z h Q q => ?_
  cases r with
  | fn _ => first | cases h | cases hh | cases h3
  | dct _ _ => first | cases h | cases hh | cases h3
  | lst l r =>
    obtain ⟨bs, h1, h⟩ := Option.bind_eq_some_iff.mp h
    have e := bls_of r h1
    subst e
    exact ⟨_, bs, rfl, l.sq, out0 g (.bl _) h q⟩
  | non => cases h
  | bl _ => cases h
  | int _ => cases h
  | str _ => cases h
  | tup _ _ => cases h
theorem cl_all : ClM K (rAll K) (f1 o_all) := by
  refine clm_1 fun w g x a r z h Q q => ?_
  cases r with
  | fn _ => first | cases h | cases hh | cases h3
  | dct _ _ => first | cases h | cases hh | cases h3
  | lst l r =>
    obtain ⟨bs, h1, h⟩ := Option.bind_eq_some_iff.mp h
    have e := bls_of r h1
    subst e
    exact ⟨_, bs, rfl, l.sq, out0 g (.bl _) h q⟩
  | non => cases h
  | bl _ => cases h
  | int _ => cases h
  | str _ => cases h
  | tup _ _ => cases h
/-- isinstance by a built-in type -/
def D.typ : D → String
  | .non => "NoneType"
  | .bl _ => "bool"
  | .int _ => "int"
  | .str _ => "str"
  | .tup _ => "tuple"
  | .lst _ => "list"
  | .fn _ _ => "function"
  | .dct _ _ _ => "dict"
theorem Rd.tyx {a : Addr} {xs : List V} (h : Rd w.H a (.lst xs)) : TyX K w.H (.ref a) (.type "list") := by
  rcases h with h | ⟨o, h⟩
  · exact .base (.lst h)
  · exact .base (.frz h)
theorem Rd.tyxT {a : Addr} {xs : List V} (h : Rd w.H a (.tup xs)) : TyX K w.H (.ref a) (.type "tuple") := by
  rcases h with h | ⟨o, h⟩
  · exact .base (.tup h)
  · exact .fTuple h
def D.isFn : D → Bool
  | .fn _ _ => true
  | .dct _ _ _ => true
  | _ => false
theorem Rep.tyx {v : V} {d : D} (r : Rep K w v d) (hn : d.isFn = false) : TyX K w.H v (.type d.typ) := by
  cases r with
  | fn _ => cases hn
  | dct _ _ => cases hn
  | non => exact .base .non
  | bl b => exact .base (.bl b)
  | int i => exact .base (.int i)
  | str x => exact .base (.str x)
  | tup l _ => exact Vz.Rd.tyxT l.1
  | lst l _ =>
    rcases l with l | ⟨o, its, n, h1, h2, _⟩
    · exact Vz.Rd.tyx l.1
    · exact .kList h1 h2
def o_isi (T : String) (d : D) : Option R := if d.isFn = false then (kitB d.typ T).bind fun b => some (.val (.bl b)) else none
theorem em_isi {ta : TE} {f : Ex} {T : String} (hf : EM K ta f) : EM K (tCB (rIsi K) (tCons ta (tCons (tC (.ty T)) tNil))) (e1 (o_isi T) f) := by
  intro w0 w σ env e z env' h Q q
  obtain ⟨⟨x, e1⟩, h1, h⟩ := Option.bind_eq_some_iff.mp h
  obtain ⟨z', h3, h⟩ := Option.bind_eq_some_iff.mp h
  cases h
  refine hf.v w0 w σ env e x _ h1 _ fun v w1 E1 s1 r1 => ?_
  unfold o_isi at h3
  split at h3
  case isFalse => cases h3
  rename_i hn
  obtain ⟨b, h4, h5⟩ := Option.bind_eq_some_iff.mp h3
  refine ⟨v, .ty T, _, _, b, rfl, .ty T, r1.tyx hn, kit_ty h4, ?_⟩
  exact out0 E1.good (.bl b) h5 fun v w' s g r => q v w' (E1.grow s g) (s1.trans s.step) (r.r E1)
end
end Vz
set_option maxRecDepth 100000
set_option maxHeartbeats 1000000
namespace Vz
open PySem PySem.Spec PyProof.Rows L2
variable [FnTab]
section
variable {K : PySem.W.Frag} {w w' w1 w2 : Wd} {w0 : W0} {σ : L2.St} {env env' env1 : List Sl}

/-! ### stores -/
def R.sl : R → Sl
  | .val d => .val d
  | .own o => .own o
theorem EnvOk.store {i : Nat} {v : V} {r : R} (e : EnvOk K w0 w σ env) (hi : i < env.length) (hn : ∀ o : Ow, env[i]? ≠ some (Sl.arg o)) (hr : RepR K w0 w σ env v r) : EnvOk K w0 w (σ.set i (some v)) (env.set i r.sl) := by
  have hiσ : i < σ.length := by rw [e.len]; exact hi
  have key : ∀ (j : Nat) (y : Sl), (env.set i r.sl)[j]? = some y → (j ≠ i ∧ env[j]? = some y ∧ (σ.set i (some v))[j]? = σ[j]?) ∨ (j = i ∧ y = r.sl ∧ (σ.set i (some v))[j]? = some (some v)) := fun j y h => by
    by_cases hj : j = i
    · subst hj
      rw [List.getElem?_set_self hi] at h
      cases h
      exact .inr ⟨rfl, rfl, by rw [List.getElem?_set_self hiσ]⟩
    · rw [get_set_ne (Ne.symm hj)] at h
      exact .inl ⟨hj, h, by rw [get_set_ne (Ne.symm hj)]⟩
  have keyO : ∀ (j : Nat) (a : Addr), isO (env.set i r.sl)[j]? = true → (σ.set i (some v))[j]? = some (some (V.ref a)) →
      (j ≠ i ∧ isO env[j]? = true ∧ σ[j]? = some (some (V.ref a))) ∨ (j = i ∧ ∀ k : Nat, isO env[k]? = true → σ[k]? ≠ some (some (V.ref a))) := fun j a h h2 => by
    cases q : (env.set i r.sl)[j]? with
    | none => rw [q] at h; cases h
    | some y =>
      rcases key j y q with ⟨k1, k2, k3⟩ | ⟨k1, k2, k3⟩
      · refine .inl ⟨k1, ?_, by rw [← k3]; exact h2⟩
        rw [q] at h; rw [k2]; exact h
      · refine .inr ⟨k1, ?_⟩
        rw [k3] at h2
        cases h2
        cases r with
        | val d => rw [q, k2] at h; cases h
        | own o =>
          obtain ⟨a', ea, _, _, h4⟩ := hr
          cases ea
          exact h4
  refine ⟨e.g0, e.good, e.st, by rw [List.length_set, List.length_set]; exact e.len, fun j d h => ?_, fun j o h => ?_, fun j o h => ?_, fun j k a h1 h2 h3 h4 => ?_, fun p hp => ?_⟩
  · rcases key j _ h with ⟨k1, k2, k3⟩ | ⟨k1, k2, k3⟩
    · rw [k3]; exact e.val j d k2
    · cases r with
      | val d' => cases k2; exact ⟨v, k3, hr⟩
      | own o => cases k2
  · rcases key j _ h with ⟨k1, k2, k3⟩ | ⟨k1, k2, k3⟩
    · rw [k3]; exact e.own j o k2
    · cases r with
      | val d' => cases k2
      | own o' =>
        cases k2
        obtain ⟨a, rfl, h2, h3, _⟩ := hr
        exact ⟨a, k3, h2, h3⟩
  · rcases key j _ h with ⟨k1, k2, k3⟩ | ⟨k1, k2, k3⟩
    · rw [k3]; exact e.arg j o k2
    · cases r <;> cases k2
  · rcases keyO j a h1 h3 with ⟨p1, p2, p3⟩ | ⟨p1, p2⟩
    · rcases keyO k a h2 h4 with ⟨q1, q2, q3⟩ | ⟨q1, q2⟩
      · exact e.inj j k a p2 q2 p3 q3
      · exact absurd p3 (q2 j p2)
    · rcases keyO k a h2 h4 with ⟨q1, q2, q3⟩ | ⟨q1, q2⟩
      · exact absurd q3 (p2 k q2)
      · rw [p1, q1]
  · obtain ⟨h1, o, h2⟩ := e.pin p hp
    have ne : i ≠ p.1 := fun z => hn o (by rw [z]; exact h2)
    rw [get_set_ne ne, get_set_ne ne]
    exact ⟨h1, o, h2⟩
/-- which object a slot owns -/
def owOf : Option Sl → Option Ow
  | some (.own o) => some o
  | some (.arg o) => some o
  | _ => none
/-- the same slot with another content -/
def Sl.kin : Sl → Ow → Sl
  | .own _, o => .own o
  | .arg _, o => .arg o
  | s, _ => s
def putOw (env : List Sl) (i : Nat) (o : Ow) : List Sl := match env[i]? with
  | some s => env.set i (s.kin o)
  | none => env
theorem EnvOk.write {i : Nat} {ds ds' : List D} {a : Addr} {xs' : List V} (e : EnvOk K w0 w σ env) (ho : owOf env[i]? = some (.lst ds)) (ha : σ[i]? = some (some (V.ref a))) (r : Reps K w xs' ds') :
    EnvOk K w0 { w with H := upd w.H a (.lst xs') } σ (putOw env i (.lst ds')) ∧ Step w { w with H := upd w.H a (.lst xs') } := by
  have hO : isO env[i]? = true := by
    cases q : env[i]? with
    | none => rw [q] at ho; cases ho
    | some s => cases s <;> rw [q] at ho <;> first | rfl | cases ho
  obtain ⟨a', o', h1, ⟨h2, hnb⟩, h3⟩ := e.owned hO
  rw [ha] at h1
  cases h1
  have eo : o' = .lst ds := by
    rcases h3 with h3 | h3 <;> rw [h3] at ho <;> exact Option.some.inj ho
  subst eo
  obtain ⟨xs, hx, rx⟩ := h2.is
  have s : Step w { w with H := upd w.H a (.lst xs') } := ⟨fun b o hw h => by
      have nb : b ≠ a := fun z => hw (by rw [z]; exact h2.wa)
      show upd w.H a _ b = _
      rw [upd_ne nb]; exact h,
    fun b h => by
      show upd w.H a _ b ≠ none
      by_cases hb : b = a
      · subst hb; rw [upd_same]; exact fun z => nomatch z
      · rw [upd_ne hb]; exact h, fun _ h => .inl h, fun _ h => h, fun _ h => .inl h⟩
  refine ⟨?_, s⟩
  have kin : ∀ (j : Nat) (y : Sl), (putOw env i (.lst ds'))[j]? = some y → (j ≠ i ∧ env[j]? = some y) ∨ (j = i ∧ ∃ s, env[i]? = some s ∧ y = s.kin (.lst ds') ∧ (s = .own (.lst ds) ∨ s = .arg (.lst ds))) := fun j y h => by
    unfold putOw at h
    cases q : env[i]? with
    | none => rw [q] at hO; cases hO
    | some s =>
      rw [q] at h
      by_cases hj : j = i
      · subst hj
        rw [get_set_eq q] at h
        cases h
        refine .inr ⟨rfl, s, rfl, rfl, ?_⟩
        rcases h3 with h3 | h3 <;> rw [q] at h3 <;> cases h3
        · exact .inl rfl
        · exact .inr rfl
      · simp only at h
        rw [get_set_ne (Ne.symm hj)] at h
        exact .inl ⟨hj, h⟩
  have kinO : ∀ j : Nat, isO (putOw env i (.lst ds'))[j]? = true → isO env[j]? = true := fun j h => by
    cases q : (putOw env i (.lst ds'))[j]? with
    | none => rw [q] at h; cases h
    | some y =>
      rcases kin j y q with ⟨_, k2⟩ | ⟨k1, s, k2, k3, k4⟩
      · rw [q] at h; rw [k2]; exact h
      · rw [k1]; exact hO
  have other : ∀ {j : Nat} {b : Addr} {o : Ow}, j ≠ i → isO env[j]? = true → σ[j]? = some (some (V.ref b)) → OwAt K w b o → OwAt K { w with H := upd w.H a (.lst xs') } b o := fun {j b o} hj hoj hb h => by
    have nb : b ≠ a := fun z => hj (e.inj j i a hoj hO (by rw [hb, z]) ha)
    exact ⟨h.wa, h.is.go e.good s (upd_ne nb)⟩
  refine ⟨e.g0, ⟨fun p hp => s.trk p (e.good.dom p hp)⟩, e.st.trans s, ?_, fun j d h => ?_, fun j o h => ?_, fun j o h => ?_, fun j k b h1 h2 => e.inj j k b (kinO j h1) (kinO k h2), fun p hp => ?_⟩
  · unfold putOw
    split
    · rw [List.length_set]; exact e.len
    · exact e.len
  · rcases kin j _ h with ⟨_, k2⟩ | ⟨k1, s', k2, k3, k4⟩
    · obtain ⟨v, v1, v2⟩ := e.val j d k2
      exact ⟨v, v1, v2.go e.good s⟩
    · rcases k4 with k4 | k4 <;> subst k4 <;> cases k3
  · rcases kin j _ h with ⟨k1, k2⟩ | ⟨k1, s', k2, k3, k4⟩
    · obtain ⟨b, b1, b2, b3⟩ := e.own j o k2
      exact ⟨b, b1, b2, other k1 (by rw [k2]; rfl) b1 b3⟩
    · subst k1
      rcases k4 with k4 | k4
      · subst k4
        cases k3
        obtain ⟨b, b1, b2, b3⟩ := e.own j _ k2
        rw [ha] at b1
        cases b1
        exact ⟨a, ha, b2, h2.wa, xs', upd_same, r.go e.good s⟩
      · subst k4; cases k3
  · rcases kin j _ h with ⟨k1, k2⟩ | ⟨k1, s', k2, k3, k4⟩
    · obtain ⟨b, b1, b2, b3⟩ := e.arg j o k2
      exact ⟨b, b1, b2, other k1 (by rw [k2]; rfl) b1 b3⟩
    · subst k1
      rcases k4 with k4 | k4
      · subst k4; cases k3
      · subst k4
        cases k3
        obtain ⟨b, b1, b2, b3⟩ := e.arg j _ k2
        rw [ha] at b1
        cases b1
        exact ⟨a, ha, b2, h2.wa, xs', upd_same, r.go e.good s⟩
  · obtain ⟨h1, o, h4⟩ := e.pin p hp
    refine ⟨h1, ?_⟩
    by_cases hj : p.1 = i
    · rw [hj] at h4 ⊢
      unfold putOw
      rw [h4]
      exact ⟨_, get_set_eq h4⟩
    · refine ⟨o, ?_⟩
      unfold putOw
      cases q : env[i]? with
      | none => exact h4
      | some s' =>
        show (env.set i _)[p.1]? = _
        rw [get_set_ne (Ne.symm hj)]
        exact h4

/-! ### statements -/
inductive Out where
  | nx (env : List Sl) | rt (r : R) (env : List Sl) | bk (env : List Sl) | ct (env : List Sl)
abbrev Cm := List Sl → Option Out
def OutK (K : PySem.W.Frag) (w0 : W0) (w : Wd) (D : Ends) : Out → Prop
  | .nx e => ∀ w' σ', EnvOk K w0 w' σ' e → Step w w' → D.nx σ' w'.H
  | .bk e => ∀ w' σ', EnvOk K w0 w' σ' e → Step w w' → D.bk σ' w'.H
  | .ct e => ∀ w' σ', EnvOk K w0 w' σ' e → Step w w' → D.ct σ' w'.H
  | .rt r e => ∀ v w' σ', EnvOk K w0 w' σ' e → Step w w' → RepR K w0 w' σ' e v r → D.rt v w'.H
theorem OutK.go {D : Ends} {o : Out} (h : OutK K w0 w D o) (s : Step w w') : OutK K w0 w' D o := by
  cases o with
  | nx e => exact fun w2 σ2 E s2 => h w2 σ2 E (s.trans s2)
  | bk e => exact fun w2 σ2 E s2 => h w2 σ2 E (s.trans s2)
  | ct e => exact fun w2 σ2 E s2 => h w2 σ2 E (s.trans s2)
  | rt r e => exact fun v w2 σ2 E s2 => h v w2 σ2 E (s.trans s2)
def SM (K : PySem.W.Frag) (ts : TS) (c : Cm) : Prop := ∀ w0 w σ env, EnvOk K w0 w σ env → ∀ o, c env = some o → ∀ D : Ends, OutK K w0 w D o → ts D σ w.H
def c_nx : Cm := fun env => some (.nx env)
def c_bk : Cm := fun env => some (.bk env)
def c_ct : Cm := fun env => some (.ct env)
theorem sm_nx : SM K tNext c_nx := fun w0 w σ env e o h D q => by cases h; exact q w σ e (.refl w)
theorem sm_bk : SM K tBreak c_bk := fun w0 w σ env e o h D q => by cases h; exact q w σ e (.refl w)
theorem sm_ct : SM K tCont c_ct := fun w0 w σ env e o h D q => by cases h; exact q w σ e (.refl w)
def c_seq (a b : Cm) : Cm := fun env => (a env).bind fun o => match o with
  | .nx e => b e
  | o => some o
theorem sm_seq {t u : TS} {a b : Cm} (h1 : SM K t a) (h2 : SM K u b) : SM K (tSeq t u) (c_seq a b) := by
  intro w0 w σ env e o h D q
  obtain ⟨o1, k1, k2⟩ := Option.bind_eq_some_iff.mp h
  refine h1 w0 w σ env e o1 k1 _ ?_
  cases o1 with
  | nx e1 => exact fun w' σ' E s => h2 w0 w' σ' e1 E o k2 D (q.go s)
  | bk e1 => cases k2; exact q
  | ct e1 => cases k2; exact q
  | rt r e1 => cases k2; exact q
def c_ret (f : Ex) : Cm := fun env => (f env).bind fun p => some (.rt p.1 p.2)
theorem sm_ret {te : TE} {f : Ex} (hf : EM K te f) : SM K (tRet te) (c_ret f) := by
  intro w0 w σ env e o h D q
  obtain ⟨⟨r, e1⟩, k1, k2⟩ := Option.bind_eq_some_iff.mp h
  cases k2
  exact hf w0 w σ env e r e1 k1 _ fun v w' E s rr => q v w' σ E s rr
def c_retN : Cm := fun env => some (.rt (.val .non) env)
theorem sm_retN : SM K tRetN c_retN := fun w0 w σ env e o h D q => by cases h; exact q .non w σ e (.refl w) .non
def c_ex (f : Ex) : Cm := fun env => (f env).bind fun p => some (.nx p.2)
theorem sm_ex {te : TE} {f : Ex} (hf : EM K te f) : SM K (tDrop te) (c_ex f) := by
  intro w0 w σ env e o h D q
  obtain ⟨⟨r, e1⟩, k1, k2⟩ := Option.bind_eq_some_iff.mp h
  cases k2
  exact hf w0 w σ env e r e1 k1 _ fun v w' E s rr => q w' σ E s
def c_if (c : Et) (a b : Cm) : Cm := fun env => (c env).bind fun p => if p.1 = true then a p.2 else b p.2
theorem sm_if {t : TT} {tu tw : TS} {c : Et} {a b : Cm} (hc : TM K t c) (ha : SM K tu a) (hb : SM K tw b) : SM K (tIfS t tu tw) (c_if c a b) := by
  intro w0 w σ env e o h D q
  obtain ⟨⟨x, e1⟩, k1, k2⟩ := Option.bind_eq_some_iff.mp h
  refine hc w0 w σ env e x e1 k1 _ fun w1 E1 s1 => ?_
  cases x with
  | true =>
    rw [if_pos rfl] at k2 ⊢
    exact ha w0 w1 σ e1 E1 o k2 D (q.go s1)
  | false =>
    rw [if_neg Bool.false_ne_true] at k2 ⊢
    exact hb w0 w1 σ e1 E1 o k2 D (q.go s1)

/-! ### targets -/
abbrev Tg := R → List Sl → Option (List Sl)
def GM (K : PySem.W.Frag) (g : TG) (t : Tg) : Prop := ∀ w0 w σ env, EnvOk K w0 w σ env → ∀ v r env', RepR K w0 w σ env v r → t r env = some env' →
  ∀ Q : L2.St → Hp → Prop, (∀ w' σ', EnvOk K w0 w' σ' env' → Step w w' → Q σ' w'.H) → g v σ w.H Q
def Sl.isArg : Option Sl → Bool
  | some (.arg _) => true
  | _ => false
def g_n (i : Nat) : Tg := fun r env => if i < env.length ∧ Sl.isArg env[i]? = false then some (env.set i r.sl) else none
theorem isArg_no {x : Option Sl} (h : Sl.isArg x = false) : ∀ o : Ow, x ≠ some (Sl.arg o) := fun o z => by rw [z] at h; cases h
theorem gm_n {i : Nat} : GM K (gName i) (g_n i) := by
  intro w0 w σ env e v r env' rr h Q q
  unfold g_n at h
  split at h
  · rename_i hc
    cases h
    exact q w _ (e.store hc.1 (isArg_no hc.2) rr) (.refl w)
  · cases h
abbrev Tgs := List D → List Sl → Option (List Sl)
def GsM (K : PySem.W.Frag) (g : TGs) (t : Tgs) : Prop := ∀ w0 w σ env, EnvOk K w0 w σ env → ∀ vs ds env', Reps K w vs ds → t ds env = some env' →
  ∀ Q : L2.St → Hp → Prop, (∀ w' σ', EnvOk K w0 w' σ' env' → Step w w' → Q σ' w'.H) → g vs σ w.H Q
def gs_nil : Tgs := fun ds env => match ds with
  | [] => some env
  | _ => none
def gs_cons (t : Tg) (u : Tgs) : Tgs := fun ds env => match ds with
  | d :: r => (t (.val d) env).bind fun e => u r e
  | _ => none
theorem gsm_nil : GsM K gNil gs_nil := by
  intro w0 w σ env e vs ds env' rr h Q q
  cases rr with
  | nil => cases h; exact ⟨rfl, q w σ e (.refl w)⟩
  | cons _ _ => cases h
theorem gsm_cons {g : TG} {gs : TGs} {t : Tg} {u : Tgs} (h1 : GM K g t) (h2 : GsM K gs u) : GsM K (gCons g gs) (gs_cons t u) := by
  intro w0 w σ env e vs ds env' rr h Q q
  cases rr with
  | nil => cases h
  | cons r1 r2 =>
    obtain ⟨e1, k1, k2⟩ := Option.bind_eq_some_iff.mp h
    refine ⟨_, _, rfl, h1 w0 w σ env e _ _ e1 (show RepR K w0 w σ env _ (.val _) from r1) k1 _ fun w1 σ1 E1 s1 => ?_⟩
    exact h2 w0 w1 σ1 e1 E1 _ _ env' (r2.go e.good s1) k2 Q fun w2 σ2 E2 s2 => q w2 σ2 E2 (s1.trans s2)
def g_tup (n : Nat) (u : Tgs) : Tg := fun r env => match r with
  | .val (.tup ds) => if ds.length = n then u ds env else none
  | _ => none
theorem gm_tup {n : Nat} {gs : TGs} {u : Tgs} (h : GsM K gs u) : GM K (gTup K n gs) (g_tup n u) := by
  intro w0 w σ env e v r env' rr hh Q q
  cases r with
  | own o => cases hh
  | val d =>
    have rr' : Rep K w v d := rr
    cases rr' with
    | fn _ => first | cases h | cases hh | cases h3
    | dct _ _ => first | cases h | cases hh | cases h3
    | tup l r =>
      simp only [g_tup] at hh
      split at hh
      · rename_i hl
        exact ⟨_, _, rfl, l.sq, by rw [r.length]; exact hl, h w0 w σ env e _ _ env' r hh Q q⟩
      · cases hh
    | non => cases hh
    | bl _ => cases hh
    | int _ => cases hh
    | str _ => cases hh
    | lst _ _ => cases hh
def c_asg (t : Tg) (f : Ex) : Cm := fun env => (f env).bind fun p => (t p.1 p.2).bind fun e => some (.nx e)
theorem sm_asg {te : TE} {g : TG} {t : Tg} {f : Ex} (hf : EM K te f) (hg : GM K g t) : SM K (tAsg te g) (c_asg t f) := by
  intro w0 w σ env e o h D q
  obtain ⟨⟨r, e1⟩, k1, h⟩ := Option.bind_eq_some_iff.mp h
  obtain ⟨e2, k2, h⟩ := Option.bind_eq_some_iff.mp h
  cases h
  refine hf w0 w σ env e r e1 k1 _ fun v w1 E1 s1 rr => ?_
  exact hg w0 w1 σ e1 E1 v r e2 rr k2 _ fun w2 σ2 E2 s2 => q w2 σ2 E2 (s1.trans s2)
/-- a, b = x, y -/
def c_par (i j : Nat) (f : Ea) : Cm := fun env => (f env).bind fun p => match p.1 with
  | [a, b] => (g_n i (.val a) p.2).bind fun e => (g_n j (.val b) e).bind fun e2 => some (.nx e2)
  | _ => none
theorem sm_par {i j : Nat} {ta : TA} {f : Ea} (ha : AM K ta f) : SM K (tPar i j ta) (c_par i j f) := by
  intro w0 w σ env e o h D q
  obtain ⟨⟨ds, e1⟩, k1, h⟩ := Option.bind_eq_some_iff.mp h
  refine ha w0 w σ env e ds e1 k1 _ fun vs w1 E1 s1 rr => ?_
  match ds, rr, h with
  | [a, b], .cons r1 (.cons r2 .nil), h =>
    obtain ⟨e2, k2, h⟩ := Option.bind_eq_some_iff.mp h
    obtain ⟨e3, k3, h⟩ := Option.bind_eq_some_iff.mp h
    cases h
    refine ⟨_, _, rfl, ?_⟩
    refine gm_n (K := K) w0 w1 σ e1 E1 _ (.val a) e2 r1 k2 (fun σ' H' => D.nx (σ'.set j _) H') fun w2 σ2 E2 s2 => ?_
    exact gm_n (K := K) w0 w2 σ2 e2 E2 _ (.val b) e3 (r2.go E1.good s2) k3 D.nx fun w3 σ3 E3 s3 => q w3 σ3 E3 ((s1.trans s2).trans s3)
/-- a, b, c = x, y, z -/
def c_par3 (i j k : Nat) (f : Ea) : Cm := fun env => (f env).bind fun p => match p.1 with
  | [a, b, c] => (g_n i (.val a) p.2).bind fun e => (g_n j (.val b) e).bind fun e2 => (g_n k (.val c) e2).bind fun e3 => some (.nx e3)
  | _ => none
theorem sm_par3 {i j k : Nat} {ta : TA} {f : Ea} (ha : AM K ta f) : SM K (tPar3 i j k ta) (c_par3 i j k f) := by
  intro w0 w σ env e o h D q
  obtain ⟨⟨ds, e1⟩, k1, h⟩ := Option.bind_eq_some_iff.mp h
  refine ha w0 w σ env e ds e1 k1 _ fun vs w1 E1 s1 rr => ?_
  match ds, rr, h with
  | [a, b, c], .cons r1 (.cons r2 (.cons r3 .nil)), h =>
    obtain ⟨e2, k2, h⟩ := Option.bind_eq_some_iff.mp h
    obtain ⟨e3, k3, h⟩ := Option.bind_eq_some_iff.mp h
    obtain ⟨e4, k4, h⟩ := Option.bind_eq_some_iff.mp h
    cases h
    refine ⟨_, _, _, rfl, ?_⟩
    refine gm_n (K := K) w0 w1 σ e1 E1 _ (.val a) e2 r1 k2 (fun σ' H' => D.nx ((σ'.set j _).set k _) H') fun w2 σ2 E2 s2 => ?_
    refine gm_n (K := K) w0 w2 σ2 e2 E2 _ (.val b) e3 (r2.go E1.good s2) k3 (fun σ' H' => D.nx (σ'.set k _) H') fun w3 σ3 E3 s3 => ?_
    exact gm_n (K := K) w0 w3 σ3 e3 E3 _ (.val c) e4 (r3.go E1.good (s2.trans s3)) k4 D.nx fun w4 σ4 E4 s4 => q w4 σ4 E4 (((s1.trans s2).trans s3).trans s4)

/-! ### objects of one's own, changed -/
theorem EnvOk.ow {i : Nat} {o : Ow} (e : EnvOk K w0 w σ env) (h : owOf env[i]? = some o) : ∃ a : Addr, σ[i]? = some (some (V.ref a)) ∧ OwAt K w a o ∧ ¬ w.B a := by
  cases q : env[i]? with
  | none => rw [q] at h; cases h
  | some s =>
    rw [q] at h
    cases s with
    | own o' => cases h; obtain ⟨a, h1, h3, h2⟩ := e.own i o q; exact ⟨a, h1, h2, h3.2⟩
    | arg o' => cases h; obtain ⟨a, h1, h3, h2⟩ := e.arg i o q; exact ⟨a, h1, h2, h3.2⟩
    | no => cases h
    | val _ => cases h
/-- xs.append(e) -/
def e_app (i : Nat) (f : Ex) : Ex := fun env => match owOf env[i]? with
  | some (.lst _) => (vf f env).bind fun p => match owOf p.2[i]? with
    | some (.lst ds) => if ds.length < 100000 then some (.val .non, putOw p.2 i (.lst (ds ++ [p.1]))) else none
    | _ => none
  | _ => none
theorem em_app {i : Nat} {te : TE} {f : Ex} (hf : EM K te f) : EM K (tBM K "list" rAppend (tVar i) (tCons te tNil)) (e_app i f) := by
  intro w0 w σ env e r env' h Q q
  unfold e_app at h
  split at h
  · rename_i ds0 ho0
    obtain ⟨a, ha, hO, _⟩ := e.ow ho0
    obtain ⟨⟨d, e1⟩, k1, h⟩ := Option.bind_eq_some_iff.mp h
    obtain ⟨xs0, hx0, _⟩ := hO.is
    refine ⟨_, ha, .inl ⟨rfl, xs0, .inl (.inl hx0)⟩, ?_⟩
    refine hf.v w0 w σ env e d e1 k1 _ fun v w1 E1 s1 rr => ?_
    simp only at h
    split at h
    · rename_i ds ho
      split at h
      · rename_i hl
        cases h
        obtain ⟨b, hb, hO1, _⟩ := E1.ow ho
        rw [ha] at hb
        cases hb
        obtain ⟨xs, hx, rx⟩ := hO1.is
        refine ⟨a, xs, v, rfl, rfl, hx, by rw [rx.length]; exact Nat.lt_of_lt_of_le hl line5, ?_⟩
        obtain ⟨E2, s2⟩ := E1.write ho ha (rx.append (.cons rr .nil))
        exact q .non _ E2 (s1.trans s2) .non
      · cases h
    · cases h
  · cases h
/-- xs.clear() -/
def e_clr (i : Nat) : Ex := fun env => match owOf env[i]? with
  | some (.lst _) => some (.val .non, putOw env i (.lst []))
  | _ => none
theorem em_clr {i : Nat} : EM K (tBM0 K "list" rClear (tVar i)) (e_clr i) := by
  intro w0 w σ env e r env' h Q q
  unfold e_clr at h
  split at h
  · rename_i ds ho
    cases h
    obtain ⟨a, ha, hO, _⟩ := e.ow ho
    obtain ⟨xs, hx, rx⟩ := hO.is
    obtain ⟨E2, s2⟩ := e.write ho ha (xs' := []) (ds' := []) .nil
    exact ⟨_, ha, .inl ⟨rfl, xs, .inl (.inl hx)⟩, a, xs, rfl, rfl, hx, q .non _ E2 s2 .non⟩
  · cases h
/-- xs[k] = .. -/
def g_ix (i : Nat) (f : Ex) : Tg := fun r env => match owOf env[i]? with
  | some (.lst _) => (vf f env).bind fun p => match p.1, owOf p.2[i]?, r with
    | .int k, some (.lst ds), .val d => (ixN ds.length k).bind fun j => some (putOw p.2 i (.lst (ds.set j d)))
    | _, _, _ => none
  | _ => none
theorem gm_ix {i : Nat} {ti : TE} {f : Ex} (hf : EM K ti f) : GM K (gSub (tVar i) ti rSetL) (g_ix i f) := by
  intro w0 w σ env e v r env' rr h Q q
  unfold g_ix at h
  split at h
  · rename_i ds0 ho0
    obtain ⟨a, ha, hO, _⟩ := e.ow ho0
    obtain ⟨⟨d, e1⟩, k1, h⟩ := Option.bind_eq_some_iff.mp h
    refine ⟨_, ha, ?_⟩
    refine hf.v w0 w σ env e d e1 k1 _ fun u w1 E1 s1 r1 => ?_
    simp only at h
    split at h
    · rename_i ds d' ho hshadow
      obtain ⟨j, k2, h⟩ := Option.bind_eq_some_iff.mp h
      cases h
      cases r1
      obtain ⟨b, hb, hO1, _⟩ := E1.ow ho
      rw [ha] at hb
      cases hb
      obtain ⟨xs, hx, rx⟩ := hO1.is
      refine ⟨a, xs, _, j, rfl, rfl, hx, by rw [rx.length]; exact k2, ?_⟩
      have rv : Rep K w v d' := rr
      obtain ⟨E2, s2⟩ := E1.write ho ha (rx.set (rv.go e.good s1) j)
      exact q _ σ E2 (s1.trans s2)
    · cases h
  · cases h
/-- a store takes data -/
def gv (t : Tg) : Tg := fun r env => t (.val r.d) env
theorem gm_v {g : TG} {t : Tg} (h : GM K g t) : GM K g (gv t) := by
  intro w0 w σ env e v r env' rr hh Q q
  cases r with
  | val d => exact h w0 w σ env e v _ env' rr hh Q q
  | own o =>
    obtain ⟨a, rfl, hn, ha, hd⟩ := rr
    exact h w0 (w.frz a) σ env (e.frz hd) _ (.val o.d) env' (ha.frz e.good hn.2) hh Q fun w' σ' E s => q w' σ' E ((w.frz_step a).trans s)

/-! ### loops -/
abbrev Src := List Sl → Option (List D × List Sl)
def ItOk (K : PySem.W.Frag) (w : Wd) (J : It) (ds : List D) : Prop := ∀ (i : Nat) (w2 : Wd), Good w2 → Step w w2 →
  (∀ d, ds[i]? = some d → J.go i w2.H ∧ ∀ x H', J.yld i w2.H x H' → ∃ w3 : Wd, w3.H = H' ∧ PStep w2 w3 ∧ Good w3 ∧ Rep K w3 x d) ∧ (ds.length ≤ i → J.stop i w2.H)
def IM (K : PySem.W.Frag) (wi : TI) (f : Src) : Prop := ∀ w0 w σ env, EnvOk K w0 w σ env → ∀ ds env', f env = some (ds, env') →
  ∀ Q : It → Hp → Prop, (∀ J w', EnvOk K w0 w' σ env' → Step w w' → ItOk K w' J ds → Q J w'.H) → wi σ w.H Q
def forGo (t : Tg) (b : Cm) : List D → List Sl → Option Out
  | [], env => some (.nx env)
  | d :: ds, env => (t (.val d) env).bind fun e1 => (b e1).bind fun o => match o with
    | .nx e2 => forGo t b ds e2
    | .ct e2 => forGo t b ds e2
    | .bk e2 => some (.nx e2)
    | .rt r e2 => some (.rt r e2)
def c_for (t : Tg) (f : Src) (b : Cm) : Cm := fun env => (f env).bind fun p => forGo t b p.1 p.2
theorem sm_for {wi : TI} {g : TG} {tb : TS} {t : Tg} {f : Src} {b : Cm} (hi : IM K wi f) (hg : GM K g t) (hb : SM K tb b) : SM K (tFor wi g tb) (c_for t f b) := by
  intro w0 w σ env e o h D q
  obtain ⟨⟨ds, e1⟩, k1, h⟩ := Option.bind_eq_some_iff.mp h
  refine hi w0 w σ env e ds e1 k1 _ fun J w1 E1 s1 hJ => ?_
  refine ⟨fun i m σ' H' => m + i = ds.length ∧ ∃ w2 env2, w2.H = H' ∧ EnvOk K w0 w2 σ' env2 ∧ Step w1 w2 ∧ forGo t b (ds.drop i) env2 = some o,
    ⟨ds.length, by omega, w1, e1, rfl, E1, .refl w1, by simpa using h⟩, ?_⟩
  rintro i m σ' H' ⟨em, w2, env2, rfl, E2, s2, hf⟩
  obtain ⟨j1, j2⟩ := hJ i w2 E2.good s2
  by_cases hl : i < ds.length
  · refine .inr ?_
    have hd : ds[i]? = some ds[i] := List.getElem?_eq_getElem hl
    obtain ⟨hgo, hy⟩ := j1 _ hd
    refine ⟨hgo, fun σ3 H3 => ∃ w3 env3, w3.H = H3 ∧ EnvOk K w0 w3 σ3 env3 ∧ Step w1 w3 ∧ forGo t b (ds.drop (i + 1)) env3 = some o, ?_, ?_⟩
    · rintro σ3 H3 ⟨w3, env3, h3, E3, s3, f3⟩
      exact ⟨m - 1, by omega, by omega, w3, env3, h3, E3, s3, f3⟩
    · intro x H3 hx
      obtain ⟨w3, rfl, p3, g3, r3⟩ := hy x H3 hx
      rw [List.drop_eq_getElem_cons hl] at hf
      obtain ⟨e4, k4, hf⟩ := Option.bind_eq_some_iff.mp hf
      obtain ⟨o5, k5, hf⟩ := Option.bind_eq_some_iff.mp hf
      refine hg w0 w3 σ' env2 (E2.grow p3 g3) x (.val ds[i]) e4 r3 k4 _ fun w4 σ4 E4 s4 => ?_
      refine hb w0 w4 σ4 e4 E4 o5 k5 _ ?_
      have s14 : Step w1 w4 := (s2.trans p3.step).trans s4
      cases o5 with
      | nx e6 => exact fun w6 σ6 E6 s6 => ⟨w6, e6, rfl, E6, s14.trans s6, hf⟩
      | ct e6 => exact fun w6 σ6 E6 s6 => ⟨w6, e6, rfl, E6, s14.trans s6, hf⟩
      | bk e6 => cases hf; exact fun w6 σ6 E6 s6 => q w6 σ6 E6 ((s1.trans s14).trans s6)
      | rt r e6 => cases hf; exact fun v w6 σ6 E6 s6 rr => q v w6 σ6 E6 ((s1.trans s14).trans s6) rr
  · refine .inl ⟨j2 (by omega), ?_⟩
    rw [List.drop_of_length_le (by omega)] at hf
    cases hf
    exact q w2 σ' E2 (s1.trans s2)
def whGo (c : Et) (b : Cm) : Nat → List Sl → Option Out
  | 0, _ => none
  | n + 1, env => (c env).bind fun p => if p.1 = true then (b p.2).bind fun o => match o with
      | .nx e2 => whGo c b n e2
      | .ct e2 => whGo c b n e2
      | .bk e2 => some (.nx e2)
      | .rt r e2 => some (.rt r e2)
    else some (.nx p.2)
/-- fu: turns enough -/
def c_wh (fu : List Sl → Nat) (c : Et) (b : Cm) : Cm := fun env => whGo c b (fu env) env
theorem sm_wh {fu : List Sl → Nat} {t : TT} {tb : TS} {c : Et} {b : Cm} (hc : TM K t c) (hb : SM K tb b) : SM K (tWhile t tb) (c_wh fu c b) := by
  intro w0 w σ env e o h D q
  refine ⟨fun m σ' H' => ∃ w2 env2, w2.H = H' ∧ EnvOk K w0 w2 σ' env2 ∧ Step w w2 ∧ whGo c b m env2 = some o, ⟨_, w, env, rfl, e, .refl w, h⟩, ?_⟩
  rintro m σ' H' ⟨w2, env2, rfl, E2, s2, hw⟩
  cases m with
  | zero => cases hw
  | succ m =>
    obtain ⟨⟨x, e3⟩, k3, hw⟩ := Option.bind_eq_some_iff.mp hw
    refine hc w0 w2 σ' env2 E2 x e3 k3 _ fun w3 E3 s3 => ?_
    cases x with
    | false =>
      rw [if_neg Bool.false_ne_true] at hw ⊢
      cases hw
      exact q w3 σ' E3 (s2.trans s3)
    | true =>
      rw [if_pos rfl] at hw ⊢
      obtain ⟨o5, k5, hw⟩ := Option.bind_eq_some_iff.mp hw
      refine ⟨fun σ3 H3 => ∃ w4 env4, w4.H = H3 ∧ EnvOk K w0 w4 σ3 env4 ∧ Step w w4 ∧ whGo c b m env4 = some o, fun σ3 H3 hN => ⟨m, Nat.lt_succ_self m, hN⟩, ?_⟩
      refine hb w0 w3 σ' e3 E3 o5 k5 _ ?_
      have s13 : Step w w3 := s2.trans s3
      cases o5 with
      | nx e6 => exact fun w6 σ6 E6 s6 => ⟨w6, e6, rfl, E6, s13.trans s6, hw⟩
      | ct e6 => exact fun w6 σ6 E6 s6 => ⟨w6, e6, rfl, E6, s13.trans s6, hw⟩
      | bk e6 => cases hw; exact fun w6 σ6 E6 s6 => q w6 σ6 E6 (s13.trans s6)
      | rt r e6 => cases hw; exact fun v w6 σ6 E6 s6 rr => q v w6 σ6 E6 (s13.trans s6) rr
end
end Vz
set_option maxRecDepth 100000
set_option maxHeartbeats 1000000
namespace Vz
open PySem PySem.Spec PyProof.Rows L2
variable [FnTab]
section
variable {K : PySem.W.Frag} {w w' w1 w2 : Wd} {w0 : W0} {σ : L2.St} {env env' env1 : List Sl}

/-! ### a def as a function of its arguments -/
abbrev FM := List Sl → Option (R × List Sl)
def outArgs : List Sl → List Sl → List Sl
  | .arg _ :: as, s :: es => s :: outArgs as es
  | .no :: as, _ :: es => .no :: outArgs as es
  | .val d :: as, _ :: es => .val d :: outArgs as es
  | .own o :: as, _ :: es => .own o :: outArgs as es
  | as, [] => as
  | [], _ => []
def okArg : Sl → Bool
  | .val _ => true
  | .arg _ => true
  | _ => false
def fnM (n k : Nat) (c : Cm) : FM := fun args => if args.length = k ∧ args.all okArg = true then (c (args ++ List.replicate (n - k) .no)).bind fun o => match o with
  | .rt r e => some (r, outArgs args e)
  | .nx e => some (.val .non, outArgs args e)
  | _ => none else none
def spM (K : PySem.W.Frag) (m : FM) : Sp := fun vs H Q _ => ∃ (z : W0) (args : List Sl) (r : R) (args' : List Sl), z.H = H ∧ EnvOk K z z.toWd (vs.map some) args ∧
  (∀ (i : Nat) (o : Ow), args[i]? = some (Sl.arg o) → ∃ a : Addr, (i, a) ∈ z.pa) ∧ m args = some (r, args') ∧
  ∀ v w', EnvOk K z w' (vs.map some) args' → Step z.toWd w' → RepR K z w' (vs.map some) args' v r → Q v w'.H
theorem outArgs_length : ∀ (as es : List Sl), (outArgs as es).length = as.length
  | [], _ => by cases ‹List Sl› <;> rfl
  | .arg _ :: as, [] => rfl
  | .no :: as, [] => rfl
  | .val _ :: as, [] => rfl
  | .own _ :: as, [] => rfl
  | .arg _ :: as, _ :: es => congrArg (· + 1) (outArgs_length as es)
  | .no :: as, _ :: es => congrArg (· + 1) (outArgs_length as es)
  | .val _ :: as, _ :: es => congrArg (· + 1) (outArgs_length as es)
  | .own _ :: as, _ :: es => congrArg (· + 1) (outArgs_length as es)
theorem outArgs_get : ∀ (as es : List Sl) (i : Nat), (outArgs as es)[i]? = match as[i]?, es[i]? with
    | some (.arg _), some s => some s
    | x, _ => x
  | [], _, i => by cases ‹List Sl› <;> simp [outArgs]
  | a :: as, [], i => by cases a <;> simp [outArgs] <;> split <;> simp_all
  | a :: as, e :: es, 0 => by cases a <;> rfl
  | a :: as, e :: es, i + 1 => by
    have ih := outArgs_get as es i
    cases a <;> simpa [outArgs] using ih
/-- the body's slots at the entry -/
theorem EnvOk.start {z : W0} {vs : List V} {args : List Sl} {N : List Str} (e : EnvOk K z z.toWd (vs.map some) args) (hl : vs.length ≤ N.length) :
    EnvOk K z z.toWd (L2.start N vs) (args ++ List.replicate (N.length - vs.length) .no) := by
  have el : vs.length = args.length := by have := e.len; rw [List.length_map] at this; exact this
  have key : ∀ (i : Nat) (x : Sl), (args ++ List.replicate (N.length - vs.length) Sl.no)[i]? = some x → x ≠ .no → args[i]? = some x ∧ (L2.start N vs)[i]? = (vs.map some)[i]? := fun i x h hx => by
    by_cases hi : i < args.length
    · rw [List.getElem?_append_left hi] at h
      refine ⟨h, ?_⟩
      unfold L2.start
      rw [List.getElem?_append_left (by rw [List.length_map]; omega)]
    · rw [List.getElem?_append_right (by omega), List.getElem?_replicate] at h
      split at h
      · cases h; exact absurd rfl hx
      · cases h
  have keyO : ∀ i : Nat, isO (args ++ List.replicate (N.length - vs.length) Sl.no)[i]? = true → isO args[i]? = true ∧ (L2.start N vs)[i]? = (vs.map some)[i]? := fun i h => by
    cases q : (args ++ List.replicate (N.length - vs.length) Sl.no)[i]? with
    | none => rw [q] at h; cases h
    | some x =>
      have hx : x ≠ .no := fun z => by rw [q, z] at h; cases h
      obtain ⟨h1, h2⟩ := key i x q hx
      rw [q] at h
      exact ⟨by rw [h1]; exact h, h2⟩
  refine ⟨e.g0, e.good, e.st, ?_, fun i d h => ?_, fun i o h => ?_, fun i o h => ?_, fun i j a h1 h2 h3 h4 => ?_, fun p hp => ?_⟩
  · unfold L2.start
    rw [List.length_append, List.length_append, List.length_map, List.length_replicate, List.length_replicate, el]
  · obtain ⟨h1, h2⟩ := key i _ h (fun z => nomatch z)
    rw [h2]; exact e.val i d h1
  · obtain ⟨h1, h2⟩ := key i _ h (fun z => nomatch z)
    rw [h2]; exact e.own i o h1
  · obtain ⟨h1, h2⟩ := key i _ h (fun z => nomatch z)
    rw [h2]; exact e.arg i o h1
  · obtain ⟨k1, k2⟩ := keyO i h1
    obtain ⟨k3, k4⟩ := keyO j h2
    rw [k2] at h3
    rw [k4] at h4
    exact e.inj i j a k1 k3 h3 h4
  · obtain ⟨h1, o, h2⟩ := e.pin p hp
    have hi : p.1 < args.length := (List.getElem?_eq_some_iff.mp h2).1
    refine ⟨?_, o, by rw [List.getElem?_append_left hi]; exact h2⟩
    unfold L2.start
    rw [List.getElem?_append_left (by rw [List.length_map]; omega)]
    exact h1
/-- the arguments behind the body -/
theorem EnvOk.stop {z : W0} {vs : List V} {args : List Sl} {w' : Wd} {σ' : L2.St} {env' : List Sl} (e : EnvOk K z z.toWd (vs.map some) args) (hp : ∀ (i : Nat) (o : Ow), args[i]? = some (Sl.arg o) → ∃ a : Addr, (i, a) ∈ z.pa)
    (ha : args.all okArg = true) (E : EnvOk K z w' σ' env') : EnvOk K z w' (vs.map some) (outArgs args env') := by
  have key : ∀ (i : Nat) (x : Sl), (outArgs args env')[i]? = some x → (∃ d, args[i]? = some (Sl.val d) ∧ x = .val d) ∨ (∃ o o' : Ow, ∃ a : Addr, args[i]? = some (Sl.arg o) ∧ x = .arg o' ∧ env'[i]? = some (Sl.arg o') ∧ (vs.map some)[i]? = some (some (V.ref a)) ∧ σ'[i]? = some (some (V.ref a))) := fun i x h => by
    rw [outArgs_get] at h
    cases q : args[i]? with
    | none => rw [q] at h; simp at h
    | some y =>
      have hy : okArg y = true := List.all_eq_true.mp ha y (List.mem_of_getElem? q)
      rw [q] at h
      cases y with
      | no => cases hy
      | own _ => cases hy
      | val d => simp at h; exact .inl ⟨d, rfl, h.symm⟩
      | arg o =>
        obtain ⟨a, hm⟩ := hp i o q
        obtain ⟨h1, o1, h2⟩ := E.pin _ hm
        obtain ⟨h3, _⟩ := e.pin _ hm
        simp only at h1 h2 h3
        rw [h2] at h
        cases h
        exact .inr ⟨o, o1, a, rfl, rfl, h2, h3, h1⟩
  have keyO : ∀ i : Nat, isO (outArgs args env')[i]? = true → isO args[i]? = true := fun i h => by
    cases q : (outArgs args env')[i]? with
    | none => rw [q] at h; cases h
    | some x =>
      rcases key i x q with ⟨d, _, rfl⟩ | ⟨o, o', a, h1, _⟩
      · rw [q] at h; cases h
      · rw [h1]; rfl
  refine ⟨e.g0, E.good, E.st, by rw [outArgs_length]; exact e.len, fun i d h => ?_, fun i o h => ?_, fun i o h => ?_, fun i j a h1 h2 h3 h4 => e.inj i j a (keyO i h1) (keyO j h2) h3 h4, fun p hp' => ?_⟩
  · rcases key i _ h with ⟨d', h1, h2⟩ | ⟨o, o', a, _, h2, _⟩
    · cases h2
      obtain ⟨v, v1, v2⟩ := e.val i d h1
      exact ⟨v, v1, v2.go e.good E.st⟩
    · cases h2
  · rcases key i _ h with ⟨d', _, h2⟩ | ⟨o, o', a, _, h2, _⟩ <;> cases h2
  · rcases key i _ h with ⟨d', _, h2⟩ | ⟨o, o', a, h1, h2, h3, h4, h5⟩
    · cases h2
    · cases h2
      obtain ⟨b, b1, b2, b3⟩ := E.arg i _ h3
      rw [h5] at b1
      cases b1
      exact ⟨a, h4, b2, b3⟩
  · obtain ⟨h1, o, h2⟩ := e.pin p hp'
    obtain ⟨_, o', h3⟩ := E.pin p hp'
    refine ⟨h1, o', ?_⟩
    rw [outArgs_get, h2, h3]

/-! ### arguments of a call -/
inductive AV where
  | d (x : D) | m (i : Nat)
def RepA (K : PySem.W.Frag) (w : Wd) (σ : L2.St) (v : V) : AV → Prop
  | .d x => Rep K w v x
  | .m i => σ[i]? = some (some v)
inductive RepsA (K : PySem.W.Frag) (w : Wd) (σ : L2.St) : List V → List AV → Prop
  | nil : RepsA K w σ [] []
  | cons {v : V} {vs : List V} {a : AV} {as : List AV} : RepA K w σ v a → RepsA K w σ vs as → RepsA K w σ (v :: vs) (a :: as)
theorem RepA.go {v : V} {a : AV} (h : RepA K w σ v a) (g : Good w) (s : Step w w') : RepA K w' σ v a := by
  cases a with
  | d x => exact Rep.go (show Rep K w v x from h) g s
  | m i => exact h
theorem RepsA.length : ∀ {vs : List V} {as : List AV}, RepsA K w σ vs as → vs.length = as.length
  | _, _, .nil => rfl
  | _, _, .cons _ t => congrArg (· + 1) (RepsA.length t)
theorem RepsA.get : ∀ {vs : List V} {as : List AV} {i : Nat} {a : AV}, RepsA K w σ vs as → as[i]? = some a → ∃ v, vs[i]? = some v ∧ RepA K w σ v a
  | _, _, _, _, .nil, e => by simp at e
  | _, _, 0, d, .cons r _, e => by simp at e; subst e; exact ⟨_, rfl, r⟩
  | _, _, i + 1, d, .cons _ t, e => by
    obtain ⟨v, h1, h2⟩ := RepsA.get (i := i) t (by simpa using e)
    exact ⟨v, by simpa using h1, h2⟩
theorem RepsA.append : ∀ {vs us : List V} {as bs : List AV}, RepsA K w σ vs as → RepsA K w σ us bs → RepsA K w σ (vs ++ us) (as ++ bs)
  | _, _, _, _, .nil, s => s
  | _, _, _, _, .cons r t, s => .cons r (RepsA.append t s)
theorem RepsA.of : ∀ {vs : List V} {ds : List D}, Reps K w vs ds → RepsA K w σ vs (ds.map AV.d)
  | _, _, .nil => .nil
  | _, _, .cons r t => .cons (show RepA K w σ _ (.d _) from r) (RepsA.of t)
abbrev Er := List Sl → Option (List AV × List Sl)
def ArM (K : PySem.W.Frag) (ta : TA) (f : Er) : Prop := ∀ w0 w σ env, EnvOk K w0 w σ env → ∀ as env', f env = some (as, env') →
  ∀ Q : List V → Hp → Prop, (∀ vs w', EnvOk K w0 w' σ env' → Step w w' → RepsA K w' σ vs as → Q vs w'.H) → ta σ w.H Q
def r_nil : Er := fun env => some ([], env)
def r_v (f : Ex) (g : Er) : Er := fun env => (vf f env).bind fun p => (g p.2).bind fun q => some (.d p.1 :: q.1, q.2)
def r_m (i : Nat) (g : Er) : Er := fun env => if isO env[i]? = true then (g env).bind fun q => some (.m i :: q.1, q.2) else none
theorem arm_nil : ArM K tNil r_nil := fun w0 w σ env e as env' h Q q => by cases h; exact q [] w e (.refl w) .nil
theorem arm_v {te : TE} {ta : TA} {f : Ex} {g : Er} (hf : EM K te f) (hg : ArM K ta g) : ArM K (tCons te ta) (r_v f g) := by
  intro w0 w σ env e as env' h Q q
  obtain ⟨⟨x, e1⟩, h1, h⟩ := Option.bind_eq_some_iff.mp h
  obtain ⟨⟨y, e2⟩, h2, h⟩ := Option.bind_eq_some_iff.mp h
  cases h
  refine hf.v w0 w σ env e x e1 h1 _ fun v w1 E1 s1 r1 => ?_
  refine hg w0 w1 σ e1 E1 y _ h2 _ fun vs w2 E2 s2 r2 => ?_
  exact q _ w2 E2 (s1.trans s2) (.cons (show RepA K w2 σ v (.d x) from r1.go E1.good s2) r2)
theorem arm_m {i : Nat} {ta : TA} {g : Er} (hg : ArM K ta g) : ArM K (tCons (tVar i) ta) (r_m i g) := by
  intro w0 w σ env e as env' h Q q
  unfold r_m at h
  split at h
  · rename_i hi
    obtain ⟨⟨y, e2⟩, h2, h⟩ := Option.bind_eq_some_iff.mp h
    cases h
    obtain ⟨a, o, ha, _⟩ := e.owned hi
    refine ⟨_, ha, ?_⟩
    refine hg w0 w σ env e y _ h2 _ fun vs w2 E2 s2 r2 => ?_
    exact q _ w2 E2 s2 (.cons (show RepA K w2 σ _ (.m i) from ha) r2)
  · cases h
def msOf : List AV → List Nat
  | [] => []
  | .d _ :: as => msOf as
  | .m i :: as => i :: msOf as
theorem mem_msOf : ∀ {as : List AV} {n i : Nat}, as[n]? = some (.m i) → i ∈ msOf as
  | [], _, _, h => by simp at h
  | .d _ :: as, 0, _, h => by simp at h
  | .m j :: as, 0, i, h => by simp at h; subst h; exact List.mem_cons_self
  | .d _ :: as, n + 1, i, h => mem_msOf (as := as) (n := n) (by simpa using h)
  | .m j :: as, n + 1, i, h => List.mem_cons_of_mem _ (mem_msOf (as := as) (n := n) (by simpa using h))
def slotsOf (env : List Sl) : List AV → Option (List Sl)
  | [] => some []
  | .d x :: as => (slotsOf env as).bind fun ss => some (.val x :: ss)
  | .m i :: as => (owOf env[i]?).bind fun o => (slotsOf env as).bind fun ss => some (.arg o :: ss)
theorem slotsOf_length : ∀ {as : List AV} {ss : List Sl}, slotsOf env as = some ss → ss.length = as.length
  | [], _, h => by cases h; rfl
  | .d x :: as, _, h => by
    obtain ⟨ss, h1, h⟩ := Option.bind_eq_some_iff.mp h
    cases h
    exact congrArg (· + 1) (slotsOf_length h1)
  | .m i :: as, _, h => by
    obtain ⟨o, h0, h⟩ := Option.bind_eq_some_iff.mp h
    obtain ⟨ss, h1, h⟩ := Option.bind_eq_some_iff.mp h
    cases h
    exact congrArg (· + 1) (slotsOf_length h1)
theorem slotsOf_get : ∀ {as : List AV} {ss : List Sl} {n : Nat} {s : Sl}, slotsOf env as = some ss → ss[n]? = some s → (∃ x, as[n]? = some (.d x) ∧ s = .val x) ∨ ∃ i o, as[n]? = some (.m i) ∧ owOf env[i]? = some o ∧ s = .arg o
  | [], _, _, _, h, e => by cases h; simp at e
  | .d x :: as, _, n, s, h, e => by
    obtain ⟨ss, h1, h⟩ := Option.bind_eq_some_iff.mp h
    cases h
    cases n with
    | zero => simp at e; exact .inl ⟨x, rfl, e.symm⟩
    | succ n => simpa using slotsOf_get (n := n) h1 (by simpa using e)
  | .m i :: as, _, n, s, h, e => by
    obtain ⟨o, h0, h⟩ := Option.bind_eq_some_iff.mp h
    obtain ⟨ss, h1, h⟩ := Option.bind_eq_some_iff.mp h
    cases h
    cases n with
    | zero => simp at e; exact .inr ⟨i, o, rfl, h0, e.symm⟩
    | succ n => simpa using slotsOf_get (n := n) h1 (by simpa using e)
def backs : List AV → List Sl → List Sl → List Sl
  | .d _ :: as, _ :: ss, env => backs as ss env
  | .m i :: as, s :: ss, env => backs as ss (match owOf (some s) with
    | some o => putOw env i o
    | none => env)
  | _, _, env => env
theorem putOw_other {i j : Nat} {o : Ow} (h : i ≠ j) : (putOw env i o)[j]? = env[j]? := by
  unfold putOw
  split
  · exact get_set_ne h
  · rfl
theorem putOw_same {i : Nat} {o : Ow} : (putOw env i o)[i]? = (env[i]?).map fun s => s.kin o := by
  unfold putOw
  cases q : env[i]? with
  | none => exact q
  | some s => exact get_set_eq q
theorem putOw_length {i : Nat} {o : Ow} : (putOw env i o).length = env.length := by
  unfold putOw
  split
  · exact List.length_set
  · rfl
theorem backs_length : ∀ (as : List AV) (ss env : List Sl), (backs as ss env).length = env.length
  | [], _, _ => by cases ‹List Sl› <;> rfl
  | .d _ :: as, [], _ => rfl
  | .m _ :: as, [], _ => rfl
  | .d _ :: as, _ :: ss, env => backs_length as ss env
  | .m i :: as, s :: ss, env => by
    show (backs as ss _).length = _
    rw [backs_length as ss]
    split
    · exact putOw_length
    · rfl
theorem backs_other : ∀ (as : List AV) (ss env : List Sl) (j : Nat), j ∉ msOf as → (backs as ss env)[j]? = env[j]?
  | [], _, _, _, _ => by cases ‹List Sl› <;> rfl
  | .d _ :: as, [], _, _, _ => rfl
  | .m _ :: as, [], _, _, _ => rfl
  | .d _ :: as, _ :: ss, env, j, h => backs_other as ss env j h
  | .m i :: as, s :: ss, env, j, h => by
    show (backs as ss _)[j]? = _
    rw [backs_other as ss _ j fun z => h (List.mem_cons_of_mem _ z)]
    split
    · exact putOw_other fun z => h (by rw [← z]; exact List.mem_cons_self)
    · rfl
theorem backs_at : ∀ (as : List AV) (ss env : List Sl) (n j : Nat) (o : Ow), (msOf as).Nodup → as[n]? = some (.m j) → ss[n]? = some (Sl.arg o) → (backs as ss env)[j]? = (env[j]?).map fun s => s.kin o
  | [], _, _, _, _, _, _, h, _ => by simp at h
  | .d _ :: as, [], _, _, _, _, _, _, h => by simp at h
  | .m _ :: as, [], _, _, _, _, _, _, h => by simp at h
  | .d _ :: as, _ :: ss, env, 0, j, o, _, h, _ => by simp at h
  | .d _ :: as, _ :: ss, env, n + 1, j, o, nd, h, h2 => backs_at as ss env n j o nd (by simpa using h) (by simpa using h2)
  | .m i :: as, s :: ss, env, 0, j, o, nd, h, h2 => by
    simp at h h2
    subst h h2
    show (backs as ss (putOw env i o))[i]? = _
    rw [backs_other as ss _ i (List.nodup_cons.mp nd).1, putOw_same]
  | .m i :: as, s :: ss, env, n + 1, j, o, nd, h, h2 => by
    have nd' := List.nodup_cons.mp nd
    have hm : j ∈ msOf as := mem_msOf (n := n) (by simpa using h)
    have ne : i ≠ j := fun z => nd'.1 (by rw [z]; exact hm)
    show (backs as ss _)[j]? = _
    rw [backs_at as ss _ n j o nd'.2 (by simpa using h) (by simpa using h2)]
    split
    · rw [putOw_other ne]
    · rfl
def pasOf (σ : L2.St) : Nat → List AV → List (Nat × Addr)
  | _, [] => []
  | k, .d _ :: as => pasOf σ (k + 1) as
  | k, .m i :: as => match σ[i]? with
    | some (some (.ref a)) => (k, a) :: pasOf σ (k + 1) as
    | _ => pasOf σ (k + 1) as
theorem mem_pasOf : ∀ {as : List AV} {k : Nat} {p : Nat × Addr}, p ∈ pasOf σ k as → ∃ n i, p.1 = k + n ∧ as[n]? = some (.m i) ∧ σ[i]? = some (some (V.ref p.2))
  | [], _, _, h => by cases h
  | .d _ :: as, k, p, h => by
    obtain ⟨n, i, h1, h2, h3⟩ := mem_pasOf (as := as) (k := k + 1) h
    exact ⟨n + 1, i, by omega, by simpa using h2, h3⟩
  | .m j :: as, k, p, h => by
    unfold pasOf at h
    split at h
    · rename_i a ha
      rcases List.mem_cons.mp h with h | h
      · subst h
        exact ⟨0, j, rfl, rfl, ha⟩
      · obtain ⟨n, i, h1, h2, h3⟩ := mem_pasOf (as := as) (k := k + 1) h
        exact ⟨n + 1, i, by omega, by simpa using h2, h3⟩
    · obtain ⟨n, i, h1, h2, h3⟩ := mem_pasOf (as := as) (k := k + 1) h
      exact ⟨n + 1, i, by omega, by simpa using h2, h3⟩
theorem pasOf_mem : ∀ {as : List AV} {k n i : Nat} {a : Addr}, as[n]? = some (.m i) → σ[i]? = some (some (V.ref a)) → (k + n, a) ∈ pasOf σ k as
  | [], _, _, _, _, h, _ => by simp at h
  | .d _ :: as, k, 0, i, a, h, h2 => by simp at h
  | .d _ :: as, k, n + 1, i, a, h, h2 => by
    have := pasOf_mem (as := as) (k := k + 1) (n := n) (i := i) (a := a) (by simpa using h) h2
    have e : k + 1 + n = k + (n + 1) := by omega
    rw [e] at this
    exact this
  | .m j :: as, k, 0, i, a, h, h2 => by
    simp at h
    subst h
    unfold pasOf
    rw [h2]
    exact List.mem_cons_self
  | .m j :: as, k, n + 1, i, a, h, h2 => by
    have := pasOf_mem (as := as) (k := k + 1) (n := n) (i := i) (a := a) (by simpa using h) h2
    have e : k + 1 + n = k + (n + 1) := by omega
    rw [e] at this
    unfold pasOf
    split
    · exact List.mem_cons_of_mem _ this
    · exact this

/-! ### a call -/
def e_call (m : FM) (dd : List D) (f : Er) : Ex := fun env => (f env).bind fun p => if (msOf p.1).Nodup then (slotsOf p.2 (p.1 ++ dd.map AV.d)).bind fun ss => (m ss).bind fun q => some (q.1, backs (p.1 ++ dd.map AV.d) q.2 p.2) else none
theorem msOf_append : ∀ (as : List AV) (dd : List D), msOf (as ++ dd.map AV.d) = msOf as
  | [], [] => rfl
  | [], _ :: dd => msOf_append [] dd
  | .d _ :: as, dd => msOf_append as dd
  | .m i :: as, dd => congrArg (i :: ·) (msOf_append as dd)
theorem run_call {m : FM} {as : List AV} {vs : List V} {ss : List Sl} {r : R} {args' : List Sl} {E : XK} (e : EnvOk K w0 w σ env) (ra : RepsA K w σ vs as) (nd : (msOf as).Nodup) (hs : slotsOf env as = some ss) (hm : m ss = some (r, args'))
    (Q : VK) (q : ∀ v w', EnvOk K w0 w' σ (backs as args' env) → Step w w' → RepR K w0 w' σ (backs as args' env) v r → Q v w'.H) : spM K m vs w.H Q E := by
  have hel : vs.length = as.length := ra.length
  have hsl : ss.length = as.length := slotsOf_length hs
  let z : W0 := { W := fun p => ∃ i : Nat, i ∈ msOf as ∧ σ[i]? = some (some (V.ref p)) ∧ ∃ o, owOf env[i]? = some o, B := fun p => w.O p ∧ ¬ ∃ i : Nat, i ∈ msOf as ∧ σ[i]? = some (some (V.ref p)) ∧ ∃ o, owOf env[i]? = some o, H := w.H, pa := pasOf σ 0 as }
  have zw : ∀ p, z.W p → w.W p := fun p ⟨i, _, h1, o, h2⟩ => by
    obtain ⟨a, ha, hO, hnB⟩ := e.ow h2
    rw [h1] at ha
    cases ha
    exact hO.wa
  have zO : ∀ p, z.O p → w.O p := fun p h => h.elim (fun k => .inl (zw p k)) fun k => k.1
  have gz : Good z.toWd := ⟨fun p h => e.good.dom p (zO p h)⟩
  have sz : OStep w z.toWd := ⟨fun b o _ h => h, fun p h => .inl (zO p h)⟩
  have isO_ow : ∀ {i : Nat} {o : Ow}, owOf env[i]? = some o → isO env[i]? = true := fun {i o} h => by
    cases q : env[i]? with
    | none => rw [q] at h; cases h
    | some x => cases x <;> rw [q] at h <;> first | rfl | cases h
  have nth_m : ∀ {n n' i : Nat} {as : List AV}, (msOf as).Nodup → as[n]? = some (.m i) → as[n']? = some (.m i) → n = n' := by
    intro n n' i as
    induction as generalizing n n' with
    | nil => intro _ h _; simp at h
    | cons x as ih =>
      intro nd h1 h2
      cases x with
      | d _ =>
        cases n with
        | zero => simp at h1
        | succ n =>
          cases n' with
          | zero => simp at h2
          | succ n' => exact congrArg (· + 1) (ih (n := n) (n' := n') nd (by simpa using h1) (by simpa using h2))
      | m j =>
        have nd' := List.nodup_cons.mp nd
        cases n with
        | zero =>
          cases n' with
          | zero => rfl
          | succ n' =>
            simp at h1
            subst h1
            exact absurd (mem_msOf (n := n') (by simpa using h2)) nd'.1
        | succ n =>
          cases n' with
          | zero =>
            simp at h2
            subst h2
            exact absurd (mem_msOf (n := n) (by simpa using h1)) nd'.1
          | succ n' => exact congrArg (· + 1) (ih (n := n) (n' := n') nd'.2 (by simpa using h1) (by simpa using h2))
  -- the callee's entry
  have E0 : EnvOk K z z.toWd (vs.map some) ss := by
    refine ⟨gz, gz, .refl _, by rw [List.length_map, hsl, hel], fun i d h => ?_, fun i o h => ?_, fun i o h => ?_, fun i j a h1 h2 h3 h4 => ?_, fun p hp => ?_⟩
    · rcases slotsOf_get hs h with ⟨x, h1, h2⟩ | ⟨k, o, h1, h2, h3⟩
      · cases h2
        obtain ⟨v, v1, v2⟩ := ra.get h1
        exact ⟨v, by rw [List.getElem?_map, v1]; rfl, Rep.goO (show Rep K w v d from v2) sz⟩
      · cases h3
    · rcases slotsOf_get hs h with ⟨x, h1, h2⟩ | ⟨k, o', h1, h2, h3⟩
      · cases h2
      · cases h3
    · rcases slotsOf_get hs h with ⟨x, h1, h2⟩ | ⟨k, o', h1, h2, h3⟩
      · cases h2
      · cases h3
        obtain ⟨v, v1, v2⟩ := ra.get h1
        have v2' : σ[k]? = some (some v) := v2
        obtain ⟨a, ha, hO, hnB⟩ := e.ow h2
        rw [v2'] at ha
        cases ha
        refine ⟨a, by rw [List.getElem?_map, v1]; rfl, ⟨hO.is.trk, fun k' => k'.2 ⟨k, mem_msOf h1, v2', _, h2⟩⟩, ⟨k, mem_msOf h1, v2', _, h2⟩, hO.is.goO sz rfl⟩
    · have g : ∀ {n : Nat}, isO ss[n]? = true → (vs.map some)[n]? = some (some (V.ref a)) → ∃ i : Nat, as[n]? = some (.m i) ∧ isO env[i]? = true ∧ σ[i]? = some (some (V.ref a)) := fun {n} k1 k2 => by
        cases q : ss[n]? with
        | none => rw [q] at k1; cases k1
        | some s =>
          rcases slotsOf_get hs q with ⟨x, q1, q2⟩ | ⟨i, o', q1, q2, q3⟩
          · rw [q, q2] at k1; cases k1
          · obtain ⟨v, v1, v2⟩ := ra.get q1
            rw [List.getElem?_map, v1] at k2
            cases k2
            exact ⟨i, q1, isO_ow q2, v2⟩
      obtain ⟨i', p1, p2, p3⟩ := g h1 h3
      obtain ⟨j', q1, q2, q3⟩ := g h2 h4
      have := e.inj i' j' a p2 q2 p3 q3
      subst this
      exact nth_m nd p1 q1
    · obtain ⟨n, i, h1, h2, h3⟩ := mem_pasOf (show p ∈ pasOf σ 0 as from hp)
      rw [Nat.zero_add] at h1
      obtain ⟨v, v1, v2⟩ := ra.get h2
      have v2' : σ[i]? = some (some v) := v2
      rw [h3] at v2'
      cases v2'
      refine ⟨by rw [h1, List.getElem?_map, v1]; rfl, ?_⟩
      have hn : n < ss.length := by rw [hsl]; exact (List.getElem?_eq_some_iff.mp h2).1
      rcases slotsOf_get hs (List.getElem?_eq_getElem hn) with ⟨x, q1, q2⟩ | ⟨i', o', q1, q2, q3⟩
      · rw [h2] at q1; cases q1
      · exact ⟨o', by rw [h1, List.getElem?_eq_getElem hn, q3]⟩
  refine ⟨z, ss, r, args', rfl, E0, fun i o h => ?_, hm, fun v w' E' s' rr => ?_⟩
  · rcases slotsOf_get hs h with ⟨x, h1, h2⟩ | ⟨k, o', h1, h2, h3⟩
    · cases h2
    · obtain ⟨v, v1, v2⟩ := ra.get h1
      obtain ⟨a, ha, hO, hnB⟩ := e.ow h2
      have := pasOf_mem (k := 0) h1 ha
      rw [Nat.zero_add] at this
      exact ⟨a, this⟩
  -- behind the call
  have wO : ∀ p, w.O p → w'.O p := fun p h => by
    by_cases hz : ∃ i : Nat, i ∈ msOf as ∧ σ[i]? = some (some (V.ref p)) ∧ ∃ o, owOf env[i]? = some o
    · obtain ⟨i, k1, k2, o, k3⟩ := hz
      have nthOf0 : ∀ (as : List AV), i ∈ msOf as → ∃ n : Nat, as[n]? = some (.m i) := by
        intro as
        induction as with
        | nil => intro h; cases h
        | cons x as ih =>
          intro h
          cases x with
          | d _ =>
            obtain ⟨n, hn⟩ := ih h
            exact ⟨n + 1, by simpa using hn⟩
          | m j =>
            rcases List.mem_cons.mp h with h | h
            · subst h; exact ⟨0, rfl⟩
            · obtain ⟨n, hn⟩ := ih h
              exact ⟨n + 1, by simpa using hn⟩
      obtain ⟨n, hn⟩ := nthOf0 as k1
      have hp := pasOf_mem (k := 0) hn k2
      obtain ⟨q1, o2, q2⟩ := E'.pin _ hp
      obtain ⟨b, q3, _, q4⟩ := E'.arg _ o2 q2
      rw [q1] at q3
      cases q3
      exact .inl q4.wa
    · exact .inr (E'.st.b1 p ⟨h, hz⟩)
  have back : ∀ X : Addr → Prop, (∀ p, X p → w.H p = none ∧ w'.O p ∧ w'.H p ≠ none) → ∃ w2 : Wd, w2 = ⟨fun p => w.W p ∨ X p, w.B, w'.H⟩ ∧ EnvOk K w0 w2 σ (backs as args' env) ∧ Step w w2 ∧ OStep w' w2 := by
    intro X hX
    refine ⟨_, rfl, ?_⟩
    have g2 : Good ⟨fun p => w.W p ∨ X p, w.B, w'.H⟩ := ⟨fun p h => h.elim (fun k => k.elim (fun k => s'.trk p (e.good.dom p (.inl k))) fun k => (hX p k).2.2) fun k => s'.trk p (e.good.dom p (.inr k))⟩
    have s2 : Step w ⟨fun p => w.W p ∨ X p, w.B, w'.H⟩ := ⟨fun b o hb h => s'.keep b o (fun k => hb (zw b k)) h, s'.trk, fun p h => h.imp id fun k => (hX p k).1, fun p h => h, fun p h => .inl h⟩
    have o2 : OStep w' ⟨fun p => w.W p ∨ X p, w.B, w'.H⟩ := ⟨fun b o _ h => h, fun p h => .inl (h.elim (fun k => k.elim (fun k => wO p (.inl k)) fun k => (hX p k).2.1) fun k => wO p (.inr k))⟩
    refine ⟨?_, s2, o2⟩
    -- what a slot holds behind
    have argAt : ∀ {n i : Nat}, as[n]? = some (.m i) → ∃ o a, args'[n]? = some (Sl.arg o) ∧ σ[i]? = some (some (V.ref a)) ∧ OwAt K w' a o := fun {n i} h1 => by
      obtain ⟨v, v1, v2⟩ := ra.get h1
      have v2' : σ[i]? = some (some v) := v2
      have hn : n < ss.length := by rw [hsl]; exact (List.getElem?_eq_some_iff.mp h1).1
      rcases slotsOf_get hs (List.getElem?_eq_getElem hn) with ⟨x, q1, q2⟩ | ⟨i', o', q1, q2, q3⟩
      · rw [h1] at q1; cases q1
      · rw [h1] at q1
        cases q1
        obtain ⟨a, ha, hO, hnB⟩ := e.ow q2
        have hp := pasOf_mem (k := 0) h1 ha
        rw [Nat.zero_add] at hp
        obtain ⟨k1, o, k2⟩ := E'.pin _ hp
        simp only at k1 k2
        obtain ⟨b, b1, b2, b3⟩ := E'.arg n o k2
        rw [k1] at b1
        cases b1
        exact ⟨o, a, k2, ha, b3⟩
    have nthOf : ∀ {i : Nat}, i ∈ msOf as → ∃ n : Nat, as[n]? = some (.m i) := by
      intro i
      have gen : ∀ (as : List AV), i ∈ msOf as → ∃ n : Nat, as[n]? = some (.m i) := by
        intro as
        induction as with
        | nil => intro h; cases h
        | cons x as ih =>
          intro h
          cases x with
          | d _ =>
            obtain ⟨n, hn⟩ := ih h
            exact ⟨n + 1, by simpa using hn⟩
          | m j =>
            rcases List.mem_cons.mp h with h | h
            · subst h; exact ⟨0, rfl⟩
            · obtain ⟨n, hn⟩ := ih h
              exact ⟨n + 1, by simpa using hn⟩
      exact gen as
    have key : ∀ (j : Nat) (y : Sl), (backs as args' env)[j]? = some y → (j ∉ msOf as ∧ env[j]? = some y) ∨ (∃ (s : Sl) (o : Ow) (a : Addr), j ∈ msOf as ∧ env[j]? = some s ∧ y = s.kin o ∧ isO env[j]? = true ∧ σ[j]? = some (some (V.ref a)) ∧ OwAt K w' a o) := fun j y h => by
      by_cases hj : j ∈ msOf as
      · obtain ⟨n, hn⟩ := nthOf hj
        obtain ⟨o, a, k1, k2, k3⟩ := argAt hn
        rw [backs_at as args' env n j o nd hn k1] at h
        cases qe : env[j]? with
        | none => rw [qe] at h; cases h
        | some s =>
          rw [qe] at h
          cases h
          refine .inr ⟨s, o, a, hj, rfl, rfl, ?_, k2, k3⟩
          have hnl : n < ss.length := by rw [hsl]; exact (List.getElem?_eq_some_iff.mp hn).1
          rcases slotsOf_get hs (List.getElem?_eq_getElem hnl) with ⟨x, q1, q2⟩ | ⟨i', o', q1, q2, q3⟩
          · rw [hn] at q1; cases q1
          · rw [hn] at q1
            cases q1
            rw [← qe]
            exact isO_ow q2
      · rw [backs_other as args' env j hj] at h
        exact .inl ⟨hj, h⟩
    have keyO : ∀ j : Nat, isO (backs as args' env)[j]? = true → isO env[j]? = true := fun j h => by
      cases qb : (backs as args' env)[j]? with
      | none => rw [qb] at h; cases h
      | some y =>
        rcases key j y qb with ⟨_, k2⟩ | ⟨s, o, a, _, _, _, k4, _⟩
        · rw [k2, ← qb]; exact h
        · exact k4
    have other : ∀ {j : Nat} {b : Addr} {o : Ow}, j ∉ msOf as → isO env[j]? = true → σ[j]? = some (some (V.ref b)) → OwAt K w b o → OwAt K ⟨fun p => w.W p ∨ X p, w.B, w'.H⟩ b o := fun {j b o} hj hoj hb h => by
      have nz : ¬ z.W b := fun ⟨i, k1, k2, o', k3⟩ => hj (by rw [e.inj j i b hoj (isO_ow k3) hb k2]; exact k1)
      obtain ⟨x, hx⟩ := some_of h.is.trk
      exact ⟨.inl h.wa, h.is.go e.good s2 ((s'.keep b x nz hx).trans hx.symm)⟩
    have mine : ∀ {a : Addr} {o : Ow}, w.W a → w.O a → OwAt K w' a o → OwAt K ⟨fun p => w.W p ∨ X p, w.B, w'.H⟩ a o := fun {a o} k1 k2 h => by
      refine ⟨.inl k1, ?_⟩
      have is := h.is
      cases o with
      | lst ds =>
        obtain ⟨xs, q1, q2⟩ := is
        exact ⟨xs, q1, q2.goO o2⟩
      | dct ks ds =>
        obtain ⟨xs, ll, q1, q2⟩ := is
        exact ⟨xs, ll, q1, q2.goO o2⟩
    refine ⟨e.g0, g2, e.st.trans s2, by rw [backs_length]; exact e.len, fun j d h => ?_, fun j o h => ?_, fun j o h => ?_, fun j k a h1 h2 h3 h4 => e.inj j k a (keyO j h1) (keyO k h2) h3 h4, fun p hp => ?_⟩
    · rcases key j _ h with ⟨_, k2⟩ | ⟨s, o, a, _, k2, k3, k4, _⟩
      · obtain ⟨v, v1, v2⟩ := e.val j d k2
        exact ⟨v, v1, v2.go e.good s2⟩
      · rw [k2] at k4
        cases s with
        | own _ => cases k3
        | arg _ => cases k3
        | no => cases k4
        | val _ => cases k4
    · rcases key j _ h with ⟨k1, k2⟩ | ⟨s, o', a, _, k2, k3, k4, k5, k6⟩
      · obtain ⟨b, b1, b2, b3⟩ := e.own j o k2
        exact ⟨b, b1, b2, other k1 (by rw [k2]; rfl) b1 b3⟩
      · cases s with
        | own o1 =>
          cases k3
          obtain ⟨b, b1, b2, b3⟩ := e.own j o1 k2
          rw [k5] at b1
          cases b1
          exact ⟨a, k5, b2, mine b3.wa b3.oa k6⟩
        | arg _ => cases k3
        | no => cases k3
        | val _ => cases k3
    · rcases key j _ h with ⟨k1, k2⟩ | ⟨s, o', a, _, k2, k3, k4, k5, k6⟩
      · obtain ⟨b, b1, b2, b3⟩ := e.arg j o k2
        exact ⟨b, b1, b2, other k1 (by rw [k2]; rfl) b1 b3⟩
      · cases s with
        | arg o1 =>
          cases k3
          obtain ⟨b, b1, b2, b3⟩ := e.arg j o1 k2
          rw [k5] at b1
          cases b1
          exact ⟨a, k5, b2, mine b3.wa b3.oa k6⟩
        | own _ => cases k3
        | no => cases k3
        | val _ => cases k3
    · obtain ⟨h1, o, h2⟩ := e.pin p hp
      refine ⟨h1, ?_⟩
      by_cases hj : p.1 ∈ msOf as
      · obtain ⟨n, hn⟩ := nthOf hj
        obtain ⟨o', a, k1, k2, k3⟩ := argAt hn
        rw [backs_at as args' env n p.1 o' nd hn k1, h2]
        exact ⟨o', rfl⟩
      · rw [backs_other as args' env p.1 hj, h2]
        exact ⟨o, rfl⟩
  cases r with
  | val d =>
    obtain ⟨w2, rfl, E2, s2, o2⟩ := back (fun _ => False) fun _ h => h.elim
    exact q v ⟨fun p => w.W p ∨ False, w.B, w'.H⟩ E2 s2 (Rep.goO (show Rep K w' v d from rr) o2)
  | own o =>
    obtain ⟨a, rfl, hn, hO, _⟩ := rr
    obtain ⟨w2, rfl, E2, s2, o2⟩ := back (fun p => p = a) fun p h => by subst h; exact ⟨hn.1, hO.oa, hO.is.trk⟩
    refine q _ ⟨fun p => w.W p ∨ p = a, w.B, w'.H⟩ E2 s2 ⟨a, rfl, ⟨e.st.none_back hn.1, fun k => e.good.dom a (.inr k) hn.1⟩, ⟨.inr rfl, ?_⟩, fun i hi z => ?_⟩
    · have is := hO.is
      cases o with
      | lst ds =>
        obtain ⟨xs, q1, q2⟩ := is
        exact ⟨xs, q1, q2.goO o2⟩
      | dct ks ds =>
        obtain ⟨xs, ll, q1, q2⟩ := is
        exact ⟨xs, ll, q1, q2.goO o2⟩
    · have hi' : isO env[i]? = true := by
        cases qb : (backs as args' env)[i]? with
        | none => rw [qb] at hi; cases hi
        | some y =>
          by_cases hj : i ∈ msOf as
          · obtain ⟨b, o', h1, _, h3⟩ := E2.owned hi
            rw [z] at h1
            cases h1
            -- the slot's object stood ahead of the call
            have : env[i]? ≠ none := fun z2 => by
              have hl : i < (backs as args' env).length := (List.getElem?_eq_some_iff.mp qb).1
              rw [backs_length] at hl
              exact absurd z2 (by rw [List.getElem?_eq_getElem hl]; exact fun k => nomatch k)
            have gen : ∀ (as : List AV) (ss' env2 : List Sl), isO (backs as ss' env2)[i]? = true → isO env2[i]? = true := by
              intro as
              induction as with
              | nil => intro ss' env2 h; cases ss' <;> exact h
              | cons x as ih =>
                intro ss' env2 h
                cases ss' with
                | nil => cases x <;> exact h
                | cons s ss' =>
                  cases x with
                  | d _ => exact ih ss' env2 h
                  | m k =>
                    have h' := ih ss' _ h
                    revert h'
                    split
                    · rename_i o2' _
                      by_cases hk : k = i
                      · subst hk
                        rw [putOw_same]
                        cases env2[k]? with
                        | none => exact fun k => k
                        | some y2 => cases y2 <;> exact fun k => k
                      · rw [putOw_other hk]; exact fun k => k
                    · exact fun k => k
            exact gen as args' env (by rw [qb]; rw [qb] at hi; exact hi)
          · rw [← backs_other as args' env i hj, qb, ← qb]
            exact hi
      exact e.fresh_ne hn.1 i hi' z
theorem em_call {m : FM} {dd : List D} {dvs : List V} {E : XK} {ta : TA} {f : Er} (hd : ∀ w : Wd, Reps K w dvs dd) (ha : ArM K ta f) : EM K (tCall (spM K m) dvs E ta) (e_call m dd f) := by
  intro w0 w σ env e r env' h Q q
  obtain ⟨⟨as, e1⟩, h1, h⟩ := Option.bind_eq_some_iff.mp h
  simp only at h
  split at h
  · rename_i nd
    obtain ⟨ss, h2, h⟩ := Option.bind_eq_some_iff.mp h
    obtain ⟨⟨r', args'⟩, h3, h⟩ := Option.bind_eq_some_iff.mp h
    cases h
    refine ha w0 w σ env e as e1 h1 _ fun vs w1 E1 s1 ra => ?_
    refine run_call E1 (ra.append (RepsA.of (hd w1))) (by rw [msOf_append]; exact nd) h2 h3 Q fun v w2 E2 s2 rr => q v w2 E2 (s1.trans s2) rr
  · cases h
end
end Vz
set_option maxRecDepth 100000
set_option maxHeartbeats 1000000
namespace Vz
open PySem PySem.Spec PyProof.Rows L2 RZ
variable [FnTab]
section
variable {K : PySem.W.Frag} {w w' w1 w2 : Wd} {w0 : W0} {σ : L2.St} {env env' env1 : List Sl}

/-! ### data without lists -/
mutual
def D.lf : D → Bool
  | .non => true
  | .bl _ => true
  | .int _ => true
  | .str _ => true
  | .tup ds => D.lfs ds
  | .lst _ => false
  | .fn _ _ => false
  | .dct _ _ _ => false
def D.lfs : List D → Bool
  | [] => true
  | d :: ds => D.lf d && D.lfs ds
end
def R.lf : R → Bool
  | .val d => d.lf
  | .own (.lst ds) => D.lfs ds
  | .own (.dct _ ds) => D.lfs ds
/-- such data may be kept away from a list, too -/
def NoTup (w w' : Wd) : Prop := w'.H = w.H ∧ ∀ p, w'.O p → w.O p ∨ ∃ u, w.H p = some u ∧ ((∃ xs, u = .lst xs) ∨ ∃ kvs, u = .dK kvs)
mutual
theorem Rep.lfgo (s : NoTup w w') : ∀ {d : D} {v : V}, Rep K w v d → d.lf = true → Rep K w' v d
  | .non, _, h, _ => by cases h; exact .non
  | .bl _, _, h, _ => by cases h; exact .bl _
  | .int _, _, h, _ => by cases h; exact .int _
  | .str _, _, h, _ => by cases h; exact .str _
  | .tup _, _, h, l => by
    cases h with
    | tup a b =>
      refine .tup ⟨by rw [s.1]; exact a.1, fun z => ?_⟩ (Reps.lfgo s b l)
      rcases s.2 _ z with z | ⟨u, z, ⟨xs, e⟩ | ⟨kvs, e⟩⟩
      · exact a.2 z
      all_goals
        subst e
        rcases a.1 with q | ⟨o, q⟩ <;> rw [q] at z <;> cases z
  | .lst _, _, _, l => by cases l
  | .fn _ _, _, _, l => by cases l
  | .dct _ _ _, _, _, l => by cases l
theorem Reps.lfgo (s : NoTup w w') : ∀ {ds : List D} {vs : List V}, Reps K w vs ds → D.lfs ds = true → Reps K w' vs ds
  | [], _, h, _ => by cases h; exact .nil
  | _ :: _, _, h, l => by
    cases h with
    | cons a b =>
      have l' := Bool.and_eq_true_iff.mp (show (D.lf _ && D.lfs _) = true from l)
      exact .cons (Rep.lfgo s a l'.1) (Reps.lfgo s b l'.2)
end

/-! ### reading an object of one's own -/
/-- an operation on an object that is owned; its answer holds no list that stood -/
theorem own_read {a : Addr} {o : Ow} {i : Nat} {z : R} (e : EnvOk K w0 w σ env) (hO : OwAt K w a o ∧ ¬ w.B a) (ha : σ[i]? = some (some (V.ref a))) {Q : VK} {P : Hp → VK → Prop}
    (hz : z.lf = true) (hP : ∀ Q' : VK, (∀ v w', PStep (w.frz a) w' → Good w' → RepZ K (w.frz a) w' v z → Q' v w'.H) → P w.H Q')
    (q : ∀ v w', EnvOk K w0 w' σ env → Step w w' → RepR K w0 w' σ env v z → Q v w'.H) : P w.H Q := by
  obtain ⟨o', ho', hk⟩ : ∃ u, w.H a = some u ∧ ((∃ xs, u = .lst xs) ∨ ∃ kvs, u = .dK kvs) := by
    have is := hO.1.is
    cases o with
    | lst ds => obtain ⟨xs, q1, _⟩ := is; exact ⟨_, q1, .inl ⟨_, rfl⟩⟩
    | dct ks ds => obtain ⟨xs, _, q1, _⟩ := is; exact ⟨_, q1, .inr ⟨_, rfl⟩⟩
  refine hP Q fun v w' s g r => ?_
  have ha' : w'.H a = some o' := s.ext a _ ho'
  let w2 : Wd := ⟨fun p => w'.W p ∨ p = a, w'.B, w'.H⟩
  have g2 : Good w2 := ⟨fun p h => h.elim (fun k => k.elim (fun k => g.dom p (.inl k)) fun k => by subst k; exact ne_none ha') fun k => g.dom p (.inr k)⟩
  have hW : ∀ p, w.W p → w2.W p := fun p h => by
    by_cases k : p = a
    · exact .inr k
    · exact .inl (s.wle p ⟨h, k⟩)
  have p2 : PStep w w2 := ⟨s.ext, hW, s.b1, fun p h => h.elim (fun k => (s.wsub p k).imp (·.1) id) fun k => .inl (by rw [k]; exact hO.1.wa), s.b2⟩
  have nt : NoTup w' w2 := ⟨rfl, fun p h => h.elim (fun k => k.elim (fun k => .inl (.inl k)) fun k => .inr ⟨o', by rw [k]; exact ha', hk⟩) fun k => .inl (.inr k)⟩
  have E2 := e.grow p2 g2
  refine q v w2 E2 p2.step ?_
  cases z with
  | val d => exact Rep.lfgo nt (show Rep K w' v d from r) hz
  | own ow =>
    obtain ⟨b, rfl, hn, hb⟩ := r
    refine RepZ.r e (w' := w2) (z := .own ow) ⟨b, rfl, hn, .inl hb.wa, ?_⟩
    have is := hb.is
    cases ow with
    | lst ds =>
      obtain ⟨xs, q1, q2⟩ := is
      exact ⟨xs, q1, q2.lfgo nt hz⟩
    | dct ks ds =>
      obtain ⟨xs, ll, q1, q2⟩ := is
      exact ⟨xs, ll, q1, q2.lfgo nt hz⟩
/-- op(x, e), x a slot that owns -/
def e2o (op : D → D → Option R) (i : Nat) (g : Ex) : Ex := fun env => match owOf env[i]? with
  | some _ => (vf g env).bind fun q => match owOf q.2[i]? with
    | some o => (op o.d q.1).bind fun z => if z.lf = true then some (z, q.2) else none
    | none => none
  | none => none
theorem em_2o {r : R2} {op : D → D → Option R} {i : Nat} {tb : TE} {g : Ex} (ho : OpM K r op) (hb : EM K tb g) : EM K (tOp r (tVar i) tb) (e2o op i g) := by
  intro w0 w σ env e z env' h Q q
  unfold e2o at h
  split at h
  · rename_i o0 ho0
    obtain ⟨a, ha, _⟩ := e.ow ho0
    obtain ⟨⟨y, e1⟩, h1, h⟩ := Option.bind_eq_some_iff.mp h
    refine ⟨_, ha, ?_⟩
    refine hb.v w0 w σ env e y e1 h1 _ fun u w1 E1 s1 r1 => ?_
    simp only at h
    split at h
    · rename_i o hoo
      obtain ⟨z', h2, h⟩ := Option.bind_eq_some_iff.mp h
      split at h
      · rename_i hl
        cases h
        obtain ⟨a', ha', hO⟩ := E1.ow hoo
        rw [ha] at ha'
        cases ha'
        refine own_read E1 hO ha (P := fun H Q => r (.ref a) u H Q) hl (fun Q' q' => ?_) fun v w' E s rr => q v w' E (s1.trans s) rr
        exact ho (w1.frz a) (Wd.frz_good E1.good a) _ u o.d y (hO.1.frz E1.good hO.2) (r1.go E1.good (w1.frz_step a)) _ h2 Q' q'
      · cases h
    · cases h
  · cases h
/-- op(e, x), x a slot that owns -/
def e2r (op : D → D → Option R) (f : Ex) (i : Nat) : Ex := fun env => (vf f env).bind fun p => match owOf p.2[i]? with
  | some o => (op p.1 o.d).bind fun z => if z.lf = true then some (z, p.2) else none
  | none => none
theorem em_2r {r : R2} {op : D → D → Option R} {i : Nat} {ta : TE} {f : Ex} (ho : OpM K r op) (ha : EM K ta f) : EM K (tOp r ta (tVar i)) (e2r op f i) := by
  intro w0 w σ env e z env' h Q q
  obtain ⟨⟨x, e1⟩, h1, h⟩ := Option.bind_eq_some_iff.mp h
  refine ha.v w0 w σ env e x e1 h1 _ fun u w1 E1 s1 r1 => ?_
  simp only at h
  split at h
  · rename_i o hoo
    obtain ⟨z', h2, h⟩ := Option.bind_eq_some_iff.mp h
    split at h
    · rename_i hl
      cases h
      obtain ⟨a', ha', hO⟩ := E1.ow hoo
      refine ⟨_, ha', ?_⟩
      refine own_read E1 hO ha' (P := fun H Q => r u (.ref a') H Q) hl (fun Q' q' => ?_) fun v w' E s rr => q v w' E (s1.trans s) rr
      exact ho (w1.frz a') (Wd.frz_good E1.good a') u _ x o.d (r1.go E1.good (w1.frz_step a')) (hO.1.frz E1.good hO.2) _ h2 Q' q'
    · cases h
  · cases h
/-- f(x), x a slot that owns, f built in -/
def eBo (op : List D → Option R) (i : Nat) : Ex := fun env => match owOf env[i]? with
  | some o => (op [o.d]).bind fun z => if z.lf = true then some (z, env) else none
  | none => none
theorem em_Bo {r : List V → Hp → VK → Prop} {op : List D → Option R} {i : Nat} (ho : ClM K r op) : EM K (tCB r (tCons (tVar i) tNil)) (eBo op i) := by
  intro w0 w σ env e z env' h Q q
  unfold eBo at h
  split at h
  · rename_i o hoo
    obtain ⟨z', h2, h⟩ := Option.bind_eq_some_iff.mp h
    split at h
    · rename_i hl
      cases h
      obtain ⟨a, ha, hO⟩ := e.ow hoo
      refine ⟨_, ha, ?_⟩
      refine own_read e hO ha (P := fun H Q => r [.ref a] H Q) hl (fun Q' q' => ?_) q
      exact ho (w.frz a) (Wd.frz_good e.good a) _ _ (.cons (hO.1.frz e.good hO.2) .nil) _ h2 Q' q'
    · cases h
  · cases h
/-- x[l:u], x a slot that owns -/
def e_slo (i : Nat) (l u : Eo) : Ex := fun env => match owOf env[i]? with
  | some _ => (l env).bind fun q => (u q.2).bind fun t => match owOf t.2[i]? with
    | some o => (o_sl o.d q.1 t.1).bind fun z => if z.lf = true then some (z, t.2) else none
    | none => none
  | none => none
theorem em_slo {i : Nat} {tl th : TO} {l u : Eo} (hl : OM K tl l) (hu : OM K th u) : EM K (tSl (rSlX K) (tVar i) tl th) (e_slo i l u) := by
  intro w0 w σ env e z env' h Q q
  unfold e_slo at h
  split at h
  · rename_i o0 ho0
    obtain ⟨a, ha, _⟩ := e.ow ho0
    obtain ⟨⟨lo, e2⟩, h2, h⟩ := Option.bind_eq_some_iff.mp h
    obtain ⟨⟨hi, e3⟩, h3, h⟩ := Option.bind_eq_some_iff.mp h
    refine ⟨_, ha, ?_⟩
    refine hl w0 w σ env e lo e2 h2 _ fun w2 E2 s2 => ?_
    refine hu w0 w2 σ e2 E2 hi e3 h3 _ fun w3 E3 s3 => ?_
    simp only at h
    split at h
    · rename_i o hoo
      obtain ⟨z', h4, h⟩ := Option.bind_eq_some_iff.mp h
      split at h
      · rename_i hlf
        cases h
        obtain ⟨a', ha', hO⟩ := E3.ow hoo
        rw [ha] at ha'
        cases ha'
        refine own_read E3 hO ha (P := fun H Q => rSlX K (.ref a) lo hi H Q) hlf (fun Q' fin => ?_) fun v w' E s rr => q v w' E ((s2.trans s3).trans s) rr
        have r3 := hO.1.frz E3.good hO.2
        have gg := Wd.frz_good E3.good a
        cases o with
        | lst ds =>
          cases r3 with
          | lst l r => exact .inl ⟨_, _, rfl, l.sq, fun p hp => outL (w := w3.frz a) gg hp (r.cut lo hi) h4 fin⟩
        | dct ks ds => cases h4
      · cases h
    · cases h
  · cases h
/-- xs.pop() -/
def e_pop (i : Nat) : Ex := fun env => match owOf env[i]? with
  | some (.lst ds) => match ds[ds.length - 1]? with
    | some d => some (.val d, putOw env i (.lst ds.dropLast))
    | none => none
  | _ => none
theorem Reps.dropLast {vs : List V} {ds : List D} (r : Reps K w vs ds) : Reps K w vs.dropLast ds.dropLast := by
  rw [List.dropLast_eq_take, List.dropLast_eq_take, r.length]
  exact r.take _
theorem em_pop {i : Nat} : EM K (tBM0 K "list" rPop (tVar i)) (e_pop i) := by
  intro w0 w σ env e r env' h Q q
  unfold e_pop at h
  split at h
  · rename_i ds ho
    split at h
    · rename_i d hd
      cases h
      obtain ⟨a, ha, hO, _⟩ := e.ow ho
      obtain ⟨xs, hx, rx⟩ := hO.is
      obtain ⟨v, v1, v2⟩ := rx.get hd
      obtain ⟨E2, s2⟩ := e.write ho ha rx.dropLast
      exact ⟨_, ha, .inl ⟨rfl, xs, .inl (.inl hx)⟩, a, xs, v, rfl, rfl, hx, by rw [rx.length]; exact v1, q v _ E2 s2 (v2.go e.good s2)⟩
    · cases h
  · cases h

/-! ### what a for walks -/
theorem itok_list {v : V} {a : Addr} {ds : List D} (g : Good w) (r : Rep K w (.ref a) (.lst ds)) : ItOk K w (Itl K a) ds := by
  intro i w2 g2 s
  have r2 := r.go g s
  cases r2 with
  | lst l rs =>
    refine ⟨fun d hd => ?_, fun h => ⟨_, l.sq, by rw [rs.length]; exact h⟩⟩
    obtain ⟨x, hx, rx⟩ := rs.get hd
    refine ⟨⟨_, x, l.sq, hx⟩, fun y H' hy => ?_⟩
    obtain ⟨rfl, hy⟩ := hy
    have : y = x := Option.some.inj ((hy _ l.sq).symm.trans hx)
    subst this
    exact ⟨w2, rfl, .refl w2, g2, rx⟩
theorem itok_tup {a : Addr} {ds : List D} (g : Good w) (r : Rep K w (.ref a) (.tup ds)) : ItOk K w (Itt K a) ds := by
  intro i w2 g2 s
  have r2 := r.go g s
  cases r2 with
  | tup l rs =>
    refine ⟨fun d hd => ?_, fun h => ⟨_, l.sq, by rw [rs.length]; exact h⟩⟩
    obtain ⟨x, hx, rx⟩ := rs.get hd
    refine ⟨⟨_, x, l.sq, hx⟩, fun y H' hy => ?_⟩
    obtain ⟨rfl, hy⟩ := hy
    have : y = x := Option.some.inj ((hy _ l.sq).symm.trans hx)
    subst this
    exact ⟨w2, rfl, .refl w2, g2, rx⟩
/-- a list or a tuple -/
def iSeq (K : PySem.W.Frag) (tl : TE) : TI := fun σ H R => tl σ H fun x H1 => ∃ a, x = .ref a ∧ (((∃ xs, SqL K H1 a xs) ∧ R (Itl K a) H1) ∨ ((∃ xs, SqT K H1 a xs) ∧ R (Itt K a) H1))
theorem pi_seq {X : Cx} {tg l : Expr} {tl : TE} (hl : PE X l tl) : PI X tg l (iSeq X.K tl) := by
  refine ⟨fun pins s σ H R I h => ?_⟩
  refine thn (hl.run pins s σ H _ I h) fun v s1 ⟨x, H1, I1, r1, q1⟩ => ?_
  obtain ⟨a, e, q⟩ := q1
  subst e
  cases r1
  rcases q with ⟨⟨xs, hq⟩, q⟩ | ⟨⟨xs, hq⟩, q⟩
  · obtain ⟨its, rv, p, hz⟩ := I1.list hq
    refine wpAny_pyIter_list p.isList ?_
    refine ⟨s1.heap.objs.size, [s1.heap.objs.size], _, _, H1, rfl, I1.kept (t' := s1.toks) fun b o e => Heap.get?_push_of_some _ e, turn_list a _, ⟨_, Heap.get?_push_size _ rfl, rfl, rfl⟩, fun b hb => ?_, q⟩
    have e : b = s1.heap.objs.size := by simpa using hb
    subst e
    exact I1.fpOk (Nat.le_refl _) (I1.hok.fresh (Nat.le_refl _))
  · obtain ⟨its, rv, p, hz⟩ := I1.tuple hq
    refine wpAny_pyIter_tuple (show s1.heap.IsTuple a its.toArray from p) ?_
    refine ⟨s1.heap.objs.size, [s1.heap.objs.size], _, _, H1, rfl, I1.kept (t' := s1.toks) fun b o e => Heap.get?_push_of_some _ e, turn_tuple a _, ⟨_, Heap.get?_push_size _ rfl, rfl, rfl⟩, fun b hb => ?_, q⟩
    have e : b = s1.heap.objs.size := by simpa using hb
    subst e
    exact I1.fpOk (Nat.le_refl _) (I1.hok.fresh (Nat.le_refl _))
def s_seq (f : Ex) : Src := fun env => (vf f env).bind fun p => match p.1 with
  | .lst ds => some (ds, p.2)
  | .tup ds => some (ds, p.2)
  | _ => none
theorem im_seq {te : TE} {f : Ex} (hf : EM K te f) : IM K (iSeq K te) (s_seq f) := by
  intro w0 w σ env e ds env' h Q q
  obtain ⟨⟨x, e1⟩, h1, h⟩ := Option.bind_eq_some_iff.mp h
  refine hf.v w0 w σ env e x e1 h1 _ fun v w1 E1 s1 r1 => ?_
  have r1' := r1
  cases r1 with
  | fn _ => first | cases h | cases hh | cases h3
  | dct _ _ => first | cases h | cases hh | cases h3
  | lst l r => cases h; exact ⟨_, rfl, .inl ⟨⟨_, l.sq⟩, q _ w1 E1 s1 (itok_list (v := .non) E1.good r1')⟩⟩
  | tup l r => cases h; exact ⟨_, rfl, .inr ⟨⟨_, l.sq⟩, q _ w1 E1 s1 (itok_tup E1.good r1')⟩⟩
  | non => cases h
  | bl _ => cases h
  | int _ => cases h
  | str _ => cases h
/-- range -/
def rngL (lo : Int) (n : Nat) : List D := (List.range n).map fun (k : Nat) => D.int (lo + (k : Int))
omit [FnTab] in
theorem rngL_get {lo : Int} {n i : Nat} {d : D} (h : (rngL lo n)[i]? = some d) : i < n ∧ d = .int (lo + (i : Int)) := by
  unfold rngL at h
  rw [List.getElem?_map] at h
  by_cases hi : i < n
  · rw [List.getElem?_range hi] at h
    cases h
    exact ⟨hi, rfl⟩
  · rw [List.getElem?_eq_none (by rw [List.length_range]; omega)] at h
    cases h
omit [FnTab] in
theorem rngL_length {lo : Int} {n : Nat} : (rngL lo n).length = n := by unfold rngL; rw [List.length_map, List.length_range]
theorem itok_rng {lo : Int} {n : Nat} : ItOk K w (Itr lo n) (rngL lo n) := by
  intro i w2 g2 s
  refine ⟨fun d hd => ?_, fun h => by rw [rngL_length] at h; exact h⟩
  obtain ⟨h1, rfl⟩ := rngL_get hd
  refine ⟨h1, fun y H' hy => ?_⟩
  obtain ⟨rfl, rfl⟩ := hy
  exact ⟨w2, rfl, .refl w2, g2, .int _⟩
/-- a range's number; by no test that the kernel would count -/
structure rngOK (z : Int) : Prop where
  lo : -(2 ^ 62) ≤ z
  hi : z < 2 ^ 62
open Classical in
noncomputable def s_rng (f : Ea) : Src := fun env => (f env).bind fun p => match p.1 with
  | [.int j] => if rngOK j then some (rngL 0 j.toNat, p.2) else none
  | _ => none
open Classical in
noncomputable def s_rng2 (f : Ea) : Src := fun env => (f env).bind fun p => match p.1 with
  | [.int i, .int j] => if rngOK i ∧ rngOK j then some (rngL i (j - i).toNat, p.2) else none
  | _ => none
theorem im_rng {ta : TA} {f : Ea} (ha : AM K ta f) : IM K (iRng1 ta) (s_rng f) := by
  intro w0 w σ env e ds env' h Q q
  obtain ⟨⟨x, e1⟩, h1, h⟩ := Option.bind_eq_some_iff.mp h
  refine ha w0 w σ env e x e1 h1 _ fun vs w1 E1 s1 r1 => ?_
  simp only at h
  split at h
  · rename_i j
    split at h
    · rename_i hj
      cases h
      cases r1 with
      | cons a b =>
        cases a
        cases b
        exact ⟨j, rfl, hj.lo, hj.hi, q _ w1 E1 s1 itok_rng⟩
    · cases h
  · cases h
theorem im_rng2 {ta : TA} {f : Ea} (ha : AM K ta f) : IM K (iRng2 ta) (s_rng2 f) := by
  intro w0 w σ env e ds env' h Q q
  obtain ⟨⟨x, e1⟩, h1, h⟩ := Option.bind_eq_some_iff.mp h
  refine ha w0 w σ env e x e1 h1 _ fun vs w1 E1 s1 r1 => ?_
  simp only at h
  split at h
  · rename_i i j
    split at h
    · rename_i hj
      cases h
      cases r1 with
      | cons a b =>
        cases a
        cases b with
        | cons a b =>
          cases a
          cases b
          exact ⟨i, j, rfl, ⟨hj.1.lo, hj.1.hi, hj.2.lo, hj.2.hi⟩, q _ w1 E1 s1 itok_rng⟩
    · cases h
  · cases h
/-- enumerate(list) -/
def enumL (n : Nat) : List D → List D
  | [] => []
  | d :: ds => .tup [.int (n : Int), d] :: enumL (n + 1) ds
omit [FnTab] in
theorem enumL_get : ∀ {ds : List D} {n i : Nat} {d : D}, (enumL n ds)[i]? = some d → ∃ x, ds[i]? = some x ∧ d = .tup [.int ((n + i : Nat) : Int), x]
  | [], _, _, _, h => by simp [enumL] at h
  | x :: ds, n, 0, d, h => by simp [enumL] at h; exact ⟨x, rfl, h.symm⟩
  | x :: ds, n, i + 1, d, h => by
    obtain ⟨y, h1, h2⟩ := enumL_get (ds := ds) (n := n + 1) (i := i) (by simpa [enumL] using h)
    exact ⟨y, by simpa using h1, by rw [h2, show n + 1 + i = n + (i + 1) by omega]⟩
omit [FnTab] in
theorem enumL_length : ∀ {ds : List D} {n : Nat}, (enumL n ds).length = ds.length
  | [], _ => rfl
  | _ :: ds, n => congrArg (· + 1) (enumL_length (ds := ds) (n := n + 1))
def s_enum (f : Ea) : Src := fun env => (f env).bind fun p => match p.1 with
  | [.lst ds] => some (enumL 0 ds, p.2)
  | _ => none
theorem im_enum {ta : TA} {f : Ea} (ha : AM K ta f) : IM K (iEnum K ta) (s_enum f) := by
  intro w0 w σ env e ds env' h Q q
  obtain ⟨⟨x, e1⟩, h1, h⟩ := Option.bind_eq_some_iff.mp h
  refine ha w0 w σ env e x e1 h1 _ fun vs w1 E1 s1 r1 => ?_
  simp only at h
  split at h
  · rename_i ds'
    cases h
    cases r1 with
    | cons a b =>
      cases b
      have a' := a
      cases a with
      | @lst p xs _ l r =>
        refine ⟨p, xs, rfl, l.sq, q _ w1 E1 s1 fun i w2 g2 s => ?_⟩
        have r2 := a'.go E1.good s
        cases r2 with
        | lst l2 rs2 =>
          refine ⟨fun d hd => ?_, fun h => ⟨_, l2.sq, by rw [rs2.length]; rw [enumL_length] at h; exact h⟩⟩
          obtain ⟨y, hy, rfl⟩ := enumL_get hd
          obtain ⟨u, hu, ru⟩ := rs2.get hy
          refine ⟨⟨_, u, l2.sq, hu⟩, fun v H' hv => ?_⟩
          obtain ⟨T, u', rfl, hT, rfl, hu'⟩ := hv
          have : u' = u := Option.some.inj ((hu' _ l2.sq).symm.trans hu)
          subst this
          rw [Nat.zero_add]
          exact ⟨w2.put T _, rfl, Wd.put_step hT, Wd.put_good g2 hT, put_tup g2 hT (.cons (.int _) (.cons ru .nil))⟩
  · cases h
/-- zip of two lists -/
def zipL : List D → List D → List D
  | a :: as, b :: bs => .tup [a, b] :: zipL as bs
  | _, _ => []
omit [FnTab] in
theorem zipL_get : ∀ {as bs : List D} {i : Nat} {d : D}, (zipL as bs)[i]? = some d → ∃ x y, as[i]? = some x ∧ bs[i]? = some y ∧ d = .tup [x, y]
  | [], _, _, _, h => by simp [zipL] at h
  | _ :: _, [], _, _, h => by simp [zipL] at h
  | x :: as, y :: bs, 0, d, h => by simp [zipL] at h; exact ⟨x, y, rfl, rfl, h.symm⟩
  | x :: as, y :: bs, i + 1, d, h => by
    obtain ⟨x', y', h1, h2, h3⟩ := zipL_get (as := as) (bs := bs) (i := i) (by simpa [zipL] using h)
    exact ⟨x', y', by simpa using h1, by simpa using h2, h3⟩
omit [FnTab] in
theorem zipL_length : ∀ {as bs : List D}, (zipL as bs).length = min as.length bs.length
  | [], _ => by simp [zipL]
  | _ :: _, [] => by simp [zipL]
  | _ :: as, _ :: bs => by simp [zipL, zipL_length (as := as) (bs := bs)]
def s_zip (f : Ea) : Src := fun env => (f env).bind fun p => match p.1 with
  | [.lst as, .lst bs] => some (zipL as bs, p.2)
  | [.tup as, .tup bs] => some (zipL as bs, p.2)
  | _ => none
theorem im_zip {ta : TA} {f : Ea} (ha : AM K ta f) : IM K (iZipA K ta) (s_zip f) := by
  intro w0 w σ env e ds env' h Q q
  obtain ⟨⟨x, e1⟩, h1, h⟩ := Option.bind_eq_some_iff.mp h
  refine ha w0 w σ env e x e1 h1 _ fun vs w1 E1 s1 r1 => ?_
  simp only at h
  split at h
  · rename_i as bs
    cases h
    cases r1 with
    | cons a b =>
      cases b with
      | cons b c =>
        cases c
        have a' := a
        have b' := b
        cases a with
        | @lst p xs _ l r =>
          cases b with
          | @lst p2 ys _ l2 r2 =>
            refine ⟨p, p2, xs, ys, rfl, .inl ⟨l.sq, l2.sq, q _ w1 E1 s1 fun i w2 g2 s => ?_⟩⟩
            have r3 := a'.go E1.good s
            have r4 := b'.go E1.good s
            cases r3 with
            | lst l3 rs3 =>
              cases r4 with
              | lst l4 rs4 =>
                refine ⟨fun d hd => ?_, fun h => ⟨_, _, l3.sq, l4.sq, by rw [rs3.length, rs4.length]; rw [zipL_length] at h; omega⟩⟩
                obtain ⟨y, z, hy, hz, rfl⟩ := zipL_get hd
                obtain ⟨u, hu, ru⟩ := rs3.get hy
                obtain ⟨t, ht, rt⟩ := rs4.get hz
                refine ⟨⟨_, _, u, t, l3.sq, l4.sq, hu, ht⟩, fun v H' hv => ?_⟩
                obtain ⟨T, u', t', rfl, hT, rfl, hu', ht'⟩ := hv
                have e1 : u' = u := Option.some.inj ((hu' _ l3.sq).symm.trans hu)
                have e2 : t' = t := Option.some.inj ((ht' _ l4.sq).symm.trans ht)
                subst e1 e2
                exact ⟨w2.put T _, rfl, Wd.put_step hT, Wd.put_good g2 hT, put_tup g2 hT (.cons ru (.cons rt .nil))⟩
  · rename_i as bs
    cases h
    cases r1 with
    | cons a b =>
      cases b with
      | cons b c =>
        cases c
        have a' := a
        have b' := b
        cases a with
        | @tup p xs _ l r =>
          cases b with
          | @tup p2 ys _ l2 r2 =>
            refine ⟨p, p2, xs, ys, rfl, .inr ⟨l.sq, l2.sq, q _ w1 E1 s1 fun i w2 g2 s => ?_⟩⟩
            have r3 := a'.go E1.good s
            have r4 := b'.go E1.good s
            cases r3 with
            | tup l3 rs3 =>
              cases r4 with
              | tup l4 rs4 =>
                refine ⟨fun d hd => ?_, fun h => ⟨_, _, l3.sq, l4.sq, by rw [rs3.length, rs4.length]; rw [zipL_length] at h; omega⟩⟩
                obtain ⟨y, z, hy, hz, rfl⟩ := zipL_get hd
                obtain ⟨u, hu, ru⟩ := rs3.get hy
                obtain ⟨t, ht, rt⟩ := rs4.get hz
                refine ⟨⟨_, _, u, t, l3.sq, l4.sq, hu, ht⟩, fun v H' hv => ?_⟩
                obtain ⟨T, u', t', rfl, hT, rfl, hu', ht'⟩ := hv
                have e1 : u' = u := Option.some.inj ((hu' _ l3.sq).symm.trans hu)
                have e2 : t' = t := Option.some.inj ((ht' _ l4.sq).symm.trans ht)
                subst e1 e2
                exact ⟨w2.put T _, rfl, Wd.put_step hT, Wd.put_good g2 hT, put_tup g2 hT (.cons ru (.cons rt .nil))⟩
  · cases h

/-! ### comprehensions -/
/-- an object beside the slots is changed -/
theorem EnvOk.beside {a : Addr} {xs : List V} (e : EnvOk K w0 w σ env) (hO : w.O a) (hW : ¬ w.W a) (hn : w0.H a = none) : EnvOk K w0 { w with H := upd w.H a (.lst xs) } σ env ∧ OStep w { w with H := upd w.H a (.lst xs) } := by
  have o : OStep w { w with H := upd w.H a (.lst xs) } := ⟨fun b u hb h => by
    show upd w.H a _ b = _
    rw [upd_ne (fun z => hb (by rw [z]; exact hO))]; exact h, fun p h => .inl h⟩
  refine ⟨?_, o⟩
  have trk : ∀ b, w.H b ≠ none → upd w.H a (.lst xs) b ≠ none := fun b h => by
    by_cases hb : b = a
    · subst hb; rw [upd_same]; exact fun z => nomatch z
    · rw [upd_ne hb]; exact h
  have ow : ∀ {b : Addr} {ob : Ow}, OwAt K w b ob → OwAt K { w with H := upd w.H a (.lst xs) } b ob := fun {b ob} h => by
    have nb : b ≠ a := fun z => hW (by rw [← z]; exact h.wa)
    exact ⟨h.wa, h.is.goO o (upd_ne nb)⟩
  refine ⟨e.g0, ⟨fun p hp => trk p (e.good.dom p hp)⟩, ⟨fun b u hb h => ?_, fun b h => trk b (e.st.trk b h), e.st.wsub, e.st.b1, e.st.b2⟩, e.len,
    fun i d h => let ⟨v, h1, h2⟩ := e.val i d h; ⟨v, h1, h2.goO o⟩, fun i ob h => let ⟨b, h1, h2, h3⟩ := e.own i ob h; ⟨b, h1, h2, ow h3⟩, fun i ob h => let ⟨b, h1, h2, h3⟩ := e.arg i ob h; ⟨b, h1, h2, ow h3⟩, e.inj, e.pin⟩
  show upd w.H a _ b = _
  rw [upd_ne (fun z => by rw [z, hn] at h; cases h)]
  exact e.st.keep b u hb h
def wipeE (env : List Sl) : List Nat → List Sl
  | [] => env
  | v :: vs => (wipeE env vs).set v .no
/-- the slots vs as they stood -/
def rest (old new : List Sl) (vs : List Nat) : List Sl := new.mapIdx fun i s => if i ∈ vs then old.getD i .no else s
theorem rest_get {old new : List Sl} {vs : List Nat} {i : Nat} : (rest old new vs)[i]? = (new[i]?).map fun s => if i ∈ vs then old.getD i .no else s := by
  unfold rest
  rw [List.getElem?_mapIdx]
theorem wipeE_length : ∀ vs : List Nat, (wipeE env vs).length = env.length
  | [] => rfl
  | v :: vs => by unfold wipeE; rw [List.length_set, wipeE_length vs]
theorem wipe_in {v : Nat} : ∀ {vs : List Nat}, v ∈ vs → v < σ.length → (wipe σ vs)[v]? = some none
  | u :: vs, h, hl => by
    unfold wipe
    by_cases hu : u = v
    · subst hu
      rw [List.getElem?_set_self (by rw [wipe_length]; exact hl)]
    · rw [List.getElem?_set_ne hu]
      exact wipe_in (by rcases List.mem_cons.mp h with h | h; exact absurd h.symm hu; exact h) hl
theorem wipe_out {v : Nat} : ∀ {vs : List Nat}, v ∉ vs → (wipe σ vs)[v]? = σ[v]?
  | [], _ => rfl
  | u :: vs, h => by
    unfold wipe
    rw [List.getElem?_set_ne (fun z => h (by rw [z]; exact List.mem_cons_self))]
    exact wipe_out fun z => h (List.mem_cons_of_mem _ z)
theorem wipe_ext {σ τ : L2.St} {vs : List Nat} (hl : σ.length = τ.length) (h : ∀ v, v ∉ vs → σ[v]? = τ[v]?) : wipe σ vs = wipe τ vs := by
  apply List.ext_getElem?
  intro v
  by_cases hv : v ∈ vs
  · by_cases hb : v < σ.length
    · rw [wipe_in hv hb, wipe_in hv (by omega)]
    · rw [List.getElem?_eq_none (by rw [wipe_length]; omega), List.getElem?_eq_none (by rw [wipe_length]; omega)]
  · rw [wipe_out hv, wipe_out hv, h v hv]
theorem wipe_back {σ τ : L2.St} {vs : List Nat} (h : wipe σ vs = wipe τ vs) {v : Nat} (hv : v ∉ vs) : σ[v]? = τ[v]? := by
  rw [← wipe_out (σ := σ) hv, h, wipe_out hv]
theorem wipe_wipe {vs : List Nat} : wipe (wipe σ vs) vs = wipe σ vs := wipe_ext (wipe_length σ vs) fun _ hv => wipe_out hv
theorem wipeE_out {v : Nat} : ∀ {vs : List Nat}, v ∉ vs → (wipeE env vs)[v]? = env[v]?
  | [], _ => rfl
  | u :: vs, h => by
    unfold wipeE
    rw [List.getElem?_set_ne (fun z => h (by rw [z]; exact List.mem_cons_self))]
    exact wipeE_out fun z => h (List.mem_cons_of_mem _ z)
theorem wipeE_in {v : Nat} : ∀ {vs : List Nat}, v ∈ vs → v < env.length → (wipeE env vs)[v]? = some .no
  | u :: vs, h, hl => by
    unfold wipeE
    by_cases hu : u = v
    · subst hu
      rw [List.getElem?_set_self (by rw [wipeE_length]; exact hl)]
    · rw [List.getElem?_set_ne hu]
      exact wipeE_in (by rcases List.mem_cons.mp h with h | h; exact absurd h.symm hu; exact h) hl
def noOw (env : List Sl) (vs : List Nat) : Bool := vs.all fun v => match env[v]? with
  | some .no => true
  | some (.val _) => true
  | _ => false
theorem noOw_at {vs : List Nat} {v : Nat} (h : noOw env vs = true) (hv : v ∈ vs) : v < env.length ∧ isO env[v]? = false := by
  have q := List.all_eq_true.mp h v hv
  cases e : env[v]? with
  | none => rw [e] at q; cases q
  | some s =>
    refine ⟨(List.getElem?_eq_some_iff.mp e).1, ?_⟩
    cases s <;> rw [e] at q <;> first | rfl | cases q
theorem EnvOk.wipe {vs : List Nat} (e : EnvOk K w0 w σ env) (h : noOw env vs = true) : EnvOk K w0 w (L2.wipe σ vs) (wipeE env vs) := by
  have key : ∀ (j : Nat) (y : Sl), (wipeE env vs)[j]? = some y → y ≠ .no → j ∉ vs ∧ env[j]? = some y ∧ (L2.wipe σ vs)[j]? = σ[j]? := fun j y hj hy => by
    by_cases hv : j ∈ vs
    · rw [wipeE_in hv (noOw_at h hv).1] at hj
      cases hj
      exact absurd rfl hy
    · rw [wipeE_out hv] at hj
      exact ⟨hv, hj, wipe_out hv⟩
  have keyO : ∀ j : Nat, isO (wipeE env vs)[j]? = true → isO env[j]? = true ∧ (L2.wipe σ vs)[j]? = σ[j]? := fun j hj => by
    cases q : (wipeE env vs)[j]? with
    | none => rw [q] at hj; cases hj
    | some y =>
      have hy : y ≠ .no := fun z => by rw [q, z] at hj; cases hj
      obtain ⟨_, h2, h3⟩ := key j y q hy
      rw [q] at hj
      exact ⟨by rw [h2]; exact hj, h3⟩
  refine ⟨e.g0, e.good, e.st, by rw [wipe_length, wipeE_length]; exact e.len, fun i d hi => ?_, fun i o hi => ?_, fun i o hi => ?_, fun i j a h1 h2 h3 h4 => ?_, fun p hp => ?_⟩
  · obtain ⟨_, h2, h3⟩ := key i _ hi (fun z => nomatch z)
    rw [h3]; exact e.val i d h2
  · obtain ⟨_, h2, h3⟩ := key i _ hi (fun z => nomatch z)
    rw [h3]; exact e.own i o h2
  · obtain ⟨_, h2, h3⟩ := key i _ hi (fun z => nomatch z)
    rw [h3]; exact e.arg i o h2
  · obtain ⟨k1, k2⟩ := keyO i h1
    obtain ⟨k3, k4⟩ := keyO j h2
    rw [k2] at h3
    rw [k4] at h4
    exact e.inj i j a k1 k3 h3 h4
  · obtain ⟨h1, o, h2⟩ := e.pin p hp
    have hv : p.1 ∉ vs := fun z => by
      have := (noOw_at h z).2
      rw [h2] at this
      cases this
    exact ⟨by rw [wipe_out hv]; exact h1, o, by rw [wipeE_out hv]; exact h2⟩
/-- the slots behind a turn -/
theorem EnvOk.rest {vs : List Nat} {σ2 : L2.St} {env2 : List Sl} (e : EnvOk K w0 w σ env) (h : noOw env vs = true) (s : Step w w') (E : EnvOk K w0 w' σ2 env2) (hw : L2.wipe σ2 vs = L2.wipe σ vs) (hl : env2.length = env.length) :
    EnvOk K w0 w' σ (Vz.rest env env2 vs) ∧ noOw (Vz.rest env env2 vs) vs = true := by
  have len2 : σ2.length = σ.length := by rw [← wipe_length σ2 vs, hw, wipe_length]
  have key : ∀ (j : Nat) (y : Sl), (Vz.rest env env2 vs)[j]? = some y → (j ∈ vs ∧ env[j]? = some y) ∨ (j ∉ vs ∧ env2[j]? = some y ∧ σ2[j]? = σ[j]?) := fun j y hj => by
    rw [rest_get] at hj
    cases q : env2[j]? with
    | none => rw [q] at hj; cases hj
    | some y2 =>
      rw [q] at hj
      by_cases hv : j ∈ vs
      · simp only [Option.map_some, if_pos hv, Option.some.injEq] at hj
        have hj2 := (noOw_at h hv).1
        rw [List.getD_eq_getElem?_getD, List.getElem?_eq_getElem hj2] at hj
        exact .inl ⟨hv, by rw [List.getElem?_eq_getElem hj2]; exact congrArg some hj⟩
      · simp only [Option.map_some, if_neg hv, Option.some.injEq] at hj
        exact .inr ⟨hv, by rw [hj], wipe_back hw hv⟩
  have keyO : ∀ j : Nat, isO (Vz.rest env env2 vs)[j]? = true → isO env2[j]? = true ∧ σ2[j]? = σ[j]? := fun j hj => by
    cases q : (Vz.rest env env2 vs)[j]? with
    | none => rw [q] at hj; cases hj
    | some y =>
      rcases key j y q with ⟨h1, h2⟩ | ⟨h1, h2, h3⟩
      · have := (noOw_at h h1).2
        rw [h2, ← q, hj] at this
        cases this
      · exact ⟨by rw [h2, ← q]; exact hj, h3⟩
  refine ⟨⟨e.g0, E.good, E.st, ?_, fun i d hi => ?_, fun i o hi => ?_, fun i o hi => ?_, fun i j a h1 h2 h3 h4 => ?_, fun p hp => ?_⟩, ?_⟩
  · unfold Vz.rest
    rw [List.length_mapIdx, hl]
    exact e.len
  · rcases key i _ hi with ⟨h1, h2⟩ | ⟨h1, h2, h3⟩
    · obtain ⟨v, v1, v2⟩ := e.val i d h2
      exact ⟨v, v1, v2.go e.good s⟩
    · rw [← h3]; exact E.val i d h2
  · rcases key i _ hi with ⟨h1, h2⟩ | ⟨h1, h2, h3⟩
    · have := (noOw_at h h1).2
      rw [h2] at this
      cases this
    · rw [← h3]; exact E.own i o h2
  · rcases key i _ hi with ⟨h1, h2⟩ | ⟨h1, h2, h3⟩
    · have := (noOw_at h h1).2
      rw [h2] at this
      cases this
    · rw [← h3]; exact E.arg i o h2
  · obtain ⟨k1, k2⟩ := keyO i h1
    obtain ⟨k3, k4⟩ := keyO j h2
    rw [← k2] at h3
    rw [← k4] at h4
    exact E.inj i j a k1 k3 h3 h4
  · obtain ⟨h1, o, h2⟩ := e.pin p hp
    obtain ⟨_, o', h3⟩ := E.pin p hp
    have hv : p.1 ∉ vs := fun z => by
      have := (noOw_at h z).2
      rw [h2] at this
      cases this
    exact ⟨h1, o', by rw [rest_get, h3]; simp only [Option.map_some, if_neg hv]⟩
  · refine List.all_eq_true.mpr fun v hv => ?_
    have q := List.all_eq_true.mp h v hv
    obtain ⟨hb, _⟩ := noOw_at h hv
    rw [rest_get, List.getElem?_eq_getElem (by rw [hl]; exact hb)]
    simp only [Option.map_some, if_pos hv]
    rw [List.getElem?_eq_getElem hb] at q
    rw [List.getD_eq_getElem?_getD, List.getElem?_eq_getElem hb]
    exact q
/-- a target that stores at vs alone -/
def OnlyG (vs : List Nat) (g : TG) : Prop := ∀ v (σ : L2.St) H (Q Q' : L2.St → Hp → Prop), (∀ σ' H', wipe σ' vs = wipe σ vs → Q σ' H' → Q' σ' H') → g v σ H Q → g v σ H Q'
def OnlyGs (vs : List Nat) (g : TGs) : Prop := ∀ v (σ : L2.St) H (Q Q' : L2.St → Hp → Prop), (∀ σ' H', wipe σ' vs = wipe σ vs → Q σ' H' → Q' σ' H') → g v σ H Q → g v σ H Q'
theorem only_n {i : Nat} {vs : List Nat} (h : i ∈ vs) : OnlyG vs (gName i) := fun v σ H Q Q' m q => m _ _ (wipe_ext List.length_set fun u hu => by rw [List.getElem?_set_ne (fun z => hu (by rw [← z]; exact h))]) q
theorem only_nil {vs : List Nat} : OnlyGs vs gNil := fun v σ H Q Q' m q => ⟨q.1, m _ _ rfl q.2⟩
theorem only_cons {vs : List Nat} {g : TG} {gs : TGs} (h1 : OnlyG vs g) (h2 : OnlyGs vs gs) : OnlyGs vs (gCons g gs) := by
  intro v σ H Q Q' m q
  obtain ⟨x, r, rfl, q⟩ := q
  exact ⟨x, r, rfl, h1 _ _ _ _ _ (fun σ1 H1 z1 q1 => h2 _ _ _ _ _ (fun σ2 H2 z2 q2 => m σ2 H2 (z2.trans z1) q2) q1) q⟩
theorem only_tup {n : Nat} {vs : List Nat} {gs : TGs} (h : OnlyGs vs gs) : OnlyG vs (gTup K n gs) := fun v σ H Q Q' m q => by
  obtain ⟨a, xs, rfl, h1, h2, q⟩ := q
  exact ⟨a, xs, rfl, h1, h2, h _ _ _ _ _ m q⟩
def lcGo (vs : List Nat) (t : Tg) (c : Et) (f : Ex) : List D → List Sl → List D → Option (R × List Sl)
  | [], env, acc => some (.own (.lst acc), env)
  | d :: ds, env, acc => (t (.val d) (wipeE env vs)).bind fun e1 => (c e1).bind fun p => if p.1 = true then
      (vf f p.2).bind fun q => if q.2.length = env.length ∧ acc.length < 100000 then lcGo vs t c f ds (rest env q.2 vs) (acc ++ [q.1]) else none
    else if p.2.length = env.length then lcGo vs t c f ds (rest env p.2 vs) acc else none
def e_lc (vs : List Nat) (t : Tg) (s : Src) (c : Et) (f : Ex) : Ex := fun env => (s env).bind fun p => if noOw p.2 vs = true then lcGo vs t c f p.1 p.2 [] else none
def t_yes : Et := fun env => some (true, env)
theorem tm_yes : TM K tYes t_yes := fun w0 w σ env e b env' h Q q => by cases h; exact q w e (.refl w)
theorem em_lc {wi : TI} {g : TG} {tt : TT} {te : TE} {vs : List Nat} {t : Tg} {s : Src} {c : Et} {f : Ex} (hi : IM K wi s) (hg : GM K g t) (ho : OnlyG vs g) (hc : TM K tt c) (hf : EM K te f) : EM K (tLc wi g tt te vs) (e_lc vs t s c f) := by
  intro w0 w σ env e r env' h Q q
  obtain ⟨⟨ds, e1⟩, k1, h⟩ := Option.bind_eq_some_iff.mp h
  simp only at h
  split at h
  · rename_i hno
    refine hi w0 w σ env e ds e1 k1 _ fun J w1 E1 s1 hJ => ?_
    intro Da hD
    -- the new list stands beside the slots
    let wD : Wd := ⟨w1.W, fun p => w1.B p ∨ p = Da, upd w1.H Da (.lst [])⟩
    have gD : Good wD := ⟨fun p hp => by
      show upd w1.H Da _ p ≠ none
      by_cases hp2 : p = Da
      · subst hp2; rw [upd_same]; exact fun z => nomatch z
      · rw [upd_ne hp2]; exact hp.elim (fun k => E1.good.dom p (.inl k)) fun k => k.elim (fun k => E1.good.dom p (.inr k)) fun k => absurd k hp2⟩
    have pD : PStep w1 wD := ⟨(Wd.put_step (o := .lst []) hD).ext, fun _ h => h, fun _ h => .inl h, fun _ h => .inl h, fun p hp => hp.imp id fun z => by rw [z]; exact hD⟩
    have hD0 : w0.H Da = none := E1.st.none_back hD
    refine ⟨fun i m H' => m + i = ds.length ∧ ∃ (w2 : Wd) (env2 : List Sl) (acc : List D) (xs : List V), w2.H = H' ∧ EnvOk K w0 w2 σ env2 ∧ Step w1 w2 ∧ noOw env2 vs = true ∧ w2.B Da ∧ ¬ w2.W Da ∧ w2.H Da = some (.lst xs) ∧ Reps K w2 xs acc ∧
      lcGo vs t c f (ds.drop i) env2 acc = some (r, env'), ⟨ds.length, by omega, wD, e1, [], [], rfl, E1.grow pD gD, pD.step, hno, .inr rfl, fun z => E1.good.dom Da (.inl z) hD, upd_same, .nil, by simpa using h⟩, ?_⟩
    rintro i m H' ⟨em, w2, env2, acc, xs, rfl, E2, s2, no2, oD, wD2, hDl, rD, hgo⟩
    obtain ⟨j1, j2⟩ := hJ i w2 E2.good s2
    by_cases hl : i < ds.length
    · refine .inr ?_
      have hd : ds[i]? = some ds[i] := List.getElem?_eq_getElem hl
      obtain ⟨jgo, jy⟩ := j1 _ hd
      rw [List.drop_eq_getElem_cons hl] at hgo
      obtain ⟨e4, k4, hgo⟩ := Option.bind_eq_some_iff.mp hgo
      obtain ⟨⟨b, e5⟩, k5, hgo⟩ := Option.bind_eq_some_iff.mp hgo
      refine ⟨jgo, fun H3 => ∃ (w3 : Wd) (env3 : List Sl) (acc3 : List D) (xs3 : List V), w3.H = H3 ∧ EnvOk K w0 w3 σ env3 ∧ Step w1 w3 ∧ noOw env3 vs = true ∧ w3.B Da ∧ ¬ w3.W Da ∧ w3.H Da = some (.lst xs3) ∧ Reps K w3 xs3 acc3 ∧
        lcGo vs t c f (ds.drop (i + 1)) env3 acc3 = some (r, env'), fun H3 hN => ⟨m - 1, by omega, by omega, hN⟩, ?_⟩
      intro x H3 hx
      obtain ⟨w3, rfl, p3, g3, r3⟩ := jy x H3 hx
      have E23 := E2.grow p3 g3
      have E3 : EnvOk K w0 w3 (L2.wipe σ vs) (wipeE env2 vs) := E23.wipe no2
      -- the new list from here on
      have keepD : ∀ {wa : Wd}, Step w3 wa → wa.B Da ∧ ¬ wa.W Da ∧ wa.H Da = some (.lst xs) := fun {wa} sa => by
        have d3 : w3.H Da = some (.lst xs) := p3.ext _ _ hDl
        have nw3 : ¬ w3.W Da := fun z => (p3.wsub _ z).elim wD2 fun k => by rw [hDl] at k; cases k
        exact ⟨sa.b1 _ (p3.b1 _ oD), (fun z => (sa.wsub _ z).elim nw3 fun k => by rw [d3] at k; cases k), sa.keep Da _ nw3 d3⟩
      have both := hg w0 w3 (L2.wipe σ vs) (wipeE env2 vs) E3 x (.val ds[i]) e4 r3 k4 (fun σ4 H4 => ∃ w4 : Wd, w4.H = H4 ∧ EnvOk K w0 w4 σ4 e4 ∧ Step w3 w4) fun w4 σ4 E4 s4 => ⟨w4, rfl, E4, s4⟩
      refine ho _ _ _ _ _ (fun σ4 H4 hw4 q4 => ?_) both
      obtain ⟨w4, rfl, E4, s4⟩ := q4
      have hw4' : L2.wipe σ4 vs = L2.wipe σ vs := hw4.trans wipe_wipe
      refine ⟨hw4', ?_⟩
      refine hc w0 w4 σ4 e4 E4 b e5 k5 _ fun w5 E5 s5 => ?_
      cases b with
      | true =>
        simp only [if_true] at hgo ⊢
        obtain ⟨⟨y, e6⟩, k6, hgo⟩ := Option.bind_eq_some_iff.mp hgo
        refine hf.v w0 w5 σ4 e5 E5 y e6 k6 _ fun v w6 E6 s6 r6 => ?_
        simp only at hgo
        split at hgo
        · rename_i hlen
          have s36 : Step w3 w6 := (s4.trans s5).trans s6
          obtain ⟨b6, n6, d6⟩ := keepD s36
          have rD6 : Reps K w6 xs acc := rD.go E2.good (p3.step.trans s36)
          obtain ⟨E7, no7⟩ := E23.rest no2 s36 E6 hw4' hlen.1
          obtain ⟨E8, o8⟩ := E7.beside (xs := xs ++ [v]) (.inr b6) n6 hD0
          refine ⟨xs, d6, by rw [rD6.length]; exact Nat.lt_of_lt_of_le hlen.2 line5, { w6 with H := upd w6.H Da (.lst (xs ++ [v])) }, _, _, _, rfl, E8, ?_, no7, b6, n6, upd_same, (rD6.append (.cons r6 .nil)).goO o8, hgo⟩
          have s16 : Step w1 w6 := s2.trans (p3.step.trans s36)
          exact ⟨fun p o hp hh => by
            show upd w6.H Da _ p = _
            rw [upd_ne (fun z => by rw [z, hD] at hh; cases hh)]
            exact s16.keep p o hp hh, fun p hp => by
            show upd w6.H Da _ p ≠ none
            by_cases hz : p = Da
            · rw [hz, upd_same]; exact fun z => nomatch z
            · rw [upd_ne hz]; exact s16.trk p hp, s16.wsub, s16.b1, s16.b2⟩
        · cases hgo
      | false =>
        simp only [Bool.false_eq_true, if_false] at hgo ⊢
        split at hgo
        · rename_i hlen
          have s35 : Step w3 w5 := s4.trans s5
          obtain ⟨b5, n5, d5⟩ := keepD s35
          obtain ⟨E7, no7⟩ := E23.rest no2 s35 E5 hw4' hlen
          exact ⟨w5, _, _, xs, rfl, E7, s2.trans (p3.step.trans s35), no7, b5, n5, d5, rD.go E2.good (p3.step.trans s35), hgo⟩
        · cases hgo
    · refine .inl ⟨j2 (by omega), ?_⟩
      rw [List.drop_of_length_le (by omega)] at hgo
      cases hgo
      -- the list is given out
      let w3 : Wd := ⟨fun p => w2.W p ∨ p = Da, fun p => w2.B p ∧ p ≠ Da, w2.H⟩
      have g3 : Good w3 := ⟨fun p hp => hp.elim (fun k => k.elim (fun k => E2.good.dom p (.inl k)) fun k => by rw [k]; exact ne_none hDl) fun k => E2.good.dom p (.inr k.1)⟩
      have o3 : OStep w2 w3 := ⟨fun _ _ _ h => h, fun p hp => .inl (hp.elim (fun k => k.elim .inl fun k => .inr (by rw [k]; exact oD)) fun k => .inr k.1)⟩
      have st : ∀ {wa : Wd}, wa.H Da = none → Step wa w2 → (∀ p, wa.B p → wa.H p ≠ none) → Step wa w3 := fun {wa} hn sa da =>
        ⟨sa.keep, sa.trk, fun p hp => hp.elim (sa.wsub p) fun k => .inr (by rw [k]; exact hn), fun p hp => ⟨sa.b1 p hp, fun z => da p hp (by rw [z]; exact hn)⟩, fun p hp => sa.b2 p hp.1⟩
      have hDw : w.H Da = none := s1.none_back hD
      have E3 : EnvOk K w0 w3 σ env' := by
        refine ⟨E2.g0, g3, st hD0 E2.st fun p hp => E2.g0.dom p (.inr hp), E2.len, fun i d h => let ⟨v, h1, h2⟩ := E2.val i d h; ⟨v, h1, h2.goO o3⟩, fun i o h => ?_, fun i o h => ?_, E2.inj, E2.pin⟩
        · obtain ⟨a, h1, h2, h3⟩ := E2.own i o h
          exact ⟨a, h1, ⟨h2.1, fun z => h2.2 z.1⟩, .inl h3.wa, h3.is.goO o3 rfl⟩
        · obtain ⟨a, h1, h2, h3⟩ := E2.arg i o h
          exact ⟨a, h1, ⟨h2.1, fun z => h2.2 z.1⟩, .inl h3.wa, h3.is.goO o3 rfl⟩
      refine q _ w3 E3 (st hDw (s1.trans s2) fun p hp => e.good.dom p (.inr hp)) ⟨Da, rfl, ⟨hD0, fun z => z.2 rfl⟩, ⟨.inr rfl, xs, hDl, rD.goO o3⟩, fun i hi2 z => ?_⟩
      obtain ⟨a, o, h1, h2, _⟩ := E2.owned hi2
      rw [z] at h1
      cases h1
      exact wD2 h2.1.wa
  · cases h
end
end Vz
set_option maxRecDepth 100000
set_option maxHeartbeats 1000000
namespace Vz
open PySem PySem.Spec PyProof.Rows L2
variable [FnTab]
/-! ### a piece of the text and what it reckons -/
def XE (X : Cx) (e : Expr) (f : Ex) : Prop := ∃ te, PE X e te ∧ EM X.K te f
def XT (X : Cx) (e : Expr) (f : Et) : Prop := ∃ t, PT X e t ∧ TM X.K t f
def XW (X : Cx) (e : Expr) (f : Et) : Prop := ∃ t, PW X e t ∧ TM X.K t f
def XA (X : Cx) (es : List Expr) (f : Ea) : Prop := ∃ t, PA X es t ∧ AM X.K t f
def XR (X : Cx) (es : List Expr) (f : Er) : Prop := ∃ t, PA X es t ∧ ArM X.K t f
def XO (X : Cx) (e : Option Expr) (f : Eo) : Prop := ∃ t, PO X e t ∧ OM X.K t f
def XG (X : Cx) (e : Expr) (f : Tg) : Prop := ∃ t, PG X e t ∧ GM X.K t f
def XGs (X : Cx) (es : List Expr) (f : Tgs) : Prop := ∃ t, PGs X es t ∧ GsM X.K t f
def XI (X : Cx) (tg it : Expr) (f : Src) : Prop := ∃ t, PI X tg it t ∧ IM X.K t f
def XS (X : Cx) (st : Stmt) (f : Cm) : Prop := ∃ t, PS X st t ∧ SM X.K t f
def XB (X : Cx) (st : List Stmt) (f : Cm) : Prop := ∃ t, PSs X st t ∧ SM X.K t f
section
variable {X : Cx} {pos : Pos} {a b c e : Expr} {es : List Expr} {f g h : Ex}

/-! ### values -/
theorem x_int {i j} : XE X (.Constant (.int i) j pos) (e_c (.int i)) := ⟨_, pe_int, em_int⟩
theorem x_bl {b j} : XE X (.Constant (.bool b) j pos) (e_c (.bl b)) := ⟨_, pe_bl, em_bl⟩
theorem x_non {j} : XE X (.Constant .none j pos) (e_c .non) := ⟨_, pe_non, em_non⟩
theorem x_str {x j} : XE X (.Constant (.str x) j pos) (e_c (.str x)) := ⟨_, pe_str, em_str⟩
theorem x_v (i : Nat) {x : Str} (hN : X.N[i]? = some x := by rfl) (hv : Vis X.env.scope x := by first | exact Or.inl rfl | exact Or.inr (Or.inl rfl) | exact Or.inr (Or.inr rfl)) (hd : (x == ("__debug__" : Str)) = false := by decide)
    (hcd : (x == ("__classdict__" : Str)) = false := by decide) : XE X (.Name x pos) (e_v i) := ⟨_, pe_var hN hv hd hcd, em_v⟩
theorem x_tk (i : Nat) {x : Str} (hN : X.N[i]? = some x := by rfl) (hv : Vis X.env.scope x := by first | exact Or.inl rfl | exact Or.inr (Or.inl rfl) | exact Or.inr (Or.inr rfl)) (hd : (x == ("__debug__" : Str)) = false := by decide)
    (hcd : (x == ("__classdict__" : Str)) = false := by decide) : XE X (.Name x pos) (e_take i) := ⟨_, pe_var hN hv hd hcd, em_take⟩
theorem x_fz (i : Nat) {x : Str} (hN : X.N[i]? = some x := by rfl) (hv : Vis X.env.scope x := by first | exact Or.inl rfl | exact Or.inr (Or.inl rfl) | exact Or.inr (Or.inr rfl)) (hd : (x == ("__debug__" : Str)) = false := by decide)
    (hcd : (x == ("__classdict__" : Str)) = false := by decide) : XE X (.Name x pos) (e_fz i) := ⟨_, pe_var hN hv hd hcd, em_fz⟩
theorem x_op {op : Operator} {r : R2} {o : D → D → Option R} (h1 : OpR X (binaryOp op) r) (h2 : OpM X.K r o) (ha : XE X a f) (hb : XE X b g) : XE X (.BinOp a op b pos) (e2 o f g) :=
  let ⟨_, p, q⟩ := ha; let ⟨_, p', q'⟩ := hb; ⟨_, pe_op h1 p p', em_op h2 q q'⟩
/-- the left one owned -/
theorem x_opo {op : Operator} {r : R2} {o : D → D → Option R} (i : Nat) {x : Str} {pos' : Pos} (h1 : OpR X (binaryOp op) r) (h2 : OpM X.K r o) (hb : XE X b g)
    (hN : X.N[i]? = some x := by rfl) (hv : Vis X.env.scope x := by first | exact Or.inl rfl | exact Or.inr (Or.inl rfl) | exact Or.inr (Or.inr rfl)) (hd : (x == ("__debug__" : Str)) = false := by decide)
    (hcd : (x == ("__classdict__" : Str)) = false := by decide) : XE X (.BinOp (.Name x pos') op b pos) (e2o o i g) :=
  let ⟨_, p', q'⟩ := hb; ⟨_, pe_op h1 (pe_var hN hv hd hcd) p', em_2o h2 q'⟩
theorem x_opr {op : Operator} {r : R2} {o : D → D → Option R} (i : Nat) {x : Str} {pos' : Pos} (h1 : OpR X (binaryOp op) r) (h2 : OpM X.K r o) (ha : XE X a f)
    (hN : X.N[i]? = some x := by rfl) (hv : Vis X.env.scope x := by first | exact Or.inl rfl | exact Or.inr (Or.inl rfl) | exact Or.inr (Or.inr rfl)) (hd : (x == ("__debug__" : Str)) = false := by decide)
    (hcd : (x == ("__classdict__" : Str)) = false := by decide) : XE X (.BinOp a op (.Name x pos') pos) (e2r o f i) :=
  let ⟨_, p', q'⟩ := ha; ⟨_, pe_op h1 p' (pe_var hN hv hd hcd), em_2r h2 q'⟩
theorem x_add (ha : XE X a f) (hb : XE X b g) : XE X (.BinOp a .Add b pos) (e2 o_add f g) := x_op op_addX opm_add ha hb
theorem x_sub (ha : XE X a f) (hb : XE X b g) : XE X (.BinOp a .Sub b pos) (e2 o_sub f g) := x_op op_sub opm_sub ha hb
theorem x_fdiv (ha : XE X a f) (hb : XE X b g) : XE X (.BinOp a .FloorDiv b pos) (e2 o_fdiv f g) := x_op op_fdivX opm_II ha hb
theorem x_mod (ha : XE X a f) (hb : XE X b g) : XE X (.BinOp a .Mod b pos) (e2 o_mod f g) := x_op op_modN opm_II ha hb
theorem x_pow (ha : XE X a f) (hb : XE X b g) : XE X (.BinOp a .Pow b pos) (e2 o_pow f g) := x_op op_pow opm_II ha hb
theorem x_neg (ha : XE X a f) : XE X (.UnaryOp .USub a pos) (e1 o_neg f) := let ⟨_, p, q⟩ := ha; ⟨_, pe_un un_neg p, em_un un_neg' q⟩

/-! ### comparisons -/
theorem x_cmp {op : CmpOp} {r : R2} {o : D → D → Option R} (h1 : OpR X (compareOp op) r) (h2 : OpM X.K r o) (ha : XE X a f) (hb : XE X b g) (hm : behindInMarks op b = false := by first | exact nomark _ | rfl) : XE X (.Compare a [op] [b] pos) (e2 o f g) :=
  let ⟨_, p, q⟩ := ha; let ⟨_, p', q'⟩ := hb; ⟨_, pe_cmpR h1 p p' hm, em_op h2 q q'⟩
theorem x_cmpo {op : CmpOp} {r : R2} {o : D → D → Option R} (i : Nat) {x : Str} {pos' : Pos} (h1 : OpR X (compareOp op) r) (h2 : OpM X.K r o) (hb : XE X b g) (hm : behindInMarks op b = false := by first | exact nomark _ | rfl)
    (hN : X.N[i]? = some x := by rfl) (hv : Vis X.env.scope x := by first | exact Or.inl rfl | exact Or.inr (Or.inl rfl) | exact Or.inr (Or.inr rfl)) (hd : (x == ("__debug__" : Str)) = false := by decide)
    (hcd : (x == ("__classdict__" : Str)) = false := by decide) : XE X (.Compare (.Name x pos') [op] [b] pos) (e2o o i g) :=
  let ⟨_, p', q'⟩ := hb; ⟨_, pe_cmpR h1 (pe_var hN hv hd hcd) p' hm, em_2o h2 q'⟩
theorem x_cmpr {op : CmpOp} {r : R2} {o : D → D → Option R} (i : Nat) {x : Str} {pos' : Pos} (h1 : OpR X (compareOp op) r) (h2 : OpM X.K r o) (ha : XE X a f) (hm : behindInMarks op (.Name x pos') = false := by first | exact nomark _ | rfl)
    (hN : X.N[i]? = some x := by rfl) (hv : Vis X.env.scope x := by first | exact Or.inl rfl | exact Or.inr (Or.inl rfl) | exact Or.inr (Or.inr rfl)) (hd : (x == ("__debug__" : Str)) = false := by decide)
    (hcd : (x == ("__classdict__" : Str)) = false := by decide) : XE X (.Compare a [op] [.Name x pos'] pos) (e2r o f i) :=
  let ⟨_, p', q'⟩ := ha; ⟨_, pe_cmpR h1 p' (pe_var hN hv hd hcd) hm, em_2r h2 q'⟩
theorem x_chain {op op' : CmpOp} {r r' : R2} {o o' : D → D → Option R} (h1 : OpR X (compareOp op) r) (h1' : OpR X (compareOp op') r') (h2 : OpM X.K r o) (h2' : OpM X.K r' o') (ha : XE X a f) (hb : XE X b g) (hc : XE X c h)
    (hm : lastMarks [op, op'] [b, c] = false := by with_unfolding_all rfl) : XE X (.Compare a [op, op'] [b, c] pos) (e_chain o o' f g h) :=
  let ⟨_, p, q⟩ := ha; let ⟨_, p', q'⟩ := hb; let ⟨_, p2, q2⟩ := hc; ⟨_, pe_chain h1 h1' p p' p2 hm, em_chain h2 h2' q q' q2⟩

/-! ### tests -/
theorem xt_cmp {op : CmpOp} {r : R2} {o : D → D → Option R} (h1 : OpR X (compareOp op) r) (h2 : OpM X.K r o) (ha : XE X a f) (hb : XE X b g) (hm : behindInMarks op b = false := by first | exact nomark _ | rfl) : XT X (.Compare a [op] [b] pos) (bf (e2 o f g)) :=
  let ⟨_, p, q⟩ := ha; let ⟨_, p', q'⟩ := hb; ⟨_, pt_cmpR h1 p p' hm, tm_test (em_op h2 q q')⟩
theorem xt_cmpo {op : CmpOp} {r : R2} {o : D → D → Option R} (i : Nat) {x : Str} {pos' : Pos} (h1 : OpR X (compareOp op) r) (h2 : OpM X.K r o) (hb : XE X b g) (hm : behindInMarks op b = false := by first | exact nomark _ | rfl)
    (hN : X.N[i]? = some x := by rfl) (hv : Vis X.env.scope x := by first | exact Or.inl rfl | exact Or.inr (Or.inl rfl) | exact Or.inr (Or.inr rfl)) (hd : (x == ("__debug__" : Str)) = false := by decide)
    (hcd : (x == ("__classdict__" : Str)) = false := by decide) : XT X (.Compare (.Name x pos') [op] [b] pos) (bf (e2o o i g)) :=
  let ⟨_, p', q'⟩ := hb; ⟨_, pt_cmpR h1 (pe_var hN hv hd hcd) p' hm, tm_test (em_2o h2 q')⟩
theorem xt_cmpr {op : CmpOp} {r : R2} {o : D → D → Option R} (i : Nat) {x : Str} {pos' : Pos} (h1 : OpR X (compareOp op) r) (h2 : OpM X.K r o) (ha : XE X a f) (hm : behindInMarks op (.Name x pos') = false := by first | exact nomark _ | rfl)
    (hN : X.N[i]? = some x := by rfl) (hv : Vis X.env.scope x := by first | exact Or.inl rfl | exact Or.inr (Or.inl rfl) | exact Or.inr (Or.inr rfl)) (hd : (x == ("__debug__" : Str)) = false := by decide)
    (hcd : (x == ("__classdict__" : Str)) = false := by decide) : XT X (.Compare a [op] [.Name x pos'] pos) (bf (e2r o f i)) :=
  let ⟨_, p', q'⟩ := ha; ⟨_, pt_cmpR h1 p' (pe_var hN hv hd hcd) hm, tm_test (em_2r h2 q')⟩
theorem xt_chain {op op' : CmpOp} {r r' : R2} {o o' : D → D → Option R} (h1 : OpR X (compareOp op) r) (h1' : OpR X (compareOp op') r') (h2 : OpM X.K r o) (h2' : OpM X.K r' o') (ha : XE X a f) (hb : XE X b g) (hc : XE X c h)
    (hm : lastMarks [op, op'] [b, c] = false := by with_unfolding_all rfl) : XT X (.Compare a [op, op'] [b, c] pos) (bf (e_chain o o' f g h)) :=
  let ⟨_, p, q⟩ := ha; let ⟨_, p', q'⟩ := hb; let ⟨_, p2, q2⟩ := hc; ⟨_, pt_chain h1 h1' p p' p2 hm, tm_test (em_chain h2 h2' q q' q2)⟩
theorem xt_tru (ha : XE X a f) (he : ∀ whole, isTrue a X.env whole = (do let v ← whole; standAt a.pos; holding [v] (truthy v)) := by intro _; rfl) : XT X a (t_tru f) := let ⟨_, p, q⟩ := ha; ⟨_, pt_truth p he, tm_tru q⟩
theorem xt_not {t : Et} (ha : XT X a t) : XT X (.UnaryOp .Not a pos) (t_not t) := let ⟨_, p, q⟩ := ha; ⟨_, pt_not p, tm_not q⟩
theorem xw_and1 {t : Et} (ha : XT X a t) : XW X (.BoolOp .And [a] pos) t := let ⟨_, p, q⟩ := ha; ⟨_, pw_and1 p, q⟩
theorem xw_or1 {t : Et} (ha : XT X a t) : XW X (.BoolOp .Or [a] pos) t := let ⟨_, p, q⟩ := ha; ⟨_, pw_or1 p, q⟩
theorem xw_and {t u : Et} (ha : XT X a t) (hb : XW X (.BoolOp .And (b :: es) pos) u) : XW X (.BoolOp .And (a :: b :: es) pos) (t_and t u) := let ⟨_, p, q⟩ := ha; let ⟨_, p', q'⟩ := hb; ⟨_, pw_and p p', tm_and q q'⟩
theorem xw_or {t u : Et} (ha : XT X a t) (hb : XW X (.BoolOp .Or (b :: es) pos) u) : XW X (.BoolOp .Or (a :: b :: es) pos) (t_or t u) := let ⟨_, p, q⟩ := ha; let ⟨_, p', q'⟩ := hb; ⟨_, pw_or p p', tm_or q q'⟩
theorem xt_w {t : Et} (h : XW X a t) : XT X a t := let ⟨_, p, q⟩ := h; ⟨_, p.pt, q⟩
/-- .. as values -/
theorem x_one {op} (h : XE X a f) : XE X (.BoolOp op [a] pos) f := let ⟨_, p, q⟩ := h; ⟨_, pe_one p, q⟩
theorem x_and (ha : XE X a f) (hb : XE X (.BoolOp .And (b :: es) pos) g) : XE X (.BoolOp .And (a :: b :: es) pos) (tv (t_and (bf f) (bf g))) := let ⟨_, p, q⟩ := ha; let ⟨_, p', q'⟩ := hb; ⟨_, pe_and p p', em_andV q q'⟩
theorem x_or (ha : XE X a f) (hb : XE X (.BoolOp .Or (b :: es) pos) g) : XE X (.BoolOp .Or (a :: b :: es) pos) (tv (t_or (bf f) (bf g))) := let ⟨_, p, q⟩ := ha; let ⟨_, p', q'⟩ := hb; ⟨_, pe_or p p', em_orV q q'⟩
theorem x_not (ha : XE X a f) : XE X (.UnaryOp .Not a pos) (tv (t_not (bf f))) := let ⟨_, p, q⟩ := ha; ⟨_, pe_not p, em_notV q⟩
theorem x_if {t : Et} (hc : XT X c t) (ha : XE X a f) (hb : XE X b g) : XE X (.IfExp c a b pos) (e_if t f g) := let ⟨_, p, q⟩ := hc; let ⟨_, p', q'⟩ := ha; let ⟨_, p2, q2⟩ := hb; ⟨_, pe_ifExp p p' p2, em_if q q' q2⟩

/-! ### lists, tuples, items -/
theorem xa_nil : XA X [] a_nil := ⟨_, pa_nil, am_nil⟩
theorem xa_cons {l : Ea} (ha : XE X e f) (hr : XA X es l) (hs : starEach (e :: es) X.env = (false, eval e X.env) :: starEach es X.env := by rfl) : XA X (e :: es) (a_cons f l) := let ⟨_, p, q⟩ := ha; let ⟨_, p', q'⟩ := hr; ⟨_, pa_cons p p' hs, am_cons q q'⟩
theorem x_tup {x1} {l : Ea} (h : XA X es l) : XE X (.Tuple es x1 pos) (eB o_tup l) := let ⟨_, p, q⟩ := h; ⟨_, pe_tup p, em_tup q⟩
theorem x_lst {l : Ea} (h : XA X es l) : XE X (.List es pos) (eB o_lst l) := let ⟨_, p, q⟩ := h; ⟨_, pe_lst p, em_lst q⟩
theorem x_ix (ha : XE X a f) (hb : XE X b g) (hs : PlainIx b := by exact fun _ _ => rfl) : XE X (.Subscript a b pos) (e2 o_ix f g) := let ⟨_, p, q⟩ := ha; let ⟨_, p', q'⟩ := hb; ⟨_, pe_ix ix_seq p p' hs, em_op opm_ix q q'⟩
theorem x_ixo (i : Nat) {x : Str} {pos' : Pos} (hb : XE X b g) (hs : PlainIx b := by exact fun _ _ => rfl)
    (hN : X.N[i]? = some x := by rfl) (hv : Vis X.env.scope x := by first | exact Or.inl rfl | exact Or.inr (Or.inl rfl) | exact Or.inr (Or.inr rfl)) (hd : (x == ("__debug__" : Str)) = false := by decide)
    (hcd : (x == ("__classdict__" : Str)) = false := by decide) : XE X (.Subscript (.Name x pos') b pos) (e2o o_ix i g) := let ⟨_, p', q'⟩ := hb; ⟨_, pe_ix ix_seq (pe_var hN hv hd hcd) p' hs, em_2o opm_ix q'⟩
theorem xo_no : XO X none p_no := ⟨_, po_none, om_no⟩
theorem xo_at (ha : XE X a f) : XO X (some a) (p_at f) := let ⟨_, p, q⟩ := ha; ⟨_, po_some p, om_at q⟩
theorem x_sl {lo hi : Option Expr} {p2 : Pos} {l u : Eo} (ha : XE X a f) (hl : XO X lo l) (hu : XO X hi u) : XE X (.Subscript a (.Slice lo hi none p2) pos) (e_sl f l u) :=
  let ⟨_, p, q⟩ := ha; let ⟨_, p', q'⟩ := hl; let ⟨_, p3, q3⟩ := hu; ⟨_, pe_slice sl_X p p' p3, em_sl q q' q3⟩
theorem x_slo (i : Nat) {x : Str} {pos' : Pos} {lo hi : Option Expr} {p2 : Pos} {l u : Eo} (hl : XO X lo l) (hu : XO X hi u)
    (hN : X.N[i]? = some x := by rfl) (hv : Vis X.env.scope x := by first | exact Or.inl rfl | exact Or.inr (Or.inl rfl) | exact Or.inr (Or.inr rfl)) (hd : (x == ("__debug__" : Str)) = false := by decide)
    (hcd : (x == ("__classdict__" : Str)) = false := by decide) : XE X (.Subscript (.Name x pos') (.Slice lo hi none p2) pos) (e_slo i l u) :=
  let ⟨_, p', q'⟩ := hl; let ⟨_, p3, q3⟩ := hu; ⟨_, pe_slice sl_X (pe_var hN hv hd hcd) p' p3, em_slo q' q3⟩

/-! ### built-in functions -/
variable {x : Str} {p : Pos} {id T : String} {l : Ea}
theorem x_B {r : List V → Hp → VK → Prop} {o : List D → Option R} (hc : CallR X (.builtin id) r) (h2 : ClM X.K r o) (hg : Gl X x) (hm : X.mg x = none) (hv : bootBuiltins x = some (.builtin id)) (ha : XA X (e :: es) l) (hn : x ≠ "__name__" := by decide) (hdb : (x == ("__debug__" : Str)) = false := by decide)
    (he : starEach (e :: es) X.env = (false, eval e X.env) :: starEach es X.env := by rfl) (hpl : (backTo pos (starEach es X.env)).any (·.1) = false := by rfl) : XE X (.Call (.Name x p) (e :: es) [] pos) (eB o l) :=
  let ⟨_, p', q'⟩ := ha; ⟨_, pe_callB hc hg hm hv p' hn hdb he hpl, em_B h2 q'⟩
theorem x_Ty {r : List V → Hp → VK → Prop} {o : List D → Option R} (hc : CallR X (.type T) r) (h2 : ClM X.K r o) (hg : Gl X x) (hm : X.mg x = none) (hv : bootBuiltins x = some (.type T)) (ha : XA X (e :: es) l) (hn : x ≠ "__name__" := by decide) (hdb : (x == ("__debug__" : Str)) = false := by decide)
    (he : starEach (e :: es) X.env = (false, eval e X.env) :: starEach es X.env := by rfl) (hpl : (backTo pos (starEach es X.env)).any (·.1) = false := by rfl) : XE X (.Call (.Name x p) (e :: es) [] pos) (eB o l) :=
  let ⟨_, p', q'⟩ := ha; ⟨_, pe_callTy hc hg hm hv p' hn hdb he hpl, em_B h2 q'⟩
/-- of an owned one -/
theorem x_Bo (i : Nat) {y : Str} {pos' : Pos} {r : List V → Hp → VK → Prop} {o : List D → Option R} (hc : CallR X (.builtin id) r) (h2 : ClM X.K r o) (hg : Gl X x) (hm : X.mg x = none) (hv : bootBuiltins x = some (.builtin id)) (hn : x ≠ "__name__" := by decide) (hdb : (x == ("__debug__" : Str)) = false := by decide)
    (he : starEach (.Name y pos' :: []) X.env = (false, eval (.Name y pos') X.env) :: starEach [] X.env := by rfl) (hpl : (backTo pos (starEach [] X.env)).any (·.1) = false := by rfl)
    (hN : X.N[i]? = some y := by rfl) (hvi : Vis X.env.scope y := by first | exact Or.inl rfl | exact Or.inr (Or.inl rfl) | exact Or.inr (Or.inr rfl)) (hd : (y == ("__debug__" : Str)) = false := by decide)
    (hcd : (y == ("__classdict__" : Str)) = false := by decide) : XE X (.Call (.Name x p) [.Name y pos'] [] pos) (eBo o i) :=
  ⟨_, pe_callB hc hg hm hv (pa_cons (pe_var hN hvi hd hcd) pa_nil he) hn hdb he hpl, em_Bo h2⟩
theorem x_Tyo (i : Nat) {y : Str} {pos' : Pos} {r : List V → Hp → VK → Prop} {o : List D → Option R} (hc : CallR X (.type T) r) (h2 : ClM X.K r o) (hg : Gl X x) (hm : X.mg x = none) (hv : bootBuiltins x = some (.type T)) (hn : x ≠ "__name__" := by decide) (hdb : (x == ("__debug__" : Str)) = false := by decide)
    (he : starEach (.Name y pos' :: []) X.env = (false, eval (.Name y pos') X.env) :: starEach [] X.env := by rfl) (hpl : (backTo pos (starEach [] X.env)).any (·.1) = false := by rfl)
    (hN : X.N[i]? = some y := by rfl) (hvi : Vis X.env.scope y := by first | exact Or.inl rfl | exact Or.inr (Or.inl rfl) | exact Or.inr (Or.inr rfl)) (hd : (y == ("__debug__" : Str)) = false := by decide)
    (hcd : (y == ("__classdict__" : Str)) = false := by decide) : XE X (.Call (.Name x p) [.Name y pos'] [] pos) (eBo o i) :=
  ⟨_, pe_callTy hc hg hm hv (pa_cons (pe_var hN hvi hd hcd) pa_nil he) hn hdb he hpl, em_Bo h2⟩
theorem x_abs (hm : X.mg "abs" = none) (ha : XA X (e :: es) l) (hg : Gl X "abs" := by rfl) (he : starEach (e :: es) X.env = (false, eval e X.env) :: starEach es X.env := by rfl) (hpl : (backTo pos (starEach es X.env)).any (·.1) = false := by rfl) :
    XE X (.Call (.Name "abs" p) (e :: es) [] pos) (eB (f1 o_abs) l) := x_B call_abs cl_abs hg hm (by decide +kernel) ha (by decide) (by decide) he hpl
theorem x_len (hm : X.mg "len" = none) (ha : XA X (e :: es) l) (hg : Gl X "len" := by rfl) (he : starEach (e :: es) X.env = (false, eval e X.env) :: starEach es X.env := by rfl) (hpl : (backTo pos (starEach es X.env)).any (·.1) = false := by rfl) :
    XE X (.Call (.Name "len" p) (e :: es) [] pos) (eB (f1 o_len) l) := x_B call_len cl_len hg hm PySem.boot_len ha (by decide) (by decide) he hpl
theorem x_leno (i : Nat) {y : Str} {pos' : Pos} (hm : X.mg "len" = none) (hg : Gl X "len" := by rfl)
    (he : starEach (.Name y pos' :: []) X.env = (false, eval (.Name y pos') X.env) :: starEach [] X.env := by rfl) (hpl : (backTo pos (starEach [] X.env)).any (·.1) = false := by rfl)
    (hN : X.N[i]? = some y := by rfl) (hvi : Vis X.env.scope y := by first | exact Or.inl rfl | exact Or.inr (Or.inl rfl) | exact Or.inr (Or.inr rfl)) (hd : (y == ("__debug__" : Str)) = false := by decide)
    (hcd : (y == ("__classdict__" : Str)) = false := by decide) : XE X (.Call (.Name "len" p) [.Name y pos'] [] pos) (eBo (f1 o_len) i) :=
  x_Bo i call_len cl_len hg hm PySem.boot_len (by decide) (by decide) he hpl hN hvi hd hcd
theorem x_max2 {e2 : Expr} (hc : X.calm = true) (hm : X.mg "max" = none) (ha : XA X [e, e2] l) (hg : Gl X "max" := by rfl) (he : starEach [e, e2] X.env = (false, eval e X.env) :: starEach [e2] X.env := by rfl) (hpl : (backTo pos (starEach [e2] X.env)).any (·.1) = false := by rfl) :
    XE X (.Call (.Name "max" p) [e, e2] [] pos) (eB (f2 o_max2) l) := x_B (call_max2 hc) cl_max2 hg hm (by decide +kernel) ha (by decide) (by decide) he hpl
theorem x_min2 {e2 : Expr} (hc : X.calm = true) (hm : X.mg "min" = none) (ha : XA X [e, e2] l) (hg : Gl X "min" := by rfl) (he : starEach [e, e2] X.env = (false, eval e X.env) :: starEach [e2] X.env := by rfl) (hpl : (backTo pos (starEach [e2] X.env)).any (·.1) = false := by rfl) :
    XE X (.Call (.Name "min" p) [e, e2] [] pos) (eB (f2 o_min2) l) := x_B (call_min2 hc) cl_min2 hg hm (by decide +kernel) ha (by decide) (by decide) he hpl
theorem x_any (hc : X.calm = true) (hm : X.mg "any" = none) (ha : XA X (e :: es) l) (hg : Gl X "any" := by rfl) (he : starEach (e :: es) X.env = (false, eval e X.env) :: starEach es X.env := by rfl) (hpl : (backTo pos (starEach es X.env)).any (·.1) = false := by rfl) :
    XE X (.Call (.Name "any" p) (e :: es) [] pos) (eB (f1 o_any) l) := x_B (cr_any hc) cl_any hg hm (by decide +kernel) ha (by decide) (by decide) he hpl
theorem x_all (hc : X.calm = true) (hm : X.mg "all" = none) (ha : XA X (e :: es) l) (hg : Gl X "all" := by rfl) (he : starEach (e :: es) X.env = (false, eval e X.env) :: starEach es X.env := by rfl) (hpl : (backTo pos (starEach es X.env)).any (·.1) = false := by rfl) :
    XE X (.Call (.Name "all" p) (e :: es) [] pos) (eB (f1 o_all) l) := x_B (cr_all hc) cl_all hg hm (by decide +kernel) ha (by decide) (by decide) he hpl
theorem x_intc (hm : X.mg "int" = none) (ha : XA X (e :: es) l) (hg : Gl X "int" := by rfl) (he : starEach (e :: es) X.env = (false, eval e X.env) :: starEach es X.env := by rfl) (hpl : (backTo pos (starEach es X.env)).any (·.1) = false := by rfl) :
    XE X (.Call (.Name "int" p) (e :: es) [] pos) (eB (f1 o_int) l) := x_Ty call_int1 cl_int hg hm (by decide +kernel) ha (by decide) (by decide) he hpl
theorem x_strc (hm : X.mg "str" = none) (ha : XA X (e :: es) l) (hg : Gl X "str" := by rfl) (he : starEach (e :: es) X.env = (false, eval e X.env) :: starEach es X.env := by rfl) (hpl : (backTo pos (starEach es X.env)).any (·.1) = false := by rfl) :
    XE X (.Call (.Name "str" p) (e :: es) [] pos) (eB (f1 o_str) l) := x_Ty call_str_int cl_str hg hm (by decide +kernel) ha (by decide) (by decide) he hpl
theorem x_listc (hm : X.mg "list" = none) (ha : XA X (e :: es) l) (hg : Gl X "list" := by rfl) (he : starEach (e :: es) X.env = (false, eval e X.env) :: starEach es X.env := by rfl) (hpl : (backTo pos (starEach es X.env)).any (·.1) = false := by rfl) :
    XE X (.Call (.Name "list" p) (e :: es) [] pos) (eB (f1 o_list) l) := x_Ty call_list_of cl_list hg hm (by decide +kernel) ha (by decide) (by decide) he hpl
theorem x_tupc (hm : X.mg "tuple" = none) (ha : XA X (e :: es) l) (hg : Gl X "tuple" := by rfl) (he : starEach (e :: es) X.env = (false, eval e X.env) :: starEach es X.env := by rfl) (hpl : (backTo pos (starEach es X.env)).any (·.1) = false := by rfl) :
    XE X (.Call (.Name "tuple" p) (e :: es) [] pos) (eB (f1 o_tuple) l) := x_Ty call_tuple_of cl_tuple hg hm (by decide +kernel) ha (by decide) (by decide) he hpl
/-- isinstance(x, T), T built in -/
theorem x_isi {n : Str} {p' : Pos} (T : String) (hm : X.mg "isinstance" = none) (hmt : X.mg n = none) (hvt : bootBuiltins n = some (.type T)) (ha : XE X e f) (hg : Gl X "isinstance" := by rfl) (hgt : Gl X n := by rfl) (hn : n ≠ "__name__" := by decide) (hdb : (n == ("__debug__" : Str)) = false := by decide)
    (he : starEach [e, .Name n p'] X.env = (false, eval e X.env) :: starEach [.Name n p'] X.env := by rfl) (he2 : starEach [.Name n p'] X.env = (false, eval (.Name n p') X.env) :: starEach [] X.env := by rfl) (hpl : (backTo pos (starEach [.Name n p'] X.env)).any (·.1) = false := by rfl) :
    XE X (.Call (.Name "isinstance" p) [e, .Name n p'] [] pos) (e1 (o_isi T) f) :=
  let ⟨_, q1, q2⟩ := ha; ⟨_, pe_callB call_isi hg hm (by decide +kernel) (pa_cons q1 (pa_cons (pe_bltn (v := .ty T) hgt hmt hvt rfl hn hdb) pa_nil he2) he) (by decide) (by decide) he hpl, em_isi q2⟩

/-! ### defs -/
/-- a def of the program by its name: what it reckons, its defaults -/
def FnU (P : Program) (w : World) (K : PySem.W.Frag) (mg : Str → Option Value) (base : Heap) (k : Nat) (x : Str) (m : FM) (dd : List D) : Prop :=
  ∃ (f : Addr) (fd : FuncData) (ps : List Str) (dvs : List V) (ds : List Value), FnOk P w K mg base CX0 k f fd ps (spM K m) ∧ mg x = some (.ref f) ∧ PySem.W.keepIn K (.ref f) = true ∧ Binds K fd ps ds ∧ Vals dvs ds ∧ ∀ w : Wd, Reps K w dvs dd
theorem FnU.mk0 {P : Program} {w : World} {K : PySem.W.Frag} {mg : Str → Option Value} {base : Heap} {k : Nat} {x : Str} {m : FM} {f : Addr} {fd : FuncData} {ps : List Str} (F : FnOk P w K mg base CX0 k f fd ps (spM K m)) (hm : mg x = some (.ref f)) (hk : PySem.W.keepIn K (.ref f) = true) (hb : Binds K fd ps []) :
    FnU P w K mg base k x m [] := ⟨f, fd, ps, [], [], F, hm, hk, hb, .nil, fun _ => .nil⟩
theorem FnU.mkD {P : Program} {w : World} {K : PySem.W.Frag} {mg : Str → Option Value} {base : Heap} {k : Nat} {x : Str} {m : FM} {f : Addr} {fd : FuncData} {ps : List Str} {dvs : List V} {dd : List D} (F : FnOk P w K mg base CX0 k f fd ps (spM K m)) (hm : mg x = some (.ref f)) (hk : PySem.W.keepIn K (.ref f) = true) (hb : ∃ ds, Vals dvs ds ∧ Binds K fd ps ds) (hr : ∀ w : Wd, Reps K w dvs dd) :
    FnU P w K mg base k x m dd := let ⟨ds, h1, h2⟩ := hb; ⟨f, fd, ps, dvs, ds, F, hm, hk, h2, h1, hr⟩
theorem xr_nil : XR X [] r_nil := ⟨_, pa_nil, arm_nil⟩
theorem xr_v {l : Er} (ha : XE X e f) (hr : XR X es l) (hs : starEach (e :: es) X.env = (false, eval e X.env) :: starEach es X.env := by rfl) : XR X (e :: es) (r_v f l) := let ⟨_, p, q⟩ := ha; let ⟨_, p', q'⟩ := hr; ⟨_, pa_cons p p' hs, arm_v q q'⟩
theorem xr_m (i : Nat) {y : Str} {pos' : Pos} {l : Er} (hr : XR X es l) (hs : starEach (.Name y pos' :: es) X.env = (false, eval (.Name y pos') X.env) :: starEach es X.env := by rfl)
    (hN : X.N[i]? = some y := by rfl) (hvi : Vis X.env.scope y := by first | exact Or.inl rfl | exact Or.inr (Or.inl rfl) | exact Or.inr (Or.inr rfl)) (hd : (y == ("__debug__" : Str)) = false := by decide)
    (hcd : (y == ("__classdict__" : Str)) = false := by decide) : XR X (.Name y pos' :: es) (r_m i l) := let ⟨_, p', q'⟩ := hr; ⟨_, pa_cons (pe_var hN hvi hd hcd) p' hs, arm_m q'⟩
theorem x_call {k j : Nat} {m : FM} {dd : List D} {r : Er} (U : FnU X.prog X.w X.K X.mg X.base k x m dd) (hr : Room j X.A) (hkj : k ≤ j) (ha : XR X (e :: es) r) (hg : Gl X x := by rfl) (hdb : (x == ("__debug__" : Str)) = false := by decide)
    (he : starEach (e :: es) X.env = (false, eval e X.env) :: starEach es X.env := by rfl) (hpl : (backTo pos (starEach es X.env)).any (·.1) = false := by rfl) : XE X (.Call (.Name x p) (e :: es) [] pos) (e_call m dd r) :=
  let ⟨_, _, _, _, _, F, hm, hk, hb, hd, hdd⟩ := U; let ⟨_, q1, q2⟩ := ha; ⟨_, pe_call F (hr.mono hkj) hg hm hk hb hd pass0 q1 hdb he hpl, em_call hdd q2⟩
theorem x_call0 {k j : Nat} {m : FM} {dd : List D} (U : FnU X.prog X.w X.K X.mg X.base k x m dd) (hr : Room j X.A) (hkj : k ≤ j) (hg : Gl X x := by rfl) (hdb : (x == ("__debug__" : Str)) = false := by decide) : XE X (.Call (.Name x p) [] [] pos) (e_call m dd r_nil) :=
  let ⟨_, _, _, _, _, F, hm, hk, hb, hd, hdd⟩ := U; ⟨_, pe_call0 F (hr.mono hkj) hg hm hk hb hd pass0 hdb, em_call hdd arm_nil⟩

/-! ### statements -/
variable {st : Stmt} {sts sts2 : List Stmt} {c1 c2 : Cm}
theorem xb_nil : XB X [] c_nx := ⟨_, pss_nil, sm_nx⟩
theorem xb_one (h : XS X st c1) : XB X [st] c1 := let ⟨_, p, q⟩ := h; ⟨_, pss_one p, q⟩
theorem xb_cons (h : XS X st c1) (hr : XB X sts c2) : XB X (st :: sts) (c_seq c1 c2) := let ⟨_, p, q⟩ := h; let ⟨_, p', q'⟩ := hr; ⟨_, pss_cons p p', sm_seq q q'⟩
theorem xs_pass : XS X (.Pass pos) c_nx := ⟨_, ps_pass, sm_nx⟩
theorem xs_brk : XS X (.Break pos) c_bk := ⟨_, ps_break, sm_bk⟩
theorem xs_ct : XS X (.Continue pos) c_ct := ⟨_, ps_continue, sm_ct⟩
theorem xs_doc {y j} {pos' : Pos} : XS X (.Expr (.Constant (.str y) j pos) pos') c_nx := ⟨_, ps_doc, sm_nx⟩
theorem xs_ex (h : XE X e f) (hs : swapsWith e none pos.line X.env = pure false := by rfl) : XS X (.Expr e pos) (c_ex f) := let ⟨_, p, q⟩ := h; ⟨_, ps_expr p hs, sm_ex q⟩
theorem xs_ret (h : XE X e f) : XS X (.Return (some e) pos) (c_ret f) := let ⟨_, p, q⟩ := h; ⟨_, ps_ret p, sm_ret q⟩
theorem xs_retN : XS X (.Return none pos) c_retN := ⟨_, ps_retN, sm_retN⟩
theorem xs_if {t : Et} (hc : XT X a t) (h1 : XB X sts c1) (h2 : XB X sts2 c2) : XS X (.If a sts sts2 pos) (c_if t c1 c2) := let ⟨_, p, q⟩ := hc; let ⟨_, p', q'⟩ := h1; let ⟨_, p2, q2⟩ := h2; ⟨_, ps_if p p' p2, sm_if q q' q2⟩
theorem xs_wh {t : Et} (fu : List Sl → Nat) (hp : PassesOwn (model X.prog X.w) X.A X.env X.xe) (hc : XT X a t) (h1 : XB X sts c1) : XS X (.While a sts [] pos) (c_wh fu t c1) := let ⟨_, p, q⟩ := hc; let ⟨_, p', q'⟩ := h1; ⟨_, ps_while hp p p', sm_wh q q'⟩
theorem xs_set (i : Nat) {pos' : Pos} (hN : X.N.Nodup) (he : XE X e f) (hi : X.N[i]? = some x := by rfl) (hx : Loc X.env.scope x := by first | exact Or.inl rfl | exact Or.inr rfl) (hs : swapsWith e (some (.Name x pos')) pos.line X.env = pure false := by rfl) (hf : X.fn x = true ∨ X.env.scope.names.lookup x = some .local := by first | exact .inl rfl | exact .inr rfl | assumption) :
    XS X (.Assign [.Name x pos'] e pos) (c_asg (g_n i) f) := let ⟨_, p, q⟩ := he; ⟨_, ps_set hN hi hx p hs hf, sm_asg q gm_n⟩
/-- .. stored as data -/
theorem xs_setv (i : Nat) {pos' : Pos} (hN : X.N.Nodup) (he : XE X e f) (hi : X.N[i]? = some x := by rfl) (hx : Loc X.env.scope x := by first | exact Or.inl rfl | exact Or.inr rfl) (hs : swapsWith e (some (.Name x pos')) pos.line X.env = pure false := by rfl) (hf : X.fn x = true ∨ X.env.scope.names.lookup x = some .local := by first | exact .inl rfl | exact .inr rfl | assumption) :
    XS X (.Assign [.Name x pos'] e pos) (c_asg (gv (g_n i)) f) := let ⟨_, p, q⟩ := he; ⟨_, ps_set hN hi hx p hs hf, sm_asg q (gm_v gm_n)⟩
theorem xs_asg {tg : Expr} {t : Tg} (he : XE X e f) (hg : XG X tg t) (hs : swapsWithSole [tg] e pos.line X.env = pure false := by rfl) (hw : swappedStores [tg] e X.env = pure none := by rfl)
    (h1 : (assignEach [tg] X.env).map (·.2) = [assign tg X.env] := by rfl) : XS X (.Assign [tg] e pos) (c_asg t f) := let ⟨_, p, q⟩ := he; let ⟨_, p', q'⟩ := hg; ⟨_, ps_asg p p' hs hw h1, sm_asg q q'⟩
theorem xg_n (i : Nat) {p : Pos} (hN : X.N.Nodup) (hi : X.N[i]? = some x := by rfl) (hx : Loc X.env.scope x := by first | exact Or.inl rfl | exact Or.inr rfl) (hf : X.fn x = true ∨ X.env.scope.names.lookup x = some .local := by first | exact .inl rfl | exact .inr rfl | assumption) : XG X (.Name x p) (g_n i) := ⟨_, pg_name hN hi hx hf, gm_n⟩
theorem xgs_nil : XGs X [] gs_nil := ⟨_, pgs_nil, gsm_nil⟩
theorem xgs_cons {t : Tg} {u : Tgs} (h1 : XG X e t) (h2 : XGs X es u) (hs : (assignEach (e :: es) X.env).map (·.2) = assign e X.env :: (assignEach es X.env).map (·.2) := by rfl) : XGs X (e :: es) (gs_cons t u) := let ⟨_, p, q⟩ := h1; let ⟨_, p', q'⟩ := h2; ⟨_, pgs_cons p p' hs, gsm_cons q q'⟩
theorem xg_tup {k n : Nat} {u : Tgs} (hc : X.calm = true) (h : XGs X es u) (hn : (assignEach es X.env).length = n := by rfl) (hst : (assignEach es X.env).findIdx? (·.1) = none := by rfl) : XG X (.Tuple es k pos) (g_tup n u) := let ⟨_, p, q⟩ := h; ⟨_, pg_tup hc p hn hst, gm_tup q⟩
theorem xg_ix (i : Nat) {y : Str} {pos' : Pos} (hb : XE X b f) (hN : X.N[i]? = some y := by rfl) (hvi : Vis X.env.scope y := by first | exact Or.inl rfl | exact Or.inr (Or.inl rfl) | exact Or.inr (Or.inr rfl)) (hd : (y == ("__debug__" : Str)) = false := by decide)
    (hcd : (y == ("__classdict__" : Str)) = false := by decide) (ha : ∀ v, assign (.Subscript (.Name y pos') b pos) X.env v = (do
      let ov ← holding [v] (eval (.Name y pos') X.env)
      let iv ← holding [v, ov] (eval b X.env)
      standAt pos
      holding [v, ov, iv] (setItem ov iv v)
      release [v, ov, iv] []) := by intro _; rfl) : XG X (.Subscript (.Name y pos') b pos) (gv (g_ix i f)) := let ⟨_, p', q'⟩ := hb; ⟨_, pg_sub (pe_var hN hvi hd hcd) p' set_list ha, gm_v (gm_ix q')⟩
theorem xs_par (i j : Nat) {y : Str} {px py pt : Pos} {kt k2 pt2} (hc : X.calm = true) (hN : X.N.Nodup) (hij : i ≠ j) (ha : XA X [a, b] l) (hi : X.N[i]? = some x := by rfl) (hj : X.N[j]? = some y := by rfl)
    (hx : X.env.scope.names.lookup x = some .local := by rfl) (hy : X.env.scope.names.lookup y = some .local := by rfl)
    (hw : swappedStores [.Tuple [.Name x px, .Name y py] kt pt] (.Tuple [a, b] k2 pt2) X.env = pure (some [x, y]) := by rfl)
    (hs : swapsWithSole [.Tuple [.Name x px, .Name y py] kt pt] (.Tuple [a, b] k2 pt2) pos.line X.env = pure false := by rfl) :
    XS X (.Assign [.Tuple [.Name x px, .Name y py] kt pt] (.Tuple [a, b] k2 pt2) pos) (c_par i j l) := let ⟨_, p', q'⟩ := ha; ⟨_, ps_par hc hN hi hj hij hx hy p' hw hs, sm_par q'⟩
theorem xs_par3 (i j k : Nat) {y z : Str} {px py pz pt : Pos} {kt k2 pt2} (hc : X.calm = true) (hN : X.N.Nodup) (hij : i ≠ j) (hik : i ≠ k) (hjk : j ≠ k) (ha : XA X [a, b, c] l) (hi : X.N[i]? = some x := by rfl) (hj : X.N[j]? = some y := by rfl) (hk : X.N[k]? = some z := by rfl)
    (hx : X.env.scope.names.lookup x = some .local := by rfl) (hy : X.env.scope.names.lookup y = some .local := by rfl) (hz : X.env.scope.names.lookup z = some .local := by rfl)
    (hw : swappedStores [.Tuple [.Name x px, .Name y py, .Name z pz] kt pt] (.Tuple [a, b, c] k2 pt2) X.env = pure (some [x, y, z]) := by rfl)
    (hs : swapsWithSole [.Tuple [.Name x px, .Name y py, .Name z pz] kt pt] (.Tuple [a, b, c] k2 pt2) pos.line X.env = pure false := by rfl) :
    XS X (.Assign [.Tuple [.Name x px, .Name y py, .Name z pz] kt pt] (.Tuple [a, b, c] k2 pt2) pos) (c_par3 i j k l) := let ⟨_, p', q'⟩ := ha; ⟨_, ps_par3 hc hN hi hj hk hij hik hjk hx hy hz p' hw hs, sm_par3 q'⟩
theorem xs_for {tg it : Expr} {s : Src} {t : Tg} (hp : PassesOwn (model X.prog X.w) X.A X.env X.xe) (hc : X.calm = true) (hi : XI X tg it s) (hg : XG X tg t) (hb : XB X sts c1) (hs : ∀ x, foldedSetIterable it X.env x = pure x := by intro _; rfl) : XS X (.For tg it sts [] pos) (c_for t s c1) :=
  let ⟨_, p, q⟩ := hi; let ⟨_, p', q'⟩ := hg; let ⟨_, p2, q2⟩ := hb; ⟨_, ps_for hp hc p p' p2 hs, sm_for q q' q2⟩
theorem xi_seq {tg : Expr} (ha : XE X a f) : XI X tg a (s_seq f) := let ⟨_, p, q⟩ := ha; ⟨_, pi_seq p, im_seq q⟩
theorem xi_rng {tg : Expr} (hm : X.mg "range" = none) (ha : XA X [a] l) (hg : Gl X "range" := by rfl) (hs : starEach [a] X.env = [(false, eval a X.env)] := by rfl) : XI X tg (.Call (.Name "range" p) [a] [] pos) (s_rng l) := let ⟨_, p, q⟩ := ha; ⟨_, pi_range1 hg hm p hs, im_rng q⟩
theorem xi_rng2 {tg : Expr} (hm : X.mg "range" = none) (ha : XA X [a, b] l) (hg : Gl X "range" := by rfl) (hs : starEach [a, b] X.env = [(false, eval a X.env), (false, eval b X.env)] := by rfl) (hs2 : starEach [b] X.env = [(false, eval b X.env)] := by rfl) :
    XI X tg (.Call (.Name "range" p) [a, b] [] pos) (s_rng2 l) := let ⟨_, p, q⟩ := ha; ⟨_, pi_range2 hg hm p hs hs2, im_rng2 q⟩
theorem xi_enum {elts : List Expr} {kk : Nat} {tpos : Pos} (hm : X.mg "enumerate" = none) (ha : XA X [a] l) (hg : Gl X "enumerate" := by rfl) (hs : starEach [a] X.env = [(false, eval a X.env)] := by rfl) : XI X (.Tuple elts kk tpos) (.Call (.Name "enumerate" p) [a] [] pos) (s_enum l) := let ⟨_, p, q⟩ := ha; ⟨_, pi_enum hg hm p hs, im_enum q⟩
theorem xi_zip {elts : List Expr} {kk : Nat} {tpos : Pos} (hm : X.mg "zip" = none) (ha : XA X [a, b] l) (hg : Gl X "zip" := by rfl) (hs : starEach [a, b] X.env = (false, eval a X.env) :: starEach [b] X.env := by rfl) (hpl : (backTo pos (starEach [b] X.env)).any (·.1) = false := by rfl) :
    XI X (.Tuple elts kk tpos) (.Call (.Name "zip" p) [a, b] [] pos) (s_zip l) := let ⟨_, p, q⟩ := ha; ⟨_, RZ.pi_zipA hg hm p hs hpl, im_zip q⟩
/-- xs.append(e) as a statement's expression -/
theorem x_app (i : Nat) {y : Str} {pos' apos : Pos} (ha : XE X e f) (hN : X.N[i]? = some y := by rfl) (hvi : Vis X.env.scope y := by first | exact Or.inl rfl | exact Or.inr (Or.inl rfl) | exact Or.inr (Or.inr rfl)) (hd : (y == ("__debug__" : Str)) = false := by decide)
    (hcd : (y == ("__classdict__" : Str)) = false := by decide) (hbase : attributeBase (.Name y pos') "append" X.env (eval (.Name y pos') X.env) = eval (.Name y pos') X.env := by rfl)
    (hfew : ((backTo pos (starEach (e :: []) X.env)).all (fun x => !x.1) && (backToKw pos (keywordEach [] X.env)).all (fun x => x.1.isSome) && decide ((e :: ([] : List Expr)).length + ([] : List Keyword).length + (if ([] : List Keyword).isEmpty then 0 else 1) < 30)) = true := by rfl)
    (hline : (apos.endLine == pos.line) = true := by rfl) (hs : starEach (e :: []) X.env = (false, eval e X.env) :: starEach [] X.env := by rfl) (hplain : (backTo pos (starEach [] X.env)).any (·.1) = false := by rfl) :
    XE X (.Call (.Attribute (.Name y pos') "append" apos) [e] [] pos) (e_app i f) := let ⟨_, p, q⟩ := ha; ⟨_, pe_bm PySem.F.plainAttrs_list PySem.F.slot_list_append PySem.F.type_list_append mt_append (pe_var hN hvi hd hcd) (pa_cons p pa_nil hs) hbase hfew hline hs hplain, em_app q⟩
theorem x_clr (i : Nat) {y : Str} {pos' apos : Pos} (hN : X.N[i]? = some y := by rfl) (hvi : Vis X.env.scope y := by first | exact Or.inl rfl | exact Or.inr (Or.inl rfl) | exact Or.inr (Or.inr rfl)) (hd : (y == ("__debug__" : Str)) = false := by decide)
    (hcd : (y == ("__classdict__" : Str)) = false := by decide) (hbase : attributeBase (.Name y pos') "clear" X.env (eval (.Name y pos') X.env) = eval (.Name y pos') X.env := by rfl) (hline : (apos.endLine == pos.line) = true := by rfl) :
    XE X (.Call (.Attribute (.Name y pos') "clear" apos) [] [] pos) (e_clr i) := ⟨_, pe_bm0 PySem.F.plainAttrs_list PySem.F.slot_list_clear PySem.F.type_list_clear mt_clear (pe_var hN hvi hd hcd) hbase hline, em_clr⟩
theorem x_pop (i : Nat) {y : Str} {pos' apos : Pos} (hN : X.N[i]? = some y := by rfl) (hvi : Vis X.env.scope y := by first | exact Or.inl rfl | exact Or.inr (Or.inl rfl) | exact Or.inr (Or.inr rfl)) (hd : (y == ("__debug__" : Str)) = false := by decide)
    (hcd : (y == ("__classdict__" : Str)) = false := by decide) (hbase : attributeBase (.Name y pos') "pop" X.env (eval (.Name y pos') X.env) = eval (.Name y pos') X.env := by rfl) (hline : (apos.endLine == pos.line) = true := by rfl) :
    XE X (.Call (.Attribute (.Name y pos') "pop" apos) [] [] pos) (e_pop i) := ⟨_, pe_bm0 PySem.F.plainAttrs_list PySem.F.slot_list_pop PySem.F.type_list_pop mt_pop (pe_var hN hvi hd hcd) hbase hline, em_pop⟩

/-! ### comprehensions -/
def XTs (X : Cx) (ifs : List Expr) (f : Et) : Prop := ∃ t, PTs X ifs t ∧ TM X.K t f
theorem xts_nil : XTs X [] t_yes := ⟨_, pts_nil, tm_yes⟩
theorem xts_one {t : Et} (h : XT X c t) : XTs X [c] t := let ⟨_, p, q⟩ := h; ⟨_, pts_one p, q⟩
end
end Vz
set_option maxRecDepth 100000
set_option maxHeartbeats 1000000
namespace Vz
open PySem PySem.Spec PyProof.Rows L2
variable [FnTab]
/-! ### one reading for each function -/
def canE (K : PySem.W.Frag) (f : Ex) : TE := fun σ H Q => ∃ (w0 : W0) (w : Wd) (env : List Sl) (r : R) (env' : List Sl), w.H = H ∧ EnvOk K w0 w σ env ∧ f env = some (r, env') ∧ ∀ v w', EnvOk K w0 w' σ env' → Step w w' → RepR K w0 w' σ env' v r → Q v w'.H
def canT (K : PySem.W.Frag) (f : Et) : TT := fun σ H Q => ∃ (w0 : W0) (w : Wd) (env : List Sl) (b : Bool) (env' : List Sl), w.H = H ∧ EnvOk K w0 w σ env ∧ f env = some (b, env') ∧ ∀ w', EnvOk K w0 w' σ env' → Step w w' → Q b w'.H
theorem em_can {K : PySem.W.Frag} {f : Ex} : EM K (canE K f) f := fun w0 w σ env e r env' h Q q => ⟨w0, w, env, r, env', rfl, e, h, q⟩
theorem tm_can {K : PySem.W.Frag} {f : Et} : TM K (canT K f) f := fun w0 w σ env e b env' h Q q => ⟨w0, w, env, b, env', rfl, e, h, q⟩
theorem XE.can {X : Cx} {e : Expr} {f : Ex} (h : XE X e f) : PE X e (canE X.K f) := by
  obtain ⟨te, p, q⟩ := h
  refine ⟨fun pins s σ H Q I hh => p.run pins s σ H Q I ?_⟩
  obtain ⟨w0, w, env, r, env', rfl, e, hf, k⟩ := hh
  exact q w0 w σ env e r env' hf Q k
theorem XTs.can {X : Cx} {es : List Expr} {f : Et} (h : XTs X es f) : PTs X es (canT X.K f) := by
  obtain ⟨te, p, q⟩ := h
  refine ⟨fun pins s σ H Q I hh => p.run pins s σ H Q I ?_⟩
  obtain ⟨w0, w, env, r, env', rfl, e, hf, k⟩ := hh
  exact q w0 w σ env e r env' hf Q k
section
variable {X : Cx} {pos : Pos}
theorem x_lc {elt tg iter : Expr} {ifs : List Expr} {scope : Scope} (own : List (Str × Nat)) {g : TG} {t : Tg} {s : Src} {c : Et} {f : Ex} (hc : X.calm = true) (hN : X.N.Nodup) (hi : XI X tg iter s) (ok : BlkOk X.N X.env.scope scope own)
    (hg : ∀ (s : Shared) (H : Hp) (C : Addr) (cl : List (Str × Addr)) (fp : List Addr), PG (X.blk s H scope (compEnvC scope cl C X.env) fp) tg g) (gm : GM X.K g t) (og : OnlyG (own.map (·.2)) g)
    (ht : ∀ (s : Shared) (H : Hp) (C : Addr) (cl : List (Str × Addr)) (fp : List Addr), XTs (X.blk s H scope (compEnvC scope cl C X.env) fp) ifs c)
    (he : ∀ (s : Shared) (H : Hp) (C : Addr) (cl : List (Str × Addr)) (fp : List Addr), XE (X.blk s H scope (compEnvC scope cl C X.env) fp) elt f) (hs : ∀ x, foldedSetIterable iter X.env x = pure x := by intro _; rfl) :
    XE X (.ListComp elt [⟨tg, iter, ifs, 0⟩] scope pos) (e_lc (own.map (·.2)) t s c f) :=
  let ⟨_, p, q⟩ := hi; ⟨_, pe_lc (own := own) (g := g) (tt := canT X.K c) (te := canE X.K f) hc hN p ok hg (fun s H C cl fp => (ht s H C cl fp).can) (fun s H C cl fp => (he s H C cl fp).can) hs, em_lc q gm og tm_can em_can⟩
/-- y = [..] -/
theorem xs_lc (i : Nat) {y : Str} {py spos : Pos} {elt tg iter : Expr} {ifs : List Expr} {scope : Scope} (own : List (Str × Nat)) {g : TG} {t : Tg} {s : Src} {c : Et} {f : Ex} (hc : X.calm = true) (hN : X.N.Nodup) (hi : XI X tg iter s) (ok : BlkOk X.N X.env.scope scope own)
    (hg : ∀ (s : Shared) (H : Hp) (C : Addr) (cl : List (Str × Addr)) (fp : List Addr), PG (X.blk s H scope (compEnvC scope cl C X.env) fp) tg g) (gm : GM X.K g t) (og : OnlyG (own.map (·.2)) g)
    (ht : ∀ (s : Shared) (H : Hp) (C : Addr) (cl : List (Str × Addr)) (fp : List Addr), XTs (X.blk s H scope (compEnvC scope cl C X.env) fp) ifs c)
    (he : ∀ (s : Shared) (H : Hp) (C : Addr) (cl : List (Str × Addr)) (fp : List Addr), XE (X.blk s H scope (compEnvC scope cl C X.env) fp) elt f) (hy : X.N[i]? = some y := by rfl) (hyl : X.env.scope.names.lookup y = some .local := by rfl)
    (hsw : swapsWith (.ListComp elt [⟨tg, iter, ifs, 0⟩] scope pos) (some (.Name y py)) spos.line X.env = pure true := by exact sw_true rfl rfl rfl (by decide +kernel)) (hs : ∀ x, foldedSetIterable iter X.env x = pure x := by intro _; rfl) :
    XS X (.Assign [.Name y py] (.ListComp elt [⟨tg, iter, ifs, 0⟩] scope pos) spos) (c_asg (g_n i) (e_lc (own.map (·.2)) t s c f)) :=
  let ⟨_, p, q⟩ := hi; ⟨_, ps_setLc (own := own) (g := g) (tt := canT X.K c) (te := canE X.K f) hc hN hy hyl hsw p ok hg (fun s H C cl fp => (ht s H C cl fp).can) (fun s H C cl fp => (he s H C cl fp).can) hs, sm_asg (em_lc q gm og tm_can em_can) gm_n⟩
end

/-! ### a def's body -/
theorem spM_len {K : PySem.W.Frag} {n k : Nat} {c : Cm} {vs : List V} {H : Hp} {Q : VK} {E : XK} (h : spM K (fnM n k c) vs H Q E) : vs.length = k := by
  obtain ⟨z, args, r, args', _, e, _, hm, _⟩ := h
  unfold fnM at hm
  split at hm
  · rename_i hc
    have := e.len
    rw [List.length_map] at this
    omega
  · cases hm
theorem body_ok {K : PySem.W.Frag} {N : List Str} {k : Nat} {c : Cm} {ts : TS} {vs : List V} {H : Hp} {Q : VK} {E : XK} (hk : k ≤ N.length) (q : SM K ts c) (h : spM K (fnM N.length k c) vs H Q E) :
    ts { nx := fun _ H' => Q .non H', rt := Q } (L2.start N vs) H := by
  have hl := spM_len h
  obtain ⟨z, args, r, args', rfl, e, hp, hm, fin⟩ := h
  unfold fnM at hm
  split at hm
  · rename_i hc
    obtain ⟨o, h1, h2⟩ := Option.bind_eq_some_iff.mp hm
    have es := e.start (N := N) (by omega)
    rw [hl] at es
    refine q z z.toWd _ _ es o h1 _ ?_
    cases o with
    | nx e2 =>
      cases h2
      exact fun w' σ' E' s => fin .non w' (e.stop hp hc.2 E') s .non
    | rt r2 e2 =>
      cases h2
      refine fun v w' σ' E' s rr => fin v w' (e.stop hp hc.2 E') s ?_
      cases r with
      | val d => exact rr
      | own o =>
        obtain ⟨a, rfl, h3, h4, h5⟩ := rr
        refine ⟨a, rfl, h3, h4, fun i hi hz => ?_⟩
        have ES := e.stop hp hc.2 E'
        obtain ⟨b, ob, h6, h7, h8⟩ := ES.owned hi
        rw [hz] at h6
        cases h6
        -- an argument's object stood ahead of the call
        rcases h8 with h8 | h8
        · obtain ⟨b2, _, _, _⟩ := ES.own i ob h8
          rw [outArgs_get] at h8
          cases qa : args[i]? with
          | none => rw [qa] at h8; simp at h8
          | some sl =>
            have hy : okArg sl = true := List.all_eq_true.mp hc.2 sl (List.mem_of_getElem? qa)
            rw [qa] at h8
            cases sl with
            | no => cases hy
            | own _ => cases hy
            | val _ => simp at h8
            | arg o1 =>
              obtain ⟨a1, hm1⟩ := hp i o1 qa
              obtain ⟨k1, o3, k2⟩ := E'.pin _ hm1
              simp only at k1 k2
              rw [k2] at h8
              cases h8
        · obtain ⟨b2, h9, h10, _⟩ := ES.arg i ob h8
          rw [hz] at h9
          cases h9
          exact h10.1 h3.1
    | bk e2 => cases h2
    | ct e2 => cases h2
  · cases hm
section
variable {P : Program} {w : World} {K : PySem.W.Frag} {mg : Str → Option Value} {base : Heap}
theorem fn_okM {x qual : Str} {st : Stmt} {f : Addr} {fd : FuncData} {N ps : List Str} {k : Nat} {c : Cm} (F : Fun K x qual st f fd) (S : FnScope N ps (defScope st))
    (hbody : ∀ (cdv : Value) (A : Around) (outer : List Env) (s : Shared) (H : Hp) (E : XK), Room k (A.deeper (envOfC qual (defScope st) s.heap.objs.size f cdv)) →
      XB (cxOf CX0 P w K mg base N qual (defScope st) f cdv A outer s H E).nox (defBody st) c) : FnOk P w K mg base CX0 (k + 1) f fd ps (spM K (fnM N.length ps.length c)) := by
  have hpl : ps.length ≤ N.length := by have := congrArg List.length S.pre; rw [List.length_take] at this; omega
  refine F.ok S (fun vs H Q E h => spM_len h) fun cdv A outer s H vs Q E hr h => ?_
  obtain ⟨ts, p, q⟩ := hbody cdv A outer s H E hr
  exact ⟨ts, p, body_ok hpl q h⟩
/-- .. with defaults -/
theorem fn_okD {x qual : Str} {st : Stmt} {f : Addr} {fd : FuncData} {N ps : List Str} {k : Nat} {c : Cm} {dvs : List V} {kws : List (Str × V)} (F : FunD K x qual (defArgs st) (defBody st) (defScope st) dvs kws f fd) (S : FnScope N ps (defScope st))
    (hbody : ∀ (cdv : Value) (A : Around) (outer : List Env) (s : Shared) (H : Hp) (E : XK), Room k (A.deeper (envOfC qual (defScope st) s.heap.objs.size f cdv)) →
      XB (cxOf CX0 P w K mg base N qual (defScope st) f cdv A outer s H E).nox (defBody st) c) : FnOk P w K mg base CX0 (k + 1) f fd ps (spM K (fnM N.length ps.length c)) := by
  have hpl : ps.length ≤ N.length := by have := congrArg List.length S.pre; rw [List.length_take] at this; omega
  refine F.ok S (fun vs H Q E h => spM_len h) fun cdv A outer s H vs Q E hr h => ?_
  obtain ⟨ts, p, q⟩ := hbody cdv A outer s H E hr
  exact ⟨ts, p.nox, body_ok hpl q h⟩
/-! ### the law -/
def spLaw (K : PySem.W.Frag) : Sp := fun vs H Q _ => ∃ (a : Addr) (ns : List Int), vs = [.ref a] ∧ SqL K H a (ns.map V.int) ∧ ns.length ≤ 63 ∧ ∀ H', Q (.bl true) H'
theorem reps_ints {wd : Wd} : ∀ ns : List Int, Reps K wd (ns.map V.int) (ns.map D.int)
  | [] => .nil
  | n :: ns => .cons (.int n) (reps_ints ns)
theorem law_ok {k : Nat} {f : Addr} {fd : FuncData} {ps : List Str} {m : FM} (F : FnOk P w K mg base CX0 k f fd ps (spM K m)) (hp : ps.length = 1) (h : ∀ ns : List Int, ns.length ≤ 63 → m [.val (.lst (ns.map D.int))] = some (.val (.bl true), [.val (.lst (ns.map D.int))])) :
    FnOk P w K mg base CX0 k f fd ps (spLaw K) := by
  refine F.imp fun vs H Q E hh => ?_
  obtain ⟨a, ns, rfl, hs, hl, q⟩ := hh
  let z : W0 := { W := fun _ => False, B := fun _ => False, H := H, pa := [] }
  have gz : Good z.toWd := ⟨fun p hp => (hp.elim id id).elim⟩
  refine ⟨z, [.val (.lst (ns.map D.int))], _, _, rfl, ?_, fun i o hi => ?_, h ns hl, fun v w' _ _ rr => ?_⟩
  · refine ⟨gz, gz, .refl _, rfl, fun i d hi => ?_, fun i o hi => ?_, fun i o hi => ?_, fun i j b h1 => ?_, fun p hp => nomatch hp⟩
    · cases i with
      | zero => cases hi; exact ⟨_, rfl, .lst (hs.imp (fun k => ⟨k, fun z => z.elim id id⟩) id) (reps_ints ns)⟩
      | succ i => cases i <;> cases hi
    · cases i with
      | zero => cases hi
      | succ i => cases i <;> cases hi
    · cases i with
      | zero => cases hi
      | succ i => cases i <;> cases hi
    · cases i with
      | zero => cases h1
      | succ i => cases i <;> cases h1
  · cases i with
    | zero => cases hi
    | succ i => cases i <;> cases hi
  · have rr' : Rep K w' v (.bl true) := rr
    cases rr'
    exact q _
end
end Vz
set_option maxRecDepth 100000
set_option maxHeartbeats 1000000
namespace Vz
open PySem PySem.Spec PyProof.Rows L2
variable [FnTab]
section
variable {K : PySem.W.Frag} {w w' w1 w2 : Wd} {w0 : W0} {σ : L2.St} {env env' env1 : List Sl}
/-! ### * -/
def rStrMul : R2 := fun x y H Q => ∃ z k, x = .str z ∧ y = .int k ∧ MulOk z k ∧ Q (.str (Txt.mul z k)) H
theorem op_mulStr {X : Cx} : OpR X (binaryOp .Mult) rStrMul := by
  intro pins s σ H x y v u Q I rx ry h
  obtain ⟨z, k, rfl, rfl, hk, q⟩ := h
  obtain ⟨t, rfl⟩ := rx
  obtain ⟨t2, rfl⟩ := ry
  exact SB.mul hk fun t' n => ⟨.str _, _, I.tok n, ⟨_, rfl⟩, q⟩
theorem mulOk_small {x : Str} {k : Int} (h : x.length * k.toNat ≤ 100000) (h1 : -1000000 ≤ k) (h2 : k ≤ 1000000) : MulOk x k := by
  refine ⟨by simp; omega, fun hk _ => ?_, fun hk _ => ?_⟩
  · have hk1 : 0 < k := by omega
    have : (x.length : Int) ≤ (2 ^ 63 - 1) / k := by
      rw [Int.le_ediv_iff_mul_le hk1]
      have : (x.length : Int) * k = ((x.length * k.toNat : Nat) : Int) := by
        rw [Int.natCast_mul]; congr 1; omega
      omega
    omega
  · show decide (x.length * k.toNat > sizeLine) = false
    have := line5
    rw [decide_eq_false]
    omega
open Classical in
noncomputable def o_mul : D → D → Option R
  | .int i, .int j => if IntMulOk i j then some (.val (.int (i * j))) else none
  | .str x, .int k => if x.length * k.toNat ≤ 100000 ∧ -1000000 ≤ k ∧ k ≤ 1000000 then some (.val (.str (Txt.mul x k))) else none
  | _, _ => none
def rMulS : R2 := fun x y H Q => rI IntMulOk (fun i j => .int (i * j)) x y H Q ∨ rStrMul x y H Q
theorem op_mulS {X : Cx} : OpR X (binaryOp .Mult) rMulS := op_mulX.or op_mulStr
theorem opm_mul : OpM K rMulS o_mul := by
  intro w g x y a b ra rb z h Q q
  cases ra <;> cases rb <;> simp only [o_mul] at h <;> try cases h
  · split at h
    · rename_i hc
      exact .inl ⟨_, _, rfl, rfl, hc, out0 g (.int _) h q⟩
    · cases h
  · split at h
    · rename_i hc
      exact .inr ⟨_, _, rfl, rfl, mulOk_small hc.1 hc.2.1 hc.2.2, out0 g (.str _) h q⟩
    · cases h
/-- turns enough: a slot's int -/
def fuI (i : Nat) : List Sl → Nat := fun env => match env[i]? with
  | some (.val (.int k)) => k.natAbs + 1
  | _ => 0
end
theorem xs_lcv {X : Cx} (i : Nat) {y : Str} {py spos pos : Pos} {elt tg iter : Expr} {ifs : List Expr} {scope : Scope} (own : List (Str × Nat)) {g : TG} {t : Tg} {s : Src} {c : Et} {f : Ex} (hc : X.calm = true) (hN : X.N.Nodup) (hi : XI X tg iter s) (ok : BlkOk X.N X.env.scope scope own)
    (hg : ∀ (s : Shared) (H : Hp) (C : Addr) (cl : List (Str × Addr)) (fp : List Addr), PG (X.blk s H scope (compEnvC scope cl C X.env) fp) tg g) (gm : GM X.K g t) (og : OnlyG (own.map (·.2)) g)
    (ht : ∀ (s : Shared) (H : Hp) (C : Addr) (cl : List (Str × Addr)) (fp : List Addr), XTs (X.blk s H scope (compEnvC scope cl C X.env) fp) ifs c)
    (he : ∀ (s : Shared) (H : Hp) (C : Addr) (cl : List (Str × Addr)) (fp : List Addr), XE (X.blk s H scope (compEnvC scope cl C X.env) fp) elt f) (hy : X.N[i]? = some y := by rfl) (hyl : X.env.scope.names.lookup y = some .local := by rfl)
    (hsw : swapsWith (.ListComp elt [⟨tg, iter, ifs, 0⟩] scope pos) (some (.Name y py)) spos.line X.env = pure true := by exact sw_true rfl rfl rfl (by decide +kernel)) (hs : ∀ x, foldedSetIterable iter X.env x = pure x := by intro _; rfl) :
    XS X (.Assign [.Name y py] (.ListComp elt [⟨tg, iter, ifs, 0⟩] scope pos) spos) (c_asg (gv (g_n i)) (e_lc (own.map (·.2)) t s c f)) :=
  let ⟨_, p, q⟩ := hi; ⟨_, ps_setLc (own := own) (g := g) (tt := canT X.K c) (te := canE X.K f) hc hN hy hyl hsw p ok hg (fun s H C cl fp => (ht s H C cl fp).can) (fun s H C cl fp => (he s H C cl fp).can) hs, sm_asg (em_lc q gm og tm_can em_can) (gm_v gm_n)⟩
theorem x_mul {X : Cx} {pos : Pos} {a b : Expr} {f g : Ex} (ha : XE X a f) (hb : XE X b g) : XE X (.BinOp a .Mult b pos) (e2 o_mul f g) := x_op op_mulS opm_mul ha hb
end Vz
set_option maxRecDepth 100000
set_option maxHeartbeats 1000000
namespace Vz
open PySem PySem.Spec PyProof.Rows L2
variable [FnTab]

/-! ### a list made of an iterator that walks itself -/
section
variable {prog : Program} {w : World} {A : Around} {E : Value → Shared → Prop} {s : Shared} {T : String} {r d : Addr} {n : Nat} {P : Nat → Value → Prop} {St : Nat → Heap → Prop}
structure SelfIt (prog : Program) (w : World) (T : String) (r d : Addr) (n : Nat) (P : Nat → Value → Prop) (St : Nat → Heap → Prop) : Prop where
  type : ∀ i (s : Shared), St i s.heap → s.TypeIs (.ref r) T
  there : ∀ i h, St i h → r < h.objs.size ∧ d < h.objs.size
  notList : (Value.type T == Value.type "list") = false
  notTuple : (Value.type T == Value.type "tuple") = false
  hint : ∀ (A : Around) (E : Value → Shared → Prop) (s : Shared) (Q : Bool → Shared → Prop), St 0 s.heap → (∀ b tk, Q b { s with toks := tk }) → wpAny (model prog w) A (Builtin.List.listLengthHint (.ref r)) Q E s
  walk : ∀ A : Around, A.handled = none → Walks prog w A r [r, d] [r] n P St
theorem si_extend {R : Result → Shared → Prop} (K : SelfIt prog w T r d n P St) (hh : A.handled = none) (hst : St 0 s.heap) (S : Addr) (hSr : S ≠ r) (hSd : S ≠ d) (res : Value) (c₀ : Nat) (hS : s.heap.get? S = some { cls := .type "list", data := .seq #[] c₀ })
    (hR : ∀ h' tk acc' c', (∀ b o, b ≠ S → b ≠ r → s.heap.get? b = some o → h'.get? b = some o) → h'.get? S = some { cls := .type "list", dict := none, data := .seq acc' c', slots := #[] } → ItemsOf P acc' n → R (.ok (.ret res)) { s with heap := h', toks := tk }) (hn : n ≤ sizeLine) :
    wpAny (model prog w) A.in1 (Builtin.List.listExtendWith (.ref S) (.ref r) res)
      (fun fin s' => match fin with | .done f => R (.ok f) s' | .again c' => c'.quiet = true ∧ codeAny (model prog w) A c' R s') (fun e s' => R (.error e) s') s := by
  have W := K.walk A.in1 hh
  have hSf : S ∉ [r, d] := by simp only [List.mem_cons, List.not_mem_nil, or_false, not_or]; exact ⟨hSr, hSd⟩
  have key : ∀ (h : Heap) (c₁ tk : Nat), St 0 h → (∀ b o, b ≠ S → s.heap.get? b = some o → h.get? b = some o) →
      h.get? S = some { cls := .type "list", data := .seq #[] c₁ } → codeAny (model prog w) A (.builtin "list.extend.loop" ⟨[.ref S, .ref r, res], []⟩) R { s with heap := h, toks := tk } := by
    intro h c₁ tk hst hk hS₁
    refine codeAny_extend_loopS W.toS hn S hSf res n 0 _ #[] c₁ rfl (Nat.zero_le _) hst hS₁ (ItemsOf.nil _) fun s' acc' c' hm hS' hacc => ?_
    rw [Moved.eq_with hm]
    refine hR s'.heap s'.toks acc' c' (fun b o hb hb2 e => hm.heap b o (fun hmem => ?_) (hk b o hb e)) hS' hacc
    rcases List.mem_cons.mp hmem with e' | hmem
    · exact hb e'
    · exact hb2 (List.mem_singleton.mp hmem)
  unfold Builtin.List.listExtendWith
  refine wpAny_bind (wpAny_typeOf (T := T) (K.type 0 s hst) ?_)
  have h1 : Builtin.List.listSameRef (.ref S) (.ref r) = false := by simp [Builtin.List.listSameRef, hSr]
  simp only [h1, K.notList, K.notTuple, Bool.or_false, Bool.false_eq_true, if_false]
  refine wpAny_bind (W.self 0 s _ _ hst ?_)
  refine wpAny_bind (wpAny_holding (K.hint _ _ _ _ hst fun bb tk => ?_))
  refine wpAny_ite_split (fun _ => ?_) (fun _ => wpAny_pure ⟨plainId_quiet PySem.F.plain_extend_loop _, key _ c₀ _ hst (fun b o _ e => e) hS⟩)
  refine wpAny_bind (wpAny_rule ?_)
  refine wpAny_bind ?_
  show wpAny _ _ (updateSeq S (·.push .none) >>= fun _ => updateSeq S (·.pop)) _ _ _
  refine wpAny_bind (wpAny_updateSeq hS rfl ?_)
  have hS₂ := Heap.get?_update_self (Obj.mapSeq (·.push Value.none)) hS rfl
  refine wpAny_updateSeq (hz := by seq_fits) hS₂ rfl ?_
  have hS₃ := Heap.get?_update_self (Obj.mapSeq (·.pop)) hS₂ rfl
  refine wpAny_pure ⟨plainId_quiet PySem.F.plain_extend_loop _, key _ _ _ ?_ (fun b o hb e => ?_) hS₃⟩
  · refine W.frame 0 _ _ hst fun b hb o e => ?_
    have hbS : b ≠ S := fun h => hSf (h ▸ hb)
    exact (Heap.get?_update_other _ _ (Ne.symm hbS)).trans ((Heap.get?_update_other _ _ (Ne.symm hbS)).trans e)
  · exact (Heap.get?_update_other _ _ (Ne.symm hb)).trans ((Heap.get?_update_other _ _ (Ne.symm hb)).trans e)
theorem si_init {R : Result → Shared → Prop} (K : SelfIt prog w T r d n P St) (hh : A.handled = none) (hst : St 0 s.heap) (S : Addr) (hSr : S ≠ r) (hSd : S ≠ d) (hS : s.heap.get? S = some { cls := .type "list", data := .seq #[] })
    (hR : ∀ h' tk acc' c', (∀ b o, b ≠ S → b ≠ r → s.heap.get? b = some o → h'.get? b = some o) → h'.get? S = some { cls := .type "list", dict := none, data := .seq acc' c', slots := #[] } → ItemsOf P acc' n → R (.ok (.ret .none)) { s with heap := h', toks := tk }) (hn : n ≤ sizeLine) :
    wpAny (model prog w) A.in1 (Builtin.«list.__init__» ⟨[.ref S, .ref r], []⟩)
      (fun fin s' => match fin with | .done f => R (.ok f) s' | .again c' => c'.quiet = true ∧ codeAny (model prog w) A c' R s') (fun e s' => R (.error e) s') s := by
  show wpAny _ _ (do let old ← Builtin.List.listItems (.ref S); Builtin.List.listUpdate (.ref S) (fun _ => #[]); letGo old.toList.reverse; Builtin.List.listExtendWith (.ref S) (.ref r) .none) _ _ s
  refine wpAny_bind ?_
  unfold Builtin.List.listItems
  refine wpAny_bind (wpAny_seqItems hS rfl (wpAny_pure ?_))
  show wpAny _ _ (updateSeq S (fun _ => #[]) >>= fun _ => letGo (#[] : Array Value).toList.reverse >>= fun _ => Builtin.List.listExtendWith (.ref S) (.ref r) .none) _ _ s
  refine wpAny_bind (wpAny_updateSeq hS rfl ?_)
  have hS₂ := Heap.get?_update_self (Obj.mapSeq (fun _ => (#[] : Array Value))) hS rfl
  have oth : ∀ b o, b ≠ S → s.heap.get? b = some o → (s.heap.update S (Obj.mapSeq (fun _ => (#[] : Array Value)))).get? b = some o :=
    fun b o hb e => (Heap.get?_update_other _ _ (Ne.symm hb)).trans e
  refine wpAny_bind (wpAny_letGo ?_)
  refine si_extend K hh ((K.walk A hh).frame 0 _ _ hst fun b hb o e => oth b o (by
    rcases List.mem_cons.mp hb with rfl | hb
    · exact hSr.symm
    · rw [List.mem_singleton.mp hb]; exact hSd.symm) e) S hSr hSd .none _ hS₂ (fun h' tk acc' c' hk hS' hacc => ?_) hn
  exact hR h' tk acc' c' (fun b o hb hb2 e => hk b o hb hb2 (oth b o hb e)) hS' hacc
theorem si_call {Q : Value → Shared → Prop} (K : SelfIt prog w T r d n P St) (hh : A.handled = none) (hst : St 0 s.heap) (hn : n ≤ sizeLine)
    (hQ : ∀ h' tk acc' c', (∀ b o, b ≠ r → s.heap.get? b = some o → h'.get? b = some o) → h'.get? s.heap.objs.size = some { cls := .type "list", dict := none, data := .seq acc' c', slots := #[] } → ItemsOf P acc' n → Q (.ref s.heap.objs.size) { s with heap := h', toks := tk }) :
    wpAny (model prog w) A (call (.type "list") [.ref r]) Q E s := by
  refine callType_codes (Q₁ := fun obj s₁ => obj = .ref s.heap.objs.size ∧ s₁ = { s with heap := s.heap.push { cls := .type "list", data := .seq #[] } }) PySem.F.called_list (PySem.F.typeCall_list_1 _) PySem.F.entry_list_init
    (PySem.code_list_new _ ⟨rfl, rfl⟩) fun obj s₁ h₁ => ?_
  obtain ⟨rfl, rfl⟩ := h₁
  have hS : (s.heap.push { cls := .type "list", data := .seq #[] }).get? s.heap.objs.size = some { cls := .type "list", data := .seq #[] } := Heap.get?_push_size _ rfl
  have hlt := K.there _ _ hst
  refine ⟨⟨_, hS, rfl⟩, PySem.F.args_list_init_2 _ _, si_init (A := A.in1) K hh ((K.walk A hh).frame 0 _ _ hst fun b _ o e => Heap.get?_push_of_some _ e) _ (Nat.ne_of_gt hlt.1) (Nat.ne_of_gt hlt.2) hS (fun h' tk acc' c' hk hS' hacc => ?_) hn⟩
  exact ⟨rfl, hQ h' tk acc' c' (fun b o hb e => hk b o (Nat.ne_of_lt (Heap.lt_size e)) hb (Heap.get?_push_of_some _ e)) hS' hacc⟩
/-- .. the same as a plain list of values: what tuple(..) takes -/
theorem si_collect {Q : List Value → Shared → Prop} (K : SelfIt prog w T r d n P St) (hh : A.handled = none) (hst : St 0 s.heap) (hn : n ≤ sizeLine)
    (hQ : ∀ (h' : Heap) (tk : Nat) (acc : Array Value), (∀ b o, b ≠ r → s.heap.get? b = some o → h'.get? b = some o) → ItemsOf P acc n → Q acc.toList { s with heap := h', toks := tk }) :
    wpAny (model prog w) A (collect (.ref r)) Q E s := by
  unfold collect
  refine wpAny_bind (wpAny_runValue (codeAny_builtin F.entry_proto_collect ?_))
  rw [Around.under_plainId F.plain_proto_collect _]
  show wpAny _ A.in1 (newList [] >>= fun l' => again (.builtin "list.__iadd__" ⟨[l', .ref r], []⟩)) _ _ s
  refine wpAny_bind (wpAny_newObj_type ?_)
  refine wpAny_pure ⟨plainId_quiet F.plain_list_iadd _, codeAny_builtin F.entry_list_iadd ?_⟩
  rw [Around.under_plainId F.plain_list_iadd _]
  show wpAny _ A.in1 (Builtin.List.listExtendWith (.ref s.heap.objs.size) (.ref r) (.ref s.heap.objs.size)) _ _ _
  have hS : (s.heap.push { cls := .type "list", data := .seq ([] : List Value).toArray }).get? s.heap.objs.size = some { cls := .type "list", data := .seq #[] 0 } := Heap.get?_push_size _ rfl
  have hlt := K.there _ _ hst
  refine wpAny_mono (si_extend (A := A) (s := { s with heap := s.heap.push { cls := .type "list", data := .seq ([] : List Value).toArray } }) (R := fun rr s' => rr = .ok (.ret (.ref s.heap.objs.size)) ∧ ∃ (h' : Heap) (tk : Nat) (acc : Array Value) (c' : Nat), s' = { s with heap := h', toks := tk } ∧
      (∀ b o, b ≠ r → s.heap.get? b = some o → h'.get? b = some o) ∧ h'.get? s.heap.objs.size = some { cls := .type "list", dict := none, data := .seq acc c', slots := #[] } ∧ ItemsOf P acc n)
    K hh ((K.walk A hh).frame 0 _ _ hst fun b _ o e => Heap.get?_push_of_some _ e) _ (Nat.ne_of_gt hlt.1) (Nat.ne_of_gt hlt.2) _ 0 hS
    (fun h' tk acc c' hk e hi => ⟨rfl, h', tk, acc, c', rfl, fun b o hb q => hk b o (Nat.ne_of_lt (Heap.lt_size q)) hb (Heap.get?_push_of_some _ q), e, hi⟩) hn) (fun fin s' h => ?_) (fun e s' h => ?_)
  · cases fin with
    | done f =>
      obtain ⟨e, h', tk, acc, c', rfl, hk, hS', hi⟩ := h
      cases e
      show wpAny _ A (load s.heap.objs.size >>= _) _ _ _
      exact wpAny_bind (wpAny_load hS' (wpAny_pure (hQ h' tk acc hk hi)))
    | again c' =>
      refine ⟨h.1, codeAny_mono h.2 fun rr s'' hr' => ?_⟩
      obtain ⟨rfl, h', tk, acc, c', rfl, hk, hS', hi⟩ := hr'
      show wpAny _ A (load s.heap.objs.size >>= _) _ _ _
      exact wpAny_bind (wpAny_load hS' (wpAny_pure (hQ h' tk acc hk hi)))
  · exact absurd h.1 (by simp)
theorem si_tuple_new {Q₁ : Value → Shared → Prop} (K : SelfIt prog w T r d n P St) (hh : A.handled = none) (hst : St 0 s.heap) (hn : n ≤ sizeLine)
    (h : ∀ (h' : Heap) (tk : Nat) (acc : Array Value), (∀ b o, b ≠ r → s.heap.get? b = some o → h'.get? b = some o) → ItemsOf P acc n →
      Q₁ (.ref h'.objs.size) { s with heap := h'.push { cls := .type "tuple", data := .seq acc }, toks := tk }) :
    codeAny (model prog w) A (.call (.builtin "tuple.__new__") ⟨[.type "tuple", .ref r], []⟩) (wants Q₁ E) s := by
  refine codeAny_of_tree ?_
  show wpAny _ A.in1 (do checkBuiltinCall "tuple.__new__" ⟨[.type "tuple", .ref r], []⟩; again (.builtin "tuple.__new__" ⟨[.type "tuple", .ref r], []⟩)) _ _ s
  refine wpAny_bind (wpAny_of_eq (F.newCall_tuple_1 _) (wpAny_pure ⟨plainId_quiet F.plain_tuple_new _, codeAny_builtin F.entry_tuple_new ?_⟩))
  rw [Around.under_plainId F.plain_tuple_new _]
  have hsub := sub_tuple_self
  have hinit := init_tuple_lookup
  have hmh := madeHere_tuple
  have hTI : s.TypeIs (.ref r) T := K.type 0 s hst
  have hnt : (Value.type T == Value.type "tuple") = false := K.notTuple
  have hh1 : A.in1.handled = none := hh
  wp_walk using wpAny_typeOf hTI, si_collect (A := A.in1) K hh1 hst hn
  intro h' tk acc hk hacc
  show wpAny _ _ (Builtin.Tuple.tupleExact acc.toList.toArray >>= fun v => ret v) _ _ _
  unfold Builtin.Tuple.tupleExact
  refine wpAny_bind (wpAny_newObj_type ?_ (by show acc.toList.toArray.size ≤ sizeLine; simp only [Array.toArray_toList]; rw [hacc.1]; exact hn))
  refine wpAny_pure ?_
  have e : acc.toList.toArray = acc := by simp
  rw [e]
  exact h h' tk acc hk hacc
theorem si_tuple {Q : Value → Shared → Prop} (K : SelfIt prog w T r d n P St) (hh : A.handled = none) (hst : St 0 s.heap) (hn : n ≤ sizeLine)
    (hQ : ∀ (h' : Heap) (tk : Nat) (acc : Array Value), (∀ b o, b ≠ r → s.heap.get? b = some o → h'.get? b = some o) → ItemsOf P acc n →
      Q (.ref h'.objs.size) { s with heap := h'.push { cls := .type "tuple", data := .seq acc }, toks := tk }) :
    wpAny (model prog w) A (call (.type "tuple") [.ref r]) Q E s := by
  refine callType_codes (Q₁ := fun obj s₁ => s₁.TypeIs obj "tuple" ∧ Q obj s₁) F.called_tuple (F.typeCall_tuple_1 _) F.entry_object_init
    (si_tuple_new (A := A.in1) K hh hst hn fun h' tk acc hk hacc => ⟨⟨_, Heap.get?_push_size _ rfl, rfl⟩, hQ h' tk acc hk hacc⟩) fun obj s₁ h₁ => ?_
  exact ⟨h₁.1, F.args_object_init_2 obj _, object_init_meets F.called_tuple.init.lookup F.called_tuple.made (by decide) prog w A.in1 _ s₁ ⟨h₁.1, rfl, h₁.2⟩⟩

/-! ### reversed -/
theorem hint_lrev {Q : Bool → Shared → Prop} (hT : s.TypeIs (.ref r) "list_reverseiterator") (h : Q false s) : wpAny (model prog w) A (Builtin.List.listLengthHint (.ref r)) Q E s := by
  unfold Builtin.List.listLengthHint
  refine wpAny_bind (wpAny_specialOf hT RT.nolen_lri ?_)
  show wpAny _ A (specialOf (Value.ref r) (Str.ofString "__length_hint__") >>= _) _ _ _
  refine wpAny_bind (wpAny_specialOf hT RT.hint_lri ?_)
  generalize hid : ("list_reverseiterator.__length_hint__" : String) = id0
  wp_delta
  rw [show splitId id0 = some ("list_reverseiterator", "__length_hint__") from by subst hid; decide +kernel]
  subst hid
  refine wpAny_bind (wpAny_isInstance (b := true) hT (by rw [isSubtype_type]; kernel_rfl) ?_)
  exact wpAny_pure h
theorem nolen_rt : typeLookup (.type "reversed") "__len__" = pure none := by rw [typeLookup_type, builtinLookup_eq_fast]; kernel_rfl
theorem slot_rt_hint : Slot "reversed" "__length_hint__" "reversed.__length_hint__" :=
  .of (owner := "reversed") (n := "__length_hint__") (by rw [typeLookup_type, builtinLookup_eq_fast]; kernel_rfl) (by decide +kernel) (by decide +kernel) (by decide +kernel)
    (by first | exact .inl (by decide +kernel) | exact .inr (by decide +kernel)) (by rw [isSubtype_type]; kernel_rfl)
theorem entry_rt_hint : entryFor table "reversed.__length_hint__" = some Builtin.«reversed.__length_hint__» := entryFor_of_tree (by kernel_rfl)
theorem args_rt_hint (a : Value) : argsOk "reversed.__length_hint__" ⟨[a], []⟩ := by
  unfold argsOk; rw [signature?_of (id := "reversed.__length_hint__") (n := ['_', '_', 't', 'n', 'i', 'h', '_', 'h', 't', 'g', 'n', 'e', 'l', '_', '_']) (o := ['d', 'e', 's', 'r', 'e', 'v', 'e', 'r']) (by kernel_rfl) RT.owner_rt]; kernel_rfl
theorem fit63 {n : Nat} (h : n ≤ sizeLine) : (n : Int) < 2 ^ 63 := by
  rw [sizeLine_eq] at h
  have h63 : (2 : Int) ^ 63 = 9223372036854775808 := by decide
  rw [h63]
  omega
theorem call_rt_hint {it t : Addr} {i : Int} {items : Array Value} {Q : Value → Shared → Prop} (hit : RT.IsRt s.heap it t i) (ht : IsTup s.heap t items) (hz : items.size ≤ sizeLine) (hi : i < items.size)
    (h : ∀ tk tk2, Q (.int (i + 1) tk2) { s with toks := tk }) : wpAny (model prog w) A (call (.builtin "reversed.__length_hint__") [.ref it]) Q E s := by
  obtain ⟨o, ho, hc, hd⟩ := id hit
  refine wpAny_call_entry slot_rt_hint hit.typeIs entry_rt_hint ?_ (args_rt_hint _)
  unfold Builtin.«reversed.__length_hint__»
  refine wpAny_bind (wpAny_of_eq (a := Value.ref it) rfl ?_)
  try dsimp only
  refine wpAny_bind (wpAny_field ho hd (x := .ref t) rfl ?_)
  show wpAny _ _ (call (.builtin "len") [Value.ref t] >>= _) _ _ s
  refine wpAny_bind (len_tuple ht (fit63 hz) ?_)
  try dsimp only
  refine wpAny_bind (m := asInt? (.int items.size (s.toks + 1))) (wpAny_pure ?_)
  try dsimp only
  refine wpAny_bind (wpAny_field (s := { s with toks := s.toks + 1 + 1 }) ho hd (x := rawInt i) rfl ?_)
  show wpAny _ _ (if (items.size : Int) < i + 1 then _ else _) _ _ _
  rw [if_neg (by omega)]
  show wpAny _ _ (mkInt (i + 1) >>= ret) _ _ _
  refine wpAny_bind (wpAny_mkInt ?_)
  exact wpAny_pure ⟨_, rfl, h _ _⟩
theorem hint_trev {it t : Addr} {i : Int} {items : Array Value} {Q : Bool → Shared → Prop} (hit : RT.IsRt s.heap it t i) (ht : IsTup s.heap t items) (hz : items.size ≤ sizeLine) (hi : i < items.size) (hi2 : -1 ≤ i)
    (h : ∀ b tk, Q b { s with toks := tk }) : wpAny (model prog w) A (Builtin.List.listLengthHint (.ref it)) Q E s := by
  have hT := hit.typeIs
  unfold Builtin.List.listLengthHint
  refine wpAny_bind (wpAny_specialOf hT nolen_rt ?_)
  show wpAny _ A (specialOf (Value.ref it) (Str.ofString "__length_hint__") >>= _) _ _ _
  refine wpAny_bind (wpAny_specialOf hT slot_rt_hint.lookup ?_)
  generalize hid : ("reversed.__length_hint__" : String) = id0
  wp_delta
  rw [show splitId id0 = some ("reversed", "__length_hint__") from by subst hid; decide +kernel]
  subst hid
  refine wpAny_bind (wpAny_isInstance (b := true) hT (by rw [isSubtype_type]; kernel_rfl) ?_)
  rw [if_neg (by decide)]
  rw [if_neg (by decide +kernel)]
  refine wpAny_bind (wpAny_rule ?_)
  rw [slot_rt_hint.bind]
  refine wpAny_bind (wpAny_pure ?_)
  refine wpAny_bind (wpAny_attempt (call_rt_hint hit ht hz hi fun tk tk2 => ?_))
  try dsimp only
  refine wpAny_bind (m := asInt? (.int (i + 1) tk2)) (wpAny_pure ?_)
  have h63 : (2 : Int) ^ 63 = 9223372036854775808 := by decide
  have hz2 := hz
  rw [sizeLine_eq] at hz2
  dsimp only
  rw [if_neg (by unfold Builtin.List.listFitsIndex; simp; omega)]
  rw [if_neg (by omega)]
  rw [if_neg (by unfold Builtin.List.listTooLong; simp; omega)]
  exact wpAny_pure (h _ _)
theorem si_lrev {it l : Addr} {items : Array Value} (hne : l ≠ it) :
    SelfIt prog w "list_reverseiterator" it l items.size (fun i v => items[items.size - 1 - i]? = some v) (fun i h => i ≤ items.size ∧ h.IsRevIter it l ((items.size : Int) - 1 - (i : Nat)) ∧ h.IsList l items) where
  type := fun _ _ h => Heap.IsRevIter.typeIs h.2.1
  there := fun _ _ h => ⟨let ⟨_, ho, _⟩ := h.2.1; Heap.lt_size ho, let ⟨_, ho, _⟩ := h.2.2; Heap.lt_size ho⟩
  notList := by decide
  notTuple := by decide
  hint := fun _ _ s _ st h => hint_lrev (Heap.IsRevIter.typeIs st.2.1) (h false s.toks)
  walk := fun A hh => Walks.listRev hh it l hne items
theorem tup_at {h h' : Heap} {a : Addr} {items : Array Value} (x : IsTup h a items) (e : ∀ o, h.get? a = some o → h'.get? a = some o) : IsTup h' a items := let ⟨o, ho, r⟩ := x; ⟨o, e _ ho, r⟩
theorem si_trev {it l : Addr} {items : Array Value} (hne : l ≠ it) (hz : items.size ≤ sizeLine) :
    SelfIt prog w "reversed" it l items.size (fun i v => items[items.size - 1 - i]? = some v) (fun i h => i ≤ items.size ∧ RT.IsRt h it l ((items.size : Int) - 1 - (i : Nat)) ∧ IsTup h l items) where
  type := fun _ _ h => RT.IsRt.typeIs h.2.1
  there := fun _ _ h => ⟨let ⟨_, ho, _⟩ := h.2.1; Heap.lt_size ho, let ⟨_, ho, _⟩ := h.2.2; Heap.lt_size ho⟩
  notList := by decide
  notTuple := by decide
  hint := fun _ _ s _ st h => hint_trev (i := (items.size : Int) - 1 - ((0 : Nat) : Int)) st.2.1 st.2.2 hz (by omega) (by omega) h
  walk := fun A hh =>
    { sub := fun b hb => by simp at hb; simp [hb]
      frame := fun i h h' st hk => ⟨st.1, st.2.1.at fun o e => hk it (by simp) o e, tup_at st.2.2 fun o e => hk l (by simp) o e⟩
      item := fun i s Q E hi x hQ => by
        have e : (items.size : Int) - 1 - (i : Int) = ((items.size - 1 - i : Nat) : Int) := by omega
        have hit := x.2.1
        rw [e] at hit
        have hx : items[items.size - 1 - i]? = some (items[items.size - 1 - i]'(by omega)) := Array.getElem?_eq_getElem (by omega)
        refine RT.next_rt_item hit x.2.2 hx hz fun h' hit' hs' => ?_
        have e2 : ((items.size - 1 - i : Nat) : Int) - 1 = (items.size : Int) - 1 - ((i + 1 : Nat) : Int) := by omega
        rw [e2] at hit'
        exact hQ _ h' _ hx ⟨hi, hit', tup_at x.2.2 fun o eo => (hs'.2 l hne).trans eo⟩ fun b o hb eo => hs'.extBut b o (fun h => hb (by simp [h])) eo
      done := fun s Q E x hQ => by
        have e : (items.size : Int) - 1 - (items.size : Int) = -1 := by omega
        have hit := x.2.1
        rw [e] at hit
        exact RT.next_rt_end hh hit fun h' he' => hQ h' s.toks fun b o hb eo => he' b o (fun h => hb (by simp [h])) eo
      self := fun _ _ _ _ x hQ => RT.iter_rt x.2.1 hQ }
end

/-! ### T(reversed(x)), T list or tuple -/
/-- the new thing: a list or a tuple -/
def revOf (T : String) (xs : List V) : HO := if T = "list" then .lst xs.reverse else .tup xs.reverse
def tRevOf (K : PySem.W.Frag) (T : String) (te : TE) : TE := fun σ H Q => te σ H fun v H1 => ∃ (a : Addr) (xs : List V), v = .ref a ∧ (SqL K H1 a xs ∨ SqT K H1 a xs) ∧ ∀ q, H1 q = none → Q (.ref q) (upd H1 q (revOf T xs))
section
variable {X : Cx}
theorem vals_rev' {xs : List V} {its : List Value} {acc : Array Value} (r : Vals xs its) (h : ItemsOf (fun i v => its.toArray[its.toArray.size - 1 - i]? = some v) acc its.toArray.size) : Vals xs.reverse acc.toList := RT.vals_rev r h
theorem freed_get (h : Heap) (a : Addr) : (h.update a fun o => { o with data := .freed }).get? a = none := by
  cases e : (h.update a fun o => { o with data := .freed }).get? a with
  | none => rfl
  | some o =>
    obtain ⟨h1, h2⟩ := (Heap.get?_eq_some _ _ _).1 e
    rw [Heap.objs_update_self] at h1
    cases e2 : h.objs[a]? with
    | none => rw [e2] at h1; cases h1
    | some o2 => rw [e2] at h1; cases h1; cases h2
theorem pe_revOf {T : String} {e : Expr} {te : TE} {p p2 pos pos2 : Pos} (hT : T = "list" ∨ T = "tuple") (hc : X.calm = true) (hg : Gl X T) (hm : X.mg T = none) (hb : bootBuiltins T = some (.type T)) (hg2 : Gl X "reversed") (hm2 : X.mg "reversed" = none) (he : PE X e te)
    (hs : starEach [e] X.env = (false, eval e X.env) :: starEach [] X.env := by rfl)
    (hs2 : starEach [.Call (.Name "reversed" p2) [e] [] pos2] X.env = (false, eval (.Call (.Name "reversed" p2) [e] [] pos2) X.env) :: starEach [] X.env := by rfl) :
    PE X (.Call (.Name T p) [.Call (.Name "reversed" p2) [e] [] pos2] [] pos) (tRevOf X.K T te) := by
  refine ⟨fun pins s σ H Q I h => ?_⟩
  refine Call_ (ld_blt (hn := by rcases hT with rfl | rfl <;> decide) (hd := by rcases hT with rfl | rfl <;> decide) I hg hm hb (PyProof.Rows.callWith_type1 (args_cons (Call_ (ld_blt I hg2 hm2 PyProof.Rows.boot_reversed (PyProof.Rows.callWith_type1 (args_cons (thn (he.run pins s σ H _ I h) fun u s1 ⟨v, H1, I1, r1, q1⟩ => args_nil ?_) hs) hs rfl))) hs2) hs2 (by rcases hT with rfl | rfl <;> rfl)))
  obtain ⟨a, xs, ev, hq, q⟩ := q1
  subst ev
  obtain rfl : u = Value.ref a := r1
  -- what stands behind the iterator
  obtain ⟨f0, f1, f2, f3, f4, f5⟩ := I1.fpOk (H' := H1) (b := s1.heap.objs.size) (Nat.le_refl _) (I1.hok.fresh (Nat.le_refl _))
  have mk : ∀ {its : List Value} {s2 : Shared} {Ty : String} {St : Nat → Heap → Prop}, Vals xs its → xs.length ≤ sizeLine → Inv X pins σ H1 s2 → 
      SelfIt X.prog X.w Ty s1.heap.objs.size a its.toArray.size (fun i v => its.toArray[its.toArray.size - 1 - i]? = some v) St → St 0 s2.heap →
      wpAny (model X.prog X.w) X.A (call (.type T) [.ref s1.heap.objs.size]) (EP X pins σ Q) X.xe s2 := by
    intro its s2 Ty St rv hz I2 K st
    have hn : its.toArray.size ≤ sizeLine := by rw [List.size_toArray, ← rv.length]; exact hz
    rcases hT with rfl | rfl
    · refine si_call K (I2.ok.hd hc) st hn fun h' tk acc c' hk hS hi => ?_
      let hm := s2.heap.update s1.heap.objs.size fun o => { o with data := .freed }
      have hg : hm.get? s1.heap.objs.size = none := freed_get _ _
      have ho : ∀ b, b ≠ s1.heap.objs.size → hm.get? b = s2.heap.get? b := fun b hb => Heap.get?_update_other _ _ (Ne.symm hb)
      have I3 : Inv X pins σ H1 { s2 with heap := hm, toks := s2.toks } := I2.turned (t' := s2.toks) (fun b o hb e => (ho b hb).trans e) f0 f1 f3 f4 f5
      have hsz : hm.objs.size = s2.heap.objs.size := Heap.size_update ..
      refine ⟨.ref s2.heap.objs.size, upd H1 s2.heap.objs.size (.lst xs.reverse), I3.laid (t' := tk) (a := s2.heap.objs.size) (fun b o e => ?_) (Nat.le_of_eq hsz) (show ObjOk X.prog X.w _ _ _ (.lst xs.reverse) from ⟨by rw [List.length_reverse]; exact hz, acc.toList, c', RT.vals_rev rv hi, ?_⟩), rfl, q _ (I2.hok.fresh (Nat.le_refl _))⟩
      · by_cases hb : b = s1.heap.objs.size
        · rw [hb, hg] at e
          cases e
        · exact hk b o hb (by rw [← ho b hb]; exact e)
      · rw [Array.toArray_toList]
        exact hS
    · refine si_tuple K (I2.ok.hd hc) st hn fun h' tk acc hk hi => ?_
      have I3 : Inv X pins σ H1 { s2 with heap := h', toks := tk } := I2.turned (t' := tk) (fun b o hb e => hk b o hb e) f0 f1 f3 f4 f5
      refine ⟨.ref h'.objs.size, upd H1 h'.objs.size (.tup xs.reverse), I3.laid (t' := tk) (fun c o e => Heap.get?_push_of_some _ e) (Nat.le_refl _) (show ObjOk X.prog X.w _ _ _ (.tup xs.reverse) from ⟨by rw [List.length_reverse]; exact hz, acc.toList, RT.vals_rev rv hi, ?_⟩), rfl, q _ (I3.hok.fresh (Nat.le_refl _))⟩
      rw [Array.toArray_toList]
      exact IsTup.new _ _
  rcases hq with hq | hq
  · obtain ⟨its, rv, p', hz⟩ := I1.list hq
    have hl := p'.isList
    obtain ⟨ol, hol, _⟩ := id hl
    have hne : a ≠ s1.heap.objs.size := Nat.ne_of_lt (Heap.lt_size hol)
    refine call_reversed_list hl (args_nil ?_)
    refine mk (s2 := { s1 with heap := s1.heap.push (revObj a ((its.toArray.size : Int) - 1)) }) rv hz (I1.kept (t' := s1.toks) fun b o e => Heap.get?_push_of_some _ e) (si_lrev hne) ⟨Nat.zero_le _, ?_, hl.push _⟩
    have e1 : ((its.toArray.size : Nat) : Int) - 1 - ((0 : Nat) : Int) = (its.toArray.size : Int) - 1 := by omega
    rw [e1]
    exact ⟨_, Heap.get?_push_size _ rfl, rfl, rfl⟩
  · obtain ⟨its, rv, p', hz⟩ := I1.tuple hq
    have hl : IsTup s1.heap a its.toArray := p'
    obtain ⟨ol, hol, _⟩ := id hl
    have hne : a ≠ s1.heap.objs.size := Nat.ne_of_lt (Heap.lt_size hol)
    have hn : its.toArray.size ≤ sizeLine := by rw [List.size_toArray, ← rv.length]; exact hz
    refine RT.call_reversed_tup hl (fun A E Q k => len_tuple hl (fit63 hn) k) (args_nil ?_)
    refine mk (s2 := { s1 with heap := s1.heap.push (RT.rtObj a ((its.toArray.size : Int) - 1)), toks := s1.toks + 1 + 1 }) rv hz (I1.kept (t' := s1.toks + 1 + 1) fun b o e => Heap.get?_push_of_some _ e) (si_trev hne hn) ⟨Nat.zero_le _, ?_, hl.push _⟩
    have e1 : ((its.toArray.size : Nat) : Int) - 1 - ((0 : Nat) : Int) = (its.toArray.size : Int) - 1 := by omega
    rw [e1]
    exact ⟨_, Heap.get?_push_size _ rfl, rfl, rfl⟩
end
section
variable {K : PySem.W.Frag} {w w' w1 w2 : Wd} {w0 : W0} {σ : L2.St} {env env' env1 : List Sl}
theorem Reps.rev {w : Wd} : ∀ {vs : List V} {ds : List D}, Reps K w vs ds → Reps K w vs.reverse ds.reverse
  | [], _, r => by cases r; exact .nil
  | _ :: _, _, r => by
    cases r with
    | cons a b => rw [List.reverse_cons, List.reverse_cons]; exact b.rev.append (.cons a .nil)
def revR (T : String) (ds : List D) : R := if T = "list" then .own (.lst ds.reverse) else .val (.tup ds.reverse)
def o_rev (T : String) : D → Option R
  | .lst ds => some (revR T ds)
  | .tup ds => some (revR T ds)
  | _ => none
theorem out_rev {T : String} {z : R} {xs : List V} {ds : List D} {p : Addr} {Q : VK} (g : Good w) (hp : w.H p = none) (r : Reps K w xs ds) (e : some (revR T ds) = some z) (q : ∀ v w', PStep w w' → Good w' → RepZ K w w' v z → Q v w'.H) : Q (.ref p) (upd w.H p (revOf T xs)) := by
  unfold revR at e
  unfold revOf
  split at e
  · rename_i h; rw [if_pos h]; exact outL g hp r.rev e q
  · rename_i h; rw [if_neg h]; exact outT g hp r.rev e q
theorem rev_at {T : String} {a : V} {d : D} {z : R} {Q : VK} (g : Good w) (r : Rep K w a d) (h : o_rev T d = some z) (q : ∀ v w', PStep w w' → Good w' → RepZ K w w' v z → Q v w'.H) :
    ∃ (p : Addr) (xs : List V), a = .ref p ∧ (SqL K w.H p xs ∨ SqT K w.H p xs) ∧ ∀ b, w.H b = none → Q (.ref b) (upd w.H b (revOf T xs)) := by
  cases r with
  | fn _ => first | cases h | cases hh | cases h3
  | dct _ _ => first | cases h | cases hh | cases h3
  | lst l r => exact ⟨_, _, rfl, .inl l.sq, fun p hp => out_rev g hp r h q⟩
  | tup l r => exact ⟨_, _, rfl, .inr l.sq, fun p hp => out_rev g hp r h q⟩
  | str _ => cases h
  | non => cases h
  | bl _ => cases h
  | int _ => cases h
def e_rev (T : String) (f : Ex) : Ex := e1 (o_rev T) f
theorem em_rev {T : String} {te : TE} {f : Ex} (hf : EM K te f) : EM K (tRevOf K T te) (e_rev T f) := by
  intro w0 w σ env e z env' h Q q
  obtain ⟨⟨x, e1⟩, h1, h⟩ := Option.bind_eq_some_iff.mp h
  obtain ⟨z', h3, h⟩ := Option.bind_eq_some_iff.mp h
  cases h
  refine hf.v w0 w σ env e x _ h1 _ fun v w1 E1 s1 r1 => ?_
  exact rev_at E1.good r1 h3 fun t w3 s3 g3 r3 => q t w3 (E1.grow s3 g3) (s1.trans s3.step) (r3.r E1)
/-- of an owned one -/
def e_revo (T : String) (i : Nat) : Ex := fun env => match owOf env[i]? with
  | some o => (o_rev T o.d).bind fun z => if z.lf = true then some (z, env) else none
  | none => none
theorem em_revo {T : String} {i : Nat} : EM K (tRevOf K T (tVar i)) (e_revo T i) := by
  intro w0 w σ env e z env' h Q q
  unfold e_revo at h
  split at h
  · rename_i o hoo
    obtain ⟨z', h2, h⟩ := Option.bind_eq_some_iff.mp h
    split at h
    · rename_i hl
      cases h
      obtain ⟨a, ha, hO⟩ := e.ow hoo
      refine ⟨_, ha, ?_⟩
      refine own_read e hO ha (P := fun H Q => ∃ (p : Addr) (xs : List V), V.ref a = .ref p ∧ (SqL K H p xs ∨ SqT K H p xs) ∧ ∀ b, H b = none → Q (.ref b) (upd H b (revOf T xs))) hl (fun Q' q' => ?_) q
      exact rev_at (w := w.frz a) (Wd.frz_good e.good a) (hO.1.frz e.good hO.2) h2 q'
    · cases h
  · cases h
/-- for x in reversed(xs) -/
theorem itok_rev {a : Addr} {ds : List D} (g : Good w) (r : Rep K w (.ref a) (.lst ds)) : ItOk K w (Itv K a ds.length) ds.reverse := by
  intro i w2 g2 s
  have r2 := r.go g s
  cases r2 with
  | lst l rs =>
    refine ⟨fun d hd => ?_, fun h => by show ds.length ≤ i; simpa using h⟩
    have hi : i < ds.length := by have := List.getElem?_eq_some_iff.mp hd |>.1; simpa using this
    rw [List.getElem?_reverse hi] at hd
    obtain ⟨x, hx, rx⟩ := rs.get hd
    refine ⟨⟨hi, _, x, l.sq, hx⟩, fun y H' hy => ?_⟩
    obtain ⟨rfl, hy⟩ := hy
    have : y = x := Option.some.inj ((hy _ l.sq).symm.trans hx)
    subst this
    exact ⟨w2, rfl, .refl w2, g2, rx⟩
theorem itok_revT {a : Addr} {ds : List D} (g : Good w) (r : Rep K w (.ref a) (.tup ds)) : ItOk K w (RT.ItvT K a ds.length) ds.reverse := by
  intro i w2 g2 s
  have r2 := r.go g s
  cases r2 with
  | tup l rs =>
    refine ⟨fun d hd => ?_, fun h => by show ds.length ≤ i; simpa using h⟩
    have hi : i < ds.length := by have := List.getElem?_eq_some_iff.mp hd |>.1; simpa using this
    rw [List.getElem?_reverse hi] at hd
    obtain ⟨x, hx, rx⟩ := rs.get hd
    refine ⟨⟨hi, _, x, l.sq, hx⟩, fun y H' hy => ?_⟩
    obtain ⟨rfl, hy⟩ := hy
    have : y = x := Option.some.inj ((hy _ l.sq).symm.trans hx)
    subst this
    exact ⟨w2, rfl, .refl w2, g2, rx⟩
def s_rev (f : Ex) : Src := fun env => (vf f env).bind fun p => match p.1 with
  | .lst ds => some (ds.reverse, p.2)
  | .tup ds => some (ds.reverse, p.2)
  | _ => none
theorem im_rev {te : TE} {f : Ex} (hf : EM K te f) : IM K (RT.iRevA K te) (s_rev f) := by
  intro w0 w σ env e ds env' h Q q
  obtain ⟨⟨x, e1⟩, h1, h⟩ := Option.bind_eq_some_iff.mp h
  refine hf.v w0 w σ env e x e1 h1 _ fun v w1 E1 s1 r1 => ?_
  have r1' := r1
  cases r1 with
  | fn _ => first | cases h | cases hh | cases h3
  | dct _ _ => first | cases h | cases hh | cases h3
  | lst l r => cases h; exact ⟨_, _, rfl, .inl ⟨l.sq, by rw [r.length]; exact q _ w1 E1 s1 (itok_rev E1.good r1')⟩⟩
  | tup l r => cases h; exact ⟨_, _, rfl, .inr ⟨l.sq, by rw [r.length]; exact q _ w1 E1 s1 (itok_revT E1.good r1')⟩⟩
  | non => cases h
  | bl _ => cases h
  | int _ => cases h
  | str _ => cases h
end
section
variable {X : Cx} {pos : Pos} {e : Expr} {f : Ex}
theorem x_revl {p p2 pos2 : Pos} (hc : X.calm = true) (hm : X.mg "list" = none) (hm2 : X.mg "reversed" = none) (he : XE X e f) (hg : Gl X "list" := by rfl) (hg2 : Gl X "reversed" := by rfl)
    (hs : starEach [e] X.env = (false, eval e X.env) :: starEach [] X.env := by rfl)
    (hs2 : starEach [.Call (.Name "reversed" p2) [e] [] pos2] X.env = (false, eval (.Call (.Name "reversed" p2) [e] [] pos2) X.env) :: starEach [] X.env := by rfl) :
    XE X (.Call (.Name "list" p) [.Call (.Name "reversed" p2) [e] [] pos2] [] pos) (e_rev "list" f) := let ⟨_, p, q⟩ := he; ⟨_, pe_revOf (.inl rfl) hc hg hm (by decide +kernel) hg2 hm2 p hs hs2, em_rev q⟩
theorem x_revt {p p2 pos2 : Pos} (hc : X.calm = true) (hm : X.mg "tuple" = none) (hm2 : X.mg "reversed" = none) (he : XE X e f) (hg : Gl X "tuple" := by rfl) (hg2 : Gl X "reversed" := by rfl)
    (hs : starEach [e] X.env = (false, eval e X.env) :: starEach [] X.env := by rfl)
    (hs2 : starEach [.Call (.Name "reversed" p2) [e] [] pos2] X.env = (false, eval (.Call (.Name "reversed" p2) [e] [] pos2) X.env) :: starEach [] X.env := by rfl) :
    XE X (.Call (.Name "tuple" p) [.Call (.Name "reversed" p2) [e] [] pos2] [] pos) (e_rev "tuple" f) := let ⟨_, p, q⟩ := he; ⟨_, pe_revOf (.inr rfl) hc hg hm (by decide +kernel) hg2 hm2 p hs hs2, em_rev q⟩
theorem x_revlo (i : Nat) {y : Str} {p p2 p3 pos2 : Pos} (hc : X.calm = true) (hm : X.mg "list" = none) (hm2 : X.mg "reversed" = none) (hg : Gl X "list" := by rfl) (hg2 : Gl X "reversed" := by rfl)
    (hs : starEach [.Name y p3] X.env = (false, eval (.Name y p3) X.env) :: starEach [] X.env := by rfl)
    (hs2 : starEach [.Call (.Name "reversed" p2) [.Name y p3] [] pos2] X.env = (false, eval (.Call (.Name "reversed" p2) [.Name y p3] [] pos2) X.env) :: starEach [] X.env := by rfl)
    (hN : X.N[i]? = some y := by rfl) (hv : Vis X.env.scope y := by first | exact Or.inl rfl | exact Or.inr (Or.inl rfl) | exact Or.inr (Or.inr rfl)) (hd : (y == ("__debug__" : Str)) = false := by decide)
    (hcd : (y == ("__classdict__" : Str)) = false := by decide) :
    XE X (.Call (.Name "list" p) [.Call (.Name "reversed" p2) [.Name y p3] [] pos2] [] pos) (e_revo "list" i) := ⟨_, pe_revOf (.inl rfl) hc hg hm (by decide +kernel) hg2 hm2 (pe_var hN hv hd hcd) hs hs2, em_revo⟩
theorem x_revto (i : Nat) {y : Str} {p p2 p3 pos2 : Pos} (hc : X.calm = true) (hm : X.mg "tuple" = none) (hm2 : X.mg "reversed" = none) (hg : Gl X "tuple" := by rfl) (hg2 : Gl X "reversed" := by rfl)
    (hs : starEach [.Name y p3] X.env = (false, eval (.Name y p3) X.env) :: starEach [] X.env := by rfl)
    (hs2 : starEach [.Call (.Name "reversed" p2) [.Name y p3] [] pos2] X.env = (false, eval (.Call (.Name "reversed" p2) [.Name y p3] [] pos2) X.env) :: starEach [] X.env := by rfl)
    (hN : X.N[i]? = some y := by rfl) (hv : Vis X.env.scope y := by first | exact Or.inl rfl | exact Or.inr (Or.inl rfl) | exact Or.inr (Or.inr rfl)) (hd : (y == ("__debug__" : Str)) = false := by decide)
    (hcd : (y == ("__classdict__" : Str)) = false := by decide) :
    XE X (.Call (.Name "tuple" p) [.Call (.Name "reversed" p2) [.Name y p3] [] pos2] [] pos) (e_revo "tuple" i) := ⟨_, pe_revOf (.inr rfl) hc hg hm (by decide +kernel) hg2 hm2 (pe_var hN hv hd hcd) hs hs2, em_revo⟩
theorem xi_rev {tg : Expr} {p : Pos} (hm : X.mg "reversed" = none) (ha : XE X e f) (hg : Gl X "reversed" := by rfl) (hs : starEach [e] X.env = (false, eval e X.env) :: starEach [] X.env := by rfl) : XI X tg (.Call (.Name "reversed" p) [e] [] pos) (s_rev f) := let ⟨_, p, q⟩ := ha; ⟨_, RT.pi_revA hg hm p hs, im_rev q⟩
end
/-! ### in a list or a tuple -/
theorem in_room {k : Nat} {A : Around} (r : Room k A) : A.units + 65 < cLine := by have := r.un; omega
section
variable {X : Cx} {K : PySem.W.Frag}
def rInX (K : PySem.W.Frag) (neg : Bool) : R2 := fun x y H Q => ∃ d ds, Dp K H x d ∧ (Dp K H y (.list ds) ∨ Dp K H y (.tuple ds)) ∧ SeqAt.shaped d = true ∧ SeqAt.shaped (.list ds) = true ∧ Q (.bl (if neg then !(ds.any fun z => PyData.eqv z d) else ds.any fun z => PyData.eqv z d)) H
theorem op_inX (hu : X.A.units + 65 < cLine) : OpR X (compareOp .In) (rInX X.K false) := by
  intro pins s σ H x y v u Q I rx ry h
  obtain ⟨d, ds, hd, he, sd, se, q⟩ := h
  obtain ⟨as, r1⟩ := Dp.reads I d x v hd rx
  rcases he with he | he
  · obtain ⟨bs, r2⟩ := Dp.reads I (.list ds) y u he ry
    exact SeqAt.in_list_reads r2 r1 (SeqAt.canLay_of_shaped se) (SeqAt.canLay_of_shaped sd) (room_in_shaped sd hu) ⟨.bl _, H, I, rfl, q⟩
  · obtain ⟨bs, r2⟩ := Dp.reads I (.tuple ds) y u he ry
    exact SeqAt.in_tuple_reads r2 r1 (SeqAt.canLay_of_shaped se) (SeqAt.canLay_of_shaped sd) (room_in_shaped sd hu) ⟨.bl _, H, I, rfl, q⟩
theorem op_notinX (hu : X.A.units + 65 < cLine) : OpR X (compareOp .NotIn) (rInX X.K true) := by
  intro pins s σ H x y v u Q I rx ry h
  obtain ⟨d, ds, hd, he, sd, se, q⟩ := h
  obtain ⟨as, r1⟩ := Dp.reads I d x v hd rx
  rcases he with he | he
  · obtain ⟨bs, r2⟩ := Dp.reads I (.list ds) y u he ry
    exact SeqAt.notIn_list_reads r2 r1 (SeqAt.canLay_of_shaped se) (SeqAt.canLay_of_shaped sd) (room_in_shaped sd hu) ⟨.bl _, H, I, rfl, q⟩
  · obtain ⟨bs, r2⟩ := Dp.reads I (.tuple ds) y u he ry
    exact SeqAt.notIn_tuple_reads r2 r1 (SeqAt.canLay_of_shaped se) (SeqAt.canLay_of_shaped sd) (room_in_shaped sd hu) ⟨.bl _, H, I, rfl, q⟩
/-- the items -/
def D.its : D → Option (List D)
  | .lst ds => some ds
  | .tup ds => some ds
  | _ => none
def o_inX (neg : Bool) (a b : D) : Option R := match b.its with
  | some ds => if a.ok = true ∧ (D.lst ds).ok = true then some (.val (.bl (if neg then !(ds.any fun z => z.eqv a) else ds.any fun z => z.eqv a))) else none
  | none => none
theorem opm_inX {neg : Bool} : OpM K (rInX K neg) (o_inX neg) := by
  intro w g x y a b ra rb z h Q q
  cases rb with
  | fn _ => first | cases h | cases hh | cases h3
  | dct _ _ => first | cases h | cases hh | cases h3
  | lst l r =>
    simp only [o_inX, D.its] at h
    split at h
    · rename_i hc
      refine ⟨_, _, ra.dp (ok_nf hc.1), .inl ((Rep.lst l r).dp (ok_nf hc.2)), ok_sh hc.1, ok_sh hc.2, ?_⟩
      have e := pys_any a.py
      rw [e]
      exact out0 g (.bl _) h q
    · cases h
  | tup l r =>
    simp only [o_inX, D.its] at h
    split at h
    · rename_i hc
      refine ⟨_, _, ra.dp (ok_nf hc.1), .inr ((Rep.tup l r).dp (show D.nf (.tup _) = true from ok_nf hc.2)), ok_sh hc.1, ok_sh hc.2, ?_⟩
      have e := pys_any a.py
      rw [e]
      exact out0 g (.bl _) h q
    · cases h
  | non => cases h
  | bl _ => cases h
  | int _ => cases h
  | str _ => cases h
end
end Vz
set_option maxRecDepth 100000
set_option maxHeartbeats 1000000
/-! Vz9c: order of data; sorted, max, min over it. -/
namespace PySem
section
variable {prog : Program} {w : World} {A : Around} {E : Value → Shared → Prop} {s : Shared}
/-- max(a, b), the two compared where H stands -/
theorem call_max_twoH {a b : Value} {Q : Value → Shared → Prop}
    (h : wpAny (model prog w) A.in1 (pyIter (.ref s.heap.objs.size)) (fun it s₂ => ∃ I fp wr G n P St H bt, it = .ref I ∧ WalksS prog w A.in1 I fp wr G n P St ∧ St 0 s₂ ∧ (∀ b ∈ fp, b < s₂.heap.objs.size) ∧ 0 < n ∧
      (∀ b o, H.get? b = some o → b ∉ wr) ∧ (∀ b o, H.get? b = some o → s₂.heap.get? b = some o) ∧ CmpIn prog w A.in1 .Gt H P bt ∧ ∀ v s', P (argBest bt (n - 1)) v → Moved wr G s₂ s' → Q v s') E
      { s with heap := s.heap.push { cls := .type "tuple", data := .seq #[a, b] } }) :
    wpAny (model prog w) A (call (.builtin "max") [a, b]) Q E s := by
  have hname : (toString "max" ++ toString ".loop" : String) = "max.loop" := by decide
  refine call_function_tree F.kind_max F.plain_max F.entry_max (F.args_max2 _ _) ?_
  show wpAny _ A.in1 (Builtin.Builtins.bindParams "max" ["key", "default"] 0 ⟨[], []⟩ >>= _) _ _ s
  refine wpAny_bind (wpAny_of_eq (show Builtin.Builtins.bindParams "max" ["key", "default"] 0 ⟨[], []⟩ = pure [none, none] from rfl) ?_)
  show wpAny _ A.in1 (newTuple [a, b] >>= _) _ _ s
  refine wpAny_bind (wpAny_newObj_type ?_)
  refine wpAny_bind (wpAny_mono h (fun it s₂ h₂ => ?_) fun _ _ e => e)
  obtain ⟨I, fp, wr, G, n, P, St, H, bt, rfl, W, hst, hfp, hn, hw, hkeep, hcmp, hQ⟩ := h₂
  refine wpAny_bind (wpAny_newObj_type ?_)
  have hSf : s₂.heap.objs.size ∉ fp := fun hm => Nat.lt_irrefl _ (hfp _ hm)
  rw [hname]
  refine wpAny_pure ⟨plainId_quiet F.plain_max_loop _, codeAny_max_loop_firstH W H hw bt hcmp s₂.heap.objs.size hSf (fresh_in hkeep) _ hn (fun b o e => Heap.get?_push_of_some _ (hkeep b o e)) (W.frame 0 s₂ _ s₂.toks hst (Nat.le_refl _) fun b _ o e => Heap.get?_push_of_some _ e) (Heap.get?_push_size _ rfl) fun v s' hP hm => ?_⟩
  exact hQ v s' hP (Moved.drop_new (tk := s₂.toks) hm (Nat.le_refl _))
theorem call_min_twoH {a b : Value} {Q : Value → Shared → Prop}
    (h : wpAny (model prog w) A.in1 (pyIter (.ref s.heap.objs.size)) (fun it s₂ => ∃ I fp wr G n P St H bt, it = .ref I ∧ WalksS prog w A.in1 I fp wr G n P St ∧ St 0 s₂ ∧ (∀ b ∈ fp, b < s₂.heap.objs.size) ∧ 0 < n ∧
      (∀ b o, H.get? b = some o → b ∉ wr) ∧ (∀ b o, H.get? b = some o → s₂.heap.get? b = some o) ∧ CmpIn prog w A.in1 .Lt H P bt ∧ ∀ v s', P (argBest bt (n - 1)) v → Moved wr G s₂ s' → Q v s') E
      { s with heap := s.heap.push { cls := .type "tuple", data := .seq #[a, b] } }) :
    wpAny (model prog w) A (call (.builtin "min") [a, b]) Q E s := by
  have hname : (toString "min" ++ toString ".loop" : String) = "min.loop" := by decide
  refine call_function_tree F.kind_min F.plain_min F.entry_min (F.args_min2 _ _) ?_
  show wpAny _ A.in1 (Builtin.Builtins.bindParams "min" ["key", "default"] 0 ⟨[], []⟩ >>= _) _ _ s
  refine wpAny_bind (wpAny_of_eq (show Builtin.Builtins.bindParams "min" ["key", "default"] 0 ⟨[], []⟩ = pure [none, none] from rfl) ?_)
  show wpAny _ A.in1 (newTuple [a, b] >>= _) _ _ s
  refine wpAny_bind (wpAny_newObj_type ?_)
  refine wpAny_bind (wpAny_mono h (fun it s₂ h₂ => ?_) fun _ _ e => e)
  obtain ⟨I, fp, wr, G, n, P, St, H, bt, rfl, W, hst, hfp, hn, hw, hkeep, hcmp, hQ⟩ := h₂
  refine wpAny_bind (wpAny_newObj_type ?_)
  have hSf : s₂.heap.objs.size ∉ fp := fun hm => Nat.lt_irrefl _ (hfp _ hm)
  rw [hname]
  refine wpAny_pure ⟨plainId_quiet F.plain_min_loop _, codeAny_min_loop_firstH W H hw bt hcmp s₂.heap.objs.size hSf (fresh_in hkeep) _ hn (fun b o e => Heap.get?_push_of_some _ (hkeep b o e)) (W.frame 0 s₂ _ s₂.toks hst (Nat.le_refl _) fun b _ o e => Heap.get?_push_of_some _ e) (Heap.get?_push_size _ rfl) fun v s' hP hm => ?_⟩
  exact hQ v s' hP (Moved.drop_new (tk := s₂.toks) hm (Nat.le_refl _))
end
end PySem
namespace PySem.W
section
variable {prog : Program} {w : World} {A : Around} {E : Value → Shared → Prop} {s : Shared}
/-- max(a, b) of alike data: the second one where it is greater -/
theorem max_two_data {a b : Value} {da db : PyData} {as bs : List Addr} {Q : Value → Shared → Prop} (hh : A.handled = none) (ra : Reads s.heap a da as) (rb : Reads s.heap b db bs) (h1 : PySem.W.alike da db = true) (h2 : PySem.W.alike da da = true) (h3 : PySem.W.alike db db = true) (n1 : da ≠ .none) (n2 : db ≠ .none)
    (hu : A.units + 1 + PyData.depthAll [da, db] < cLine) (h : ∀ h' tk, (∀ c o, s.heap.get? c = some o → h'.get? c = some o) → Q (if PySem.W.dataLt da db = true then b else a) { s with heap := h', toks := tk }) :
    wpAny (model prog w) A (call (.builtin "max") [a, b]) Q E s := by
  have hT : (s.heap.push { cls := .type "tuple", data := .seq #[a, b] }).IsTuple s.heap.objs.size #[a, b] := ⟨_, Heap.get?_push_size _ rfl, rfl, 0, rfl⟩
  have hr : ReadsAll (s.heap.push { cls := .type "tuple", data := .seq #[a, b] }) (#[a, b] : Array Value).toList [da, db] (as ++ (bs ++ [])) :=
    .cons (reads_keeps (fun c o e => Heap.get?_push_of_some _ e) ra) (.cons (reads_keeps (fun c o e => Heap.get?_push_of_some _ e) rb) .nil)
  have hal : AlikeAll [da, db] := by
    refine ⟨fun x hx y hy => ?_, fun x hx => ?_⟩
    · rcases List.mem_cons.mp hx with rfl | hx
      · rcases List.mem_cons.mp hy with rfl | hy
        · exact h2
        · rw [List.mem_singleton.mp hy]; exact h1
      · rw [List.mem_singleton.mp hx]
        rcases List.mem_cons.mp hy with rfl | hy
        · rw [PySem.W.alike_comm]; exact h1
        · rw [List.mem_singleton.mp hy]; exact h3
    · rcases List.mem_cons.mp hx with rfl | hx
      · exact n1
      · rw [List.mem_singleton.mp hx]; exact n2
  refine call_max_twoH (iter_tupleW (A := A.in1) hh hT fun s₂ e W st hfp hw hk => ?_)
  refine ⟨_, _, _, _, _, _, _, _, _, rfl, W, st, hfp, Nat.zero_lt_succ 1, hw, hk, cmpIn_gt (A := A.in1) (s := { s with heap := s.heap.push { cls := .type "tuple", data := .seq #[a, b] } }) hr hal (by show A.units + 1 + _ < _; exact hu), fun v s' hP m => ?_⟩
  obtain ⟨h', tk, rfl, hk'⟩ := moved_old e rfl m
  have hv : v = if PySem.W.dataLt da db = true then b else a := by
    have hP' : (#[a, b] : Array Value)[argBest (fun i j => PySem.W.dataLt ([da, db].getD j .none) ([da, db].getD i .none)) 1]? = some v := hP
    by_cases hlt : PySem.W.dataLt da db = true
    · have e : argBest (fun i j => PySem.W.dataLt ([da, db].getD j .none) ([da, db].getD i .none)) 1 = 1 := by simp [argBest, hlt]
      rw [e] at hP'
      rw [if_pos hlt]
      simpa using hP'.symm
    · have e : argBest (fun i j => PySem.W.dataLt ([da, db].getD j .none) ([da, db].getD i .none)) 1 = 0 := by simp [argBest, hlt]
      rw [e] at hP'
      rw [if_neg hlt]
      simpa using hP'.symm
  rw [hv]
  exact h h' tk fun c o e => hk' c o (Heap.get?_push_of_some _ e)
theorem min_two_data {a b : Value} {da db : PyData} {as bs : List Addr} {Q : Value → Shared → Prop} (hh : A.handled = none) (ra : Reads s.heap a da as) (rb : Reads s.heap b db bs) (h1 : PySem.W.alike da db = true) (h2 : PySem.W.alike da da = true) (h3 : PySem.W.alike db db = true) (n1 : da ≠ .none) (n2 : db ≠ .none)
    (hu : A.units + 1 + PyData.depthAll [da, db] < cLine) (h : ∀ h' tk, (∀ c o, s.heap.get? c = some o → h'.get? c = some o) → Q (if PySem.W.dataLt db da = true then b else a) { s with heap := h', toks := tk }) :
    wpAny (model prog w) A (call (.builtin "min") [a, b]) Q E s := by
  have hT : (s.heap.push { cls := .type "tuple", data := .seq #[a, b] }).IsTuple s.heap.objs.size #[a, b] := ⟨_, Heap.get?_push_size _ rfl, rfl, 0, rfl⟩
  have hr : ReadsAll (s.heap.push { cls := .type "tuple", data := .seq #[a, b] }) (#[a, b] : Array Value).toList [da, db] (as ++ (bs ++ [])) :=
    .cons (reads_keeps (fun c o e => Heap.get?_push_of_some _ e) ra) (.cons (reads_keeps (fun c o e => Heap.get?_push_of_some _ e) rb) .nil)
  have hal : AlikeAll [da, db] := by
    refine ⟨fun x hx y hy => ?_, fun x hx => ?_⟩
    · rcases List.mem_cons.mp hx with rfl | hx
      · rcases List.mem_cons.mp hy with rfl | hy
        · exact h2
        · rw [List.mem_singleton.mp hy]; exact h1
      · rw [List.mem_singleton.mp hx]
        rcases List.mem_cons.mp hy with rfl | hy
        · rw [PySem.W.alike_comm]; exact h1
        · rw [List.mem_singleton.mp hy]; exact h3
    · rcases List.mem_cons.mp hx with rfl | hx
      · exact n1
      · rw [List.mem_singleton.mp hx]; exact n2
  refine call_min_twoH (iter_tupleW (A := A.in1) hh hT fun s₂ e W st hfp hw hk => ?_)
  refine ⟨_, _, _, _, _, _, _, _, _, rfl, W, st, hfp, Nat.zero_lt_succ 1, hw, hk, cmpIn_lt (A := A.in1) (s := { s with heap := s.heap.push { cls := .type "tuple", data := .seq #[a, b] } }) hr hal (by show A.units + 1 + _ < _; exact hu), fun v s' hP m => ?_⟩
  obtain ⟨h', tk, rfl, hk'⟩ := moved_old e rfl m
  have hv : v = if PySem.W.dataLt db da = true then b else a := by
    have hP' : (#[a, b] : Array Value)[argBest (fun i j => PySem.W.dataLt ([da, db].getD i .none) ([da, db].getD j .none)) 1]? = some v := hP
    by_cases hlt : PySem.W.dataLt db da = true
    · have e : argBest (fun i j => PySem.W.dataLt ([da, db].getD i .none) ([da, db].getD j .none)) 1 = 1 := by simp [argBest, hlt]
      rw [e] at hP'
      rw [if_pos hlt]
      simpa using hP'.symm
    · have e : argBest (fun i j => PySem.W.dataLt ([da, db].getD i .none) ([da, db].getD j .none)) 1 = 0 := by simp [argBest, hlt]
      rw [e] at hP'
      rw [if_neg hlt]
      simpa using hP'.symm
  rw [hv]
  exact h h' tk fun c o e => hk' c o (Heap.get?_push_of_some _ e)
end
end PySem.W
namespace Vz
open PySem PySem.Spec PyProof.Rows L2
variable [FnTab]
section
variable {X : Cx} {K : PySem.W.Frag} {w : Wd}
/-! ### order of data -/
def rOrd (K : PySem.W.Frag) (f : PyData → PyData → Bool) : R2 := fun x y H Q => ∃ d e, Dp K H x d ∧ Dp K H y e ∧ PySem.W.alike d e = true ∧ d ≠ .none ∧ d.depth ≤ 64 ∧ Q (.bl (f d e)) H
theorem op_ltD (hu : X.A.units + 65 < cLine) : OpR X (compareOp .Lt) (rOrd X.K PySem.W.dataLt) := by
  intro pins s σ H x y v u Q I rx ry h
  obtain ⟨d, e, hd, he, ha, hn, hl, q⟩ := h
  obtain ⟨as, r1⟩ := Dp.reads I d x v hd rx
  obtain ⟨bs, r2⟩ := Dp.reads I e y u he ry
  exact PySem.W.lt_data r1 r2 ha hn (by have := Nat.min_le_left d.depth e.depth; omega) ⟨.bl _, H, I, rfl, q⟩
theorem op_gtD (hu : X.A.units + 65 < cLine) : OpR X (compareOp .Gt) (rOrd X.K fun d e => PySem.W.dataLt e d) := by
  intro pins s σ H x y v u Q I rx ry h
  obtain ⟨d, e, hd, he, ha, hn, hl, q⟩ := h
  obtain ⟨as, r1⟩ := Dp.reads I d x v hd rx
  obtain ⟨bs, r2⟩ := Dp.reads I e y u he ry
  exact PySem.W.gt_data r1 r2 ha hn (by have := Nat.min_le_left d.depth e.depth; omega) ⟨.bl _, H, I, rfl, q⟩
theorem op_leD (hu : X.A.units + 65 < cLine) : OpR X (compareOp .LtE) (rOrd X.K fun d e => !PySem.W.dataLt e d) := by
  intro pins s σ H x y v u Q I rx ry h
  obtain ⟨d, e, hd, he, ha, hn, hl, q⟩ := h
  obtain ⟨as, r1⟩ := Dp.reads I d x v hd rx
  obtain ⟨bs, r2⟩ := Dp.reads I e y u he ry
  exact PySem.W.le_data r1 r2 ha hn (by have := Nat.min_le_left d.depth e.depth; omega) ⟨.bl _, H, I, rfl, q⟩
theorem op_geD (hu : X.A.units + 65 < cLine) : OpR X (compareOp .GtE) (rOrd X.K fun d e => !PySem.W.dataLt d e) := by
  intro pins s σ H x y v u Q I rx ry h
  obtain ⟨d, e, hd, he, ha, hn, hl, q⟩ := h
  obtain ⟨as, r1⟩ := Dp.reads I d x v hd rx
  obtain ⟨bs, r2⟩ := Dp.reads I e y u he ry
  exact PySem.W.ge_data r1 r2 ha hn (by have := Nat.min_le_left d.depth e.depth; omega) ⟨.bl _, H, I, rfl, q⟩
/-- less, by data -/
def D.ltv (a b : D) : Bool := PySem.W.dataLt a.py b.py
/-- two that can be told in order -/
def PyN : PyData → Bool
  | .none => true
  | _ => false
theorem PyN_ne {d : PyData} (h : PyN d = false) : d ≠ .none := fun e => by rw [e] at h; cases h
def ordOk (a b : D) : Bool := (a.nf && b.nf) && (PySem.W.alike a.py b.py && (!PyN a.py && decide (a.py.depth ≤ 64)))
def o_ord (f : PyData → PyData → Bool) (a b : D) : Option R := if ordOk a b = true then some (.val (.bl (f a.py b.py))) else none
theorem opm_ord {f : PyData → PyData → Bool} : OpM K (rOrd K f) (o_ord f) := by
  intro w g x y a b ra rb z h Q q
  unfold o_ord at h
  split at h
  · rename_i hc
    unfold ordOk at hc
    simp only [Bool.and_eq_true, Bool.not_eq_true', decide_eq_true_iff] at hc
    exact ⟨_, _, ra.dp hc.1.1, rb.dp hc.1.2, hc.2.1, PyN_ne hc.2.2.1, hc.2.2.2, out0 g (.bl _) h q⟩
  · cases h
abbrev o_ltX : D → D → Option R := o_ord fun d e => PySem.W.dataLt d e
abbrev o_gtX : D → D → Option R := o_ord fun d e => PySem.W.dataLt e d
abbrev o_leX : D → D → Option R := o_ord fun d e => !PySem.W.dataLt e d
abbrev o_geX : D → D → Option R := o_ord fun d e => !PySem.W.dataLt d e
/-! ### max, min of two -/
def rM2 (K : PySem.W.Frag) (f : PyData → PyData → Bool) : List V → Hp → VK → Prop := fun xs H Q => ∃ x y d e, xs = [x, y] ∧ Dp K H x d ∧ Dp K H y e ∧ (PySem.W.alike d e = true ∧ PySem.W.alike d d = true ∧ PySem.W.alike e e = true) ∧ (d ≠ .none ∧ e ≠ .none) ∧ (d.depth ≤ 60 ∧ e.depth ≤ 60) ∧ Q (if f d e = true then y else x) H
theorem depth2 {d e : PyData} (h : d.depth ≤ 60 ∧ e.depth ≤ 60) : PyData.depthAll [d, e] ≤ 60 := by
  show max d.depth (max e.depth 0) ≤ 60
  omega
theorem call_maxD (hc : X.calm = true) (hu : X.A.units + 65 < cLine) : CallR X (.builtin "max") (rM2 X.K fun d e => PySem.W.dataLt d e) := by
  intro pins s σ H xs us Q I r h
  obtain ⟨x, y, d, e, rfl, hd, he, ⟨a1, a2, a3⟩, ⟨n1, n2⟩, hl, q⟩ := h
  obtain ⟨u, w', rfl, ru, rw'⟩ := vals2 r
  obtain ⟨as, r1⟩ := Dp.reads I d x u hd ru
  obtain ⟨bs, r2⟩ := Dp.reads I e y w' he rw'
  have := depth2 hl
  refine PySem.W.max_two_data (I.ok.hd hc) r1 r2 a1 a2 a3 n1 n2 (by omega) fun h' tk k => ⟨_, H, I.kept k, ?_, q⟩
  split <;> assumption
theorem call_minD (hc : X.calm = true) (hu : X.A.units + 65 < cLine) : CallR X (.builtin "min") (rM2 X.K fun d e => PySem.W.dataLt e d) := by
  intro pins s σ H xs us Q I r h
  obtain ⟨x, y, d, e, rfl, hd, he, ⟨a1, a2, a3⟩, ⟨n1, n2⟩, hl, q⟩ := h
  obtain ⟨u, w', rfl, ru, rw'⟩ := vals2 r
  obtain ⟨as, r1⟩ := Dp.reads I d x u hd ru
  obtain ⟨bs, r2⟩ := Dp.reads I e y w' he rw'
  have := depth2 hl
  refine PySem.W.min_two_data (I.ok.hd hc) r1 r2 a1 a2 a3 n1 n2 (by omega) fun h' tk k => ⟨_, H, I.kept k, ?_, q⟩
  split <;> assumption
def m2ok (a b : D) : Bool := (a.nf && b.nf) && ((PySem.W.alike a.py b.py && (PySem.W.alike a.py a.py && PySem.W.alike b.py b.py)) && ((!PyN a.py && !PyN b.py) && (decide (a.py.depth ≤ 60) && decide (b.py.depth ≤ 60))))
def o_m2 (f : PyData → PyData → Bool) (a b : D) : Option R := if m2ok a b = true then some (.val (if f a.py b.py = true then b else a)) else none
theorem cl_m2 {f : PyData → PyData → Bool} : ClM K (rM2 K f) (f2 (o_m2 f)) := by
  refine clm_2 fun w g x y a b ra rb z h Q q => ?_
  unfold o_m2 at h
  split at h
  · rename_i hc
    unfold m2ok at hc
    simp only [Bool.and_eq_true, Bool.not_eq_true', decide_eq_true_iff] at hc
    refine ⟨x, y, _, _, rfl, ra.dp hc.1.1, rb.dp hc.1.2, hc.2.1, ⟨PyN_ne hc.2.2.1.1, PyN_ne hc.2.2.1.2⟩, hc.2.2.2, ?_⟩
    refine out0 g (d := if f a.py b.py = true then b else a) ?_ h q
    split <;> assumption
  · cases h
abbrev o_maxX : D → D → Option R := o_m2 fun d e => PySem.W.dataLt d e
abbrev o_minX : D → D → Option R := o_m2 fun d e => PySem.W.dataLt e d
/-! ### sorted -/
def rSrtD (K : PySem.W.Frag) : List V → Hp → VK → Prop := fun vs H Q => ∃ (a : Addr) (xs : List V) (bs : List (V × PyData)), vs = [V.ref a] ∧ SqL K H a xs ∧ bs.map (·.1) = xs ∧ DpAll K H xs (bs.map (·.2)) ∧ PySem.W.AllAlike (bs.map (·.2)) ∧ PySem.W.Sortable (bs.map (·.2)) ∧ (∀ b ∈ bs, b.2.depth ≤ 60) ∧
  ∀ p, H p = none → Q (.ref p) (upd H p (.lst ((bs.mergeSort (PySem.W.dataLe false (·.2))).map (·.1))))
theorem each_of : ∀ {bs : List (V × PyData)} {its : List Value}, Vals (bs.map (·.1)) its → PySem.W.EachIs (fun v (b : V × PyData) => RelV b.1 v) its bs
  | [], _, r => by cases r; exact .nil
  | b :: bs, _, r => by
    cases r with
    | cons r1 r2 => exact .cons r1 (each_of r2)
theorem of_each : ∀ {bs : List (V × PyData)} {its : List Value}, PySem.W.EachIs (fun v (b : V × PyData) => RelV b.1 v) its bs → Vals (bs.map (·.1)) its
  | _, _, .nil => .nil
  | _, _, .cons a b => .cons a (of_each b)
theorem each_reads {pins : List (Addr × Obj)} {σ : L2.St} {H : Hp} {s : Shared} (I : Inv X pins σ H s) : ∀ {bs : List (V × PyData)} {its : List Value}, Vals (bs.map (·.1)) its → DpAll X.K H (bs.map (·.1)) (bs.map (·.2)) → PySem.W.EachIs (fun v (b : V × PyData) => ∃ as, Reads s.heap v b.2 as) its bs
  | [], _, r, _ => by cases r; exact .nil
  | b :: bs, _, r, d => by
    cases r with
    | cons r1 r2 =>
      cases d with
      | cons d1 d2 => exact .cons (Dp.reads I _ _ _ d1 r1) (each_reads I r2 d2)
theorem call_sortedD2 (hu : X.A.units + 65 < cLine) : CallR X (.builtin "sorted") (rSrtD X.K) := by
  intro pins s σ H xs us Q I r h
  obtain ⟨a, xs, bs, rfl, hs, rfl, hd, hal, hk, hl, q⟩ := h
  obtain ⟨its, rv, hli, hz⟩ := I.list hs
  obtain ⟨u, rfl, ru⟩ := vals1 r
  obtain rfl : u = Value.ref a := ru
  have hlen : bs.length ≤ sizeLine := by
    have := rv.length
    rw [List.length_map] at this hz
    exact hz
  refine PySem.W.sorted_data (enc := fun b : V × PyData => b.2) (R := fun v (b : V × PyData) => RelV b.1 v) (vs := its) hli.isList (each_of rv) (each_reads I rv hd) hal hk hlen (fun b hb => ?_) fun out ho he => ?_
  · have := hl b hb
    show X.A.units + 2 + b.2.depth < cLine
    omega
  · obtain ⟨e, he2⟩ := sortedAll_at s.heap its out.toArray
    have rv2 := of_each he
    refine ⟨.ref (s.heap.objs.size + 1), upd H (s.heap.objs.size + 1) (.lst ((bs.mergeSort (PySem.W.dataLe false (·.2))).map (·.1))), I.laid (t' := s.toks) (fun b o hb => sortedAll_old hb) (Nat.le_succ _) ⟨?_, out, e, rv2, he2⟩, rfl, q _ (I.hok.fresh (Nat.le_succ _))⟩
    rw [List.length_map, List.length_mergeSort]
    exact hlen
def isTupN : PyData → Bool
  | .tuple (_ :: _) => true
  | _ => false
def isTup0 : PyData → Bool
  | .tuple _ => true
  | _ => false
theorem isTupN_ex {d : PyData} (h : isTupN d = true) : ∃ x r, d = .tuple (x :: r) := by
  unfold isTupN at h
  split at h
  · exact ⟨_, _, rfl⟩
  · cases h
theorem isTup0_no {d : PyData} (h : isTup0 d = false) (xs : List PyData) : d ≠ .tuple xs := fun e => by rw [e] at h; cases h
def sortOk (ds : List D) : Bool := D.nfs ds && (ds.all (fun a => ds.all fun b => PySem.W.alike a.py b.py) && ((ds.all (fun a => isTupN a.py) || ds.all fun a => !PyN a.py && !isTup0 a.py) && ds.all fun a => decide (a.py.depth ≤ 60)))
def D.srt (ds : List D) : List D := ds.mergeSort fun a b => !b.ltv a
def o_sorted : D → Option R
  | .lst ds => if sortOk ds = true then some (.own (.lst (D.srt ds))) else none
  | _ => none
theorem pys_map : ∀ ds : List D, D.pys ds = ds.map D.py
  | [] => rfl
  | d :: ds => by rw [D.pys, pys_map ds]; rfl
theorem reps_zip : ∀ {xs : List V} {ds : List D}, Reps K w xs ds → (xs.zip ds).map (·.1) = xs ∧ (xs.zip ds).map (·.2) = ds
  | _, _, .nil => ⟨rfl, rfl⟩
  | _, _, .cons a b => by
    have := reps_zip b
    simp only [List.zip_cons_cons, List.map_cons, this.1, this.2, and_self]
theorem reps_of_zip : ∀ {xs : List V} {ds : List D}, Reps K w xs ds → ∀ p ∈ xs.zip ds, Rep K w p.1 p.2
  | _, _, .nil, p, h => nomatch h
  | _, _, .cons a b, p, h => by
    rw [List.zip_cons_cons] at h
    rcases List.mem_cons.mp h with rfl | h
    · exact a
    · exact reps_of_zip b p h
theorem reps_maps : ∀ {ps : List (V × D)}, (∀ p ∈ ps, Rep K w p.1 p.2) → Reps K w (ps.map (·.1)) (ps.map (·.2))
  | [], _ => .nil
  | p :: ps, h => .cons (h p (List.mem_cons_self ..)) (reps_maps fun q hq => h q (List.mem_cons_of_mem _ hq))
theorem cl_sorted : ClM K (rSrtD K) (f1 o_sorted) := by
  refine clm_1 fun w g x a r z h Q q => ?_
  cases r with
  | fn _ => first | cases h | cases hh | cases h3
  | dct _ _ => first | cases h | cases hh | cases h3
  | @lst ad xs ds l rs =>
    simp only [o_sorted] at h
    split at h
    · rename_i hc
      unfold sortOk at hc
      simp only [Bool.and_eq_true, Bool.or_eq_true, List.all_eq_true, Bool.not_eq_true', decide_eq_true_iff] at hc
      obtain ⟨h0, h1, h2, h3⟩ := hc
      obtain ⟨z1, z2⟩ := reps_zip rs
      have hmem : ∀ d, d ∈ ((xs.zip ds).map fun p => (p.1, p.2.py)).map (·.2) → ∃ e ∈ ds, d = e.py := fun d hd => by
        rw [List.map_map] at hd
        obtain ⟨p, hp, rfl⟩ := List.mem_map.mp hd
        exact ⟨p.2, by rw [← z2]; exact List.mem_map.mpr ⟨p, hp, rfl⟩, rfl⟩
      refine ⟨ad, xs, (xs.zip ds).map fun p => (p.1, p.2.py), rfl, l.sq, ?_, ?_, ?_, ?_, ?_, ?_⟩
      · rw [List.map_map]
        exact z1
      · have e : ((xs.zip ds).map fun p => (p.1, p.2.py)).map (·.2) = D.pys ds := by
          rw [List.map_map, pys_map]
          show (xs.zip ds).map (fun p => p.2.py) = _
          conv => rhs; rw [← z2]
          rw [List.map_map]
          rfl
        rw [e]
        exact rs.dp h0
      · intro d hd d' hd'
        obtain ⟨a, ha, rfl⟩ := hmem d hd
        obtain ⟨b, hb, rfl⟩ := hmem d' hd'
        exact h1 a ha b hb
      · rcases h2 with h2 | h2
        · refine .inl fun d hd => ?_
          obtain ⟨a, ha, rfl⟩ := hmem d hd
          exact isTupN_ex (h2 a ha)
        · refine .inr fun d hd => ?_
          obtain ⟨a, ha, rfl⟩ := hmem d hd
          exact ⟨PyN_ne (h2 a ha).1, isTup0_no (h2 a ha).2⟩
      · intro b hb
        obtain ⟨p, hp, rfl⟩ := List.mem_map.mp hb
        exact h3 p.2 (by rw [← z2]; exact List.mem_map.mpr ⟨p, hp, rfl⟩)
      · intro p hp
        have e1 : (((xs.zip ds).map fun p => (p.1, p.2.py)).mergeSort (PySem.W.dataLe false (·.2))) = ((xs.zip ds).mergeSort fun a b => !b.2.ltv a.2).map fun p => (p.1, p.2.py) := by
          symm
          refine List.map_mergeSort fun a _ b _ => ?_
          rfl
        have e2 : D.srt ds = ((xs.zip ds).mergeSort fun a b => !b.2.ltv a.2).map (·.2) := by
          unfold D.srt
          conv => lhs; rw [← z2]
          symm
          refine List.map_mergeSort fun a _ b _ => ?_
          rfl
        rw [e1, List.map_map]
        have rr : Reps K w (((xs.zip ds).mergeSort fun a b => !b.2.ltv a.2).map (·.1)) (D.srt ds) := by
          rw [e2]
          exact reps_maps fun p hp => reps_of_zip rs p ((List.mergeSort_perm _ _).mem_iff.mp hp)
        exact outL g hp rr h q
    · cases h
  | non => cases h
  | bl _ => cases h
  | int _ => cases h
  | str _ => cases h
  | tup _ _ => cases h
end
section
variable {X : Cx} {pos p : Pos} {e : Expr} {es : List Expr} {f : Ex} {l : Ea}
theorem x_maxX {e2 : Expr} (hc : X.calm = true) (hu : X.A.units + 65 < cLine) (hm : X.mg "max" = none) (ha : XA X [e, e2] l) (hg : Gl X "max" := by rfl) (he : starEach [e, e2] X.env = (false, eval e X.env) :: starEach [e2] X.env := by rfl) (hpl : (backTo pos (starEach [e2] X.env)).any (·.1) = false := by rfl) :
    XE X (.Call (.Name "max" p) [e, e2] [] pos) (eB (f2 o_maxX) l) := x_B (call_maxD hc hu) cl_m2 hg hm (by decide +kernel) ha (by decide) (by decide) he hpl
theorem x_minX {e2 : Expr} (hc : X.calm = true) (hu : X.A.units + 65 < cLine) (hm : X.mg "min" = none) (ha : XA X [e, e2] l) (hg : Gl X "min" := by rfl) (he : starEach [e, e2] X.env = (false, eval e X.env) :: starEach [e2] X.env := by rfl) (hpl : (backTo pos (starEach [e2] X.env)).any (·.1) = false := by rfl) :
    XE X (.Call (.Name "min" p) [e, e2] [] pos) (eB (f2 o_minX) l) := x_B (call_minD hc hu) cl_m2 hg hm (by decide +kernel) ha (by decide) (by decide) he hpl
theorem x_sorted (hu : X.A.units + 65 < cLine) (hm : X.mg "sorted" = none) (ha : XA X (e :: es) l) (hg : Gl X "sorted" := by rfl) (he : starEach (e :: es) X.env = (false, eval e X.env) :: starEach es X.env := by rfl) (hpl : (backTo pos (starEach es X.env)).any (·.1) = false := by rfl) :
    XE X (.Call (.Name "sorted" p) (e :: es) [] pos) (eB (f1 o_sorted) l) := x_B (call_sortedD2 hu) cl_sorted hg hm (by decide +kernel) ha (by decide) (by decide) he hpl
end
section
variable {X : Cx} {K : PySem.W.Frag} {pos : Pos} {es : List Expr}
/-! ### a, b = a list -/
def g_lst (n : Nat) (u : Tgs) : Tg := fun r env => match r with
  | .val (.lst ds) => if ds.length = n then u ds env else none
  | _ => none
theorem gm_lst {n : Nat} {gs : TGs} {u : Tgs} (h : GsM K gs u) : GM K (gUnl K n gs) (g_lst n u) := by
  intro w0 w σ env e v r env' rr hh Q q
  cases r with
  | own o => cases hh
  | val d =>
    have rr' : Rep K w v d := rr
    cases rr' with
    | fn _ => first | cases h | cases hh | cases h3
    | dct _ _ => first | cases h | cases hh | cases h3
    | lst l r =>
      simp only [g_lst] at hh
      split at hh
      · rename_i hl
        exact ⟨_, _, rfl, l.sq, by rw [r.length]; exact hl, h w0 w σ env e _ _ env' r hh Q q⟩
      · cases hh
    | non => cases hh
    | bl _ => cases hh
    | int _ => cases hh
    | str _ => cases hh
    | tup _ _ => cases hh
theorem xg_lst {k n : Nat} {u : Tgs} (hc : X.calm = true) (h : XGs X es u) (hn : (assignEach es X.env).length = n := by rfl) (hst : (assignEach es X.env).findIdx? (·.1) = none := by rfl) : XG X (.Tuple es k pos) (gv (g_lst n u)) := let ⟨_, p, q⟩ := h; ⟨_, pg_unl hc p hn hst, gm_v (gm_lst q)⟩
end
end Vz
set_option maxRecDepth 100000
set_option maxHeartbeats 1000000
/-! Vz9d: defs as values: handed over by their names, called by a local name. -/
namespace Vz
open PySem PySem.Spec PyProof.Rows L2
variable [FnTab]
/-- the global x holds the def of the number k -/
def FnV (K : PySem.W.Frag) (mg : Str → Option Value) (x : Str) (k : Nat) : Prop := ∃ f : Addr, mg x = some (.ref f) ∧ FnTab.holds K k f
structure HeldV (P : Program) (w : World) (K : PySem.W.Frag) (mg : Str → Option Value) (base : Heap) (lv : Nat) (f : Addr) (m : FM) : Prop where
  ex : ∃ (fd : FuncData) (ps : List Str), FnOk P w K mg base CX0 lv f fd ps (spM K m) ∧ PySem.W.keepIn K (.ref f) = true ∧ Binds K fd ps []
/-- a table's defs -/
def TabV (P : Program) (w : World) (K : PySem.W.Frag) (mg : Str → Option Value) (base : Heap) (lv : Nat) (tab : Nat → Option FM) : Prop :=
  ∀ k f m, FnTab.holds K k f → tab k = some m → HeldV P w K mg base lv f m
section
variable {X : Cx} {K : PySem.W.Frag} {pos p : Pos} {x : Str} {e : Expr} {es : List Expr}
theorem em_fnv {f : Addr} {k : Nat} (h : FnTab.holds K k f) : EM K (tC (.ref f)) (e_c (.fn k [])) := by
  intro w0 w σ env e r env' hh Q q
  cases hh
  exact q _ w e (.refl w) (show Rep K w _ _ from .fn h)
theorem x_fnv {k : Nat} (h : FnV X.K X.mg x k) (hg : Gl X x := by rfl) (hn : x ≠ "__name__" := by decide) (hdb : (x == ("__debug__" : Str)) = false := by decide) : XE X (.Name x pos) (e_c (.fn k [])) := by
  obtain ⟨f, hm, hf⟩ := h
  exact ⟨_, pe_glob (v := .ref f) hg hm rfl hdb, em_fnv hf⟩
/-- f(..), f a local name -/
def e_callv (tab : Nat → Option FM) (i : Nat) (l : Er) : Ex := fun env => match env[i]? with
  | some (.val (.fn k [])) => (tab k).bind fun m => e_call m [] l env
  | _ => none
theorem x_callv {lv j i : Nat} {tab : Nat → Option FM} {r : Er} (V : TabV X.prog X.w X.K X.mg X.base lv tab) (hr : Room j X.A) (hlj : lv ≤ j) (ha : XR X (e :: es) r) (hN : X.N[i]? = some x := by rfl) (hv : Vis X.env.scope x := by first | exact Or.inl rfl | exact Or.inr (Or.inl rfl) | exact Or.inr (Or.inr rfl))
    (hdb : (x == ("__debug__" : Str)) = false := by decide) (hcd : (x == ("__classdict__" : Str)) = false := by decide) (he : starEach (e :: es) X.env = (false, eval e X.env) :: starEach es X.env := by rfl) (hpl : (backTo pos (starEach es X.env)).any (·.1) = false := by rfl) :
    XE X (.Call (.Name x p) (e :: es) [] pos) (e_callv tab i r) := by
  obtain ⟨t, q1, q2⟩ := ha
  refine ⟨fun σ H Q => ∃ (k : Nat) (f : Addr) (m : FM), FnTab.holds X.K k f ∧ tab k = some m ∧ tCallL i f (spM X.K m) [] (fun _ _ _ => False) t σ H Q, ⟨fun pins s σ H Q I h => ?_⟩, ?_⟩
  · obtain ⟨k, f, m, hf, hm, h⟩ := h
    obtain ⟨fd, ps, F, hk, hb⟩ := (V k f m hf hm).ex
    exact (pe_callL (i := i) (f := f) (dvs := []) (E := fun _ _ _ => False) F (hr.mono hlj) hN hv hk hb .nil pass0 q1 hdb hcd he hpl).run pins s σ H Q I h
  · intro w0 w σ env e r' env' h Q q
    unfold e_callv at h
    split at h
    · rename_i k hi
      obtain ⟨m, hm, h⟩ := Option.bind_eq_some_iff.mp h
      obtain ⟨v, hs, rv⟩ := e.val i _ hi
      cases rv with
      | fn hf =>
        exact ⟨k, _, m, hf, hm, hs, em_call (E := fun _ _ _ => False) (dvs := []) (fun _ => .nil) q2 w0 w σ env e r' env' h Q q⟩
    · cases h
end
end Vz
set_option maxRecDepth 100000
set_option maxHeartbeats 1000000
/-! Vz9e: range with a step. -/
namespace Vz
open PySem PySem.Spec PyProof.Rows L2
variable [FnTab]
section
variable {X : Cx} {K : PySem.W.Frag} {w : Wd} {pos p : Pos} {a b c : Expr} {l : Ea}
def rngC (lo c : Int) (n : Nat) : List D := (List.range n).map fun (k : Nat) => D.int (lo + (k : Int) * c)
omit [FnTab] in
theorem rngC_get {lo c : Int} {n i : Nat} {d : D} (h : (rngC lo c n)[i]? = some d) : i < n ∧ d = .int (lo + (i : Int) * c) := by
  unfold rngC at h
  rw [List.getElem?_map] at h
  by_cases hi : i < n
  · rw [List.getElem?_range hi] at h
    cases h
    exact ⟨hi, rfl⟩
  · rw [List.getElem?_eq_none (by rw [List.length_range]; omega)] at h
    cases h
omit [FnTab] in
theorem rngC_length {lo c : Int} {n : Nat} : (rngC lo c n).length = n := by unfold rngC; rw [List.length_map, List.length_range]
theorem itok_rngC {lo c : Int} {n : Nat} : ItOk K w (Itc lo c n) (rngC lo c n) := by
  intro i w2 g2 s
  refine ⟨fun d hd => ?_, fun h => by rw [rngC_length] at h; exact h⟩
  obtain ⟨h1, rfl⟩ := rngC_get hd
  refine ⟨h1, fun y H' hy => ?_⟩
  obtain ⟨rfl, rfl⟩ := hy
  exact ⟨w2, rfl, .refl w2, g2, .int _⟩
/-- how many numbers a range with a step has -/
noncomputable def rngN (i j c : Int) : Nat := (Builtin.Range.rangeSize i j c).toNat
structure rngOK3 (i j c : Int) : Prop where
  is : RgC i j c (rngN i j c)
open Classical in
noncomputable def s_rng3 (f : Ea) : Src := fun env => (f env).bind fun p => match p.1 with
  | [.int i, .int j, .int c] => if rngOK3 i j c then some (rngC i c (rngN i j c), p.2) else none
  | _ => none
theorem im_rng3 {ta : TA} {f : Ea} (ha : AM K ta f) : IM K (iRng3 ta) (s_rng3 f) := by
  intro w0 w σ env e ds env' h Q q
  obtain ⟨⟨x, e1⟩, h1, h⟩ := Option.bind_eq_some_iff.mp h
  refine ha w0 w σ env e x e1 h1 _ fun vs w1 E1 s1 r1 => ?_
  simp only at h
  split at h
  · rename_i i j c
    split at h
    · rename_i hj
      cases h
      cases r1 with
      | cons a b =>
        cases a
        cases b with
        | cons a b =>
          cases a
          cases b with
          | cons a b =>
            cases a
            cases b
            exact ⟨i, j, c, _, rfl, hj.is, q _ w1 E1 s1 itok_rngC⟩
    · cases h
  · cases h
theorem xi_rng3 {tg : Expr} (hm : X.mg "range" = none) (ha : XA X [a, b, c] l) (hg : Gl X "range" := by rfl) (hs : starEach [a, b, c] X.env = (false, eval a X.env) :: starEach [b, c] X.env := by rfl) (hpl : (backTo pos (starEach [b, c] X.env)).any (·.1) = false := by rfl) :
    XI X tg (.Call (.Name "range" p) [a, b, c] [] pos) (s_rng3 l) := let ⟨_, p, q⟩ := ha; ⟨_, pi_range3 hg hm p hs hpl, im_rng3 q⟩
omit [FnTab] in
/-- a range that climbs -/
theorem RgC_up {i j c : Int} {n : Nat} (h1 : i.natAbs ≤ 1000000) (h2 : j.natAbs ≤ 1000000) (hc : 1 ≤ c) (hc2 : c ≤ 1000000) (hn : n = if i < j then ((j - i - 1) / c + 1).toNat else 0) : RgC i j c n := by
  have h0 : (if i < j then (j - i - 1) / c + 1 else 0) = (n : Int) := by
    subst hn
    split
    · have : 0 ≤ (j - i - 1) / c := Int.ediv_nonneg (by omega) (by omega)
      omega
    · rfl
  have hle : (n : Int) ≤ 2000001 := by
    rw [← h0]
    split
    · have : (j - i - 1) / c ≤ j - i - 1 := Int.ediv_le_self _ (by omega)
      omega
    · decide
  have e : Builtin.Range.rangeSize i j c = (n : Int) := by
    unfold Builtin.Range.rangeSize
    rw [if_pos (by omega), h0]
  refine ⟨by omega, by omega, ?_, e⟩
  unfold Builtin.Range.small
  rw [e]
  simp only [Builtin.Range.rangeFitsLong, Bool.and_eq_true, Bool.or_eq_true, decide_eq_true_eq, beq_iff_eq]
  rw [if_pos (show c > 0 by omega)]
  simp only [Bool.and_eq_true, decide_eq_true_eq]
  omega
end
end Vz
set_option maxRecDepth 100000
set_option maxHeartbeats 1000000
/-! Vz9f: len(set(list)), sorted(set(list)), the list one of tuples of ints. -/
namespace Vz
open PySem PySem.Spec PyProof.Rows L2
/-- a row of ints -/
def zL : List D → Option (List Int)
  | [] => some []
  | .int z :: ds => (zL ds).bind fun l => some (z :: l)
  | _ :: _ => none
/-- a row of tuples of ints -/
def tzL : List D → Option (List (List Int))
  | [] => some []
  | .tup l :: ds => (zL l).bind fun k => (tzL ds).bind fun ks => some (k :: ks)
  | _ :: _ => none
/-- each once -/
def nub {α : Type} [DecidableEq α] : List α → List α
  | [] => []
  | a :: l => if a ∈ l then nub l else a :: nub l
theorem mem_nub {α : Type} [DecidableEq α] {a : α} : ∀ {l : List α}, a ∈ nub l ↔ a ∈ l
  | [] => Iff.rfl
  | b :: l => by
    unfold nub
    split
    · rename_i h
      rw [mem_nub, List.mem_cons]
      exact ⟨.inr, fun k => k.elim (fun e => by rw [e]; exact h) id⟩
    · rw [List.mem_cons, List.mem_cons, mem_nub]
theorem nub_nodup {α : Type} [DecidableEq α] : ∀ {l : List α}, (nub l).Nodup
  | [] => List.nodup_nil
  | b :: l => by
    unfold nub
    split
    · exact nub_nodup
    · rename_i h
      exact List.nodup_cons.mpr ⟨fun k => h (mem_nub.mp k), nub_nodup⟩
theorem nub_id {α : Type} [DecidableEq α] : ∀ {l : List α}, l.Nodup → nub l = l
  | [], _ => rfl
  | b :: l, h => by
    have h1 := List.nodup_cons.mp h
    unfold nub
    rw [if_neg h1.1, nub_id h1.2]
theorem nub_perm {α : Type} [DecidableEq α] {l m : List α} (hm : m.Nodup) (h : ∀ a, a ∈ m ↔ a ∈ l) : m.Perm (nub l) :=
  (List.perm_ext_iff_of_nodup hm nub_nodup).mpr fun a => by rw [h, mem_nub]
variable [FnTab]
section
variable {K : PySem.W.Frag} {w : Wd}
theorem zL_of : ∀ {xs : List V} {ds : List D} {l : List Int}, Reps K w xs ds → zL ds = some l → xs = l.map V.int ∧ ds = l.map D.int
  | _, _, l, .nil, h => by cases h; exact ⟨rfl, rfl⟩
  | x :: xs, d :: ds, l, .cons r rs, h => by
    cases d with
    | int z =>
      obtain ⟨l', h1, h2⟩ := Option.bind_eq_some_iff.mp h
      cases h2
      obtain ⟨e1, e2⟩ := zL_of rs h1
      cases r
      rw [e1, e2]
      exact ⟨rfl, rfl⟩
    | _ => cases h
omit [FnTab] in
theorem zL_map : ∀ k : List Int, zL (k.map D.int) = some k
  | [] => rfl
  | z :: k => by
    show (zL (k.map D.int)).bind _ = _
    rw [zL_map k]
    rfl
theorem tup_sq {a : Addr} {k : List Int} (r : Rep K w (.ref a) (.tup (k.map D.int))) : SqT K w.H a (k.map V.int) := by
  generalize e : D.tup (k.map D.int) = d at r
  cases r with
  | tup l rs =>
    cases e
    rw [← (zL_of rs (zL_map k)).1]
    exact l.sq
  | _ => cases e
theorem tzL_of : ∀ {xs : List V} {ds : List D} {ks : List (List Int)}, Reps K w xs ds → tzL ds = some ks →
    ∃ ps : List (Addr × List Int), ps.map (·.2) = ks ∧ xs = ps.map (fun p => V.ref p.1) ∧ (∀ p ∈ ps, SqT K w.H p.1 (p.2.map V.int)) ∧ (∀ p ∈ ps, Rep K w (.ref p.1) (.tup (p.2.map D.int))) ∧ ds = ks.map fun k => D.tup (k.map D.int)
  | _, _, ks, .nil, h => by cases h; exact ⟨[], rfl, rfl, fun p hp => absurd hp (List.not_mem_nil), fun p hp => absurd hp (List.not_mem_nil), rfl⟩
  | x :: xs, d :: ds, ks, .cons r rs, h => by
    cases d with
    | tup l =>
      obtain ⟨k, h1, h⟩ := Option.bind_eq_some_iff.mp h
      obtain ⟨ks', h2, h⟩ := Option.bind_eq_some_iff.mp h
      cases h
      obtain ⟨ps, e1, e2, e3, e5, e4⟩ := tzL_of rs h2
      have r' := r
      cases r with
      | @tup a xs ds l' rs' =>
        obtain ⟨e5', e6⟩ := zL_of rs' h1
        subst e5' e6
        refine ⟨(a, k) :: ps, by rw [List.map_cons, e1], by rw [List.map_cons, e2], fun p hp => ?_, fun p hp => ?_, by rw [List.map_cons, e4]⟩
        · rcases List.mem_cons.mp hp with rfl | hp
          · exact l'.sq
          · exact e3 p hp
        · rcases List.mem_cons.mp hp with rfl | hp
          · exact r'
          · exact e5 p hp
    | _ => cases h
end
section
variable {X : Cx} {pos p pos2 p2 : Pos} {e : Expr} {f : Ex} {l : Ea}
/-- len(set) -/
def rLenT (K : PySem.W.Frag) (P : Program) (w : World) : List V → Hp → VK → Prop := fun vs H Q => ∃ (a : Addr) (L : List (Addr × List Int)), vs = [V.ref a] ∧ H a = some (SetTO P w a L) ∧ (∀ p ∈ L, SqT K H p.1 (p.2.map V.int)) ∧
  ((L.map (·.2)).Nodup → Q (.int L.length) H)
omit [FnTab] in
theorem cr_lenT : CallR X (.builtin "len") (rLenT X.K X.prog X.w) := by
  intro pins s σ H vs us Q I r h
  obtain ⟨a, L, rfl, ha, hk, q⟩ := h
  have R0 : SetT0 X.prog X.w s.heap a L := (I.hok a _ ha).1
  obtain ⟨es, ep, t, R⟩ := R0.full fun p hp => I.isT (hk p hp)
  obtain ⟨o, ho, hex, hd⟩ := R.ob
  rw [Vals.ref1 r]
  have hsz := R.size
  have hfew := R.few
  refine call_len_set ho hex hd R.fits (by omega) ?_
  exact ⟨.int L.length, H, I.kept (t' := s.toks + 1 + 1) (fun b o e => e), ⟨_, by rw [hsz]⟩, q R.nd⟩
def rLenSet (K : PySem.W.Frag) (P : Program) (w : World) : List V → Hp → VK → Prop := fun vs H Q => rSetOfT K P w vs H fun v H1 => rLenT K P w [v] H1 Q
def o_lset : D → Option R
  | .lst ds => if ds.length < 64 then (tzL ds).bind fun ks => some (.val (.int (nub ks).length)) else none
  | _ => none
theorem cl_lset {K : PySem.W.Frag} {P : Program} {W : World} : ClM K (rLenSet K P W) (f1 o_lset) := by
  refine clm_1 fun w g x a r z h Q q => ?_
  cases r with
  | @lst ad xs ds l rs =>
    simp only [o_lset] at h
    split at h
    · rename_i hl
      obtain ⟨ks, h1, h⟩ := Option.bind_eq_some_iff.mp h
      obtain ⟨ps, e1, e2, e3, e5, e4⟩ := tzL_of rs h1
      subst e2
      have hp : ps.length = ds.length := by rw [e4, List.length_map, ← e1, List.length_map]
      refine ⟨ad, ps, rfl, l.sq, e3, by omega, fun b L hb hs hc => ⟨b, L, rfl, upd_same, fun p hp => ?_, fun nd => ?_⟩⟩
      · exact tup_sq ((e5 p (hs p hp)).go g (Wd.put_step (o := SetTO P W b L) hb).step)
      · have pm : (L.map (·.2)).Perm (nub ks) := nub_perm nd fun k => by
          rw [← e1]
          refine ⟨fun hk => ?_, fun hk => ?_⟩
          · obtain ⟨p, hp, rfl⟩ := List.mem_map.mp hk
            exact List.mem_map.mpr ⟨p, hs p hp, rfl⟩
          · obtain ⟨p, hp, rfl⟩ := List.mem_map.mp hk
            exact hc p hp
        have hlen := pm.length_eq
        rw [List.length_map] at hlen
        cases h
        rw [hlen]
        exact q (.int _) (w.put b (SetTO P W b L)) (Wd.put_step hb) (Wd.put_good g hb) (.int _)
    · cases h
  | _ => first | cases h | cases hh
/-! sorted(set(xs)) -/
omit [FnTab] in
theorem perm_mapped {α β : Type} (m : α → β) {us vs : List β} (h : us.Perm vs) : ∀ L : List α, vs = L.map m → ∃ M : List α, M.Perm L ∧ us = M.map m := by
  induction h with
  | nil => intro L e; exact ⟨L, .refl _, by rw [← e]⟩
  | cons x _ ih =>
    intro L e
    cases L with
    | nil => cases e
    | cons y L =>
      obtain ⟨M, h1, h2⟩ := ih L (List.cons.inj e).2
      exact ⟨y :: M, h1.cons y, by rw [List.map_cons, ← h2, (List.cons.inj e).1]⟩
  | swap x y l =>
    intro L e
    cases L with
    | nil => cases e
    | cons a L =>
      cases L with
      | nil => cases e
      | cons b L =>
        refine ⟨b :: a :: L, .swap a b L, ?_⟩
        have e1 := List.cons.inj e
        have e2 := List.cons.inj e1.2
        rw [List.map_cons, List.map_cons, e1.1, e2.1, e2.2]
  | trans _ _ ih1 ih2 =>
    intro L e
    obtain ⟨M, h1, h2⟩ := ih2 L e
    obtain ⟨N, h3, h4⟩ := ih1 M h2
    exact ⟨N, h3.trans h1, h4⟩
def pyT (q : Addr × List Int) : PyData := .tuple (q.2.map PyData.int)
omit [FnTab] in
theorem reads_ints {h : Heap} : ∀ {vs : List Value} {k : List Int}, IntsAre vs k → ReadsAll h vs (k.map PyData.int) []
  | _, _, .nil => .nil
  | _, _, .cons n t r => ReadsAll.cons (.int n t) (reads_ints r)
omit [FnTab] in
theorem reads_T {P : Program} {W : World} {h : Heap} {k : List Int} {b : Addr} (x : IsT P W h k b) : Reads h (.ref b) (.tuple (k.map PyData.int)) [] := by
  obtain ⟨o, items, n, ho, hc, hd, hi⟩ := x
  exact .tuple ho hc hd (reads_ints (ints_of_items hi))
omit [FnTab] in
theorem eachT' {h : Heap} {a : Addr} : ∀ {L : List (Addr × List Int)}, (∀ q ∈ L, Reads h (.ref q.1) (pyT q) []) → PySem.W.EachIs (fun v q => ∃ as, Reads h v (pyT q) as ∧ a ∉ as) (L.map fun q => Value.ref q.1) L
  | [], _ => .nil
  | q :: L, r => .cons ⟨[], r q (List.mem_cons_self ..), List.not_mem_nil⟩ (eachT' fun x hx => r x (List.mem_cons_of_mem _ hx))
omit [FnTab] in
theorem eachR : ∀ L : List (Addr × List Int), PySem.W.EachIs (fun v (q : Addr × List Int) => v = Value.ref q.1) (L.map fun q => Value.ref q.1) L
  | [] => .nil
  | q :: L => .cons rfl (eachR L)
omit [FnTab] in
theorem ofEachR : ∀ {vs : List Value} {L : List (Addr × List Int)}, PySem.W.EachIs (fun v (q : Addr × List Int) => v = Value.ref q.1) vs L → vs = L.map fun q => Value.ref q.1
  | _, _, .nil => rfl
  | _, _, .cons a b => by rw [a, ofEachR b]; rfl
omit [FnTab] in
theorem depthZ : ∀ k : List Int, PyData.depthAll (k.map PyData.int) = 0
  | [] => rfl
  | z :: k => by
    show max _ _ = 0
    rw [depthZ k]
    rfl
omit [FnTab] in
theorem depthT (q : Addr × List Int) : (pyT q).depth ≤ 1 := by
  show PyData.depthAll _ + 1 ≤ 1
  rw [depthZ]
  exact Nat.le_refl _
def rSortTZ (K : PySem.W.Frag) (P : Program) (w : World) : List V → Hp → VK → Prop := fun vs H Q => ∃ (a : Addr) (L : List (Addr × List Int)), vs = [V.ref a] ∧ H a = some (SetTO P w a L) ∧ (∀ p ∈ L, SqT K H p.1 (p.2.map V.int)) ∧ PySem.W.AllAlike (L.map pyT) ∧ PySem.W.Sortable (L.map pyT) ∧
  ∀ (M : List (Addr × List Int)) (p : Addr), M.Perm L → (L.map (·.2)).Nodup → H p = none → Q (.ref p) (upd H p (.lst ((M.mergeSort (PySem.W.dataLe false pyT)).map fun q => V.ref q.1)))
omit [FnTab] in
theorem cr_sortTZ (hc : X.calm = true) (hu : X.A.units + 65 < cLine) : CallR X (.builtin "sorted") (rSortTZ X.K X.prog X.w) := by
  intro pins s σ H vs us Q I r h
  obtain ⟨a, L, rfl, ha, hk, hal, hso, q⟩ := h
  have R0 : SetT0 X.prog X.w s.heap a L := (I.hok a _ ha).1
  obtain ⟨es, ep, t, R⟩ := R0.full fun p hp => I.isT (hk p hp)
  obtain ⟨o, ho, hex, hd⟩ := R.ob
  rw [Vals.ref1 r]
  have hsz := R.size
  have hfew := R.few
  refine Calls.call_function_entry kind_sorted plain_sorted entry_sorted (args_sorted1 _) ?_
  unfold Builtin.«sorted»
  refine wpAny_bind (m := checkCount "sorted" 1 1 _) (wpAny_pure ?_)
  refine wpAny_bind (collect_set (A := X.A.in1) (I.ok.hd hc) ⟨o, ho, hex.1, hd⟩ R.fits (by unfold scanBound; omega) R.tab.ris R.led fun s1 vs k1 hz g1 o1 pm => ?_)
  have rws : es.toList.map (·.2) = L.map fun q => Value.ref q.1 := by
    rw [R.rows]
    unfold rowsOf
    rw [List.map_map]
    rfl
  rw [rws] at pm
  obtain ⟨M, pM, rfl⟩ := perm_mapped _ pm L rfl
  have hM : M.length < 64 := by rw [pM.length_eq]; exact hfew
  refine wpAny_bind (wpAny_newList ?_ (by rw [sizeLine_eq, List.length_map]; omega))
  have old : ∀ b u, s.heap.get? b = some u → (s1.heap.push (seqObj "list" (M.map fun q => Value.ref q.1).toArray 0)).get? b = some u := fun b u e => Heap.get?_push_of_some _ (k1 b u e)
  have rd : ∀ q ∈ M, Reads (s1.heap.push (seqObj "list" (M.map fun q => Value.ref q.1).toArray 0)) (.ref q.1) (pyT q) [] := fun q hq => reads_T (isT_keep (R.tup q (pM.mem_iff.mp hq)) old)
  have mem : ∀ d, d ∈ M.map pyT → d ∈ L.map pyT := fun d hd => (pM.map pyT).mem_iff.mp hd
  have hMl : M.length ≤ sizeLine := by rw [sizeLine_eq]; omega
  refine wpAny_bind (wpAny_holding (PySem.W.list_sort_data (s := { s1 with heap := s1.heap.push (seqObj "list" (M.map fun q => Value.ref q.1).toArray 0) }) (a := s1.heap.objs.size) (bs := M) (enc := pyT) (R := fun v q => v = Value.ref q.1)
    (Heap.get?_push_size _ rfl) (eachR M) (eachT' rd) (fun d hd d' hd' => hal d (mem d hd) d' (mem d' hd')) (hso.imp (fun h d hd => h d (mem d hd)) fun h d hd => h d (mem d hd)) hMl (fun q _ => ?_) fun out ol oe => ?_))
  · have hd1 := depthT q
    show X.A.units + 1 + 1 + (pyT q).depth < cLine
    omega
  · obtain rfl := ofEachR oe
    obtain ⟨c, hcc⟩ := sortedHeap_at (a := s1.heap.objs.size) (vs := M.map fun q => Value.ref q.1) (out := ((M.mergeSort (PySem.W.dataLe false pyT)).map fun q => Value.ref q.1).toArray) (n := 0) (Heap.get?_push_size _ rfl)
    have hn : H s1.heap.objs.size = none := I.hok.fresh hz
    have keep : ∀ b u, s.heap.get? b = some u → (sortedHeap (s1.heap.push (seqObj "list" (M.map fun q => Value.ref q.1).toArray 0)) s1.heap.objs.size (M.map fun q => Value.ref q.1) ((M.mergeSort (PySem.W.dataLe false pyT)).map fun q => Value.ref q.1).toArray).get? b = some u := by
      intro b u e
      have hlt := Heap.lt_size (k1 b u e)
      rw [sortedHeap_old (Nat.ne_of_lt hlt) (by rw [size_push']; exact Nat.lt_succ_of_lt hlt)]
      exact old b u e
    have hv : Vals ((M.mergeSort (PySem.W.dataLe false pyT)).map fun q => V.ref q.1) ((M.mergeSort (PySem.W.dataLe false pyT)).map fun q => Value.ref q.1) := vals_of_refs _
    have hlen : ((M.mergeSort (PySem.W.dataLe false pyT)).map fun q => V.ref q.1).length ≤ sizeLine := by
      rw [List.length_map, List.length_mergeSort]
      exact hMl
    refine wpAny_pure ⟨_, rfl, ?_⟩
    have J : Inv X pins σ (upd H s1.heap.objs.size (.lst ((M.mergeSort (PySem.W.dataLe false pyT)).map fun q => V.ref q.1))) { s with heap := sortedHeap (s1.heap.push (seqObj "list" (M.map fun q => Value.ref q.1).toArray 0)) s1.heap.objs.size (M.map fun q => Value.ref q.1) ((M.mergeSort (PySem.W.dataLe false pyT)).map fun q => Value.ref q.1).toArray, gens := s1.gens, drawn := s1.drawn, toks := s1.toks } :=
      I.call (ch := []) (Un.laid keep hz hn) (I.hok.laid keep hz ⟨hlen, _, c, hv, hcc⟩) (by rw [g1]; exact I.bare) (fun _ z => nomatch z)
    rw [← o1] at J
    exact ⟨.ref s1.heap.objs.size, _, J, rfl, q M _ pM R.nd hn⟩
omit [FnTab] in
/-- in order, whatever the order ahead -/
theorem ltv_anti {a b : D} (h1 : a.ltv b = false) (h2 : b.ltv a = false) : PySem.W.keyToks a.py = PySem.W.keyToks b.py := (listOrd itemOrd).total _ _ h1 h2
omit [FnTab] in
theorem srt_tot : PySem.W.TotalLe fun a b : D => !b.ltv a := PySem.W.sortLe_total (listOrd itemOrd) false fun d : D => PySem.W.keyToks d.py
omit [FnTab] in
theorem srt_perm {l m : List D} (h : l.Perm m) (anti : ∀ a ∈ l, ∀ b ∈ l, PySem.W.keyToks a.py = PySem.W.keyToks b.py → a = b) : D.srt l = D.srt m := by
  refine List.Perm.eq_of_pairwise (le := fun a b => (!b.ltv a) = true) (fun a b ha hb h1 h2 => ?_) (PySem.W.sort_pairwise srt_tot l) (PySem.W.sort_pairwise srt_tot m) ((List.mergeSort_perm l _).trans (h.trans (List.mergeSort_perm m _).symm))
  have ma : a ∈ l := (List.mergeSort_perm l _).mem_iff.mp ha
  have mb : b ∈ l := h.mem_iff.mpr ((List.mergeSort_perm m _).mem_iff.mp hb)
  exact anti a ma b mb (ltv_anti (by simpa using h2) (by simpa using h1))
def tupZ (k : List Int) : D := .tup (k.map D.int)
omit [FnTab] in
theorem toks_ints : ∀ {k l : List Int}, PySem.W.keyToksAll (D.pys (k.map D.int)) = PySem.W.keyToksAll (D.pys (l.map D.int)) → k = l
  | [], [], _ => rfl
  | [], z :: l, h => by
    have e : Sum.inl (0 : Int) = (Sum.inl 1 : Int ⊕ List Nat) := (List.cons.inj h).1
    cases e
  | z :: k, [], h => by
    have e : Sum.inl (1 : Int) = (Sum.inl 0 : Int ⊕ List Nat) := (List.cons.inj h).1
    cases e
  | z :: k, y :: l, h => by
    have e := (List.cons.inj h).2
    have e1 : (Sum.inl z : Int ⊕ List Nat) = .inl y := (List.cons.inj e).1
    have e2 := toks_ints (List.cons.inj e).2
    cases e1
    rw [e2]
omit [FnTab] in
theorem toks_tupZ {k l : List Int} (h : PySem.W.keyToks (tupZ k).py = PySem.W.keyToks (tupZ l).py) : k = l := toks_ints h
def rSortSet (K : PySem.W.Frag) (P : Program) (w : World) : List V → Hp → VK → Prop := fun vs H Q => rSetOfT K P w vs H fun v H1 => rSortTZ K P w [v] H1 Q
/-- tuples of ints that can be told in order -/
def zOk (ks : List (List Int)) : Bool := ks.all (fun a => ks.all fun b => PySem.W.alike (tupZ a).py (tupZ b).py) && ks.all fun a => !a.isEmpty
def o_sset : D → Option R
  | .lst ds => if ds.length < 64 then (tzL ds).bind fun ks => if zOk ks = true then some (.own (.lst (D.srt ((nub ks).map tupZ)))) else none else none
  | _ => none
omit [FnTab] in
theorem pysZ : ∀ k : List Int, D.pys (k.map D.int) = k.map PyData.int
  | [] => rfl
  | z :: k => by
    show PyData.int z :: D.pys (k.map D.int) = _
    rw [pysZ k]
    rfl
omit [FnTab] in
theorem pyT_eq (q : Addr × List Int) : pyT q = (tupZ q.2).py := by
  show PyData.tuple _ = PyData.tuple (D.pys _)
  rw [pysZ]
theorem cl_sset {K : PySem.W.Frag} {P : Program} {W : World} : ClM K (rSortSet K P W) (f1 o_sset) := by
  refine clm_1 fun w g x a r z h Q q => ?_
  cases r with
  | @lst ad xs ds l rs =>
    simp only [o_sset] at h
    split at h
    · rename_i hl
      obtain ⟨ks, h1, h⟩ := Option.bind_eq_some_iff.mp h
      split at h
      · rename_i hz
        obtain ⟨ps, e1, e2, e3, e5, e4⟩ := tzL_of rs h1
        subst e2
        have hp : ps.length = ds.length := by rw [e4, List.length_map, ← e1, List.length_map]
        unfold zOk at hz
        simp only [Bool.and_eq_true, List.all_eq_true] at hz
        refine ⟨ad, ps, rfl, l.sq, e3, by omega, fun b L hb hs hc => ⟨b, L, rfl, upd_same, fun p hp => ?_, ?_, ?_, fun M p pM nd hn => ?_⟩⟩
        · exact tup_sq ((e5 p (hs p hp)).go g (Wd.put_step (o := SetTO P W b L) hb).step)
        · intro d hd d' hd'
          obtain ⟨u, hu, rfl⟩ := List.mem_map.mp hd
          obtain ⟨v, hv, rfl⟩ := List.mem_map.mp hd'
          rw [pyT_eq, pyT_eq]
          exact hz.1 _ (by rw [← e1]; exact List.mem_map.mpr ⟨u, hs u hu, rfl⟩) _ (by rw [← e1]; exact List.mem_map.mpr ⟨v, hs v hv, rfl⟩)
        · refine .inl fun d hd => ?_
          obtain ⟨u, hu, rfl⟩ := List.mem_map.mp hd
          have := hz.2 u.2 (by rw [← e1]; exact List.mem_map.mpr ⟨u, hs u hu, rfl⟩)
          unfold pyT
          cases hu2 : u.2 with
          | nil => rw [hu2] at this; cases this
          | cons x r => exact ⟨_, _, rfl⟩
        · have pm : (L.map (·.2)).Perm (nub ks) := nub_perm nd fun k => by
            rw [← e1]
            refine ⟨fun hk => ?_, fun hk => ?_⟩
            · obtain ⟨p, hp, rfl⟩ := List.mem_map.mp hk
              exact List.mem_map.mpr ⟨p, hs p hp, rfl⟩
            · obtain ⟨p, hp, rfl⟩ := List.mem_map.mp hk
              exact hc p hp
          cases h
          have es : (M.mergeSort (PySem.W.dataLe false pyT)).map (fun q => tupZ q.2) = D.srt ((nub ks).map tupZ) := by
            have e1 : (M.mergeSort (PySem.W.dataLe false pyT)).map (fun q => tupZ q.2) = D.srt (M.map fun q => tupZ q.2) := by
              unfold D.srt
              refine List.map_mergeSort fun a _ b _ => ?_
              show (!PySem.W.dataLt (pyT b) (pyT a)) = _
              rw [pyT_eq, pyT_eq]
              rfl
            rw [e1]
            refine srt_perm ?_ fun a ha b hb e => ?_
            · have := ((pM.map (·.2)).trans pm).map tupZ
              rw [List.map_map] at this
              exact this
            · obtain ⟨u, hu, rfl⟩ := List.mem_map.mp ha
              obtain ⟨v, hv, rfl⟩ := List.mem_map.mp hb
              rw [toks_tupZ e]
          have g2 : Good (w.put b (SetTO P W b L)) := Wd.put_good g hb
          have rr : Reps K (w.put b (SetTO P W b L)) ((M.mergeSort (PySem.W.dataLe false pyT)).map fun q => V.ref q.1) (D.srt ((nub ks).map tupZ)) := by
            rw [← es]
            have : ∀ N : List (Addr × List Int), (∀ q ∈ N, q ∈ ps) → Reps K (w.put b (SetTO P W b L)) (N.map fun q => V.ref q.1) (N.map fun q => tupZ q.2) := by
              intro N
              induction N with
              | nil => intro _; exact .nil
              | cons q N ih =>
                intro hN
                exact .cons ((e5 q (hN q (List.mem_cons_self ..))).go g (Wd.put_step (o := SetTO P W b L) hb).step) (ih fun x hx => hN x (List.mem_cons_of_mem _ hx))
            exact this _ fun q hq => hs q (pM.mem_iff.mp ((List.mergeSort_perm M _).mem_iff.mp hq))
          refine outL g2 hn rr rfl fun v w' s' g' r' => q v w' ((Wd.put_step (o := SetTO P W b L) hb).trans s') g' ?_
          obtain ⟨c, hv, hcc, ho⟩ := r'
          refine ⟨c, hv, ⟨?_, hcc.2⟩, ho⟩
          have hc1 : upd w.H b (SetTO P W b L) c = none := hcc.1
          by_cases e : c = b
          · rw [e, upd_same] at hc1
            cases hc1
          · rwa [upd_ne e] at hc1
      · cases h
    · cases h
  | _ => first | cases h | cases hh
theorem x_lset (hc : X.calm = true) (hu : X.A.units + 64 < cLine) (hm : X.mg "len" = none) (hm2 : X.mg "set" = none) (ha : XA X [e] l) (hg : Gl X "len" := by rfl) (hg2 : Gl X "set" := by rfl)
    (he : starEach [.Call (.Name "set" p2) [e] [] pos2] X.env = (false, eval (.Call (.Name "set" p2) [e] [] pos2) X.env) :: starEach [] X.env := by rfl) (hpl : (backTo pos (starEach [] X.env)).any (·.1) = false := by rfl)
    (he2 : starEach [e] X.env = (false, eval e X.env) :: starEach [] X.env := by rfl) (hpl2 : (backTo pos2 (starEach [] X.env)).any (·.1) = false := by rfl) :
    XE X (.Call (.Name "len" p) [.Call (.Name "set" p2) [e] [] pos2] [] pos) (eB (f1 o_lset) l) :=
  let ⟨_, p', q'⟩ := ha
  ⟨_, pe_callB cr_lenT hg hm (by decide +kernel) (pa_cons (pe_callTy (cr_setOfT hc hu) hg2 hm2 (by decide +kernel) p' (by decide) (by decide) he2 hpl2) pa_nil he) (by decide) (by decide) he hpl, em_B (r := rLenSet X.K X.prog X.w) cl_lset q'⟩
theorem x_sset (hc : X.calm = true) (hu : X.A.units + 65 < cLine) (hm : X.mg "sorted" = none) (hm2 : X.mg "set" = none) (ha : XA X [e] l) (hg : Gl X "sorted" := by rfl) (hg2 : Gl X "set" := by rfl)
    (he : starEach [.Call (.Name "set" p2) [e] [] pos2] X.env = (false, eval (.Call (.Name "set" p2) [e] [] pos2) X.env) :: starEach [] X.env := by rfl) (hpl : (backTo pos (starEach [] X.env)).any (·.1) = false := by rfl)
    (he2 : starEach [e] X.env = (false, eval e X.env) :: starEach [] X.env := by rfl) (hpl2 : (backTo pos2 (starEach [] X.env)).any (·.1) = false := by rfl) :
    XE X (.Call (.Name "sorted" p) [.Call (.Name "set" p2) [e] [] pos2] [] pos) (eB (f1 o_sset) l) :=
  let ⟨_, p', q'⟩ := ha
  ⟨_, pe_callB (cr_sortTZ hc hu) hg hm (by decide +kernel) (pa_cons (pe_callTy (cr_setOfT hc (by omega)) hg2 hm2 (by decide +kernel) p' (by decide) (by decide) he2 hpl2) pa_nil he) (by decide) (by decide) he hpl, em_B (r := rSortSet X.K X.prog X.w) cl_sset q'⟩
end
end Vz
set_option maxRecDepth 100000
set_option maxHeartbeats 3200000
/-! Vz9g: len(set(xs)), xs a tuple of tuples of ints. -/
namespace L2
open PySem PySem.Spec PyProof.Rows
/-- the set as it is laid -/
abbrev Zset (w : World) : Obj := { cls := .type "set", dict := none, data := .set #[] 0 (.fresh 0 0 (!w.params.followText "set-order")) }
section
variable {P : Program} {w : World} {A : Around} {E : Value → Shared → Prop} {s : Shared}
theorem heap_end (h : Heap) {b : Addr} (hb : h.objs.size ≤ b) : h.get? b = none := by
  cases q : h.get? b with
  | none => rfl
  | some o => exact absurd (Heap.lt_size q) (Nat.not_lt.mpr hb)
theorem items_at {items : Array Value} {ks : List (Addr × List Int)} (hit : items.toList = ks.map fun p => Value.ref p.1) : items.size = ks.length ∧ ∀ (i : Nat) (v : Value), items[i]? = some v → ∃ p, ks[i]? = some p ∧ v = .ref p.1 := by
  refine ⟨?_, fun i v hv => ?_⟩
  · rw [← Array.length_toList, hit, List.length_map]
  · rw [← Array.getElem?_toList, hit, List.getElem?_map] at hv
    obtain ⟨p, h1, h2⟩ := Option.map_eq_some_iff.mp hv
    exact ⟨p, h1, h2.symm⟩
theorem set_of_tuple {l : Addr} {items : Array Value} (ks : List (Addr × List Int)) {Q : Value → Shared → Prop} (hh : A.handled = none) (hl : s.heap.IsTuple l items) (hit : items.toList = ks.map fun p => Value.ref p.1)
    (hk : ∀ p ∈ ks, IsT P w s.heap p.2 p.1) (hfew : ks.length < 64) (hu : A.units + 3 < cLine)
    (h : ∀ (h' : Heap) (tk : Nat) L es ep t, SetTR P w h' s.heap.objs.size L es ep t → Got ks ks.length L → (∀ b o, s.heap.get? b = some o → h'.get? b = some o) → Q (.ref s.heap.objs.size) { s with heap := h', toks := tk }) :
    wpAny (model P w) A (call (.type "set") [.ref l]) Q E s := by
  obtain ⟨hsz, hval⟩ := items_at hit
  obtain ⟨c, tl, hmro⟩ := F.called_set.mro
  have made := F.called_set.made
  have subs := F.called_set.sub
  refine wpAny_call (codeAny_of_tree ?_)
  show wpAny _ _ (callAny (.type "set") _) _ _ _
  refine wpAny_pure ⟨Code.quiet_builtin _ (by decide +kernel), codeAny_builtin F.entry_type_call ?_⟩
  rw [Around.under_plain (weight_type_call_type "set" [.ref l] []) rfl]
  have k1 := F.called_set.notType
  have k2 := F.called_set.canCreate
  have k3 := F.typeCall_set_1 (.ref l)
  repeat (any_goals (first | assumption | wp_step))
  refine codeAny_mono (code_set_led1 (.ref l) (E := E) (Q₁ := fun obj s₁ => obj = .ref s.heap.objs.size ∧ s₁ = { s with heap := s.heap.push (Zset w) }) ⟨rfl, rfl⟩) fun r s₁ hr => ?_
  cases r with
  | error e => exact hr
  | ok fl =>
    cases fl with
    | ret obj =>
      obtain ⟨rfl, rfl⟩ := hr
      have hS : (s.heap.push (Zset w)).get? s.heap.objs.size = some (Zset w) := Heap.get?_push_size _ rfl
      have hT : Shared.TypeIs { s with heap := s.heap.push (Zset w) } (.ref s.heap.objs.size) "set" := ⟨_, hS, rfl⟩
      have i1 := F.called_set.init.lookup
      have i2 := F.called_set.init.bind (.ref s.heap.objs.size)
      repeat (any_goals (first | assumption | wp_step))
      refine codeAny_mono (codeAny_call_builtin (R := wants (fun r s₂ => r = .none ∧ ∃ h' tk L es ep t, s₂ = { s with heap := h', toks := tk } ∧ SetTR P w h' s.heap.objs.size L es ep t ∧ Got ks ks.length L ∧ (∀ b o, s.heap.get? b = some o → h'.get? b = some o)) E)
        F.called_set.init.plain F.entry_set_init (check_set_init_1 hT ?_)) fun r₂ s₂ hr₂ => ?_
      · obtain ⟨ol, hol, hcl, nl, hdl⟩ := hl
        obtain ⟨ocls, odict, odata, oslots⟩ := ol
        simp only at hcl hdl
        subst hcl; subst hdl
        have hol' : (s.heap.push (Zset w)).get? l = some { cls := .type "tuple", dict := odict, data := .seq items nl, slots := oslots } := Heap.get?_push_of_some _ hol
        have u1 := F.sub_tuple_set
        have u2 := F.sub_tuple_frozenset
        have hne : (Value.type "tuple" == Value.type "dict") = false := by decide
        have hl1 : (s.heap.push (Zset w)).IsTuple l items := ⟨_, hol', rfl, nl, rfl⟩
        unfold Builtin.«set.__init__» noKeywords Builtin.Frozenset.updateFrom
        generalize hPI : pyIter = PI
        wp_walk
        subst hPI
        refine wpAny_pyIter_tuple hl1 ?_
        refine wpAny_bind (wpAny_runValue ?_)
        have hlS : l < s.heap.objs.size := Heap.lt_size hol
        have hz : (s.heap.push (Zset w)).objs.size = s.heap.objs.size + 1 := Heap.size_push ..
        have h3 : A.in1.in1.in1.handled = none := by simp [hh]
        have nI : l ≠ (s.heap.push (Zset w)).objs.size := by rw [hz]; exact Nat.ne_of_lt (Nat.lt_succ_of_lt hlS)
        have nF : s.heap.objs.size ∉ [(s.heap.push (Zset w)).objs.size, l] := by
          rw [hz]
          simp only [List.mem_cons, List.not_mem_nil, or_false, not_or]
          exact ⟨Nat.ne_of_lt (Nat.lt_succ_self _), Nat.ne_of_gt hlS⟩
        refine set_update_tups ((Walks.tuple h3 _ l nI items).toS) s.heap.objs.size nF ks hsz hfew hval s.heap hk (heap_end _ (Nat.le_refl _)) (fun b hb => heap_end _ (by rw [List.mem_singleton.mp hb, hz]; omega)) hu (items.size - 0) 0 _ (by omega) (Nat.zero_le _)
          ⟨⟨_, Heap.get?_push_size _ rfl, rfl, rfl⟩, hl1.push _⟩ (fun b o e => Heap.get?_push_of_some _ (Heap.get?_push_of_some _ e)) ⟨[], #[], 0, _, setTR_fresh (Heap.get?_push_of_some _ hS), Got.zero ks⟩ fun s' L es ep t hm hS' g' kp => ?_
        obtain ⟨h', g2, d', tk', os'⟩ := s'
        have eg : g2 = s.gens := hm.gens
        have ed : d' = s.drawn := hm.drawn
        have eo : os' = s.os := hm.os
        subst eg; subst ed; subst eo
        show wpAny _ _ _ _ _ _
        refine wpAny_pure ?_
        show wpAny _ _ (ret Value.none) _ _ _
        rw [hsz] at g'
        exact wpAny_pure ⟨rfl, h', tk', L, es, ep, t, rfl, hS', g', kp⟩
      · cases r₂ with
        | error e => exact hr₂
        | ok fl₂ =>
          cases fl₂ with
          | ret r =>
            obtain ⟨rfl, h', tk, L, es, ep, t, rfl, hS', g', hk'⟩ := hr₂
            repeat (any_goals (first | assumption | wp_step))
            exact h _ _ _ _ _ _ hS' g' hk'
          | _ => exact hr₂.elim
    | _ => exact hr.elim
end
end L2
namespace Vz
open PySem PySem.Spec PyProof.Rows L2
section
variable {X : Cx}
def rSetOfU (K : PySem.W.Frag) (P : Program) (w : World) : List V → Hp → VK → Prop := fun xs H Q => ∃ (l : Addr) (ks : List (Addr × List Int)), xs = [V.ref l] ∧ SqT K H l (ks.map fun p => V.ref p.1) ∧ (∀ p ∈ ks, SqT K H p.1 (p.2.map V.int)) ∧ ks.length < 64 ∧
  ∀ a L, H a = none → (∀ p ∈ L, p ∈ ks) → (∀ p ∈ ks, p.2 ∈ L.map (·.2)) → Q (.ref a) (upd H a (SetTO P w a L))
theorem cr_setOfU (hc : X.calm = true) (hu : X.A.units + 64 < cLine) : CallR X (.type "set") (rSetOfU X.K X.prog X.w) := by
  intro pins s σ H xs us Q I r h
  obtain ⟨l, ks, rfl, hl, hk, hf, q⟩ := h
  rw [Vals.ref1 r]
  obtain ⟨its, rv, ⟨o, ho, hcl, hd⟩, hz⟩ := I.tuple hl
  have hn : H s.heap.objs.size = none := I.hok.fresh (Nat.le_refl _)
  refine set_of_tuple (P := X.prog) (w := X.w) (items := its.toArray) ks (I.ok.hd hc) ⟨o, ho, hcl, hd⟩ (by simpa using refs_of_vals rv) (fun p hp => I.isT (hk p hp)) hf (by omega) fun h' tk L es ep t R g k => ?_
  refine ⟨.ref s.heap.objs.size, upd H s.heap.objs.size (SetTO X.prog X.w s.heap.objs.size L), I.laid (t' := tk) k (Nat.le_refl _) (setTO_new R.t0), rfl, q _ L hn (fun p hp => ?_) fun p hp => ?_⟩
  · exact List.mem_of_mem_take (g.sub p hp)
  · exact g.all p (by rw [List.take_length]; exact hp)
def rSetOf2 (K : PySem.W.Frag) (P : Program) (w : World) : List V → Hp → VK → Prop := fun xs H Q => rSetOfT K P w xs H Q ∨ rSetOfU K P w xs H Q
theorem cr_setOf2 (hc : X.calm = true) (hu : X.A.units + 64 < cLine) : CallR X (.type "set") (rSetOf2 X.K X.prog X.w) := by
  intro pins s σ H xs us Q I r h
  rcases h with h | h
  · exact cr_setOfT hc hu pins s σ H xs us Q I r h
  · exact cr_setOfU hc hu pins s σ H xs us Q I r h
end
/-! xs[::k] -/
def stpL {α : Type} (k : Int) (xs : List α) : List α := (sliceRange 0 xs.length k).filterMap (xs[·]?)
theorem stp_pick {k : Int} (hk : 0 < k) (items : Array Value) : slicePick items none none (some k) = (stpL k items.toList).toArray := by
  unfold slicePick stpL
  have e : sliceBounds none none (some k) items.size = (0, (items.size : Int), k) := by
    unfold sliceBounds
    simp [hk]
  rw [e]
  simp
theorem vals_pick {xs : List V} {us : List Value} (r : Vals xs us) : ∀ js : List Nat, Vals (js.filterMap (xs[·]?)) (js.filterMap (us[·]?))
  | [] => .nil
  | j :: js => by
    have hl := r.length
    by_cases h : j < xs.length
    · obtain ⟨u, h1, h2⟩ := r.get (List.getElem?_eq_getElem h)
      rw [List.filterMap_cons_some (List.getElem?_eq_getElem h), List.filterMap_cons_some h1]
      exact .cons h2 (vals_pick r js)
    · rw [List.filterMap_cons_none (List.getElem?_eq_none (by omega)), List.filterMap_cons_none (List.getElem?_eq_none (by omega))]
      exact vals_pick r js
theorem stp_len {α : Type} {k : Int} (hk : 0 < k) (xs : List α) : (stpL k xs).length ≤ xs.length :=
  Nat.le_trans (List.length_filterMap_le ..) (sliceRange_length_le 0 xs.length k xs.length (fun _ => ⟨Int.le_refl _, Int.le_refl _⟩) fun h => absurd hk h)
section
variable [FnTab] {K : PySem.W.Frag} {w : Wd}
theorem Reps.pick {vs : List V} {ds : List D} (r : Reps K w vs ds) : ∀ js : List Nat, Reps K w (js.filterMap (vs[·]?)) (js.filterMap (ds[·]?))
  | [] => .nil
  | j :: js => by
    have hl := r.length
    by_cases h : j < ds.length
    · obtain ⟨u, h1, h2⟩ := r.get (List.getElem?_eq_getElem h)
      rw [List.filterMap_cons_some (List.getElem?_eq_getElem h), List.filterMap_cons_some h1]
      exact .cons h2 (r.pick js)
    · rw [List.filterMap_cons_none (List.getElem?_eq_none (by omega)), List.filterMap_cons_none (List.getElem?_eq_none (by omega))]
      exact r.pick js
theorem Reps.stp {vs : List V} {ds : List D} (r : Reps K w vs ds) (k : Int) : Reps K w (stpL k vs) (stpL k ds) := by
  unfold stpL
  rw [r.length]
  exact r.pick _
end
section
variable {X : Cx}
def tStp (K : PySem.W.Frag) (k : Int) (te : TE) : TE := fun σ H Q => te σ H fun x H1 => ∃ a xs, x = .ref a ∧ SqL K H1 a xs ∧ ∀ p, H1 p = none → Q (.ref p) (upd H1 p (.lst (stpL k xs)))
theorem pe_stp {e : Expr} {te : TE} {k : Int} {u : Nat} {p1 p3 pos : Pos} (hk : 0 < k) (he : PE X e te) : PE X (.Subscript e (.Slice none none (some (.Constant (.int k) u p1)) p3) pos) (tStp X.K k te) := by
  refine ⟨fun pins s σ H Q I h => ?_⟩
  refine Subscript_ (thn (he.run pins s σ H _ I h) fun v s1 ⟨x, H1, I1, r1, q1⟩ => ?_)
  obtain ⟨a, xs, ex, hx, q⟩ := q1
  subst ex
  cases r1
  have hst : PO X (some (.Constant (.int k) u p1)) (tPart (tC (.int k))) := po_some pe_int
  refine wpAny_Slice (thn (po_none.run pins s1 σ H1 (fun o H2 => o = none ∧ H2 = H1) I1 ⟨rfl, rfl⟩) fun vl s2 ⟨l, H2, I2, pl, el, e2⟩ => ?_)
  subst el e2
  refine thn (po_none.run pins s2 σ H2 (fun o H3 => o = none ∧ H3 = H2) I2 ⟨rfl, rfl⟩) fun vu s3 ⟨o3, H3, I3, pu, eu, e3⟩ => ?_
  subst eu e3
  refine thn (hst.run pins s3 σ H3 (fun o H4 => o = some k ∧ H4 = H3) I3 ⟨k, rfl, rfl, rfl⟩) fun vs s4 ⟨o, H4, I4, ps, eo, e4⟩ => ?_
  subst eo e4
  have I5 : Inv X pins σ H4 { s4 with heap := s4.heap.push { cls := .type "slice", data := .fields #[vl, vu, vs] } } := I4.kept (t' := s4.toks) fun b ob q => Heap.get?_push_of_some _ q
  obtain ⟨its, r, ht, hz⟩ := I5.list hx
  have hlen := r.length
  show wpAny (model X.prog X.w) X.A (subscriptTail e (.Slice none none (some (.Constant (.int k) u p1)) p3) (.ref a) (.ref s4.heap.objs.size)) (EP X pins σ Q) X.xe { s4 with heap := s4.heap.push { cls := .type "slice", data := .fields #[vl, vu, vs] } }
  refine tail_any (ops := [.ref a, .ref s4.heap.objs.size]) ht.isList.typeIs (PySem.slot_list_getitem.lookup) ?_ (by with_unfolding_all rfl)
  refine wpAny_getItem_list_slice ht.isList (Heap.IsSliceOf.new _ vl vu vs) pl pu ps (fun z => by cases z; exact absurd hk (by decide)) ?_ (by rw [List.size_toArray]; omega)
  rw [stp_pick hk]
  have hv : Vals (stpL k xs) (stpL k its) := by
    unfold stpL
    rw [hlen]
    exact vals_pick r _
  refine ⟨.ref _, _, I5.laid (t' := s4.toks) (o := .lst (stpL k xs)) (fun b ob q => Heap.get?_push_of_some _ q) (Nat.le_refl _) ?_, rfl, q _ (I5.hok.fresh (Nat.le_refl _))⟩
  exact ⟨Nat.le_trans (stp_len hk xs) hz, _, 0, hv, Heap.get?_push_size _ rfl⟩
end
section
variable [FnTab] {K : PySem.W.Frag} {X : Cx} {pos p pos2 p2 : Pos} {e : Expr} {f : Ex} {l : Ea}
def o_stp (k : Int) : D → Option R
  | .lst ds => some (.own (.lst (stpL k ds)))
  | _ => none
theorem em_stp {te : TE} {k : Int} (hf : EM K te f) : EM K (tStp K k te) (e1 (o_stp k) f) := by
  intro w0 w σ env e z env' h Q q
  obtain ⟨⟨x, e1⟩, h1, h⟩ := Option.bind_eq_some_iff.mp h
  obtain ⟨z', h3, h⟩ := Option.bind_eq_some_iff.mp h
  cases h
  refine hf.v w0 w σ env e x _ h1 _ fun v w1 E1 s1 r1 => ?_
  have fin : ∀ v w', PStep w1 w' → Good w' → RepZ K w1 w' v z → Q v w'.H := fun v w' s g r => q v w' (E1.grow s g) (s1.trans s.step) (r.r E1)
  cases r1 with
  | lst l r => exact ⟨_, _, rfl, l.sq, fun p hp => outL E1.good hp (r.stp k) h3 fin⟩
  | _ => first | cases h3 | cases hh
theorem x_stp {k : Int} {u : Nat} {p1 p3 : Pos} (ha : XE X e f) (hk : 0 < k := by decide) : XE X (.Subscript e (.Slice none none (some (.Constant (.int k) u p1)) p3) pos) (e1 (o_stp k) f) :=
  let ⟨_, p, q⟩ := ha; ⟨_, pe_stp hk p, em_stp q⟩
/-! len(set(xs)) -/
def lsetR (ds : List D) : Option R := if ds.length < 64 then (tzL ds).bind fun ks => some (.val (.int (nub ks).length)) else none
def o_lset2 : D → Option R
  | .lst ds => lsetR ds
  | .tup ds => lsetR ds
  | _ => none
def rLenSet2 (K : PySem.W.Frag) (P : Program) (w : World) : List V → Hp → VK → Prop := fun vs H Q => rSetOf2 K P w vs H fun v H1 => rLenT K P w [v] H1 Q
theorem cl_lset2 {P : Program} {W : World} : ClM K (rLenSet2 K P W) (f1 o_lset2) := by
  refine clm_1 fun w g x a r z h Q q => ?_
  have main : ∀ (ad : Addr) (xs : List V) (ds : List D), Reps K w xs ds → lsetR ds = some z → ∃ ps : List (Addr × List Int), xs = ps.map (fun p => V.ref p.1) ∧ (∀ p ∈ ps, SqT K w.H p.1 (p.2.map V.int)) ∧ ps.length < 64 ∧
      ∀ b L, w.H b = none → (∀ p ∈ L, p ∈ ps) → (∀ p ∈ ps, p.2 ∈ L.map (·.2)) → rLenT K P W [V.ref b] (upd w.H b (SetTO P W b L)) Q := by
    intro ad xs ds rs h
    unfold lsetR at h
    split at h
    · rename_i hl
      obtain ⟨ks, h1, h⟩ := Option.bind_eq_some_iff.mp h
      obtain ⟨ps, e1, e2, e3, e5, e4⟩ := tzL_of rs h1
      subst e2
      have hp : ps.length = ds.length := by rw [e4, List.length_map, ← e1, List.length_map]
      refine ⟨ps, rfl, e3, by omega, fun b L hb hs hc => ⟨b, L, rfl, upd_same, fun p hp => ?_, fun nd => ?_⟩⟩
      · exact tup_sq ((e5 p (hs p hp)).go g (Wd.put_step (o := SetTO P W b L) hb).step)
      · have pm : (L.map (·.2)).Perm (nub ks) := nub_perm nd fun k => by
          rw [← e1]
          refine ⟨fun hk => ?_, fun hk => ?_⟩
          · obtain ⟨p, hp, rfl⟩ := List.mem_map.mp hk
            exact List.mem_map.mpr ⟨p, hs p hp, rfl⟩
          · obtain ⟨p, hp, rfl⟩ := List.mem_map.mp hk
            exact hc p hp
        have hlen := pm.length_eq
        rw [List.length_map] at hlen
        cases h
        rw [hlen]
        exact q (.int _) (w.put b (SetTO P W b L)) (Wd.put_step hb) (Wd.put_good g hb) (.int _)
    · cases h
  cases r with
  | @lst ad xs ds l rs =>
    obtain ⟨ps, e, h1, h2, h3⟩ := main ad xs ds rs h
    subst e
    exact .inl ⟨ad, ps, rfl, l.sq, h1, h2, h3⟩
  | @tup ad xs ds l rs =>
    obtain ⟨ps, e, h1, h2, h3⟩ := main ad xs ds rs h
    subst e
    exact .inr ⟨ad, ps, rfl, l.sq, h1, h2, h3⟩
  | _ => first | cases h | cases hh
theorem x_lset2 (hc : X.calm = true) (hu : X.A.units + 64 < cLine) (hm : X.mg "len" = none) (hm2 : X.mg "set" = none) (ha : XA X [e] l) (hg : Gl X "len" := by rfl) (hg2 : Gl X "set" := by rfl)
    (he : starEach [.Call (.Name "set" p2) [e] [] pos2] X.env = (false, eval (.Call (.Name "set" p2) [e] [] pos2) X.env) :: starEach [] X.env := by rfl) (hpl : (backTo pos (starEach [] X.env)).any (·.1) = false := by rfl)
    (he2 : starEach [e] X.env = (false, eval e X.env) :: starEach [] X.env := by rfl) (hpl2 : (backTo pos2 (starEach [] X.env)).any (·.1) = false := by rfl) :
    XE X (.Call (.Name "len" p) [.Call (.Name "set" p2) [e] [] pos2] [] pos) (eB (f1 o_lset2) l) :=
  let ⟨_, p', q'⟩ := ha
  ⟨_, pe_callB cr_lenT hg hm (by decide +kernel) (pa_cons (pe_callTy (cr_setOf2 hc hu) hg2 hm2 (by decide +kernel) p' (by decide) (by decide) he2 hpl2) pa_nil he) (by decide) (by decide) he hpl, em_B (r := rLenSet2 X.K X.prog X.w) cl_lset2 q'⟩
end
end Vz
set_option maxRecDepth 100000
set_option maxHeartbeats 1600000
/-! Vz9h: dicts whose keys are ints and texts. -/
namespace Vz
open PySem PySem.Spec PyProof.Rows L2
/-! ### tables by two lists -/
def keyD : D → Option Key
  | .int i => some (.inl i)
  | .str x => some (.inr x)
  | _ => none
def getA {α : Type} (k : Key) : List Key → List α → Option α
  | j :: ks, d :: ds => if j = k then some d else getA k ks ds
  | _, _ => none
def setA {α : Type} (k : Key) (y : α) : List Key → List α → List α
  | j :: ks, d :: ds => (if j = k then y else d) :: setA k y ks ds
  | _, ds => ds
instance decKey (k : Key) (ks : List Key) : Decidable (k ∈ ks) := @List.instDecidableMemOfLawfulBEq Key instBEqOfDecidableEq inferInstance k ks
def putKs (k : Key) (ks : List Key) : List Key := if k ∈ ks then ks else ks ++ [k]
def putA {α : Type} (k : Key) (y : α) (ks : List Key) (ds : List α) : List α := if k ∈ ks then setA k y ks ds else ds ++ [y]
theorem getA_val (k : Key) : ∀ (ks : List Key) (xs : List V), ks.length = xs.length → valV (ks.zip xs) k = getA k ks xs
  | [], [], _ => rfl
  | j :: ks, x :: xs, h => by
    rw [List.zip_cons_cons]
    unfold getA
    by_cases e : j = k
    · rw [if_pos e, valV_pos e]
    · rw [if_neg e, valV_neg e, getA_val k ks xs (by simpa using h)]
  | [], _ :: _, h => by simp at h
  | _ :: _, [], h => by simp at h
theorem any_zip (k : Key) : ∀ (ks : List Key) (xs : List V), ks.length = xs.length → (((ks.zip xs).any fun kv => decide (kv.1 = k)) = true ↔ k ∈ ks)
  | [], [], _ => by simp
  | j :: ks, x :: xs, h => by
    rw [List.zip_cons_cons, List.any_cons, Bool.or_eq_true, any_zip k ks xs (by simpa using h), decide_eq_true_eq, List.mem_cons]
    exact or_congr_left eq_comm
  | [], _ :: _, h => by simp at h
  | _ :: _, [], h => by simp at h
theorem map_zip (k : Key) (y : V) : ∀ (ks : List Key) (xs : List V), (ks.zip xs).map (fun kv => if kv.1 = k then (kv.1, y) else kv) = ks.zip (setA k y ks xs)
  | [], xs => by cases xs <;> rfl
  | j :: ks, [] => rfl
  | j :: ks, x :: xs => by
    unfold setA
    rw [List.zip_cons_cons, List.map_cons, map_zip k y ks xs, List.zip_cons_cons]
    by_cases e : j = k
    · rw [if_pos e, if_pos e]
    · rw [if_neg e, if_neg e]
theorem putK_zip (k : Key) (y : V) {ks : List Key} {xs : List V} (h : ks.length = xs.length) : putK (ks.zip xs) k y = (putKs k ks).zip (putA k y ks xs) := by
  unfold putK putKs putA
  by_cases e : k ∈ ks
  · rw [if_pos ((any_zip k ks xs h).mpr e), if_pos e, if_pos e, map_zip]
  · rw [if_neg fun z => e ((any_zip k ks xs h).mp z), if_neg e, if_neg e, List.zip_append h]
    rfl
theorem setA_length {α : Type} (k : Key) (y : α) : ∀ (ks : List Key) (xs : List α), (setA k y ks xs).length = xs.length
  | [], _ => rfl
  | _ :: _, [] => rfl
  | _ :: ks, _ :: xs => congrArg (· + 1) (setA_length k y ks xs)
theorem putA_length {α : Type} (k : Key) (y : α) {ks : List Key} {xs : List α} (h : ks.length = xs.length) : (putKs k ks).length = (putA k y ks xs).length := by
  unfold putKs putA
  split
  · rw [setA_length]; exact h
  · rw [List.length_append, List.length_append, h]; rfl
section
variable [FnTab] {K : PySem.W.Frag} {w w' : Wd}
theorem rep_key {v : V} {d : D} {k : Key} (r : Rep K w v d) (h : keyD d = some k) : v = kV k := by
  cases r <;> cases h <;> rfl
theorem Reps.getA {k : Key} : ∀ {ks : List Key} {xs : List V} {ds : List D}, Reps K w xs ds → (∀ d, Vz.getA k ks ds = some d → ∃ v, Vz.getA k ks xs = some v ∧ Rep K w v d) ∧ (Vz.getA k ks ds = none → Vz.getA k ks xs = none)
  | [], _, _, _ => ⟨fun d h => (nomatch (show (none : Option D) = some d from h)), fun _ => rfl⟩
  | j :: ks, _, _, .nil => ⟨fun d h => (nomatch (show (none : Option D) = some d from h)), fun _ => rfl⟩
  | j :: ks, _, _, .cons r t => by
    unfold Vz.getA
    by_cases e : j = k
    · rw [if_pos e, if_pos e]
      exact ⟨fun d h => by cases h; exact ⟨_, rfl, r⟩, fun h => by cases h⟩
    · rw [if_neg e, if_neg e]
      exact Reps.getA t
theorem Reps.setA {k : Key} {v : V} {d : D} (r : Rep K w v d) : ∀ {ks : List Key} {xs : List V} {ds : List D}, Reps K w xs ds → Reps K w (Vz.setA k v ks xs) (Vz.setA k d ks ds)
  | [], _, _, t => t
  | j :: ks, _, _, .nil => .nil
  | j :: ks, _, _, .cons q t => by
    unfold Vz.setA
    refine .cons ?_ (Reps.setA r t)
    by_cases e : j = k
    · rw [if_pos e, if_pos e]; exact r
    · rw [if_neg e, if_neg e]; exact q
theorem Reps.putA {k : Key} {v : V} {d : D} (r : Rep K w v d) {ks : List Key} {xs : List V} {ds : List D} (t : Reps K w xs ds) : Reps K w (Vz.putA k v ks xs) (Vz.putA k d ks ds) := by
  unfold Vz.putA
  split
  · exact Reps.setA r t
  · exact t.append (.cons r .nil)
end
/-! ### an object of one's own gets another content -/
section
variable [FnTab] {K : PySem.W.Frag} {w w' w1 w2 : Wd} {w0 : W0} {σ : L2.St} {env env' env1 : List Sl}
theorem EnvOk.writeO {i : Nat} {o o' : Ow} {a : Addr} {u : HO} (e : EnvOk K w0 w σ env) (ho : owOf env[i]? = some o) (ha : σ[i]? = some (some (V.ref a))) (hr : Step w { w with H := upd w.H a u } → OwIs K { w with H := upd w.H a u } a o') :
    EnvOk K w0 { w with H := upd w.H a u } σ (putOw env i o') ∧ Step w { w with H := upd w.H a u } := by
  have hO : isO env[i]? = true := by
    cases q : env[i]? with
    | none => rw [q] at ho; cases ho
    | some s => cases s <;> rw [q] at ho <;> first | rfl | cases ho
  obtain ⟨a', o1, h1, ⟨h2, hnb⟩, h3⟩ := e.owned hO
  rw [ha] at h1
  cases h1
  have eo : o1 = o := by
    rcases h3 with h3 | h3 <;> rw [h3] at ho <;> exact Option.some.inj ho
  subst eo
  have s : Step w { w with H := upd w.H a u } := ⟨fun b o hw h => by
      have nb : b ≠ a := fun z => hw (by rw [z]; exact h2.wa)
      show upd w.H a _ b = _
      rw [upd_ne nb]; exact h,
    fun b h => by
      show upd w.H a _ b ≠ none
      by_cases hb : b = a
      · subst hb; rw [upd_same]; exact fun z => nomatch z
      · rw [upd_ne hb]; exact h, fun _ h => .inl h, fun _ h => h, fun _ h => .inl h⟩
  have hr := hr s
  refine ⟨?_, s⟩
  have kin : ∀ (j : Nat) (y : Sl), (putOw env i o')[j]? = some y → (j ≠ i ∧ env[j]? = some y) ∨ (j = i ∧ ∃ s, env[i]? = some s ∧ y = s.kin o' ∧ (s = .own o1 ∨ s = .arg o1)) := fun j y h => by
    unfold putOw at h
    cases q : env[i]? with
    | none => rw [q] at hO; cases hO
    | some s =>
      rw [q] at h
      by_cases hj : j = i
      · subst hj
        rw [get_set_eq q] at h
        cases h
        refine .inr ⟨rfl, s, rfl, rfl, ?_⟩
        rcases h3 with h3 | h3 <;> rw [q] at h3 <;> cases h3
        · exact .inl rfl
        · exact .inr rfl
      · simp only at h
        rw [get_set_ne (Ne.symm hj)] at h
        exact .inl ⟨hj, h⟩
  have kinO : ∀ j : Nat, isO (putOw env i o')[j]? = true → isO env[j]? = true := fun j h => by
    cases q : (putOw env i o')[j]? with
    | none => rw [q] at h; cases h
    | some y =>
      rcases kin j y q with ⟨_, k2⟩ | ⟨k1, s, k2, k3, k4⟩
      · rw [q] at h; rw [k2]; exact h
      · rw [k1]; exact hO
  have other : ∀ {j : Nat} {b : Addr} {o : Ow}, j ≠ i → isO env[j]? = true → σ[j]? = some (some (V.ref b)) → OwAt K w b o → OwAt K { w with H := upd w.H a u } b o := fun {j b o} hj hoj hb h => by
    have nb : b ≠ a := fun z => hj (e.inj j i a hoj hO (by rw [hb, z]) ha)
    exact ⟨h.wa, h.is.go e.good s (upd_ne nb)⟩
  refine ⟨e.g0, ⟨fun p hp => s.trk p (e.good.dom p hp)⟩, e.st.trans s, ?_, fun j d h => ?_, fun j o h => ?_, fun j o h => ?_, fun j k b h1 h2 => e.inj j k b (kinO j h1) (kinO k h2), fun p hp => ?_⟩
  · unfold putOw
    split
    · rw [List.length_set]; exact e.len
    · exact e.len
  · rcases kin j _ h with ⟨_, k2⟩ | ⟨k1, s', k2, k3, k4⟩
    · obtain ⟨v, v1, v2⟩ := e.val j d k2
      exact ⟨v, v1, v2.go e.good s⟩
    · rcases k4 with k4 | k4 <;> subst k4 <;> cases k3
  · rcases kin j _ h with ⟨k1, k2⟩ | ⟨k1, s', k2, k3, k4⟩
    · obtain ⟨b, b1, b2, b3⟩ := e.own j o k2
      exact ⟨b, b1, b2, other k1 (by rw [k2]; rfl) b1 b3⟩
    · subst k1
      rcases k4 with k4 | k4
      · subst k4
        cases k3
        obtain ⟨b, b1, b2, b3⟩ := e.own j _ k2
        rw [ha] at b1
        cases b1
        exact ⟨a, ha, b2, h2.wa, hr⟩
      · subst k4; cases k3
  · rcases kin j _ h with ⟨k1, k2⟩ | ⟨k1, s', k2, k3, k4⟩
    · obtain ⟨b, b1, b2, b3⟩ := e.arg j o k2
      exact ⟨b, b1, b2, other k1 (by rw [k2]; rfl) b1 b3⟩
    · subst k1
      rcases k4 with k4 | k4
      · subst k4; cases k3
      · subst k4
        cases k3
        obtain ⟨b, b1, b2, b3⟩ := e.arg j _ k2
        rw [ha] at b1
        cases b1
        exact ⟨a, ha, b2, h2.wa, hr⟩
  · obtain ⟨h1, o, h4⟩ := e.pin p hp
    refine ⟨h1, ?_⟩
    by_cases hj : p.1 = i
    · rw [hj] at h4 ⊢
      unfold putOw
      rw [h4]
      exact ⟨_, get_set_eq h4⟩
    · refine ⟨o, ?_⟩
      unfold putOw
      cases q : env[i]? with
      | none => exact h4
      | some s' =>
        show (env.set i _)[p.1]? = _
        rw [get_set_ne (Ne.symm hj)]
        exact h4
/-! ### {} and a display of texts -/
theorem put_dct {p : Addr} {ks : List Key} {xs : List V} {ds : List D} (g : Good w) (hp : w.H p = none) (l : ks.length = xs.length) (r : Reps K w xs ds) : OwAt K (w.puts p (.dK (ks.zip xs))) p (.dct ks ds) :=
  ⟨.inr rfl, xs, l, upd_same, r.go g (Wd.puts_step hp).step⟩
theorem outD {z : R} {ks : List Key} {xs : List V} {ds : List D} {p : Addr} {Q : VK} (g : Good w) (hp : w.H p = none) (l : ks.length = xs.length) (r : Reps K w xs ds) (e : some (R.own (.dct ks ds)) = some z) (q : ∀ v w', PStep w w' → Good w' → RepZ K w w' v z → Q v w'.H) :
    Q (.ref p) (upd w.H p (.dK (ks.zip xs))) := by
  cases e; exact q _ (w.puts p (.dK (ks.zip xs))) (Wd.puts_step hp) (Wd.puts_good g hp) ⟨p, rfl, ⟨hp, fun z => g.dom p (.inr z) hp⟩, put_dct g hp l r⟩
def e_d0 : Ex := fun env => some (.own (.dct [] []), env)
theorem em_d0 : EM K tDNewK e_d0 := by
  intro w0 w σ env e r env' h Q q
  cases h
  intro p hp
  exact outD (ks := []) (xs := []) (ds := []) e.good hp rfl .nil rfl fun v w' s g rr => q v w' (e.grow s g) s.step (rr.r e)
theorem mergeK_new : ∀ (kvs acc : List (Key × V)), ((acc ++ kvs).map (·.1)).Nodup → mergeK acc kvs = acc ++ kvs
  | [], acc, _ => by rw [List.append_nil]; rfl
  | p :: kvs, acc, h => by
    have hn : valV acc p.1 = none := by
      cases e : valV acc p.1 with
      | none => rfl
      | some v =>
        obtain ⟨q, hq, _⟩ := Option.map_eq_some_iff.mp (show Option.map (fun kv : Key × V => kv.2) (List.find? (fun kv : Key × V => decide (kv.1 = p.1)) acc) = some v from e)
        have h1 := List.mem_of_find?_eq_some hq
        have h2 : q.1 = p.1 := of_decide_eq_true (List.find?_some (p := fun kv : Key × V => decide (kv.1 = p.1)) hq)
        rw [List.map_append, List.nodup_append] at h
        exact absurd h2 (h.2.2 _ (List.mem_map.mpr ⟨q, h1, rfl⟩) _ (List.mem_map.mpr ⟨p, List.mem_cons_self, rfl⟩))
    show mergeK (putK acc p.1 p.2) kvs = _
    rw [putK_new p.2 hn, mergeK_new kvs _ (by rw [List.append_assoc]; exact h), List.append_assoc]
    rfl
def trsC (ps : List (Str × Str)) : List (TE × TE) := ps.map fun p => (tC (.str p.1), tC (.str p.2))
theorem pairs_c {σ : L2.St} {H : Hp} : ∀ (ps : List (Str × Str)) (Q : List (V × V) → Hp → Prop), Q (ps.map fun p => (V.str p.1, V.str p.2)) H → tPairs (trsC ps) σ H Q
  | [], Q, h => h
  | p :: ps, Q, h => pairs_c ps _ h
def e_dcs (ps : List (Str × Str)) : Ex := fun env => some (.own (.dct (ps.map fun p => .inr p.1) (ps.map fun p => .str p.2)), env)
theorem reps_strs {w : Wd} : ∀ ps : List (Str × Str), Reps K w (ps.map fun p => V.str p.2) (ps.map fun p => D.str p.2)
  | [] => .nil
  | p :: ps => .cons (.str _) (reps_strs ps)
theorem em_dcs {ps : List (Str × Str)} (hn : (ps.map (·.1)).Nodup) (hl : ps.length ≤ 15) : EM K (tDisp (trsC ps)) (e_dcs ps) := by
  intro w0 w σ env e r env' h Q q
  cases h
  intro p hp
  refine pairs_c ps _ ⟨upd_same, ps.map fun p => ((.inr p.1 : Key), V.str p.2), ?_, by rw [List.length_map]; exact hl, ?_⟩
  · rw [List.map_map]
    rfl
  · have e1 : mergeK [] (ps.map fun p => ((.inr p.1 : Key), V.str p.2)) = (ps.map fun p => (.inr p.1 : Key)).zip (ps.map fun p => V.str p.2) := by
      rw [mergeK_new _ [] ?_, List.nil_append]
      · rw [List.zip_map']
      · rw [List.nil_append, List.map_map]
        exact List.pairwise_map.mpr ((List.pairwise_map.mp hn).imp fun h k => h (Sum.inr.inj k))
    rw [e1, upd_upd]
    exact outD (ks := ps.map fun p => (.inr p.1 : Key)) (xs := ps.map fun p => V.str p.2) e.good hp (by rw [List.length_map, List.length_map]) (reps_strs ps) rfl fun v w' s g rr => q v w' (e.grow s g) s.step (rr.r e)
/-! ### d[k], k in d, d.get(k, x), dict(d), d != e -/
def rDGet : R2 := fun x y H Q => ∃ a v, x = .ref a ∧ DGet H a y (some v) ∧ Q v H
def rDIn : R2 := fun x y H Q => ∃ a o, y = .ref a ∧ DGet H a x o ∧ Q (.bl o.isSome) H
def rDNotIn : R2 := fun x y H Q => ∃ a o, y = .ref a ∧ DGet H a x o ∧ Q (.bl (!o.isSome)) H
def o_dix : D → D → Option R
  | .dct _ ks ds, y => (keyD y).bind fun k => (getA k ks ds).bind fun d => some (.val d)
  | _, _ => none
theorem opm_dix : OpM K rDGet o_dix := by
  intro w g x y a b ra rb z h Q q
  cases ra with
  | dct l r =>
    obtain ⟨k, h1, h⟩ := Option.bind_eq_some_iff.mp h
    obtain ⟨d, h2, h⟩ := Option.bind_eq_some_iff.mp h
    obtain ⟨v, h3, h4⟩ := (Reps.getA r).1 d h2
    have e := rep_key rb h1
    subst e
    exact ⟨_, v, rfl, .inl ⟨_, k, l.2.1.1, rfl, by rw [getA_val k _ _ l.1, h3]⟩, out0 g h4 h q⟩
  | _ => first | cases h | cases hh
def o_din (neg : Bool) : D → D → Option R
  | y, .dct _ ks _ => (keyD y).bind fun k => some (.val (.bl (if neg then !decide (k ∈ ks) else decide (k ∈ ks))))
  | _, _ => none
theorem getA_some {α : Type} (k : Key) : ∀ (ks : List Key) (xs : List α), ks.length = xs.length → (getA k ks xs).isSome = decide (k ∈ ks)
  | [], [], _ => by simp [getA]
  | j :: ks, x :: xs, h => by
    unfold getA
    by_cases e : j = k
    · rw [if_pos e, e]; simp
    · rw [if_neg e, getA_some k ks xs (by simpa using h)]
      have : k ≠ j := fun z => e z.symm
      simp [this]
  | [], _ :: _, h => by simp at h
  | _ :: _, [], h => by simp at h
theorem opm_din : OpM K rDIn (o_din false) := by
  intro w g x y a b ra rb z h Q q
  cases rb with
  | dct l r =>
    obtain ⟨k, h1, h⟩ := Option.bind_eq_some_iff.mp h
    have e := rep_key ra h1
    subst e
    refine ⟨_, _, rfl, .inl ⟨_, k, l.2.1.1, rfl, rfl⟩, ?_⟩
    rw [getA_val k _ _ l.1, getA_some k _ _ l.1]
    exact out0 g (.bl _) h q
  | _ => first | cases h | cases hh
theorem opm_dnotin : OpM K rDNotIn (o_din true) := by
  intro w g x y a b ra rb z h Q q
  cases rb with
  | dct l r =>
    obtain ⟨k, h1, h⟩ := Option.bind_eq_some_iff.mp h
    have e := rep_key ra h1
    subst e
    refine ⟨_, _, rfl, .inl ⟨_, k, l.2.1.1, rfl, rfl⟩, ?_⟩
    rw [getA_val k _ _ l.1, getA_some k _ _ l.1]
    exact out0 g (.bl _) h q
  | _ => first | cases h | cases hh
/-- d.get(k, x) -/
def e_dget (f g h : Ex) : Ex := fun env => (vf f env).bind fun p => match p.1 with
  | .dct _ ks ds => (vf g p.2).bind fun q => (vf h q.2).bind fun u => (keyD q.1).bind fun k => some (.val ((getA k ks ds).getD u.1), u.2)
  | _ => none
theorem em_dget {ta tb tc : TE} {f g h : Ex} (ha : EM K ta f) (hb : EM K tb g) (hc : EM K tc h) : EM K (tDGet2 ta tb tc) (e_dget f g h) := by
  intro w0 w σ env e z env' hh Q q
  obtain ⟨⟨x, e1⟩, k1, hh⟩ := Option.bind_eq_some_iff.mp hh
  refine ha.v w0 w σ env e x e1 k1 _ fun v w1 E1 s1 r1 => ?_
  cases x with
  | dct lk ks ds =>
    obtain ⟨⟨y, e2⟩, k2, hh⟩ := Option.bind_eq_some_iff.mp hh
    obtain ⟨⟨d, e3⟩, k3, hh⟩ := Option.bind_eq_some_iff.mp hh
    obtain ⟨k, k4, hh⟩ := Option.bind_eq_some_iff.mp hh
    cases hh
    have r1' := r1
    cases r1 with
    | dct l r =>
      refine ⟨_, rfl, .inl ⟨_, l.2.1.1⟩, ?_⟩
      refine hb.v w0 w1 σ e1 E1 y e2 k2 _ fun u w2 E2 s2 r2 => ?_
      refine hc.v w0 w2 σ e2 E2 d e3 k3 _ fun t w3 E3 s3 r3 => ?_
      have r5 := (r1'.go E1.good s2).go E2.good s3
      have ey := rep_key (r2.go E2.good s3) k4
      subst ey
      cases r5 with
      | dct l5 r5 =>
        refine ⟨_, .inl ⟨_, k, l5.2.1.1, rfl, rfl⟩, ?_⟩
        rw [getA_val k _ _ l5.1]
        have hg := Reps.getA (k := k) (ks := ks) r5
        cases hq : getA k ks ds with
        | none =>
          rw [hg.2 hq]
          exact q _ w3 E3 ((s1.trans s2).trans s3) (by rw [hq] at *; exact r3)
        | some d' =>
          obtain ⟨v', h1, h2⟩ := hg.1 d' hq
          rw [h1]
          exact q _ w3 E3 ((s1.trans s2).trans s3) (by rw [hq] at *; exact h2)
  | _ => cases hh
def o_dict : D → Option R
  | .dct _ ks ds => some (.own (.dct ks ds))
  | _ => none
theorem cl_dict : ClM K (fun xs H Q => ∃ (a : Addr) (kvs : List (Key × V)), xs = [.ref a] ∧ Rd H a (.dK kvs) ∧ ∀ p, H p = none → Q (.ref p) (upd H p (.dK kvs))) (f1 o_dict) := by
  refine clm_1 fun w g x a r z h Q q => ?_
  cases r with
  | dct l r => exact ⟨_, _, rfl, l.2.1.1, fun p hp => outD g hp l.1 r h q⟩
  | _ => first | cases h | cases hh
def strsD : List D → Option (List Str)
  | [] => some []
  | .str x :: ds => (strsD ds).bind fun xs => some (x :: xs)
  | _ :: _ => none
theorem reps_strsD {w : Wd} : ∀ {ds : List D} {vs : List V} {xs : List Str}, Reps K w vs ds → strsD ds = some xs → vs = xs.map V.str
  | [], _, _, r, h => by cases r; cases h; rfl
  | d :: ds, _, xs, r, h => by
    cases r with
    | cons a b =>
      cases d with
      | str x =>
        obtain ⟨ys, h1, h⟩ := Option.bind_eq_some_iff.mp h
        cases h
        cases a
        rw [reps_strsD b h1]
        rfl
      | _ => cases h
def rNeDR : R2 := fun x y H Q => ∃ a b ks ls, x = .ref a ∧ y = .ref b ∧ Rd H a (.dK ks) ∧ Rd H b (.dK ls) ∧ ks.length = ls.length ∧ (∀ p ∈ ks, valV ls p.1 = some p.2 ∧ flatB p.2 = true) ∧ Q (.bl false) H
theorem op_neDR {X : Cx} (hu : X.A.units < cLine) : OpR X (compareOp .NotEq) rNeDR := by
  intro pins s σ H x y v u Q I rx ry h
  obtain ⟨a, b, ks, ls, rfl, rfl, ea, eb, hlen, hp, q⟩ := h
  obtain rfl : v = Value.ref a := rx
  obtain rfl : u = Value.ref b := ry
  obtain ⟨_, ya, va, ra, da⟩ := dk_rd I.hok ea
  obtain ⟨_, yb, vb, rb, db⟩ := dk_rd I.hok eb
  have hl : va.length = vb.length := by rw [← ra.length, ← rb.length]; exact hlen
  exact PySem.W.keq_ne (knd := mixKind X.prog X.w) (r := true) ya yb da db hu (fun _ => hits_all rb ra hp) (fin_bl I q (by simp [hl]))
/-- two dicts of texts with the same keys and the same texts, in one order, aren't unlike -/
def o_ned : D → D → Option R
  | .dct _ ks ds, .dct _ ls es => if ks = ls ∧ ks.Nodup then (strsD ds).bind fun xs => (strsD es).bind fun ys => if xs = ys then some (.val (.bl false)) else none else none
  | _, _ => none
theorem val_nodup : ∀ {ks : List Key} {xs : List V} {p : Key × V}, ks.Nodup → p ∈ ks.zip xs → valV (ks.zip xs) p.1 = some p.2
  | [], _, _, _, h => by simp at h
  | _ :: _, [], _, _, h => by simp at h
  | k :: ks, x :: xs, p, nd, h => by
    rw [List.zip_cons_cons] at h ⊢
    rcases List.mem_cons.mp h with h | h
    · subst h; exact valV_pos rfl
    · have n := List.nodup_cons.mp nd
      rw [valV_neg (p := (k, x)) fun z => n.1 (by show k ∈ ks; rw [show k = p.1 from z]; exact (List.of_mem_zip (show (p.1, p.2) ∈ _ from h)).1)]
      exact val_nodup n.2 h
theorem opm_ned : OpM K rNeDR o_ned := by
  intro w g x y a b ra rb z h Q q
  cases ra with
  | dct l r =>
    cases rb with
    | dct l2 r2 =>
      simp only [o_ned] at h
      split at h
      · rename_i hc
        obtain ⟨xs, h1, h⟩ := Option.bind_eq_some_iff.mp h
        obtain ⟨ys, h2, h⟩ := Option.bind_eq_some_iff.mp h
        split at h
        · rename_i he
          have e1 := reps_strsD r h1
          have e2 := reps_strsD r2 h2
          subst e1 e2 he
          obtain ⟨hk, nd⟩ := hc
          subst hk
          refine ⟨_, _, _, _, rfl, rfl, l.2.1.1, l2.2.1.1, rfl, fun p hp => ⟨val_nodup nd hp, ?_⟩, out0 g (.bl _) h q⟩
          obtain ⟨t, _, e⟩ := List.mem_map.mp (List.of_mem_zip (show (p.1, p.2) ∈ _ from hp)).2
          rw [← e]
          rfl
        · cases h
      · cases h
    | _ => first | cases h | cases hh
  | _ => first | cases h | cases hh
/-! ### d[k] = v -/
def g_dix (i : Nat) (f : Ex) : Tg := fun r env => match owOf env[i]? with
  | some (.dct _ _) => (vf f env).bind fun p => (keyD p.1).bind fun k => match owOf p.2[i]?, r with
    | some (.dct ks ds), .val d => if ks.length < 100000 then some (putOw p.2 i (.dct (putKs k ks) (putA k d ks ds))) else none
    | _, _ => none
  | _ => none
theorem gm_dix {i : Nat} {ti : TE} {f : Ex} (hf : EM K ti f) : GM K (gSub (tVar i) ti rSetD) (g_dix i f) := by
  intro w0 w σ env e v r env' rr h Q q
  unfold g_dix at h
  split at h
  · rename_i ks0 ds0 ho0
    obtain ⟨a, ha, hO, _⟩ := e.ow ho0
    obtain ⟨⟨d, e1⟩, k1, h⟩ := Option.bind_eq_some_iff.mp h
    obtain ⟨k, hk, h⟩ := Option.bind_eq_some_iff.mp h
    refine ⟨_, ha, ?_⟩
    refine hf.v w0 w σ env e d e1 k1 _ fun u w1 E1 s1 r1 => ?_
    simp only at h
    split at h
    · rename_i ks ds d' ho hsh hx
      split at h
      · rename_i hl
        cases h
        have eu := rep_key r1 hk
        subst eu
        obtain ⟨b, hb, hO1, _⟩ := E1.ow ho
        rw [ha] at hb
        cases hb
        obtain ⟨xs, l, hx, rx⟩ := hO1.is
        have rv : Rep K w v d' := rr
        have hz : (ks.zip xs).length < sizeLine := by
          rw [List.length_zip, ← l, Nat.min_self]
          exact Nat.lt_of_lt_of_le hl line5
        refine ⟨a, _, rfl, DPut.k hx hz, ?_⟩
        rw [putK_zip k v l]
        obtain ⟨E2, s2⟩ := E1.writeO (u := .dK ((putKs k ks).zip (putA k v ks xs))) (o' := .dct (putKs k ks) (putA k d' ks ds)) ho ha fun s => ⟨_, putA_length k v l, upd_same, (Reps.putA (rv.go e.good s1) rx).go E1.good s⟩
        exact q _ σ E2 (s1.trans s2)
      · cases h
    · cases h
  · cases h
end
section
variable [FnTab] {K : PySem.W.Frag} {X : Cx} {pos p pos2 p2 : Pos} {a b c e : Expr} {es : List Expr} {f g h : Ex} {l : Ea}
theorem x_d0 : XE X (.Dict [] [] pos) e_d0 := ⟨_, pe_dnewK, em_d0⟩
theorem x_dcs {keys : List (Option Expr)} {values : List Expr} (ps : List (Str × Str)) (hp : PPs X pos keys values (trsC ps)) (hall : keys.all (·.isSome) = true := by rfl) (hl : keys.length = values.length := by rfl) (h0 : keys ≠ [] := by exact fun z => nomatch z) (h15 : keys.length ≤ 15 := by decide)
    (hn : (ps.map (·.1)).Nodup := by decide +kernel) (hp15 : ps.length ≤ 15 := by decide) : XE X (.Dict keys values pos) (e_dcs ps) := ⟨_, pe_disp hp hall hl h0 h15, em_dcs hn hp15⟩
theorem x_dix (hu : X.A.units + 1 < cLine) (ha : XE X a f) (hb : XE X b g) (hs : NoSl b := by exact fun _ _ => rfl) : XE X (.Subscript a b pos) (e2 o_dix f g) :=
  let ⟨ta, p, q⟩ := ha; let ⟨tb, p', q'⟩ := hb; ⟨tOp rDGet ta tb, pe_dget hu p p' hs, em_op opm_dix q q'⟩
theorem or_din (hu : X.A.units + 1 < cLine) : OpR X (compareOp .In) rDIn := by
  intro pins s σ H x y v u Q I rx ry h
  obtain ⟨a, o, rfl, g, q⟩ := h
  obtain rfl : u = Value.ref a := ry
  exact d_in hu I g rx fun s' I' => ⟨.bl o.isSome, H, I', rfl, q⟩
theorem or_dnotin (hu : X.A.units + 1 < cLine) : OpR X (compareOp .NotIn) rDNotIn := by
  intro pins s σ H x y v u Q I rx ry h
  obtain ⟨a, o, rfl, g, q⟩ := h
  obtain rfl : u = Value.ref a := ry
  exact d_notIn hu I g rx fun s' I' => ⟨.bl (!o.isSome), H, I', rfl, q⟩
theorem x_dget {apos : Pos} (hu : X.A.units + 1 < cLine) (ha : XE X a f) (hb : XE X b g) (hc : XE X c h) (m : M2 X a "get" apos b c pos := by exact ⟨rfl, rfl, rfl, rfl⟩) : XE X (.Call (.Attribute a "get" apos) [b, c] [] pos) (e_dget f g h) :=
  let ⟨_, p, q⟩ := ha; let ⟨_, p', q'⟩ := hb; let ⟨_, p'', q''⟩ := hc; ⟨_, pe_dget2 hu p p' p'' m, em_dget q q' q''⟩
theorem x_dictc (hm : X.mg "dict" = none) (ha : XA X (e :: es) l) (hg : Gl X "dict" := by rfl) (he : starEach (e :: es) X.env = (false, eval e X.env) :: starEach es X.env := by rfl) (hpl : (backTo pos (starEach es X.env)).any (·.1) = false := by rfl) :
    XE X (.Call (.Name "dict" p) (e :: es) [] pos) (eB (f1 o_dict) l) := x_Ty call_dictD cl_dict hg hm (by decide +kernel) ha (by decide) (by decide) he hpl
theorem xg_dix (i : Nat) {y : Str} {pos' : Pos} (hu : X.A.units + 1 < cLine) (hb : XE X b f) (hN : X.N[i]? = some y := by rfl) (hvi : Vis X.env.scope y := by first | exact Or.inl rfl | exact Or.inr (Or.inl rfl) | exact Or.inr (Or.inr rfl)) (hd : (y == ("__debug__" : Str)) = false := by decide)
    (hcd : (y == ("__classdict__" : Str)) = false := by decide) (ha : ∀ v, assign (.Subscript (.Name y pos') b pos) X.env v = (do
      let ov ← holding [v] (eval (.Name y pos') X.env)
      let iv ← holding [v, ov] (eval b X.env)
      standAt pos
      holding [v, ov, iv] (setItem ov iv v)
      release [v, ov, iv] []) := by intro _; rfl) : XG X (.Subscript (.Name y pos') b pos) (gv (g_dix i f)) := let ⟨_, p', q'⟩ := hb; ⟨_, pg_sub (pe_var hN hvi hd hcd) p' (set_dict hu) ha, gm_v (gm_dix q')⟩
end
theorem room1 {k : Nat} {A : Around} (r : Room k A) : A.units + 1 < cLine := by have := r.un; omega
/-- a def that is not told anything of -/
theorem fn_none [FnTab] {P : Program} {w : World} {K : PySem.W.Frag} {mg : Str → Option Value} {base : Heap} {CX : CXT} {k : Nat} {f : Addr} {fd : FuncData} {ps : List Str} : FnOk P w K mg base CX k f fd ps (spM K fun _ => none) :=
  { len := fun vs H Q E h => by
      obtain ⟨_, _, _, _, _, _, _, hm, _⟩ := h
      cases hm
    run := fun A outer s H args us vs Q E hr e0 hb r h => by
      obtain ⟨_, _, _, _, _, _, _, hm, _⟩ := h
      cases hm }
end Vz
set_option maxRecDepth 100000
set_option maxHeartbeats 1600000
/-! Vz9i: dicts that stay as they are, walks of their keys; a call whose one argument is new and is changed; isinstance of two types. -/
namespace Vz
open PySem PySem.Spec PyProof.Rows L2
section
variable [FnTab] {K : PySem.W.Frag} {w w' w1 w2 : Wd} {w0 : W0} {σ : L2.St} {env env' env1 : List Sl}
/-! ### let be for good -/
def tLk (t : TE) : TE := fun σ H Q => t σ H fun v H1 => ∃ (a : Addr) (u : HO), v = .ref a ∧ H1 a = some u ∧ Mut (some u) ∧ ∀ od, Q v (upd H1 a (.frz od u))
theorem pe_lk {X : Cx} {e : Expr} {t : TE} (h : PE X e t) : PE X e (tLk t) := by
  refine ⟨fun pins s σ H Q I hh => thn (h.run pins s σ H _ I hh) fun u s1 ⟨x, H1, I1, r1, a, u', ex, hH, mu, q⟩ => ?_⟩
  obtain ⟨od, I2⟩ := I1.lock hH mu
  exact ⟨x, _, I2, r1, q od⟩
def e_lk (f : Ex) : Ex := fun env => (f env).bind fun p => match p.1 with
  | .own (.dct ks ds) => some (.val (.dct true ks ds), p.2)
  | _ => none
theorem em_lk {t : TE} {f : Ex} (hf : EM K t f) : EM K (tLk t) (e_lk f) := by
  intro w0 w σ env e r env' h Q q
  obtain ⟨⟨z, e1⟩, k1, h⟩ := Option.bind_eq_some_iff.mp h
  simp only at h
  split at h
  · rename_i ks ds
    cases h
    refine hf w0 w σ env e _ _ k1 _ fun v w1 E1 s1 rr => ?_
    obtain ⟨a, rfl, hn, hO, hd⟩ := rr
    obtain ⟨xs, l, hx, rx⟩ := hO.is
    refine ⟨a, _, rfl, hx, trivial, fun od => ?_⟩
    have s : Step w1 ⟨fun p => w1.W p ∧ p ≠ a, w1.B, upd w1.H a (.frz od (.dK (ks.zip xs)))⟩ := ⟨fun b o hw hb => by
        have nb : b ≠ a := fun z => hw (by rw [z]; exact hO.wa)
        show upd w1.H a _ b = _
        rw [upd_ne nb]; exact hb,
      fun b hb => by
        show upd w1.H a _ b ≠ none
        by_cases hb2 : b = a
        · subst hb2; rw [upd_same]; exact fun z => nomatch z
        · rw [upd_ne hb2]; exact hb,
      fun p hp => .inl hp.1, fun p hp => hp, fun p hp => .inl hp⟩
    have E2 : EnvOk K w0 ⟨fun p => w1.W p ∧ p ≠ a, w1.B, upd w1.H a (.frz od (.dK (ks.zip xs)))⟩ σ env' := by
      refine ⟨E1.g0, ⟨fun p hp => s.trk p (E1.good.dom p (hp.imp (·.1) id))⟩, E1.st.trans s, E1.len, fun i d hi => ?_, fun i o hi => ?_, fun i o hi => ?_, E1.inj, E1.pin⟩
      · obtain ⟨v, v1, v2⟩ := E1.val i d hi
        exact ⟨v, v1, v2.go E1.good s⟩
      · obtain ⟨b, h1, h2, h3⟩ := E1.own i o hi
        have nb : b ≠ a := fun z => hd i (by rw [hi]; rfl) (by rw [h1, z])
        exact ⟨b, h1, h2, ⟨h3.wa, nb⟩, h3.is.go E1.good s (upd_ne nb)⟩
      · obtain ⟨b, h1, h2, h3⟩ := E1.arg i o hi
        have nb : b ≠ a := fun z => hd i (by rw [hi]; rfl) (by rw [h1, z])
        exact ⟨b, h1, h2, ⟨h3.wa, nb⟩, h3.is.go E1.good s (upd_ne nb)⟩
    refine q (.ref a) _ E2 (s1.trans s) (.dct ⟨l, ⟨.inr ⟨od, upd_same⟩, fun z => z.elim (fun k => k.2 rfl) hn.2⟩, fun _ => ⟨od, upd_same⟩⟩ (rx.go E1.good s))
  · cases h
/-! ### for k in d -/
def kD : Key → D
  | .inl i => .int i
  | .inr x => .str x
def s_keys (f : Ex) : Src := fun env => (vf f env).bind fun p => match p.1 with
  | .dct true ks _ => some (ks.map kD, p.2)
  | _ => none
theorem rep_kD {w : Wd} {k : Key} : Rep K w (kV k) (kD k) := by
  cases k with
  | inl i => exact .int i
  | inr x => exact .str x
theorem itok_keys {a : Addr} {o : Obj} {ks : List Key} {xs : List V} (g : Good w) (l : ks.length = xs.length) (hx : w.H a = some (.frz o (.dK (ks.zip xs)))) (nO : ¬ w.O a) : ItOk K w (Itk a o (ks.zip xs)) (ks.map kD) := by
  intro i w2 g2 s
  have hx2 : w2.H a = some (.frz o (.dK (ks.zip xs))) := s.keep a _ (fun z => nO (.inl z)) hx
  have hz : (ks.zip xs).length = ks.length := by rw [List.length_zip, l, Nat.min_self]
  refine ⟨fun d hd => ?_, fun h => ?_⟩
  · rw [List.getElem?_map] at hd
    obtain ⟨k, hk, rfl⟩ := Option.map_eq_some_iff.mp hd
    have hi := (List.getElem?_eq_some_iff.mp hk).1
    refine ⟨⟨hx2, by rw [hz]; exact hi⟩, fun x H' hy => ?_⟩
    obtain ⟨rfl, k', v, h1, rfl⟩ := hy
    have e : k' = k := by
      have h2 := List.getElem?_zip_eq_some.mp h1
      exact Option.some.inj (h2.1.symm.trans hk)
    subst e
    exact ⟨w2, rfl, .refl w2, g2, rep_kD⟩
  · rw [List.length_map] at h
    exact ⟨hx2, by rw [hz]; exact h⟩
theorem im_keys {te : TE} {f : Ex} (hf : EM K te f) : IM K (iKeys te) (s_keys f) := by
  intro w0 w σ env e ds env' h Q q
  obtain ⟨⟨x, e1⟩, h1, h⟩ := Option.bind_eq_some_iff.mp h
  simp only at h
  split at h
  · rename_i ks vs
    cases h
    refine hf.v w0 w σ env e _ _ h1 _ fun v w1 E1 s1 r1 => ?_
    cases r1 with
    | dct l r =>
      obtain ⟨o, ho⟩ := l.2.2 rfl
      exact ⟨_, o, rfl, .inl ⟨_, ho, q _ w1 E1 s1 (itok_keys E1.good l.1 ho l.2.1.2)⟩⟩
  · cases h
/-! ### a call whose one argument is new and is changed -/
theorem EnvOk.ghost {a : Addr} {o : Ow} (e : EnvOk K w0 w σ env) (hn : w0.H a = none ∧ ¬ w.B a) (hO : OwAt K w a o) (hd : ∀ i : Nat, isO env[i]? = true → σ[i]? ≠ some (some (V.ref a))) : EnvOk K w0 w (σ ++ [some (.ref a)]) (env ++ [.own o]) := by
  have el := e.len
  have key : ∀ (j : Nat) (y : Sl), (env ++ [.own o])[j]? = some y → (j < env.length ∧ env[j]? = some y ∧ (σ ++ [some (V.ref a)])[j]? = σ[j]?) ∨ (j = env.length ∧ y = .own o ∧ (σ ++ [some (V.ref a)])[j]? = some (some (V.ref a))) := fun j y h => by
    by_cases hj : j < env.length
    · rw [List.getElem?_append_left hj] at h
      exact .inl ⟨hj, h, by rw [List.getElem?_append_left (by omega)]⟩
    · rw [List.getElem?_append_right (by omega)] at h
      have : j = env.length := by
        have := (List.getElem?_eq_some_iff.mp h).1
        simp at this
        omega
      subst this
      rw [Nat.sub_self] at h
      cases h
      exact .inr ⟨rfl, rfl, by rw [List.getElem?_append_right (by omega), el, Nat.sub_self]; rfl⟩
  have keyO : ∀ (j : Nat) (b : Addr), isO (env ++ [.own o])[j]? = true → (σ ++ [some (V.ref a)])[j]? = some (some (V.ref b)) → (j < env.length ∧ isO env[j]? = true ∧ σ[j]? = some (some (V.ref b))) ∨ (j = env.length ∧ b = a) := fun j b h h2 => by
    cases q : (env ++ [Sl.own o])[j]? with
    | none => rw [q] at h; cases h
    | some y =>
      rcases key j y q with ⟨k1, k2, k3⟩ | ⟨k1, k2, k3⟩
      · refine .inl ⟨k1, ?_, by rw [← k3]; exact h2⟩
        rw [q] at h; rw [k2]; exact h
      · rw [k3] at h2
        cases h2
        exact .inr ⟨k1, rfl⟩
  refine ⟨e.g0, e.good, e.st, by rw [List.length_append, List.length_append, el]; rfl, fun j d h => ?_, fun j o' h => ?_, fun j o' h => ?_, fun j k b h1 h2 h3 h4 => ?_, fun p hp => ?_⟩
  · rcases key j _ h with ⟨k1, k2, k3⟩ | ⟨_, k2, _⟩
    · rw [k3]; exact e.val j d k2
    · cases k2
  · rcases key j _ h with ⟨k1, k2, k3⟩ | ⟨_, k2, k3⟩
    · rw [k3]; exact e.own j o' k2
    · cases k2; exact ⟨a, k3, hn, hO⟩
  · rcases key j _ h with ⟨k1, k2, k3⟩ | ⟨_, k2, k3⟩
    · rw [k3]; exact e.arg j o' k2
    · cases k2
  · rcases keyO j b h1 h3 with ⟨p1, p2, p3⟩ | ⟨p1, p2⟩
    · rcases keyO k b h2 h4 with ⟨q1, q2, q3⟩ | ⟨q1, q2⟩
      · exact e.inj j k b p2 q2 p3 q3
      · rw [q2] at p3; exact absurd p3 (hd j p2)
    · rcases keyO k b h2 h4 with ⟨q1, q2, q3⟩ | ⟨q1, q2⟩
      · rw [p2] at q3; exact absurd q3 (hd k q2)
      · rw [p1, q1]
  · obtain ⟨h1, o', h2⟩ := e.pin p hp
    have hi := (List.getElem?_eq_some_iff.mp h2).1
    exact ⟨by rw [List.getElem?_append_left (by omega)]; exact h1, o', by rw [List.getElem?_append_left hi]; exact h2⟩
theorem EnvOk.unghost {x : Option V} {envg : List Sl} (p0 : EnvOk K w0 w σ env) (e : EnvOk K w0 w' (σ ++ [x]) envg) (he : ∀ j : Nat, j < env.length → envg[j]? = env[j]?) : EnvOk K w0 w' σ env := by
  have el := p0.len
  have hσ : ∀ j : Nat, j < env.length → (σ ++ [x])[j]? = σ[j]? := fun j hj => List.getElem?_append_left (by omega)
  have lt : ∀ {j : Nat} {y : Sl}, env[j]? = some y → j < env.length := fun {j y} h => (List.getElem?_eq_some_iff.mp h).1
  have ltO : ∀ {j : Nat}, isO env[j]? = true → j < env.length := fun {j} h => by
    cases q : env[j]? with
    | none => rw [q] at h; cases h
    | some y => exact lt q
  refine ⟨e.g0, e.good, e.st, el, fun j d h => ?_, fun j o h => ?_, fun j o h => ?_, fun j k b h1 h2 h3 h4 => ?_, fun p hp => ?_⟩
  · have hj := lt h
    rw [← hσ j hj]
    exact e.val j d (by rw [he j hj]; exact h)
  · have hj := lt h
    rw [← hσ j hj]
    exact e.own j o (by rw [he j hj]; exact h)
  · have hj := lt h
    rw [← hσ j hj]
    exact e.arg j o (by rw [he j hj]; exact h)
  · have hj := ltO h1
    have hk := ltO h2
    exact e.inj j k b (by rw [he j hj]; exact h1) (by rw [he k hk]; exact h2) (by rw [hσ j hj]; exact h3) (by rw [hσ k hk]; exact h4)
  · exact p0.pin p hp
def e_callt (m : FM) (f : Ex) : Ex := fun env => (f env).bind fun p => match p.1 with
  | .own o => (m [.arg o]).bind fun q => some (q.1, p.2)
  | _ => none
theorem em_callt {m : FM} {E : XK} {te : TE} {f : Ex} (hf : EM K te f) : EM K (tCall (spM K m) [] E (tCons te tNil)) (e_callt m f) := by
  intro w0 w σ env e r env' h Q q
  obtain ⟨⟨z, e1⟩, k1, h⟩ := Option.bind_eq_some_iff.mp h
  simp only at h
  split at h
  · rename_i o
    obtain ⟨⟨r', args'⟩, h3, h⟩ := Option.bind_eq_some_iff.mp h
    cases h
    refine hf w0 w σ env e _ _ k1 _ fun v w1 E1 s1 rr => ?_
    obtain ⟨a, rfl, hn, hO, hd⟩ := rr
    have E2 := E1.ghost hn hO hd
    have hl : (env' ++ [Sl.own o])[env'.length]? = some (.own o) := by rw [List.getElem?_append_right (Nat.le_refl _), Nat.sub_self]; rfl
    have hσ : (σ ++ [some (V.ref a)])[env'.length]? = some (some (.ref a)) := by rw [← E1.len, List.getElem?_append_right (Nat.le_refl _), Nat.sub_self]; rfl
    have hs : slotsOf (env' ++ [Sl.own o]) [.m env'.length] = some [.arg o] := by
      show (owOf (env' ++ [Sl.own o])[env'.length]?).bind _ = _
      rw [hl]
      rfl
    have ra : RepsA K w1 (σ ++ [some (V.ref a)]) [.ref a] [.m env'.length] := .cons (show RepA K w1 _ _ (.m _) from hσ) .nil
    show spM K m ([.ref a] ++ []) w1.H Q E
    rw [List.append_nil]
    refine run_call E2 ra (by simp [msOf]) hs h3 Q fun v w2 E3 s2 rr => ?_
    have he : ∀ j : Nat, j < env'.length → (backs [.m env'.length] args' (env' ++ [Sl.own o]))[j]? = env'[j]? := fun j hj => by
      rw [backs_other _ _ _ j (by simp [msOf]; omega), List.getElem?_append_left hj]
    refine q v w2 (E1.unghost E3 he) (s1.trans s2) ?_
    cases r' with
    | val d => exact rr
    | own o' =>
      obtain ⟨b, rfl, h4, h5, h6⟩ := rr
      refine ⟨b, rfl, h4, h5, fun i hi hz => ?_⟩
      have hj : i < env'.length := by
        cases qq : env'[i]? with
        | none => rw [qq] at hi; cases hi
        | some y => exact (List.getElem?_eq_some_iff.mp qq).1
      exact h6 i (by rw [he i hj]; exact hi) (by rw [List.getElem?_append_left (by rw [E1.len]; exact hj)]; exact hz)
  · cases h
/-! ### isinstance(x, (T, U)) -/
def o_isi2 (T U : String) (d : D) : Option R := if d.isFn = false then (kitB d.typ T).bind fun b => (kitB d.typ U).bind fun c => some (.val (.bl (b || c))) else none
theorem em_isi2 {ta : TE} {f : Ex} {T U : String} (hf : EM K ta f) : EM K (tCB (rIsiT K) (tCons ta (tCons (tTup (tCons (tC (.ty T)) (tCons (tC (.ty U)) tNil))) tNil))) (e1 (o_isi2 T U) f) := by
  intro w0 w σ env e z env' h Q q
  obtain ⟨⟨x, e1⟩, h1, h⟩ := Option.bind_eq_some_iff.mp h
  obtain ⟨z', h3, h⟩ := Option.bind_eq_some_iff.mp h
  cases h
  refine hf.v w0 w σ env e x _ h1 _ fun v w1 E1 s1 r1 => ?_
  refine ⟨by rw [sizeLine_eq]; show 2 ≤ 16777216; decide, fun p hp => ?_⟩
  unfold o_isi2 at h3
  split at h3
  case isFalse => cases h3
  rename_i hn
  obtain ⟨b, h4, h5⟩ := Option.bind_eq_some_iff.mp h3
  obtain ⟨c, h6, h7⟩ := Option.bind_eq_some_iff.mp h5
  have s2 := Wd.put_step (o := .tup [.ty T, .ty U]) hp
  have g2 := Wd.put_good (o := .tup [.ty T, .ty U]) E1.good hp
  have r2 := r1.go E1.good s2.step
  have any : PySem.W.kitAny K (.type x.typ) [.type T, .type U] = some (b || c) := by
    unfold PySem.W.kitAny
    rw [kit_ty h4]
    cases b with
    | true => rfl
    | false =>
      show PySem.W.kitAny K (.type x.typ) [.type U] = some c
      unfold PySem.W.kitAny
      rw [kit_ty h6]
      cases c <;> rfl
  refine ⟨v, p, _, _, _, _, rfl, upd_same, .cons (.ty T) (.cons (.ty U) .nil), r2.tyx hn, any, ?_⟩
  exact out0 (w := w1.put p (.tup [.ty T, .ty U])) g2 (.bl _) h7 fun v w' s g r => q v w' (E1.grow (s2.trans s) g) (s1.trans (s2.trans s).step) (RepZ.r (E1.grow s2 g2) r)
end
section
variable [FnTab] {K : PySem.W.Frag} {X : Cx} {pos p pos2 p2 : Pos} {a b c e : Expr} {es : List Expr} {f g h : Ex} {l : Ea} {x : Str}
theorem x_lk (ha : XE X e f) : XE X e (e_lk f) := let ⟨_, p, q⟩ := ha; ⟨_, pe_lk p, em_lk q⟩
theorem xi_keys {tg : Expr} (ha : XE X a f) : XI X tg a (s_keys f) := let ⟨_, p, q⟩ := ha; ⟨_, pi_keys p, im_keys q⟩
theorem x_callt {k j : Nat} {m : FM} (U : FnU X.prog X.w X.K X.mg X.base k x m []) (hr : Room j X.A) (hkj : k ≤ j) (ha : XE X e f) (hg : Gl X x := by rfl) (hdb : (x == ("__debug__" : Str)) = false := by decide)
    (he : starEach [e] X.env = (false, eval e X.env) :: starEach [] X.env := by rfl) (hpl : (backTo pos (starEach [] X.env)).any (·.1) = false := by rfl) : XE X (.Call (.Name x p) [e] [] pos) (e_callt m f) := by
  obtain ⟨_, _, _, dvs, _, F, hm, hk, hb, hd, hdd⟩ := U
  obtain ⟨_, q1, q2⟩ := ha
  have e0 : dvs = [] := by
    have := (hdd ⟨fun _ => False, fun _ => False, fun _ => none⟩).length
    exact List.eq_nil_of_length_eq_zero this
  subst e0
  exact ⟨_, pe_call F (hr.mono hkj) hg hm hk hb hd pass0 (pa_cons q1 pa_nil he) hdb he hpl, em_callt q2⟩
theorem x_isi2 {n n2 : Str} {p' p3 p4 : Pos} {ctx} (T U : String) (hm : X.mg "isinstance" = none) (hmt : X.mg n = none) (hmt2 : X.mg n2 = none) (hvt : bootBuiltins n = some (.type T)) (hvt2 : bootBuiltins n2 = some (.type U)) (ha : XE X e f) (hg : Gl X "isinstance" := by rfl) (hgt : Gl X n := by rfl) (hgt2 : Gl X n2 := by rfl)
    (hn : n ≠ "__name__" := by decide) (hdb : (n == ("__debug__" : Str)) = false := by decide) (hn2 : n2 ≠ "__name__" := by decide) (hdb2 : (n2 == ("__debug__" : Str)) = false := by decide)
    (he : starEach [e, .Tuple [.Name n p', .Name n2 p3] ctx p4] X.env = (false, eval e X.env) :: starEach [.Tuple [.Name n p', .Name n2 p3] ctx p4] X.env := by rfl)
    (he2 : starEach [.Tuple [.Name n p', .Name n2 p3] ctx p4] X.env = (false, eval (.Tuple [.Name n p', .Name n2 p3] ctx p4) X.env) :: starEach [] X.env := by rfl) (hpl : (backTo pos (starEach [.Tuple [.Name n p', .Name n2 p3] ctx p4] X.env)).any (·.1) = false := by rfl)
    (he3 : starEach [.Name n p', .Name n2 p3] X.env = (false, eval (.Name n p') X.env) :: starEach [.Name n2 p3] X.env := by rfl) (he4 : starEach [.Name n2 p3] X.env = (false, eval (.Name n2 p3) X.env) :: starEach [] X.env := by rfl) :
    XE X (.Call (.Name "isinstance" p) [e, .Tuple [.Name n p', .Name n2 p3] ctx p4] [] pos) (e1 (o_isi2 T U) f) :=
  let ⟨_, q1, q2⟩ := ha; ⟨_, pe_callB call_isiT hg hm (by decide +kernel) (pa_cons q1 (pa_cons (pe_tup (pa_cons (pe_bltn (v := .ty T) hgt hmt hvt rfl hn hdb) (pa_cons (pe_bltn (v := .ty U) hgt2 hmt2 hvt2 rfl hn2 hdb2) pa_nil he4) he3)) pa_nil he2) he) (by decide) (by decide) he hpl, em_isi2 q2⟩
end
end Vz
set_option maxRecDepth 100000
set_option maxHeartbeats 1000000
/-! Vm: what the mirrors reckon, evaluated from the front. -/
namespace Vz
open PySem PySem.Spec PyProof.Rows L2
def Ok {α : Type} (o : Option α) (P : α → Prop) : Prop := ∃ x, o = some x ∧ P x
section
variable {α β : Type} {P Q : α → Prop}
theorem Ok_some {x : α} : Ok (some x) P ↔ P x := by
  constructor
  · rintro ⟨_, e, h⟩; cases e; exact h
  · intro h; exact ⟨x, rfl, h⟩
theorem Ok_none : Ok (none : Option α) P ↔ False := by
  constructor
  · rintro ⟨_, e, h⟩; cases e
  · intro h; exact h.elim
/-- what comes behind -/
def Th (f : β → Option α) (P : α → Prop) (x : β) : Prop := Ok (f x) P
theorem Th_eq {f : β → Option α} {x : β} : Th f P x ↔ Ok (f x) P := Iff.rfl
theorem Ok_bind {o : Option β} {f : β → Option α} : Ok (o.bind f) P ↔ Ok o (Th f P) := by
  cases o with
  | none => rw [Option.bind_none, Ok_none, Ok_none]
  | some x => rw [Option.bind_some, Ok_some]; exact Iff.rfl
theorem Ok_ite {c : Prop} [Decidable c] {a b : Option α} : Ok (if c then a else b) P ↔ if c then Ok a P else Ok b P := by
  split <;> exact Iff.rfl
theorem Ok_need {c : Prop} [Decidable c] {a : Option α} : Ok (if c then a else none) P ↔ c ∧ Ok a P := by
  split
  · rename_i h; exact ⟨fun k => ⟨h, k⟩, fun k => k.2⟩
  · rename_i h
    constructor
    · intro k; exact (Ok_none.mp k).elim
    · intro k; exact absurd k.1 h
theorem Ok.mono {o : Option α} (h : Ok o P) (k : ∀ x, P x → Q x) : Ok o Q := let ⟨x, e, p⟩ := h; ⟨x, e, k x p⟩
theorem Ok.of {o : Option α} {x : α} (e : o = some x) (h : P x) : Ok o P := ⟨x, e, h⟩
theorem Ok.eq {o : Option α} {x : α} (h : Ok o fun y => y = x) : o = some x := let ⟨_, e, p⟩ := h; by rw [e, p]
end

/-! ### the parts, with a state at hand; what comes behind them is named, not written out -/
section
variable {env e e' : List Sl} {f g h : Ex} {c c' : Et} {a b : Cm} {d x y : D} {r : R} {tr : Bool} {ds ds' : List D} {i j k n : Nat}
/-! values -/
def kvf (p : R × List Sl) : Option (D × List Sl) := some (p.1.d, p.2)
theorem vf_eq : vf f env = (f env).bind kvf := by unfold vf; cases f env <;> rfl
theorem kvf_eq : kvf (r, e) = some (r.d, e) := rfl
theorem e_c_eq : e_c d env = some (.val d, env) := rfl
theorem vc_eq : vf (e_c d) env = some (d, env) := rfl
def getV (s : Option Sl) (env : List Sl) : Option (R × List Sl) := match s with
  | some (.val d) => some (.val d, env)
  | _ => none
theorem e_v_eq : e_v i env = getV env[i]? env := by unfold e_v getV; rfl
theorem getV_eq : getV (some (.val d)) env = some (.val d, env) := rfl
def getW (s : Option Sl) (env : List Sl) : Option (D × List Sl) := match s with
  | some (.val d) => some (d, env)
  | _ => none
theorem vv_eq : vf (e_v i) env = getW env[i]? env := by
  unfold vf e_v getW
  cases env[i]? with
  | none => rfl
  | some s => cases s <;> rfl
theorem getW_eq : getW (some (.val d)) env = some (d, env) := rfl
def getT (i : Nat) (s : Option Sl) (env : List Sl) : Option (R × List Sl) := match s with
  | some (.own o) => some (.own o, env.set i .no)
  | _ => none
theorem e_take_eq : e_take i env = getT i env[i]? env := by unfold e_take getT; rfl
theorem getT_eq {o : Ow} : getT i (some (.own o)) env = some (.own o, env.set i .no) := rfl
def getF (i : Nat) (s : Option Sl) (env : List Sl) : Option (R × List Sl) := match s with
  | some (.own o) => some (.val o.d, env.set i (.val o.d))
  | some (.val d) => some (.val d, env)
  | _ => none
theorem e_fz_eq : e_fz i env = getF i env[i]? env := by unfold e_fz getF; rfl
theorem getF_own {o : Ow} : getF i (some (.own o)) env = some (.val o.d, env.set i (.val o.d)) := rfl
theorem getF_val : getF i (some (.val d)) env = some (.val d, env) := rfl
/-! operators -/
def k1 (op : D → Option R) (p : D × List Sl) : Option (R × List Sl) := (op p.1).bind fun z => some (z, p.2)
def kz (e : List Sl) (z : R) : Option (R × List Sl) := some (z, e)
theorem kz_eq : kz e r = some (r, e) := rfl
theorem k1_eq {op : D → Option R} : k1 op (x, e) = (op x).bind (kz e) := rfl
def k2b (op : D → D → Option R) (x : D) (q : D × List Sl) : Option (R × List Sl) := (op x q.1).bind fun z => some (z, q.2)
def k2 (op : D → D → Option R) (g : Ex) (p : D × List Sl) : Option (R × List Sl) := (vf g p.2).bind (k2b op p.1)
theorem e2_eq {op : D → D → Option R} : e2 op f g env = (vf f env).bind (k2 op g) := rfl
theorem k2_eq {op : D → D → Option R} : k2 op g (x, e) = (vf g e).bind (k2b op x) := rfl
theorem k2b_eq {op : D → D → Option R} : k2b op x (y, e) = (op x y).bind (kz e) := rfl
theorem e1_eq {op : D → Option R} : e1 op f env = (vf f env).bind (k1 op) := rfl
def klf (e : List Sl) (z : R) : Option (R × List Sl) := if z.lf = true then some (z, e) else none
theorem klf_eq : klf e r = if r.lf = true then some (r, e) else none := rfl
def k2o' (op : D → D → Option R) (s : Option Ow) (y : D) (e : List Sl) : Option (R × List Sl) := match s with
  | some o => (op o.d y).bind (klf e)
  | none => none
theorem k2o'_eq {op : D → D → Option R} {o : Ow} : k2o' op (some o) y e = (op o.d y).bind (klf e) := rfl
def k2o (op : D → D → Option R) (i : Nat) (q : D × List Sl) : Option (R × List Sl) := k2o' op (owOf q.2[i]?) q.1 q.2
theorem k2o_eq {op : D → D → Option R} : k2o op i (y, e) = k2o' op (owOf e[i]?) y e := rfl
def has {α : Type} (s : Option Ow) (z : Option α) : Option α := match s with
  | some _ => z
  | none => none
theorem has_eq {α : Type} {o : Ow} {z : Option α} : has (some o) z = z := rfl
theorem e2o_eq {op : D → D → Option R} : e2o op i g env = has (owOf env[i]?) ((vf g env).bind (k2o op i)) := by
  unfold e2o has k2o k2o'
  cases owOf env[i]? with
  | none => rfl
  | some o =>
    simp only
    congr 1
def k2r' (op : D → D → Option R) (s : Option Ow) (x : D) (e : List Sl) : Option (R × List Sl) := match s with
  | some o => (op x o.d).bind (klf e)
  | none => none
theorem k2r'_eq {op : D → D → Option R} {o : Ow} : k2r' op (some o) x e = (op x o.d).bind (klf e) := rfl
def k2r (op : D → D → Option R) (i : Nat) (q : D × List Sl) : Option (R × List Sl) := k2r' op (owOf q.2[i]?) q.1 q.2
theorem k2r_eq {op : D → D → Option R} : k2r op i (x, e) = k2r' op (owOf e[i]?) x e := rfl
theorem e2r_eq {op : D → D → Option R} : e2r op f i env = (vf f env).bind (k2r op i) := by
  unfold e2r
  congr 1
def kBo (op : List D → Option R) (s : Option Ow) (e : List Sl) : Option (R × List Sl) := match s with
  | some o => (op [o.d]).bind (klf e)
  | none => none
theorem kBo_eq {op : List D → Option R} {o : Ow} : kBo op (some o) e = (op [o.d]).bind (klf e) := rfl
theorem eBo_eq {op : List D → Option R} : eBo op i env = kBo op (owOf env[i]?) env := by
  unfold eBo kBo
  cases owOf env[i]? <;> rfl
/-! lists of arguments -/
def kB (op : List D → Option R) (p : List D × List Sl) : Option (R × List Sl) := (op p.1).bind (kz p.2)
theorem eB_eq {op : List D → Option R} {l : Ea} : eB op l env = (l env).bind (kB op) := rfl
theorem kB_eq {op : List D → Option R} : kB op (ds, e) = (op ds).bind (kz e) := rfl
def ka2 (x : D) (q : List D × List Sl) : Option (List D × List Sl) := some (x :: q.1, q.2)
def ka (l : Ea) (p : D × List Sl) : Option (List D × List Sl) := (l p.2).bind (ka2 p.1)
theorem a_nil_eq : a_nil env = some ([], env) := rfl
theorem a_cons_eq {l : Ea} : a_cons f l env = (vf f env).bind (ka l) := rfl
theorem ka_eq {l : Ea} : ka l (x, e) = (l e).bind (ka2 x) := rfl
theorem ka2_eq : ka2 x (ds, e) = some (x :: ds, e) := rfl
def kr2 (x : AV) (q : List AV × List Sl) : Option (List AV × List Sl) := some (x :: q.1, q.2)
def kr (l : Er) (p : D × List Sl) : Option (List AV × List Sl) := (l p.2).bind (kr2 (.d p.1))
theorem r_nil_eq : r_nil env = some ([], env) := rfl
theorem r_v_eq {l : Er} : r_v f l env = (vf f env).bind (kr l) := rfl
theorem kr_eq {l : Er} : kr l (x, e) = (l e).bind (kr2 (.d x)) := rfl
theorem kr2_eq {v : AV} {vs : List AV} : kr2 v (vs, e) = some (v :: vs, e) := rfl
theorem r_m_eq {l : Er} : r_m i l env = if isO env[i]? = true then (l env).bind (kr2 (.m i)) else none := rfl
def kc3 (as : List AV) (e : List Sl) (q : R × List Sl) : Option (R × List Sl) := some (q.1, backs as q.2 e)
theorem kc3_eq {as : List AV} {e1 : List Sl} : kc3 as e (r, e1) = some (r, backs as e1 e) := rfl
def kc2 (m : FM) (as : List AV) (e : List Sl) (ss : List Sl) : Option (R × List Sl) := (m ss).bind (kc3 as e)
theorem kc2_eq {m : FM} {as : List AV} {ss : List Sl} : kc2 m as e ss = (m ss).bind (kc3 as e) := rfl
def kc (m : FM) (dd : List D) (p : List AV × List Sl) : Option (R × List Sl) := if (msOf p.1).Nodup then (slotsOf p.2 (p.1 ++ dd.map AV.d)).bind (kc2 m (p.1 ++ dd.map AV.d) p.2) else none
theorem kc_eq {m : FM} {dd : List D} {vs : List AV} : kc m dd (vs, e) = if (msOf vs).Nodup then (slotsOf e (vs ++ dd.map AV.d)).bind (kc2 m (vs ++ dd.map AV.d) e) else none := rfl
theorem e_call_eq {m : FM} {dd : List D} {l : Er} : e_call m dd l env = (l env).bind (kc m dd) := rfl
def kso (as : List AV) (e : List Sl) (o : Ow) : Option (List Sl) := (slotsOf e as).bind fun ss => some (.arg o :: ss)
def ksl (s : Sl) (ss : List Sl) : Option (List Sl) := some (s :: ss)
theorem ksl_eq {s : Sl} {ss : List Sl} : ksl s ss = some (s :: ss) := rfl
theorem kso_eq {as : List AV} {o : Ow} : kso as e o = (slotsOf e as).bind (ksl (.arg o)) := rfl
theorem slotsOf_nil : slotsOf e [] = some [] := rfl
theorem slotsOf_d {as : List AV} : slotsOf e (.d x :: as) = (slotsOf e as).bind (ksl (.val x)) := rfl
theorem slotsOf_m {as : List AV} : slotsOf e (.m i :: as) = (owOf e[i]?).bind (kso as e) := rfl
theorem msOf_nil : msOf [] = [] := rfl
theorem msOf_d {as : List AV} : msOf (.d x :: as) = msOf as := rfl
theorem msOf_m {as : List AV} : msOf (.m i :: as) = i :: msOf as := rfl
theorem owOf_own {o : Ow} : owOf (some (.own o)) = some o := rfl
theorem owOf_arg {o : Ow} : owOf (some (.arg o)) = some o := rfl
theorem isO_own {o : Ow} : isO (some (.own o)) = true := rfl
theorem isO_arg {o : Ow} : isO (some (.arg o)) = true := rfl
theorem backs_nil {ss : List Sl} : backs [] ss e = e := by cases ss <;> rfl
theorem backs_d {as : List AV} {s : Sl} {ss : List Sl} : backs (.d x :: as) (s :: ss) e = backs as ss e := rfl
theorem backs_m {as : List AV} {o : Ow} {ss : List Sl} : backs (.m i :: as) (.arg o :: ss) e = backs as ss (putOw e i o) := rfl
def putK (e : List Sl) (i : Nat) (o : Ow) (s : Option Sl) : List Sl := match s with
  | some (.own _) => e.set i (.own o)
  | some (.arg _) => e.set i (.arg o)
  | some s => e.set i s
  | none => e
theorem putOw_eq {o : Ow} : putOw e i o = putK e i o e[i]? := by
  unfold putOw putK
  cases e[i]? with
  | none => rfl
  | some s => cases s <;> rfl
theorem putK_own {o o' : Ow} : putK e i o (some (.own o')) = e.set i (.own o) := rfl
theorem putK_arg {o o' : Ow} : putK e i o (some (.arg o')) = e.set i (.arg o) := rfl
/-! tests -/
def kbf' (d : D) (e : List Sl) : Option (Bool × List Sl) := match d with
  | .bl b => some (b, e)
  | _ => none
def kbf (p : D × List Sl) : Option (Bool × List Sl) := kbf' p.1 p.2
theorem bf_eq : bf f env = (vf f env).bind kbf := by
  unfold bf
  congr 1
theorem kbf_eq : kbf (.bl tr, e) = some (tr, e) := rfl
def kand (c : Et) (p : Bool × List Sl) : Option (Bool × List Sl) := if p.1 = true then c p.2 else some (false, p.2)
def kor (c : Et) (p : Bool × List Sl) : Option (Bool × List Sl) := if p.1 = true then some (true, p.2) else c p.2
def knot (p : Bool × List Sl) : Option (Bool × List Sl) := some (!p.1, p.2)
def ktv (p : Bool × List Sl) : Option (R × List Sl) := some (.val (.bl p.1), p.2)
theorem t_and_eq : t_and c c' env = (c env).bind (kand c') := rfl
theorem t_or_eq : t_or c c' env = (c env).bind (kor c') := rfl
theorem t_not_eq : t_not c env = (c env).bind knot := rfl
theorem kand_eq : kand c (tr, e) = if tr = true then c e else some (false, e) := rfl
theorem kor_eq : kor c (tr, e) = if tr = true then some (true, e) else c e := rfl
theorem knot_eq : knot (tr, e) = some (!tr, e) := rfl
theorem tv_eq : tv c env = (c env).bind ktv := rfl
theorem ktv_eq : ktv (tr, e) = some (.val (.bl tr), e) := rfl
def kif (f g : Ex) (p : Bool × List Sl) : Option (R × List Sl) := if p.1 = true then f p.2 else g p.2
theorem e_if_eq : e_if c f g env = (c env).bind (kif f g) := rfl
theorem kif_eq : kif f g (tr, e) = if tr = true then f e else g e := rfl
def ktru (p : D × List Sl) : Option (Bool × List Sl) := (p.1.tru).bind fun b => some (b, p.2)
def ktr (e : List Sl) (b : Bool) : Option (Bool × List Sl) := some (b, e)
theorem ktr_eq : ktr e tr = some (tr, e) := rfl
theorem t_tru_eq : t_tru f env = (vf f env).bind ktru := rfl
theorem ktru_eq : ktru (x, e) = x.tru.bind (ktr e) := rfl
theorem tru_non : D.tru .non = some false := rfl
theorem tru_bl : D.tru (.bl tr) = some tr := rfl
theorem tru_int {z : Int} : D.tru (.int z) = some (z != 0) := rfl
theorem tru_tup : D.tru (.tup ds) = some (!ds.isEmpty) := rfl
theorem tru_lst : D.tru (.lst ds) = some (!ds.isEmpty) := rfl
theorem t_yes_eq : t_yes env = some (true, env) := rfl
/-- a < b < c -/
def kch4 (e : List Sl) (z : R) : Option (R × List Sl) := match z with
  | .val (.bl b) => some (.val (.bl b), e)
  | _ => none
theorem kch4_eq : kch4 e (.val (.bl tr)) = some (.val (.bl tr), e) := rfl
def kch3 (o2 : D → D → Option R) (y : D) (u : D × List Sl) : Option (R × List Sl) := (o2 y u.1).bind (kch4 u.2)
theorem kch3_eq {o2 : D → D → Option R} : kch3 o2 x (y, e) = (o2 x y).bind (kch4 e) := rfl
def kch2 (o2 : D → D → Option R) (h : Ex) (y : D) (e : List Sl) (z : R) : Option (R × List Sl) := match z with
  | .val (.bl b) => if b = true then (vf h e).bind (kch3 o2 y) else some (.val (.bl false), e)
  | _ => none
theorem kch2_eq {o2 : D → D → Option R} : kch2 o2 h y e (.val (.bl tr)) = if tr = true then (vf h e).bind (kch3 o2 y) else some (.val (.bl false), e) := rfl
def kch1 (o1 o2 : D → D → Option R) (h : Ex) (x : D) (q : D × List Sl) : Option (R × List Sl) := (o1 x q.1).bind (kch2 o2 h q.1 q.2)
theorem kch1_eq {o1 o2 : D → D → Option R} : kch1 o1 o2 h x (y, e) = (o1 x y).bind (kch2 o2 h y e) := rfl
def kch0 (o1 o2 : D → D → Option R) (g h : Ex) (p : D × List Sl) : Option (R × List Sl) := (vf g p.2).bind (kch1 o1 o2 h p.1)
theorem kch0_eq {o1 o2 : D → D → Option R} : kch0 o1 o2 g h (x, e) = (vf g e).bind (kch1 o1 o2 h x) := rfl
theorem e_chain_eq {o1 o2 : D → D → Option R} : e_chain o1 o2 f g h env = (vf f env).bind (kch0 o1 o2 g h) := by
  unfold e_chain
  congr 1
  funext p
  unfold kch0
  congr 1
  funext q
  unfold kch1
  congr 1
  funext z
  unfold kch2
  cases z with
  | own o => rfl
  | val d =>
    cases d with
    | bl b =>
      cases b with
      | true =>
        simp only [if_true]
        congr 1
      | false => rfl
    | _ => rfl
/-! slices -/
theorem p_no_eq : p_no env = some (none, env) := rfl
def kpa' (d : D) (e : List Sl) : Option (Option Int × List Sl) := match d with
  | .int i => some (some i, e)
  | _ => none
def kpa (p : D × List Sl) : Option (Option Int × List Sl) := kpa' p.1 p.2
theorem p_at_eq : p_at f env = (vf f env).bind kpa := by
  unfold p_at
  congr 1
theorem kpa_eq {z : Int} : kpa (.int z, e) = some (some z, e) := rfl
def ksl3 (x : D) (lo : Option Int) (u : Option Int × List Sl) : Option (R × List Sl) := (o_sl x lo u.1).bind (kz u.2)
theorem ksl3_eq {lo hi : Option Int} : ksl3 x lo (hi, e) = (o_sl x lo hi).bind (kz e) := rfl
def ksl2 (u : Eo) (x : D) (q : Option Int × List Sl) : Option (R × List Sl) := (u q.2).bind (ksl3 x q.1)
theorem ksl2_eq {u : Eo} {lo : Option Int} : ksl2 u x (lo, e) = (u e).bind (ksl3 x lo) := rfl
def ksl1 (l u : Eo) (p : D × List Sl) : Option (R × List Sl) := (l p.2).bind (ksl2 u p.1)
theorem ksl1_eq {l u : Eo} : ksl1 l u (x, e) = (l e).bind (ksl2 u x) := rfl
theorem e_sl_eq {l u : Eo} : e_sl f l u env = (vf f env).bind (ksl1 l u) := rfl
theorem o_sl_lst {lo hi : Option Int} : o_sl (.lst ds) lo hi = some (.own (.lst (cutL ds lo hi))) := rfl
theorem o_sl_tup {lo hi : Option Int} : o_sl (.tup ds) lo hi = some (.val (.tup (cutL ds lo hi))) := rfl
def kso3' (s : Option Ow) (lo hi : Option Int) (e : List Sl) : Option (R × List Sl) := match s with
  | some o => (o_sl o.d lo hi).bind (klf e)
  | none => none
theorem kso3'_eq {o : Ow} {lo hi : Option Int} : kso3' (some o) lo hi e = (o_sl o.d lo hi).bind (klf e) := rfl
def kso3 (i : Nat) (lo : Option Int) (t : Option Int × List Sl) : Option (R × List Sl) := kso3' (owOf t.2[i]?) lo t.1 t.2
theorem kso3_eq {lo hi : Option Int} : kso3 i lo (hi, e) = kso3' (owOf e[i]?) lo hi e := rfl
def kso2 (u : Eo) (i : Nat) (q : Option Int × List Sl) : Option (R × List Sl) := (u q.2).bind (kso3 i q.1)
theorem kso2_eq {u : Eo} {lo : Option Int} : kso2 u i (lo, e) = (u e).bind (kso3 i lo) := rfl
theorem e_slo_eq {l u : Eo} : e_slo i l u env = has (owOf env[i]?) ((l env).bind (kso2 u i)) := by
  unfold e_slo has
  cases owOf env[i]? with
  | none => rfl
  | some o =>
    simp only
    congr 1
/-! statements -/
def ksq (b : Cm) (o : Out) : Option Out := match o with
  | .nx e => b e
  | o => some o
theorem c_seq_eq : c_seq a b env = (a env).bind (ksq b) := by
  unfold c_seq
  congr 1
theorem ksq_nx : ksq b (.nx e) = b e := rfl
theorem ksq_rt : ksq b (.rt r e) = some (.rt r e) := rfl
theorem ksq_bk : ksq b (.bk e) = some (.bk e) := rfl
theorem ksq_ct : ksq b (.ct e) = some (.ct e) := rfl
theorem c_nx_eq : c_nx env = some (.nx env) := rfl
theorem c_bk_eq : c_bk env = some (.bk env) := rfl
theorem c_ct_eq : c_ct env = some (.ct env) := rfl
theorem c_retN_eq : c_retN env = some (.rt (.val .non) env) := rfl
def krt (p : R × List Sl) : Option Out := some (.rt p.1 p.2)
theorem c_ret_eq : c_ret f env = (f env).bind krt := rfl
theorem krt_eq : krt (r, e) = some (.rt r e) := rfl
def kex (p : R × List Sl) : Option Out := some (.nx p.2)
theorem c_ex_eq : c_ex f env = (f env).bind kex := rfl
theorem kex_eq : kex (r, e) = some (.nx e) := rfl
def kci (a b : Cm) (p : Bool × List Sl) : Option Out := if p.1 = true then a p.2 else b p.2
theorem c_if_eq : c_if c a b env = (c env).bind (kci a b) := rfl
theorem kci_eq : kci a b (tr, e) = if tr = true then a e else b e := rfl
def knx (e : List Sl) : Option Out := some (.nx e)
theorem knx_eq : knx e = some (.nx e) := rfl
def kas (t : Tg) (p : R × List Sl) : Option Out := (t p.1 p.2).bind knx
theorem c_asg_eq {t : Tg} : c_asg t f env = (f env).bind (kas t) := rfl
theorem kas_eq {t : Tg} : kas t (r, e) = (t r e).bind knx := rfl
theorem g_n_eq : g_n i r env = if i < env.length ∧ Sl.isArg env[i]? = false then some (env.set i r.sl) else none := rfl
theorem gv_eq {t : Tg} : gv t r env = t (.val r.d) env := rfl
theorem Rd_val : R.d (.val d) = d := rfl
theorem Rd_own {o : Ow} : R.d (.own o) = o.d := rfl
theorem Owd_lst : Ow.d (.lst ds) = .lst ds := rfl
theorem Rsl_val : R.sl (.val d) = .val d := rfl
theorem Rsl_own {o : Ow} : R.sl (.own o) = .own o := rfl
theorem isArg_val : Sl.isArg (some (.val d)) = false := rfl
theorem isArg_own {o : Ow} : Sl.isArg (some (.own o)) = false := rfl
theorem isArg_nov : Sl.isArg (some .no) = false := rfl
def kgs (u : Tgs) (ds : List D) (e : List Sl) : Option (List Sl) := u ds e
theorem gs_nil_eq : gs_nil [] env = some env := rfl
theorem gs_cons_eq {t : Tg} {u : Tgs} : gs_cons t u (d :: ds) env = (t (.val d) env).bind (kgs u ds) := rfl
theorem kgs_eq {u : Tgs} : kgs u ds e = u ds e := rfl
theorem g_tup_eq {u : Tgs} : g_tup n u (.val (.tup ds)) env = if ds.length = n then u ds env else none := rfl
def kp3 (e : List Sl) : Option Out := some (.nx e)
def kp2 (j : Nat) (y : D) (e : List Sl) : Option Out := (g_n j (.val y) e).bind knx
theorem kp2_eq : kp2 j y e = (g_n j (.val y) e).bind knx := rfl
def kp' (i j : Nat) (l : List D) (e : List Sl) : Option Out := match l with
  | [a, b] => (g_n i (.val a) e).bind (kp2 j b)
  | _ => none
def kp (i j : Nat) (p : List D × List Sl) : Option Out := kp' i j p.1 p.2
theorem c_par_eq {l : Ea} : c_par i j l env = (l env).bind (kp i j) := by
  unfold c_par
  congr 1
theorem kp_eq : kp i j ([x, y], e) = (g_n i (.val x) e).bind (kp2 j y) := rfl
def kq3 (k : Nat) (z : D) (e : List Sl) : Option Out := (g_n k (.val z) e).bind knx
theorem kq3_eq : kq3 k x e = (g_n k (.val x) e).bind knx := rfl
def kq2 (j k : Nat) (y z : D) (e : List Sl) : Option Out := (g_n j (.val y) e).bind (kq3 k z)
theorem kq2_eq : kq2 j k x y e = (g_n j (.val x) e).bind (kq3 k y) := rfl
def kq' (i j k : Nat) (l : List D) (e : List Sl) : Option Out := match l with
  | [a, b, c] => (g_n i (.val a) e).bind (kq2 j k b c)
  | _ => none
def kq (i j k : Nat) (p : List D × List Sl) : Option Out := kq' i j k p.1 p.2
theorem c_par3_eq {l : Ea} : c_par3 i j k l env = (l env).bind (kq i j k) := by
  unfold c_par3
  congr 1
theorem kq_eq {z : D} : kq i j k ([x, y, z], e) = (g_n i (.val x) e).bind (kq2 j k y z) := rfl
/-! objects of one's own, changed -/
def kap' (s : Option Ow) (i : Nat) (x : D) (e : List Sl) : Option (R × List Sl) := match s with
  | some (.lst ds) => if ds.length < 100000 then some (.val .non, putOw e i (.lst (ds ++ [x]))) else none
  | _ => none
theorem kap'_eq : kap' (some (.lst ds)) i x e = if ds.length < 100000 then some (.val .non, putOw e i (.lst (ds ++ [x]))) else none := rfl
def kap (i : Nat) (p : D × List Sl) : Option (R × List Sl) := kap' (owOf p.2[i]?) i p.1 p.2
theorem kap_eq : kap i (x, e) = kap' (owOf e[i]?) i x e := rfl
def hasL {α : Type} (s : Option Ow) (z : Option α) : Option α := match s with
  | some (.lst _) => z
  | _ => none
theorem hasL_eq {α : Type} {z : Option α} : hasL (some (.lst ds)) z = z := rfl
theorem e_app_eq : e_app i f env = hasL (owOf env[i]?) ((vf f env).bind (kap i)) := by
  unfold e_app hasL
  cases owOf env[i]? with
  | none => rfl
  | some o =>
    cases o with
    | lst ds =>
      simp only
      congr 1
    | dct _ _ => rfl
theorem e_clr_eq : e_clr i env = hasL (owOf env[i]?) (some (.val .non, putOw env i (.lst []))) := by
  unfold e_clr hasL
  cases owOf env[i]? with
  | none => rfl
  | some o => cases o <;> rfl
def kix' (s : Option Ow) (i : Nat) (x y : D) (e : List Sl) : Option (List Sl) := match x, s with
  | .int k, some (.lst ds) => (ixN ds.length k).bind fun j => some (putOw e i (.lst (ds.set j y)))
  | _, _ => none
def kixs (i : Nat) (ds : List D) (y : D) (e : List Sl) (j : Nat) : Option (List Sl) := some (putOw e i (.lst (ds.set j y)))
theorem kixs_eq : kixs i ds y e j = some (putOw e i (.lst (ds.set j y))) := rfl
theorem kix'_eq {z : Int} : kix' (some (.lst ds)) i (.int z) y e = (ixN ds.length z).bind (kixs i ds y e) := rfl
def kix (i : Nat) (y : D) (p : D × List Sl) : Option (List Sl) := kix' (owOf p.2[i]?) i p.1 y p.2
theorem kix_eq : kix i y (x, e) = kix' (owOf e[i]?) i x y e := rfl
theorem g_ix_eq : g_ix i f (.val y) env = hasL (owOf env[i]?) ((vf f env).bind (kix i y)) := by
  unfold g_ix hasL
  cases owOf env[i]? with
  | none => rfl
  | some o =>
    cases o with
    | lst ds =>
      simp only
      congr 1
      funext p
      obtain ⟨d, e⟩ := p
      unfold kix kix'
      simp only
      cases d <;> cases ho : owOf e[i]? with
      | none => rfl
      | some o => cases o <;> rfl
    | dct _ _ => rfl
/-! loops -/
theorem c_for_eq {t : Tg} {s : Src} : c_for t s b env = (s env).bind fun p => forGo t b p.1 p.2 := rfl
def kfo (t : Tg) (b : Cm) (p : List D × List Sl) : Option Out := forGo t b p.1 p.2
theorem c_for_eq' {t : Tg} {s : Src} : c_for t s b env = (s env).bind (kfo t b) := rfl
theorem kfo_eq {t : Tg} : kfo t b (ds, e) = forGo t b ds e := rfl
def kss (p : D × List Sl) : Option (List D × List Sl) := match p.1 with
  | .lst ds => some (ds, p.2)
  | .tup ds => some (ds, p.2)
  | _ => none
theorem s_seq_eq : s_seq f env = (vf f env).bind kss := by
  unfold s_seq
  congr 1
theorem kss_lst : kss (.lst ds, e) = some (ds, e) := rfl
theorem kss_tup : kss (.tup ds, e) = some (ds, e) := rfl
open Classical in
noncomputable def ksr (p : List D × List Sl) : Option (List D × List Sl) := match p.1 with
  | [.int j] => if rngOK j then some (rngL 0 j.toNat, p.2) else none
  | _ => none
theorem s_rng_eq {l : Ea} : s_rng l env = (l env).bind ksr := by
  unfold s_rng
  congr 1
open Classical in
theorem ksr_ok {z : Int} : ksr ([.int z], e) = if rngOK z then some (rngL 0 z.toNat, e) else none := by
  unfold ksr
  simp only
open Classical in
noncomputable def ksr2 (p : List D × List Sl) : Option (List D × List Sl) := match p.1 with
  | [.int i, .int j] => if rngOK i ∧ rngOK j then some (rngL i (j - i).toNat, p.2) else none
  | _ => none
theorem s_rng2_eq {l : Ea} : s_rng2 l env = (l env).bind ksr2 := by
  unfold s_rng2
  congr 1
open Classical in
theorem ksr2_ok {z u : Int} : ksr2 ([.int z, .int u], e) = if rngOK z ∧ rngOK u then some (rngL z (u - z).toNat, e) else none := by
  unfold ksr2
  simp only
def kse (p : List D × List Sl) : Option (List D × List Sl) := match p.1 with
  | [.lst ds] => some (enumL 0 ds, p.2)
  | _ => none
theorem s_enum_eq {l : Ea} : s_enum l env = (l env).bind kse := by
  unfold s_enum
  congr 1
theorem kse_eq : kse ([.lst ds], e) = some (enumL 0 ds, e) := rfl
def ksz (p : List D × List Sl) : Option (List D × List Sl) := match p.1 with
  | [.lst as, .lst bs] => some (zipL as bs, p.2)
  | [.tup as, .tup bs] => some (zipL as bs, p.2)
  | _ => none
theorem s_zip_eq {l : Ea} : s_zip l env = (l env).bind ksz := by
  unfold s_zip
  congr 1
theorem ksz_lst : ksz ([.lst ds, .lst ds'], e) = some (zipL ds ds', e) := rfl
theorem ksz_tup : ksz ([.tup ds, .tup ds'], e) = some (zipL ds ds', e) := rfl
/-! defs -/
def kfn (args : List Sl) (o : Out) : Option (R × List Sl) := match o with
  | .rt r e => some (r, outArgs args e)
  | .nx e => some (.val .non, outArgs args e)
  | _ => none
theorem fnM_eq {args : List Sl} {cm : Cm} (h1 : args.length = k) (h2 : args.all okArg = true) : fnM n k cm args = (cm (args ++ List.replicate (n - k) .no)).bind (kfn args) := by
  unfold fnM
  rw [if_pos ⟨h1, h2⟩]
  congr 1
theorem Ok_fn {args : List Sl} {cm : Cm} {P : R × List Sl → Prop} (h1 : args.length = k) (h2 : args.all okArg = true) (h : Ok (cm (args ++ List.replicate (n - k) .no)) (Th (kfn args) P)) : Ok (fnM n k cm args) P := by
  rw [fnM_eq h1 h2]
  exact Ok_bind.mpr h
theorem kfn_rt {args : List Sl} : kfn args (.rt r e) = some (r, outArgs args e) := rfl
theorem kfn_nx {args : List Sl} : kfn args (.nx e) = some (.val .non, outArgs args e) := rfl
end
/-! ### operators at work -/
section
variable {P : R → Prop} {i j : Int} {x y : Str} {a b : Bool} {ds ds' : List D} {d : D}
theorem ok_fdiv : Ok (o_fdiv (.int i) (.int j)) P ↔ (j ≠ 0 ∧ j.natAbs.log2 < 9000) ∧ P (.val (.int (i.fdiv j))) := by
  unfold o_fdiv o_II; exact (@Ok_need _ _ _ (Classical.propDecidable _) _).trans (and_congr Iff.rfl Ok_some)
theorem ok_mod : Ok (o_mod (.int i) (.int j)) P ↔ j ≠ 0 ∧ P (.val (.int (i.fmod j))) := by
  unfold o_mod o_II; exact (@Ok_need _ _ _ (Classical.propDecidable _) _).trans (and_congr Iff.rfl Ok_some)
theorem ok_pow : Ok (o_pow (.int i) (.int j)) P ↔ CPow i j ∧ P (.val (.int (i ^ j.toNat))) := by
  unfold o_pow o_II; exact (@Ok_need _ _ _ (Classical.propDecidable _) _).trans (and_congr Iff.rfl Ok_some)
theorem ok_mul : Ok (o_mul (.int i) (.int j)) P ↔ IntMulOk i j ∧ P (.val (.int (i * j))) := by
  unfold o_mul; exact (@Ok_need _ _ _ (Classical.propDecidable _) _).trans (and_congr Iff.rfl Ok_some)
theorem add_int : o_add (.int i) (.int j) = some (.val (.int (i + j))) := rfl
theorem ok_add_str : Ok (o_add (.str x) (.str y)) P ↔ x.length + y.length ≤ 100000 ∧ P (.val (.str (x ++ y))) := by
  unfold o_add; exact Ok_need.trans (and_congr Iff.rfl Ok_some)
theorem ok_add_lst : Ok (o_add (.lst ds) (.lst ds')) P ↔ ds.length + ds'.length ≤ 100000 ∧ P (.own (.lst (ds ++ ds'))) := by
  unfold o_add; exact Ok_need.trans (and_congr Iff.rfl Ok_some)
theorem ok_add_tup : Ok (o_add (.tup ds) (.tup ds')) P ↔ ds.length + ds'.length ≤ 100000 ∧ P (.val (.tup (ds ++ ds'))) := by
  unfold o_add; exact Ok_need.trans (and_congr Iff.rfl Ok_some)
theorem sub_int : o_sub (.int i) (.int j) = some (.val (.int (i - j))) := rfl
theorem neg_int : o_neg (.int i) = some (.val (.int (-i))) := rfl
theorem lt_int : o_lt (.int i) (.int j) = some (.val (.bl (decide (i < j)))) := rfl
theorem le_int' : o_le (.int i) (.int j) = some (.val (.bl (decide (i ≤ j)))) := rfl
theorem gt_int : o_gt (.int i) (.int j) = some (.val (.bl (decide (j < i)))) := rfl
theorem ge_int : o_ge (.int i) (.int j) = some (.val (.bl (decide (j ≤ i)))) := rfl
theorem eqv_int : (D.int i).eqv (.int j) = decide (i = j) := by
  show PyData.eqv (.int i) (.int j) = _
  simp only [PyData.eqv]
  rfl
theorem eqv_bl : (D.bl a).eqv (.bl b) = decide (a = b) := by
  show PyData.eqv (.bool a) (.bool b) = _
  simp only [PyData.eqv]
  cases a <;> cases b <;> rfl
theorem eq_int' : o_eq (.int i) (.int j) = some (.val (.bl (decide (i = j)))) := by
  unfold o_eq; rw [if_pos ⟨rfl, rfl⟩, eqv_int]
theorem ne_int' : o_ne (.int i) (.int j) = some (.val (.bl (!decide (i = j)))) := by
  unfold o_ne; rw [if_pos ⟨rfl, rfl⟩, eqv_int]
theorem eq_bl' : o_eq (.bl a) (.bl b) = some (.val (.bl (decide (a = b)))) := by
  unfold o_eq; rw [if_pos ⟨rfl, rfl⟩, eqv_bl]
theorem ne_bl' : o_ne (.bl a) (.bl b) = some (.val (.bl (!decide (a = b)))) := by
  unfold o_ne; rw [if_pos ⟨rfl, rfl⟩, eqv_bl]
theorem is_non : o_is d .non = some (.val (.bl d.isNon)) := by cases d <;> rfl
theorem isnt_non : o_isnt d .non = some (.val (.bl (!d.isNon))) := by cases d <;> rfl
theorem is_bl : o_is (.bl a) (.bl b) = some (.val (.bl (decide (a = b)))) := rfl
theorem isNon_non : D.isNon .non = true := rfl
theorem isNon_tup : D.isNon (.tup ds) = false := rfl
theorem isNon_int : D.isNon (.int i) = false := rfl
theorem isNon_str : D.isNon (.str x) = false := rfl
theorem isNon_lst : D.isNon (.lst ds) = false := rfl
theorem isNon_bl : D.isNon (.bl a) = false := rfl
theorem f1_eq {op : D → Option R} : f1 op [d] = op d := rfl
theorem f2_eq {op : D → D → Option R} {d' : D} : f2 op [d, d'] = op d d' := rfl
theorem abs_int : o_abs (.int i) = some (.val (.int (if i < 0 then -i else i))) := rfl
theorem int_int : o_int (.int i) = some (.val (.int i)) := rfl
theorem int_bl : o_int (.bl a) = some (.val (.int (if a then 1 else 0))) := rfl
theorem max_int : o_max2 (.int i) (.int j) = some (.val (.int (if j > i then j else i))) := rfl
theorem min_int : o_min2 (.int i) (.int j) = some (.val (.int (if j < i then j else i))) := rfl
theorem len_lst : o_len (.lst ds) = some (.val (.int ds.length)) := rfl
theorem len_tup : o_len (.tup ds) = some (.val (.int ds.length)) := rfl
theorem ok_tup : Ok (o_tup ds) P ↔ ds.length ≤ 100000 ∧ P (.val (.tup ds)) := by
  unfold o_tup; exact Ok_need.trans (and_congr Iff.rfl Ok_some)
theorem ok_lst : Ok (o_lst ds) P ↔ ds.length ≤ 100000 ∧ P (.own (.lst ds)) := by
  unfold o_lst; exact Ok_need.trans (and_congr Iff.rfl Ok_some)
theorem list_lst : o_list (.lst ds) = some (.own (.lst ds)) := rfl
theorem list_tup : o_list (.tup ds) = some (.own (.lst ds)) := rfl
theorem tuple_lst : o_tuple (.lst ds) = some (.val (.tup ds)) := rfl
theorem tuple_tup : o_tuple (.tup ds) = some (.val (.tup ds)) := rfl
def kat (d : D) : Option R := some (.val d)
theorem kat_eq : kat d = some (.val d) := rfl
theorem ix_lst : o_ix (.lst ds) (.int i) = (atI ds i).bind kat := rfl
theorem ix_tup' : o_ix (.tup ds) (.int i) = (atI ds i).bind kat := rfl
/-- places -/
theorem atI_nat' {α : Type} {xs : List α} {j : Nat} : atI xs (j : Int) = xs[j]? := by
  unfold atI ixN
  rw [if_pos (by omega)]
  by_cases h : (j : Int) < (xs.length : Int)
  · rw [if_pos h]; simp
  · rw [if_neg h, List.getElem?_eq_none (by omega)]; rfl
theorem atI_ge {α : Type} {xs : List α} {i : Int} (h : 0 ≤ i) : atI xs i = xs[i.toNat]? := by
  obtain ⟨j, rfl⟩ := Int.eq_ofNat_of_zero_le h
  rw [atI_nat', Int.toNat_natCast]
theorem atI_0 {α : Type} {xs : List α} : atI xs 0 = xs[0]? := atI_nat' (j := 0)
theorem atI_1 {α : Type} {xs : List α} : atI xs 1 = xs[1]? := atI_nat' (j := 1)
theorem atI_2 {α : Type} {xs : List α} : atI xs 2 = xs[2]? := atI_nat' (j := 2)
theorem atI_3 {α : Type} {xs : List α} : atI xs 3 = xs[3]? := atI_nat' (j := 3)
theorem atI_4 {α : Type} {xs : List α} : atI xs 4 = xs[4]? := atI_nat' (j := 4)
theorem atI_5 {α : Type} {xs : List α} : atI xs 5 = xs[5]? := atI_nat' (j := 5)
theorem atI_6 {α : Type} {xs : List α} : atI xs 6 = xs[6]? := atI_nat' (j := 6)
theorem atI_7 {α : Type} {xs : List α} : atI xs 7 = xs[7]? := atI_nat' (j := 7)
theorem atI_8 {α : Type} {xs : List α} : atI xs 8 = xs[8]? := atI_nat' (j := 8)
theorem atI_9 {α : Type} {xs : List α} : atI xs 9 = xs[9]? := atI_nat' (j := 9)
theorem atI_neg {α : Type} {xs : List α} {k : Nat} (h0 : 0 < k) (h : k ≤ xs.length) : atI xs (-(k : Int)) = xs[xs.length - k]? := by
  unfold atI ixN
  rw [if_neg (by omega), if_pos (by omega)]
  have : (-(k : Int) + (xs.length : Int)).toNat = xs.length - k := by omega
  rw [this]
  rfl
theorem atI_m1 {α : Type} {xs : List α} : atI xs (-1) = xs.getLast? := by
  cases xs with
  | nil => rfl
  | cons x r =>
    have := atI_neg (xs := x :: r) (k := 1) (by omega) (by simp)
    rw [show (-1 : Int) = -((1 : Nat) : Int) from rfl, this, List.getLast?_eq_getElem?]
theorem isi_eq {T : String} {c : Bool} (h : kitB d.typ T = some c) (hn : d.isFn = false := by rfl) : o_isi T d = some (.val (.bl c)) := by
  unfold o_isi; rw [if_pos hn, h]; rfl
theorem Rlf_val : (R.val d).lf = d.lf := rfl
theorem lf_int : (D.int i).lf = true := rfl
theorem lf_bl : (D.bl a).lf = true := rfl
theorem lf_str : (D.str x).lf = true := rfl
theorem lf_non : D.non.lf = true := rfl
theorem lf_tup : (D.tup ds).lf = D.lfs ds := rfl
theorem lfs_nil : D.lfs [] = true := rfl
theorem lfs_cons : D.lfs (d :: ds) = (d.lf && D.lfs ds) := rfl
end
end Vz
set_option maxRecDepth 100000
set_option maxHeartbeats 1000000
set_option exponentiation.threshold 20000
/-! Vn: loops by what holds; sizes of ints. -/
namespace Vz
open PySem PySem.Spec PyProof.Rows L2
section
variable {t : Tg} {b : Cm} {c : Et} {ds : List D} {env e : List Sl} {P : Out → Prop} {r : R} {i n : Nat}
/-- behind a turn -/
def Turn (I : List Sl → Prop) (P : Out → Prop) : Out → Prop
  | .nx e => I e
  | .ct e => I e
  | .bk e => P (.nx e)
  | .rt r e => P (.rt r e)
variable {J : List Sl → Prop}
theorem Turn_nx : Turn J P (.nx e) ↔ J e := Iff.rfl
theorem Turn_ct : Turn J P (.ct e) ↔ J e := Iff.rfl
theorem Turn_bk : Turn J P (.bk e) ↔ P (.nx e) := Iff.rfl
theorem Turn_rt : Turn J P (.rt r e) ↔ P (.rt r e) := Iff.rfl
theorem forGo_ok (I : Nat → List Sl → Prop) (h0 : I 0 env) (hs : ∀ (i : Nat) (d : D) (e : List Sl), ds[i]? = some d → I i e → Ok (t (.val d) e) (Th b (Turn (I (i + 1)) P))) (he : ∀ e, I ds.length e → P (.nx e)) : Ok (forGo t b ds env) P := by
  induction ds generalizing env I with
  | nil => exact Ok_some.mpr (he env h0)
  | cons d ds ih =>
    obtain ⟨e1, h1, o, h2, h3⟩ := hs 0 d env rfl h0
    show Ok ((t (.val d) env).bind _) P
    rw [h1, Option.bind_some, h2, Option.bind_some]
    have go : ∀ e2, I 1 e2 → Ok (forGo t b ds e2) P := fun e2 k => ih (fun i e => I (i + 1) e) k (fun i d' e hd hi => hs (i + 1) d' e (by simpa using hd) hi) he
    cases o with
    | nx e2 => exact go e2 h3
    | ct e2 => exact go e2 h3
    | bk e2 => exact Ok_some.mpr h3
    | rt r e2 => exact Ok_some.mpr h3
theorem forRng_ok {lo : Int} (I : Nat → List Sl → Prop) (h0 : I 0 env) (hs : ∀ (i : Nat) (e : List Sl), i < n → I i e → Ok (t (.val (.int (lo + (i : Int)))) e) (Th b (Turn (I (i + 1)) P))) (he : ∀ e, I n e → P (.nx e)) : Ok (forGo t b (rngL lo n) env) P := by
  refine forGo_ok I h0 (fun i d e hd hi => ?_) (fun e h => he e (by rw [rngL_length] at h; exact h))
  obtain ⟨h1, rfl⟩ := rngL_get hd
  exact hs i e h1 hi
/-- behind a test of a while -/
def WTurn (b : Cm) (I : Nat → List Sl → Prop) (m : Nat) (P : Out → Prop) (p : Bool × List Sl) : Prop := if p.1 = true then Ok (b p.2) (Turn (fun e => ∃ k, k < m ∧ I k e) P) else P (.nx p.2)
theorem WTurn_eq {I : Nat → List Sl → Prop} {m : Nat} {x : Bool} : WTurn b I m P (x, e) ↔ if x = true then Ok (b e) (Turn (fun e => ∃ k, k < m ∧ I k e) P) else P (.nx e) := Iff.rfl
theorem whGo_ok (I : Nat → List Sl → Prop) (hs : ∀ m e, I m e → Ok (c e) (WTurn b I m P)) : ∀ (n m : Nat) (env : List Sl), m < n → I m env → Ok (whGo c b n env) P := by
  intro n
  induction n with
  | zero => intro m env h; omega
  | succ n ih =>
    intro m env hm hI
    obtain ⟨⟨x, e1⟩, h1, h2⟩ := hs m env hI
    show Ok ((c env).bind _) P
    rw [h1, Option.bind_some]
    cases x with
    | false => exact Ok_some.mpr h2
    | true =>
      obtain ⟨o, h3, h4⟩ : Ok (b e1) (Turn (fun e => ∃ k, k < m ∧ I k e) P) := h2
      simp only [if_true]
      rw [h3, Option.bind_some]
      cases o with
      | nx e2 => obtain ⟨k, k1, k2⟩ := h4; exact ih k e2 (by omega) k2
      | ct e2 => obtain ⟨k, k1, k2⟩ := h4; exact ih k e2 (by omega) k2
      | bk e2 => exact Ok_some.mpr h4
      | rt r e2 => exact Ok_some.mpr h4
theorem c_wh_eq {fu : List Sl → Nat} : c_wh fu c b env = whGo c b (fu env) env := rfl
end

theorem Ok_atI {α : Type} {xs : List α} {i : Int} {P : α → Prop} (h0 : 0 ≤ i) (h1 : i < xs.length) : Ok (atI xs i) P ↔ P (xs[i.toNat]'(by omega)) := by
  rw [atI_ge h0, List.getElem?_eq_getElem (by omega), Ok_some]
theorem ixN_ge {n : Nat} {i : Int} (h0 : 0 ≤ i) (h1 : i < n) : ixN n i = some i.toNat := by
  unfold ixN
  rw [if_pos h0, if_pos h1]
theorem isi_int_int {i : Int} : o_isi "int" (.int i) = some (.val (.bl true)) := isi_eq (show kitB "int" "int" = some true by decide +kernel)
theorem isi_int_bool {i : Int} : o_isi "bool" (.int i) = some (.val (.bl false)) := isi_eq (show kitB "int" "bool" = some false by decide +kernel)
theorem isi_bool_bool {b : Bool} : o_isi "bool" (.bl b) = some (.val (.bl true)) := isi_eq (show kitB "bool" "bool" = some true by decide +kernel)
theorem isi_tup_tuple {ds : List D} : o_isi "tuple" (.tup ds) = some (.val (.bl true)) := isi_eq (show kitB "tuple" "tuple" = some true by decide +kernel)
theorem isi_tup_list {ds : List D} : o_isi "list" (.tup ds) = some (.val (.bl false)) := isi_eq (show kitB "tuple" "list" = some false by decide +kernel)
theorem isi_lst_list {ds : List D} : o_isi "list" (.lst ds) = some (.val (.bl true)) := isi_eq (show kitB "list" "list" = some true by decide +kernel)
theorem isi_str_str {x : Str} : o_isi "str" (.str x) = some (.val (.bl true)) := isi_eq (show kitB "str" "str" = some true by decide +kernel)
theorem isi_bool_int {b : Bool} : o_isi "int" (.bl b) = some (.val (.bl true)) := isi_eq (show kitB "bool" "int" = some true by decide +kernel)
theorem isi_lst_tuple {ds : List D} : o_isi "tuple" (.lst ds) = some (.val (.bl false)) := isi_eq (show kitB "list" "tuple" = some false by decide +kernel)
theorem isi_int_str {i : Int} : o_isi "str" (.int i) = some (.val (.bl false)) := isi_eq (show kitB "int" "str" = some false by decide +kernel)
theorem isi_non_tuple  : o_isi "tuple" (.non) = some (.val (.bl false)) := isi_eq (show kitB "NoneType" "tuple" = some false by decide +kernel)
theorem isi_int_tuple {i : Int} : o_isi "tuple" (.int i) = some (.val (.bl false)) := isi_eq (show kitB "int" "tuple" = some false by decide +kernel)
theorem cutL_length {α : Type} {xs : List α} {lo hi : Option Int} : (cutL xs lo hi).length ≤ xs.length := by
  unfold cutL
  rw [List.length_take, List.length_drop]
  omega
theorem cutL_to {α : Type} {xs : List α} {b : Int} (hb : 0 ≤ b) : cutL xs none (some b) = xs.take b.toNat := by
  unfold cutL
  rw [HT.sIx_none, List.drop_zero, Nat.sub_zero]
  obtain ⟨k, rfl⟩ := Int.eq_ofNat_of_zero_le hb
  rw [HT.sIx_nat, Int.toNat_natCast]
  by_cases h : k ≤ xs.length
  · rw [Nat.min_eq_left h]
  · rw [Nat.min_eq_right (by omega), List.take_of_length_le (by omega), List.take_of_length_le (by omega)]
theorem cutL_from {α : Type} {xs : List α} {a : Int} (ha : 0 ≤ a) : cutL xs (some a) none = xs.drop a.toNat := by
  unfold cutL
  rw [HT.sIx_none]
  obtain ⟨k, rfl⟩ := Int.eq_ofNat_of_zero_le ha
  rw [HT.sIx_nat, Int.toNat_natCast]
  by_cases h : k ≤ xs.length
  · rw [Nat.min_eq_left h, List.take_of_length_le (by rw [List.length_drop]; omega)]
  · rw [Nat.min_eq_right (by omega), List.drop_of_length_le (by omega), List.drop_of_length_le (by omega)]
    simp
theorem cutL_mid {α : Type} {xs : List α} {a b : Int} (ha : 0 ≤ a) (hb : 0 ≤ b) : cutL xs (some a) (some b) = (xs.take b.toNat).drop a.toNat := by
  unfold cutL
  obtain ⟨k, rfl⟩ := Int.eq_ofNat_of_zero_le ha
  obtain ⟨m, rfl⟩ := Int.eq_ofNat_of_zero_le hb
  rw [HT.sIx_nat, HT.sIx_nat, Int.toNat_natCast, Int.toNat_natCast, List.drop_take]
  apply List.ext_getElem?
  intro i
  rw [List.getElem?_take, List.getElem?_take]
  by_cases h1 : k ≤ xs.length
  · rw [Nat.min_eq_left h1]
    by_cases h2 : m ≤ xs.length
    · rw [Nat.min_eq_left h2]
    · rw [Nat.min_eq_right (by omega)]
      rw [List.getElem?_drop]
      by_cases h3 : k + i < xs.length
      · rw [if_pos (by omega), if_pos (by omega)]
      · rw [List.getElem?_eq_none (by omega)]
        simp
  · rw [Nat.min_eq_right (show xs.length ≤ k by omega), List.drop_of_length_le (Nat.le_refl _), List.drop_of_length_le (show xs.length ≤ k by omega)]
    simp
theorem rounds {n m : Int} (h : 0 ≤ n) (hm : n ≤ m) : ∃ N : Nat, (if n > 1 then n else 1) = (N : Int) ∧ 1 ≤ N ∧ (N : Int) ≤ max m 1 := by
  refine ⟨(if n > 1 then n else 1).toNat, ?_, ?_, ?_⟩ <;> split <;> omega
/-! ### comprehensions -/
section
variable {vs : List Nat} {t : Tg} {c : Et} {f : Ex} {env e1 e2 e3 : List Sl} {ds acc : List D} {s : Src} {P : R × List Sl → Prop} {x : D} {v : Nat} {b : Bool} {o : Option D}
def nOw : Option Sl → Bool
  | some .no => true
  | some (.val _) => true
  | _ => false
theorem nOw_no : nOw (some .no) = true := rfl
theorem nOw_val : nOw (some (.val x)) = true := rfl
theorem noOw_nil : noOw env [] = true := rfl
theorem noOw_cons : noOw env (v :: vs) = (nOw env[v]? && noOw env vs) := by
  unfold noOw
  rw [List.all_cons]
  congr 1
theorem wipeE_nil : wipeE env [] = env := rfl
theorem wipeE_cons : wipeE env (v :: vs) = (wipeE env vs).set v .no := rfl
def klc (vs : List Nat) (t : Tg) (c : Et) (f : Ex) (p : List D × List Sl) : Option (R × List Sl) := if noOw p.2 vs = true then lcGo vs t c f p.1 p.2 [] else none
theorem klc_eq : klc vs t c f (ds, env) = if noOw env vs = true then lcGo vs t c f ds env [] else none := rfl
theorem e_lc_eq : e_lc vs t s c f env = (s env).bind (klc vs t c f) := rfl
/-- behind an element that leaves the slots as they were: o is the element, or none -/
def LcF (env : List Sl) (vs : List Nat) (o : Option D) (p : D × List Sl) : Prop := o = some p.1 ∧ p.2.length = env.length ∧ rest env p.2 vs = env
theorem LcF_eq : LcF env vs o (x, e3) ↔ o = some x ∧ e3.length = env.length ∧ rest env e3 vs = env := Iff.rfl
def LcC (f : Ex) (env : List Sl) (vs : List Nat) (o : Option D) (p : Bool × List Sl) : Prop := if p.1 = true then Ok (vf f p.2) (LcF env vs o) else o = none ∧ p.2.length = env.length ∧ rest env p.2 vs = env
theorem LcC_eq : LcC f env vs o (b, e2) ↔ if b = true then Ok (vf f e2) (LcF env vs o) else o = none ∧ e2.length = env.length ∧ rest env e2 vs = env := Iff.rfl
def LcT (c : Et) (f : Ex) (env : List Sl) (vs : List Nat) (o : Option D) (e1 : List Sl) : Prop := Ok (c e1) (LcC f env vs o)
theorem LcT_eq : LcT c f env vs o e1 ↔ Ok (c e1) (LcC f env vs o) := Iff.rfl
theorem lc_eq (F : D → Option D) : ∀ (ds acc : List D), (∀ d ∈ ds, Ok (t (.val d) (wipeE env vs)) (LcT c f env vs (F d))) → acc.length + ds.length ≤ 100000 → lcGo vs t c f ds env acc = some (.own (.lst (acc ++ ds.filterMap F)), env) := by
  intro ds
  induction ds with
  | nil => intro acc _ _; simp [lcGo]
  | cons d ds ih =>
    intro acc h hl
    obtain ⟨e1, h1, ⟨b, e2⟩, h2, h3⟩ := h d List.mem_cons_self
    have hl' : acc.length + (ds.length + 1) ≤ 100000 := hl
    show (t (.val d) (wipeE env vs)).bind _ = _
    rw [h1, Option.bind_some, h2, Option.bind_some]
    cases b with
    | true =>
      obtain ⟨⟨x, e3⟩, h4, h5, h6, h7⟩ : Ok (vf f e2) (LcF env vs (F d)) := h3
      simp only at h5 h6 h7
      simp only [if_true]
      rw [h4, Option.bind_some]
      simp only
      rw [if_pos ⟨h6, by omega⟩, h7, ih _ (fun d' hd => h d' (List.mem_cons_of_mem _ hd)) (by rw [List.length_append, List.length_singleton]; omega), List.filterMap_cons, h5]
      simp
    | false =>
      obtain ⟨h5, h6, h7⟩ : F d = none ∧ e2.length = env.length ∧ rest env e2 vs = env := h3
      simp only [Bool.false_eq_true, if_false]
      rw [if_pos h6, h7, ih _ (fun d' hd => h d' (List.mem_cons_of_mem _ hd)) (by omega), List.filterMap_cons, h5]
/-- .. all elements, none left out -/
theorem Ok_lcmap (F : D → D) (hl : ds.length ≤ 100000) (h : ∀ d ∈ ds, Ok (t (.val d) (wipeE env vs)) (LcT c f env vs (some (F d)))) (hp : P (.own (.lst (ds.map F)), env)) : Ok (lcGo vs t c f ds env []) P := by
  rw [lc_eq (fun d => some (F d)) ds [] h (by simpa using hl), Ok_some, List.nil_append]
  rw [List.filterMap_eq_map']
  exact hp
theorem Ok_lcfilter (F : D → Option D) (hl : ds.length ≤ 100000) (h : ∀ d ∈ ds, Ok (t (.val d) (wipeE env vs)) (LcT c f env vs (F d))) (hp : P (.own (.lst (ds.filterMap F)), env)) : Ok (lcGo vs t c f ds env []) P := by
  rw [lc_eq F ds [] h (by simpa using hl), Ok_some, List.nil_append]
  exact hp
/-- .. that changes slots: by what holds -/
def LiF (env : List Sl) (vs : List Nat) (acc : List D) (J : List Sl → List D → Prop) (p : D × List Sl) : Prop := (p.2.length = env.length ∧ acc.length < 100000) ∧ J (rest env p.2 vs) (acc ++ [p.1])
theorem LiF_eq {J : List Sl → List D → Prop} : LiF env vs acc J (x, e3) ↔ (e3.length = env.length ∧ acc.length < 100000) ∧ J (rest env e3 vs) (acc ++ [x]) := Iff.rfl
def LiC (f : Ex) (env : List Sl) (vs : List Nat) (acc : List D) (J : List Sl → List D → Prop) (p : Bool × List Sl) : Prop := if p.1 = true then Ok (vf f p.2) (LiF env vs acc J) else p.2.length = env.length ∧ J (rest env p.2 vs) acc
theorem LiC_eq {J : List Sl → List D → Prop} : LiC f env vs acc J (b, e2) ↔ if b = true then Ok (vf f e2) (LiF env vs acc J) else e2.length = env.length ∧ J (rest env e2 vs) acc := Iff.rfl
def LiT (c : Et) (f : Ex) (env : List Sl) (vs : List Nat) (acc : List D) (J : List Sl → List D → Prop) (e1 : List Sl) : Prop := Ok (c e1) (LiC f env vs acc J)
theorem LiT_eq {J : List Sl → List D → Prop} : LiT c f env vs acc J e1 ↔ Ok (c e1) (LiC f env vs acc J) := Iff.rfl
theorem lcGo_ok (I : Nat → List Sl → List D → Prop) : ∀ (ds : List D) (env : List Sl) (acc : List D), I 0 env acc → (∀ (i : Nat) (d : D) (e : List Sl) (a : List D), ds[i]? = some d → I i e a → Ok (t (.val d) (wipeE e vs)) (LiT c f e vs a (I (i + 1)))) →
    (∀ e a, I ds.length e a → P (.own (.lst a), e)) → Ok (lcGo vs t c f ds env acc) P := by
  intro ds
  induction ds generalizing I with
  | nil => intro env acc h0 _ he; exact Ok_some.mpr (he env acc h0)
  | cons d ds ih =>
    intro env acc h0 hs he
    obtain ⟨e1, h1, ⟨b, e2⟩, h2, h3⟩ := hs 0 d env acc rfl h0
    show Ok ((t (.val d) (wipeE env vs)).bind _) P
    rw [h1, Option.bind_some, h2, Option.bind_some]
    have go : ∀ e a, I 1 e a → Ok (lcGo vs t c f ds e a) P := fun e a k => ih (fun i e a => I (i + 1) e a) e a k (fun i d' e a hd hi => hs (i + 1) d' e a (by simpa using hd) hi) he
    cases b with
    | true =>
      obtain ⟨⟨x, e3⟩, h4, h5, h6⟩ : Ok (vf f e2) (LiF env vs acc (I 1)) := h3
      simp only [if_true]
      rw [h4, Option.bind_some]
      simp only
      rw [if_pos h5]
      exact go _ _ h6
    | false =>
      obtain ⟨h5, h6⟩ : e2.length = env.length ∧ I 1 (rest env e2 vs) acc := h3
      simp only [Bool.false_eq_true, if_false]
      rw [if_pos h5]
      exact go _ _ h6
end
/-! ### .. over written lists -/
section
variable {vs : List Nat} {t : Tg} {c : Et} {f : Ex} {env e1 e2 e3 old new : List Sl} {ds acc : List D} {x d : D} {b : Bool} {i : Nat} {so sn : Sl}
def restGo (vs : List Nat) : Nat → List Sl → List Sl → List Sl
  | i, o :: old, n :: new => (if i ∈ vs then o else n) :: restGo vs (i + 1) old new
  | _, _, [] => []
  | i, [], n :: new => (if i ∈ vs then .no else n) :: restGo vs (i + 1) [] new
theorem rest_go (vs : List Nat) : ∀ (new old : List Sl) (i : Nat), (new.mapIdx fun j s => if j + i ∈ vs then old.getD j .no else s) = restGo vs i old new
  | [], old, i => by cases old <;> rfl
  | n :: new, [], i => by
    have := rest_go vs new [] (i + 1)
    rw [List.mapIdx_cons]
    simp only [restGo, Nat.zero_add, List.getD_nil] at *
    rw [← this]
    congr 1
    apply List.mapIdx_eq_mapIdx_iff.mpr
    intro j hj
    rw [show j + 1 + i = j + (i + 1) by omega]
  | n :: new, o :: old, i => by
    have := rest_go vs new old (i + 1)
    rw [List.mapIdx_cons]
    simp only [restGo, Nat.zero_add, List.getD_cons_zero, List.getD_cons_succ]
    rw [← this]
    congr 1
    apply List.mapIdx_eq_mapIdx_iff.mpr
    intro j hj
    rw [show j + 1 + i = j + (i + 1) by omega]
theorem rest_eq : rest old new vs = restGo vs 0 old new := rest_go vs new old 0
theorem restGo_cons : restGo vs i (so :: old) (sn :: new) = (if i ∈ vs then so else sn) :: restGo vs (i + 1) old new := rfl
theorem restGo_nil : restGo vs i [] [] = [] := rfl
def kl3 (vs : List Nat) (t : Tg) (c : Et) (f : Ex) (ds : List D) (env : List Sl) (acc : List D) (q : D × List Sl) : Option (R × List Sl) := if q.2.length = env.length ∧ acc.length < 100000 then lcGo vs t c f ds (rest env q.2 vs) (acc ++ [q.1]) else none
def kl2 (vs : List Nat) (t : Tg) (c : Et) (f : Ex) (ds : List D) (env : List Sl) (acc : List D) (p : Bool × List Sl) : Option (R × List Sl) := if p.1 = true then (vf f p.2).bind (kl3 vs t c f ds env acc) else if p.2.length = env.length then lcGo vs t c f ds (rest env p.2 vs) acc else none
def kl1 (vs : List Nat) (t : Tg) (c : Et) (f : Ex) (ds : List D) (env : List Sl) (acc : List D) (e1 : List Sl) : Option (R × List Sl) := (c e1).bind (kl2 vs t c f ds env acc)
theorem lcGo_nil : lcGo vs t c f [] env acc = some (.own (.lst acc), env) := rfl
theorem lcGo_cons : lcGo vs t c f (d :: ds) env acc = (t (.val d) (wipeE env vs)).bind (kl1 vs t c f ds env acc) := rfl
theorem kl1_eq : kl1 vs t c f ds env acc e1 = (c e1).bind (kl2 vs t c f ds env acc) := rfl
theorem kl2_eq : kl2 vs t c f ds env acc (b, e2) = if b = true then (vf f e2).bind (kl3 vs t c f ds env acc) else if e2.length = env.length then lcGo vs t c f ds (rest env e2 vs) acc else none := rfl
theorem kl3_eq : kl3 vs t c f ds env acc (x, e3) = if e3.length = env.length ∧ acc.length < 100000 then lcGo vs t c f ds (rest env e3 vs) (acc ++ [x]) else none := rfl
variable {bd : Cm}
def kf2 (t : Tg) (b : Cm) (ds : List D) (o : Out) : Option Out := match o with
  | .nx e2 => forGo t b ds e2
  | .ct e2 => forGo t b ds e2
  | .bk e2 => some (.nx e2)
  | .rt r e2 => some (.rt r e2)
def kf1 (t : Tg) (b : Cm) (ds : List D) (e1 : List Sl) : Option Out := (b e1).bind (kf2 t b ds)
theorem forGo_nil : forGo t bd [] env = some (.nx env) := rfl
theorem forGo_cons : forGo t bd (d :: ds) env = (t (.val d) env).bind (kf1 t bd ds) := rfl
theorem kf1_eq : kf1 t bd ds e1 = (bd e1).bind (kf2 t bd ds) := rfl
theorem kf2_nx : kf2 t bd ds (.nx e1) = forGo t bd ds e1 := rfl
theorem kf2_ct : kf2 t bd ds (.ct e1) = forGo t bd ds e1 := rfl
theorem kf2_bk : kf2 t bd ds (.bk e1) = some (.nx e1) := rfl
theorem kf2_rt {r : R} : kf2 t bd ds (.rt r e1) = some (.rt r e1) := rfl
end
/-! ### == of data without truths -/
mutual
def D.pl : D → Bool
  | .non => true
  | .bl _ => false
  | .int _ => true
  | .str x => PyData.canLay0 (.str x)
  | .tup ds => D.pls ds
  | .lst ds => D.pls ds
  | .fn _ _ => false
  | .dct _ _ _ => false
def D.pls : List D → Bool
  | [] => true
  | d :: ds => D.pl d && D.pls ds
end
mutual
def D.dep : D → Nat
  | .tup ds => D.deps ds + 1
  | .lst ds => D.deps ds + 1
  | _ => 0
def D.deps : List D → Nat
  | [] => 0
  | d :: ds => max (D.dep d) (D.deps ds)
end
mutual
theorem pl_lay : ∀ d : D, d.pl = true → d.py.canLay0 = true
  | .non, _ => rfl
  | .bl _, h => by cases h
  | .int _, _ => rfl
  | .str x, h => h
  | .tup ds, h => by
    have := pls_lay ds h
    simpa [D.py, PyData.canLay0] using this
  | .lst ds, h => by
    have := pls_lay ds h
    simpa [D.py, PyData.canLay0] using this
  | .fn _ _, h => by cases h
  | .dct _ _ _, h => by cases h
theorem pls_lay : ∀ ds : List D, D.pls ds = true → PyData.canLayAll0 (D.pys ds) = true
  | [], _ => rfl
  | d :: ds, h => by
    have h' := Bool.and_eq_true_iff.mp (show (D.pl d && D.pls ds) = true from h)
    simp only [D.pys, PyData.canLayAll0, pl_lay d h'.1, pls_lay ds h'.2, Bool.and_self]
end
mutual
theorem dep_py : ∀ d : D, d.py.depth = d.dep
  | .non => rfl
  | .bl _ => rfl
  | .int _ => rfl
  | .str _ => rfl
  | .tup ds => by simp only [D.py, PyData.depth, D.dep, deps_py ds]
  | .lst ds => by simp only [D.py, PyData.depth, D.dep, deps_py ds]
  | .fn _ _ => rfl
  | .dct _ _ _ => rfl
theorem deps_py : ∀ ds : List D, PyData.depthAll (D.pys ds) = D.deps ds
  | [] => rfl
  | d :: ds => by simp only [D.pys, PyData.depthAll, D.deps, dep_py d, deps_py ds]
end
mutual
theorem pl_nf : ∀ d : D, d.pl = true → d.nf = true
  | .non, _ => rfl
  | .bl _, h => by cases h
  | .int _, _ => rfl
  | .str _, _ => rfl
  | .tup ds, h => pls_nf ds h
  | .lst ds, h => pls_nf ds h
  | .fn _ _, h => by cases h
  | .dct _ _ _, h => by cases h
theorem pls_nf : ∀ ds : List D, D.pls ds = true → D.nfs ds = true
  | [], _ => rfl
  | d :: ds, h => by
    have h' := Bool.and_eq_true_iff.mp (show (D.pl d && D.pls ds) = true from h)
    exact Bool.and_eq_true_iff.mpr ⟨pl_nf d h'.1, pls_nf ds h'.2⟩
end
theorem ok_pl {d : D} (h : d.pl = true) (hd : d.dep ≤ 64) : d.ok = true := by
  unfold D.ok SeqAt.shaped
  rw [pl_nf d h, pl_lay d h, dep_py]
  simp [hd]
mutual
theorem eqv_pl : ∀ a b : D, a.pl = true → b.pl = true → (a.eqv b = true ↔ a = b)
  | .non, b, _, h => by cases b <;> simp [D.eqv, D.py, PyData.eqv] <;> cases h
  | .bl _, _, h, _ => by cases h
  | .int i, b, _, h => by cases b <;> simp [D.eqv, D.py, PyData.eqv] <;> cases h
  | .str x, b, _, h => by cases b <;> simp [D.eqv, D.py, PyData.eqv] <;> cases h
  | .tup ds, b, h1, h2 => by
    cases b with
    | tup es =>
      have := eqvs_pl ds es h1 h2
      simpa [D.eqv, D.py, PyData.eqv] using this
    | fn _ _ => cases h2
    | dct _ _ => cases h2
    | _ => simp [D.eqv, D.py, PyData.eqv]
  | .lst ds, b, h1, h2 => by
    cases b with
    | lst es =>
      have := eqvs_pl ds es h1 h2
      simpa [D.eqv, D.py, PyData.eqv] using this
    | fn _ _ => cases h2
    | dct _ _ => cases h2
    | _ => simp [D.eqv, D.py, PyData.eqv]
  | .fn _ _, _, h, _ => by cases h
  | .dct _ _ _, _, h, _ => by cases h
theorem eqvs_pl : ∀ as bs : List D, D.pls as = true → D.pls bs = true → (PyData.eqvAll (D.pys as) (D.pys bs) = true ↔ as = bs)
  | [], [], _, _ => by simp [D.pys, PyData.eqvAll]
  | [], _ :: _, _, _ => by simp [D.pys, PyData.eqvAll]
  | _ :: _, [], _, _ => by simp [D.pys, PyData.eqvAll]
  | a :: as, b :: bs, h1, h2 => by
    have h1' := Bool.and_eq_true_iff.mp (show (D.pl a && D.pls as) = true from h1)
    have h2' := Bool.and_eq_true_iff.mp (show (D.pl b && D.pls bs) = true from h2)
    have x := eqv_pl a b h1'.1 h2'.1
    have y := eqvs_pl as bs h1'.2 h2'.2
    unfold D.eqv at x
    simp only [D.pys, PyData.eqvAll, Bool.and_eq_true, x, y, List.cons.injEq]
end
theorem eq_pl {a b : D} {p : Prop} [Decidable p] (ha : a.pl = true) (hb : b.pl = true) (da : a.dep ≤ 64) (db : b.dep ≤ 64) (h : a = b ↔ p) : o_eq a b = some (.val (.bl (decide p))) := by
  unfold o_eq
  rw [if_pos ⟨ok_pl ha da, ok_pl hb db⟩]
  have e : a.eqv b = decide p := by
    rw [Bool.eq_iff_iff, eqv_pl a b ha hb, decide_eq_true_iff]
    exact h
  rw [e]
theorem ne_pl {a b : D} {p : Prop} [Decidable p] (ha : a.pl = true) (hb : b.pl = true) (da : a.dep ≤ 64) (db : b.dep ≤ 64) (h : a = b ↔ p) : o_ne a b = some (.val (.bl (!decide p))) := by
  unfold o_ne
  rw [if_pos ⟨ok_pl ha da, ok_pl hb db⟩]
  have e : a.eqv b = decide p := by
    rw [Bool.eq_iff_iff, eqv_pl a b ha hb, decide_eq_true_iff]
    exact h
  rw [e]
/-! ### texts by their codes -/
def codes (x : Str) : List Nat := x.cps.toList
theorem codes_inj {x y : Str} (h : codes x = codes y) : x = y := by
  obtain ⟨a⟩ := x
  obtain ⟨b⟩ := y
  exact congrArg Str.mk (Array.toList_inj.mp h)
theorem codes_append (x y : Str) : codes (x ++ y) = codes x ++ codes y := by
  show (x.cps ++ y.cps).toList = _
  rw [Array.toList_append]
  rfl
theorem codes_len (x : Str) : x.length = (codes x).length := by
  unfold codes
  rw [Array.length_toList]
  rfl
theorem codes_lit (s : String) : codes (Str.ofString s) = s.toList.map Char.toNat := by
  rw [Str.ofString_eq_toList]
  unfold codes
  simp
/-- a text of codes -/
def dstr (l : List Nat) : Str := ⟨l.toArray⟩
theorem codes_dstr (l : List Nat) : codes (dstr l) = l := by unfold codes dstr; simp
theorem dstr_app (l m : List Nat) : dstr l ++ dstr m = dstr (l ++ m) := codes_inj (by rw [codes_append, codes_dstr, codes_dstr, codes_dstr])
theorem dstr_of {x : Str} {l : List Nat} (h : codes x = l) : x = dstr l := codes_inj (by rw [codes_dstr]; exact h)
def okc (l : List Nat) : Bool := l.all (· < 0x110000)
theorem str_pl {x : Str} (h : okc (codes x) = true) : (D.str x).pl = true := by
  show PyData.canLay0 (.str x) = true
  simp only [PyData.canLay0]
  unfold PyData.strOk
  rw [← Array.all_toList]
  exact h
theorem str_dep {x : Str} : (D.str x).dep ≤ 64 := Nat.zero_le 64
theorem ok_ix_str {x : Str} {i : Int} {P : R → Prop} : Ok (o_ix (.str x) (.int i)) P ↔ x.length ≤ 100000 ∧ Ok (atI (codes x) i) fun c => P (.val (.str ⟨#[c]⟩)) := by
  unfold o_ix
  simp only
  rw [Ok_need, Ok_bind]
  refine and_congr Iff.rfl ?_
  unfold Th
  simp only [Ok_some]
  rfl
theorem ok_mul_str {x : Str} {k : Int} {P : R → Prop} : Ok (o_mul (.str x) (.int k)) P ↔ (x.length * k.toNat ≤ 100000 ∧ -1000000 ≤ k ∧ k ≤ 1000000) ∧ P (.val (.str (Txt.mul x k))) := by
  unfold o_mul
  simp only
  exact Ok_need.trans (and_congr Iff.rfl Ok_some)
theorem ok_str_int {i : Int} {P : R → Prop} : Ok (o_str (.int i)) P ↔ i.natAbs.log2 < 1920 ∧ P (.val (.str (Str.ofString (toString i)))) := by
  unfold o_str
  exact Ok_need.trans (and_congr Iff.rfl Ok_some)
theorem rngL2 : rngL 0 2 = [.int 0, .int 1] := rfl
theorem rngL3 : rngL 0 3 = [.int 0, .int 1, .int 2] := rfl
/-! ### sizes -/
def Bd (n : Nat) (a : Int) : Prop := a.natAbs < 2 ^ n
section
variable {a b : Int} {n m k : Nat}
theorem Bd.le (h : Bd n a) (hn : n ≤ m) : Bd m a := Nat.lt_of_lt_of_le h (Nat.pow_le_pow_right (by omega) hn)
theorem Bd.mul (h1 : Bd n a) (h2 : Bd m b) : Bd (n + m) (a * b) := by
  unfold Bd at *
  rw [Int.natAbs_mul, Nat.pow_add]
  exact Nat.mul_lt_mul'' h1 h2
theorem Bd.add (h1 : Bd n a) (h2 : Bd m b) : Bd (max n m + 1) (a + b) := by
  have h3 := h1.le (Nat.le_max_left n m)
  have h4 := h2.le (Nat.le_max_right n m)
  unfold Bd at *
  have := Int.natAbs_add_le a b
  rw [Nat.pow_succ]
  omega
theorem Bd.neg (h : Bd n a) : Bd n (-a) := by unfold Bd at *; rwa [Int.natAbs_neg]
theorem Bd.sub (h1 : Bd n a) (h2 : Bd m b) : Bd (max n m + 1) (a - b) := by rw [Int.sub_eq_add_neg]; exact h1.add h2.neg
theorem Bd.self : Bd (a.natAbs.log2 + 1) a := Nat.lt_log2_self
theorem Bd.ite {c : Prop} [Decidable c] (h1 : Bd n a) (h2 : Bd m b) : Bd (max n m) (if c then a else b) := by
  split
  · exact h1.le (Nat.le_max_left n m)
  · exact h2.le (Nat.le_max_right n m)
theorem Bd.of_le (h : Bd n a) (hb : b.natAbs ≤ a.natAbs) : Bd n b := Nat.lt_of_le_of_lt hb h
theorem natAbs_fdiv_le (a b : Int) : (a.fdiv b).natAbs ≤ a.natAbs := by
  cases a with
  | ofNat a =>
    cases b with
    | ofNat b =>
      show ((a : Int).fdiv (b : Int)).natAbs ≤ a
      rw [Int.fdiv_eq_ediv_of_nonneg _ (Int.natCast_nonneg b)]
      exact Nat.div_le_self a b
    | negSucc b =>
      cases a with
      | zero => simp
      | succ a =>
        show (Int.negSucc (a / b.succ)).natAbs ≤ _
        rw [Int.natAbs_negSucc]
        show a / b.succ + 1 ≤ a + 1
        have := Nat.div_le_self a b.succ
        omega
  | negSucc a =>
    cases b with
    | ofNat b =>
      cases b with
      | zero => simp
      | succ b =>
        show (Int.negSucc (a / b.succ)).natAbs ≤ _
        rw [Int.natAbs_negSucc, Int.natAbs_negSucc]
        have := Nat.div_le_self a b.succ
        omega
    | negSucc b =>
      show (Int.ofNat (a.succ / b.succ)).natAbs ≤ _
      exact Nat.div_le_self _ _
theorem Bd.fdiv (h : Bd n a) : Bd n (a.fdiv b) := h.of_le (natAbs_fdiv_le a b)
theorem Bd.ediv (h : Bd n a) : Bd n (a / b) := h.of_le (Int.natAbs_ediv_le_natAbs a b)
theorem Bd.fmod (h : Bd n b) (hb : 0 < b) : Bd n (a.fmod b) := by
  refine h.of_le ?_
  have h1 := Int.fmod_nonneg_of_pos a hb
  have h2 := Int.fmod_lt_of_pos a hb
  omega
theorem Bd.emod (h : Bd n b) (hb : 0 < b) : Bd n (a % b) := by
  refine h.of_le ?_
  have h1 := Int.emod_nonneg a (show b ≠ 0 by omega)
  have h2 := Int.emod_lt_of_pos a hb
  omega
theorem Bd.mulOk (h1 : Bd n a) (h2 : Bd m b) (h : n + m ≤ 134217728) : IntMulOk a b := (mulx_ok h1 h2 h).ok
theorem Bd.divOk (h1 : Bd n a) (h0 : a ≠ 0) (h : n ≤ 9000) : a ≠ 0 ∧ a.natAbs.log2 < 9000 :=
  ⟨h0, (Nat.log2_lt (by omega)).mpr (Nat.lt_of_lt_of_le h1 (Nat.pow_le_pow_right (by omega) h))⟩
theorem mulOk_right (h : Bd 64 b) : IntMulOk a b := .of_right (intBits_le h)
theorem mulOk_left (h : Bd 64 a) : IntMulOk a b := .of_left (intBits_le h)
theorem Bd.abs (h : Bd n a) : Bd n (if a < 0 then -a else a) := h.of_le (by split <;> omega)
theorem Bd.lt_of (h : a.natAbs < k) (hk : k ≤ 2 ^ n) : Bd n a := Nat.lt_of_lt_of_le h hk
end
end Vz
set_option maxRecDepth 100000
set_option maxHeartbeats 1000000
namespace Vz
open PySem PySem.Spec PyProof.Rows L2
section
variable {env : List Sl} {f : Ex} {ds : List D}
theorem rev_t_tup : o_rev "tuple" (.tup ds) = some (.val (.tup ds.reverse)) := rfl
theorem rev_t_lst : o_rev "tuple" (.lst ds) = some (.val (.tup ds.reverse)) := rfl
theorem rev_l_tup : o_rev "list" (.tup ds) = some (.own (.lst ds.reverse)) := rfl
theorem rev_l_lst : o_rev "list" (.lst ds) = some (.own (.lst ds.reverse)) := rfl
def ksrev : D × List Sl → Option (List D × List Sl) := fun p => match p.1 with
  | .lst ds => some (ds.reverse, p.2)
  | .tup ds => some (ds.reverse, p.2)
  | _ => none
theorem s_rev_eq : s_rev f env = (vf f env).bind ksrev := rfl
theorem ksrev_lst : ksrev (.lst ds, env) = some (ds.reverse, env) := rfl
theorem ksrev_tup : ksrev (.tup ds, env) = some (ds.reverse, env) := rfl
theorem in_pls {a : D} : ∀ {ds : List D}, D.pls ds = true → a.pl = true → ((ds.any fun z => z.eqv a) = true ↔ a ∈ ds)
  | [], _, _ => by simp
  | d :: ds, h, ha => by
    have h' := Bool.and_eq_true_iff.mp (show (d.pl && D.pls ds) = true from h)
    rw [List.any_cons, Bool.or_eq_true, in_pls h'.2 ha, eqv_pl _ _ h'.1 ha, List.mem_cons]
    exact or_congr_left eq_comm
theorem in_pl {a b : D} {ds : List D} {p : Prop} [Decidable p] (hb : b.its = some ds) (ha : a.pl = true) (hd : D.pls ds = true) (da : a.dep ≤ 64) (db : D.deps ds < 64) (h : a ∈ ds ↔ p) : o_inX false a b = some (.val (.bl (decide p))) := by
  unfold o_inX
  rw [hb]
  have h1 : a.ok = true := ok_pl ha da
  have h2 : (D.lst ds).ok = true := ok_pl (d := .lst ds) hd (by show D.deps ds + 1 ≤ 64; omega)
  have h3 : (ds.any fun z => z.eqv a) = decide p := by rw [Bool.eq_iff_iff, decide_eq_true_iff, ← h]; exact in_pls hd ha
  simp only [h1, h2, h3, and_self, if_true, Bool.false_eq_true, if_false]
theorem notin_pl {a b : D} {ds : List D} {p : Prop} [Decidable p] (hb : b.its = some ds) (ha : a.pl = true) (hd : D.pls ds = true) (da : a.dep ≤ 64) (db : D.deps ds < 64) (h : a ∈ ds ↔ p) : o_inX true a b = some (.val (.bl (!decide p))) := by
  unfold o_inX
  rw [hb]
  have h1 : a.ok = true := ok_pl ha da
  have h2 : (D.lst ds).ok = true := ok_pl (d := .lst ds) hd (by show D.deps ds + 1 ≤ 64; omega)
  have h3 : (ds.any fun z => z.eqv a) = decide p := by rw [Bool.eq_iff_iff, decide_eq_true_iff, ← h]; exact in_pls hd ha
  simp only [h1, h2, h3, and_self, if_true]
theorem pls_map {α : Type} {f : α → D} : ∀ {xs : List α}, (∀ x ∈ xs, (f x).pl = true) → D.pls (xs.map f) = true
  | [], _ => rfl
  | x :: xs, h => Bool.and_eq_true_iff.mpr ⟨h x (List.mem_cons_self ..), pls_map fun y hy => h y (List.mem_cons_of_mem _ hy)⟩
theorem deps_map {α : Type} {f : α → D} {n : Nat} : ∀ {xs : List α}, (∀ x ∈ xs, (f x).dep ≤ n) → D.deps (xs.map f) ≤ n
  | [], _ => Nat.zero_le _
  | x :: xs, h => Nat.max_le.mpr ⟨h x (List.mem_cons_self ..), deps_map fun y hy => h y (List.mem_cons_of_mem _ hy)⟩
theorem its_lst : (D.lst ds).its = some ds := rfl
theorem its_tup : (D.tup ds).its = some ds := rfl
theorem rngOK_of {z : Int} (h : z.natAbs ≤ 1000000) : rngOK z := ⟨by omega, by omega⟩
theorem rngOK_nat {n : Nat} (h : n ≤ 1000000) : rngOK (n : Int) := rngOK_of (by omega)
theorem rngOK_0 : rngOK 0 = True := eq_true (rngOK_of (by decide))
theorem rngOK_1 : rngOK 1 = True := eq_true (rngOK_of (by decide))
theorem rngOK_2 : rngOK 2 = True := eq_true (rngOK_of (by decide))
theorem rngOK_3 : rngOK 3 = True := eq_true (rngOK_of (by decide))
theorem rngOK_4 : rngOK 4 = True := eq_true (rngOK_of (by decide))
theorem rngOK_5 : rngOK 5 = True := eq_true (rngOK_of (by decide))
theorem rngOK_6 : rngOK 6 = True := eq_true (rngOK_of (by decide))
theorem rngOK_7 : rngOK 7 = True := eq_true (rngOK_of (by decide))
theorem rngOK_8 : rngOK 8 = True := eq_true (rngOK_of (by decide))
theorem rngOK_9 : rngOK 9 = True := eq_true (rngOK_of (by decide))
theorem rngOK_10 : rngOK 10 = True := eq_true (rngOK_of (by decide))
theorem rngOK_11 : rngOK 11 = True := eq_true (rngOK_of (by decide))
theorem rngOK_12 : rngOK 12 = True := eq_true (rngOK_of (by decide))
theorem rngOK_13 : rngOK 13 = True := eq_true (rngOK_of (by decide))
theorem rngOK_14 : rngOK 14 = True := eq_true (rngOK_of (by decide))
theorem rngOK_15 : rngOK 15 = True := eq_true (rngOK_of (by decide))
theorem rngOK_16 : rngOK 16 = True := eq_true (rngOK_of (by decide))
theorem rngOK_17 : rngOK 17 = True := eq_true (rngOK_of (by decide))
theorem rngOK_18 : rngOK 18 = True := eq_true (rngOK_of (by decide))
theorem rngOK_19 : rngOK 19 = True := eq_true (rngOK_of (by decide))
theorem rngOK_20 : rngOK 20 = True := eq_true (rngOK_of (by decide))
theorem rngOK_21 : rngOK 21 = True := eq_true (rngOK_of (by decide))
theorem rngOK_22 : rngOK 22 = True := eq_true (rngOK_of (by decide))
theorem rngOK_23 : rngOK 23 = True := eq_true (rngOK_of (by decide))
theorem rngOK_24 : rngOK 24 = True := eq_true (rngOK_of (by decide))
theorem rngOK_25 : rngOK 25 = True := eq_true (rngOK_of (by decide))
theorem rngOK_26 : rngOK 26 = True := eq_true (rngOK_of (by decide))
theorem rngOK_27 : rngOK 27 = True := eq_true (rngOK_of (by decide))
theorem rngOK_28 : rngOK 28 = True := eq_true (rngOK_of (by decide))
theorem rngOK_29 : rngOK 29 = True := eq_true (rngOK_of (by decide))
theorem rngOK_30 : rngOK 30 = True := eq_true (rngOK_of (by decide))
theorem rngOK_31 : rngOK 31 = True := eq_true (rngOK_of (by decide))
theorem rngOK_32 : rngOK 32 = True := eq_true (rngOK_of (by decide))
theorem rngOK_33 : rngOK 33 = True := eq_true (rngOK_of (by decide))
theorem rngOK_34 : rngOK 34 = True := eq_true (rngOK_of (by decide))
theorem rngOK_35 : rngOK 35 = True := eq_true (rngOK_of (by decide))
theorem rngOK_36 : rngOK 36 = True := eq_true (rngOK_of (by decide))
theorem rngOK_37 : rngOK 37 = True := eq_true (rngOK_of (by decide))
theorem rngOK_38 : rngOK 38 = True := eq_true (rngOK_of (by decide))
theorem rngOK_39 : rngOK 39 = True := eq_true (rngOK_of (by decide))
theorem rngOK_40 : rngOK 40 = True := eq_true (rngOK_of (by decide))
theorem rngOK_63 : rngOK 63 = True := eq_true (rngOK_of (by decide))
/-! order -/
theorem dlt_int {i j : Int} : PySem.W.dataLt (.int i) (.int j) = decide (i < j) := by
  have h := congrFun (congrFun (PySem.W.dataLe_int (β := Int) id) j) i
  have h2 : (!PySem.W.dataLt (.int i) (.int j)) = decide (j ≤ i) := h
  by_cases hij : i < j
  · rw [decide_eq_true hij]
    rw [decide_eq_false (by omega)] at h2
    simpa using h2
  · rw [decide_eq_false hij]
    rw [decide_eq_true (by omega)] at h2
    simpa using h2
theorem ltX_int {i j : Int} : o_ltX (.int i) (.int j) = some (.val (.bl (decide (i < j)))) := by
  show (if true = true then some (R.val (.bl (PySem.W.dataLt (.int i) (.int j)))) else none) = _
  rw [dlt_int]
  rfl
theorem gtX_int {i j : Int} : o_gtX (.int i) (.int j) = some (.val (.bl (decide (j < i)))) := by
  show (if true = true then some (R.val (.bl (PySem.W.dataLt (.int j) (.int i)))) else none) = _
  rw [dlt_int]
  rfl
theorem leX_int {i j : Int} : o_leX (.int i) (.int j) = some (.val (.bl (decide (i ≤ j)))) := by
  show (if true = true then some (R.val (.bl (!PySem.W.dataLt (.int j) (.int i)))) else none) = _
  rw [dlt_int, if_pos rfl, ← decide_not]
  simp only [Int.not_lt]
theorem geX_int {i j : Int} : o_geX (.int i) (.int j) = some (.val (.bl (decide (j ≤ i)))) := by
  show (if true = true then some (R.val (.bl (!PySem.W.dataLt (.int i) (.int j)))) else none) = _
  rw [dlt_int, if_pos rfl, ← decide_not]
  simp only [Int.not_lt]
theorem maxX_int {i j : Int} : o_maxX (.int i) (.int j) = some (.val (.int (if j > i then j else i))) := by
  show (if true = true then some (R.val (if PySem.W.dataLt (.int i) (.int j) = true then D.int j else D.int i)) else none) = _
  rw [dlt_int, if_pos rfl]
  by_cases h : i < j
  · rw [decide_eq_true h, if_pos rfl, if_pos (by omega)]
  · rw [decide_eq_false h, if_neg Bool.false_ne_true, if_neg (by omega)]
theorem minX_int {i j : Int} : o_minX (.int i) (.int j) = some (.val (.int (if j < i then j else i))) := by
  show (if true = true then some (R.val (if PySem.W.dataLt (.int j) (.int i) = true then D.int j else D.int i)) else none) = _
  rw [dlt_int, if_pos rfl]
  by_cases h : j < i
  · rw [decide_eq_true h, if_pos rfl, if_pos (by omega)]
  · rw [decide_eq_false h, if_neg Bool.false_ne_true, if_neg (by omega)]
theorem g_lst_eq {n : Nat} {u : Tgs} {env : List Sl} {ds : List D} : g_lst n u (.val (.lst ds)) env = if ds.length = n then u ds env else none := rfl
def kcv (tab : Nat → Option FM) (s : Option Sl) (l : Er) (env : List Sl) : Option (R × List Sl) := match s with
  | some (.val (.fn k [])) => (tab k).bind fun m => e_call m [] l env
  | _ => none
theorem e_callv_eq {tab : Nat → Option FM} {i : Nat} {l : Er} {env : List Sl} : e_callv tab i l env = kcv tab env[i]? l env := rfl
theorem kcv_eq {tab : Nat → Option FM} {k : Nat} {l : Er} {env : List Sl} {m : FM} (h : tab k = some m) : kcv tab (some (.val (.fn k []))) l env = e_call m [] l env := by
  show (tab k).bind _ = _
  rw [h]
  rfl
end
section
variable {e : List Sl} {l : Ea}
open Classical in
noncomputable def ksr3 (p : List D × List Sl) : Option (List D × List Sl) := match p.1 with
  | [.int i, .int j, .int c] => if rngOK3 i j c then some (rngC i c (rngN i j c), p.2) else none
  | _ => none
theorem s_rng3_eq : s_rng3 l e = (l e).bind ksr3 := by
  unfold s_rng3
  congr 1
theorem ksr3_ok {i j c : Int} {n : Nat} (h : RgC i j c n) : ksr3 ([.int i, .int j, .int c], e) = some (rngC i c n, e) := by
  have hn : rngN i j c = n := by unfold rngN; rw [h.2.2.2]; rfl
  unfold ksr3
  simp only
  rw [hn, if_pos ⟨by rw [hn]; exact h⟩]
end
/-! dicts -/
section
variable {e env : List Sl} {f g h : Ex} {ks : List Key} {ds : List D} {x : Str} {z : Int} {d : D} {lk : Bool}
theorem Owd_dct : Ow.d (.dct ks ds) = .dct false ks ds := rfl
theorem e_d0_eq : e_d0 env = some (.own (.dct [] []), env) := rfl
theorem e_dcs_eq {ps : List (Str × Str)} : e_dcs ps env = some (.own (.dct (ps.map fun p => .inr p.1) (ps.map fun p => .str p.2)), env) := rfl
def kdi (d : D) : Option R := some (.val d)
theorem kdi_eq : kdi d = some (.val d) := rfl
theorem dix_str : o_dix (.dct lk ks ds) (.str x) = (getA (.inr x) ks ds).bind kdi := rfl
theorem dix_int : o_dix (.dct lk ks ds) (.int z) = (getA (.inl z) ks ds).bind kdi := rfl
theorem din_str {b : Bool} : o_din b (.str x) (.dct lk ks ds) = some (.val (.bl (if b then !decide ((.inr x : Key) ∈ ks) else decide ((.inr x : Key) ∈ ks)))) := rfl
theorem din_int {b : Bool} : o_din b (.int z) (.dct lk ks ds) = some (.val (.bl (if b then !decide ((.inl z : Key) ∈ ks) else decide ((.inl z : Key) ∈ ks)))) := rfl
theorem dict_eq : o_dict (.dct lk ks ds) = some (.own (.dct ks ds)) := rfl
def kdg3 (ks : List Key) (ds : List D) (y : D) (u : D × List Sl) : Option (R × List Sl) := (keyD y).bind fun k => some (.val ((getA k ks ds).getD u.1), u.2)
theorem kdg3_str : kdg3 ks ds (.str x) (d, e) = some (.val ((getA (.inr x) ks ds).getD d), e) := rfl
theorem kdg3_int : kdg3 ks ds (.int z) (d, e) = some (.val ((getA (.inl z) ks ds).getD d), e) := rfl
def kdg2 (h : Ex) (ks : List Key) (ds : List D) (q : D × List Sl) : Option (R × List Sl) := (vf h q.2).bind (kdg3 ks ds q.1)
theorem kdg2_eq : kdg2 h ks ds (d, e) = (vf h e).bind (kdg3 ks ds d) := rfl
def kdg1' (g h : Ex) (d : D) (e : List Sl) : Option (R × List Sl) := match d with
  | .dct _ ks ds => (vf g e).bind (kdg2 h ks ds)
  | _ => none
def kdg1 (g h : Ex) (p : D × List Sl) : Option (R × List Sl) := kdg1' g h p.1 p.2
theorem kdg1_eq : kdg1 g h (.dct lk ks ds, e) = (vf g e).bind (kdg2 h ks ds) := rfl
theorem e_dget_eq : e_dget f g h env = (vf f env).bind (kdg1 g h) := by
  unfold e_dget
  congr 1
def hasD {α : Type} (s : Option Ow) (z : Option α) : Option α := match s with
  | some (.dct _ _) => z
  | _ => none
theorem hasD_eq {α : Type} {z : Option α} : hasD (some (.dct ks ds)) z = z := rfl
def kds' (s : Option Ow) (i : Nat) (k : Key) (y : D) (e : List Sl) : Option (List Sl) := match s with
  | some (.dct ks ds) => if ks.length < 100000 then some (putOw e i (.dct (putKs k ks) (putA k y ks ds))) else none
  | _ => none
theorem kds'_eq {i : Nat} {k : Key} {y : D} : kds' (some (.dct ks ds)) i k y e = if ks.length < 100000 then some (putOw e i (.dct (putKs k ks) (putA k y ks ds))) else none := rfl
def kds (i : Nat) (y : D) (p : D × List Sl) : Option (List Sl) := (keyD p.1).bind fun k => kds' (owOf p.2[i]?) i k y p.2
theorem kds_str {i : Nat} {y : D} : kds i y (.str x, e) = kds' (owOf e[i]?) i (.inr x) y e := rfl
theorem kds_int {i : Nat} {y : D} : kds i y (.int z, e) = kds' (owOf e[i]?) i (.inl z) y e := rfl
theorem g_dix_eq {i : Nat} : g_dix i f (.val d) env = hasD (owOf env[i]?) ((vf f env).bind (kds i d)) := by
  unfold g_dix hasD
  cases owOf env[i]? with
  | none => rfl
  | some o =>
    cases o with
    | lst ds => rfl
    | dct ks ds =>
      simp only
      congr 1
      funext p
      obtain ⟨y, e⟩ := p
      unfold kds
      simp only
      congr 1
      funext k
      unfold kds'
      cases ho : owOf e[i]? with
      | none => rfl
      | some o => cases o <;> rfl
end
section
variable {e env : List Sl} {f : Ex} {ks : List Key} {ds : List D} {lk : Bool} {m : FM} {o : Ow} {r : R}
def klk (p : R × List Sl) : Option (R × List Sl) := match p.1 with
  | .own (.dct ks ds) => some (.val (.dct true ks ds), p.2)
  | _ => none
theorem e_lk_eq : e_lk f env = (f env).bind klk := rfl
theorem klk_eq : klk (.own (.dct ks ds), e) = some (.val (.dct true ks ds), e) := rfl
def ksk (p : D × List Sl) : Option (List D × List Sl) := match p.1 with
  | .dct true ks _ => some (ks.map kD, p.2)
  | _ => none
theorem s_keys_eq : s_keys f env = (vf f env).bind ksk := rfl
theorem ksk_eq : ksk (.dct true ks ds, e) = some (ks.map kD, e) := rfl
def kct2 (e : List Sl) (q : R × List Sl) : Option (R × List Sl) := some (q.1, e)
theorem kct2_eq {as : List Sl} : kct2 e (r, as) = some (r, e) := rfl
def kct (m : FM) (p : R × List Sl) : Option (R × List Sl) := match p.1 with
  | .own o => (m [.arg o]).bind (kct2 p.2)
  | _ => none
theorem e_callt_eq : e_callt m f env = (f env).bind (kct m) := rfl
theorem kct_eq : kct m (.own o, e) = (m [.arg o]).bind (kct2 e) := rfl
end
end Vz
set_option maxRecDepth 100000
set_option maxHeartbeats 4000000
namespace Lw
open PySem PySem.Spec PyProof.Rows L2 Vz
noncomputable def c_divisor_t5 : Cm := c_ret (e_v 0)
noncomputable def c_divisor_b3 : Cm := c_par 0 1 (a_cons (e_v 1) (a_cons (e2 o_mod (e_v 0) (e_v 1)) (a_nil)))
noncomputable def c_divisor : Cm := c_seq (c_asg (gv (g_n 0)) (eB (f1 o_abs) (a_cons (e_v 0) (a_nil)))) (c_seq (c_asg (gv (g_n 1)) (eB (f1 o_abs) (a_cons (e_v 1) (a_nil)))) (c_seq (c_wh (fuI 1) (bf (e2 o_ne (e_v 1) (e_c (.int
    0)))) (c_divisor_b3)) (c_divisor_t5)))
noncomputable def m_divisor : FM := fnM 2 2 c_divisor
noncomputable def c_l_cell_at_t3 : Cm := c_ret (e_c (.int 0))
noncomputable def c_l_cell_at : Cm := c_seq (c_if (bf (e2 o_ltX (e_v 1) (eB (f1 o_len) (a_cons (e_v 0) (a_nil))))) (c_ret (e2 o_ix (e_v 0) (e_v 1))) (c_nx)) (c_l_cell_at_t3)
noncomputable def m_l_cell_at : FM := fnM 2 2 c_l_cell_at
noncomputable def c_l_take : Cm := c_seq (c_asg (gv (g_n 2)) (eB (f1 o_int) (a_cons (e2 o_eq (e2o o_ix 0 (e_c (.int 0))) (e_c (.int 0))) (a_nil)))) (c_seq (c_asg (gv (g_n 3)) (e2 o_mod (e2o o_ix 0 (e_v 2)) (e_v 1))) (c_seq
    (c_asg (gv (g_ix 0 (e_v 2))) (e2 o_fdiv (e2o o_ix 0 (e_v 2)) (e_v 1))) (c_ret (e_v 3))))
noncomputable def m_l_take : FM := fnM 4 2 c_l_take
noncomputable def c_l_lowest_t5 : Cm := c_ret (eB o_tup (a_cons (e2 o_fdiv (e_v 0) (e_v 3)) (a_cons (e2 o_fdiv (e_v 1) (e_v 3)) (a_nil))))
noncomputable def c_l_lowest_b3 : Cm := c_par 2 3 (a_cons (e2 o_mod (e_v 3) (e_v 2)) (a_cons (e_v 2) (a_nil)))
noncomputable def c_l_lowest : Cm := c_seq (c_asg (gv (g_n 2)) (eB (f1 o_abs) (a_cons (e_v 0) (a_nil)))) (c_seq (c_asg (gv (g_n 3)) (e_v 1)) (c_seq (c_wh (fuI 2) (bf (e2 o_ne (e_v 2) (e_c (.int 0)))) (c_l_lowest_b3))
    (c_l_lowest_t5)))
noncomputable def m_l_lowest : FM := fnM 4 2 c_l_lowest
noncomputable def c_number_t4 : Cm := c_seq (c_asg (gv (g_n 2)) (e_call m_divisor [] (r_v (e_v 0) (r_v (e_v 1) (r_nil))))) (c_ret (eB o_tup (a_cons (e2 o_fdiv (e_v 0) (e_v 2)) (a_cons (e2 o_fdiv (e_v 1) (e_v 2)) (a_nil)))))
noncomputable def c_number : Cm := c_seq (c_if (bf (e2 o_ltX (e_v 1) (e_c (.int 0)))) (c_seq (c_asg (gv (g_n 0)) (e2 o_sub (e_c (.int 0)) (e_v 0))) (c_asg (gv (g_n 1)) (e2 o_sub (e_c (.int 0)) (e_v 1)))) (c_nx)) (c_number_t4)
noncomputable def m_number : FM := fnM 3 2 c_number
noncomputable def c_l_left : Cm := c_seq (c_asg (gv (g_n 2)) (eB (f1 o_abs) (a_cons (e_call m_l_cell_at [] (r_v (e_v 0) (r_v (e_v 1) (r_nil)))) (a_nil)))) (c_seq (c_asg (gv (g_n 3)) (e2 o_fdiv (e2 o_pow (e2 o_add (e_c (.int
    2147483647)) (e2 o_mod (e2 o_add (e2 o_add (e2 o_mul (e2 o_mod (e_v 2) (e_c (.int 2147483647))) (e_c (.int 48271))) (e2 o_mul (e_c (.int 7919)) (e_v 1))) (e_c (.int 11))) (e_c (.int
    2147483647)))) (e_c (.int 18))) (e2 o_pow (e_c (.int 10)) (e_c (.int 20))))) (c_ret (eB o_lst (a_cons (e2 o_mul (e_v 2) (eB (f1 o_int) (a_cons (e2 o_eq (e2 o_mod (e_call m_l_cell_at [] (r_v
    (e_v 0) (r_v (e_c (.int 0)) (r_nil)))) (e_c (.int 2))) (e_c (.int 0))) (a_nil)))) (a_cons (e_v 3) (a_cons (e_c (.int 0)) (a_nil)))))))
noncomputable def m_l_left : FM := fnM 4 2 c_l_left
noncomputable def c_l_word_t9 : Cm := c_ret (e_v 2)
noncomputable def c_l_word_t7 : Cm := c_seq (c_if (bf (e2 (o_inX false) (e_v 2) (eB o_tup (a_cons (e_c (.str (PySem.Str.ofString "and"))) (a_cons (e_c (.str (PySem.Str.ofString "or"))) (a_cons (e_c (.str (PySem.Str.ofString
    "not"))) (a_cons (e_c (.str (PySem.Str.ofString "any"))) (a_nil)))))))) (c_asg (gv (g_n 2)) (e2 o_add (e_v 2) (e_c (.str (PySem.Str.ofString "x"))))) (c_nx)) (c_l_word_t9)
noncomputable def c_l_word_t5 : Cm := c_seq (c_if (bf (e2 o_eq (e_call m_l_take [] (r_m 0 (r_v (e_c (.int 12)) (r_nil)))) (e_c (.int 0)))) (c_asg (gv (g_n 2)) (e2 o_ix (eB o_lst (a_cons (e_c (.str (PySem.Str.ofString "an")))
    (a_cons (e_c (.str (PySem.Str.ofString "nd"))) (a_cons (e_c (.str (PySem.Str.ofString "o"))) (a_cons (e_c (.str (PySem.Str.ofString "r"))) (a_cons (e_c (.str (PySem.Str.ofString "no")))
    (a_cons (e_c (.str (PySem.Str.ofString "ot"))) (a_cons (e_c (.str (PySem.Str.ofString "t"))) (a_cons (e_c (.str (PySem.Str.ofString "ny"))) (a_cons (e_c (.str (PySem.Str.ofString "y")))
    (a_cons (e_c (.str (PySem.Str.ofString "andor"))) (a_cons (e_c (.str (PySem.Str.ofString "nota"))) (a_cons (e_c (.str (PySem.Str.ofString "anyone"))) (a_nil)))))))))))))) (e_call m_l_take
    [] (r_m 0 (r_v (e_c (.int 12)) (r_nil)))))) (c_nx)) (c_l_word_t7)
noncomputable def c_l_word_b3 : Cm := c_asg (gv (g_n 2)) (e2 o_add (e_v 2) (e2 o_ix (e_v 1) (e_call m_l_take [] (r_m 0 (r_v (e_c (.int 26)) (r_nil))))))
noncomputable def c_l_word : Cm := c_seq (c_asg (gv (g_n 1)) (e_c (.str (PySem.Str.ofString "abcdefghijklmnopqrstuvwxyz")))) (c_seq (c_asg (gv (g_n 2)) (e_c (.str (PySem.Str.ofString "")))) (c_seq (c_for (g_n 3) (s_rng (a_cons
    (e2 o_add (e_c (.int 1)) (e_call m_l_take [] (r_m 0 (r_v (e_c (.int 8)) (r_nil))))) (a_nil))) (c_l_word_b3)) (c_l_word_t5)))
noncomputable def m_l_word : FM := fnM 4 1 c_l_word
noncomputable def c_l_worth_t8 : Cm := c_ret (e_call m_l_lowest [] (r_v (e_v 1) (r_v (e_v 2) (r_nil))))
noncomputable def c_l_worth_t5 : Cm := c_seq (c_if (bf (e2 o_eq (e_call m_l_take [] (r_m 0 (r_v (e_c (.int 3)) (r_nil)))) (e_c (.int 0)))) (c_seq (c_asg (gv (g_n 1)) (e2 o_sub (e2 o_mod (e_v 1) (e_c (.int 9))) (e_c (.int 4))))
    (c_asg (gv (g_n 2)) (e2 o_add (e_c (.int 1)) (e2 o_mod (e_v 2) (e_c (.int 4)))))) (c_nx)) (c_l_worth_t8)
noncomputable def c_l_worth : Cm := c_seq (c_asg (gv (g_n 1)) (e2 o_sub (e_call m_l_take [] (r_m 0 (r_v (e_c (.int 1999999)) (r_nil)))) (e_c (.int 999999)))) (c_seq (c_asg (gv (g_n 2)) (e_c (.int 1))) (c_seq (c_if (bf (e2 o_eq
    (e_call m_l_take [] (r_m 0 (r_v (e_c (.int 2)) (r_nil)))) (e_c (.int 1)))) (c_asg (gv (g_n 2)) (e2 o_add (e_c (.int 1)) (e_call m_l_take [] (r_m 0 (r_v (e_c (.int 999999)) (r_nil))))))
    (c_nx)) (c_l_worth_t5)))
noncomputable def m_l_worth : FM := fnM 3 1 c_l_worth
noncomputable def c_l_kinds_t17 : Cm := c_ret (e_take 1)
noncomputable def c_l_kinds_t15 : Cm := c_seq (c_asg (gv (g_dix 1 (e_v 5))) (e_fz 6)) (c_asg (gv (g_n 2)) (eB (f2 o_minX) (a_cons (e_v 2) (a_cons (e_c (.int 4)) (a_nil)))))
noncomputable def c_l_kinds_b11 : Cm := c_seq (c_asg (gv (g_n 8)) (e_call m_l_word [] (r_m 0 (r_nil)))) (c_if (bf (e2r (o_inX true) (e_v 8) 6)) (c_ex (e_app 6 (e_v 8))) (c_nx))
noncomputable def c_l_kinds_b8 : Cm := c_seq (c_asg (gv (g_n 5)) (e_call m_l_word [] (r_m 0 (r_nil)))) (c_seq (c_asg (g_n 6) (eB o_lst (a_nil))) (c_seq (c_for (g_n 7) (s_rng (a_cons (e2 o_add (e_c (.int 1)) (e_call m_l_take []
    (r_m 0 (r_v (e_v 2) (r_nil))))) (a_nil))) (c_l_kinds_b11)) (c_l_kinds_t15)))
noncomputable def c_l_kinds_t8 : Cm := c_seq (c_for (g_n 4) (s_rng (a_cons (e_v 3) (a_nil))) (c_l_kinds_b8)) (c_l_kinds_t17)
noncomputable def c_l_kinds_t6 : Cm := c_seq (c_if (bf (e2 o_eq (e_v 2) (e_c (.int 12)))) (c_asg (gv (g_n 3)) (eB (f2 o_minX) (a_cons (e_v 3) (a_cons (e_c (.int 1)) (a_nil))))) (c_nx)) (c_l_kinds_t8)
noncomputable def c_l_kinds : Cm := c_seq (c_asg (g_n 1) (e_d0)) (c_seq (c_asg (gv (g_n 2)) (e2 o_ix (eB o_lst (a_cons (e_c (.int 4)) (a_cons (e_c (.int 4)) (a_cons (e_c (.int 4)) (a_cons (e_c (.int 4)) (a_cons (e_c (.int 4))
    (a_cons (e_c (.int 4)) (a_cons (e_c (.int 4)) (a_cons (e_c (.int 12)) (a_nil)))))))))) (e_call m_l_take [] (r_m 0 (r_v (e_c (.int 8)) (r_nil)))))) (c_seq (c_asg (gv (g_n 3)) (e2 o_ix (eB
    o_lst (a_cons (e_c (.int 0)) (a_cons (e_c (.int 1)) (a_cons (e_c (.int 2)) (a_cons (e_c (.int 3)) (a_cons (e_c (.int 1)) (a_cons (e_c (.int 2)) (a_cons (e_c (.int 3)) (a_cons (e_c (.int 6))
    (a_nil)))))))))) (e_call m_l_take [] (r_m 0 (r_v (e_c (.int 8)) (r_nil)))))) (c_seq (c_if (bf (e2 o_eq (e_v 3) (e_c (.int 6)))) (c_asg (gv (g_n 2)) (e_c (.int 2))) (c_nx)) (c_l_kinds_t6))))
noncomputable def m_l_kinds : FM := fnM 9 1 c_l_kinds
noncomputable def c_l_marks_t8 : Cm := c_ret (e_take 2)
noncomputable def c_l_marks_b2 : Cm := c_seq (c_asg (gv (g_n 4)) (e_call m_l_take [] (r_m 0 (r_v (e_c (.int 8)) (r_nil))))) (c_if (bf (e2 o_ltX (e_v 4) (e_c (.int 6)))) (c_asg (gv (g_dix 2 (e_v 3))) (e2 o_ix (e2 o_dix (e_v 1) (e_v
    3)) (e_call m_l_take [] (r_m 0 (r_v (eB (f1 o_len) (a_cons (e2 o_dix (e_v 1) (e_v 3)) (a_nil))) (r_nil)))))) (c_if (bf (e2 o_eq (e_v 4) (e_c (.int 6)))) (c_asg (gv (g_dix 2 (e_v 3)))
    (e_call m_l_word [] (r_m 0 (r_nil)))) (c_nx)))
noncomputable def c_l_marks : Cm := c_seq (c_asg (g_n 2) (e_d0)) (c_seq (c_for (g_n 3) (s_keys (e_v 1)) (c_l_marks_b2)) (c_l_marks_t8))
noncomputable def m_l_marks : FM := fnM 5 2 c_l_marks
noncomputable def c_holds_t10 (m_holds : FM) : Cm := c_ret (tv (t_or (bf (e_call m_holds [] (r_v (e2 o_ix (e_v 0) (e_c (.int 1))) (r_v (e_v 1) (r_nil))))) (bf (e_call m_holds [] (r_v (e2 o_ix (e_v 0) (e_c (.int 2))) (r_v (e_v 1) (r_nil)))))))
noncomputable def c_holds_t8 (m_holds : FM) : Cm := c_seq (c_if (bf (e2 o_eq (e_v 2) (e_c (.str (PySem.Str.ofString "and"))))) (c_ret (tv (t_and (bf (e_call m_holds [] (r_v (e2 o_ix (e_v 0) (e_c (.int 1))) (r_v (e_v 1) (r_nil))))) (bf (e_call
    m_holds [] (r_v (e2 o_ix (e_v 0) (e_c (.int 2))) (r_v (e_v 1) (r_nil)))))))) (c_nx)) (c_holds_t10 m_holds)
noncomputable def c_holds_t6 (m_holds : FM) : Cm := c_seq (c_if (bf (e2 o_eq (e_v 2) (e_c (.str (PySem.Str.ofString "not"))))) (c_ret (tv (t_not (bf (e_call m_holds [] (r_v (e2 o_ix (e_v 0) (e_c (.int 1))) (r_v (e_v 1) (r_nil)))))))) (c_nx))
    (c_holds_t8 m_holds)
noncomputable def c_holds_t4 (m_holds : FM) : Cm := c_seq (c_if (bf (e2 o_eq (e_v 2) (e_c (.str (PySem.Str.ofString "is"))))) (c_ret (tv (t_and (bf (e2 (o_din false) (e2 o_ix (e_v 0) (e_c (.int 1))) (e_v 1))) (bf (e2 o_eq (e2 o_dix (e_v 1) (e2
    o_ix (e_v 0) (e_c (.int 1)))) (e2 o_ix (e_v 0) (e_c (.int 2)))))))) (c_nx)) (c_holds_t6 m_holds)
noncomputable def c_holds (m_holds : FM) : Cm := c_seq (c_asg (gv (g_n 2)) (e2 o_ix (e_v 0) (e_c (.int 0)))) (c_seq (c_if (bf (e2 o_eq (e_v 2) (e_c (.str (PySem.Str.ofString "any"))))) (c_ret (e_c (.bl true))) (c_nx)) (c_holds_t4 m_holds))
noncomputable def r_holds : Nat → FM
  | 0 => fun _ => none
  | n + 1 => fnM 3 2 (c_holds (r_holds n))
noncomputable def m_holds : FM := r_holds 100
noncomputable def c_l_true_t5 (m_l_true : FM) : Cm := c_seq (c_asg (gv (g_n 2)) (e_lc [3] (g_n 3) (s_seq (e_sl (e_v 0) (p_at (e_c (.int 1))) (p_no))) (t_yes) (e_call m_l_true [] (r_v (e_v 3) (r_v (e_v 1) (r_nil)))))) (c_ret (e2 o_ix (eB o_lst
    (a_cons (eB (f1 o_all) (a_cons (e_v 2) (a_nil))) (a_cons (eB (f1 o_any) (a_cons (e_v 2) (a_nil))) (a_nil)))) (eB (f1 o_int) (a_cons (e2 o_eq (e2 o_ix (e_v 0) (e_c (.int 0))) (e_c (.str
    (PySem.Str.ofString "or")))) (a_nil)))))
noncomputable def c_l_true_t3 (m_l_true : FM) : Cm := c_seq (c_if (bf (e2 o_eq (e2 o_ix (e_v 0) (e_c (.int 0))) (e_c (.str (PySem.Str.ofString "not"))))) (c_ret (tv (t_not (bf (e_call m_l_true [] (r_v (e2 o_ix (e_v 0) (e_c (.int 1))) (r_v (e_v
    1) (r_nil)))))))) (c_nx)) (c_l_true_t5 m_l_true)
noncomputable def c_l_true (m_l_true : FM) : Cm := c_seq (c_if (bf (e2 o_eq (e2 o_ix (e_v 0) (e_c (.int 0))) (e_c (.str (PySem.Str.ofString "is"))))) (c_ret (e2 o_eq (e_dget (e_v 1) (e2 o_ix (e_v 0) (e_c (.int 1))) (e_c (.str
    (PySem.Str.ofString "")))) (e2 o_ix (e_v 0) (e_c (.int 2))))) (c_nx)) (c_l_true_t3 m_l_true)
noncomputable def r_l_true : Nat → FM
  | 0 => fun _ => none
  | n + 1 => fnM 4 2 (c_l_true (r_l_true n))
noncomputable def m_l_true : FM := r_l_true 100
noncomputable def c_l_alike_t7 (m_l_alike : FM) : Cm := c_ret (tv (t_and (bf (e2 o_eq (e1 (o_isi "str") (e_v 0)) (e1 (o_isi "str") (e_v 1)))) (bf (e2 o_eq (e_v 0) (e_v 1)))))
noncomputable def c_l_alike_t5 (m_l_alike : FM) : Cm := c_seq (c_if (t_or (bf (e2 o_ne (e1 (o_isi "int") (e_v 0)) (e1 (o_isi "int") (e_v 1)))) (bf (e2 o_ne (e1 (o_isi "bool") (e_v 0)) (e1 (o_isi "bool") (e_v 1))))) (c_ret (e_c (.bl false)))
    (c_nx)) (c_l_alike_t7 m_l_alike)
noncomputable def c_l_alike_t4 (m_l_alike : FM) : Cm := c_ret (tv (t_and (bf (e2 o_eq (eB (f1 o_len) (a_cons (e_v 0) (a_nil))) (eB (f1 o_len) (a_cons (e_v 1) (a_nil))))) (bf (eB (f1 o_all) (a_cons (e_lc [2, 3] (g_tup 2 (gs_cons (g_n 2) (gs_cons
    (g_n 3) (gs_nil)))) (s_zip (a_cons (e_v 0) (a_cons (e_v 1) (a_nil)))) (t_yes) (e_call m_l_alike [] (r_v (e_v 2) (r_v (e_v 3) (r_nil))))) (a_nil))))))
noncomputable def c_l_alike (m_l_alike : FM) : Cm := c_seq (c_if (t_tru (e1 (o_isi2 "list" "tuple") (e_v 1))) (c_seq (c_if (t_or (bf (e2 o_ne (e1 (o_isi "list") (e_v 0)) (e1 (o_isi "list") (e_v 1)))) (bf (e2 o_ne (e1 (o_isi "tuple") (e_v 0))
    (e1 (o_isi "tuple") (e_v 1))))) (c_ret (e_c (.bl false))) (c_nx)) (c_l_alike_t4 m_l_alike)) (c_nx)) (c_l_alike_t5 m_l_alike)
noncomputable def r_l_alike : Nat → FM
  | 0 => fun _ => none
  | n + 1 => fnM 4 2 (c_l_alike (r_l_alike n))
noncomputable def m_l_alike : FM := r_l_alike 100
noncomputable def c_first_holding_t4 : Cm := c_ret (e_c .non)
noncomputable def c_first_holding_b1 : Cm := c_if (t_tru (e_call m_holds [] (r_v (e2 o_ix (e_v 3) (e_c (.int 0))) (r_v (e_v 1) (r_nil))))) (c_ret (e_v 2)) (c_nx)
noncomputable def c_first_holding : Cm := c_seq (c_for (g_tup 2 (gs_cons (g_n 2) (gs_cons (g_n 3) (gs_nil)))) (s_enum (a_cons (e_v 0) (a_nil))) (c_first_holding_b1)) (c_first_holding_t4)
noncomputable def m_first_holding : FM := fnM 4 2 c_first_holding
noncomputable def c_l_first_t4 : Cm := c_ret (e_c .non)
noncomputable def c_l_first_b1 : Cm := c_if (t_tru (e_call m_l_true [] (r_v (e2 o_ix (e_v 3) (e_c (.int 0))) (r_v (e_v 1) (r_nil))))) (c_ret (e_v 2)) (c_nx)
noncomputable def c_l_first : Cm := c_seq (c_for (g_tup 2 (gs_cons (g_n 2) (gs_cons (g_n 3) (gs_nil)))) (s_enum (a_cons (e_v 0) (a_nil))) (c_l_first_b1)) (c_l_first_t4)
noncomputable def m_l_first : FM := fnM 4 2 c_l_first
noncomputable def c_worth_t4 : Cm := c_ret (e2 o_ix (e2 o_ix (e_v 0) (e_v 2)) (e_c (.int 1)))
noncomputable def c_worth : Cm := c_seq (c_asg (gv (g_n 2)) (e_call m_first_holding [] (r_v (e_v 0) (r_v (e_v 1) (r_nil))))) (c_seq (c_if (bf (e2 o_is (e_v 2) (e_c .non))) (c_ret (e_call m_number [(.int 1)] (r_v (e_c (.int
    0)) (r_nil)))) (c_nx)) (c_worth_t4))
noncomputable def m_worth : FM := fnM 3 2 c_worth
noncomputable def c_l_thing_t14 (m_l_thing m_l_built : FM) : Cm := c_seq (c_asg (g_tup 2 (gs_cons (g_n 5) (gs_cons (g_n 6) (gs_nil)))) (e_call m_l_built [] (r_m 0 (r_m 1 (r_v (e2 o_sub (e_v 2) (e_c (.int 1))) (r_v (e_c (.str (PySem.Str.ofString "or")))
    (r_nil))))))) (c_ret (eB o_tup (a_cons (e2 o_add (e2 o_add (eB o_lst (a_cons (e_c (.str (PySem.Str.ofString "("))) (a_nil))) (e_v 5)) (eB o_lst (a_cons (e_c (.str (PySem.Str.ofString ")")))
    (a_nil)))) (a_cons (e_v 6) (a_nil)))))
noncomputable def c_l_thing_t11 (m_l_thing m_l_built : FM) : Cm := c_seq (c_if (bf (e2 o_eq (e_v 3) (e_c (.int 5)))) (c_seq (c_asg (g_tup 2 (gs_cons (g_n 5) (gs_cons (g_n 6) (gs_nil)))) (e_call m_l_thing [] (r_m 0 (r_m 1 (r_v (e2 o_sub (e_v 2) (e_c (.int
    1))) (r_nil)))))) (c_ret (eB o_tup (a_cons (e2 o_add (eB o_lst (a_cons (e_c (.str (PySem.Str.ofString "not"))) (a_nil))) (e_v 5)) (a_cons (eB o_tup (a_cons (e_c (.str (PySem.Str.ofString
    "not"))) (a_cons (e_v 6) (a_nil)))) (a_nil)))))) (c_nx)) (c_l_thing_t14 m_l_thing m_l_built)
noncomputable def c_l_thing_t9 (m_l_thing m_l_built : FM) : Cm := c_seq (c_if (bf (e2 o_eq (e_v 3) (e_c (.int 4)))) (c_ret (eB o_tup (a_cons (eB o_lst (a_cons (e_c (.str (PySem.Str.ofString "any"))) (a_nil))) (a_cons (eB o_tup (a_cons (e_c (.str
    (PySem.Str.ofString "any"))) (a_nil))) (a_nil))))) (c_nx)) (c_l_thing_t11 m_l_thing m_l_built)
noncomputable def c_l_thing_t7 (m_l_thing m_l_built : FM) : Cm := c_seq (c_ex (e_app 1 (eB o_tup (a_cons (e2 o_ix (e_v 4) (e_c (.int 0))) (a_cons (e2 o_ix (e_v 4) (e_c (.int 1))) (a_nil)))))) (c_ret (eB o_tup (a_cons (e_v 4) (a_cons (eB o_tup (a_cons (e_c
    (.str (PySem.Str.ofString "is"))) (a_cons (e2 o_ix (e_v 4) (e_c (.int 0))) (a_cons (e2 o_ix (e_v 4) (e_c (.int 1))) (a_nil))))) (a_nil)))))
noncomputable def c_l_thing (m_l_thing m_l_built : FM) : Cm := c_seq (c_asg (gv (g_n 3)) (e_call m_l_take [] (r_m 0 (r_v (e_c (.int 8)) (r_nil))))) (c_seq (c_asg (gv (g_ix 0 (e_c (.int 2)))) (e2 o_add (e2o o_ix 0 (e_c (.int 2))) (e_c (.int 2)))) (c_seq
    (c_if (t_or (bf (e2 o_ltX (e_v 3) (e_c (.int 4)))) (t_or (bf (e2 o_ltX (e_v 2) (e_c (.int 1)))) (bf (e2 o_gtX (e2o o_ix 0 (e_c (.int 2))) (e_c (.int 24)))))) (c_seq (c_asg (gv (g_n 4)) (eB
    o_lst (a_cons (e_call m_l_word [] (r_m 0 (r_nil))) (a_cons (e_call m_l_word [] (r_m 0 (r_nil))) (a_nil))))) (c_seq (c_if (t_and (bf (e2 o_eq (e2 o_mod (e_v 3) (e_c (.int 2))) (e_c (.int
    1)))) (bf (e2o o_ne 1 (eB o_lst (a_nil))))) (c_asg (gv (g_n 4)) (eB (f1 o_list) (a_cons (e2o o_ix 1 (e_call m_l_take [] (r_m 0 (r_v (eBo (f1 o_len) 1) (r_nil))))) (a_nil)))) (c_nx))
    (c_l_thing_t7 m_l_thing m_l_built))) (c_nx)) (c_l_thing_t9 m_l_thing m_l_built)))
noncomputable def c_l_built_t10 (m_l_thing m_l_built : FM) : Cm := c_ret (eB o_tup (a_cons (e_v 5) (a_cons (e_v 6) (a_nil))))
noncomputable def c_l_built_b5 (m_l_thing m_l_built : FM) : Cm := c_if (bf (e2 o_ltX (e2o o_ix 0 (e_c (.int 2))) (e_c (.int 24)))) (c_seq (c_asg (g_tup 2 (gs_cons (g_n 8) (gs_cons (g_n 9) (gs_nil)))) (e_call m_l_built [] (r_m 0 (r_m 1 (r_v (e_v 2) (r_v (e_v
    4) (r_nil))))))) (c_seq (c_asg (gv (g_n 5)) (e2 o_add (e2 o_add (e_v 5) (eB o_lst (a_cons (e_v 3) (a_nil)))) (e_v 8))) (c_asg (gv (g_n 6)) (eB o_tup (a_cons (e_v 3) (a_cons (e_v 6) (a_cons
    (e_v 9) (a_nil)))))))) (c_nx)
noncomputable def c_l_built_t3 (m_l_thing m_l_built : FM) : Cm := c_seq (c_asg (gv (g_n 4)) (e2 o_dix (e_dcs [(PySem.Str.ofString "or", PySem.Str.ofString "and"), (PySem.Str.ofString "and", PySem.Str.ofString "")]) (e_v 3))) (c_seq (c_asg (g_tup 2 (gs_cons
    (g_n 5) (gs_cons (g_n 6) (gs_nil)))) (e_call m_l_built [] (r_m 0 (r_m 1 (r_v (e_v 2) (r_v (e_v 4) (r_nil))))))) (c_seq (c_for (g_n 7) (s_rng (a_cons (e2 o_ix (eB o_lst (a_cons (e_c (.int
    0)) (a_cons (e_c (.int 0)) (a_cons (e_c (.int 0)) (a_cons (e_c (.int 1)) (a_cons (e_c (.int 1)) (a_cons (e_c (.int 2)) (a_cons (e_c (.int 0)) (a_cons (e_c (.int 5)) (a_nil)))))))))) (e_call
    m_l_take [] (r_m 0 (r_v (e_c (.int 8)) (r_nil))))) (a_nil))) (c_l_built_b5 m_l_thing m_l_built)) (c_l_built_t10 m_l_thing m_l_built)))
noncomputable def c_l_built (m_l_thing m_l_built : FM) : Cm := c_seq (c_if (bf (e2 o_eq (e_v 3) (e_c (.str (PySem.Str.ofString ""))))) (c_ret (e_call m_l_thing [] (r_m 0 (r_m 1 (r_v (e_v 2) (r_nil)))))) (c_nx)) (c_l_built_t3 m_l_thing m_l_built)
noncomputable def r_l_thing : Nat → FM × FM
  | 0 => (fun _ => none, fun _ => none)
  | n + 1 => (fnM 7 3 (c_l_thing (r_l_thing n).1 (r_l_thing n).2), fnM 10 4 (c_l_built (r_l_thing n).1 (r_l_thing n).2))
noncomputable def m_l_thing : FM := (r_l_thing 100).1
noncomputable def m_l_built : FM := (r_l_thing 100).2
noncomputable def c_l_book_t7 : Cm := c_ret (e_take 4)
noncomputable def c_l_book_b2 : Cm := c_seq (c_asg (g_n 6) (e_call m_l_left [] (r_v (e_v 0) (r_v (e_v 5) (r_nil))))) (c_seq (c_asg (gv (g_n 7)) (e_call m_l_worth [] (r_m 6 (r_nil)))) (c_seq (c_asg (g_tup 2 (gs_cons (g_n 8)
    (gs_cons (g_n 9) (gs_nil)))) (e_call m_l_built [] (r_m 6 (r_m 2 (r_v (e_c (.int 5)) (r_v (e_c (.str (PySem.Str.ofString "or"))) (r_nil))))))) (c_ex (e_app 4 (eB o_tup (a_cons (e_v 9)
    (a_cons (e_v 7) (a_nil))))))))
noncomputable def c_l_book : Cm := c_seq (c_asg (g_n 4) (eB o_lst (a_nil))) (c_seq (c_for (g_n 5) (s_rng2 (a_cons (e_v 1) (a_cons (eB (f2 o_minX) (a_cons (e2 o_add (e_v 1) (e_v 3)) (a_cons (eB (f1 o_len) (a_cons (e_v 0)
    (a_nil))) (a_nil)))) (a_nil)))) (c_l_book_b2)) (c_l_book_t7))
noncomputable def m_l_book : FM := fnM 10 4 c_l_book
noncomputable def c_law_t17 : Cm := c_ret (e_call m_l_alike [] (r_v (e_call m_worth [] (r_v (eB o_lst (a_nil)) (r_v (e_d0) (r_nil)))) (r_v (eB o_tup (a_cons (e_c (.int 0)) (a_cons (e_c (.int 1)) (a_nil)))) (r_nil))))
noncomputable def c_law_t15 : Cm := c_if (t_or (t_not (t_tru (e_call m_l_alike [] (r_v (e_call m_worth [] (r_v (e_v 6) (r_v (e_v 10) (r_nil)))) (r_v (e_v 12) (r_nil)))))) (t_or (bf (e2 o_ne (e_v 6) (e_v 5))) (bf (e2 o_ned (e_v
    10) (e_v 9))))) (c_ret (e_c (.bl false))) (c_nx)
noncomputable def c_law_b8 : Cm := c_seq (c_asg (gv (g_n 9)) (e_call m_l_marks [] (r_m 7 (r_v (e_v 1) (r_nil))))) (c_seq (c_asg (gv (g_n 10)) (eB (f1 o_dict) (a_cons (e_v 9) (a_nil)))) (c_seq (c_asg (gv (g_n 11)) (e_call
    m_l_first [] (r_v (e_v 5) (r_v (e_v 9) (r_nil))))) (c_seq (c_asg (gv (g_n 12)) (eB o_tup (a_cons (e_c (.int 0)) (a_cons (e_c (.int 1)) (a_nil))))) (c_seq (c_if (bf (e2 o_isnt (e_v 11) (e_c
    .non))) (c_asg (gv (g_n 12)) (e2 o_ix (e2 o_ix (e_v 5) (e_v 11)) (e_c (.int 1)))) (c_nx)) (c_law_t15)))))
noncomputable def c_law_t5 : Cm := c_seq (c_asg (gv (g_n 5)) (e_call m_l_book [] (r_v (e_v 0) (r_v (e_c (.int 3)) (r_m 2 (r_v (e_c (.int 20)) (r_nil))))))) (c_seq (c_asg (gv (g_n 6)) (eB (f1 o_list) (a_cons (e_v 5) (a_nil))))
    (c_seq (c_asg (g_n 7) (e_call m_l_left [] (r_v (e_v 0) (r_v (e_c (.int 2)) (r_nil))))) (c_seq (c_for (g_n 8) (s_rng (a_cons (e_c (.int 16)) (a_nil))) (c_law_b8)) (c_law_t17))))
noncomputable def c_law_b3 : Cm := c_asg (g_n 2) (e2o o_add 2 (e_lc [4] (g_n 4) (s_seq (e2 o_dix (e_v 1) (e_v 3))) (t_yes) (eB o_tup (a_cons (e_v 3) (a_cons (e_v 4) (a_nil))))))
noncomputable def c_law : Cm := c_seq (c_asg (gv (g_n 1)) (e_lk (e_callt m_l_kinds (e_call m_l_left [] (r_v (e_v 0) (r_v (e_c (.int 1)) (r_nil))))))) (c_seq (c_asg (g_n 2) (eB o_lst (a_nil))) (c_seq (c_for (g_n 3) (s_keys
    (e_v 1)) (c_law_b3)) (c_law_t5)))
noncomputable def m_law : FM := fnM 13 1 c_law
end Lw
set_option maxRecDepth 100000
set_option maxHeartbeats 4000000
set_option exponentiation.threshold 20000
set_option autoImplicit false
namespace Lw
open PySem PySem.Spec PyProof.Rows L2 Vz
local macro_rules | `(tactic| walk_at "ev") => `(tactic| simp only [Vz.Ok_some, Vz.Ok_none, Vz.Ok_bind, Vz.Th_eq, Vz.Ok_need, Vz.Ok_ite, if_false_right, if_false_left, Vz.vf_eq, Vz.kvf_eq, Vz.e_c_eq, Vz.vc_eq, Vz.e_v_eq, Vz.getV_eq, Vz.vv_eq, Vz.getW_eq, Vz.e_take_eq, Vz.getT_eq, Vz.e_fz_eq, Vz.getF_own, Vz.getF_val, Vz.kz_eq, Vz.k1_eq, Vz.e2_eq, Vz.k2_eq, Vz.k2b_eq, Vz.e1_eq, Vz.klf_eq, Vz.k2o'_eq, Vz.k2o_eq, Vz.has_eq, Vz.e2o_eq, Vz.k2r'_eq, Vz.k2r_eq, Vz.e2r_eq, Vz.kBo_eq, Vz.eBo_eq, Vz.eB_eq, Vz.kB_eq, Vz.a_nil_eq, Vz.a_cons_eq, Vz.ka_eq, Vz.ka2_eq, Vz.r_nil_eq, Vz.r_v_eq, Vz.kr_eq, Vz.kr2_eq, Vz.r_m_eq, Vz.kc3_eq, Vz.kc2_eq, Vz.kc_eq, Vz.e_call_eq, Vz.ksl_eq, Vz.kso_eq, Vz.slotsOf_nil, Vz.slotsOf_d, Vz.slotsOf_m, Vz.msOf_nil, Vz.msOf_d, Vz.msOf_m, Vz.owOf_own, Vz.owOf_arg, Vz.isO_own, Vz.isO_arg, Vz.backs_nil, Vz.backs_d, Vz.backs_m, Vz.putOw_eq, Vz.putK_own, Vz.putK_arg, Vz.bf_eq, Vz.kbf_eq, Vz.t_and_eq, Vz.t_or_eq, Vz.t_not_eq, Vz.kand_eq, Vz.kor_eq, Vz.knot_eq, Vz.tv_eq, Vz.ktv_eq, Vz.e_if_eq, Vz.kif_eq, Vz.ktr_eq, Vz.t_tru_eq, Vz.ktru_eq, Vz.tru_non, Vz.tru_bl, Vz.tru_int, Vz.tru_tup, Vz.tru_lst, Vz.t_yes_eq, Vz.kch4_eq, Vz.kch3_eq, Vz.kch2_eq, Vz.kch1_eq, Vz.kch0_eq, Vz.e_chain_eq, Vz.p_no_eq, Vz.p_at_eq, Vz.kpa_eq, Vz.ksl3_eq, Vz.ksl2_eq, Vz.ksl1_eq, Vz.e_sl_eq, Vz.o_sl_lst, Vz.o_sl_tup, Vz.kso3'_eq, Vz.kso3_eq, Vz.kso2_eq, Vz.e_slo_eq, Vz.c_seq_eq, Vz.ksq_nx, Vz.ksq_rt, Vz.ksq_bk, Vz.ksq_ct, Vz.c_nx_eq, Vz.c_bk_eq, Vz.c_ct_eq, Vz.c_retN_eq, Vz.c_ret_eq, Vz.krt_eq, Vz.c_ex_eq, Vz.kex_eq, Vz.c_if_eq, Vz.kci_eq, Vz.knx_eq, Vz.c_asg_eq, Vz.kas_eq, Vz.g_n_eq, Vz.gv_eq, Vz.Rd_val, Vz.Rd_own, Vz.Owd_lst, Vz.Rsl_val, Vz.Rsl_own, Vz.isArg_val, Vz.isArg_own, Vz.isArg_nov, Vz.gs_nil_eq, Vz.gs_cons_eq, Vz.kgs_eq, Vz.g_tup_eq, Vz.g_lst_eq, Vz.e_callv_eq, Vz.kp2_eq, Vz.c_par_eq, Vz.kp_eq, Vz.kq3_eq, Vz.kq2_eq, Vz.c_par3_eq, Vz.kq_eq, Vz.kap'_eq, Vz.kap_eq, Vz.hasL_eq, Vz.e_app_eq, Vz.e_clr_eq, Vz.kixs_eq, Vz.kix'_eq, Vz.kix_eq, Vz.g_ix_eq, Vz.c_for_eq', Vz.kfo_eq, Vz.s_seq_eq, Vz.kss_lst, Vz.kss_tup, Vz.s_rng_eq, Vz.ksr_ok, Vz.s_rng2_eq, Vz.ksr2_ok, Vz.s_rng3_eq, Vz.s_enum_eq, Vz.kse_eq, Vz.s_zip_eq, Vz.ksz_lst, Vz.ksz_tup, Vz.kfn_rt, Vz.kfn_nx, Vz.outArgs, Vz.ok_fdiv, Vz.ok_mod, Vz.ok_pow, Vz.ok_mul, Vz.add_int, Vz.ok_add_str, Vz.ok_add_lst, Vz.ok_add_tup, Vz.sub_int, Vz.neg_int, Vz.lt_int, Vz.ltX_int, Vz.gtX_int, Vz.leX_int, Vz.geX_int, Vz.maxX_int, Vz.minX_int, Vz.le_int', Vz.gt_int, Vz.ge_int, Vz.eq_int', Vz.ne_int', Vz.eq_bl', Vz.ne_bl', Vz.is_non, Vz.isnt_non, Vz.is_bl, Vz.isNon_non, Vz.isNon_tup, Vz.isNon_int, Vz.isNon_str, Vz.isNon_lst, Vz.isNon_bl, Vz.f1_eq, Vz.f2_eq, Vz.abs_int, Vz.int_int, Vz.int_bl, Vz.max_int, Vz.min_int, Vz.len_lst, Vz.len_tup, Vz.ok_tup, Vz.ok_lst, Vz.list_lst, Vz.list_tup, Vz.tuple_lst, Vz.tuple_tup, Vz.kat_eq, Vz.rngL2, Vz.rngL3, Vz.ok_ix_str, Vz.ok_mul_str, Vz.ok_str_int, Vz.lcGo_nil, Vz.lcGo_cons, Vz.kl1_eq, Vz.kl2_eq, Vz.kl3_eq, Vz.rest_eq, Vz.restGo_cons, Vz.restGo_nil, Vz.forGo_nil, Vz.forGo_cons, Vz.kf1_eq, Vz.kf2_nx, Vz.kf2_ct, Vz.kf2_bk, Vz.kf2_rt, Vz.klc_eq, Vz.e_lc_eq, Vz.noOw_nil, Vz.noOw_cons, Vz.nOw_no, Vz.nOw_val, Vz.wipeE_nil, Vz.wipeE_cons, Vz.LcF_eq, Vz.LcC_eq, Vz.LcT_eq, Vz.LiF_eq, Vz.LiC_eq, Vz.LiT_eq, Vz.isi_int_int, Vz.isi_int_bool, Vz.isi_bool_bool, Vz.isi_tup_tuple, Vz.isi_tup_list, Vz.isi_lst_list, Vz.isi_str_str, Vz.isi_bool_int, Vz.isi_lst_tuple, Vz.isi_int_str, Vz.isi_non_tuple, Vz.isi_int_tuple, Vz.ix_lst, Vz.ix_tup', Vz.atI_0, Vz.atI_1, Vz.atI_2, Vz.atI_3, Vz.atI_4, Vz.atI_5, Vz.atI_6, Vz.atI_7, Vz.atI_8, Vz.atI_9, Vz.Rlf_val, Vz.lf_int, Vz.lf_bl, Vz.lf_str, Vz.lf_non, Vz.lf_tup, Vz.lfs_nil, Vz.lfs_cons, Vz.rev_t_tup, Vz.rev_t_lst, Vz.rev_l_tup, Vz.rev_l_lst, Vz.s_rev_eq, Vz.ksrev_lst, Vz.ksrev_tup, Vz.rngOK_0, Vz.rngOK_1, Vz.rngOK_2, Vz.rngOK_3, Vz.rngOK_4, Vz.rngOK_5, Vz.rngOK_6, Vz.rngOK_7, Vz.rngOK_8, Vz.rngOK_9, Vz.rngOK_10, Vz.rngOK_11, Vz.rngOK_12, Vz.rngOK_13, Vz.rngOK_14, Vz.rngOK_15, Vz.rngOK_16, Vz.rngOK_17, Vz.rngOK_18, Vz.rngOK_19, Vz.rngOK_20, Vz.rngOK_21, Vz.rngOK_22, Vz.rngOK_23, Vz.rngOK_24, Vz.rngOK_25, Vz.rngOK_26, Vz.rngOK_27, Vz.rngOK_28, Vz.rngOK_29, Vz.rngOK_30, Vz.rngOK_31, Vz.rngOK_32, Vz.rngOK_33, Vz.rngOK_34, Vz.rngOK_35, Vz.rngOK_36, Vz.rngOK_37, Vz.rngOK_38, Vz.rngOK_39, Vz.rngOK_40, Vz.rngOK_63, Vz.Owd_dct, Vz.e_d0_eq, Vz.e_dcs_eq, Vz.kdi_eq, Vz.dix_str, Vz.dix_int, Vz.din_str, Vz.din_int, Vz.dict_eq, Vz.kdg3_str, Vz.kdg3_int, Vz.kdg2_eq, Vz.kdg1_eq, Vz.e_dget_eq, Vz.hasD_eq, Vz.kds'_eq, Vz.kds_str, Vz.kds_int, Vz.g_dix_eq, Vz.e_lk_eq, Vz.klk_eq, Vz.s_keys_eq, Vz.ksk_eq, Vz.kct2_eq, Vz.e_callt_eq, Vz.kct_eq,
  List.getElem?_cons_zero, List.getElem?_cons_succ, List.getElem?_nil, List.set_cons_zero, List.set_cons_succ, List.length_cons, List.length_nil, List.cons_append, List.nil_append, List.append_nil, List.map_cons, List.map_nil, List.nodup_cons, List.not_mem_nil, List.mem_cons, List.nodup_nil, List.replicate, Nat.reduceAdd, Nat.reduceSub, Nat.reduceLT, Nat.reduceLeDiff, Nat.reduceEqDiff, Nat.reduceLT, Nat.reduceLeDiff, Int.reduceToNat, Int.reduceLT, Int.reduceLE, Int.reduceEq, Int.reduceNe, Int.toNat_zero, Int.zero_sub, Int.cast_ofNat_Int, Int.natCast_one, Int.natCast_zero,  Int.reducePow, Int.reduceMul, Int.reduceAdd, Int.reduceSub, Int.reduceNeg, Nat.zero_add, Nat.reduceMul, reduceIte, if_true, if_false, and_self, and_true, true_and, not_false_eq_true, not_true_eq_false, Bool.false_eq_true, Bool.not_eq_true', Bool.not_true, Bool.not_false, decide_eq_true_eq, decide_eq_false_iff_not, Bool.true_and, Bool.and_true, reduceCtorEq, or_false, false_or, or_true, true_or, and_false, false_and, Int.reduceNeg, not_false, Nat.lt_irrefl, Nat.succ_ne_zero, ne_eq, Nat.add_one_ne_zero, Nat.zero_ne_one, Nat.one_ne_zero, Nat.lt_add_one, Nat.zero_lt_succ])
local macro_rules | `(tactic| walk_at "bd1") => `(tactic| first | assumption | (apply Bd.mul <;> walk_at "bd1") | (apply Bd.add <;> walk_at "bd1") | (apply Bd.sub <;> walk_at "bd1") | (apply Bd.neg; walk_at "bd1") | (apply Bd.abs; walk_at "bd1") | (apply Bd.ite <;> walk_at "bd1") | (apply Bd.fdiv; walk_at "bd1") | (apply Bd.fmod; (· walk_at "bd1"); (· first | assumption | omega)) | exact Bd.self)
local macro_rules | `(tactic| walk_at "sz") => `(tactic| first | assumption | (apply Bd.mulOk; (· walk_at "bd1"); (· walk_at "bd1"); (· first | decide | omega)) | (apply mulOk_right; apply Bd.le; (· walk_at "bd1"); (· first | decide | omega)) | (apply mulOk_left; apply Bd.le; (· walk_at "bd1"); (· first | decide | omega)) | (apply Bd.divOk; (· walk_at "bd1"); (· first | assumption | omega); (· first | decide | omega)) | (apply Bd.le; (· walk_at "bd1"); (· first | decide | omega)) | (refine ⟨?_, ?_, ?_⟩ <;> decide) | decide | omega)
local macro_rules | `(tactic| walk_at "szs") => `(tactic| first | trivial | walk_at "sz" | (apply And.intro <;> walk_at "szs") | rfl)
local macro_rules | `(tactic| walk_at "szm") => `(tactic| first | walk_at "sz" | (apply And.intro <;> walk_at "szm") | skip)
end Lw
set_option maxRecDepth 100000
set_option maxHeartbeats 4000000
set_option exponentiation.threshold 20000
set_option autoImplicit false
namespace Lw
open PySem PySem.Spec PyProof.Rows L2 Vz
local macro_rules | `(tactic| walk_at "ev") => `(tactic| simp only [Vz.Ok_some, Vz.Ok_none, Vz.Ok_bind, Vz.Th_eq, Vz.Ok_need, Vz.Ok_ite, if_false_right, if_false_left, Vz.vf_eq, Vz.kvf_eq, Vz.e_c_eq, Vz.vc_eq, Vz.e_v_eq, Vz.getV_eq, Vz.vv_eq, Vz.getW_eq, Vz.e_take_eq, Vz.getT_eq, Vz.e_fz_eq, Vz.getF_own, Vz.getF_val, Vz.kz_eq, Vz.k1_eq, Vz.e2_eq, Vz.k2_eq, Vz.k2b_eq, Vz.e1_eq, Vz.klf_eq, Vz.k2o'_eq, Vz.k2o_eq, Vz.has_eq, Vz.e2o_eq, Vz.k2r'_eq, Vz.k2r_eq, Vz.e2r_eq, Vz.kBo_eq, Vz.eBo_eq, Vz.eB_eq, Vz.kB_eq, Vz.a_nil_eq, Vz.a_cons_eq, Vz.ka_eq, Vz.ka2_eq, Vz.r_nil_eq, Vz.r_v_eq, Vz.kr_eq, Vz.kr2_eq, Vz.r_m_eq, Vz.kc3_eq, Vz.kc2_eq, Vz.kc_eq, Vz.e_call_eq, Vz.ksl_eq, Vz.kso_eq, Vz.slotsOf_nil, Vz.slotsOf_d, Vz.slotsOf_m, Vz.msOf_nil, Vz.msOf_d, Vz.msOf_m, Vz.owOf_own, Vz.owOf_arg, Vz.isO_own, Vz.isO_arg, Vz.backs_nil, Vz.backs_d, Vz.backs_m, Vz.putOw_eq, Vz.putK_own, Vz.putK_arg, Vz.bf_eq, Vz.kbf_eq, Vz.t_and_eq, Vz.t_or_eq, Vz.t_not_eq, Vz.kand_eq, Vz.kor_eq, Vz.knot_eq, Vz.tv_eq, Vz.ktv_eq, Vz.e_if_eq, Vz.kif_eq, Vz.ktr_eq, Vz.t_tru_eq, Vz.ktru_eq, Vz.tru_non, Vz.tru_bl, Vz.tru_int, Vz.tru_tup, Vz.tru_lst, Vz.t_yes_eq, Vz.kch4_eq, Vz.kch3_eq, Vz.kch2_eq, Vz.kch1_eq, Vz.kch0_eq, Vz.e_chain_eq, Vz.p_no_eq, Vz.p_at_eq, Vz.kpa_eq, Vz.ksl3_eq, Vz.ksl2_eq, Vz.ksl1_eq, Vz.e_sl_eq, Vz.o_sl_lst, Vz.o_sl_tup, Vz.kso3'_eq, Vz.kso3_eq, Vz.kso2_eq, Vz.e_slo_eq, Vz.c_seq_eq, Vz.ksq_nx, Vz.ksq_rt, Vz.ksq_bk, Vz.ksq_ct, Vz.c_nx_eq, Vz.c_bk_eq, Vz.c_ct_eq, Vz.c_retN_eq, Vz.c_ret_eq, Vz.krt_eq, Vz.c_ex_eq, Vz.kex_eq, Vz.c_if_eq, Vz.kci_eq, Vz.knx_eq, Vz.c_asg_eq, Vz.kas_eq, Vz.g_n_eq, Vz.gv_eq, Vz.Rd_val, Vz.Rd_own, Vz.Owd_lst, Vz.Rsl_val, Vz.Rsl_own, Vz.isArg_val, Vz.isArg_own, Vz.isArg_nov, Vz.gs_nil_eq, Vz.gs_cons_eq, Vz.kgs_eq, Vz.g_tup_eq, Vz.g_lst_eq, Vz.e_callv_eq, Vz.kp2_eq, Vz.c_par_eq, Vz.kp_eq, Vz.kq3_eq, Vz.kq2_eq, Vz.c_par3_eq, Vz.kq_eq, Vz.kap'_eq, Vz.kap_eq, Vz.hasL_eq, Vz.e_app_eq, Vz.e_clr_eq, Vz.kixs_eq, Vz.kix'_eq, Vz.kix_eq, Vz.g_ix_eq, Vz.c_for_eq', Vz.kfo_eq, Vz.s_seq_eq, Vz.kss_lst, Vz.kss_tup, Vz.s_rng_eq, Vz.ksr_ok, Vz.s_rng2_eq, Vz.ksr2_ok, Vz.s_rng3_eq, Vz.s_enum_eq, Vz.kse_eq, Vz.s_zip_eq, Vz.ksz_lst, Vz.ksz_tup, Vz.kfn_rt, Vz.kfn_nx, Vz.outArgs, Vz.ok_fdiv, Vz.ok_mod, Vz.ok_pow, Vz.ok_mul, Vz.add_int, Vz.ok_add_str, Vz.ok_add_lst, Vz.ok_add_tup, Vz.sub_int, Vz.neg_int, Vz.lt_int, Vz.ltX_int, Vz.gtX_int, Vz.leX_int, Vz.geX_int, Vz.maxX_int, Vz.minX_int, Vz.le_int', Vz.gt_int, Vz.ge_int, Vz.eq_int', Vz.ne_int', Vz.eq_bl', Vz.ne_bl', Vz.is_non, Vz.isnt_non, Vz.is_bl, Vz.isNon_non, Vz.isNon_tup, Vz.isNon_int, Vz.isNon_str, Vz.isNon_lst, Vz.isNon_bl, Vz.f1_eq, Vz.f2_eq, Vz.abs_int, Vz.int_int, Vz.int_bl, Vz.max_int, Vz.min_int, Vz.len_lst, Vz.len_tup, Vz.ok_tup, Vz.ok_lst, Vz.list_lst, Vz.list_tup, Vz.tuple_lst, Vz.tuple_tup, Vz.kat_eq, Vz.rngL2, Vz.rngL3, Vz.ok_ix_str, Vz.ok_mul_str, Vz.ok_str_int, Vz.lcGo_nil, Vz.lcGo_cons, Vz.kl1_eq, Vz.kl2_eq, Vz.kl3_eq, Vz.rest_eq, Vz.restGo_cons, Vz.restGo_nil, Vz.forGo_nil, Vz.forGo_cons, Vz.kf1_eq, Vz.kf2_nx, Vz.kf2_ct, Vz.kf2_bk, Vz.kf2_rt, Vz.klc_eq, Vz.e_lc_eq, Vz.noOw_nil, Vz.noOw_cons, Vz.nOw_no, Vz.nOw_val, Vz.wipeE_nil, Vz.wipeE_cons, Vz.LcF_eq, Vz.LcC_eq, Vz.LcT_eq, Vz.LiF_eq, Vz.LiC_eq, Vz.LiT_eq, Vz.isi_int_int, Vz.isi_int_bool, Vz.isi_bool_bool, Vz.isi_tup_tuple, Vz.isi_tup_list, Vz.isi_lst_list, Vz.isi_str_str, Vz.isi_bool_int, Vz.isi_lst_tuple, Vz.isi_int_str, Vz.isi_non_tuple, Vz.isi_int_tuple, Vz.ix_lst, Vz.ix_tup', Vz.atI_0, Vz.atI_1, Vz.atI_2, Vz.atI_3, Vz.atI_4, Vz.atI_5, Vz.atI_6, Vz.atI_7, Vz.atI_8, Vz.atI_9, Vz.Rlf_val, Vz.lf_int, Vz.lf_bl, Vz.lf_str, Vz.lf_non, Vz.lf_tup, Vz.lfs_nil, Vz.lfs_cons, Vz.rev_t_tup, Vz.rev_t_lst, Vz.rev_l_tup, Vz.rev_l_lst, Vz.s_rev_eq, Vz.ksrev_lst, Vz.ksrev_tup, Vz.rngOK_0, Vz.rngOK_1, Vz.rngOK_2, Vz.rngOK_3, Vz.rngOK_4, Vz.rngOK_5, Vz.rngOK_6, Vz.rngOK_7, Vz.rngOK_8, Vz.rngOK_9, Vz.rngOK_10, Vz.rngOK_11, Vz.rngOK_12, Vz.rngOK_13, Vz.rngOK_14, Vz.rngOK_15, Vz.rngOK_16, Vz.rngOK_17, Vz.rngOK_18, Vz.rngOK_19, Vz.rngOK_20, Vz.rngOK_21, Vz.rngOK_22, Vz.rngOK_23, Vz.rngOK_24, Vz.rngOK_25, Vz.rngOK_26, Vz.rngOK_27, Vz.rngOK_28, Vz.rngOK_29, Vz.rngOK_30, Vz.rngOK_31, Vz.rngOK_32, Vz.rngOK_33, Vz.rngOK_34, Vz.rngOK_35, Vz.rngOK_36, Vz.rngOK_37, Vz.rngOK_38, Vz.rngOK_39, Vz.rngOK_40, Vz.rngOK_63, Vz.Owd_dct, Vz.e_d0_eq, Vz.e_dcs_eq, Vz.kdi_eq, Vz.dix_str, Vz.dix_int, Vz.din_str, Vz.din_int, Vz.dict_eq, Vz.kdg3_str, Vz.kdg3_int, Vz.kdg2_eq, Vz.kdg1_eq, Vz.e_dget_eq, Vz.hasD_eq, Vz.kds'_eq, Vz.kds_str, Vz.kds_int, Vz.g_dix_eq, Vz.e_lk_eq, Vz.klk_eq, Vz.s_keys_eq, Vz.ksk_eq, Vz.kct2_eq, Vz.e_callt_eq, Vz.kct_eq,
  List.getElem?_cons_zero, List.getElem?_cons_succ, List.getElem?_nil, List.set_cons_zero, List.set_cons_succ, List.length_cons, List.length_nil, List.cons_append, List.nil_append, List.append_nil, List.map_cons, List.map_nil, List.nodup_cons, List.not_mem_nil, List.mem_cons, List.nodup_nil, List.replicate, Nat.reduceAdd, Nat.reduceSub, Nat.reduceLT, Nat.reduceLeDiff, Nat.reduceEqDiff, Nat.reduceLT, Nat.reduceLeDiff, Int.reduceToNat, Int.reduceLT, Int.reduceLE, Int.reduceEq, Int.reduceNe, Int.toNat_zero, Int.zero_sub, Int.cast_ofNat_Int, Int.natCast_one, Int.natCast_zero,  Int.reducePow, Int.reduceMul, Int.reduceAdd, Int.reduceSub, Int.reduceNeg, Nat.zero_add, Nat.reduceMul, reduceIte, if_true, if_false, and_self, and_true, true_and, not_false_eq_true, not_true_eq_false, Bool.false_eq_true, Bool.not_eq_true', Bool.not_true, Bool.not_false, decide_eq_true_eq, decide_eq_false_iff_not, Bool.true_and, Bool.and_true, reduceCtorEq, or_false, false_or, or_true, true_or, and_false, false_and, Int.reduceNeg, not_false, Nat.lt_irrefl, Nat.succ_ne_zero, ne_eq, Nat.add_one_ne_zero, Nat.zero_ne_one, Nat.one_ne_zero, Nat.lt_add_one, Nat.zero_lt_succ])
local macro_rules | `(tactic| walk_at "bd1") => `(tactic| first | assumption | (apply Bd.mul <;> walk_at "bd1") | (apply Bd.add <;> walk_at "bd1") | (apply Bd.sub <;> walk_at "bd1") | (apply Bd.neg; walk_at "bd1") | (apply Bd.abs; walk_at "bd1") | (apply Bd.ite <;> walk_at "bd1") | (apply Bd.fdiv; walk_at "bd1") | (apply Bd.fmod; (· walk_at "bd1"); (· first | assumption | omega)) | exact Bd.self)
local macro_rules | `(tactic| walk_at "sz") => `(tactic| first | assumption | (apply Bd.mulOk; (· walk_at "bd1"); (· walk_at "bd1"); (· first | decide | omega)) | (apply mulOk_right; apply Bd.le; (· walk_at "bd1"); (· first | decide | omega)) | (apply mulOk_left; apply Bd.le; (· walk_at "bd1"); (· first | decide | omega)) | (apply Bd.divOk; (· walk_at "bd1"); (· first | assumption | omega); (· first | decide | omega)) | (apply Bd.le; (· walk_at "bd1"); (· first | decide | omega)) | (refine ⟨?_, ?_, ?_⟩ <;> decide) | decide | omega)
local macro_rules | `(tactic| walk_at "szs") => `(tactic| first | trivial | walk_at "sz" | (apply And.intro <;> walk_at "szs") | rfl)
local macro_rules | `(tactic| walk_at "szm") => `(tactic| first | walk_at "sz" | (apply And.intro <;> walk_at "szm") | skip)
-- base
/-! the drawing of rules: cells, digits, words -/
abbrev sS (x : String) : Str := PySem.Str.ofString x
/-- a text that can be told -/
abbrev okS (x : Str) : Prop := okc (codes x) = true
theorem eq_str {x y : Str} (h1 : okS x) (h2 : okS y) : o_eq (.str x) (.str y) = some (.val (.bl (decide (x = y)))) := eq_pl (str_pl h1) (str_pl h2) (show 0 ≤ 64 by decide) (show 0 ≤ 64 by decide) (by simp)
theorem codes_app (x y : Str) : codes (x ++ y) = codes x ++ codes y := by
  unfold codes
  rw [PySem.Str.cps_append, Array.toList_append]
theorem okS_app {x y : Str} (h1 : okS x) (h2 : okS y) : okS (x ++ y) := by
  unfold okS okc at *
  rw [codes_app, List.all_append, h1, h2]
  rfl
theorem okS_sign {x : Str} {i : Nat} {c : Nat} (h : okS x) (hc : (codes x)[i]? = some c) : okS ⟨#[c]⟩ := by
  have := List.all_eq_true.mp h c (List.mem_of_getElem? hc)
  show ([c].all (· < 0x110000)) = true
  simpa using this
abbrev pool3 (a b c : Int) : Sl := .arg (.lst [.int a, .int b, .int c])
theorem k_take {a b c m : Int} {P : R × List Sl → Prop} (hm : 0 < m) (hb : Bd 9000 m) (h : ∀ r a' b' : Int, 0 ≤ r → r < m → P (.val (.int r), [pool3 a' b' c, .val (.int m)])) : Ok (m_l_take [pool3 a b c, .val (.int m)]) P := by
  refine Ok_fn rfl rfl ?_
  unfold c_l_take
  walk_at "ev"
  have h1 := fun x => Int.fmod_nonneg_of_pos x hm
  have h2 := fun x => Int.fmod_lt_of_pos x hm
  have h3 : m ≠ 0 ∧ m.natAbs.log2 < 9000 := by walk_at "sz"
  have x0 : ixN 3 0 = some 0 := rfl
  have x1 : ixN 3 1 = some 1 := rfl
  by_cases ha : a = 0
  · rw [if_pos ha]
    walk_at "ev"
    refine ⟨by omega, ?_⟩
    rw [x1]
    walk_at "ev"
    exact ⟨h3, h _ _ _ (h1 _) (h2 _)⟩
  · rw [if_neg ha]
    walk_at "ev"
    refine ⟨by omega, ?_⟩
    rw [x0]
    walk_at "ev"
    exact ⟨h3, h _ _ _ (h1 _) (h2 _)⟩
theorem k_cell {ns : List Int} {k : Int} {P : R × List Sl → Prop} (h0 : 0 ≤ k) (h : ∀ z : Int, P (.val (.int z), [.val (.lst (ns.map D.int)), .val (.int k)])) : Ok (m_l_cell_at [.val (.lst (ns.map D.int)), .val (.int k)]) P := by
  refine Ok_fn rfl rfl ?_
  unfold c_l_cell_at c_l_cell_at_t3
  walk_at "ev"
  split
  · rename_i hlt
    rw [List.length_map] at hlt
    rw [Ok_atI h0 (by rw [List.length_map]; exact hlt), List.getElem_map]
    walk_at "ev"
    exact h _
  · exact h _
theorem k_left {ns : List Int} {k : Int} {P : R × List Sl → Prop} (h0 : 0 ≤ k) (hk : k < 100000) (h : ∀ a b : Int, P (.own (.lst [.int a, .int b, .int 0]), [.val (.lst (ns.map D.int)), .val (.int k)])) : Ok (m_l_left [.val (.lst (ns.map D.int)), .val (.int k)]) P := by
  refine Ok_fn rfl rfl ?_
  unfold c_l_left
  have hbk : Bd 64 k := Bd.lt_of (k := 100000) (by omega) (by decide)
  walk_at "ev"
  refine k_cell h0 fun z => ?_
  walk_at "ev"
  have m0 := Int.fmod_nonneg_of_pos (((if z < 0 then -z else z).fmod 2147483647 * 48271 + 7919 * k + 11)) (show (0 : Int) < 2147483647 by decide)
  have m1 := Int.fmod_lt_of_pos (((if z < 0 then -z else z).fmod 2147483647 * 48271 + 7919 * k + 11)) (show (0 : Int) < 2147483647 by decide)
  refine ⟨by walk_at "sz", by walk_at "sz", ?_⟩
  refine ⟨⟨by decide, by decide, by omega⟩, ?_⟩
  refine ⟨⟨by decide, by decide, by decide⟩, ?_⟩
  refine ⟨by decide +kernel, ?_⟩
  refine k_cell (by decide) fun y => ?_
  walk_at "ev"
  exact ⟨by walk_at "sz", h _ _⟩
/-- a word: some letters -/
structure Wd_ (x : Str) : Prop where
  lo : 1 ≤ x.length
  hi : x.length ≤ 20
  ok : okS x
theorem k_word {a b c : Int} {P : R × List Sl → Prop} (h : ∀ (x : Str) (a' b' : Int), Wd_ x → P (.val (.str x), [pool3 a' b' c])) : Ok (m_l_word [pool3 a b c]) P := by
  refine Ok_fn rfl rfl ?_
  unfold c_l_word
  walk_at "ev"
  refine k_take (by decide) (by walk_at "sz") fun z a1 b1 z0 z1 => ?_
  walk_at "ev"
  refine ⟨rngOK_of (by omega), ?_⟩
  have ka : okS (sS "abcdefghijklmnopqrstuvwxyz") := by decide +kernel
  have la : (codes (sS "abcdefghijklmnopqrstuvwxyz")).length = 26 := by decide +kernel
  have la2 : (sS "abcdefghijklmnopqrstuvwxyz").length = 26 := by decide +kernel
  refine forRng_ok (fun i e => ∃ (a' b' : Int) (x : Str) (s : Sl), x.length = i ∧ okS x ∧ Sl.isArg (some s) = false ∧ e = [pool3 a' b' c, .val (.str (sS "abcdefghijklmnopqrstuvwxyz")), .val (.str x), s]) ⟨_, _, _, .no, rfl, by decide +kernel, rfl, rfl⟩ (fun i e hi he => ?_) (fun e he => ?_)
  · obtain ⟨a', b', x, s, hx, kx, hs, rfl⟩ := he
    unfold c_l_word_b3
    walk_at "ev"
    refine ⟨hs, ?_⟩
    refine k_take (by decide) (by walk_at "sz") fun y a2 b2 y0 y1 => ?_
    walk_at "ev"
    refine ⟨by rw [la2]; decide, ?_⟩
    rw [Ok_atI y0 (by rw [la]; exact y1)]
    have k1 := okS_sign ka (List.getElem?_eq_getElem (show y.toNat < (codes (sS "abcdefghijklmnopqrstuvwxyz")).length by rw [la]; omega))
    refine ⟨by rw [hx]; show i + 1 ≤ 100000; omega, ?_⟩
    rw [Turn_nx]
    refine ⟨_, _, _, _, ?_, okS_app kx k1, rfl, rfl⟩
    rw [PySem.Str.length_append, hx]
    rfl
  · obtain ⟨a', b', x, s, hx, kx, hs, rfl⟩ := he
    have last : ∀ (x : Str) (a' b' : Int) (s : Sl), 1 ≤ x.length → x.length ≤ 10 → okS x → Ok (c_l_word_t7 [pool3 a' b' c, .val (.str (sS "abcdefghijklmnopqrstuvwxyz")), .val (.str x), s]) (Th (kfn [pool3 a b c]) P) := by
      intro x a' b' s h1 h2 kx
      unfold c_l_word_t7 c_l_word_t9
      walk_at "ev"
      have e1 : ∃ q : Bool, o_inX false (.str x) (.tup [.str (sS "and"), .str (sS "or"), .str (sS "not"), .str (sS "any")]) = some (.val (.bl q)) :=
        by classical exact ⟨_, in_pl (p := D.str x ∈ [.str (sS "and"), .str (sS "or"), .str (sS "not"), .str (sS "any")]) its_tup (str_pl kx) (by decide +kernel) (show 0 ≤ 64 by decide) (by decide) Iff.rfl⟩
      obtain ⟨q, e1⟩ := e1
      rw [e1]
      walk_at "ev"
      cases q with
      | true =>
        simp only [if_true]
        refine ⟨by have : (PySem.Str.ofString "x").length = 1 := by decide +kernel
                   omega, ?_⟩
        refine h _ _ _ ⟨?_, ?_, okS_app kx (by decide +kernel)⟩
        · rw [PySem.Str.length_append]; omega
        · rw [PySem.Str.length_append]
          have : (PySem.Str.ofString "x").length = 1 := by decide +kernel
          omega
      | false =>
        simp only [Bool.false_eq_true, if_false]
        exact h _ _ _ ⟨h1, by omega, kx⟩
    walk_at "ev"
    unfold c_l_word_t5
    walk_at "ev"
    refine k_take (by decide) (by walk_at "sz") fun y a2 b2 y0 y1 => ?_
    walk_at "ev"
    split
    · refine k_take (by decide) (by walk_at "sz") fun y a3 b3 y0 y1 => ?_
      walk_at "ev"
      have w12 : ∀ i : Nat, i < 12 → ∃ x : Str, ([.str (sS "an"), .str (sS "nd"), .str (sS "o"), .str (sS "r"), .str (sS "no"), .str (sS "ot"), .str (sS "t"), .str (sS "ny"), .str (sS "y"), .str (sS "andor"), .str (sS "nota"), .str (sS "anyone")] : List D)[i]? = some (.str x) ∧ 1 ≤ x.length ∧ x.length ≤ 10 ∧ okS x := by
        intro i hi
        match i, hi with
        | 0, _ => exact ⟨_, rfl, by decide +kernel, by decide +kernel, by decide +kernel⟩
        | 1, _ => exact ⟨_, rfl, by decide +kernel, by decide +kernel, by decide +kernel⟩
        | 2, _ => exact ⟨_, rfl, by decide +kernel, by decide +kernel, by decide +kernel⟩
        | 3, _ => exact ⟨_, rfl, by decide +kernel, by decide +kernel, by decide +kernel⟩
        | 4, _ => exact ⟨_, rfl, by decide +kernel, by decide +kernel, by decide +kernel⟩
        | 5, _ => exact ⟨_, rfl, by decide +kernel, by decide +kernel, by decide +kernel⟩
        | 6, _ => exact ⟨_, rfl, by decide +kernel, by decide +kernel, by decide +kernel⟩
        | 7, _ => exact ⟨_, rfl, by decide +kernel, by decide +kernel, by decide +kernel⟩
        | 8, _ => exact ⟨_, rfl, by decide +kernel, by decide +kernel, by decide +kernel⟩
        | 9, _ => exact ⟨_, rfl, by decide +kernel, by decide +kernel, by decide +kernel⟩
        | 10, _ => exact ⟨_, rfl, by decide +kernel, by decide +kernel, by decide +kernel⟩
        | 11, _ => exact ⟨_, rfl, by decide +kernel, by decide +kernel, by decide +kernel⟩
      obtain ⟨x', e1, l1, l2, k2⟩ := w12 y.toNat (by omega)
      rw [atI_ge y0, e1]
      walk_at "ev"
      exact last _ _ _ _ l1 l2 k2
    · exact last _ _ _ _ (by omega) (by omega) kx
/-! conditions as trees -/
inductive Tr where
  | any | is (a b : Str) | no (t : Tr) | op (o : Bool) (l r : Tr)
abbrev sAny : D := .str (sS "any")
abbrev sIs : D := .str (sS "is")
abbrev sNot : D := .str (sS "not")
def wOp (o : Bool) : Str := if o then sS "or" else sS "and"
def Tr.d : Tr → D
  | .any => .tup [sAny]
  | .is a b => .tup [sIs, .str a, .str b]
  | .no t => .tup [sNot, t.d]
  | .op o l r => .tup [.str (wOp o), l.d, r.d]
def Tr.dep : Tr → Nat
  | .any => 1
  | .is _ _ => 1
  | .no t => t.dep + 1
  | .op _ l r => max l.dep r.dep + 1
def Tr.ok : Tr → Prop
  | .any => True
  | .is a b => Wd_ a ∧ Wd_ b
  | .no t => t.ok
  | .op _ l r => l.ok ∧ r.ok
def Tr.tru (M : Str → Option Str) : Tr → Bool
  | .any => true
  | .is a b => decide (M a = some b)
  | .no t => !t.tru M
  | .op o l r => if o then l.tru M || r.tru M else l.tru M && r.tru M
theorem tru_op {M : Str → Option Str} {o : Bool} {l r : Tr} : (Tr.op o l r).tru M = if o then l.tru M || r.tru M else l.tru M && r.tru M := rfl
/-- a dict of marks -/
structure Mk (ks : List Key) (ds : List D) (ns xs : List Str) : Prop where
  k : ks = ns.map .inr
  d : ds = xs.map .str
  l : ns.length = xs.length
  nd : ns.Nodup
  o : ∀ x ∈ xs, okS x
def atS : List Str → List Str → Str → Option Str
  | n :: ns, x :: xs, a => if n = a then some x else atS ns xs a
  | _, _, _ => none
theorem atS_get (a : Str) : ∀ ns xs : List Str, getA (.inr a) (ns.map .inr) (xs.map D.str) = (atS ns xs a).map D.str
  | [], xs => by cases xs <;> rfl
  | n :: ns, [] => rfl
  | n :: ns, x :: xs => by
    show (if (Sum.inr n : Key) = .inr a then some (D.str x) else getA (.inr a) (ns.map .inr) (xs.map D.str)) = (if n = a then some x else atS ns xs a).map D.str
    by_cases e : n = a
    · rw [if_pos e, if_pos (by rw [e])]; rfl
    · rw [if_neg e, if_neg fun z => e (Sum.inr.inj z), atS_get a ns xs]
theorem atS_mem (a : Str) : ∀ ns xs : List Str, ns.length = xs.length → ((.inr a : Key) ∈ ns.map (Sum.inr : Str → Key) ↔ (atS ns xs a).isSome = true)
  | [], [], _ => by simp [atS]
  | n :: ns, x :: xs, h => by
    have ih := atS_mem a ns xs (by simpa using h)
    show _ ↔ (if n = a then some x else atS ns xs a).isSome = true
    rw [List.map_cons, List.mem_cons, ih]
    by_cases e : n = a
    · rw [if_pos e]; simp [e]
    · rw [if_neg e]
      constructor
      · rintro (z | z)
        · exact absurd (Sum.inr.inj z).symm e
        · exact z
      · exact .inr
  | [], _ :: _, h => by simp at h
  | _ :: _, [], h => by simp at h
theorem atS_ok {a x : Str} : ∀ {ns xs : List Str}, atS ns xs a = some x → x ∈ xs
  | n :: ns, y :: xs, h => by
    unfold atS at h
    split at h
    · cases h; exact List.mem_cons_self
    · exact List.mem_cons_of_mem _ (atS_ok h)
  | [], _, h => by cases h
  | _ :: _, [], h => by cases h
theorem wop_ok (o : Bool) : okS (wOp o) := by cases o <;> decide +kernel
theorem k_any : okS (sS "any") := by decide +kernel
theorem k_is : okS (sS "is") := by decide +kernel
theorem k_not : okS (sS "not") := by decide +kernel
theorem k_and : okS (sS "and") := by decide +kernel
theorem k_or : okS (sS "or") := by decide +kernel
theorem holds_eq {ks : List Key} {ds : List D} {ns xs : List Str} (m : Mk ks ds ns xs) {lk : Bool} : ∀ (t : Tr) (n : Nat), t.dep ≤ n → t.ok → r_holds n [.val t.d, .val (.dct lk ks ds)] = some (.val (.bl (t.tru (atS ns xs))), [.val t.d, .val (.dct lk ks ds)]) := by
  intro t
  induction t with
  | any =>
    intro n hn _
    obtain ⟨n, rfl⟩ : ∃ k, n = k + 1 := ⟨n - 1, by simp only [Tr.dep] at hn; omega⟩
    apply Ok.eq
    show Ok (fnM 3 2 (c_holds (r_holds n)) _) _
    refine Ok_fn rfl rfl ?_
    unfold c_holds Tr.d
    walk_at "ev"
    rw [eq_str k_any k_any]
    walk_at "ev"
    rfl
  | is a b =>
    intro n hn ho
    obtain ⟨wa, wb⟩ := ho
    obtain ⟨n, rfl⟩ : ∃ k, n = k + 1 := ⟨n - 1, by simp only [Tr.dep] at hn; omega⟩
    apply Ok.eq
    show Ok (fnM 3 2 (c_holds (r_holds n)) _) _
    refine Ok_fn rfl rfl ?_
    unfold c_holds c_holds_t4 Tr.d
    walk_at "ev"
    rw [eq_str k_is k_any, decide_eq_false (show ¬ sS "is" = sS "any" by decide +kernel)]
    walk_at "ev"
    rw [eq_str k_is k_is]
    walk_at "ev"
    have hm : (.inr a : Key) ∈ ks ↔ (atS ns xs a).isSome = true := by rw [m.k]; exact atS_mem a ns xs m.l
    have hg : getA (.inr a) ks ds = (atS ns xs a).map D.str := by rw [m.k, m.d]; exact atS_get a ns xs
    unfold Tr.tru
    cases hx : atS ns xs a with
    | none =>
      rw [hx] at hm
      rw [if_neg fun z => absurd (hm.mp z) (by simp), decide_eq_false (by simp)]
    | some y =>
      rw [hx] at hm hg
      rw [if_pos (hm.mpr rfl), hg]
      show Ok (some (D.str y)) _
      walk_at "ev"
      rw [eq_str (m.o _ (atS_ok hx)) wb.ok]
      walk_at "ev"
      simp
  | no t ih =>
    intro n hn ho
    obtain ⟨n, rfl⟩ : ∃ k, n = k + 1 := ⟨n - 1, by simp only [Tr.dep] at hn; omega⟩
    have hi := ih n (by simp only [Tr.dep] at hn; omega) ho
    apply Ok.eq
    show Ok (fnM 3 2 (c_holds (r_holds n)) _) _
    refine Ok_fn rfl rfl ?_
    unfold c_holds c_holds_t4 c_holds_t6 Tr.d
    walk_at "ev"
    rw [eq_str k_not k_any, decide_eq_false (show ¬ sS "not" = sS "any" by decide +kernel)]
    walk_at "ev"
    rw [eq_str k_not k_is, decide_eq_false (show ¬ sS "not" = sS "is" by decide +kernel)]
    walk_at "ev"
    rw [eq_str k_not k_not]
    walk_at "ev"
    rw [hi]
    walk_at "ev"
    rfl
  | op o l r il ir =>
    intro n hn ho
    obtain ⟨n, rfl⟩ : ∃ k, n = k + 1 := ⟨n - 1, by simp only [Tr.dep] at hn; omega⟩
    have hl := il n (by simp only [Tr.dep] at hn; omega) ho.1
    have hr := ir n (by simp only [Tr.dep] at hn; omega) ho.2
    apply Ok.eq
    show Ok (fnM 3 2 (c_holds (r_holds n)) _) _
    refine Ok_fn rfl rfl ?_
    unfold c_holds c_holds_t4 c_holds_t6 c_holds_t8 c_holds_t10 Tr.d
    walk_at "ev"
    rw [eq_str (wop_ok o) k_any, decide_eq_false (show ¬ wOp o = sS "any" by cases o <;> decide +kernel)]
    walk_at "ev"
    rw [eq_str (wop_ok o) k_is, decide_eq_false (show ¬ wOp o = sS "is" by cases o <;> decide +kernel)]
    walk_at "ev"
    rw [eq_str (wop_ok o) k_not, decide_eq_false (show ¬ wOp o = sS "not" by cases o <;> decide +kernel)]
    walk_at "ev"
    rw [eq_str (wop_ok o) k_and, tru_op]
    cases o with
    | true =>
      rw [decide_eq_false (show ¬ wOp true = sS "and" by decide +kernel)]
      walk_at "ev"
      rw [hl]
      walk_at "ev"
      cases Tr.tru (atS ns xs) l with
      | true => rfl
      | false =>
        simp only [Bool.false_eq_true, if_false]
        rw [hr]
        walk_at "ev"
        rfl
    | false =>
      rw [decide_eq_true (show wOp false = sS "and" by decide +kernel)]
      walk_at "ev"
      rw [hl]
      walk_at "ev"
      cases Tr.tru (atS ns xs) l with
      | true =>
        simp only [if_true]
        rw [hr]
        walk_at "ev"
      | false => rfl
theorem true_eq {ks : List Key} {ds : List D} {ns xs : List Str} (m : Mk ks ds ns xs) {lk : Bool} : ∀ (t : Tr) (n : Nat), t.dep ≤ n → t.ok → r_l_true n [.val t.d, .val (.dct lk ks ds)] = some (.val (.bl (t.tru (atS ns xs))), [.val t.d, .val (.dct lk ks ds)]) := by
  intro t
  induction t with
  | any =>
    intro n hn _
    obtain ⟨n, rfl⟩ : ∃ k, n = k + 1 := ⟨n - 1, by simp only [Tr.dep] at hn; omega⟩
    apply Ok.eq
    show Ok (fnM 4 2 (c_l_true (r_l_true n)) _) _
    refine Ok_fn rfl rfl ?_
    unfold c_l_true c_l_true_t3 c_l_true_t5 Tr.d
    walk_at "ev"
    rw [eq_str k_any k_is, decide_eq_false (show ¬ sS "any" = sS "is" by decide +kernel)]
    walk_at "ev"
    rw [eq_str k_any k_not, decide_eq_false (show ¬ sS "any" = sS "not" by decide +kernel)]
    walk_at "ev"
    rw [cutL_from (by decide), show ([sAny] : List D).drop (1 : Int).toNat = [] from rfl]
    walk_at "ev"
    rw [show o_all (.lst []) = some (.val (.bl true)) from rfl]
    walk_at "ev"
    rw [show o_any (.lst []) = some (.val (.bl false)) from rfl]
    walk_at "ev"
    rw [eq_str k_any k_or, decide_eq_false (show ¬ sS "any" = sS "or" by decide +kernel)]
    walk_at "ev"
    rfl
  | is a b =>
    intro n hn ho
    obtain ⟨wa, wb⟩ := ho
    obtain ⟨n, rfl⟩ : ∃ k, n = k + 1 := ⟨n - 1, by simp only [Tr.dep] at hn; omega⟩
    apply Ok.eq
    show Ok (fnM 4 2 (c_l_true (r_l_true n)) _) _
    refine Ok_fn rfl rfl ?_
    unfold c_l_true Tr.d
    walk_at "ev"
    rw [eq_str k_is k_is]
    walk_at "ev"
    have hg : getA (.inr a) ks ds = (atS ns xs a).map D.str := by rw [m.k, m.d]; exact atS_get a ns xs
    rw [hg]
    unfold Tr.tru
    cases hx : atS ns xs a with
    | none =>
      show Ok (o_eq (.str (sS "")) (.str b)) _
      rw [eq_str (by decide +kernel) wb.ok]
      walk_at "ev"
      have hb : ¬ sS "" = b := fun e => by
        have := wb.lo
        rw [← e] at this
        exact absurd this (by decide +kernel)
      rw [decide_eq_false hb, decide_eq_false (by simp)]
    | some y =>
      show Ok (o_eq (.str y) (.str b)) _
      rw [eq_str (m.o _ (atS_ok hx)) wb.ok]
      walk_at "ev"
      simp
  | no t ih =>
    intro n hn ho
    obtain ⟨n, rfl⟩ : ∃ k, n = k + 1 := ⟨n - 1, by simp only [Tr.dep] at hn; omega⟩
    have hi := ih n (by simp only [Tr.dep] at hn; omega) ho
    apply Ok.eq
    show Ok (fnM 4 2 (c_l_true (r_l_true n)) _) _
    refine Ok_fn rfl rfl ?_
    unfold c_l_true c_l_true_t3 Tr.d
    walk_at "ev"
    rw [eq_str k_not k_is, decide_eq_false (show ¬ sS "not" = sS "is" by decide +kernel)]
    walk_at "ev"
    rw [eq_str k_not k_not]
    walk_at "ev"
    rw [hi]
    walk_at "ev"
    rfl
  | op o l r il ir =>
    intro n hn ho
    obtain ⟨n, rfl⟩ : ∃ k, n = k + 1 := ⟨n - 1, by simp only [Tr.dep] at hn; omega⟩
    have hl := il n (by simp only [Tr.dep] at hn; omega) ho.1
    have hr := ir n (by simp only [Tr.dep] at hn; omega) ho.2
    apply Ok.eq
    show Ok (fnM 4 2 (c_l_true (r_l_true n)) _) _
    refine Ok_fn rfl rfl ?_
    unfold c_l_true c_l_true_t3 c_l_true_t5 Tr.d
    walk_at "ev"
    rw [eq_str (wop_ok o) k_is, decide_eq_false (show ¬ wOp o = sS "is" by cases o <;> decide +kernel)]
    walk_at "ev"
    rw [eq_str (wop_ok o) k_not, decide_eq_false (show ¬ wOp o = sS "not" by cases o <;> decide +kernel)]
    walk_at "ev"
    rw [cutL_from (by decide), show ([.str (wOp o), l.d, r.d] : List D).drop (1 : Int).toNat = [l.d, r.d] from rfl]
    walk_at "ev"
    rw [hl]
    walk_at "ev"
    rw [hr]
    walk_at "ev"
    rw [show ∀ a b : Bool, o_all (.lst [.bl a, .bl b]) = some (.val (.bl (a && b))) from fun a b => by cases a <;> cases b <;> rfl]
    walk_at "ev"
    rw [show ∀ a b : Bool, o_any (.lst [.bl a, .bl b]) = some (.val (.bl (a || b))) from fun a b => by cases a <;> cases b <;> rfl]
    walk_at "ev"
    rw [eq_str (wop_ok o) k_or, tru_op]
    cases o with
    | true =>
      rw [decide_eq_true (show wOp true = sS "or" by decide +kernel)]
      walk_at "ev"
    | false =>
      rw [decide_eq_false (show ¬ wOp false = sS "or" by decide +kernel)]
      walk_at "ev"
/-! conditions drawn -/
abbrev pD (p : Str × Str) : D := .tup [.str p.1, .str p.2]
abbrev wds (W : List (Str × Str)) : Sl := .arg (.lst (W.map pD))
def WOk (W : List (Str × Str)) : Prop := ∀ p ∈ W, Wd_ p.1 ∧ Wd_ p.2
abbrev strL (L : List Str) : List D := L.map .str
/-- what is told of a condition drawn, the counter at c before, W the words before -/
structure Drawn (c : Int) (W : List (Str × Str)) (L : List Str) (t : Tr) (c' : Int) (W' : List (Str × Str)) : Prop where
  ok : t.ok
  lo : c + 2 ≤ c'
  hi : c' ≤ max (c + 2) 26
  len : 2 * (L.length : Int) + 2 ≤ 3 * (c' - c)
  dep : 2 * (t.dep : Int) ≤ c' - c
  w : WOk W'
  wl : 2 * (W'.length : Int) ≤ 2 * W.length + (c' - c)
def ThingOk (m : FM) (r : Int) : Prop := ∀ (a b c : Int) (W : List (Str × Str)) (P : R × List Sl → Prop), 0 ≤ c → c ≤ 1000 → 2 * (W.length : Int) ≤ 1000 + c → WOk W →
  (∀ (L : List Str) (t : Tr) (a' b' c' : Int) (W' : List (Str × Str)), Drawn c W L t c' W' → P (.val (.tup [.lst (strL L), t.d]), [pool3 a' b' c', wds W', .val (.int r)])) → Ok (m [pool3 a b c, wds W, .val (.int r)]) P
def kW (k : Nat) : Str := match k with
  | 0 => sS ""
  | 1 => sS "and"
  | _ => sS "or"
def BuiltOk (m : FM) (r : Int) (k : Nat) : Prop := ∀ (a b c : Int) (W : List (Str × Str)) (P : R × List Sl → Prop), 0 ≤ c → c ≤ 1000 → 2 * (W.length : Int) ≤ 1000 + c → WOk W →
  (∀ (L : List Str) (t : Tr) (a' b' c' : Int) (W' : List (Str × Str)), Drawn c W L t c' W' → P (.val (.tup [.lst (strL L), t.d]), [pool3 a' b' c', wds W', .val (.int r), .val (.str (kW k))])) → Ok (m [pool3 a b c, wds W, .val (.int r), .val (.str (kW k))]) P
theorem ite_or3 {A B C : Prop} [Decidable A] [Decidable B] [Decidable C] {X Y : Prop} (h1 : (A ∨ B ∨ C) → X) (h2 : ¬ (A ∨ B ∨ C) → Y) : if A then X else if B then X else if C then X else Y := by
  by_cases a : A
  · rw [if_pos a]; exact h1 (.inl a)
  · rw [if_neg a]
    by_cases b : B
    · rw [if_pos b]; exact h1 (.inr (.inl b))
    · rw [if_neg b]
      by_cases c : C
      · rw [if_pos c]; exact h1 (.inr (.inr c))
      · rw [if_neg c]; exact h2 fun z => z.elim a fun z => z.elim b c
theorem wds_pl {W : List (Str × Str)} (h : WOk W) : (D.lst (W.map pD)).pl = true ∧ (D.lst (W.map pD)).dep ≤ 64 := by
  refine ⟨pls_map fun p hp => ?_, ?_⟩
  · show ((D.str p.1).pl && ((D.str p.2).pl && true)) = true
    rw [str_pl (h p hp).1.ok, str_pl (h p hp).2.ok]
    rfl
  · show D.deps _ + 1 ≤ 64
    have := deps_map (n := 1) (f := pD) (xs := W) fun _ _ => Nat.le_refl _
    omega
theorem ne_wds {W : List (Str × Str)} (h : WOk W) : o_ne (.lst (W.map pD)) (.lst []) = some (.val (.bl (!decide (W = [])))) := ne_pl (wds_pl h).1 rfl (wds_pl h).2 (by decide) (by simp)
theorem WOk.snoc {W : List (Str × Str)} (h : WOk W) {p : Str × Str} (h1 : Wd_ p.1) (h2 : Wd_ p.2) : WOk (W ++ [p]) := fun q hq => by
  rcases List.mem_append.mp hq with k | k
  · exact h q k
  · rw [List.mem_singleton.mp k]; exact ⟨h1, h2⟩
theorem thing_ok {mt mb : FM} {r : Int} (hr : r ≤ 100) (ht : 1 ≤ r → ThingOk mt (r - 1)) (hb : 1 ≤ r → BuiltOk mb (r - 1) 2) : ThingOk (fnM 7 3 (c_l_thing mt mb)) r := by
  intro a b c W P c0 c1 hW wok h
  refine Ok_fn rfl rfl ?_
  unfold c_l_thing
  walk_at "ev"
  refine k_take (by decide) (by walk_at "sz") fun way a1 b1 w0 w1 => ?_
  walk_at "ev"
  have x2 : ixN 3 2 = some 2 := rfl
  rw [x2]
  walk_at "ev"
  refine ite_or3 (fun _ => ?_) fun hn => ?_
  · have leaf : ∀ (a' b' : Int) (p : Str × Str), Wd_ p.1 → Wd_ p.2 → Ok (c_l_thing_t7 mt mb [pool3 a' b' (c + 2), wds W, .val (.int r), .val (.int way), .val (.lst [.str p.1, .str p.2]), .no, .no]) (Th (ksq (c_l_thing_t9 mt mb)) (Th (kfn [pool3 a b c, wds W, .val (.int r)]) P)) := by
      intro a' b' p h1 h2
      unfold c_l_thing_t7
      walk_at "ev"
      rw [List.length_map]
      refine ⟨by omega, ?_⟩
      have e : W.map pD ++ [.tup [.str p.1, .str p.2]] = (W ++ [p]).map pD := by rw [List.map_append]; rfl
      rw [e]
      refine h [p.1, p.2] (.is p.1 p.2) _ _ _ _ ⟨⟨h1, h2⟩, by omega, by omega, by simp; omega, by simp [Tr.dep]; omega, wok.snoc h1 h2, by rw [List.length_append]; simp; omega⟩
    refine k_word fun x a2 b2 wx => ?_
    walk_at "ev"
    refine k_word fun y a3 b3 wy => ?_
    walk_at "ev"
    by_cases e1 : way.fmod 2 = 1
    · rw [if_pos e1]
      rw [ne_wds wok]
      walk_at "ev"
      by_cases e2 : W = []
      · rw [if_neg fun k => k e2]
        exact leaf _ _ (x, y) wx wy
      · rw [if_pos e2]
        have hl := List.length_pos_iff.mpr e2
        rw [List.length_map]
        refine k_take (by omega) (Bd.lt_of (k := 2000) (by omega) (by decide)) fun z a4 b4 z0 z1 => ?_
        walk_at "ev"
        have hz : z.toNat < W.length := by omega
        have e3 : (W.map pD)[z.toNat]? = some (pD W[z.toNat]) := by rw [List.getElem?_map, List.getElem?_eq_getElem hz]; rfl
        rw [atI_ge z0, e3]
        walk_at "ev"
        have wz := wok _ (List.getElem_mem hz)
        exact leaf _ _ _ wz.1 wz.2
    · rw [if_neg e1]
      exact leaf _ _ (x, y) wx wy
  · have hr1 : 1 ≤ r := by omega
    have hc2 : c + 2 ≤ 24 := by omega
    have ht := ht hr1
    have hb := hb hr1
    unfold c_l_thing_t9
    walk_at "ev"
    by_cases e4 : way = 4
    · rw [if_pos e4]
      exact h [sS "any"] .any _ _ _ _ ⟨trivial, by omega, by omega, by simp; omega, by simp [Tr.dep]; omega, wok, by omega⟩
    · rw [if_neg e4]
      unfold c_l_thing_t11
      walk_at "ev"
      by_cases e5 : way = 5
      · rw [if_pos e5]
        refine ht _ _ _ _ _ (by omega) (by omega) (by omega) wok fun L t a2 b2 c2 W2 dr => ?_
        walk_at "ev"
        have l1 := dr.len
        have l2 := dr.hi
        have l3 := dr.lo
        have l4 := dr.wl
        have l5 := dr.dep
        refine ⟨by rw [List.length_map]; omega, ?_⟩
        refine h (sS "not" :: L) (.no t) _ _ _ _ ⟨dr.ok, by omega, by omega, by rw [List.length_cons]; omega, by simp only [Tr.dep]; omega, dr.w, by omega⟩
      · rw [if_neg e5]
        unfold c_l_thing_t14
        walk_at "ev"
        refine hb _ _ _ _ _ (by omega) (by omega) (by omega) wok fun L t a2 b2 c2 W2 dr => ?_
        walk_at "ev"
        have l1 := dr.len
        have l2 := dr.hi
        have l3 := dr.lo
        have l4 := dr.wl
        have l5 := dr.dep
        refine ⟨by rw [List.length_map]; omega, by rw [List.length_map]; omega, ?_⟩
        have e : .str (sS "(") :: (strL L ++ [.str (sS ")")]) = strL (sS "(" :: (L ++ [sS ")"])) := by unfold strL; rw [List.map_cons, List.map_append]; rfl
        rw [e]
        refine h _ t _ _ _ _ ⟨dr.ok, by omega, by omega, by rw [List.length_cons, List.length_append, List.length_singleton]; omega, by omega, dr.w, by omega⟩
theorem kw_ok (k : Nat) : okS (kW k) := by
  match k with
  | 0 => decide +kernel
  | 1 => decide +kernel
  | k + 2 => show okS (sS "or"); decide +kernel
theorem built_ok {mt mb : FM} {r : Int} {k : Nat} (hk : k ≤ 2) (h0 : k = 0 → ThingOk mt r) (hb : 1 ≤ k → BuiltOk mb r (k - 1)) : BuiltOk (fnM 10 4 (c_l_built mt mb)) r k := by
  intro a b c W P c0 c1 hW wok h
  refine Ok_fn rfl rfl ?_
  unfold c_l_built
  walk_at "ev"
  rw [eq_str (kw_ok k) (by decide +kernel)]
  walk_at "ev"
  by_cases k0 : k = 0
  · subst k0
    rw [if_pos (show kW 0 = sS "" from rfl)]
    refine h0 rfl _ _ _ _ _ c0 c1 hW wok fun L t a2 b2 c2 W2 dr => ?_
    walk_at "ev"
    exact h L t _ _ _ _ dr
  · have hb := hb (by omega)
    obtain ⟨o, ho⟩ : ∃ o : Bool, kW k = wOp o := by
      have : k = 1 ∨ k = 2 := by omega
      rcases this with rfl | rfl
      · exact ⟨false, rfl⟩
      · exact ⟨true, rfl⟩
    have hw : ¬ kW k = sS "" := by rw [ho]; cases o <;> decide +kernel
    rw [if_neg hw]
    unfold c_l_built_t3
    walk_at "ev"
    have e1 : getA (.inr (kW k)) [.inr (sS "or"), .inr (sS "and")] [.str (sS "and"), .str (sS "")] = some (D.str (kW (k - 1))) := by
      have : k = 1 ∨ k = 2 := by omega
      have n1 : ¬ (Sum.inr (sS "or") : Key) = Sum.inr (sS "and") := fun z => absurd (Sum.inr.inj z) (by decide +kernel)
      rcases this with rfl | rfl
      · show (if (Sum.inr (sS "or") : Key) = Sum.inr (sS "and") then _ else if (Sum.inr (sS "and") : Key) = Sum.inr (sS "and") then _ else _) = _
        rw [if_neg n1, if_pos rfl]
        rfl
      · show (if (Sum.inr (sS "or") : Key) = Sum.inr (sS "or") then _ else _) = _
        rw [if_pos rfl]
        rfl
    rw [e1]
    walk_at "ev"
    refine hb _ _ _ _ _ c0 c1 hW wok fun L t a2 b2 c2 W2 dr => ?_
    walk_at "ev"
    refine k_take (by decide) (by walk_at "sz") fun z a3 b3 z0 z1 => ?_
    walk_at "ev"
    have w8 : ∃ m : Nat, m ≤ 5 ∧ ([.int 0, .int 0, .int 0, .int 1, .int 1, .int 2, .int 0, .int 5] : List D)[z.toNat]? = some (.int m) := by
      have : z.toNat < 8 := by omega
      generalize z.toNat = i at *
      match i, this with
      | 0, _ => exact ⟨0, by decide, rfl⟩
      | 1, _ => exact ⟨0, by decide, rfl⟩
      | 2, _ => exact ⟨0, by decide, rfl⟩
      | 3, _ => exact ⟨1, by decide, rfl⟩
      | 4, _ => exact ⟨1, by decide, rfl⟩
      | 5, _ => exact ⟨2, by decide, rfl⟩
      | 6, _ => exact ⟨0, by decide, rfl⟩
      | 7, _ => exact ⟨5, by decide, rfl⟩
    obtain ⟨m, hm, e2⟩ := w8
    rw [atI_ge z0, e2]
    walk_at "ev"
    refine ⟨rngOK_nat (by omega), ?_⟩
    refine forRng_ok (fun i e => ∃ (L : List Str) (t : Tr) (a' b' c' : Int) (W' : List (Str × Str)) (s7 s8 s9 : Sl), Drawn c W L t c' W' ∧ Sl.isArg (some s7) = false ∧ Sl.isArg (some s8) = false ∧ Sl.isArg (some s9) = false ∧
      e = [pool3 a' b' c', wds W', .val (.int r), .val (.str (kW k)), .val (.str (kW (k - 1))), .val (.lst (strL L)), .val t.d, s7, s8, s9]) ⟨L, t, _, _, _, _, .no, .no, .no, dr, rfl, rfl, rfl, rfl⟩ (fun i e hi he => ?_) (fun e he => ?_)
    · obtain ⟨L, t, a4, b4, c4, W4, s7, s8, s9, dr, n7, n8, n9, rfl⟩ := he
      have l1 := dr.len
      have l2 := dr.hi
      have l3 := dr.lo
      have l4 := dr.wl
      have l5 := dr.dep
      unfold c_l_built_b5
      walk_at "ev"
      refine ⟨n7, ?_⟩
      have x2 : ixN 3 2 = some 2 := rfl
      by_cases h24 : c4 < 24
      · rw [if_pos h24]
        refine hb _ _ _ _ _ (by omega) (by omega) (by omega) dr.w fun M u a5 b5 c5 W5 dr2 => ?_
        have k1 := dr2.len
        have k2 := dr2.hi
        have k3 := dr2.lo
        have k4 := dr2.wl
        have k5 := dr2.dep
        walk_at "ev"
        refine ⟨n8, n9, by rw [List.length_map]; omega, by rw [List.length_append, List.length_map, List.length_map, List.length_singleton]; omega, ?_⟩
        rw [Turn_nx]
        have e3 : strL L ++ [.str (kW k)] ++ strL M = strL (L ++ [kW k] ++ M) := by unfold strL; rw [List.map_append, List.map_append]; rfl
        rw [e3]
        refine ⟨L ++ [kW k] ++ M, .op o t u, a5, b5, c5, W5, .val (.int (0 + (i : Int))), .val (.lst (strL M)), .val u.d, ⟨⟨dr.ok, dr2.ok⟩, by omega, by omega, by rw [List.length_append, List.length_append, List.length_singleton]; omega, by simp only [Tr.dep]; omega, dr2.w, by omega⟩, rfl, rfl, rfl, ?_⟩
        rw [ho]
        rfl
      · rw [if_neg h24, Turn_nx]
        exact ⟨L, t, _, _, _, _, _, _, _, dr, rfl, n8, n9, rfl⟩
    · obtain ⟨L, t, a4, b4, c4, W4, s7, s8, s9, dr, n7, n8, n9, rfl⟩ := he
      unfold c_l_built_t10
      walk_at "ev"
      exact h L t _ _ _ _ dr
theorem drawn_ok : ∀ n : Nat, (∀ r : Nat, r ≤ 100 → 4 * r + 1 ≤ n → ThingOk (r_l_thing n).1 (r : Int)) ∧ (∀ r k : Nat, r ≤ 100 → k ≤ 2 → 4 * r + 2 + k ≤ n → BuiltOk (r_l_thing n).2 (r : Int) k)
  | 0 => ⟨fun r _ h => by omega, fun r k _ _ h => by omega⟩
  | n + 1 => by
    obtain ⟨i1, i2⟩ := drawn_ok n
    refine ⟨fun r hr h => ?_, fun r k hr hk h => ?_⟩
    · refine thing_ok (by omega) (fun h1 => ?_) (fun h1 => ?_)
      · have := i1 (r - 1) (by omega) (by omega)
        rwa [show ((r - 1 : Nat) : Int) = (r : Int) - 1 by omega] at this
      · have := i2 (r - 1) 2 (by omega) (by omega) (by omega)
        rwa [show ((r - 1 : Nat) : Int) = (r : Int) - 1 by omega] at this
    · exact built_ok hk (fun _ => i1 r hr (by omega)) (fun _ => i2 r (k - 1) hr (by omega) (by omega))
/-! a dict gets one more -/
theorem mem_inr {ns : List Str} {a : Str} : (.inr a : Key) ∈ ns.map (Sum.inr : Str → Key) ↔ a ∈ ns := by
  rw [List.mem_map]
  exact ⟨fun ⟨y, h1, h2⟩ => Sum.inr.inj h2 ▸ h1, fun h => ⟨a, h, rfl⟩⟩
theorem set_map {α : Type} (f : α → D) (a : Str) (x : α) : ∀ (ns : List Str) (xs : List α), ns.length = xs.length → ∃ xs' : List α, setA (.inr a) (f x) (ns.map .inr) (xs.map f) = xs'.map f ∧ ns.length = xs'.length ∧ ∀ y ∈ xs', y ∈ xs ∨ y = x
  | [], xs, h => ⟨xs, by cases xs <;> rfl, h, fun y hy => .inl hy⟩
  | _ :: _, [], h => by simp at h
  | n :: ns, y :: xs, h => by
    obtain ⟨xs', e1, e2, e3⟩ := set_map f a x ns xs (by simpa using h)
    by_cases e : n = a
    · refine ⟨x :: xs', ?_, by simp [e2], fun z hz => ?_⟩
      · show (if (Sum.inr n : Key) = .inr a then f x else f y) :: setA (.inr a) (f x) (ns.map .inr) (xs.map f) = _
        rw [if_pos (by rw [e]), e1]
        rfl
      · rcases List.mem_cons.mp hz with rfl | hz
        · exact .inr rfl
        · exact (e3 z hz).imp (List.mem_cons_of_mem _) id
    · refine ⟨y :: xs', ?_, by simp [e2], fun z hz => ?_⟩
      · show (if (Sum.inr n : Key) = .inr a then f x else f y) :: setA (.inr a) (f x) (ns.map .inr) (xs.map f) = _
        rw [if_neg fun k => e (Sum.inr.inj k), e1]
        rfl
      · rcases List.mem_cons.mp hz with rfl | hz
        · exact .inl List.mem_cons_self
        · exact (e3 z hz).imp (List.mem_cons_of_mem _) id
theorem put_map {α : Type} (f : α → D) {ns : List Str} {xs : List α} (hl : ns.length = xs.length) (nd : ns.Nodup) (a : Str) (x : α) : ∃ (ns' : List Str) (xs' : List α), putKs (.inr a) (ns.map .inr) = ns'.map .inr ∧ putA (.inr a) (f x) (ns.map .inr) (xs.map f) = xs'.map f ∧ ns'.length = xs'.length ∧ ns'.Nodup ∧ ns'.length ≤ ns.length + 1 ∧ (∀ y ∈ xs', y ∈ xs ∨ y = x) ∧ ∀ n ∈ ns', n ∈ ns ∨ n = a := by
  unfold putKs putA
  by_cases h : a ∈ ns
  · rw [if_pos (mem_inr.mpr h), if_pos (mem_inr.mpr h)]
    obtain ⟨xs', e1, e2, e3⟩ := set_map f a x ns xs hl
    exact ⟨ns, xs', rfl, e1, e2, nd, by omega, e3, fun n hn => .inl hn⟩
  · rw [if_neg fun k => h (mem_inr.mp k), if_neg fun k => h (mem_inr.mp k)]
    refine ⟨ns ++ [a], xs ++ [x], by rw [List.map_append]; rfl, by rw [List.map_append]; rfl, by simp [hl], ?_, by simp, fun y hy => ?_, fun n hn => ?_⟩
    · rw [List.nodup_append]
      exact ⟨nd, by simp, fun y hy z hz e => h (by rw [List.mem_singleton] at hz; rw [← hz, ← e]; exact hy)⟩
    · simpa using hy
    · simpa using hn
theorem Mk.put {ks : List Key} {ds : List D} {ns xs : List Str} (m : Mk ks ds ns xs) {a x : Str} (hx : okS x) : ∃ ns' xs', Mk (putKs (.inr a) ks) (putA (.inr a) (.str x) ks ds) ns' xs' ∧ ns'.length ≤ ns.length + 1 := by
  obtain ⟨hk, hd, hl, nd, ho⟩ := m
  obtain ⟨ns', xs', e1, e2, e3, e4, e5, e6, _⟩ := put_map D.str hl nd a x
  refine ⟨ns', xs', ⟨by rw [hk, e1], by rw [hk, hd, e2], e3, e4, fun y hy => ?_⟩, e5⟩
  rcases e6 y hy with k | k
  · exact ho y k
  · rw [k]; exact hx
theorem ned_eq {l1 l2 : Bool} {ks : List Key} {ds : List D} {ns xs : List Str} (m : Mk ks ds ns xs) : o_ned (.dct l1 ks ds) (.dct l2 ks ds) = some (.val (.bl false)) := by
  have nk : ks.Nodup := by
    rw [m.k]
    exact List.pairwise_map.mpr (m.nd.imp fun h k => h (Sum.inr.inj k))
  have e : ∀ xs : List Str, strsD (xs.map D.str) = some xs := by
    intro xs
    induction xs with
    | nil => rfl
    | cons x xs ih =>
      show (strsD (xs.map D.str)).bind _ = _
      rw [ih]
      rfl
  unfold o_ned
  simp only
  rw [if_pos ⟨trivial, nk⟩, m.d, e]
  simp
theorem m_divisor_eq (a b : Int) : m_divisor [.val (.int a), .val (.int b)] = some (.val (.int (Int.gcd a b)), [.val (.int a), .val (.int b)]) := by
  apply Ok.eq
  refine Ok_fn rfl rfl ?_
  unfold c_divisor c_divisor_b3 c_divisor_t5
  walk_at "ev"
  rw [c_wh_eq]
  have ea : (if a < 0 then -a else a) = (a.natAbs : Int) := by split <;> omega
  have eb : (if b < 0 then -b else b) = (b.natAbs : Int) := by split <;> omega
  rw [ea, eb]
  refine whGo_ok (fun m e => ∃ x y : Nat, m = y ∧ Nat.gcd x y = Int.gcd a b ∧ e = [.val (.int x), .val (.int y)]) (fun m e => ?_) _ b.natAbs _ (by show b.natAbs < (((b.natAbs : Nat) : Int)).natAbs + 1; omega) ⟨a.natAbs, b.natAbs, rfl, rfl, rfl⟩
  rintro ⟨x, y, rfl, hg, rfl⟩
  walk_at "ev"
  rw [WTurn_eq]
  by_cases hy : (m : Int) = 0
  · have : m = 0 := by omega
    subst this
    rw [Nat.gcd_zero_right] at hg
    simp only [Int.natCast_zero, decide_true, Bool.not_true, Bool.false_eq_true, if_false]
    walk_at "ev"
    simp [hg]
  · rw [decide_eq_false hy]
    simp only [Bool.not_false, if_true]
    walk_at "ev"
    refine ⟨hy, ?_⟩
    rw [Turn_nx, Int.fmod_eq_emod_of_nonneg _ (by omega)]
    exact ⟨x % m, Nat.mod_lt _ (by omega), m, x % m, rfl, by rw [Nat.gcd_comm, ← Nat.gcd_rec, Nat.gcd_comm]; exact hg, rfl⟩
theorem pos_of_mul {a b : Int} (ha : 0 ≤ a) (h : 0 < a * b) : 0 < b := by
  by_cases hb : 0 < b
  · exact hb
  · have := Int.mul_le_mul_of_nonneg_left (show b ≤ 0 by omega) ha
    rw [Int.mul_zero] at this
    omega
/-- a number in lowest form -/
def numZ (n d : Int) : Int × Int := if d < 0 then (-n / (Int.gcd (-n) (-d) : Int), -d / (Int.gcd (-n) (-d) : Int)) else (n / (Int.gcd n d : Int), d / (Int.gcd n d : Int))
abbrev nd (p : Int × Int) : D := .tup [.int p.1, .int p.2]
structure NumOf (p : Int × Int) (n d : Int) : Prop where
  pos : 0 < p.2
  low : Int.gcd p.1 p.2 = 1
  same : p.1 * d = n * p.2
theorem low_of {n d : Int} (hd : 0 < d) : NumOf (n / (Int.gcd n d : Int), d / (Int.gcd n d : Int)) n d := by
  have hg : 0 < Int.gcd n d := Int.gcd_pos_of_ne_zero_right _ (by omega)
  obtain ⟨a, ha⟩ := Int.gcd_dvd_left n d
  obtain ⟨b, hb⟩ := Int.gcd_dvd_right n d
  generalize hG : (Int.gcd n d) = G at *
  have hG0 : (G : Int) ≠ 0 := by omega
  have e1 : n / (G : Int) = a := by rw [ha]; exact Int.mul_ediv_cancel_left a hG0
  have e2 : d / (G : Int) = b := by rw [hb]; exact Int.mul_ediv_cancel_left b hG0
  refine ⟨?_, ?_, ?_⟩
  · simp only [e2]
    rw [hb] at hd
    exact pos_of_mul (by omega) hd
  · simp only [e1, e2]
    have := Int.gcd_mul_left (G : Int) a b
    rw [← ha, ← hb, hG] at this
    simp at this
    have h2 : G * 1 = G * Int.gcd a b := by omega
    exact (Nat.eq_of_mul_eq_mul_left hg h2).symm
  · simp only [e1, e2]
    rw [ha, hb]
    grind
theorem numZ_of {n d : Int} (hd : d ≠ 0) : NumOf (numZ n d) n d := by
  unfold numZ
  split
  · have h := low_of (n := -n) (d := -d) (by omega)
    refine ⟨h.pos, h.low, ?_⟩
    have := h.same
    grind
  · exact low_of (by omega)
theorem numZ_bd {n d : Int} {k m : Nat} (h1 : Bd k n) (h2 : Bd m d) : Bd k (numZ n d).1 ∧ Bd m (numZ n d).2 := by
  unfold numZ
  split
  · exact ⟨h1.neg.ediv, h2.neg.ediv⟩
  · exact ⟨h1.ediv, h2.ediv⟩
theorem gcd_bd {n d : Int} {m : Nat} (h2 : Bd m d) (hd : d ≠ 0) : Bd m (Int.gcd n d : Int) := by
  refine h2.of_le ?_
  have := Int.gcd_le_natAbs_right n hd
  omega
theorem m_number_eq {n d : Int} (hd : d ≠ 0) (hb : Bd 9000 d) : m_number [.val (.int n), .val (.int d)] = some (.val (nd (numZ n d)), [.val (.int n), .val (.int d)]) := by
  apply Ok.eq
  refine Ok_fn rfl rfl ?_
  unfold c_number c_number_t4 numZ
  walk_at "ev"
  have go : ∀ n d : Int, 0 < d → Bd 9000 d → ((Int.gcd n d : Int) ≠ 0 ∧ (Int.gcd n d : Int).natAbs.log2 < 9000) := fun n d h1 h2 => by
    have hg : 0 < Int.gcd n d := Int.gcd_pos_of_ne_zero_right _ (by omega)
    have := gcd_bd (n := n) h2 (by omega)
    walk_at "sz"
  split
  · rw [m_divisor_eq]
    walk_at "ev"
    refine ⟨go _ _ (by omega) ?_, go _ _ (by omega) ?_, ?_⟩
    · exact hb.neg
    · exact hb.neg
    · rw [Int.fdiv_eq_ediv_of_nonneg _ (Int.natCast_nonneg _), Int.fdiv_eq_ediv_of_nonneg _ (Int.natCast_nonneg _)]
  · rw [m_divisor_eq]
    walk_at "ev"
    refine ⟨go _ _ (by omega) hb, go _ _ (by omega) hb, ?_⟩
    · rw [Int.fdiv_eq_ediv_of_nonneg _ (Int.natCast_nonneg _), Int.fdiv_eq_ediv_of_nonneg _ (Int.natCast_nonneg _)]
/-! a law's own number -/
theorem k_low2 {a b : Int} {P : R × List Sl → Prop} (hb : 0 < b) (h1 : Bd 100 a) (h2 : Bd 100 b) (h : ∀ p q : Int, P (.val (.tup [.int p, .int q]), [.val (.int a), .val (.int b)])) : Ok (m_l_lowest [.val (.int a), .val (.int b)]) P := by
  refine Ok_fn rfl rfl ?_
  unfold c_l_lowest
  walk_at "ev"
  rw [c_wh_eq]
  have ea : (if a < 0 then -a else a) = (a.natAbs : Int) := by split <;> omega
  rw [ea]
  refine whGo_ok (fun m e => ∃ x y : Nat, m = x ∧ 0 < y ∧ Bd 100 (y : Int) ∧ Bd 100 (x : Int) ∧ e = [.val (.int a), .val (.int b), .val (.int x), .val (.int y)]) (fun m e => ?_) _ a.natAbs _ (by show a.natAbs < (((a.natAbs : Nat) : Int)).natAbs + 1; omega) ⟨a.natAbs, b.toNat, rfl, by omega, ?_, ?_, ?_⟩
  · rintro ⟨x, y, rfl, hy, by_, bx, rfl⟩
    walk_at "ev"
    rw [WTurn_eq]
    by_cases hm : (m : Int) = 0
    · rw [decide_eq_true hm]
      simp only [Bool.not_true, Bool.false_eq_true, if_false]
      unfold c_l_lowest_t5
      walk_at "ev"
      have d : (y : Int) ≠ 0 ∧ (y : Int).natAbs.log2 < 9000 := Bd.divOk by_ (by omega) (by decide)
      exact ⟨d, d, h _ _⟩
    · rw [decide_eq_false hm]
      simp only [Bool.not_false, if_true]
      unfold c_l_lowest_b3
      walk_at "ev"
      refine ⟨hm, ?_⟩
      rw [Turn_nx, Int.fmod_eq_emod_of_nonneg _ (by omega)]
      refine ⟨y % m, Nat.mod_lt _ (by omega), y % m, m, rfl, by omega, bx, ?_, by rw [Int.natCast_emod]⟩
      exact bx.of_le (by have := Nat.mod_lt y (show 0 < m by omega); omega)
  · rw [Int.toNat_of_nonneg (by omega)]; exact h2
  · exact h1.of_le (by omega)
  · rw [Int.toNat_of_nonneg (by omega)]
theorem k_worth {a b c : Int} {P : R × List Sl → Prop} (h : ∀ p q a' b' : Int, P (.val (.tup [.int p, .int q]), [pool3 a' b' c])) : Ok (m_l_worth [pool3 a b c]) P := by
  refine Ok_fn rfl rfl ?_
  unfold c_l_worth
  walk_at "ev"
  refine k_take (by decide) (by walk_at "sz") fun z a1 b1 z0 z1 => ?_
  walk_at "ev"
  refine k_take (by decide) (by walk_at "sz") fun y a2 b2 y0 y1 => ?_
  walk_at "ev"
  have last : ∀ (p q a' b' : Int), 0 < q → Bd 90 p → Bd 90 q → Ok (c_l_worth_t5 [pool3 a' b' c, .val (.int p), .val (.int q)]) (Th (kfn [pool3 a b c]) P) := by
    intro p q a' b' hq bp bq
    unfold c_l_worth_t5 c_l_worth_t8
    walk_at "ev"
    refine k_take (by decide) (by walk_at "sz") fun x a3 b3 x0 x1 => ?_
    walk_at "ev"
    split
    · have f1 := Int.fmod_nonneg_of_pos p (show (0 : Int) < 9 by decide)
      have f2 := Int.fmod_lt_of_pos p (show (0 : Int) < 9 by decide)
      have f3 := Int.fmod_nonneg_of_pos q (show (0 : Int) < 4 by decide)
      have f4 := Int.fmod_lt_of_pos q (show (0 : Int) < 4 by decide)
      refine k_low2 (by omega) (Bd.lt_of (k := 100) (by omega) (by decide)) (Bd.lt_of (k := 100) (by omega) (by decide)) fun u v => ?_
      walk_at "ev"
      exact h _ _ _ _
    · refine k_low2 (by omega) (bp.le (by decide)) (bq.le (by decide)) fun u v => ?_
      walk_at "ev"
      exact h _ _ _ _
  split
  · refine k_take (by decide) (by walk_at "sz") fun x a3 b3 x0 x1 => ?_
    walk_at "ev"
    exact last _ _ _ _ (by omega) (Bd.lt_of (k := 3000000) (by omega) (by decide)) (Bd.lt_of (k := 3000000) (by omega) (by decide))
  · exact last _ _ _ _ (by decide) (Bd.lt_of (k := 3000000) (by omega) (by decide)) (Bd.lt_of (k := 3000000) (by decide) (by decide))
/-! kinds -/
abbrev lD (L : List Str) : D := .lst (L.map .str)
structure Kd (ks : List Key) (ds : List D) (ns : List Str) (ms : List (List Str)) : Prop where
  k : ks = ns.map .inr
  d : ds = ms.map lD
  l : ns.length = ms.length
  nd : ns.Nodup
  w : ∀ n ∈ ns, Wd_ n
  m : ∀ L ∈ ms, 1 ≤ L.length ∧ L.length ≤ 12 ∧ ∀ x ∈ L, Wd_ x
theorem strs_pl {L : List Str} (h : ∀ x ∈ L, Wd_ x) : D.pls (L.map .str) = true := pls_map fun x hx => str_pl (h x hx).ok
theorem notin_strs {x : Str} {L : List Str} (hx : Wd_ x) (h : ∀ y ∈ L, Wd_ y) : o_inX true (.str x) (.lst (L.map .str)) = some (.val (.bl (!decide (x ∈ L)))) :=
  notin_pl its_lst (str_pl hx.ok) (strs_pl h) (show 0 ≤ 64 by decide) (Nat.lt_of_le_of_lt (deps_map (n := 0) fun _ _ => Nat.le_refl 0) (by decide)) (by rw [List.mem_map]; exact ⟨fun ⟨y, h1, h2⟩ => D.str.inj h2 ▸ h1, fun h => ⟨x, h, rfl⟩⟩)
theorem k_kinds {a b c : Int} {P : R × List Sl → Prop} (h : ∀ (ks : List Key) (ds : List D) (ns : List Str) (ms : List (List Str)) (a' b' : Int), Kd ks ds ns ms → ns.length ≤ 6 → P (.own (.dct ks ds), [pool3 a' b' c])) : Ok (m_l_kinds [pool3 a b c]) P := by
  refine Ok_fn rfl rfl ?_
  unfold c_l_kinds
  walk_at "ev"
  refine k_take (by decide) (by walk_at "sz") fun z a1 b1 z0 z1 => ?_
  walk_at "ev"
  have w1 : ∃ m : Int, 1 ≤ m ∧ m ≤ 12 ∧ ([.int 4, .int 4, .int 4, .int 4, .int 4, .int 4, .int 4, .int 12] : List D)[z.toNat]? = some (.int m) := by
    have : z.toNat < 8 := by omega
    generalize z.toNat = i at *
    match i, this with
    | 0, _ => exact ⟨4, by decide, by decide, rfl⟩
    | 1, _ => exact ⟨4, by decide, by decide, rfl⟩
    | 2, _ => exact ⟨4, by decide, by decide, rfl⟩
    | 3, _ => exact ⟨4, by decide, by decide, rfl⟩
    | 4, _ => exact ⟨4, by decide, by decide, rfl⟩
    | 5, _ => exact ⟨4, by decide, by decide, rfl⟩
    | 6, _ => exact ⟨4, by decide, by decide, rfl⟩
    | 7, _ => exact ⟨12, by decide, by decide, rfl⟩
  obtain ⟨most, m1, m2, e1⟩ := w1
  rw [atI_ge z0, e1]
  walk_at "ev"
  refine k_take (by decide) (by walk_at "sz") fun y a2 b2 y0 y1 => ?_
  walk_at "ev"
  have w2 : ∃ m : Int, 0 ≤ m ∧ m ≤ 6 ∧ ([.int 0, .int 1, .int 2, .int 3, .int 1, .int 2, .int 3, .int 6] : List D)[y.toNat]? = some (.int m) := by
    have : y.toNat < 8 := by omega
    generalize y.toNat = i at *
    match i, this with
    | 0, _ => exact ⟨0, by decide, by decide, rfl⟩
    | 1, _ => exact ⟨1, by decide, by decide, rfl⟩
    | 2, _ => exact ⟨2, by decide, by decide, rfl⟩
    | 3, _ => exact ⟨3, by decide, by decide, rfl⟩
    | 4, _ => exact ⟨1, by decide, by decide, rfl⟩
    | 5, _ => exact ⟨2, by decide, by decide, rfl⟩
    | 6, _ => exact ⟨3, by decide, by decide, rfl⟩
    | 7, _ => exact ⟨6, by decide, by decide, rfl⟩
  obtain ⟨many, n1, n2, e2⟩ := w2
  rw [atI_ge y0, e2]
  walk_at "ev"
  have last : ∀ most many : Int, 1 ≤ most → most ≤ 12 → 0 ≤ many → many ≤ 6 → Ok (c_l_kinds_t8 [pool3 a2 b2 c, .own (.dct [] []), .val (.int most), .val (.int many), .no, .no, .no, .no, .no]) (Th (kfn [pool3 a b c]) P) := by
    intro most many m1 m2 n1 n2
    unfold c_l_kinds_t8
    walk_at "ev"
    refine ⟨rngOK_of (by omega), ?_⟩
    refine forRng_ok (fun i e => ∃ (a' b' : Int) (ks : List Key) (ds : List D) (ns : List Str) (ms : List (List Str)) (most : Int) (s4 s5 s6 s7 s8 : Sl), Kd ks ds ns ms ∧ ns.length ≤ i ∧ 1 ≤ most ∧ most ≤ 12 ∧ Sl.isArg (some s4) = false ∧ Sl.isArg (some s5) = false ∧ Sl.isArg (some s6) = false ∧ Sl.isArg (some s7) = false ∧ Sl.isArg (some s8) = false ∧
      e = [pool3 a' b' c, .own (.dct ks ds), .val (.int most), .val (.int many), s4, s5, s6, s7, s8]) ⟨_, _, [], [], [], [], most, .no, .no, .no, .no, .no, ⟨rfl, rfl, rfl, List.nodup_nil, fun n hn => absurd hn (by simp), fun L hL => absurd hL (by simp)⟩, Nat.le_refl _, m1, m2, rfl, rfl, rfl, rfl, rfl, rfl⟩ (fun i e hi he => ?_) (fun e he => ?_)
    · obtain ⟨a3, b3, ks, ds, ns, ms, most, s4, s5, s6, s7, s8, kd, hn, m1, m2, q4, q5, q6, q7, q8, rfl⟩ := he
      unfold c_l_kinds_b8
      walk_at "ev"
      refine ⟨q4, ?_⟩
      refine k_word fun name a4 b4 wn => ?_
      walk_at "ev"
      refine ⟨q5, q6, ?_⟩
      refine k_take (by omega) (Bd.lt_of (k := 100) (by omega) (by decide)) fun t a5 b5 t0 t1 => ?_
      walk_at "ev"
      refine ⟨rngOK_of (by omega), ?_⟩
      refine forRng_ok (fun j e => ∃ (a' b' : Int) (L : List Str) (s7 s8 : Sl), (0 < j → 1 ≤ L.length) ∧ L.length ≤ j ∧ (∀ x ∈ L, Wd_ x) ∧ Sl.isArg (some s7) = false ∧ Sl.isArg (some s8) = false ∧
        e = [pool3 a' b' c, .own (.dct ks ds), .val (.int most), .val (.int many), .val (.int (0 + (i : Int))), .val (.str name), .own (.lst (L.map .str)), s7, s8]) ⟨_, _, [], _, _, fun h => absurd h (Nat.lt_irrefl _), Nat.le_refl _, fun x hx => absurd hx (by simp), q7, q8, rfl⟩ (fun j e hj he => ?_) (fun e he => ?_)
      · obtain ⟨a6, b6, L, s7, s8, l1, l2, lw, q7, q8, rfl⟩ := he
        unfold c_l_kinds_b11
        walk_at "ev"
        refine ⟨q7, ?_⟩
        refine k_word fun x a7 b7 wx => ?_
        walk_at "ev"
        refine ⟨q8, ?_⟩
        rw [notin_strs wx lw]
        walk_at "ev"
        by_cases hx : x ∈ L
        · rw [if_neg fun k => k hx, Turn_nx]
          exact ⟨_, _, L, _, _, fun _ => List.length_pos_of_mem hx, by omega, lw, rfl, rfl, rfl⟩
        · rw [if_pos hx]
          rw [List.length_map]
          refine ⟨by omega, ?_⟩
          rw [Turn_nx]
          refine ⟨_, _, L ++ [x], _, _, fun _ => by simp, by simp; omega, fun y hy => ?_, rfl, rfl, by rw [List.map_append]; rfl⟩
          rcases List.mem_append.mp hy with k | k
          · exact lw y k
          · rw [List.mem_singleton.mp k]; exact wx
      · obtain ⟨a6, b6, L, s7, s8, l1, l2, lw, q7, q8, rfl⟩ := he
        have l1 := l1 (by omega)
        have l2 : L.length ≤ 12 := by omega
        have hk : ks.length = ns.length := by rw [kd.k, List.length_map]
        unfold c_l_kinds_t15
        walk_at "ev"
        refine ⟨by omega, ?_⟩
        rw [Turn_nx]
        obtain ⟨ns', ms', f1, f2, f3, f4, f5, f6, f7⟩ := put_map lD kd.l kd.nd name L
        refine ⟨_, _, _, _, ns', ms', _, _, _, _, _, _, ⟨by rw [kd.k]; exact f1, by rw [kd.k, kd.d]; exact f2, f3, f4, fun n hn => ?_, fun M hM => ?_⟩, by omega, ?_, ?_, rfl, rfl, rfl, q7, q8, rfl⟩
        · rcases f7 n hn with k | k
          · exact kd.w n k
          · rw [k]; exact wn
        · rcases f6 M hM with k | k
          · exact kd.m M k
          · rw [k]; exact ⟨l1, l2, lw⟩
        · split <;> omega
        · split <;> omega
    · obtain ⟨a3, b3, ks, ds, ns, ms, most, s4, s5, s6, s7, s8, kd, hn, m1, m2, q4, q5, q6, q7, q8, rfl⟩ := he
      unfold c_l_kinds_t17
      walk_at "ev"
      exact h _ _ ns ms _ _ kd (by omega)
  have mid : ∀ most many : Int, 1 ≤ most → most ≤ 12 → 0 ≤ many → many ≤ 6 → Ok (c_l_kinds_t6 [pool3 a2 b2 c, .own (.dct [] []), .val (.int most), .val (.int many), .no, .no, .no, .no, .no]) (Th (kfn [pool3 a b c]) P) := by
    intro most many m1 m2 n1 n2
    unfold c_l_kinds_t6
    walk_at "ev"
    split
    · exact last _ _ m1 m2 (by split <;> omega) (by split <;> omega)
    · exact last _ _ m1 m2 n1 n2
  split
  · exact mid _ _ (by decide) (by decide) n1 n2
  · exact mid _ _ m1 m2 n1 n2
/-! marks -/
theorem getA_map {α : Type} (f : α → D) (a : Str) : ∀ (ns : List Str) (ms : List α), ns.length = ms.length → a ∈ ns → ∃ L, L ∈ ms ∧ getA (.inr a) (ns.map .inr) (ms.map f) = some (f L)
  | [], _, _, h => by simp at h
  | _ :: _, [], h, _ => by simp at h
  | n :: ns, M :: ms, h, ha => by
    show ∃ L, L ∈ M :: ms ∧ (if (Sum.inr n : Key) = .inr a then some (f M) else getA (.inr a) (ns.map .inr) (ms.map f)) = some (f L)
    by_cases e : n = a
    · exact ⟨M, List.mem_cons_self, by rw [if_pos (by rw [e])]⟩
    · have ha' : a ∈ ns := by
        rcases List.mem_cons.mp ha with k | k
        · exact absurd k.symm e
        · exact k
      obtain ⟨L, h1, h2⟩ := getA_map f a ns ms (by simpa using h) ha'
      exact ⟨L, List.mem_cons_of_mem _ h1, by rw [if_neg fun k => e (Sum.inr.inj k), h2]⟩
theorem Kd.get {ks : List Key} {ds : List D} {ns : List Str} {ms : List (List Str)} (kd : Kd ks ds ns ms) {a : Str} (h : a ∈ ns) : ∃ L, getA (.inr a) ks ds = some (lD L) ∧ 1 ≤ L.length ∧ L.length ≤ 12 ∧ ∀ x ∈ L, Wd_ x := by
  obtain ⟨L, h1, h2⟩ := getA_map lD a ns ms kd.l h
  exact ⟨L, by rw [kd.k, kd.d]; exact h2, kd.m L h1⟩
theorem kd_keys {ks : List Key} {ds : List D} {ns : List Str} {ms : List (List Str)} (kd : Kd ks ds ns ms) : ks.map kD = ns.map .str := by
  rw [kd.k, List.map_map]
  rfl
theorem k_marks {a b c : Int} {ks : List Key} {ds : List D} {ns : List Str} {ms : List (List Str)} {P : R × List Sl → Prop} (kd : Kd ks ds ns ms) (h : ∀ (ks' : List Key) (ds' : List D) (nm xs : List Str) (a' b' : Int), Mk ks' ds' nm xs → P (.own (.dct ks' ds'), [pool3 a' b' c, .val (.dct true ks ds)])) (hn : ns.length ≤ 6) :
    Ok (m_l_marks [pool3 a b c, .val (.dct true ks ds)]) P := by
  refine Ok_fn rfl rfl ?_
  unfold c_l_marks
  walk_at "ev"
  rw [kd_keys kd]
  refine forGo_ok (fun i e => ∃ (a' b' : Int) (ks' : List Key) (ds' : List D) (nm xs : List Str) (s3 s4 : Sl), Mk ks' ds' nm xs ∧ nm.length ≤ i ∧ Sl.isArg (some s3) = false ∧ Sl.isArg (some s4) = false ∧
    e = [pool3 a' b' c, .val (.dct true ks ds), .own (.dct ks' ds'), s3, s4]) ⟨_, _, [], [], [], [], .no, .no, ⟨rfl, rfl, rfl, List.nodup_nil, fun y hy => absurd hy (by simp)⟩, Nat.le_refl _, rfl, rfl, rfl⟩ (fun i d e hd he => ?_) (fun e he => ?_)
  · obtain ⟨a1, b1, ks', ds', nm, xs, s3, s4, mk, hm, n3, n4, rfl⟩ := he
    rw [List.getElem?_map] at hd
    obtain ⟨p, hp, rfl⟩ := Option.map_eq_some_iff.mp hd
    obtain ⟨hi, ep⟩ := List.getElem?_eq_some_iff.mp hp
    have pm : p ∈ ns := ep ▸ List.getElem_mem hi
    obtain ⟨L, hL, l1, l2, lw⟩ := kd.get pm
    have hk : ks'.length = nm.length := by rw [mk.k, List.length_map]
    have stp : ∀ (x : Str) (a' b' : Int) (s3 s4 : Sl), okS x → Sl.isArg (some s3) = false → Sl.isArg (some s4) = false → ∃ (a2 b2 : Int) (ks2 : List Key) (ds2 : List D) (ns2 xs2 : List Str) (t3 t4 : Sl), Mk ks2 ds2 ns2 xs2 ∧ ns2.length ≤ i + 1 ∧ Sl.isArg (some t3) = false ∧ Sl.isArg (some t4) = false ∧
        [pool3 a' b' c, .val (.dct true ks ds), .own (.dct (putKs (.inr p) ks') (putA (.inr p) (.str x) ks' ds')), s3, s4] = [pool3 a2 b2 c, .val (.dct true ks ds), .own (.dct ks2 ds2), t3, t4] := by
      intro x a' b' s3 s4 hx n3 n4
      obtain ⟨ns2, xs2, m2, l2⟩ := mk.put (a := p) hx
      exact ⟨_, _, _, _, ns2, xs2, _, _, m2, by omega, n3, n4, rfl⟩
    unfold c_l_marks_b2
    walk_at "ev"
    refine ⟨n3, ?_⟩
    refine k_take (by decide) (by walk_at "sz") fun way a2 b2 w0 w1 => ?_
    walk_at "ev"
    refine ⟨n4, ?_⟩
    split
    · rw [hL]
      walk_at "ev"
      rw [hL]
      walk_at "ev"
      rw [List.length_map]
      refine k_take (by omega) (Bd.lt_of (k := 2000) (by omega) (by decide)) fun z a4 b4 z0 z1 => ?_
      walk_at "ev"
      have hz : z.toNat < L.length := by omega
      have e3 : (L.map D.str)[z.toNat]? = some (.str L[z.toNat]) := by rw [List.getElem?_map, List.getElem?_eq_getElem hz]; rfl
      rw [atI_ge z0, e3]
      walk_at "ev"
      refine ⟨by omega, ?_⟩
      rw [Turn_nx]
      exact stp _ _ _ _ _ (lw _ (List.getElem_mem hz)).ok rfl rfl
    · split
      · refine k_word fun x a3 b3 wx => ?_
        walk_at "ev"
        refine ⟨by omega, ?_⟩
        rw [Turn_nx]
        exact stp _ _ _ _ _ wx.ok rfl rfl
      · rw [Turn_nx]
        exact ⟨_, _, ks', ds', nm, xs, _, _, mk, by omega, rfl, rfl, rfl⟩
  · obtain ⟨a1, b1, ks', ds', nm, xs, s3, s4, mk, hm, n3, n4, rfl⟩ := he
    unfold c_l_marks_t8
    walk_at "ev"
    exact h _ _ nm xs _ _ mk
/-! books -/
abbrev Rule := Tr × (Int × Int)
abbrev ruD (r : Rule) : D := .tup [r.1.d, .tup [.int r.2.1, .int r.2.2]]
def BkOk (B : List Rule) : Prop := ∀ r ∈ B, r.1.ok ∧ r.1.dep ≤ 20
def firstB (M : Str → Option Str) : List Rule → Option Nat
  | [] => none
  | r :: B => if r.1.tru M then some 0 else (firstB M B).map (· + 1)
theorem first_cons {M : Str → Option Str} {r : Rule} {B : List Rule} : firstB M (r :: B) = if r.1.tru M then some 0 else (firstB M B).map (· + 1) := rfl
def optD : Option Nat → D
  | none => .non
  | some k => .int k
theorem first_lt {M : Str → Option Str} {k : Nat} : ∀ {B : List Rule}, firstB M B = some k → k < B.length
  | [], h => by cases h
  | r :: B, h => by
    unfold firstB at h
    split at h
    · cases h; simp
    · obtain ⟨j, h1, h2⟩ := Option.map_eq_some_iff.mp h
      have := first_lt h1
      simp
      omega
theorem first_ok {m : FM} {M : Str → Option Str} {mk : D} {B : List Rule} (hm : ∀ r ∈ B, m [.val r.1.d, .val mk] = some (.val (.bl (r.1.tru M)), [.val r.1.d, .val mk])) {c : Cm} {P : Out → Prop}
    (hc : c = c_if (t_tru (e_call m [] (r_v (e2 o_ix (e_v 3) (e_c (.int 0))) (r_v (e_v 1) (r_nil))))) (c_ret (e_v 2)) (c_nx)) (h0 : firstB M B = none → ∀ s2 s3, P (.nx [.val (.lst (B.map ruD)), .val mk, s2, s3]))
    (h1 : ∀ k s, firstB M B = some k → P (.rt (.val (.int (k : Int))) [.val (.lst (B.map ruD)), .val mk, .val (.int k), s])) : Ok (forGo (g_tup 2 (gs_cons (g_n 2) (gs_cons (g_n 3) (gs_nil)))) c (enumL 0 (B.map ruD)) [.val (.lst (B.map ruD)), .val mk, .no, .no]) P := by
  subst hc
  refine forGo_ok (fun i e => ∃ s2 s3 : Sl, firstB M B = (firstB M (B.drop i)).map (· + i) ∧ Sl.isArg (some s2) = false ∧ Sl.isArg (some s3) = false ∧ e = [.val (.lst (B.map ruD)), .val mk, s2, s3]) ⟨.no, .no, by simp, rfl, rfl, rfl⟩ (fun i d e hd he => ?_) (fun e he => ?_)
  · obtain ⟨s2, s3, hf, n2, n3, rfl⟩ := he
    obtain ⟨x, hx, rfl⟩ := enumL_get hd
    rw [List.getElem?_map] at hx
    obtain ⟨r, hr, rfl⟩ := Option.map_eq_some_iff.mp hx
    obtain ⟨hi, er⟩ := List.getElem?_eq_some_iff.mp hr
    rw [List.drop_eq_getElem_cons hi, er, first_cons] at hf
    have hr' : r ∈ B := er ▸ List.getElem_mem hi
    walk_at "ev"
    refine ⟨n2, n3, ?_⟩
    rw [hm r hr']
    walk_at "ev"
    cases ht : Tr.tru M r.1 with
    | true =>
      rw [ht] at hf
      simp only [if_true]
      rw [Turn_rt]
      exact h1 i _ (by rw [hf]; simp)
    | false =>
      rw [ht] at hf
      simp only [Bool.false_eq_true, if_false]
      rw [Turn_nx]
      refine ⟨_, _, ?_, rfl, rfl, rfl⟩
      rw [hf]
      simp only [Bool.false_eq_true, if_false, Option.map_map]
      congr 1
      funext k
      show k + 1 + i = k + (i + 1)
      omega
  · obtain ⟨s2, s3, hf, n2, n3, rfl⟩ := he
    rw [enumL_length, List.length_map, List.drop_length] at hf
    exact h0 (by rw [hf]; rfl) _ _
theorem m_first_eq {B : List Rule} (hB : BkOk B) {ks : List Key} {ds : List D} {ns xs : List Str} (mk : Mk ks ds ns xs) {lk : Bool} : m_first_holding [.val (.lst (B.map ruD)), .val (.dct lk ks ds)] = some (.val (optD (firstB (atS ns xs) B)), [.val (.lst (B.map ruD)), .val (.dct lk ks ds)]) := by
  apply Ok.eq
  refine Ok_fn rfl rfl ?_
  unfold c_first_holding
  walk_at "ev"
  refine first_ok (m := m_holds) (M := atS ns xs) (fun r hr => holds_eq mk r.1 100 (by have := (hB r hr).2; omega) (hB r hr).1) rfl (fun e s2 s3 => ?_) fun k s e => ?_
  · unfold c_first_holding_t4
    walk_at "ev"
    rw [e]
    rfl
  · walk_at "ev"
    rw [e]
    rfl
theorem m_l_first_eq {B : List Rule} (hB : BkOk B) {ks : List Key} {ds : List D} {ns xs : List Str} (mk : Mk ks ds ns xs) {lk : Bool} : m_l_first [.val (.lst (B.map ruD)), .val (.dct lk ks ds)] = some (.val (optD (firstB (atS ns xs) B)), [.val (.lst (B.map ruD)), .val (.dct lk ks ds)]) := by
  apply Ok.eq
  refine Ok_fn rfl rfl ?_
  unfold c_l_first
  walk_at "ev"
  refine first_ok (m := m_l_true) (M := atS ns xs) (fun r hr => true_eq mk r.1 100 (by have := (hB r hr).2; omega) (hB r hr).1) rfl (fun e s2 s3 => ?_) fun k s e => ?_
  · unfold c_l_first_t4
    walk_at "ev"
    rw [e]
    rfl
  · walk_at "ev"
    rw [e]
    rfl
/-- what marks are worth -/
def worthB (M : Str → Option Str) (B : List Rule) : Int × Int := match firstB M B with
  | none => (0, 1)
  | some k => (B.getD k (.any, (0, 1))).2
theorem ru_at {B : List Rule} {k : Nat} (h : k < B.length) : atI (B.map ruD) (k : Int) = some (ruD (B.getD k (.any, (0, 1)))) := by
  rw [atI_ge (by omega), Int.toNat_natCast, List.getElem?_map, List.getElem?_eq_getElem h, List.getD_eq_getElem?_getD, List.getElem?_eq_getElem h]
  rfl
theorem m_worth_eq {B : List Rule} (hB : BkOk B) {ks : List Key} {ds : List D} {ns xs : List Str} (mk : Mk ks ds ns xs) {lk : Bool} : m_worth [.val (.lst (B.map ruD)), .val (.dct lk ks ds)] = some (.val (nd (worthB (atS ns xs) B)), [.val (.lst (B.map ruD)), .val (.dct lk ks ds)]) := by
  apply Ok.eq
  refine Ok_fn rfl rfl ?_
  unfold c_worth c_worth_t4
  walk_at "ev"
  rw [m_first_eq hB mk]
  walk_at "ev"
  unfold worthB
  cases e : firstB (atS ns xs) B with
  | none =>
    rw [if_pos (show (optD none).isNon = true from rfl), m_number_eq (by decide) (by walk_at "sz")]
    walk_at "ev"
    rfl
  | some k =>
    rw [if_neg (show ¬ (optD (some k)).isNon = true from Bool.false_ne_true)]
    show Ok (o_ix (.lst (B.map ruD)) (.int (k : Int))) _
    walk_at "ev"
    rw [ru_at (first_lt e)]
    walk_at "ev"
theorem tree_pl : ∀ t : Tr, t.ok → t.d.pl = true ∧ t.d.dep = t.dep
  | .any, _ => ⟨by decide +kernel, rfl⟩
  | .is a b, h => by
    refine ⟨?_, rfl⟩
    show ((D.str (sS "is")).pl && ((D.str a).pl && ((D.str b).pl && true))) = true
    rw [str_pl k_is, str_pl h.1.ok, str_pl h.2.ok]
    rfl
  | .no t, h => by
    obtain ⟨h1, h2⟩ := tree_pl t h
    refine ⟨?_, ?_⟩
    · show ((D.str (sS "not")).pl && (t.d.pl && true)) = true
      rw [str_pl k_not, h1]
      rfl
    · show max 0 (max t.d.dep 0) + 1 = t.dep + 1
      omega
  | .op o l r, h => by
    obtain ⟨h1, h2⟩ := tree_pl l h.1
    obtain ⟨h3, h4⟩ := tree_pl r h.2
    refine ⟨?_, ?_⟩
    · show ((D.str (wOp o)).pl && (l.d.pl && (r.d.pl && true))) = true
      rw [str_pl (wop_ok o), h1, h3]
      rfl
    · show max 0 (max l.d.dep (max r.d.dep 0)) + 1 = max l.dep r.dep + 1
      omega
theorem bk_ne {B : List Rule} (hB : BkOk B) : o_ne (.lst (B.map ruD)) (.lst (B.map ruD)) = some (.val (.bl false)) := by
  have h1 : (D.lst (B.map ruD)).pl = true := pls_map fun r hr => by
    show (r.1.d.pl && ((true && (true && true)) && true)) = true
    rw [(tree_pl r.1 (hB r hr).1).1]
    rfl
  have h2 : (D.lst (B.map ruD)).dep ≤ 64 := by
    show D.deps _ + 1 ≤ 64
    have := deps_map (n := 22) (f := ruD) (xs := B) fun r hr => by
      show max r.1.d.dep (max 1 0) + 1 ≤ 22
      rw [(tree_pl r.1 (hB r hr).1).2]
      have := (hB r hr).2
      omega
    omega
  rw [ne_pl (p := True) h1 h1 h2 h2 (by simp)]
  rfl
theorem isi2_int {z : Int} : o_isi2 "list" "tuple" (.int z) = some (.val (.bl false)) := by
  have h1 : kitB "int" "list" = some false := by decide +kernel
  have h2 : kitB "int" "tuple" = some false := by decide +kernel
  show (kitB "int" "list").bind (fun b => (kitB "int" "tuple").bind fun c => some (R.val (.bl (b || c)))) = _
  rw [h1, h2]
  rfl
theorem isi2_tup {ds : List D} : o_isi2 "list" "tuple" (.tup ds) = some (.val (.bl true)) := by
  have h1 : kitB "tuple" "list" = some false := by decide +kernel
  have h2 : kitB "tuple" "tuple" = some true := by decide +kernel
  show (kitB "tuple" "list").bind (fun b => (kitB "tuple" "tuple").bind fun c => some (R.val (.bl (b || c)))) = _
  rw [h1, h2]
  rfl
theorem alike1 (n : Nat) (z : Int) : r_l_alike (n + 1) [.val (.int z), .val (.int z)] = some (.val (.bl true), [.val (.int z), .val (.int z)]) := by
  apply Ok.eq
  show Ok (fnM 4 2 (c_l_alike (r_l_alike n)) _) _
  refine Ok_fn rfl rfl ?_
  unfold c_l_alike c_l_alike_t5 c_l_alike_t7
  walk_at "ev"
  rw [isi2_int]
  walk_at "ev"
  rfl
theorem alike2 (n : Nat) (p : Int × Int) : r_l_alike (n + 2) [.val (nd p), .val (nd p)] = some (.val (.bl true), [.val (nd p), .val (nd p)]) := by
  apply Ok.eq
  show Ok (fnM 4 2 (c_l_alike (r_l_alike (n + 1))) _) _
  refine Ok_fn rfl rfl ?_
  unfold c_l_alike c_l_alike_t4
  walk_at "ev"
  rw [isi2_tup]
  walk_at "ev"
  rw [show zipL [D.int p.1, .int p.2] [D.int p.1, .int p.2] = [.tup [.int p.1, .int p.1], .tup [.int p.2, .int p.2]] from rfl]
  walk_at "ev"
  rw [alike1]
  walk_at "ev"
  rw [alike1]
  walk_at "ev"
  rw [show o_all (.lst [.bl true, .bl true]) = some (.val (.bl true)) from rfl]
  walk_at "ev"
theorem alike_eq (p : Int × Int) : m_l_alike [.val (nd p), .val (nd p)] = some (.val (.bl true), [.val (nd p), .val (nd p)]) := alike2 98 p
theorem k_book {ns : List Int} {W : List (Str × Str)} {P : R × List Sl → Prop} (hns : ns.length ≤ 63) (wok : WOk W) (hW : W.length ≤ 100) (h : ∀ (B : List Rule) (W' : List (Str × Str)), BkOk B → P (.own (.lst (B.map ruD)), [.val (.lst (ns.map D.int)), .val (.int 3), wds W', .val (.int 20)])) :
    Ok (m_l_book [.val (.lst (ns.map D.int)), .val (.int 3), wds W, .val (.int 20)]) P := by
  refine Ok_fn rfl rfl ?_
  unfold c_l_book
  walk_at "ev"
  rw [List.length_map]
  refine ⟨rngOK_of (by split <;> omega), ?_⟩
  have five : BuiltOk m_l_built 5 2 := (drawn_ok 100).2 5 2 (by decide) (by decide) (by decide)
  refine forRng_ok (fun i e => ∃ (B : List Rule) (W' : List (Str × Str)) (s5 s6 s7 s8 s9 : Sl), BkOk B ∧ B.length ≤ i ∧ WOk W' ∧ W'.length ≤ 100 + 13 * i ∧ Sl.isArg (some s5) = false ∧ Sl.isArg (some s6) = false ∧ Sl.isArg (some s7) = false ∧ Sl.isArg (some s8) = false ∧ Sl.isArg (some s9) = false ∧
    e = [.val (.lst (ns.map D.int)), .val (.int 3), wds W', .val (.int 20), .own (.lst (B.map ruD)), s5, s6, s7, s8, s9]) ⟨[], W, .no, .no, .no, .no, .no, fun r hr => absurd hr (by simp), Nat.le_refl _, wok, by omega, rfl, rfl, rfl, rfl, rfl, rfl⟩ (fun i e hi he => ?_) (fun e he => ?_)
  · obtain ⟨B, W', s5, s6, s7, s8, s9, hB, lB, wok', lW, q5, q6, q7, q8, q9, rfl⟩ := he
    have hi20 : i < 20 := by split at hi <;> omega
    unfold c_l_book_b2
    walk_at "ev"
    refine ⟨q5, ?_⟩
    refine k_left (by omega) (by omega) fun a b => ?_
    walk_at "ev"
    refine ⟨q6, ?_⟩
    refine k_worth fun p q a1 b1 => ?_
    walk_at "ev"
    refine ⟨q7, ?_⟩
    refine five _ _ _ _ _ (by decide) (by decide) (by omega) wok' fun L t a2 b2 c2 W2 dr => ?_
    walk_at "ev"
    have l2 := dr.hi
    have l5 := dr.dep
    have l4 := dr.wl
    refine ⟨q8, q9, ?_⟩
    rw [List.length_map]
    refine ⟨by omega, ?_⟩
    rw [Turn_nx]
    have e1 : B.map ruD ++ [.tup [t.d, .tup [.int p, .int q]]] = (B ++ [(t, (p, q))]).map ruD := by rw [List.map_append]; rfl
    rw [e1]
    refine ⟨B ++ [(t, (p, q))], W2, _, _, _, _, _, fun r hr => ?_, by simp; omega, dr.w, by omega, rfl, rfl, rfl, rfl, rfl, rfl⟩
    rcases List.mem_append.mp hr with k | k
    · exact hB r k
    · rw [List.mem_singleton.mp k]
      exact ⟨dr.ok, by show t.dep ≤ 20; omega⟩
  · obtain ⟨B, W', s5, s6, s7, s8, s9, hB, lB, wok', lW, q5, q6, q7, q8, q9, rfl⟩ := he
    unfold c_l_book_t7
    walk_at "ev"
    exact h B W' hB
theorem math (ns : List Int) (h : ns.length ≤ 63) : m_law [.val (.lst (ns.map D.int))] = some (.val (.bl true), [.val (.lst (ns.map D.int))]) := by
  apply Ok.eq
  refine Ok_fn rfl rfl ?_
  unfold c_law
  walk_at "ev"
  refine k_left (by decide) (by decide) fun a b => ?_
  walk_at "ev"
  refine k_kinds fun ks ds nm ms a1 b1 kd hn => ?_
  walk_at "ev"
  rw [kd_keys kd]
  refine forGo_ok (fun i e => ∃ (W : List (Str × Str)) (s3 : Sl), WOk W ∧ W.length ≤ 12 * i ∧ Sl.isArg (some s3) = false ∧ e = [.val (.lst (ns.map D.int)), .val (.dct true ks ds), .own (.lst (W.map pD)), s3, .no, .no, .no, .no, .no, .no, .no, .no, .no]) ⟨[], .no, fun p hp => absurd hp (by simp), by simp, rfl, rfl⟩ (fun i d e hd he => ?_) (fun e he => ?_)
  · obtain ⟨W, s3, wok, hW, n3, rfl⟩ := he
    rw [List.getElem?_map] at hd
    obtain ⟨p, hp, rfl⟩ := Option.map_eq_some_iff.mp hd
    obtain ⟨hi, ep⟩ := List.getElem?_eq_some_iff.mp hp
    have pm : p ∈ nm := ep ▸ List.getElem_mem hi
    obtain ⟨L, hL, l1, l2, lw⟩ := kd.get pm
    unfold c_law_b3
    walk_at "ev"
    refine ⟨n3, ?_⟩
    rw [hL]
    walk_at "ev"
    refine Ok_lcmap (fun d => .tup [.str p, d]) (by rw [List.length_map]; omega) (fun d hd => ?_) ?_
    · obtain ⟨x, _, rfl⟩ := List.mem_map.mp hd
      walk_at "ev"
    · have e1 : (L.map D.str).map (fun d => D.tup [.str p, d]) = (L.map fun x => (p, x)).map pD := by rw [List.map_map, List.map_map]; rfl
      rw [e1]
      have lf : ∀ V : List (Str × Str), D.lfs (V.map pD) = true := by
        intro V
        induction V with
        | nil => rfl
        | cons v V ih =>
          show (true && D.lfs (V.map pD)) = true
          rw [ih]
          rfl
      walk_at "ev"
      rw [List.length_map, List.length_map, List.length_map]
      refine ⟨by omega, ?_⟩
      rw [← List.map_append]
      refine ⟨lf _, ?_⟩
      rw [Turn_nx]
      refine ⟨_, _, fun q hq => ?_, ?_, rfl, rfl⟩
      · rcases List.mem_append.mp hq with k | k
        · exact wok q k
        · obtain ⟨x, hx, rfl⟩ := List.mem_map.mp k
          exact ⟨kd.w p pm, lw x hx⟩
      · rw [List.length_append, List.length_map]; omega
  · obtain ⟨W, s3, wok, hW, n3, rfl⟩ := he
    rw [List.length_map] at hW
    unfold c_law_t5
    walk_at "ev"
    refine k_book h wok (by omega) fun B W' hB => ?_
    walk_at "ev"
    refine k_left (by decide) (by decide) fun a2 b2 => ?_
    walk_at "ev"
    refine forRng_ok (fun i e => ∃ (a' b' : Int) (s8 s9 s10 s11 s12 : Sl), Sl.isArg (some s8) = false ∧ Sl.isArg (some s9) = false ∧ Sl.isArg (some s10) = false ∧ Sl.isArg (some s11) = false ∧ Sl.isArg (some s12) = false ∧
      e = [.val (.lst (ns.map D.int)), .val (.dct true ks ds), .own (.lst (W'.map pD)), s3, .no, .val (.lst (B.map ruD)), .val (.lst (B.map ruD)), .own (.lst [.int a', .int b', .int 0]), s8, s9, s10, s11, s12]) ⟨_, _, .no, .no, .no, .no, .no, rfl, rfl, rfl, rfl, rfl, rfl⟩ (fun i e hi he => ?_) (fun e he => ?_)
    · obtain ⟨a3, b3, s8, s9, s10, s11, s12, q8, q9, q10, q11, q12, rfl⟩ := he
      unfold c_law_b8
      walk_at "ev"
      refine ⟨q8, ?_⟩
      refine k_marks kd (fun ks' ds' nm' xs a4 b4 mk => ?_) hn
      walk_at "ev"
      refine ⟨q9, q10, ?_⟩
      rw [m_l_first_eq hB mk]
      walk_at "ev"
      refine ⟨q11, q12, ?_⟩
      have last : ∀ s11 s12 : Sl, Sl.isArg (some s11) = false → s12 = .val (nd (worthB (atS nm' xs) B)) → Ok (c_law_t15 [.val (.lst (ns.map D.int)), .val (.dct true ks ds), .own (.lst (W'.map pD)), s3, .no, .val (.lst (B.map ruD)), .val (.lst (B.map ruD)), .own (.lst [.int a4, .int b4, .int 0]), .val (.int (0 + (i : Int))), .val (.dct false ks' ds'), .val (.dct false ks' ds'), s11, s12])
          (Turn (fun e => ∃ (a' b' : Int) (s8 s9 s10 s11 s12 : Sl), Sl.isArg (some s8) = false ∧ Sl.isArg (some s9) = false ∧ Sl.isArg (some s10) = false ∧ Sl.isArg (some s11) = false ∧ Sl.isArg (some s12) = false ∧
            e = [.val (.lst (ns.map D.int)), .val (.dct true ks ds), .own (.lst (W'.map pD)), s3, .no, .val (.lst (B.map ruD)), .val (.lst (B.map ruD)), .own (.lst [.int a', .int b', .int 0]), s8, s9, s10, s11, s12]) (Th (ksq c_law_t17) (Th (kfn [.val (.lst (ns.map D.int))]) fun y => y = (R.val (D.bl true), [.val (.lst (ns.map D.int))])))) := by
        rintro s11 s12 q11 rfl
        unfold c_law_t15
        walk_at "ev"
        rw [m_worth_eq hB mk]
        walk_at "ev"
        rw [alike_eq]
        walk_at "ev"
        rw [bk_ne hB]
        walk_at "ev"
        rw [ned_eq mk]
        walk_at "ev"
        rw [Turn_nx]
        exact ⟨_, _, _, _, _, _, _, rfl, rfl, rfl, q11, rfl, rfl⟩
      cases e : firstB (atS nm' xs) B with
      | none =>
        have ew : worthB (atS nm' xs) B = (0, 1) := by unfold worthB; rw [e]
        show Ok (c_law_t15 _) _
        exact last _ _ rfl (by rw [ew])
      | some k =>
        have ew : worthB (atS nm' xs) B = (B.getD k (.any, (0, 1))).2 := by unfold worthB; rw [e]
        show Ok (o_ix (.lst (B.map ruD)) (.int (k : Int))) _
        walk_at "ev"
        rw [ru_at (first_lt e)]
        walk_at "ev"
        exact last _ _ rfl (by rw [ew])
    · obtain ⟨a3, b3, s8, s9, s10, s11, s12, q8, q9, q10, q11, q12, rfl⟩ := he
      have m0 : Mk [] [] [] [] := ⟨rfl, rfl, rfl, List.nodup_nil, fun y hy => absurd hy (by simp)⟩
      have h1 : m_worth [.val (.lst []), .val (.dct false [] [])] = some (.val (nd (0, 1)), _) := m_worth_eq (B := []) (fun r hr => absurd hr (by simp)) m0
      unfold c_law_t17
      walk_at "ev"
      rw [h1]
      walk_at "ev"
      rw [show m_l_alike [.val (.tup [.int 0, .int 1]), .val (.tup [.int 0, .int 1])] = some (.val (.bl true), _) from alike_eq (0, 1)]
      walk_at "ev"
end Lw
set_option maxRecDepth 100000
set_option maxHeartbeats 4000000
namespace Lw
open PySem PySem.Spec PyProof.Rows L2 Vz
def top (i : Nat) : Stmt := PySem.Challenge.pw_sheetlay_k48_the_first_rule.main.body.getD i (.Pass ⟨0, 0, 0, 0⟩)
structure Blt (mg : Str → Option Value) : Prop where
  b_abs : mg "abs" = none
  b_all : mg "all" = none
  b_any : mg "any" = none
  b_bool : mg "bool" = none
  b_dict : mg "dict" = none
  b_enumerate : mg "enumerate" = none
  b_int : mg "int" = none
  b_isinstance : mg "isinstance" = none
  b_len : mg "len" = none
  b_list : mg "list" = none
  b_min : mg "min" = none
  b_range : mg "range" = none
  b_str : mg "str" = none
  b_tuple : mg "tuple" = none
  b_zip : mg "zip" = none
instance : FnTab := ⟨fun _ _ _ => False⟩
abbrev s_divisor : Stmt := top 1
abbrev N_divisor : List Str := ["a", "b"]
theorem sc_divisor : FnScope N_divisor ["a", "b"] (defScope s_divisor) := ⟨rfl, rfl, rfl, by decide +kernel, rfl, by decide +kernel, by decide +kernel⟩
theorem ok_divisor {P : Program} {w : World} {K : PySem.W.Frag} {mg : Str → Option Value} {base : Heap} {f : Addr} {fd : FuncData} (F : FunD K "divisor" "divisor" (defArgs s_divisor) (defBody s_divisor) (defScope s_divisor) [] [] f fd) (B : Blt mg) : FnOk P w K mg base CX0 1 f fd ["a", "b"] (spM K m_divisor) :=
  fn_okD F sc_divisor fun cdv A outer s H E hr => xb_cons (xs_setv 0 sc_divisor.nd (x_abs B.b_abs (xa_cons (x_v 0) (xa_nil)))) (xb_cons (xs_setv 1 sc_divisor.nd (x_abs B.b_abs (xa_cons (x_v 1) (xa_nil)))) (xb_cons (xs_wh (fuI 1)
    PassesOwn.never (xt_cmp (op_neD hr.units) opm_ne (x_v 1) (x_int)) (xb_one (xs_par 0 1 rfl sc_divisor.nd (by decide) (xa_cons (x_v 1) (xa_cons (x_mod (x_v 0) (x_v 1)) (xa_nil)))))) (xb_one
    (xs_ret (x_v 0)))))
abbrev s_l_cell_at : Stmt := top 9
abbrev N_l_cell_at : List Str := ["_law_script", "_law_k"]
theorem sc_l_cell_at : FnScope N_l_cell_at ["_law_script", "_law_k"] (defScope s_l_cell_at) := ⟨rfl, rfl, rfl, by decide +kernel, rfl, by decide +kernel, by decide +kernel⟩
theorem ok_l_cell_at {P : Program} {w : World} {K : PySem.W.Frag} {mg : Str → Option Value} {base : Heap} {f : Addr} {fd : FuncData} (F : FunD K "_law_cell_at" "_law_cell_at" (defArgs s_l_cell_at) (defBody s_l_cell_at) (defScope s_l_cell_at) [] [] f fd) (B : Blt mg) : FnOk P w K mg base CX0 1 f fd ["_law_script", "_law_k"] (spM K m_l_cell_at) :=
  fn_okD F sc_l_cell_at fun cdv A outer s H E hr => xb_cons (xs_if (xt_cmp (op_ltD (in_room hr)) opm_ord (x_v 1) (x_len B.b_len (xa_cons (x_v 0) (xa_nil)))) (xb_one (xs_ret (x_ix (x_v 0) (x_v 1)))) (xb_nil)) (xb_one (xs_ret (x_int)))
abbrev s_l_take : Stmt := top 10
abbrev N_l_take : List Str := ["_law_left_here", "_law_many", "_law_at", "_law_got"]
theorem sc_l_take : FnScope N_l_take ["_law_left_here", "_law_many"] (defScope s_l_take) := ⟨rfl, rfl, rfl, by decide +kernel, rfl, by decide +kernel, by decide +kernel⟩
theorem ok_l_take {P : Program} {w : World} {K : PySem.W.Frag} {mg : Str → Option Value} {base : Heap} {f : Addr} {fd : FuncData} (F : FunD K "_law_take" "_law_take" (defArgs s_l_take) (defBody s_l_take) (defScope s_l_take) [] [] f fd) (B : Blt mg) : FnOk P w K mg base CX0 1 f fd ["_law_left_here", "_law_many"] (spM K m_l_take) :=
  fn_okD F sc_l_take fun cdv A outer s H E hr => xb_cons (xs_setv 2 sc_l_take.nd (x_intc B.b_int (xa_cons (x_cmp (op_eqD hr.units) opm_eq (x_ixo 0 (x_int)) (x_int)) (xa_nil)))) (xb_cons (xs_setv 3 sc_l_take.nd (x_mod (x_ixo 0 (x_v 2)) (x_v
    1))) (xb_cons (xs_asg (x_fdiv (x_ixo 0 (x_v 2)) (x_v 1)) (xg_ix 0 (x_v 2))) (xb_one (xs_ret (x_v 3)))))
abbrev s_l_lowest : Stmt := top 15
abbrev N_l_lowest : List Str := ["_law_above", "_law_below", "_law_one", "_law_other"]
theorem sc_l_lowest : FnScope N_l_lowest ["_law_above", "_law_below"] (defScope s_l_lowest) := ⟨rfl, rfl, rfl, by decide +kernel, rfl, by decide +kernel, by decide +kernel⟩
theorem ok_l_lowest {P : Program} {w : World} {K : PySem.W.Frag} {mg : Str → Option Value} {base : Heap} {f : Addr} {fd : FuncData} (F : FunD K "_law_lowest" "_law_lowest" (defArgs s_l_lowest) (defBody s_l_lowest) (defScope s_l_lowest) [] [] f fd) (B : Blt mg) : FnOk P w K mg base CX0 1 f fd ["_law_above", "_law_below"] (spM K m_l_lowest) :=
  fn_okD F sc_l_lowest fun cdv A outer s H E hr => xb_cons (xs_setv 2 sc_l_lowest.nd (x_abs B.b_abs (xa_cons (x_v 0) (xa_nil)))) (xb_cons (xs_setv 3 sc_l_lowest.nd (x_v 1)) (xb_cons (xs_wh (fuI 2) PassesOwn.never (xt_cmp (op_neD hr.units)
    opm_ne (x_v 2) (x_int)) (xb_one (xs_par 2 3 rfl sc_l_lowest.nd (by decide) (xa_cons (x_mod (x_v 3) (x_v 2)) (xa_cons (x_v 2) (xa_nil)))))) (xb_one (xs_ret (x_tup (xa_cons (x_fdiv (x_v 0)
    (x_v 3)) (xa_cons (x_fdiv (x_v 1) (x_v 3)) (xa_nil))))))))
abbrev s_number : Stmt := top 2
abbrev N_number : List Str := ["n", "d", "part"]
theorem sc_number : FnScope N_number ["n", "d"] (defScope s_number) := ⟨rfl, rfl, rfl, by decide +kernel, rfl, by decide +kernel, by decide +kernel⟩
theorem ok_number {P : Program} {w : World} {K : PySem.W.Frag} {mg : Str → Option Value} {base : Heap} {f : Addr} {fd : FuncData} (F : FunD K "number" "number" (defArgs s_number) (defBody s_number) (defScope s_number) [(V.int 1)] [] f fd) (B : Blt mg) (U_divisor : FnU P w K mg base 1 "divisor" m_divisor []) : FnOk P w K mg base CX0 2 f fd ["n", "d"] (spM K m_number) :=
  fn_okD F sc_number fun cdv A outer s H E hr => xb_cons (xs_if (xt_cmp (op_ltD (in_room hr)) opm_ord (x_v 1) (x_int)) (xb_cons (xs_setv 0 sc_number.nd (x_sub (x_int) (x_v 0))) (xb_one (xs_setv 1 sc_number.nd (x_sub (x_int) (x_v 1)))))
    (xb_nil)) (xb_cons (xs_setv 2 sc_number.nd (x_call U_divisor hr (by decide) (xr_v (x_v 0) (xr_v (x_v 1) (xr_nil))))) (xb_one (xs_ret (x_tup (xa_cons (x_fdiv (x_v 0) (x_v 2)) (xa_cons
    (x_fdiv (x_v 1) (x_v 2)) (xa_nil)))))))
abbrev s_l_left : Stmt := top 11
abbrev N_l_left : List Str := ["_law_script", "_law_k", "_law_cell", "_law_mixed"]
theorem sc_l_left : FnScope N_l_left ["_law_script", "_law_k"] (defScope s_l_left) := ⟨rfl, rfl, rfl, by decide +kernel, rfl, by decide +kernel, by decide +kernel⟩
theorem ok_l_left {P : Program} {w : World} {K : PySem.W.Frag} {mg : Str → Option Value} {base : Heap} {f : Addr} {fd : FuncData} (F : FunD K "_law_left" "_law_left" (defArgs s_l_left) (defBody s_l_left) (defScope s_l_left) [] [] f fd) (B : Blt mg) (U_l_cell_at : FnU P w K mg base 1 "_law_cell_at" m_l_cell_at []) : FnOk P w K mg base CX0 2 f fd ["_law_script", "_law_k"] (spM K m_l_left) :=
  fn_okD F sc_l_left fun cdv A outer s H E hr => xb_cons (xs_setv 2 sc_l_left.nd (x_abs B.b_abs (xa_cons (x_call U_l_cell_at hr (by decide) (xr_v (x_v 0) (xr_v (x_v 1) (xr_nil)))) (xa_nil)))) (xb_cons (xs_setv 3 sc_l_left.nd (x_fdiv (x_pow
    (x_add (x_int) (x_mod (x_add (x_add (x_mul (x_mod (x_v 2) (x_int)) (x_int)) (x_mul (x_int) (x_v 1))) (x_int)) (x_int))) (x_int)) (x_pow (x_int) (x_int)))) (xb_one (xs_ret (x_lst (xa_cons
    (x_mul (x_v 2) (x_intc B.b_int (xa_cons (x_cmp (op_eqD hr.units) opm_eq (x_mod (x_call U_l_cell_at hr (by decide) (xr_v (x_v 0) (xr_v (x_int) (xr_nil)))) (x_int)) (x_int)) (xa_nil))))
    (xa_cons (x_v 3) (xa_cons (x_int) (xa_nil))))))))
abbrev s_l_word : Stmt := top 12
abbrev N_l_word : List Str := ["_law_left_here", "_law_letters", "_law_word_here", "_law_k"]
theorem sc_l_word : FnScope N_l_word ["_law_left_here"] (defScope s_l_word) := ⟨rfl, rfl, rfl, by decide +kernel, rfl, by decide +kernel, by decide +kernel⟩
theorem ok_l_word {P : Program} {w : World} {K : PySem.W.Frag} {mg : Str → Option Value} {base : Heap} {f : Addr} {fd : FuncData} (F : FunD K "_law_word" "_law_word" (defArgs s_l_word) (defBody s_l_word) (defScope s_l_word) [] [] f fd) (B : Blt mg) (U_l_take : FnU P w K mg base 1 "_law_take" m_l_take []) : FnOk P w K mg base CX0 2 f fd ["_law_left_here"] (spM K m_l_word) :=
  fn_okD F sc_l_word fun cdv A outer s H E hr => xb_cons (xs_setv 1 sc_l_word.nd (x_str)) (xb_cons (xs_setv 2 sc_l_word.nd (x_str)) (xb_cons (xs_for PassesOwn.never rfl (xi_rng B.b_range (xa_cons (x_add (x_int) (x_call U_l_take hr (by
    decide) (xr_m 0 (xr_v (x_int) (xr_nil))))) (xa_nil))) (xg_n 3 sc_l_word.nd) (xb_one (xs_setv 2 sc_l_word.nd (x_add (x_v 2) (x_ix (x_v 1) (x_call U_l_take hr (by decide) (xr_m 0 (xr_v
    (x_int) (xr_nil))))))))) (xb_cons (xs_if (xt_cmp (op_eqD hr.units) opm_eq (x_call U_l_take hr (by decide) (xr_m 0 (xr_v (x_int) (xr_nil)))) (x_int)) (xb_one (xs_setv 2 sc_l_word.nd (x_ix
    (x_lst (xa_cons (x_str) (xa_cons (x_str) (xa_cons (x_str) (xa_cons (x_str) (xa_cons (x_str) (xa_cons (x_str) (xa_cons (x_str) (xa_cons (x_str) (xa_cons (x_str) (xa_cons (x_str) (xa_cons
    (x_str) (xa_cons (x_str) (xa_nil)))))))))))))) (x_call U_l_take hr (by decide) (xr_m 0 (xr_v (x_int) (xr_nil))))))) (xb_nil)) (xb_cons (xs_if (xt_cmp (op_inX (in_room hr)) opm_inX (x_v 2)
    (x_tup (xa_cons (x_str) (xa_cons (x_str) (xa_cons (x_str) (xa_cons (x_str) (xa_nil))))))) (xb_one (xs_setv 2 sc_l_word.nd (x_add (x_v 2) (x_str)))) (xb_nil)) (xb_one (xs_ret (x_v 2)))))))
abbrev s_l_worth : Stmt := top 16
abbrev N_l_worth : List Str := ["_law_left_here", "_law_above", "_law_below"]
theorem sc_l_worth : FnScope N_l_worth ["_law_left_here"] (defScope s_l_worth) := ⟨rfl, rfl, rfl, by decide +kernel, rfl, by decide +kernel, by decide +kernel⟩
theorem ok_l_worth {P : Program} {w : World} {K : PySem.W.Frag} {mg : Str → Option Value} {base : Heap} {f : Addr} {fd : FuncData} (F : FunD K "_law_worth" "_law_worth" (defArgs s_l_worth) (defBody s_l_worth) (defScope s_l_worth) [] [] f fd) (B : Blt mg) (U_l_lowest : FnU P w K mg base 1 "_law_lowest" m_l_lowest []) (U_l_take : FnU P w K mg base 1 "_law_take" m_l_take []) : FnOk P w K mg base CX0 2 f fd ["_law_left_here"] (spM K m_l_worth) :=
  fn_okD F sc_l_worth fun cdv A outer s H E hr => xb_cons (xs_setv 1 sc_l_worth.nd (x_sub (x_call U_l_take hr (by decide) (xr_m 0 (xr_v (x_int) (xr_nil)))) (x_int))) (xb_cons (xs_setv 2 sc_l_worth.nd (x_int)) (xb_cons (xs_if (xt_cmp (op_eqD
    hr.units) opm_eq (x_call U_l_take hr (by decide) (xr_m 0 (xr_v (x_int) (xr_nil)))) (x_int)) (xb_one (xs_setv 2 sc_l_worth.nd (x_add (x_int) (x_call U_l_take hr (by decide) (xr_m 0 (xr_v
    (x_int) (xr_nil))))))) (xb_nil)) (xb_cons (xs_if (xt_cmp (op_eqD hr.units) opm_eq (x_call U_l_take hr (by decide) (xr_m 0 (xr_v (x_int) (xr_nil)))) (x_int)) (xb_cons (xs_setv 1
    sc_l_worth.nd (x_sub (x_mod (x_v 1) (x_int)) (x_int))) (xb_one (xs_setv 2 sc_l_worth.nd (x_add (x_int) (x_mod (x_v 2) (x_int)))))) (xb_nil)) (xb_one (xs_ret (x_call U_l_lowest hr (by
    decide) (xr_v (x_v 1) (xr_v (x_v 2) (xr_nil)))))))))
abbrev s_l_kinds : Stmt := top 20
abbrev N_l_kinds : List Str := ["_law_left_here", "_law_kinds_here", "_law_most", "_law_many", "_law_k", "_law_name", "_law_marks_here", "_law_j", "_law_mark"]
theorem sc_l_kinds : FnScope N_l_kinds ["_law_left_here"] (defScope s_l_kinds) := ⟨rfl, rfl, rfl, by decide +kernel, rfl, by decide +kernel, by decide +kernel⟩
theorem ok_l_kinds {P : Program} {w : World} {K : PySem.W.Frag} {mg : Str → Option Value} {base : Heap} {f : Addr} {fd : FuncData} (F : FunD K "_law_kinds" "_law_kinds" (defArgs s_l_kinds) (defBody s_l_kinds) (defScope s_l_kinds) [] [] f fd) (B : Blt mg) (U_l_take : FnU P w K mg base 1 "_law_take" m_l_take []) (U_l_word : FnU P w K mg base 2 "_law_word" m_l_word []) : FnOk P w K mg base CX0 3 f fd ["_law_left_here"] (spM K m_l_kinds) :=
  fn_okD F sc_l_kinds fun cdv A outer s H E hr => xb_cons (xs_set 1 sc_l_kinds.nd (x_d0)) (xb_cons (xs_setv 2 sc_l_kinds.nd (x_ix (x_lst (xa_cons (x_int) (xa_cons (x_int) (xa_cons (x_int) (xa_cons (x_int) (xa_cons (x_int) (xa_cons (x_int)
    (xa_cons (x_int) (xa_cons (x_int) (xa_nil)))))))))) (x_call U_l_take hr (by decide) (xr_m 0 (xr_v (x_int) (xr_nil)))))) (xb_cons (xs_setv 3 sc_l_kinds.nd (x_ix (x_lst (xa_cons (x_int)
    (xa_cons (x_int) (xa_cons (x_int) (xa_cons (x_int) (xa_cons (x_int) (xa_cons (x_int) (xa_cons (x_int) (xa_cons (x_int) (xa_nil)))))))))) (x_call U_l_take hr (by decide) (xr_m 0 (xr_v
    (x_int) (xr_nil)))))) (xb_cons (xs_if (xt_cmp (op_eqD hr.units) opm_eq (x_v 3) (x_int)) (xb_one (xs_setv 2 sc_l_kinds.nd (x_int))) (xb_nil)) (xb_cons (xs_if (xt_cmp (op_eqD hr.units) opm_eq
    (x_v 2) (x_int)) (xb_one (xs_setv 3 sc_l_kinds.nd (x_minX rfl (in_room hr) B.b_min (xa_cons (x_v 3) (xa_cons (x_int) (xa_nil)))))) (xb_nil)) (xb_cons (xs_for PassesOwn.never rfl (xi_rng
    B.b_range (xa_cons (x_v 3) (xa_nil))) (xg_n 4 sc_l_kinds.nd) (xb_cons (xs_setv 5 sc_l_kinds.nd (x_call U_l_word hr (by decide) (xr_m 0 (xr_nil)))) (xb_cons (xs_set 6 sc_l_kinds.nd (x_lst
    (xa_nil))) (xb_cons (xs_for PassesOwn.never rfl (xi_rng B.b_range (xa_cons (x_add (x_int) (x_call U_l_take hr (by decide) (xr_m 0 (xr_v (x_v 2) (xr_nil))))) (xa_nil))) (xg_n 7
    sc_l_kinds.nd) (xb_cons (xs_setv 8 sc_l_kinds.nd (x_call U_l_word hr (by decide) (xr_m 0 (xr_nil)))) (xb_one (xs_if (xt_cmpr 6 (op_notinX (in_room hr)) opm_inX (x_v 8)) (xb_one (xs_ex
    (x_app 6 (x_v 8)))) (xb_nil))))) (xb_cons (xs_asg (x_fz 6) (xg_dix 1 (room1 hr) (x_v 5))) (xb_one (xs_setv 2 sc_l_kinds.nd (x_minX rfl (in_room hr) B.b_min (xa_cons (x_v 2) (xa_cons (x_int)
    (xa_nil))))))))))) (xb_one (xs_ret (x_tk 1))))))))
abbrev s_l_marks : Stmt := top 23
abbrev N_l_marks : List Str := ["_law_left_here", "_law_kinds_here", "_law_marks_here", "_law_name", "_law_way"]
theorem sc_l_marks : FnScope N_l_marks ["_law_left_here", "_law_kinds_here"] (defScope s_l_marks) := ⟨rfl, rfl, rfl, by decide +kernel, rfl, by decide +kernel, by decide +kernel⟩
theorem ok_l_marks {P : Program} {w : World} {K : PySem.W.Frag} {mg : Str → Option Value} {base : Heap} {f : Addr} {fd : FuncData} (F : FunD K "_law_marks" "_law_marks" (defArgs s_l_marks) (defBody s_l_marks) (defScope s_l_marks) [] [] f fd) (B : Blt mg) (U_l_take : FnU P w K mg base 1 "_law_take" m_l_take []) (U_l_word : FnU P w K mg base 2 "_law_word" m_l_word []) : FnOk P w K mg base CX0 3 f fd ["_law_left_here", "_law_kinds_here"] (spM K m_l_marks) :=
  fn_okD F sc_l_marks fun cdv A outer s H E hr => xb_cons (xs_set 2 sc_l_marks.nd (x_d0)) (xb_cons (xs_for PassesOwn.never rfl (xi_keys (x_v 1)) (xg_n 3 sc_l_marks.nd) (xb_cons (xs_setv 4 sc_l_marks.nd (x_call U_l_take hr (by decide) (xr_m 0
    (xr_v (x_int) (xr_nil))))) (xb_one (xs_if (xt_cmp (op_ltD (in_room hr)) opm_ord (x_v 4) (x_int)) (xb_one (xs_asg (x_ix (x_dix (room1 hr) (x_v 1) (x_v 3)) (x_call U_l_take hr (by decide)
    (xr_m 0 (xr_v (x_len B.b_len (xa_cons (x_dix (room1 hr) (x_v 1) (x_v 3)) (xa_nil))) (xr_nil))))) (xg_dix 2 (room1 hr) (x_v 3)))) (xb_one (xs_if (xt_cmp (op_eqD hr.units) opm_eq (x_v 4)
    (x_int)) (xb_one (xs_asg (x_call U_l_word hr (by decide) (xr_m 0 (xr_nil))) (xg_dix 2 (room1 hr) (x_v 3)))) (xb_nil))))))) (xb_one (xs_ret (x_tk 2))))
abbrev s_holds : Stmt := top 4
abbrev N_holds : List Str := ["condition", "marks", "word"]
theorem sc_holds : FnScope N_holds ["condition", "marks"] (defScope s_holds) := ⟨rfl, rfl, rfl, by decide +kernel, rfl, by decide +kernel, by decide +kernel⟩
theorem ok_holds {P : Program} {w : World} {K : PySem.W.Frag} {mg : Str → Option Value} {base : Heap} {f : Addr} {fd : FuncData} (F : FunD K "holds" "holds" (defArgs s_holds) (defBody s_holds) (defScope s_holds) [] [] f fd) (B : Blt mg) (n : Nat) (m_holds : FM) (U_holds : FnU P w K mg base (0 + n) "holds" m_holds []) : FnOk P w K mg base CX0 (0 + n + 1) f fd ["condition", "marks"] (spM K (fnM 3 2 (c_holds m_holds))) :=
  fn_okD F sc_holds fun cdv A outer s H E hr => xb_cons (xs_setv 2 sc_holds.nd (x_ix (x_v 0) (x_int))) (xb_cons (xs_if (xt_cmp (op_eqD hr.units) opm_eq (x_v 2) (x_str)) (xb_one (xs_ret (x_bl))) (xb_nil)) (xb_cons (xs_if (xt_cmp (op_eqD
    hr.units) opm_eq (x_v 2) (x_str)) (xb_one (xs_ret (x_and (x_cmp (or_din (room1 hr)) opm_din (x_ix (x_v 0) (x_int)) (x_v 1)) (x_one (x_cmp (op_eqD hr.units) opm_eq (x_dix (room1 hr) (x_v 1)
    (x_ix (x_v 0) (x_int))) (x_ix (x_v 0) (x_int))))))) (xb_nil)) (xb_cons (xs_if (xt_cmp (op_eqD hr.units) opm_eq (x_v 2) (x_str)) (xb_one (xs_ret (x_not (x_call U_holds hr (by omega) (xr_v
    (x_ix (x_v 0) (x_int)) (xr_v (x_v 1) (xr_nil))))))) (xb_nil)) (xb_cons (xs_if (xt_cmp (op_eqD hr.units) opm_eq (x_v 2) (x_str)) (xb_one (xs_ret (x_and (x_call U_holds hr (by omega) (xr_v
    (x_ix (x_v 0) (x_int)) (xr_v (x_v 1) (xr_nil)))) (x_one (x_call U_holds hr (by omega) (xr_v (x_ix (x_v 0) (x_int)) (xr_v (x_v 1) (xr_nil)))))))) (xb_nil)) (xb_one (xs_ret (x_or (x_call
    U_holds hr (by omega) (xr_v (x_ix (x_v 0) (x_int)) (xr_v (x_v 1) (xr_nil)))) (x_one (x_call U_holds hr (by omega) (xr_v (x_ix (x_v 0) (x_int)) (xr_v (x_v 1) (xr_nil))))))))))))
abbrev s_l_true : Stmt := top 18
abbrev N_l_true : List Str := ["_law_tree", "_law_marks_here", "_law_truths", "_law_below"]
theorem sc_l_true : FnScope N_l_true ["_law_tree", "_law_marks_here"] (defScope s_l_true) := ⟨rfl, rfl, rfl, by decide +kernel, rfl, by decide +kernel, by decide +kernel⟩
theorem ok_l_true {P : Program} {w : World} {K : PySem.W.Frag} {mg : Str → Option Value} {base : Heap} {f : Addr} {fd : FuncData} (F : FunD K "_law_true" "_law_true" (defArgs s_l_true) (defBody s_l_true) (defScope s_l_true) [] [] f fd) (B : Blt mg) (n : Nat) (m_l_true : FM) (U_l_true : FnU P w K mg base (0 + n) "_law_true" m_l_true []) : FnOk P w K mg base CX0 (0 + n + 1) f fd ["_law_tree", "_law_marks_here"] (spM K (fnM 4 2 (c_l_true m_l_true))) :=
  fn_okD F sc_l_true fun cdv A outer s H E hr => xb_cons (xs_if (xt_cmp (op_eqD hr.units) opm_eq (x_ix (x_v 0) (x_int)) (x_str)) (xb_one (xs_ret (x_cmp (op_eqD hr.units) opm_eq (x_dget (room1 hr) (x_v 1) (x_ix (x_v 0) (x_int)) (x_str))
    (x_ix (x_v 0) (x_int))))) (xb_nil)) (xb_cons (xs_if (xt_cmp (op_eqD hr.units) opm_eq (x_ix (x_v 0) (x_int)) (x_str)) (xb_one (xs_ret (x_not (x_call U_l_true hr (by omega) (xr_v (x_ix (x_v
    0) (x_int)) (xr_v (x_v 1) (xr_nil))))))) (xb_nil)) (xb_cons (xs_lcv 2 ([("_law_below", 3)]) rfl sc_l_true.nd (xi_seq (x_sl (x_v 0) (xo_at (x_int)) (xo_no))) (blkOk_by (N := N_l_true) (sc :=
    defScope s_l_true) (by decide +kernel)) (fun _ _ _ _ _ => (pg_name (i := 3) sc_l_true.nd rfl (Or.inl rfl))) (gm_n) (only_n (by decide)) (fun _ _ _ _ _ => xts_nil) (fun _ _ _ _ _ => x_call
    U_l_true hr (by omega) (xr_v (x_v 3) (xr_v (x_v 1) (xr_nil))))) (xb_one (xs_ret (x_ix (x_lst (xa_cons (x_all rfl B.b_all (xa_cons (x_v 2) (xa_nil))) (xa_cons (x_any rfl B.b_any (xa_cons
    (x_v 2) (xa_nil))) (xa_nil)))) (x_intc B.b_int (xa_cons (x_cmp (op_eqD hr.units) opm_eq (x_ix (x_v 0) (x_int)) (x_str)) (xa_nil))))))))
abbrev s_l_alike : Stmt := top 22
abbrev N_l_alike : List Str := ["_law_got", "_law_due", "_law_one", "_law_other"]
theorem sc_l_alike : FnScope N_l_alike ["_law_got", "_law_due"] (defScope s_l_alike) := ⟨rfl, rfl, rfl, by decide +kernel, rfl, by decide +kernel, by decide +kernel⟩
theorem ok_l_alike {P : Program} {w : World} {K : PySem.W.Frag} {mg : Str → Option Value} {base : Heap} {f : Addr} {fd : FuncData} (F : FunD K "_law_alike" "_law_alike" (defArgs s_l_alike) (defBody s_l_alike) (defScope s_l_alike) [] [] f fd) (B : Blt mg) (n : Nat) (m_l_alike : FM) (U_l_alike : FnU P w K mg base (0 + n) "_law_alike" m_l_alike []) : FnOk P w K mg base CX0 (0 + n + 1) f fd ["_law_got", "_law_due"] (spM K (fnM 4 2 (c_l_alike m_l_alike))) :=
  fn_okD F sc_l_alike fun cdv A outer s H E hr => xb_cons (xs_if (xt_tru (x_isi2 "list" "tuple" B.b_isinstance B.b_list B.b_tuple (by decide +kernel) (by decide +kernel) (x_v 1))) (xb_cons (xs_if (xt_w (xw_or (xt_cmp (op_neD hr.units) opm_ne
    (x_isi "list" B.b_isinstance B.b_list (by decide +kernel) (x_v 0)) (x_isi "list" B.b_isinstance B.b_list (by decide +kernel) (x_v 1))) (xw_or1 (xt_cmp (op_neD hr.units) opm_ne (x_isi
    "tuple" B.b_isinstance B.b_tuple (by decide +kernel) (x_v 0)) (x_isi "tuple" B.b_isinstance B.b_tuple (by decide +kernel) (x_v 1)))))) (xb_one (xs_ret (x_bl))) (xb_nil)) (xb_one (xs_ret
    (x_and (x_cmp (op_eqD hr.units) opm_eq (x_len B.b_len (xa_cons (x_v 0) (xa_nil))) (x_len B.b_len (xa_cons (x_v 1) (xa_nil)))) (x_one (x_all rfl B.b_all (xa_cons (x_lc ([("_law_one", 2),
    ("_law_other", 3)]) rfl sc_l_alike.nd (xi_zip B.b_zip (xa_cons (x_v 0) (xa_cons (x_v 1) (xa_nil)))) (blkOk_by (N := N_l_alike) (sc := defScope s_l_alike) (by decide +kernel)) (fun _ _ _ _ _
    => (pg_tup rfl (pgs_cons (pg_name (i := 2) sc_l_alike.nd rfl (Or.inl rfl)) (pgs_cons (pg_name (i := 3) sc_l_alike.nd rfl (Or.inl rfl)) pgs_nil)))) (gm_tup (gsm_cons gm_n (gsm_cons gm_n
    gsm_nil))) (only_tup (only_cons (only_n (by decide)) (only_cons (only_n (by decide)) only_nil))) (fun _ _ _ _ _ => xts_nil) (fun _ _ _ _ _ => x_call U_l_alike hr (by omega) (xr_v (x_v 2)
    (xr_v (x_v 3) (xr_nil))))) (xa_nil)))))))) (xb_nil)) (xb_cons (xs_if (xt_w (xw_or (xt_cmp (op_neD hr.units) opm_ne (x_isi "int" B.b_isinstance B.b_int (by decide +kernel) (x_v 0)) (x_isi
    "int" B.b_isinstance B.b_int (by decide +kernel) (x_v 1))) (xw_or1 (xt_cmp (op_neD hr.units) opm_ne (x_isi "bool" B.b_isinstance B.b_bool (by decide +kernel) (x_v 0)) (x_isi "bool"
    B.b_isinstance B.b_bool (by decide +kernel) (x_v 1)))))) (xb_one (xs_ret (x_bl))) (xb_nil)) (xb_one (xs_ret (x_and (x_cmp (op_eqD hr.units) opm_eq (x_isi "str" B.b_isinstance B.b_str (by
    decide +kernel) (x_v 0)) (x_isi "str" B.b_isinstance B.b_str (by decide +kernel) (x_v 1))) (x_one (x_cmp (op_eqD hr.units) opm_eq (x_v 0) (x_v 1)))))))
abbrev s_first_holding : Stmt := top 6
abbrev N_first_holding : List Str := ["book", "marks", "k", "rule"]
theorem sc_first_holding : FnScope N_first_holding ["book", "marks"] (defScope s_first_holding) := ⟨rfl, rfl, rfl, by decide +kernel, rfl, by decide +kernel, by decide +kernel⟩
theorem ok_first_holding {P : Program} {w : World} {K : PySem.W.Frag} {mg : Str → Option Value} {base : Heap} {f : Addr} {fd : FuncData} (F : FunD K "first_holding" "first_holding" (defArgs s_first_holding) (defBody s_first_holding) (defScope s_first_holding) [] [] f fd) (B : Blt mg) (U_holds : FnU P w K mg base 100 "holds" m_holds []) : FnOk P w K mg base CX0 101 f fd ["book", "marks"] (spM K m_first_holding) :=
  fn_okD F sc_first_holding fun cdv A outer s H E hr => xb_cons (xs_for PassesOwn.never rfl (xi_enum B.b_enumerate (xa_cons (x_v 0) (xa_nil))) (xg_tup rfl (xgs_cons (xg_n 2 sc_first_holding.nd) (xgs_cons (xg_n 3 sc_first_holding.nd) (xgs_nil))))
    (xb_one (xs_if (xt_tru (x_call U_holds hr (by decide) (xr_v (x_ix (x_v 3) (x_int)) (xr_v (x_v 1) (xr_nil))))) (xb_one (xs_ret (x_v 2))) (xb_nil)))) (xb_one (xs_ret (x_non)))
abbrev s_l_first : Stmt := top 19
abbrev N_l_first : List Str := ["_law_book_here", "_law_marks_here", "_law_k", "_law_rule"]
theorem sc_l_first : FnScope N_l_first ["_law_book_here", "_law_marks_here"] (defScope s_l_first) := ⟨rfl, rfl, rfl, by decide +kernel, rfl, by decide +kernel, by decide +kernel⟩
theorem ok_l_first {P : Program} {w : World} {K : PySem.W.Frag} {mg : Str → Option Value} {base : Heap} {f : Addr} {fd : FuncData} (F : FunD K "_law_first" "_law_first" (defArgs s_l_first) (defBody s_l_first) (defScope s_l_first) [] [] f fd) (B : Blt mg) (U_l_true : FnU P w K mg base 100 "_law_true" m_l_true []) : FnOk P w K mg base CX0 101 f fd ["_law_book_here", "_law_marks_here"] (spM K m_l_first) :=
  fn_okD F sc_l_first fun cdv A outer s H E hr => xb_cons (xs_for PassesOwn.never rfl (xi_enum B.b_enumerate (xa_cons (x_v 0) (xa_nil))) (xg_tup rfl (xgs_cons (xg_n 2 sc_l_first.nd) (xgs_cons (xg_n 3 sc_l_first.nd) (xgs_nil)))) (xb_one
    (xs_if (xt_tru (x_call U_l_true hr (by decide) (xr_v (x_ix (x_v 3) (x_int)) (xr_v (x_v 1) (xr_nil))))) (xb_one (xs_ret (x_v 2))) (xb_nil)))) (xb_one (xs_ret (x_non)))
abbrev s_worth : Stmt := top 7
abbrev N_worth : List Str := ["book", "marks", "first"]
theorem sc_worth : FnScope N_worth ["book", "marks"] (defScope s_worth) := ⟨rfl, rfl, rfl, by decide +kernel, rfl, by decide +kernel, by decide +kernel⟩
theorem ok_worth {P : Program} {w : World} {K : PySem.W.Frag} {mg : Str → Option Value} {base : Heap} {f : Addr} {fd : FuncData} (F : FunD K "worth" "worth" (defArgs s_worth) (defBody s_worth) (defScope s_worth) [] [] f fd) (B : Blt mg) (U_first_holding : FnU P w K mg base 101 "first_holding" m_first_holding []) (U_number1 : FnU P w K mg base 2 "number" m_number [(.int 1)]) : FnOk P w K mg base CX0 102 f fd ["book", "marks"] (spM K m_worth) :=
  fn_okD F sc_worth fun cdv A outer s H E hr => xb_cons (xs_setv 2 sc_worth.nd (x_call U_first_holding hr (by decide) (xr_v (x_v 0) (xr_v (x_v 1) (xr_nil))))) (xb_cons (xs_if (xt_cmp op_isX opm_is (x_v 2) (x_non)) (xb_one (xs_ret (x_call
    U_number1 hr (by decide) (xr_v (x_int) (xr_nil))))) (xb_nil)) (xb_one (xs_ret (x_ix (x_ix (x_v 0) (x_v 2)) (x_int)))))
abbrev s_l_thing : Stmt := top 13
abbrev N_l_thing : List Str := ["_law_left_here", "_law_words", "_law_room", "_law_way", "_law_pair", "_law_some", "_law_tree"]
theorem sc_l_thing : FnScope N_l_thing ["_law_left_here", "_law_words", "_law_room"] (defScope s_l_thing) := ⟨rfl, rfl, rfl, by decide +kernel, rfl, by decide +kernel, by decide +kernel⟩
theorem ok_l_thing {P : Program} {w : World} {K : PySem.W.Frag} {mg : Str → Option Value} {base : Heap} {f : Addr} {fd : FuncData} (F : FunD K "_law_thing" "_law_thing" (defArgs s_l_thing) (defBody s_l_thing) (defScope s_l_thing) [] [] f fd) (B : Blt mg) (n : Nat) (m_l_thing m_l_built : FM) (U_l_built : FnU P w K mg base (2 + n) "_law_built" m_l_built []) (U_l_take : FnU P w K mg base 1 "_law_take" m_l_take []) (U_l_thing : FnU P w K mg base (2 + n) "_law_thing" m_l_thing []) (U_l_word : FnU P w K mg base 2 "_law_word" m_l_word []) : FnOk P w K mg base CX0 (2 + n + 1) f fd ["_law_left_here", "_law_words", "_law_room"] (spM K (fnM 7 3 (c_l_thing m_l_thing m_l_built))) :=
  fn_okD F sc_l_thing fun cdv A outer s H E hr => xb_cons (xs_setv 3 sc_l_thing.nd (x_call U_l_take hr (by omega) (xr_m 0 (xr_v (x_int) (xr_nil))))) (xb_cons (xs_asg (x_add (x_ixo 0 (x_int)) (x_int)) (xg_ix 0 (x_int))) (xb_cons (xs_if (xt_w
    (xw_or (xt_cmp (op_ltD (in_room hr)) opm_ord (x_v 3) (x_int)) (xw_or (xt_cmp (op_ltD (in_room hr)) opm_ord (x_v 2) (x_int)) (xw_or1 (xt_cmp (op_gtD (in_room hr)) opm_ord (x_ixo 0 (x_int))
    (x_int)))))) (xb_cons (xs_setv 4 sc_l_thing.nd (x_lst (xa_cons (x_call U_l_word hr (by omega) (xr_m 0 (xr_nil))) (xa_cons (x_call U_l_word hr (by omega) (xr_m 0 (xr_nil))) (xa_nil)))))
    (xb_cons (xs_if (xt_w (xw_and (xt_cmp (op_eqD hr.units) opm_eq (x_mod (x_v 3) (x_int)) (x_int)) (xw_and1 (xt_cmpo 1 (op_neD hr.units) opm_ne (x_lst (xa_nil)))))) (xb_one (xs_setv 4
    sc_l_thing.nd (x_listc B.b_list (xa_cons (x_ixo 1 (x_call U_l_take hr (by omega) (xr_m 0 (xr_v (x_leno 1 B.b_len) (xr_nil))))) (xa_nil))))) (xb_nil)) (xb_cons (xs_ex (x_app 1 (x_tup
    (xa_cons (x_ix (x_v 4) (x_int)) (xa_cons (x_ix (x_v 4) (x_int)) (xa_nil)))))) (xb_one (xs_ret (x_tup (xa_cons (x_v 4) (xa_cons (x_tup (xa_cons (x_str) (xa_cons (x_ix (x_v 4) (x_int))
    (xa_cons (x_ix (x_v 4) (x_int)) (xa_nil))))) (xa_nil))))))))) (xb_nil)) (xb_cons (xs_if (xt_cmp (op_eqD hr.units) opm_eq (x_v 3) (x_int)) (xb_one (xs_ret (x_tup (xa_cons (x_lst (xa_cons
    (x_str) (xa_nil))) (xa_cons (x_tup (xa_cons (x_str) (xa_nil))) (xa_nil)))))) (xb_nil)) (xb_cons (xs_if (xt_cmp (op_eqD hr.units) opm_eq (x_v 3) (x_int)) (xb_cons (xs_asg (x_call U_l_thing
    hr (by omega) (xr_m 0 (xr_m 1 (xr_v (x_sub (x_v 2) (x_int)) (xr_nil))))) (xg_tup rfl (xgs_cons (xg_n 5 sc_l_thing.nd) (xgs_cons (xg_n 6 sc_l_thing.nd) (xgs_nil))))) (xb_one (xs_ret (x_tup
    (xa_cons (x_add (x_lst (xa_cons (x_str) (xa_nil))) (x_v 5)) (xa_cons (x_tup (xa_cons (x_str) (xa_cons (x_v 6) (xa_nil)))) (xa_nil))))))) (xb_nil)) (xb_cons (xs_asg (x_call U_l_built hr (by
    omega) (xr_m 0 (xr_m 1 (xr_v (x_sub (x_v 2) (x_int)) (xr_v (x_str) (xr_nil)))))) (xg_tup rfl (xgs_cons (xg_n 5 sc_l_thing.nd) (xgs_cons (xg_n 6 sc_l_thing.nd) (xgs_nil))))) (xb_one (xs_ret
    (x_tup (xa_cons (x_add (x_add (x_lst (xa_cons (x_str) (xa_nil))) (x_v 5)) (x_lst (xa_cons (x_str) (xa_nil)))) (xa_cons (x_v 6) (xa_nil)))))))))))
abbrev s_l_built : Stmt := top 14
abbrev N_l_built : List Str := ["_law_left_here", "_law_words", "_law_room", "_law_word_here", "_law_below", "_law_some", "_law_tree", "_law_k", "_law_more", "_law_other"]
theorem sc_l_built : FnScope N_l_built ["_law_left_here", "_law_words", "_law_room", "_law_word_here"] (defScope s_l_built) := ⟨rfl, rfl, rfl, by decide +kernel, rfl, by decide +kernel, by decide +kernel⟩
theorem ok_l_built {P : Program} {w : World} {K : PySem.W.Frag} {mg : Str → Option Value} {base : Heap} {f : Addr} {fd : FuncData} (F : FunD K "_law_built" "_law_built" (defArgs s_l_built) (defBody s_l_built) (defScope s_l_built) [] [] f fd) (B : Blt mg) (n : Nat) (m_l_thing m_l_built : FM) (U_l_built : FnU P w K mg base (2 + n) "_law_built" m_l_built []) (U_l_take : FnU P w K mg base 1 "_law_take" m_l_take []) (U_l_thing : FnU P w K mg base (2 + n) "_law_thing" m_l_thing []) : FnOk P w K mg base CX0 (2 + n + 1) f fd ["_law_left_here", "_law_words", "_law_room", "_law_word_here"] (spM K (fnM 10 4 (c_l_built m_l_thing m_l_built))) :=
  fn_okD F sc_l_built fun cdv A outer s H E hr => xb_cons (xs_if (xt_cmp (op_eqD hr.units) opm_eq (x_v 3) (x_str)) (xb_one (xs_ret (x_call U_l_thing hr (by omega) (xr_m 0 (xr_m 1 (xr_v (x_v 2) (xr_nil))))))) (xb_nil)) (xb_cons (xs_setv 4
    sc_l_built.nd (x_dix (room1 hr) (x_dcs [(PySem.Str.ofString "or", PySem.Str.ofString "and"), (PySem.Str.ofString "and", PySem.Str.ofString "")] (pps_cons pe_str pe_str (pps_cons pe_str
    pe_str (pps_nil)))) (x_v 3))) (xb_cons (xs_asg (x_call U_l_built hr (by omega) (xr_m 0 (xr_m 1 (xr_v (x_v 2) (xr_v (x_v 4) (xr_nil)))))) (xg_tup rfl (xgs_cons (xg_n 5 sc_l_built.nd)
    (xgs_cons (xg_n 6 sc_l_built.nd) (xgs_nil))))) (xb_cons (xs_for PassesOwn.never rfl (xi_rng B.b_range (xa_cons (x_ix (x_lst (xa_cons (x_int) (xa_cons (x_int) (xa_cons (x_int) (xa_cons
    (x_int) (xa_cons (x_int) (xa_cons (x_int) (xa_cons (x_int) (xa_cons (x_int) (xa_nil)))))))))) (x_call U_l_take hr (by omega) (xr_m 0 (xr_v (x_int) (xr_nil))))) (xa_nil))) (xg_n 7
    sc_l_built.nd) (xb_one (xs_if (xt_cmp (op_ltD (in_room hr)) opm_ord (x_ixo 0 (x_int)) (x_int)) (xb_cons (xs_asg (x_call U_l_built hr (by omega) (xr_m 0 (xr_m 1 (xr_v (x_v 2) (xr_v (x_v 4)
    (xr_nil)))))) (xg_tup rfl (xgs_cons (xg_n 8 sc_l_built.nd) (xgs_cons (xg_n 9 sc_l_built.nd) (xgs_nil))))) (xb_cons (xs_setv 5 sc_l_built.nd (x_add (x_add (x_v 5) (x_lst (xa_cons (x_v 3)
    (xa_nil)))) (x_v 8))) (xb_one (xs_setv 6 sc_l_built.nd (x_tup (xa_cons (x_v 3) (xa_cons (x_v 6) (xa_cons (x_v 9) (xa_nil))))))))) (xb_nil)))) (xb_one (xs_ret (x_tup (xa_cons (x_v 5)
    (xa_cons (x_v 6) (xa_nil)))))))))
abbrev s_l_book : Stmt := top 21
abbrev N_l_book : List Str := ["_law_script", "_law_first_here", "_law_words", "_law_most", "_law_book_here", "_law_k", "_law_left_here", "_law_pair", "_law_some", "_law_tree"]
theorem sc_l_book : FnScope N_l_book ["_law_script", "_law_first_here", "_law_words", "_law_most"] (defScope s_l_book) := ⟨rfl, rfl, rfl, by decide +kernel, rfl, by decide +kernel, by decide +kernel⟩
theorem ok_l_book {P : Program} {w : World} {K : PySem.W.Frag} {mg : Str → Option Value} {base : Heap} {f : Addr} {fd : FuncData} (F : FunD K "_law_book" "_law_book" (defArgs s_l_book) (defBody s_l_book) (defScope s_l_book) [] [] f fd) (B : Blt mg) (U_l_built : FnU P w K mg base 102 "_law_built" m_l_built []) (U_l_left : FnU P w K mg base 2 "_law_left" m_l_left []) (U_l_worth : FnU P w K mg base 2 "_law_worth" m_l_worth []) : FnOk P w K mg base CX0 103 f fd ["_law_script", "_law_first_here", "_law_words", "_law_most"] (spM K m_l_book) :=
  fn_okD F sc_l_book fun cdv A outer s H E hr => xb_cons (xs_set 4 sc_l_book.nd (x_lst (xa_nil))) (xb_cons (xs_for PassesOwn.never rfl (xi_rng2 B.b_range (xa_cons (x_v 1) (xa_cons (x_minX rfl (in_room hr) B.b_min (xa_cons (x_add (x_v 1)
    (x_v 3)) (xa_cons (x_len B.b_len (xa_cons (x_v 0) (xa_nil))) (xa_nil)))) (xa_nil)))) (xg_n 5 sc_l_book.nd) (xb_cons (xs_set 6 sc_l_book.nd (x_call U_l_left hr (by decide) (xr_v (x_v 0)
    (xr_v (x_v 5) (xr_nil))))) (xb_cons (xs_setv 7 sc_l_book.nd (x_call U_l_worth hr (by decide) (xr_m 6 (xr_nil)))) (xb_cons (xs_asg (x_call U_l_built hr (by decide) (xr_m 6 (xr_m 2 (xr_v
    (x_int) (xr_v (x_str) (xr_nil)))))) (xg_tup rfl (xgs_cons (xg_n 8 sc_l_book.nd) (xgs_cons (xg_n 9 sc_l_book.nd) (xgs_nil))))) (xb_one (xs_ex (x_app 4 (x_tup (xa_cons (x_v 9) (xa_cons (x_v
    7) (xa_nil))))))))))) (xb_one (xs_ret (x_tk 4))))
abbrev s_law : Stmt := top 24
abbrev N_law : List Str := ["_law_script", "_law_kinds_here", "_law_words", "_law_name", "_law_mark", "_law_book_here", "_law_handed", "_law_left_here", "_law_again", "_law_marks_here", "_law_held", "_law_first_here", "_law_due"]
theorem sc_law : FnScope N_law ["_law_script"] (defScope s_law) := ⟨rfl, rfl, rfl, by decide +kernel, rfl, by decide +kernel, by decide +kernel⟩
theorem ok_law {P : Program} {w : World} {K : PySem.W.Frag} {mg : Str → Option Value} {base : Heap} {f : Addr} {fd : FuncData} (F : FunD K "law" "law" (defArgs s_law) (defBody s_law) (defScope s_law) [] [] f fd) (B : Blt mg) (U_l_alike : FnU P w K mg base 100 "_law_alike" m_l_alike []) (U_l_book : FnU P w K mg base 103 "_law_book" m_l_book []) (U_l_first : FnU P w K mg base 101 "_law_first" m_l_first []) (U_l_kinds : FnU P w K mg base 3 "_law_kinds" m_l_kinds []) (U_l_left : FnU P w K mg base 2 "_law_left" m_l_left []) (U_l_marks : FnU P w K mg base 3 "_law_marks" m_l_marks []) (U_worth : FnU P w K mg base 102 "worth" m_worth []) : FnOk P w K mg base CX0 104 f fd ["_law_script"] (spM K m_law) :=
  fn_okD F sc_law fun cdv A outer s H E hr => xb_cons (xs_setv 1 sc_law.nd (x_lk (x_callt U_l_kinds hr (by decide) (x_call U_l_left hr (by decide) (xr_v (x_v 0) (xr_v (x_int) (xr_nil))))))) (xb_cons (xs_set 2 sc_law.nd (x_lst (xa_nil)))
    (xb_cons (xs_for PassesOwn.never rfl (xi_keys (x_v 1)) (xg_n 3 sc_law.nd) (xb_one (xs_set 2 sc_law.nd (x_opo 2 op_addX opm_add (x_lc ([("_law_mark", 4)]) rfl sc_law.nd (xi_seq (x_dix (room1
    hr) (x_v 1) (x_v 3))) (blkOk_by (N := N_law) (sc := defScope s_law) (by decide +kernel)) (fun _ _ _ _ _ => (pg_name (i := 4) sc_law.nd rfl (Or.inl rfl))) (gm_n) (only_n (by decide)) (fun _
    _ _ _ _ => xts_nil) (fun _ _ _ _ _ => x_tup (xa_cons (x_v 3) (xa_cons (x_v 4) (xa_nil))))))))) (xb_cons (xs_setv 5 sc_law.nd (x_call U_l_book hr (by decide) (xr_v (x_v 0) (xr_v (x_int)
    (xr_m 2 (xr_v (x_int) (xr_nil))))))) (xb_cons (xs_setv 6 sc_law.nd (x_listc B.b_list (xa_cons (x_v 5) (xa_nil)))) (xb_cons (xs_set 7 sc_law.nd (x_call U_l_left hr (by decide) (xr_v (x_v 0)
    (xr_v (x_int) (xr_nil))))) (xb_cons (xs_for PassesOwn.never rfl (xi_rng B.b_range (xa_cons (x_int) (xa_nil))) (xg_n 8 sc_law.nd) (xb_cons (xs_setv 9 sc_law.nd (x_call U_l_marks hr (by
    decide) (xr_m 7 (xr_v (x_v 1) (xr_nil))))) (xb_cons (xs_setv 10 sc_law.nd (x_dictc B.b_dict (xa_cons (x_v 9) (xa_nil)))) (xb_cons (xs_setv 11 sc_law.nd (x_call U_l_first hr (by decide)
    (xr_v (x_v 5) (xr_v (x_v 9) (xr_nil))))) (xb_cons (xs_setv 12 sc_law.nd (x_tup (xa_cons (x_int) (xa_cons (x_int) (xa_nil))))) (xb_cons (xs_if (xt_cmp op_notX opm_isnt (x_v 11) (x_non))
    (xb_one (xs_setv 12 sc_law.nd (x_ix (x_ix (x_v 5) (x_v 11)) (x_int)))) (xb_nil)) (xb_one (xs_if (xt_w (xw_or (xt_not (xt_tru (x_call U_l_alike hr (by decide) (xr_v (x_call U_worth hr (by
    decide) (xr_v (x_v 6) (xr_v (x_v 10) (xr_nil)))) (xr_v (x_v 12) (xr_nil)))))) (xw_or (xt_cmp (op_neD hr.units) opm_ne (x_v 6) (x_v 5)) (xw_or1 (xt_cmp (op_neDR (Nat.lt_of_succ_lt (room1
    hr))) opm_ned (x_v 10) (x_v 9)))))) (xb_one (xs_ret (x_bl))) (xb_nil))))))))) (xb_one (xs_ret (x_call U_l_alike hr (by decide) (xr_v (x_call U_worth hr (by decide) (xr_v (x_lst (xa_nil))
    (xr_v (x_d0) (xr_nil)))) (xr_v (x_tup (xa_cons (x_int) (xa_cons (x_int) (xa_nil)))) (xr_nil))))))))))))
end Lw
set_option maxRecDepth 100000
set_option maxHeartbeats 4000000
namespace Lw
open PySem PySem.Spec PyProof.Rows L2 Vz
def d_divisor : He.DefD := ⟨("divisor", none), "divisor", "divisor", defArgs s_divisor, defBody s_divisor, defScope s_divisor, [], []⟩
def d_l_cell_at : He.DefD := ⟨("_law_cell_at", none), "_law_cell_at", "_law_cell_at", defArgs s_l_cell_at, defBody s_l_cell_at, defScope s_l_cell_at, [], []⟩
def d_l_take : He.DefD := ⟨("_law_take", none), "_law_take", "_law_take", defArgs s_l_take, defBody s_l_take, defScope s_l_take, [], []⟩
def d_l_lowest : He.DefD := ⟨("_law_lowest", none), "_law_lowest", "_law_lowest", defArgs s_l_lowest, defBody s_l_lowest, defScope s_l_lowest, [], []⟩
def d_number : He.DefD := ⟨("number", none), "number", "number", defArgs s_number, defBody s_number, defScope s_number, [(He.Dv.int 1)], []⟩
def d_l_left : He.DefD := ⟨("_law_left", none), "_law_left", "_law_left", defArgs s_l_left, defBody s_l_left, defScope s_l_left, [], []⟩
def d_l_word : He.DefD := ⟨("_law_word", none), "_law_word", "_law_word", defArgs s_l_word, defBody s_l_word, defScope s_l_word, [], []⟩
def d_l_worth : He.DefD := ⟨("_law_worth", none), "_law_worth", "_law_worth", defArgs s_l_worth, defBody s_l_worth, defScope s_l_worth, [], []⟩
def d_l_kinds : He.DefD := ⟨("_law_kinds", none), "_law_kinds", "_law_kinds", defArgs s_l_kinds, defBody s_l_kinds, defScope s_l_kinds, [], []⟩
def d_l_marks : He.DefD := ⟨("_law_marks", none), "_law_marks", "_law_marks", defArgs s_l_marks, defBody s_l_marks, defScope s_l_marks, [], []⟩
def d_holds : He.DefD := ⟨("holds", none), "holds", "holds", defArgs s_holds, defBody s_holds, defScope s_holds, [], []⟩
def d_l_true : He.DefD := ⟨("_law_true", none), "_law_true", "_law_true", defArgs s_l_true, defBody s_l_true, defScope s_l_true, [], []⟩
def d_l_alike : He.DefD := ⟨("_law_alike", none), "_law_alike", "_law_alike", defArgs s_l_alike, defBody s_l_alike, defScope s_l_alike, [], []⟩
def d_first_holding : He.DefD := ⟨("first_holding", none), "first_holding", "first_holding", defArgs s_first_holding, defBody s_first_holding, defScope s_first_holding, [], []⟩
def d_l_first : He.DefD := ⟨("_law_first", none), "_law_first", "_law_first", defArgs s_l_first, defBody s_l_first, defScope s_l_first, [], []⟩
def d_worth : He.DefD := ⟨("worth", none), "worth", "worth", defArgs s_worth, defBody s_worth, defScope s_worth, [], []⟩
def d_l_thing : He.DefD := ⟨("_law_thing", none), "_law_thing", "_law_thing", defArgs s_l_thing, defBody s_l_thing, defScope s_l_thing, [], []⟩
def d_l_built : He.DefD := ⟨("_law_built", none), "_law_built", "_law_built", defArgs s_l_built, defBody s_l_built, defScope s_l_built, [], []⟩
def d_l_book : He.DefD := ⟨("_law_book", none), "_law_book", "_law_book", defArgs s_l_book, defBody s_l_book, defScope s_l_book, [], []⟩
def d_law : He.DefD := ⟨("law", none), "law", "law", defArgs s_law, defBody s_law, defScope s_law, [], []⟩
def fn : List He.DefD := [d_divisor, d_l_cell_at, d_l_take, d_l_lowest, d_number, d_l_left, d_l_word, d_l_worth, d_l_kinds, d_l_marks, d_holds, d_l_true, d_l_alike, d_first_holding, d_l_first, d_worth, d_l_thing, d_l_built, d_l_book, d_law]
def fa : List He.Fa := [.glo "divisor", .glo "_law_cell_at", .glo "_law_take", .glo "_law_lowest", .glo "number", .glo "_law_left", .glo "_law_word", .glo "_law_worth", .glo "_law_kinds", .glo "_law_marks", .glo "holds", .glo "_law_true", .glo "_law_alike", .glo "first_holding", .glo "_law_first", .glo "worth", .glo "_law_thing", .glo "_law_built", .glo "_law_book", .glo "law", .free "abs", .free "all", .free "any", .free "bool", .free "dict", .free "enumerate", .free "int", .free "isinstance", .free "len", .free "list", .free "min", .free "range", .free "str", .free "tuple", .free "zip"]
abbrev R : PySem.W.OpenRow := PySem.W.OpenLaw.row PySem.Challenge.rw_sheetlay_k48_the_first_rule
abbrev hk : PySem.W.Hook := He.hookD 4 fa fn
def ob (s : PySem.W.SharedT) : He.AlD := He.obsDG 4 fa fn (HandSHeadRun.getT s)
theorem ob_eq (s : PySem.W.SharedT) : ob s = hk.obs s.abs := He.obsDG_eq (HandSHeadRun.getT_eq s)
def loose : List Str := ["divisor", "number", "holds", "first_holding", "worth", "_law_cell_at", "_law_take", "_law_left", "_law_word", "_law_thing", "_law_built", "_law_lowest", "_law_worth", "_law_worth_text", "_law_true", "_law_first", "_law_kinds", "_law_book", "_law_alike", "_law_marks"]
theorem run (w : World) : HandSHeadRun.RunEq R (PySem.W.view R.prog [24]) hk ob 3000 loose w := by
  intro os
  kernel_rfl
theorem facts {P : Program} {w : World} {K : PySem.W.Frag} {h : Heap} {mg : Str → Option Value} {f : Addr} (X : K.In h) (G : h.Ns mainGlobals mg) (hfa : mg ("law" : Str) = some (.ref f)) (c : He.SaysD fa fn K)
    (math : ∀ ns : List Int, ns.length ≤ 63 → m_law [.val (.lst (ns.map D.int))] = some (.val (.bl true), [.val (.lst (ns.map D.int))])) :
    ∃ fd : FuncData, (∀ (s : Shared) (v : Value), BindsTo s fd ⟨[v], []⟩ [("_law_script", v)]) ∧ ∀ base : Heap, K.In base → base.Ns mainGlobals mg → FnOk P w K mg base CX0 104 f fd ["_law_script"] (spLaw K) := by
  have B : Blt mg := ⟨He.free_ok X G (c.fact 20 (f := .free "abs") rfl), He.free_ok X G (c.fact 21 (f := .free "all") rfl), He.free_ok X G (c.fact 22 (f := .free "any") rfl), He.free_ok X G (c.fact 23 (f := .free "bool") rfl), He.free_ok X G (c.fact 24 (f := .free "dict") rfl), He.free_ok X G (c.fact 25 (f := .free "enumerate") rfl), He.free_ok X G (c.fact 26 (f := .free "int") rfl), He.free_ok X G (c.fact 27 (f := .free "isinstance") rfl), He.free_ok X G (c.fact 28 (f := .free "len") rfl), He.free_ok X G (c.fact 29 (f := .free "list") rfl), He.free_ok X G (c.fact 30 (f := .free "min") rfl), He.free_ok X G (c.fact 31 (f := .free "range") rfl), He.free_ok X G (c.fact 32 (f := .free "str") rfl), He.free_ok X G (c.fact 33 (f := .free "tuple") rfl), He.free_ok X G (c.fact 34 (f := .free "zip") rfl)⟩
  obtain ⟨fd_divisor, F_divisor⟩ := c.def_ 0 (d := d_divisor) rfl
  obtain ⟨fd_l_cell_at, F_l_cell_at⟩ := c.def_ 1 (d := d_l_cell_at) rfl
  obtain ⟨fd_l_take, F_l_take⟩ := c.def_ 2 (d := d_l_take) rfl
  obtain ⟨fd_l_lowest, F_l_lowest⟩ := c.def_ 3 (d := d_l_lowest) rfl
  obtain ⟨fd_number, F_number⟩ := c.def_ 4 (d := d_number) rfl
  obtain ⟨fd_l_left, F_l_left⟩ := c.def_ 5 (d := d_l_left) rfl
  obtain ⟨fd_l_word, F_l_word⟩ := c.def_ 6 (d := d_l_word) rfl
  obtain ⟨fd_l_worth, F_l_worth⟩ := c.def_ 7 (d := d_l_worth) rfl
  obtain ⟨fd_l_kinds, F_l_kinds⟩ := c.def_ 8 (d := d_l_kinds) rfl
  obtain ⟨fd_l_marks, F_l_marks⟩ := c.def_ 9 (d := d_l_marks) rfl
  obtain ⟨fd_holds, F_holds⟩ := c.def_ 10 (d := d_holds) rfl
  obtain ⟨fd_l_true, F_l_true⟩ := c.def_ 11 (d := d_l_true) rfl
  obtain ⟨fd_l_alike, F_l_alike⟩ := c.def_ 12 (d := d_l_alike) rfl
  obtain ⟨fd_first_holding, F_first_holding⟩ := c.def_ 13 (d := d_first_holding) rfl
  obtain ⟨fd_l_first, F_l_first⟩ := c.def_ 14 (d := d_l_first) rfl
  obtain ⟨fd_worth, F_worth⟩ := c.def_ 15 (d := d_worth) rfl
  obtain ⟨fd_l_thing, F_l_thing⟩ := c.def_ 16 (d := d_l_thing) rfl
  obtain ⟨fd_l_built, F_l_built⟩ := c.def_ 17 (d := d_l_built) rfl
  obtain ⟨fd_l_book, F_l_book⟩ := c.def_ 18 (d := d_l_book) rfl
  obtain ⟨fd_law, F_law⟩ := c.def_ 19 (d := d_law) rfl
  have e := hfa.symm.trans (He.glo_ok X G (c.fact 19 (f := .glo "law") rfl))
  cases e
  refine ⟨fd_law, fun s v => FunD.bindsA (ps := ["_law_script"]) F_law (fun _ _ _ _ _ _ us hl => match us, hl with | [_], _ => rfl) s [v] rfl, fun base _ _ => ?_⟩
  have G_divisor := ok_divisor (P := P) (w := w) (base := base) F_divisor B
  have U_divisor : FnU P w K mg base 1 "divisor" m_divisor [] := .mk0 G_divisor (He.glo_ok X G (c.fact 0 (f := .glo "divisor") rfl)) F_divisor.kp (FunD.bindsN F_divisor fun _ _ _ _ _ _ us hl => match us, hl with | [_, _], _ => rfl)
  have G_l_cell_at := ok_l_cell_at (P := P) (w := w) (base := base) F_l_cell_at B
  have U_l_cell_at : FnU P w K mg base 1 "_law_cell_at" m_l_cell_at [] := .mk0 G_l_cell_at (He.glo_ok X G (c.fact 1 (f := .glo "_law_cell_at") rfl)) F_l_cell_at.kp (FunD.bindsN F_l_cell_at fun _ _ _ _ _ _ us hl => match us, hl with | [_, _], _ => rfl)
  have G_l_take := ok_l_take (P := P) (w := w) (base := base) F_l_take B
  have U_l_take : FnU P w K mg base 1 "_law_take" m_l_take [] := .mk0 G_l_take (He.glo_ok X G (c.fact 2 (f := .glo "_law_take") rfl)) F_l_take.kp (FunD.bindsN F_l_take fun _ _ _ _ _ _ us hl => match us, hl with | [_, _], _ => rfl)
  have G_l_lowest := ok_l_lowest (P := P) (w := w) (base := base) F_l_lowest B
  have U_l_lowest : FnU P w K mg base 1 "_law_lowest" m_l_lowest [] := .mk0 G_l_lowest (He.glo_ok X G (c.fact 3 (f := .glo "_law_lowest") rfl)) F_l_lowest.kp (FunD.bindsN F_l_lowest fun _ _ _ _ _ _ us hl => match us, hl with | [_, _], _ => rfl)
  have G_number := ok_number (P := P) (w := w) (base := base) F_number B U_divisor
  have U_number1 : FnU P w K mg base 2 "number" m_number [(.int 1)] := .mkD G_number (He.glo_ok X G (c.fact 4 (f := .glo "number") rfl)) F_number.kp (FunD.binds1 (ps := ["n", "d"]) F_number 1 0 (List.cons_ne_nil _ _) rfl fun T kV doc pm an cdv ct us its hl h2 => match us, its, hl, h2 with | [_], [_], _, _ => ⟨_, rfl, rfl⟩) fun _ => (.cons (.int _) .nil)
  have G_l_left := ok_l_left (P := P) (w := w) (base := base) F_l_left B U_l_cell_at
  have U_l_left : FnU P w K mg base 2 "_law_left" m_l_left [] := .mk0 G_l_left (He.glo_ok X G (c.fact 5 (f := .glo "_law_left") rfl)) F_l_left.kp (FunD.bindsN F_l_left fun _ _ _ _ _ _ us hl => match us, hl with | [_, _], _ => rfl)
  have G_l_word := ok_l_word (P := P) (w := w) (base := base) F_l_word B U_l_take
  have U_l_word : FnU P w K mg base 2 "_law_word" m_l_word [] := .mk0 G_l_word (He.glo_ok X G (c.fact 6 (f := .glo "_law_word") rfl)) F_l_word.kp (FunD.bindsN F_l_word fun _ _ _ _ _ _ us hl => match us, hl with | [_], _ => rfl)
  have G_l_worth := ok_l_worth (P := P) (w := w) (base := base) F_l_worth B U_l_lowest U_l_take
  have U_l_worth : FnU P w K mg base 2 "_law_worth" m_l_worth [] := .mk0 G_l_worth (He.glo_ok X G (c.fact 7 (f := .glo "_law_worth") rfl)) F_l_worth.kp (FunD.bindsN F_l_worth fun _ _ _ _ _ _ us hl => match us, hl with | [_], _ => rfl)
  have G_l_kinds := ok_l_kinds (P := P) (w := w) (base := base) F_l_kinds B U_l_take U_l_word
  have U_l_kinds : FnU P w K mg base 3 "_law_kinds" m_l_kinds [] := .mk0 G_l_kinds (He.glo_ok X G (c.fact 8 (f := .glo "_law_kinds") rfl)) F_l_kinds.kp (FunD.bindsN F_l_kinds fun _ _ _ _ _ _ us hl => match us, hl with | [_], _ => rfl)
  have G_l_marks := ok_l_marks (P := P) (w := w) (base := base) F_l_marks B U_l_take U_l_word
  have U_l_marks : FnU P w K mg base 3 "_law_marks" m_l_marks [] := .mk0 G_l_marks (He.glo_ok X G (c.fact 9 (f := .glo "_law_marks") rfl)) F_l_marks.kp (FunD.bindsN F_l_marks fun _ _ _ _ _ _ us hl => match us, hl with | [_, _], _ => rfl)
  have R_holds : ∀ n, FnU P w K mg base (0 + n) "holds" (r_holds n) [] := by
    intro n
    induction n with
    | zero => exact .mk0 (fn_none (ps := ["condition", "marks"])) (He.glo_ok X G (c.fact 10 (f := .glo "holds") rfl)) F_holds.kp (FunD.bindsN F_holds fun _ _ _ _ _ _ us hl => match us, hl with | [_, _], _ => rfl)
    | succ n ih =>
      have U_holds := ih
      exact .mk0 (ok_holds (P := P) (w := w) (base := base) F_holds B n _ U_holds) (He.glo_ok X G (c.fact 10 (f := .glo "holds") rfl)) F_holds.kp (FunD.bindsN F_holds fun _ _ _ _ _ _ us hl => match us, hl with | [_, _], _ => rfl)
  have U_holds : FnU P w K mg base 100 "holds" m_holds [] := (R_holds 100)
  have R_l_true : ∀ n, FnU P w K mg base (0 + n) "_law_true" (r_l_true n) [] := by
    intro n
    induction n with
    | zero => exact .mk0 (fn_none (ps := ["_law_tree", "_law_marks_here"])) (He.glo_ok X G (c.fact 11 (f := .glo "_law_true") rfl)) F_l_true.kp (FunD.bindsN F_l_true fun _ _ _ _ _ _ us hl => match us, hl with | [_, _], _ => rfl)
    | succ n ih =>
      have U_l_true := ih
      exact .mk0 (ok_l_true (P := P) (w := w) (base := base) F_l_true B n _ U_l_true) (He.glo_ok X G (c.fact 11 (f := .glo "_law_true") rfl)) F_l_true.kp (FunD.bindsN F_l_true fun _ _ _ _ _ _ us hl => match us, hl with | [_, _], _ => rfl)
  have U_l_true : FnU P w K mg base 100 "_law_true" m_l_true [] := (R_l_true 100)
  have R_l_alike : ∀ n, FnU P w K mg base (0 + n) "_law_alike" (r_l_alike n) [] := by
    intro n
    induction n with
    | zero => exact .mk0 (fn_none (ps := ["_law_got", "_law_due"])) (He.glo_ok X G (c.fact 12 (f := .glo "_law_alike") rfl)) F_l_alike.kp (FunD.bindsN F_l_alike fun _ _ _ _ _ _ us hl => match us, hl with | [_, _], _ => rfl)
    | succ n ih =>
      have U_l_alike := ih
      exact .mk0 (ok_l_alike (P := P) (w := w) (base := base) F_l_alike B n _ U_l_alike) (He.glo_ok X G (c.fact 12 (f := .glo "_law_alike") rfl)) F_l_alike.kp (FunD.bindsN F_l_alike fun _ _ _ _ _ _ us hl => match us, hl with | [_, _], _ => rfl)
  have U_l_alike : FnU P w K mg base 100 "_law_alike" m_l_alike [] := (R_l_alike 100)
  have G_first_holding := ok_first_holding (P := P) (w := w) (base := base) F_first_holding B U_holds
  have U_first_holding : FnU P w K mg base 101 "first_holding" m_first_holding [] := .mk0 G_first_holding (He.glo_ok X G (c.fact 13 (f := .glo "first_holding") rfl)) F_first_holding.kp (FunD.bindsN F_first_holding fun _ _ _ _ _ _ us hl => match us, hl with | [_, _], _ => rfl)
  have G_l_first := ok_l_first (P := P) (w := w) (base := base) F_l_first B U_l_true
  have U_l_first : FnU P w K mg base 101 "_law_first" m_l_first [] := .mk0 G_l_first (He.glo_ok X G (c.fact 14 (f := .glo "_law_first") rfl)) F_l_first.kp (FunD.bindsN F_l_first fun _ _ _ _ _ _ us hl => match us, hl with | [_, _], _ => rfl)
  have G_worth := ok_worth (P := P) (w := w) (base := base) F_worth B U_first_holding U_number1
  have U_worth : FnU P w K mg base 102 "worth" m_worth [] := .mk0 G_worth (He.glo_ok X G (c.fact 15 (f := .glo "worth") rfl)) F_worth.kp (FunD.bindsN F_worth fun _ _ _ _ _ _ us hl => match us, hl with | [_, _], _ => rfl)
  have R_l_thing : ∀ n, FnU P w K mg base (2 + n) "_law_thing" (r_l_thing n).1 [] ∧ FnU P w K mg base (2 + n) "_law_built" (r_l_thing n).2 [] := by
    intro n
    induction n with
    | zero => exact ⟨.mk0 (fn_none (ps := ["_law_left_here", "_law_words", "_law_room"])) (He.glo_ok X G (c.fact 16 (f := .glo "_law_thing") rfl)) F_l_thing.kp (FunD.bindsN F_l_thing fun _ _ _ _ _ _ us hl => match us, hl with | [_, _, _], _ => rfl), .mk0 (fn_none (ps := ["_law_left_here", "_law_words", "_law_room", "_law_word_here"])) (He.glo_ok X G (c.fact 17 (f := .glo "_law_built") rfl)) F_l_built.kp (FunD.bindsN F_l_built fun _ _ _ _ _ _ us hl => match us, hl with | [_, _, _, _], _ => rfl)⟩
    | succ n ih =>
      have U_l_thing := ih.1
      have U_l_built := ih.2
      exact ⟨.mk0 (ok_l_thing (P := P) (w := w) (base := base) F_l_thing B n _ _ U_l_built U_l_take U_l_thing U_l_word) (He.glo_ok X G (c.fact 16 (f := .glo "_law_thing") rfl)) F_l_thing.kp (FunD.bindsN F_l_thing fun _ _ _ _ _ _ us hl => match us, hl with | [_, _, _], _ => rfl), .mk0 (ok_l_built (P := P) (w := w) (base := base) F_l_built B n _ _ U_l_built U_l_take U_l_thing) (He.glo_ok X G (c.fact 17 (f := .glo "_law_built") rfl)) F_l_built.kp (FunD.bindsN F_l_built fun _ _ _ _ _ _ us hl => match us, hl with | [_, _, _, _], _ => rfl)⟩
  have U_l_thing : FnU P w K mg base 102 "_law_thing" m_l_thing [] := (R_l_thing 100).1
  have U_l_built : FnU P w K mg base 102 "_law_built" m_l_built [] := (R_l_thing 100).2
  have G_l_book := ok_l_book (P := P) (w := w) (base := base) F_l_book B U_l_built U_l_left U_l_worth
  have U_l_book : FnU P w K mg base 103 "_law_book" m_l_book [] := .mk0 G_l_book (He.glo_ok X G (c.fact 18 (f := .glo "_law_book") rfl)) F_l_book.kp (FunD.bindsN F_l_book fun _ _ _ _ _ _ us hl => match us, hl with | [_, _, _, _], _ => rfl)
  have G_law := ok_law (P := P) (w := w) (base := base) F_law B U_l_alike U_l_book U_l_first U_l_kinds U_l_left U_l_marks U_worth
  exact law_ok G_law rfl math
end Lw
open PySem PySem.W PySem.Calls PyProof.Rows
theorem PySem.Challenge.cw_sheetlay_k48_the_first_rule_holds : PySem.Challenge.rw_sheetlay_k48_the_first_rule.Holds := by
  w_on; o_law
  refine HandSHeadRun.head_any (r := OpenLaw.row PySem.Challenge.rw_sheetlay_k48_the_first_rule) (q := view (OpenLaw.row PySem.Challenge.rw_sheetlay_k48_the_first_rule).prog [24]) (H := Lw.hk) (ob := Lw.ob) (M := 3000) (loose := Lw.loose) (d := HandSHeadRun.topDef (OpenLaw.row PySem.Challenge.rw_sheetlay_k48_the_first_rule).prog 24) (kwd := []) Lw.ob_eq
    (by kernel_rfl) (fun s => by kernel_rfl) Lw.run (by kernel_rfl) (by kernel_rfl) (by kernel_rfl) (by rfl) (by first | assumption | decide +kernel) (by decide +kernel) ⟨rfl, rfl, rfl, rfl, rfl, by decide +kernel⟩ ?hw ?hc
  case hw => w_witness2
  case hc =>
    refine L2.walk_ofE (l := PySem.Challenge.rw_sheetlay_k48_the_first_rule) (n := 63) (k := 104) (x := "_law_script") (CX := L2.CX0) rfl (by decide) (by kernel_rfl) ⟨rfl, by decide, by decide⟩ ?F (fun _ _ _ _ z => z)
    intro w mg fa h Y G hmg0
    obtain ⟨K, KX, c⟩ := Y
    have hmg : mg ("law" : PySem.Str) = some (.ref fa) := by
      have e : (HandSHeadRun.topDef (OpenLaw.row PySem.Challenge.rw_sheetlay_k48_the_first_rule).prog 24).name = ("law" : PySem.Str) := by kernel_rfl
      rw [← e]
      exact hmg0
    obtain ⟨fd, hb, hF⟩ := Lw.facts (P := (PySem.Challenge.rw_sheetlay_k48_the_first_rule).prog) (w := w) KX G hmg c Lw.math
    exact ⟨K, fd, Vz.spLaw K, KX, hb, fun H a ns hl _ hS => ⟨a, ns, rfl, hS, hl, fun _ => rfl⟩, hF⟩
#print axioms PySem.Challenge.cw_sheetlay_k48_the_first_rule_holds
