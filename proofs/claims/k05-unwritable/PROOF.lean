import PyProof.Rows.All
import Wide.All
import OpenK.AllK
import Wide.FinOn
import KE.KStateDown
import HandS.ForMost
import HandS.Exc
import HandS.ExcOwn
import HandS.WordsExc
import HandS.Walk
import KE.KDictKeyed
import KE.KDictDisplayH
import KE.KDictLaw
import HandS.Defaults
import HandS.TupAny
import HandS.TupMul
import HandS.Style
import HandS.Wide
import HandS.Deep
import HandS.StrMore
import HandS.IsInst
import HandS.TupSets
import KE.SortData
import KE.DataMinMax
import KE.SortKeyHeap
import HandS.DictComp
import HandS.Conv
import HandS.Replace
import HandS.SortKw
import KE.KRevSl
import HandS.TryMany
import PySem.Challenge.RW_dotcells_k05_whole_unwritable
import HandS.Words
import HandS.Head0
import HandS.Head1
import HandS.Head2
import HandS.HeadEnd
import HandS.HeadHook1
import HandS.HeadHook2
section
set_option Elab.async false
set_option linter.all false
set_option maxRecDepth 100000
set_option maxHeartbeats 4000000
/-! Data by value, objects by number: an abstract machine over the hand layer. -/
namespace Dc
open PySem PySem.Spec PyProof.Rows L2

/-- data: tuples by value, what can change by its number in the heap; fro: a list that never changes -/
inductive D where
  | non | bl (b : Bool) | int (i : Int) | str (cs : List Nat) | tup (xs : List D) | ref (i : Nat) | fro (xs : List D)
namespace D
mutual
def beq : D → D → Bool
  | .non, .non => true
  | .bl a, .bl b => a == b
  | .int a, .int b => decide (a = b)
  | .str a, .str b => decide (a = b)
  | .tup a, .tup b => beqs a b
  | .ref a, .ref b => decide (a = b)
  | .fro a, .fro b => beqs a b
  | .non, .bl _ | .non, .int _ | .non, .str _ | .non, .tup _ | .non, .ref _ | .non, .fro _ => false
  | .bl _, .non | .bl _, .int _ | .bl _, .str _ | .bl _, .tup _ | .bl _, .ref _ | .bl _, .fro _ => false
  | .int _, .non | .int _, .bl _ | .int _, .str _ | .int _, .tup _ | .int _, .ref _ | .int _, .fro _ => false
  | .str _, .non | .str _, .bl _ | .str _, .int _ | .str _, .tup _ | .str _, .ref _ | .str _, .fro _ => false
  | .tup _, .non | .tup _, .bl _ | .tup _, .int _ | .tup _, .str _ | .tup _, .ref _ | .tup _, .fro _ => false
  | .ref _, .non | .ref _, .bl _ | .ref _, .int _ | .ref _, .str _ | .ref _, .tup _ | .ref _, .fro _ => false
  | .fro _, .non | .fro _, .bl _ | .fro _, .int _ | .fro _, .str _ | .fro _, .tup _ | .fro _, .ref _ => false
def beqs : List D → List D → Bool
  | [], [] => true
  | a :: as, b :: bs => beq a b && beqs as bs
  | [], _ :: _ => false
  | _ :: _, [] => false
end
mutual
theorem beq_self : ∀ a : D, beq a a = true
  | .non => rfl
  | .bl a => by simp [beq]
  | .int a => by simp [beq]
  | .str a => by simp [beq]
  | .ref a => by simp [beq]
  | .tup a => by rw [beq]; exact beqs_self a
  | .fro a => by rw [beq]; exact beqs_self a
theorem beqs_self : ∀ a : List D, beqs a a = true
  | [] => rfl
  | a :: as => by rw [beqs, beq_self a, beqs_self as]; rfl
end
mutual
theorem eq_of_beq : ∀ a b : D, beq a b = true → a = b
  | .non, .non, _ => rfl
  | .bl a, .bl b, h => by simp [beq] at h; rw [h]
  | .int a, .int b, h => by simp [beq] at h; rw [h]
  | .str a, .str b, h => by simp [beq] at h; rw [h]
  | .ref a, .ref b, h => by simp [beq] at h; rw [h]
  | .tup a, .tup b, h => by rw [beq] at h; rw [eq_of_beqs a b h]
  | .fro a, .fro b, h => by rw [beq] at h; rw [eq_of_beqs a b h]
  | .non, .bl _, h | .non, .int _, h | .non, .str _, h | .non, .tup _, h | .non, .ref _, h | .non, .fro _, h => by simp [beq] at h
  | .bl _, .non, h | .bl _, .int _, h | .bl _, .str _, h | .bl _, .tup _, h | .bl _, .ref _, h | .bl _, .fro _, h => by simp [beq] at h
  | .int _, .non, h | .int _, .bl _, h | .int _, .str _, h | .int _, .tup _, h | .int _, .ref _, h | .int _, .fro _, h => by simp [beq] at h
  | .str _, .non, h | .str _, .bl _, h | .str _, .int _, h | .str _, .tup _, h | .str _, .ref _, h | .str _, .fro _, h => by simp [beq] at h
  | .tup _, .non, h | .tup _, .bl _, h | .tup _, .int _, h | .tup _, .str _, h | .tup _, .ref _, h | .tup _, .fro _, h => by simp [beq] at h
  | .ref _, .non, h | .ref _, .bl _, h | .ref _, .int _, h | .ref _, .str _, h | .ref _, .tup _, h | .ref _, .fro _, h => by simp [beq] at h
  | .fro _, .non, h | .fro _, .bl _, h | .fro _, .int _, h | .fro _, .str _, h | .fro _, .tup _, h | .fro _, .ref _, h => by simp [beq] at h
theorem eq_of_beqs : ∀ a b : List D, beqs a b = true → a = b
  | [], [], _ => rfl
  | a :: as, b :: bs, h => by
    rw [beqs, Bool.and_eq_true] at h
    rw [eq_of_beq a b h.1, eq_of_beqs as bs h.2]
  | [], _ :: _, h => by simp [beqs] at h
  | _ :: _, [], h => by simp [beqs] at h
end
instance : DecidableEq D := fun a b => if h : beq a b = true then .isTrue (eq_of_beq a b h) else .isFalse fun e => h (e ▸ beq_self a)
mutual
/-- no truth value, no object within, to depth n -/
def plainN : Nat → D → Bool
  | _, .non => true
  | _, .int _ => true
  | _, .str _ => true
  | 0, .tup _ => false
  | n + 1, .tup xs => plainNs n xs
  | _, .bl _ => false
  | _, .ref _ => false
  | _, .fro _ => false
def plainNs : Nat → List D → Bool
  | _, [] => true
  | n, x :: xs => plainN n x && plainNs n xs
end
abbrev plain (d : D) : Bool := plainN 8 d
end D

/-- what stands in the heap -/
inductive Ob where
  | lst (xs : List D)
  /-- a dict with tuple keys -/
  | dct (kvs : List (D × D))
abbrev Hh := List Ob
/-- what an expression comes to -/
inductive Rs (α : Type) where
  | ok (a : α) (h : Hh) | exc (c : Nat) (h : Hh) | bad
abbrev Ev := List (Option D)
abbrev EM := Ev → Hh → Rs D
abbrev TM := Ev → Hh → Rs Bool
abbrev AM := Ev → Hh → Rs (List D)
/-- what a statement comes to -/
inductive Out where
  | nx (r : Ev) (h : Hh) | rt (d : D) (h : Hh) | bk (r : Ev) (h : Hh) | ct (r : Ev) (h : Hh) | ex (c : Nat) (r : Ev) (h : Hh) | bad
abbrev SM := Ev → Hh → Out
abbrev Fn := List D → Hh → Rs D

/-- a list that never changes: known to the object, or the module's own -/
def FrL (K : PySem.W.Frag) (H : Hp) (a : Addr) (xs : List V) : Prop :=
  (∃ ob, H a = some (.frz ob (.lst xs))) ∨
    ∃ (o : Obj) (its : Array Value) (n : Nat), K.lookup a = some o ∧ o.cls = .type "list" ∧ o.dict = none ∧ o.data = .seq its n ∧ its.size ≤ sizeLine ∧ Vals xs its.toList
theorem FrL.sq {K : PySem.W.Frag} {H : Hp} {a : Addr} {xs : List V} (h : FrL K H a xs) : SqL K H a xs := by
  rcases h with ⟨o, h⟩ | h
  · exact .inl (.inr ⟨o, h⟩)
  · exact .inr h
mutual
inductive Rep (K : PySem.W.Frag) (B : List Addr) (H : Hp) : D → V → Prop
  | non : Rep K B H .non .non
  | bl (b : Bool) : Rep K B H (.bl b) (.bl b)
  | int (i : Int) : Rep K B H (.int i) (.int i)
  | str {cs : List Nat} : cs.all (· < 1114112) = true → Rep K B H (.str cs) (.str ⟨cs.toArray⟩)
  | tup {a : Addr} {xs : List V} {ds : List D} : SqT K H a xs → Reps K B H ds xs → Rep K B H (.tup ds) (.ref a)
  | ref {i : Nat} {a : Addr} : B[i]? = some a → Rep K B H (.ref i) (.ref a)
  | fro {a : Addr} {xs : List V} {ds : List D} : FrL K H a xs → Reps K B H ds xs → Rep K B H (.fro ds) (.ref a)
inductive Reps (K : PySem.W.Frag) (B : List Addr) (H : Hp) : List D → List V → Prop
  | nil : Reps K B H [] []
  | cons {d : D} {v : V} {ds : List D} {vs : List V} : Rep K B H d v → Reps K B H ds vs → Reps K B H (d :: ds) (v :: vs)
end

/-- an exact object -/
def exO (a : Addr) (o : Obj) : HO := .ext fun h => h.get? a = some o

mutual
/-- the key of a dict as the library has it -/
def nkey : D → NestedKey
  | .non => .none
  | .bl b => .num (if b then 1 else 0)
  | .int i => .num i
  | .str cs => .text ⟨cs.toArray⟩
  | .tup xs => .tup (nkeys xs)
  | .ref _ => .none
  | .fro _ => .none
def nkeys : List D → List NestedKey
  | [] => []
  | x :: xs => nkey x :: nkeys xs
end
def isKey : D → Bool
  | .tup xs => D.plainNs 7 xs
  | _ => false

/-- an entry of a dict with tuple keys -/
def EntOk (w : World) (K : PySem.W.Frag) (B : List Addr) (H : Hp) (p : D × D) (q : NestedKey × Addr × Value) : Prop :=
  isKey p.1 = true ∧ q.1 = nkey p.1 ∧ Rep K B H p.1 (.ref q.2.1) ∧ ∃ v, RelV v q.2.2 ∧ Rep K B H p.2 v

def ObRep (P : Program) (w : World) (K : PySem.W.Frag) (B : List Addr) (H : Hp) (a : Addr) : Ob → Prop
  | .lst ds => ∃ vs, H a = some (.lst vs) ∧ Reps K B H ds vs
  | .dct kvs => (a == sysModules) = false ∧ kvs.length ≤ sizeLine ∧ (kvs.map (·.1)).Nodup ∧ ∃ (o : Obj) (es : Array DictEntry) (ep : Nat) (xs : List (NestedKey × Addr × Value)),
      H a = some (exO a o) ∧ o.ExactDict ∧ o.data = .dict es ep ∧ Paired (EntOk w K B H) kvs xs ∧ es.toList = xs.map (entryOfKey (nestedKind P w))

structure RelH (P : Program) (w : World) (K : PySem.W.Frag) (B : List Addr) (h : Hh) (H : Hp) : Prop where
  nd : B.Nodup
  len : h.length = B.length
  ob : ∀ (i : Nat) (o : Ob) (a : Addr), h[i]? = some o → B[i]? = some a → ObRep P w K B H a o

/-- which of the objects may be changed -/
structure Fl where
  may : Nat → Bool
/-- what a value stays the same by -/
structure Grow (B : List Addr) (H : Hp) (B' : List Addr) (H' : Hp) : Prop where
  sub : ∃ t, B' = B ++ t
  tup : ∀ a xs, H a = some (.tup xs) → H' a = some (.tup xs)
  frz : ∀ a o u, H a = some (.frz o u) → H' a = some (.frz o u)
/-- .. and the objects that may not be changed -/
structure Stay (F : Fl) (B : List Addr) (H : Hp) (B' : List Addr) (H' : Hp) : Prop where
  grow : Grow B H B' H'
  keep : ∀ (i : Nat) (a : Addr), B[i]? = some a → F.may i = false → H' a = H a
/-- what stays from one heap to a later one -/
structure Step (F : Fl) (B : List Addr) (H : Hp) (B' : List Addr) (H' : Hp) : Prop where
  pre : ∃ t, B' = B ++ t ∧ ∀ a ∈ t, H a = none
  tup : ∀ a xs, H a = some (.tup xs) → H' a = some (.tup xs)
  frz : ∀ a o u, H a = some (.frz o u) → H' a = some (.frz o u)
  keep : ∀ (i : Nat) (a : Addr), B[i]? = some a → F.may i = false → H' a = H a
  oth : ∀ a o, a ∉ B → H a = some o → H' a = some o
  dom : ∀ a, H a ≠ none → H' a ≠ none

def RelE (K : PySem.W.Frag) (B : List Addr) (H : Hp) (r : Ev) (s : L2.St) : Prop :=
  r.length = s.length ∧ ∀ (i : Nat) (d : D), r[i]? = some (some d) → ∃ v, s[i]? = some (some v) ∧ Rep K B H d v

section
variable {P : Program} {w : World} {K : PySem.W.Frag} {B B' B'' : List Addr} {H H' H'' : Hp}
theorem Step.refl {F : Fl} : Step F B H B H := ⟨⟨[], by simp, by simp⟩, fun _ _ h => h, fun _ _ _ h => h, fun _ _ _ _ => rfl, fun _ _ _ h => h, fun _ h => h⟩
theorem Step.trans {F : Fl} (x : Step F B H B' H') (y : Step F B' H' B'' H'') : Step F B H B'' H'' := by
  obtain ⟨t, rfl, ht⟩ := x.pre
  obtain ⟨u, rfl, hu⟩ := y.pre
  refine ⟨⟨t ++ u, by simp, fun a ha => ?_⟩, fun a xs h => y.tup a xs (x.tup a xs h), fun a o u h => y.frz a o u (x.frz a o u h), fun i a e m => ?_, fun a o n e => ?_, fun a h => y.dom a (x.dom a h)⟩
  · rcases List.mem_append.mp ha with ha | ha
    · exact ht a ha
    · exact Classical.byContradiction fun z => x.dom a z (hu a ha)
  · rw [y.keep i a (by rw [List.getElem?_append_left (List.getElem?_eq_some_iff.mp e).1]; exact e) m, x.keep i a e m]
  · refine y.oth a o (fun z => ?_) (x.oth a o n e)
    rcases List.mem_append.mp z with z | z
    · exact n z
    · rw [ht a z] at e; cases e
theorem Step.of {F F' : Fl} (x : Step F' B H B' H') (h : ∀ i, i < B.length → F.may i = false → F'.may i = false) : Step F B H B' H' :=
  ⟨x.pre, x.tup, x.frz, fun i a e m => x.keep i a e (h i (List.getElem?_eq_some_iff.mp e).1 m), x.oth, x.dom⟩
theorem Step.grow {F : Fl} (x : Step F B H B' H') : Grow B H B' H' := ⟨let ⟨t, e, _⟩ := x.pre; ⟨t, e⟩, x.tup, x.frz⟩
theorem Step.stay {F : Fl} (x : Step F B H B' H') : Stay F B H B' H' := ⟨x.grow, x.keep⟩
theorem Grow.get (x : Grow B H B' H') {i : Nat} {a : Addr} (h : B[i]? = some a) : B'[i]? = some a := by
  obtain ⟨t, rfl⟩ := x.sub
  rw [List.getElem?_append_left (List.getElem?_eq_some_iff.mp h).1]; exact h
theorem Grow.sqT (x : Grow B H B' H') {a : Addr} {xs : List V} (h : SqT K H a xs) : SqT K H' a xs := by
  rcases h with (h | ⟨o, h⟩) | h
  · exact .inl (.inl (x.tup _ _ h))
  · exact .inl (.inr ⟨o, x.frz _ _ _ h⟩)
  · exact .inr h
theorem Grow.frL (x : Grow B H B' H') {a : Addr} {xs : List V} (h : FrL K H a xs) : FrL K H' a xs := by
  rcases h with ⟨o, h⟩ | h
  · exact .inl ⟨o, x.frz _ _ _ h⟩
  · exact .inr h
theorem Stay.trans {F : Fl} (x : Stay F B H B' H') (y : Stay F B' H' B'' H'') : Stay F B H B'' H'' := by
  obtain ⟨t, e⟩ := x.grow.sub
  obtain ⟨u, e2⟩ := y.grow.sub
  exact ⟨⟨⟨t ++ u, by rw [e2, e]; simp⟩, fun a xs h => y.grow.tup a xs (x.grow.tup a xs h), fun a o u h => y.grow.frz a o u (x.grow.frz a o u h)⟩, fun i a e m => (y.keep i a (x.grow.get e) m).trans (x.keep i a e m)⟩
mutual
theorem Rep.grow (x : Grow B H B' H') : ∀ {d : D} {v : V}, Rep K B H d v → Rep K B' H' d v
  | _, _, .non => .non
  | _, _, .bl b => .bl b
  | _, _, .int i => .int i
  | _, _, .str h => .str h
  | _, _, .tup h1 h2 => .tup (x.sqT h1) (Reps.grow x h2)
  | _, _, .ref h => .ref (x.get h)
  | _, _, .fro h1 h2 => .fro (x.frL h1) (Reps.grow x h2)
theorem Reps.grow (x : Grow B H B' H') : ∀ {ds : List D} {vs : List V}, Reps K B H ds vs → Reps K B' H' ds vs
  | _, _, .nil => .nil
  | _, _, .cons h1 h2 => .cons (Rep.grow x h1) (Reps.grow x h2)
end
theorem Rep.step {F : Fl} (x : Step F B H B' H') {d : D} {v : V} (h : Rep K B H d v) : Rep K B' H' d v := h.grow x.grow
theorem Reps.step {F : Fl} (x : Step F B H B' H') {d : List D} {v : List V} (h : Reps K B H d v) : Reps K B' H' d v := h.grow x.grow
theorem RelE.step {r : Ev} {s : L2.St} {F : Fl} (x : Step F B H B' H') (h : RelE K B H r s) : RelE K B' H' r s :=
  ⟨h.1, fun i d e => let ⟨v, e1, e2⟩ := h.2 i d e; ⟨v, e1, e2.step x⟩⟩
theorem Reps.length : ∀ {ds : List D} {vs : List V}, Reps K B H ds vs → ds.length = vs.length
  | _, _, .nil => rfl
  | _, _, .cons _ h => by simp [Reps.length h]
theorem Reps.get : ∀ {ds : List D} {vs : List V} {i : Nat} {d : D}, Reps K B H ds vs → ds[i]? = some d → ∃ v, vs[i]? = some v ∧ Rep K B H d v
  | _, _, _, _, .nil, e => by simp at e
  | _, _, 0, _, .cons r _, e => by simp at e; subst e; exact ⟨_, rfl, r⟩
  | _, _, i + 1, d, .cons _ t, e => by
    obtain ⟨u, h1, h2⟩ := Reps.get (i := i) (d := d) t (by simpa using e)
    exact ⟨u, by simpa using h1, h2⟩
theorem Reps.get' : ∀ {ds : List D} {vs : List V} {i : Nat} {v : V}, Reps K B H ds vs → vs[i]? = some v → ∃ d, ds[i]? = some d ∧ Rep K B H d v
  | _, _, _, _, .nil, e => by simp at e
  | _, _, 0, _, .cons r _, e => by simp at e; subst e; exact ⟨_, rfl, r⟩
  | _, _, i + 1, d, .cons _ t, e => by
    obtain ⟨u, h1, h2⟩ := Reps.get' (i := i) (v := d) t (by simpa using e)
    exact ⟨u, by simpa using h1, h2⟩
theorem Reps.append : ∀ {ds es : List D} {vs us : List V}, Reps K B H ds vs → Reps K B H es us → Reps K B H (ds ++ es) (vs ++ us)
  | _, _, _, _, .nil, s => s
  | _, _, _, _, .cons r t, s => .cons r (Reps.append t s)
theorem Reps.take : ∀ {ds : List D} {vs : List V} (n : Nat), Reps K B H ds vs → Reps K B H (ds.take n) (vs.take n)
  | _, _, 0, _ => .nil
  | _, _, _ + 1, .nil => .nil
  | _, _, n + 1, .cons r t => .cons r (Reps.take n t)
theorem Reps.drop : ∀ {ds : List D} {vs : List V} (n : Nat), Reps K B H ds vs → Reps K B H (ds.drop n) (vs.drop n)
  | _, _, 0, r => r
  | _, _, _ + 1, .nil => .nil
  | _, _, n + 1, .cons _ t => Reps.drop n t
theorem Reps.set {d : D} {v : V} (r : Rep K B H d v) : ∀ {ds : List D} {vs : List V} (i : Nat), Reps K B H ds vs → Reps K B H (ds.set i d) (vs.set i v)
  | _, _, _, .nil => .nil
  | _, _, 0, .cons _ t => .cons r t
  | _, _, i + 1, .cons q t => .cons q (Reps.set r i t)
theorem Reps.one {d : D} {v : V} (r : Rep K B H d v) : Reps K B H [d] [v] := .cons r .nil

theorem ObRep.grow {a : Addr} {o : Ob} (x : Grow B H B' H') (e : H' a = H a) (h : ObRep P w K B H a o) : ObRep P w K B' H' a o := by
  cases o with
  | lst ds =>
    obtain ⟨vs, h1, h2⟩ := h
    exact ⟨vs, e.trans h1, h2.grow x⟩
  | dct kvs =>
    obtain ⟨hs, hl, hn, o, es, ep, xs, h1, h2, h3, h4, h5⟩ := h
    refine ⟨hs, hl, hn, o, es, ep, xs, e.trans h1, h2, h3, Paired.mapP h4 fun p q z => ?_, h5⟩
    obtain ⟨z1, z2, z3, v, z4, z5⟩ := z
    exact ⟨z1, z2, z3.grow x, v, z4, z5.grow x⟩
theorem ObRep.step {a : Addr} {o : Ob} {F : Fl} (x : Step F B H B' H') (e : H' a = H a) (h : ObRep P w K B H a o) : ObRep P w K B' H' a o := h.grow x.grow e
/-- an object stands, whatever it is -/
theorem ObRep.kind {a : Addr} {o : Ob} (h : ObRep P w K B H a o) : (∃ vs, H a = some (.lst vs)) ∨ (∃ o, H a = some (exO a o)) := by
  cases o with
  | lst ds => obtain ⟨vs, h1, _⟩ := h; exact .inl ⟨vs, h1⟩
  | dct kvs => obtain ⟨_, _, _, o, _, _, _, h1, _⟩ := h; exact .inr ⟨o, h1⟩
end
end Dc
namespace Dc
open PySem PySem.Spec PyProof.Rows L2
/-! ### results in a row -/
def Rs.bind {α β : Type} (r : Rs α) (k : α → Hh → Rs β) : Rs β := match r with
  | .ok a h => k a h
  | .exc c h => .exc c h
  | .bad => .bad
abbrev WD := Nat → L2.St → Hp → Prop
section
variable (P : Program) (w : World) (K : PySem.W.Frag) (W : WD) (F : Fl)
/-- what is wanted behind an expression: Rp says how the value is told -/
def Post {α β : Type} (Rp : List Addr → Hp → α → β → Prop) (B : List Addr) (H : Hp) (σ : L2.St) (r : Rs α) (Q : β → Hp → Prop) : Prop := match r with
  | .ok a h' => ∀ B' v H', Step F B H B' H' → RelH P w K B' h' H' → Rp B' H' a v → Q v H'
  | .exc c h' => ∀ B' H', Step F B H B' H' → RelH P w K B' h' H' → W c σ H'
  | .bad => False
abbrev RpD : List Addr → Hp → D → V → Prop := fun B H d v => Rep K B H d v
abbrev RpB : List Addr → Hp → Bool → Bool → Prop := fun _ _ a b => a = b
abbrev RpA : List Addr → Hp → List D → List V → Prop := fun B H d v => Reps K B H d v
def tDx {α β : Type} (Rp : List Addr → Hp → α → β → Prop) (m : Ev → Hh → Rs α) (σ : L2.St) (H : Hp) (Q : β → Hp → Prop) : Prop :=
  ∃ B r h, RelE K B H r σ ∧ RelH P w K B h H ∧ Post P w K W F Rp B H σ (m r h) Q
abbrev tD (m : EM) : TE := tDx P w K W F (RpD K) m
abbrev tDT (m : TM) : TT := tDx P w K W F RpB m
abbrev tDA (m : AM) : TA := tDx P w K W F (RpA K) m
/-- .. and behind a statement -/
def PostS (B : List Addr) (H : Hp) (o : Out) (D : Ends) : Prop := match o with
  | .nx r h' => ∀ B' σ' H', Step F B H B' H' → RelE K B' H' r σ' → RelH P w K B' h' H' → D.nx σ' H'
  | .bk r h' => ∀ B' σ' H', Step F B H B' H' → RelE K B' H' r σ' → RelH P w K B' h' H' → D.bk σ' H'
  | .ct r h' => ∀ B' σ' H', Step F B H B' H' → RelE K B' H' r σ' → RelH P w K B' h' H' → D.ct σ' H'
  | .rt d h' => ∀ B' v H', Step F B H B' H' → RelH P w K B' h' H' → Rep K B' H' d v → D.rt v H'
  | .ex c r h' => ∀ B' σ' H', Step F B H B' H' → RelE K B' H' r σ' → RelH P w K B' h' H' → W c σ' H'
  | .bad => False
def tDS (m : SM) : TS := fun D σ H => ∃ B r h, RelE K B H r σ ∧ RelH P w K B h H ∧ PostS P w K W F B H (m r h) D
end
section
variable {P : Program} {w : World} {K : PySem.W.Frag} {W : WD} {F : Fl} {α β : Type} {Rp : List Addr → Hp → α → β → Prop}
theorem Post.later {B B' : List Addr} {H H' : Hp} {σ : L2.St} {r : Rs α} {Q : β → Hp → Prop} (x : Step F B H B' H') (p : Post P w K W F Rp B H σ r Q) : Post P w K W F Rp B' H' σ r Q := by
  cases r with
  | ok a h => exact fun B2 v H2 s => p B2 v H2 (x.trans s)
  | exc c h => exact fun B2 H2 s => p B2 H2 (x.trans s)
  | bad => exact p
theorem PostS.later {B B' : List Addr} {H H' : Hp} {o : Out} {D : Ends} (x : Step F B H B' H') (p : PostS P w K W F B H o D) : PostS P w K W F B' H' o D := by
  cases o with
  | nx r h => exact fun B2 v H2 s => p B2 v H2 (x.trans s)
  | bk r h => exact fun B2 v H2 s => p B2 v H2 (x.trans s)
  | ct r h => exact fun B2 v H2 s => p B2 v H2 (x.trans s)
  | rt d h => exact fun B2 v H2 s => p B2 v H2 (x.trans s)
  | ex c r h => exact fun B2 v H2 s => p B2 v H2 (x.trans s)
  | bad => exact p
/-- one after the other: the first one's end, then the second's -/
theorem Post.bind {γ δ : Type} {Rq : List Addr → Hp → γ → δ → Prop} {B : List Addr} {H : Hp} {σ : L2.St} {r : Rs α} {k : α → Hh → Rs γ} {Q : β → Hp → Prop} {Q2 : δ → Hp → Prop}
    (p : Post P w K W F Rq B H σ (r.bind k) Q2) (q : ∀ a h' B' v H', Step F B H B' H' → RelH P w K B' h' H' → Rp B' H' a v → Post P w K W F Rq B' H' σ (k a h') Q2 → Q v H') : Post P w K W F Rp B H σ r Q := by
  cases r with
  | ok a h => exact fun B' v H' s x y => q a h B' v H' s x y (Post.later s p)
  | exc c h => exact p
  | bad => exact p
/-- it is so already -/
theorem Post.now {B : List Addr} {H : Hp} {σ : L2.St} {a : α} {h : Hh} {v : β} {Q : β → Hp → Prop} (p : Post P w K W F Rp B H σ (.ok a h) Q) (r : RelH P w K B h H) (x : Rp B H a v) : Q v H := p B v H Step.refl r x
theorem PostS.nxt {B : List Addr} {H : Hp} {σ : L2.St} {r : Ev} {h : Hh} {D : Ends} (p : PostS P w K W F B H (.nx r h) D) (e : RelE K B H r σ) (x : RelH P w K B h H) : D.nx σ H := p B σ H Step.refl e x
end
def DE (X : Cx) (W : WD) (F : Fl) (e : Expr) (m : EM) : Prop := PE X e (tD X.prog X.w X.K W F m)
def DT (X : Cx) (W : WD) (F : Fl) (e : Expr) (m : TM) : Prop := PT X e (tDT X.prog X.w X.K W F m)
def DW (X : Cx) (W : WD) (F : Fl) (e : Expr) (m : TM) : Prop := PW X e (tDT X.prog X.w X.K W F m)
structure DA (X : Cx) (W : WD) (F : Fl) (es : List Expr) (m : AM) : Prop where
  pa : PA X es (tDA X.prog X.w X.K W F m)
  len : ∀ r h xs h', m r h = .ok xs h' → xs.length = es.length
def DS (X : Cx) (W : WD) (F : Fl) (st : Stmt) (m : SM) : Prop := PS X st (tDS X.prog X.w X.K W F m)
def DSs (X : Cx) (W : WD) (F : Fl) (st : List Stmt) (m : SM) : Prop := PSs X st (tDS X.prog X.w X.K W F m)
section
variable {X : Cx} {W : WD} {F : Fl}
theorem PE.imp {e : Expr} {t t' : TE} (h : PE X e t) (k : ∀ σ H Q, t' σ H Q → t σ H Q) : PE X e t' := ⟨fun pins s σ H Q I q => h.run pins s σ H Q I (k σ H Q q)⟩
theorem PT.imp {e : Expr} {t t' : TT} (h : PT X e t) (k : ∀ σ H Q, t' σ H Q → t σ H Q) : PT X e t' := ⟨fun pins s σ H Q I q => h.run pins s σ H Q I (k σ H Q q)⟩
theorem PW.imp {e : Expr} {t t' : TT} (h : PW X e t) (k : ∀ σ H Q, t' σ H Q → t σ H Q) : PW X e t' := ⟨fun wh pins s σ H Q I q => h.run wh pins s σ H Q I (k σ H Q q)⟩
theorem PA.imp {e : List Expr} {t t' : TA} (h : PA X e t) (k : ∀ σ H Q, t' σ H Q → t σ H Q) : PA X e t' := ⟨fun pos pins s σ H Q I q => h.run pos pins s σ H Q I (k σ H Q q)⟩
theorem PS.imp {e : Stmt} {t t' : TS} (h : PS X e t) (k : ∀ D σ H, t' D σ H → t D σ H) : PS X e t' := ⟨fun pins s σ H D I q => h.run pins s σ H D I (k D σ H q)⟩
theorem PSs.imp {e : List Stmt} {t t' : TS} (h : PSs X e t) (k : ∀ D σ H, t' D σ H → t D σ H) : PSs X e t' := ⟨fun pins s σ H D I q => h.run pins s σ H D I (k D σ H q)⟩

/-! ### names, constants -/
def xVar (i : Nat) : EM := fun r h => match r[i]? with
  | some (some d) => .ok d h
  | _ => .bad
def xC (d : D) : EM := fun _ h => .ok d h
theorem de_var (i : Nat) {x : Str} {pos : Pos} (hN : X.N[i]? = some x := by rfl) (hv : Vis X.env.scope x := by first | exact Or.inl rfl | exact Or.inr (Or.inl rfl) | exact Or.inr (Or.inr rfl)) (hd : (x == ("__debug__" : Str)) = false := by decide)
    (hcd : (x == ("__classdict__" : Str)) = false := by decide) : DE X W F (.Name x pos) (xVar i) := by
  refine PE.imp (pe_var hN hv hd hcd) fun σ H Q q => ?_
  obtain ⟨B, r, h, hE, hH, p⟩ := q
  unfold xVar at p
  cases e : r[i]? with
  | none => rw [e] at p; exact p.elim
  | some o =>
    cases o with
    | none => rw [e] at p; exact p.elim
    | some d =>
      rw [e] at p
      obtain ⟨v, e1, e2⟩ := hE.2 i d e
      exact ⟨v, e1, p.now hH e2⟩
theorem de_int {i j pos} : DE X W F (.Constant (.int i) j pos) (xC (.int i)) := PE.imp pe_int fun _ _ _ ⟨_, _, _, _, hH, p⟩ => p.now hH (.int i)
theorem de_bl {b j pos} : DE X W F (.Constant (.bool b) j pos) (xC (.bl b)) := PE.imp pe_bl fun _ _ _ ⟨_, _, _, _, hH, p⟩ => p.now hH (.bl b)
theorem de_non {j pos} : DE X W F (.Constant .none j pos) (xC .non) := PE.imp pe_non fun _ _ _ ⟨_, _, _, _, hH, p⟩ => p.now hH .non
theorem de_str {x : Str} {cs : List Nat} {j pos} (e : x = ⟨cs.toArray⟩ := by rfl) (ok : cs.all (· < 1114112) = true := by rfl) : DE X W F (.Constant (.str x) j pos) (xC (.str cs)) := PE.imp pe_str fun _ _ _ ⟨_, _, _, _, hH, p⟩ => p.now hH (by rw [e]; exact .str ok)
/-- a module's constant: int, text -/
theorem de_gint {x : Str} {i : Int} {t : Tok} {pos : Pos} (hm : X.mg x = some (.int i t)) (hg : Gl X x := by rfl) (hd : (x == ("__debug__" : Str)) = false := by decide) : DE X W F (.Name x pos) (xC (.int i)) :=
  PE.imp (pe_glob (v := .int i) hg hm ⟨t, rfl⟩ hd) fun _ _ _ ⟨_, _, _, _, hH, p⟩ => p.now hH (.int i)
theorem de_gstr {x z : Str} {cs : List Nat} {t : Tok} {pos : Pos} (hm : X.mg x = some (.str z t)) (e : z = ⟨cs.toArray⟩ := by rfl) (ok : cs.all (· < 1114112) = true := by rfl) (hg : Gl X x := by rfl) (hd : (x == ("__debug__" : Str)) = false := by decide) : DE X W F (.Name x pos) (xC (.str cs)) :=
  PE.imp (pe_glob (v := .str z) hg hm ⟨t, rfl⟩ hd) fun _ _ _ ⟨_, _, _, _, hH, p⟩ => p.now hH (by rw [e]; exact .str ok)
/-- a module's constant that is a tuple of flat things -/
theorem de_gtup {x : Str} {a : Addr} {ds : List D} {vs : List V} {pos : Pos} (hm : X.mg x = some (.ref a)) (hs : ∀ H, SqT X.K H a vs) (hr : ∀ B H, Reps X.K B H ds vs) (hg : Gl X x := by rfl) (hd : (x == ("__debug__" : Str)) = false := by decide) : DE X W F (.Name x pos) (xC (.tup ds)) :=
  PE.imp (pe_glob (v := .ref a) hg hm rfl hd) fun _ H _ ⟨B, _, _, _, hH, p⟩ => p.now hH (.tup (hs H) (hr B H))

/-! ### operators by values -/
def BinSem (P : Program) (w : World) (K : PySem.W.Frag) (r : R2) (f : D → D → Hh → Rs D) : Prop :=
  ∀ (W : WD) (F : Fl) (σ : L2.St) (B : List Addr) (h : Hh) (H : Hp) (d1 d2 : D) (x y : V) (Q : VK), RelH P w K B h H → Rep K B H d1 x → Rep K B H d2 y → Post P w K W F (RpD K) B H σ (f d1 d2 h) Q → r x y H Q
def xBin (f : D → D → Hh → Rs D) (a b : EM) : EM := fun r h => (a r h).bind fun x h1 => (b r h1).bind fun y h2 => f x y h2
theorem bin_sem {r : R2} {f : D → D → Hh → Rs D} {ma mb : EM} (hf : BinSem X.prog X.w X.K r f) {σ : L2.St} {H : Hp} {Q : VK} (q : tD X.prog X.w X.K W F (xBin f ma mb) σ H Q) :
    tOp r (tD X.prog X.w X.K W F ma) (tD X.prog X.w X.K W F mb) σ H Q := by
  obtain ⟨B, e, h, hE, hH, p⟩ := q
  refine ⟨B, e, h, hE, hH, Post.bind p fun x h1 B1 v H1 s1 r1 p1 q1 => ?_⟩
  exact ⟨B1, e, h1, hE.step s1, r1, Post.bind q1 fun y h2 B2 u H2 s2 r2 p2 q2 => hf _ _ _ _ _ _ _ _ _ _ _ r2 (p1.step s2) p2 q2⟩
variable {a b : Expr} {ma mb : EM} {pos : Pos}
theorem de_op {op : Operator} {r : R2} {f : D → D → Hh → Rs D} (ho : OpR X (binaryOp op) r) (hf : BinSem X.prog X.w X.K r f) (ha : DE X W F a ma) (hb : DE X W F b mb) : DE X W F (.BinOp a op b pos) (xBin f ma mb) :=
  PE.imp (pe_op ho ha hb) fun _ _ _ q => bin_sem hf q
theorem de_cmp {op : CmpOp} {r : R2} {f : D → D → Hh → Rs D} (ho : OpR X (compareOp op) r) (hf : BinSem X.prog X.w X.K r f) (ha : DE X W F a ma) (hb : DE X W F b mb) (hm : behindInMarks op b = false) : DE X W F (.Compare a [op] [b] pos) (xBin f ma mb) :=
  PE.imp (pe_cmpR ho ha hb hm) fun _ _ _ q => bin_sem hf q
/-- a truth value as a test -/
def xTest (m : EM) : TM := fun r h => (m r h).bind fun d h1 => match d with
  | .bl b => .ok b h1
  | _ => .bad
theorem test_sem {m : EM} {σ : L2.St} {H : Hp} {Q : Bool → Hp → Prop} (q : tDT X.prog X.w X.K W F (xTest m) σ H Q) : tTest (tD X.prog X.w X.K W F m) σ H Q := by
  obtain ⟨B, e, h, hE, hH, p⟩ := q
  refine ⟨B, e, h, hE, hH, Post.bind p fun x h1 B1 v H1 s1 r1 p1 q1 => ?_⟩
  cases x with
  | bl c => cases p1; exact ⟨c, rfl, q1.now r1 rfl⟩
  | _ => exact q1.elim
theorem dt_cmp {op : CmpOp} {r : R2} {f : D → D → Hh → Rs D} (ho : OpR X (compareOp op) r) (hf : BinSem X.prog X.w X.K r f) (ha : DE X W F a ma) (hb : DE X W F b mb) (hm : behindInMarks op b = false) : DT X W F (.Compare a [op] [b] pos) (xTest (xBin f ma mb)) :=
  PT.imp (pt_cmpR ho ha hb hm) fun _ _ _ q => by
    obtain ⟨B, e, h, hE, hH, p⟩ := test_sem q
    have z : tD X.prog X.w X.K W F (xBin f ma mb) _ _ _ := ⟨B, e, h, hE, hH, p⟩
    exact bin_sem hf z
theorem dt_val {m : EM} (h : DE X W F a m) (he : ∀ whole, isTrue a X.env whole = (do let v ← whole; standAt a.pos; holding [v] (truthy v)) := by intro _; rfl) : DT X W F a (xTest m) :=
  PT.imp (pt_val h he) fun _ _ _ q => test_sem q
/-- a op b op c -/
def xChain (f g : D → D → Hh → Rs D) (a b c : EM) : EM := fun r h => (a r h).bind fun x h1 => (b r h1).bind fun y h2 => (f x y h2).bind fun z h3 => match z with
  | .bl true => (c r h3).bind fun u h4 => g y u h4
  | .bl false => .ok (.bl false) h3
  | _ => .bad
/-! ### and, or, not -/
variable {tA tB : TM} {rest : List Expr}
def xAnd (a b : TM) : TM := fun r h => (a r h).bind fun c h1 => if c = true then b r h1 else .ok false h1
def xOr (a b : TM) : TM := fun r h => (a r h).bind fun c h1 => if c = true then .ok true h1 else b r h1
def xNot (a : TM) : TM := fun r h => (a r h).bind fun c h1 => .ok (!c) h1
theorem dw_and1 (ha : DT X W F a tA) : DW X W F (.BoolOp .And [a] pos) tA := pw_and1 ha
theorem dw_or1 (ha : DT X W F a tA) : DW X W F (.BoolOp .Or [a] pos) tA := pw_or1 ha
theorem DW.dt {e : Expr} {m : TM} (h : DW X W F e m) : DT X W F e m := PW.pt h
theorem dw_and (ha : DT X W F a tA) (hb : DW X W F (.BoolOp .And (b :: rest) pos) tB) : DW X W F (.BoolOp .And (a :: b :: rest) pos) (xAnd tA tB) :=
  PW.imp (pw_and ha hb) fun σ H Q q => by
    obtain ⟨B, e, h, hE, hH, p⟩ := q
    refine ⟨B, e, h, hE, hH, Post.bind p fun c h1 B1 v H1 s1 r1 p1 q1 => ?_⟩
    subst p1
    cases c with
    | true => rw [if_pos rfl] at q1 ⊢; exact ⟨B1, e, h1, hE.step s1, r1, q1⟩
    | false => rw [if_neg (by decide)] at q1 ⊢; exact q1.now r1 rfl
theorem dw_or (ha : DT X W F a tA) (hb : DW X W F (.BoolOp .Or (b :: rest) pos) tB) : DW X W F (.BoolOp .Or (a :: b :: rest) pos) (xOr tA tB) :=
  PW.imp (pw_or ha hb) fun σ H Q q => by
    obtain ⟨B, e, h, hE, hH, p⟩ := q
    refine ⟨B, e, h, hE, hH, Post.bind p fun c h1 B1 v H1 s1 r1 p1 q1 => ?_⟩
    subst p1
    cases c with
    | true => rw [if_pos rfl] at q1 ⊢; exact q1.now r1 rfl
    | false => rw [if_neg (by decide)] at q1 ⊢; exact ⟨B1, e, h1, hE.step s1, r1, q1⟩
theorem dt_not (ha : DT X W F a tA) : DT X W F (.UnaryOp .Not a pos) (xNot tA) :=
  PT.imp (pt_not ha) fun σ H Q q => by
    obtain ⟨B, e, h, hE, hH, p⟩ := q
    refine ⟨B, e, h, hE, hH, Post.bind p fun c h1 B1 v H1 s1 r1 p1 q1 => ?_⟩
    subst p1
    exact q1.now r1 rfl
/-! .. as values -/
def xAndV (a b : EM) : EM := fun r h => (a r h).bind fun d h1 => match d with
  | .bl true => b r h1
  | .bl false => .ok (.bl false) h1
  | _ => .bad
def xOrV (a b : EM) : EM := fun r h => (a r h).bind fun d h1 => match d with
  | .bl true => .ok (.bl true) h1
  | .bl false => b r h1
  | _ => .bad
def xNotV (a : EM) : EM := fun r h => (a r h).bind fun d h1 => match d with
  | .bl b => .ok (.bl (!b)) h1
  | _ => .bad
theorem de_one {op} {m : EM} (h : DE X W F a m) : DE X W F (.BoolOp op [a] pos) m := pe_one h
theorem de_and (ha : DE X W F a ma) (hb : DE X W F (.BoolOp .And (b :: rest) pos) mb) : DE X W F (.BoolOp .And (a :: b :: rest) pos) (xAndV ma mb) :=
  PE.imp (pe_and ha hb) fun σ H Q q => by
    obtain ⟨B, e, h, hE, hH, p⟩ := q
    refine ⟨B, e, h, hE, hH, Post.bind p fun c h1 B1 v H1 s1 r1 p1 q1 => ?_⟩
    cases c with
    | bl c =>
      cases p1
      refine ⟨c, rfl, ?_⟩
      cases c with
      | true => rw [if_pos rfl]; exact ⟨B1, e, h1, hE.step s1, r1, q1⟩
      | false => rw [if_neg (by decide)]; exact q1.now r1 (.bl false)
    | _ => exact q1.elim
theorem de_or (ha : DE X W F a ma) (hb : DE X W F (.BoolOp .Or (b :: rest) pos) mb) : DE X W F (.BoolOp .Or (a :: b :: rest) pos) (xOrV ma mb) :=
  PE.imp (pe_or ha hb) fun σ H Q q => by
    obtain ⟨B, e, h, hE, hH, p⟩ := q
    refine ⟨B, e, h, hE, hH, Post.bind p fun c h1 B1 v H1 s1 r1 p1 q1 => ?_⟩
    cases c with
    | bl c =>
      cases p1
      refine ⟨c, rfl, ?_⟩
      cases c with
      | true => rw [if_pos rfl]; exact q1.now r1 (.bl true)
      | false => rw [if_neg (by decide)]; exact ⟨B1, e, h1, hE.step s1, r1, q1⟩
    | _ => exact q1.elim
theorem de_not (ha : DE X W F a ma) : DE X W F (.UnaryOp .Not a pos) (xNotV ma) :=
  PE.imp (pe_not ha) fun σ H Q q => by
    obtain ⟨B, e, h, hE, hH, p⟩ := q
    refine ⟨B, e, h, hE, hH, Post.bind p fun c h1 B1 v H1 s1 r1 p1 q1 => ?_⟩
    cases c with
    | bl c => cases p1; exact ⟨c, rfl, q1.now r1 (.bl _)⟩
    | _ => exact q1.elim
def xIf (t : TM) (a b : EM) : EM := fun r h => (t r h).bind fun c h1 => if c = true then a r h1 else b r h1
theorem de_if {c : Expr} (hc : DT X W F c tA) (ha : DE X W F a ma) (hb : DE X W F b mb) : DE X W F (.IfExp c a b pos) (xIf tA ma mb) :=
  PE.imp (pe_ifExp hc ha hb) fun σ H Q q => by
    obtain ⟨B, e, h, hE, hH, p⟩ := q
    refine ⟨B, e, h, hE, hH, Post.bind p fun c h1 B1 v H1 s1 r1 p1 q1 => ?_⟩
    subst p1
    cases c with
    | true => rw [if_pos rfl] at q1 ⊢; exact ⟨B1, e, h1, hE.step s1, r1, q1⟩
    | false => rw [if_neg (by decide)] at q1 ⊢; exact ⟨B1, e, h1, hE.step s1, r1, q1⟩
/-! ### arguments, tuples, lists -/
def xNil : AM := fun _ h => .ok [] h
def xCons (a : EM) (b : AM) : AM := fun r h => (a r h).bind fun x h1 => (b r h1).bind fun xs h2 => .ok (x :: xs) h2
theorem da_nil : DA X W F [] xNil := ⟨PA.imp pa_nil fun _ _ _ ⟨_, _, _, _, hH, p⟩ => p.now hH .nil, fun r h xs h' e => by cases e; rfl⟩
theorem Rs.bind_ok {α β : Type} {r : Rs α} {k : α → Hh → Rs β} {b : β} {h : Hh} (e : r.bind k = .ok b h) : ∃ a h1, r = .ok a h1 ∧ k a h1 = .ok b h := by
  cases r with
  | ok a h1 => exact ⟨a, h1, rfl, e⟩
  | exc c h1 => cases e
  | bad => cases e
theorem da_cons {es : List Expr} {m : AM} (ha : DE X W F a ma) (hr : DA X W F es m) (hs : starEach (a :: es) X.env = (false, eval a X.env) :: starEach es X.env := by rfl) : DA X W F (a :: es) (xCons ma m) := by
  refine ⟨PA.imp (pa_cons ha hr.pa hs) fun σ H Q q => ?_, fun r h xs h' e => ?_⟩
  · obtain ⟨B, e, h, hE, hH, p⟩ := q
    refine ⟨B, e, h, hE, hH, Post.bind p fun x h1 B1 v H1 s1 r1 p1 q1 => ?_⟩
    refine ⟨B1, e, h1, hE.step s1, r1, Post.bind q1 fun y h2 B2 u H2 s2 r2 p2 q2 => ?_⟩
    exact q2.now r2 (.cons (p1.step s2) p2)
  · obtain ⟨x, h1, e1, e2⟩ := Rs.bind_ok e
    obtain ⟨ys, h2, e3, e4⟩ := Rs.bind_ok e2
    cases e4
    simp [hr.len _ _ _ _ e3]
end
end Dc
end
section
set_option Elab.async false
set_option linter.all false
set_option maxRecDepth 100000
set_option maxHeartbeats 4000000
namespace Dc
open PySem PySem.Spec PyProof.Rows L2
theorem ndix {α : Type} {N : List α} (hN : N.Nodup) {i j : Nat} {x : α} (a : N[i]? = some x) (b : N[j]? = some x) : i = j := by
  obtain ⟨h1, e1⟩ := List.getElem?_eq_some_iff.mp a
  obtain ⟨h2, e2⟩ := List.getElem?_eq_some_iff.mp b
  exact (List.getElem_inj hN).mp (e1.trans e2.symm)
section
variable {P : Program} {w : World} {K : PySem.W.Frag} {B B' : List Addr} {H H' : Hp} {h : Hh} {F : Fl}
theorem RelH.get (x : RelH P w K B h H) {i : Nat} {a : Addr} (e : B[i]? = some a) : ∃ o, h[i]? = some o ∧ ObRep P w K B H a o := by
  have hi := (List.getElem?_eq_some_iff.mp e).1
  have hj : i < h.length := by rw [x.len]; exact hi
  exact ⟨h[i], by simp [hj], x.ob i _ a (by simp [hj]) e⟩
theorem RelH.gets (x : RelH P w K B h H) {i : Nat} {o : Ob} (e : h[i]? = some o) : ∃ a, B[i]? = some a ∧ ObRep P w K B H a o := by
  have hi := (List.getElem?_eq_some_iff.mp e).1
  have hj : i < B.length := by rw [← x.len]; exact hi
  exact ⟨B[i], by simp [hj], x.ob i _ _ e (by simp [hj])⟩
theorem ObRep.muts {a : Addr} {o : Ob} (x : ObRep P w K B H a o) : ∃ u, H a = some u ∧ Mut (some u) ∧ (∀ xs, u ≠ .tup xs) ∧ ∀ o' u', u ≠ .frz o' u' := by
  rcases x.kind with ⟨vs, e⟩ | ⟨o, e⟩
  · exact ⟨_, e, trivial, (fun _ z => by cases z), fun _ _ z => by cases z⟩
  · exact ⟨_, e, trivial, (fun _ z => by cases z), fun _ _ z => by cases z⟩
theorem RelH.there (x : RelH P w K B h H) {a : Addr} (e : a ∈ B) : ∃ u, H a = some u ∧ Mut (some u) ∧ (∀ xs, u ≠ .tup xs) ∧ ∀ o' u', u ≠ .frz o' u' := by
  obtain ⟨i, hi, e⟩ := List.getElem_of_mem e
  obtain ⟨o, _, p⟩ := x.get (i := i) (a := a) (by rw [List.getElem?_eq_some_iff]; exact ⟨hi, e⟩)
  exact p.muts
theorem RelH.ne (x : RelH P w K B h H) {a p : Addr} (e : a ∈ B) (hp : H p = none) : a ≠ p := by
  obtain ⟨u, q, _⟩ := x.there e
  exact ne_of_none q hp
/-- the objects stand as they stood -/
theorem RelH.move (x : RelH P w K B h H) (s : Step F B H B H') (k : ∀ a ∈ B, H' a = H a) : RelH P w K B h H' :=
  ⟨x.nd, x.len, fun i o a e1 e2 => (x.ob i o a e1 e2).step s (k a (List.mem_of_getElem? e2))⟩
theorem step_new {o : HO} {p : Addr} (x : RelH P w K B h H) (hp : H p = none) : Step F B H B (upd H p o) :=
  ⟨⟨[], by simp, by simp⟩, fun a xs e => by rw [upd_ne (ne_of_none e hp)]; exact e, fun a o' u e => by rw [upd_ne (ne_of_none e hp)]; exact e,
    fun i a e _ => upd_ne (x.ne (List.mem_of_getElem? e) hp), fun a o' _ e => by rw [upd_ne (ne_of_none e hp)]; exact e,
    fun a e => by
      by_cases z : a = p
      · rw [z, upd_same]; simp
      · rw [upd_ne z]; exact e⟩
theorem RelH.new {o : HO} {p : Addr} (x : RelH P w K B h H) (hp : H p = none) : RelH P w K B h (upd H p o) :=
  x.move (F := ⟨fun _ => true⟩) (step_new x hp) fun a e => upd_ne (x.ne e hp)
/-- a new object of ours -/
theorem step_push {o : HO} {p : Addr} (x : RelH P w K B h H) (hp : H p = none) : Step F B H (B ++ [p]) (upd H p o) := by
  have s : Step F B H B (upd H p o) := step_new x hp
  exact ⟨⟨[p], rfl, by simpa using hp⟩, s.tup, s.frz, s.keep, s.oth, s.dom⟩
theorem RelH.push {o : HO} {p : Addr} {ob : Ob} (x : RelH P w K B h H) (hp : H p = none) (n : ObRep P w K (B ++ [p]) (upd H p o) p ob) : RelH P w K (B ++ [p]) (h ++ [ob]) (upd H p o) := by
  have s : Step ⟨fun _ => true⟩ B H (B ++ [p]) (upd H p o) := step_push x hp
  have np : p ∉ B := fun z => x.ne z hp rfl
  refine ⟨?_, by simp [x.len], fun i u a e1 e2 => ?_⟩
  · rw [List.nodup_append]
    exact ⟨x.nd, by simp, fun a ha b hb => by simp at hb; subst hb; exact x.ne ha hp⟩
  · by_cases hi : i < B.length
    · rw [List.getElem?_append_left (by rw [x.len]; exact hi)] at e1
      rw [List.getElem?_append_left hi] at e2
      exact (x.ob i u a e1 e2).step s (upd_ne (x.ne (List.mem_of_getElem? e2) hp))
    · have e : i = B.length := by
        have := (List.getElem?_eq_some_iff.mp e2).1
        simp at this; omega
      subst e
      rw [List.getElem?_append_right (Nat.le_of_eq x.len)] at e1
      rw [List.getElem?_append_right (Nat.le_refl _)] at e2
      simp [x.len] at e1 e2
      subst e1; subst e2
      exact n
/-- an object is changed -/
theorem step_set {o : HO} {a : Addr} {i : Nat} (x : RelH P w K B h H) (e : B[i]? = some a) (m : F.may i = true) : Step F B H B (upd H a o) := by
  have nd := x.nd
  obtain ⟨u, hu, _, h1, h2⟩ := x.there (List.mem_of_getElem? e)
  refine ⟨⟨[], by simp, by simp⟩, fun b xs q => ?_, fun b o' u' q => ?_, fun j b q z => ?_, fun b o' n q => ?_, fun b q => ?_⟩
  · rw [upd_ne (ne_of q hu fun z => h1 xs z.symm)]; exact q
  · rw [upd_ne (ne_of q hu fun z => h2 o' u' z.symm)]; exact q
  · refine upd_ne fun z => ?_
    subst z
    have : j = i := ndix nd q e
    subst this
    rw [m] at z; cases z
  · rw [upd_ne (show b ≠ a from fun z => n (by rw [z]; exact List.mem_of_getElem? e))]; exact q
  · by_cases z : b = a
    · rw [z, upd_same]; simp
    · rw [upd_ne z]; exact q
theorem RelH.set {o : HO} {a : Addr} {i : Nat} {ob : Ob} (x : RelH P w K B h H) (e : B[i]? = some a) (n : ObRep P w K B (upd H a o) a ob) : RelH P w K B (h.set i ob) (upd H a o) := by
  have s : Step ⟨fun _ => true⟩ B H B (upd H a o) := step_set x e rfl
  refine ⟨x.nd, by simp [x.len], fun j u b e1 e2 => ?_⟩
  by_cases hj : j = i
  · subst hj
    rw [e] at e2; cases e2
    rw [List.getElem?_set_self (by have := (List.getElem?_eq_some_iff.mp e1).1; simpa using this)] at e1
    cases e1
    exact n
  · rw [List.getElem?_set_ne (Ne.symm hj)] at e1
    refine (x.ob j u b e1 e2).step s (upd_ne fun z => hj ?_)
    subst z
    exact ndix x.nd e2 e
end
section
variable {X : Cx} {W : WD} {F : Fl} {pos : Pos} {es : List Expr} {m : AM}
/-! ### displays -/
def xTup (m : AM) : EM := fun r h => (m r h).bind fun xs h1 => .ok (.tup xs) h1
def xLst (m : AM) : EM := fun r h => (m r h).bind fun xs h1 => .ok (.ref h1.length) (h1 ++ [.lst xs])
theorem de_tup {x1} (ha : DA X W F es m) (hl : es.length ≤ 1000 := by decide) : DE X W F (.Tuple es x1 pos) (xTup m) :=
  PE.imp (pe_tup ha.pa) fun σ H Q q => by
    obtain ⟨B, e, h, hE, hH, p⟩ := q
    have ln := ha.len e h
    unfold xTup at p
    refine ⟨B, e, h, hE, hH, ?_⟩
    cases em : m e h with
    | bad => rw [em] at p; exact p
    | exc c h1 => rw [em] at p; exact p
    | ok xs h1 =>
      rw [em] at p
      intro B1 v H1 s1 r1 p1
      have l1 := ln xs h1 em
      have l2 := p1.length
      refine ⟨Nat.le_of_lt (small1000 (by omega)), fun a ha => ?_⟩
      have p2 := Post.later s1 p
      exact p2 B1 _ _ (step_new r1 ha) (r1.new ha) (.tup (SqT.of upd_same) (p1.step (step_new (F := F) r1 ha)))
theorem de_lst (ha : DA X W F es m) (hl : es.length ≤ 1000 := by decide) : DE X W F (.List es pos) (xLst m) :=
  PE.imp (pe_lst ha.pa) fun σ H Q q => by
    obtain ⟨B, e, h, hE, hH, p⟩ := q
    have ln := ha.len e h
    unfold xLst at p
    refine ⟨B, e, h, hE, hH, ?_⟩
    cases em : m e h with
    | bad => rw [em] at p; exact p
    | exc c h1 => rw [em] at p; exact p
    | ok xs h1 =>
      rw [em] at p
      intro B1 v H1 s1 r1 p1
      have l1 := ln xs h1 em
      have l2 := p1.length
      refine ⟨Nat.le_of_lt (small1000 (by omega)), fun a ha => ?_⟩
      have p2 := Post.later s1 p
      have st : Step F B1 H1 (B1 ++ [a]) (upd H1 a (.lst v)) := step_push r1 ha
      refine p2 _ _ _ st (r1.push ha ⟨v, upd_same, p1.step st⟩) (.ref ?_)
      simp [r1.len]
/-! ### targets -/
inductive Tg where
  | one (i : Nat) | many (is : List Nat)
def putAll : List Nat → List D → Ev → Option Ev
  | [], [], r => some r
  | i :: is, d :: ds, r => putAll is ds (r.set i (some d))
  | _, _, _ => none
def Tg.put : Tg → D → Ev → Option Ev
  | .one i, d, r => some (r.set i (some d))
  | .many is, .tup ds, r => putAll is ds r
  | .many _, _, _ => none
def Tg.slots : Tg → List Nat
  | .one i => [i]
  | .many is => is
def WipeEq (is : List Nat) (s s' : L2.St) : Prop := ∀ vs : List Nat, (∀ i ∈ is, i ∈ vs) → wipe s' vs = wipe s vs
def PutSem (K : PySem.W.Frag) (T : Tg) (t : TG) : Prop := ∀ (B : List Addr) (H : Hp) (r r' : Ev) (s : L2.St) (d : D) (v : V) (Q : L2.St → Hp → Prop), RelE K B H r s → Rep K B H d v → T.put d r = some r' → (∀ s', RelE K B H r' s' → WipeEq T.slots s s' → Q s' H) → t v s H Q
def gN : List Nat → TGs
  | [] => gNil
  | i :: is => gCons (gName i) (gN is)
def tgT (K : PySem.W.Frag) : Tg → TG
  | .one i => gName i
  | .many is => gTup K is.length (gN is)
def DG (X : Cx) (tg : Expr) (T : Tg) : Prop := PG X tg (tgT X.K T)
def DGs (X : Cx) (tgs : List Expr) (is : List Nat) : Prop := PGs X tgs (gN is)
theorem RelE.put {K : PySem.W.Frag} {B : List Addr} {H : Hp} {r : Ev} {s : L2.St} {i : Nat} {d : D} {v : V} (h : RelE K B H r s) (x : Rep K B H d v) : RelE K B H (r.set i (some d)) (s.set i (some v)) := by
  refine ⟨by simp [h.1], fun j e q => ?_⟩
  by_cases hj : j = i
  · subst hj
    have hl : j < r.length := by have := (List.getElem?_eq_some_iff.mp q).1; simpa using this
    rw [List.getElem?_set_self hl] at q
    cases q
    exact ⟨v, List.getElem?_set_self (by rw [← h.1]; exact hl), x⟩
  · rw [List.getElem?_set_ne (Ne.symm hj)] at q ⊢
    exact h.2 j e q
theorem wipe_set {s : L2.St} {i : Nat} {o : Option V} : ∀ {vs : List Nat}, i ∈ vs → wipe (s.set i o) vs = wipe s vs := by
  intro vs
  induction vs with
  | nil => intro h; simp at h
  | cons v vs ih =>
    intro hi
    unfold wipe
    by_cases z : i ∈ vs
    · rw [ih z]
    · have e : i = v := by simpa [z] using hi
      subst e
      refine List.ext_getElem? fun j => ?_
      by_cases hj : j = i
      · subst hj
        by_cases hl : j < s.length
        · rw [List.getElem?_set_self (by rw [wipe_length]; simpa using hl), List.getElem?_set_self (by rw [wipe_length]; exact hl)]
        · rw [List.getElem?_eq_none (by rw [List.length_set, wipe_length, List.length_set]; omega), List.getElem?_eq_none (by rw [List.length_set, wipe_length]; omega)]
      · rw [List.getElem?_set_ne (Ne.symm hj), List.getElem?_set_ne (Ne.symm hj)]
        by_cases hk : j ∈ vs
        · have g : ∀ (us : List Nat) (t t' : L2.St), t.length = t'.length → j ∈ us → (wipe t us)[j]? = (wipe t' us)[j]? := by
            intro us
            induction us with
            | nil => intro t t' _ h; simp at h
            | cons u us ih2 =>
              intro t t' hl hm
              unfold wipe
              by_cases hu : j = u
              · subst hu
                by_cases hh : j < t.length
                · rw [List.getElem?_set_self (by rw [wipe_length]; exact hh), List.getElem?_set_self (by rw [wipe_length, ← hl]; exact hh)]
                · rw [List.getElem?_eq_none (by rw [List.length_set, wipe_length]; omega), List.getElem?_eq_none (by rw [List.length_set, wipe_length]; omega)]
              · rw [List.getElem?_set_ne (Ne.symm hu), List.getElem?_set_ne (Ne.symm hu)]
                exact ih2 t t' hl (by simpa [hu] using hm)
          exact g vs _ _ (by simp) hk
        · rw [wipe_out hk, wipe_out hk, List.getElem?_set_ne (Ne.symm hj)]
theorem WipeEq.refl {is : List Nat} {s : L2.St} : WipeEq is s s := fun _ _ => rfl
theorem putAll_length : ∀ {is : List Nat} {ds : List D} {r r' : Ev}, putAll is ds r = some r' → is.length = ds.length
  | [], [], _, _, _ => rfl
  | i :: is, d :: ds, r, r', e => by simp [putAll_length (show putAll is ds _ = some r' from e)]
  | [], _ :: _, _, _, e => by cases e
  | _ :: _, [], _, _, e => by cases e
theorem gN_sem {K : PySem.W.Frag} : ∀ (is : List Nat) (B : List Addr) (H : Hp) (r r' : Ev) (s : L2.St) (ds : List D) (vs : List V) (Q : L2.St → Hp → Prop), RelE K B H r s → Reps K B H ds vs → putAll is ds r = some r' → (∀ s', RelE K B H r' s' → WipeEq is s s' → Q s' H) → gN is vs s H Q
  | [], B, H, r, r', s, ds, vs, Q, hE, hr, e, q => by
    cases hr with
    | nil => cases e; exact ⟨rfl, q _ hE .refl⟩
    | cons _ _ => cases e
  | i :: is, B, H, r, r', s, ds, vs, Q, hE, hr, e, q => by
    cases hr with
    | nil => cases e
    | cons a b =>
      refine ⟨_, _, rfl, gN_sem is B H _ r' _ _ _ _ (hE.put a) b e fun s' e1 e2 => q s' e1 fun vs hv => ?_⟩
      rw [e2 vs fun j hj => hv j (List.mem_cons_of_mem _ hj), wipe_set (hv i (by simp))]
theorem tgT_sem {K : PySem.W.Frag} : ∀ T : Tg, PutSem K T (tgT K T)
  | .one i => fun B H r r' s d v Q hE hr e q => by cases e; exact q _ (hE.put hr) fun vs hv => wipe_set (hv i (by simp [Tg.slots]))
  | .many is => fun B H r r' s d v Q hE hr e z => by
    cases hr with
    | tup h1 h2 => exact ⟨_, _, rfl, h1, by rw [← h2.length]; exact (putAll_length (show putAll is _ r = some r' from e)).symm, gN_sem is B H r r' s _ _ _ hE h2 e z⟩
    | _ => cases e
theorem dg_one (i : Nat) {x : Str} {p : Pos} (hN : X.N.Nodup) (hi : X.N[i]? = some x := by rfl) (hx : Loc X.env.scope x := by first | exact Or.inl rfl | exact Or.inr rfl) (hf : X.fn x = true ∨ X.env.scope.names.lookup x = some .local := by first | exact .inl rfl | exact .inr rfl) :
    DG X (.Name x p) (.one i) := pg_name hN hi hx hf
theorem dgs_nil : DGs X [] [] := pgs_nil
theorem dgs_cons (i : Nat) {x : Str} {p : Pos} {es : List Expr} {is : List Nat} (hN : X.N.Nodup) (h2 : DGs X es is) (hi : X.N[i]? = some x := by rfl) (hx : Loc X.env.scope x := by first | exact Or.inl rfl | exact Or.inr rfl) (hf : X.fn x = true ∨ X.env.scope.names.lookup x = some .local := by first | exact .inl rfl | exact .inr rfl)
    (hs : (assignEach (.Name x p :: es) X.env).map (·.2) = assign (.Name x p) X.env :: (assignEach es X.env).map (·.2) := by rfl) : DGs X (.Name x p :: es) (i :: is) := pgs_cons (pg_name hN hi hx hf) h2 hs
theorem dg_many {tgs : List Expr} {is : List Nat} {k : Nat} {p : Pos} (hc : X.calm = true) (h : DGs X tgs is) (hn : (assignEach tgs X.env).length = is.length := by rfl) (hst : (assignEach tgs X.env).findIdx? (·.1) = none := by rfl) : DG X (.Tuple tgs k p) (.many is) := pg_tup hc h hn hst
/-! ### statements -/
variable {st : Stmt} {rest : List Stmt} {mt mu : SM} {e : Expr} {me : EM}
def bNext : SM := fun r h => .nx r h
def bSeq (a b : SM) : SM := fun r h => match a r h with
  | .nx r1 h1 => b r1 h1
  | o => o
theorem dss_nil : DSs X W F [] bNext := PSs.imp pss_nil fun D σ H ⟨_, _, _, hE, hH, p⟩ => p.nxt hE hH
theorem seq_sem {D : Ends} {σ : L2.St} {H : Hp} (q : tDS X.prog X.w X.K W F (bSeq mt mu) D σ H) : tSeq (tDS X.prog X.w X.K W F mt) (tDS X.prog X.w X.K W F mu) D σ H := by
  obtain ⟨B, r, h, hE, hH, p⟩ := q
  refine ⟨B, r, h, hE, hH, ?_⟩
  unfold bSeq at p
  cases em : mt r h with
  | nx r1 h1 =>
    rw [em] at p
    exact fun B1 σ1 H1 s1 e1 x1 => ⟨B1, r1, h1, e1, x1, p.later s1⟩
  | rt d h1 => rw [em] at p; exact p
  | bk r1 h1 => rw [em] at p; exact p
  | ct r1 h1 => rw [em] at p; exact p
  | ex c r1 h1 => rw [em] at p; exact p
  | bad => rw [em] at p; exact p
theorem dss_cons (h1 : DS X W F st mt) (h2 : DSs X W F rest mu) : DSs X W F (st :: rest) (bSeq mt mu) := PSs.imp (pss_cons h1 h2) fun _ _ _ q => seq_sem q
theorem dss_one (h1 : DS X W F st mt) : DSs X W F [st] mt := pss_one h1
def bBreak : SM := fun r h => .bk r h
def bCont : SM := fun r h => .ct r h
theorem ds_pass : DS X W F (.Pass pos) bNext := PS.imp ps_pass fun D σ H ⟨_, _, _, hE, hH, p⟩ => p.nxt hE hH
theorem ds_break : DS X W F (.Break pos) bBreak := PS.imp ps_break fun D σ H ⟨B, r, h, hE, hH, p⟩ => p B σ H .refl hE hH
theorem ds_continue : DS X W F (.Continue pos) bCont := PS.imp ps_continue fun D σ H ⟨B, r, h, hE, hH, p⟩ => p B σ H .refl hE hH
/-- a statement that is not come to -/
def bNever : SM := fun _ _ => .bad
theorem ds_never : DS X W F st bNever := PS.imp ps_never fun D σ H ⟨B, r, h, hE, hH, p⟩ => p
/-- from an expression to a statement -/
def bOf (m : EM) (k : D → Ev → Hh → Out) : SM := fun r h => match m r h with
  | .ok d h1 => k d r h1
  | .exc c h1 => .ex c r h1
  | .bad => .bad
theorem of_sem {m : EM} {k : D → Ev → Hh → Out} {D : Ends} {σ : L2.St} {H : Hp} {Q : VK} (q : tDS X.prog X.w X.K W F (bOf m k) D σ H)
    (z : ∀ d r h B v H1, RelE X.K B H1 r σ → RelH X.prog X.w X.K B h H1 → Rep X.K B H1 d v → PostS X.prog X.w X.K W F B H1 (k d r h) D → Q v H1) : tD X.prog X.w X.K W F m σ H Q := by
  obtain ⟨B, r, h, hE, hH, p⟩ := q
  refine ⟨B, r, h, hE, hH, ?_⟩
  unfold bOf at p
  cases em : m r h with
  | ok d h1 =>
    rw [em] at p
    exact fun B1 v H1 s1 r1 p1 => z d r h1 B1 v H1 (hE.step s1) r1 p1 (p.later s1)
  | exc c h1 =>
    rw [em] at p
    exact fun B1 H1 s1 r1 => p B1 σ H1 s1 (hE.step s1) r1
  | bad => rw [em] at p; exact p
def bExpr (m : EM) : SM := bOf m fun _ r h => .nx r h
theorem ds_expr (he : DE X W F e me) (hs : swapsWith e none pos.line X.env = pure false := by rfl) : DS X W F (.Expr e pos) (bExpr me) :=
  PS.imp (ps_expr he hs) fun D σ H q => of_sem q fun d r h B v H1 hE hH hr p => p.nxt hE hH
def bRet (m : EM) : SM := bOf m fun d _ h => .rt d h
theorem ds_ret (he : DE X W F e me) : DS X W F (.Return (some e) pos) (bRet me) :=
  PS.imp (ps_ret he) fun D σ H q => of_sem q fun d r h B v H1 hE hH hr p => p B v H1 .refl hH hr
def bRetN : SM := fun _ h => .rt .non h
theorem ds_retN : DS X W F (.Return none pos) bRetN := PS.imp ps_retN fun D σ H ⟨B, r, h, hE, hH, p⟩ => p B .non H .refl hH .non
def bAsg (m : EM) (T : Tg) : SM := bOf m fun d r h => match T.put d r with
  | some r' => .nx r' h
  | none => .bad
theorem ds_set {i : Nat} {x : Str} {p' : Pos} (hN : X.N.Nodup) (he : DE X W F e me) (hi : X.N[i]? = some x := by rfl) (hx : Loc X.env.scope x := by first | exact Or.inl rfl | exact Or.inr rfl) (hs : swapsWith e (some (.Name x p')) pos.line X.env = pure false := by rfl) (hf : X.fn x = true ∨ X.env.scope.names.lookup x = some .local := by first | exact .inl rfl | exact .inr rfl) :
    DS X W F (.Assign [.Name x p'] e pos) (bAsg me (.one i)) :=
  PS.imp (ps_set hN hi hx he hs hf) fun D σ H q => of_sem q fun d r h B v H1 hE hH hr p => p.nxt (hE.put hr) hH
theorem ds_asg {tg : Expr} {T : Tg} (he : DE X W F e me) (hg : DG X tg T) (hs : swapsWithSole [tg] e pos.line X.env = pure false := by rfl) (hw : swappedStores [tg] e X.env = pure none := by rfl)
    (h1 : (assignEach [tg] X.env).map (·.2) = [assign tg X.env] := by rfl) : DS X W F (.Assign [tg] e pos) (bAsg me T) := by
  refine PS.imp (ps_asg he hg hs hw h1) fun D σ H q => of_sem q fun d r h B v H1 hE hH hr p => ?_
  cases e : T.put d r with
  | none => rw [e] at p; exact p.elim
  | some r' =>
    rw [e] at p
    exact tgT_sem T B H1 r r' σ d v _ hE hr e fun s' e1 _ => p.nxt e1 hH
/-- a, b = x, y -/
def bPar (i j : Nat) (a b : EM) : SM := fun r h => match xCons a (xCons b xNil) r h with
  | .ok [x, y] h1 => .nx ((r.set i (some x)).set j (some y)) h1
  | .ok _ _ => .bad
  | .exc c h1 => .ex c r h1
  | .bad => .bad
theorem ds_par {i j : Nat} {x y : Str} {a b : Expr} {ma mb : EM} {px py pt : Pos} {kt k2 pt2} (hc : X.calm = true) (hN : X.N.Nodup) (ha : DE X W F a ma) (hb : DE X W F b mb) (hi : X.N[i]? = some x := by rfl) (hj : X.N[j]? = some y := by rfl) (hij : i ≠ j := by decide)
    (hx : X.env.scope.names.lookup x = some .local := by rfl) (hy : X.env.scope.names.lookup y = some .local := by rfl)
    (hw : swappedStores [.Tuple [.Name x px, .Name y py] kt pt] (.Tuple [a, b] k2 pt2) X.env = pure (some [x, y]) := by rfl)
    (hs : swapsWithSole [.Tuple [.Name x px, .Name y py] kt pt] (.Tuple [a, b] k2 pt2) pos.line X.env = pure false := by rfl)
    (h1 : starEach (a :: [b]) X.env = (false, eval a X.env) :: starEach [b] X.env := by rfl) (h2 : starEach (b :: []) X.env = (false, eval b X.env) :: starEach [] X.env := by rfl) :
    DS X W F (.Assign [.Tuple [.Name x px, .Name y py] kt pt] (.Tuple [a, b] k2 pt2) pos) (bPar i j ma mb) := by
  have da : DA X W F [a, b] (xCons ma (xCons mb xNil)) := da_cons ha (da_cons hb da_nil h2) h1
  refine PS.imp (ps_par hc hN hi hj hij hx hy da.pa hw hs) fun D σ H q => ?_
  obtain ⟨B, r, h, hE, hH, p⟩ := q
  refine ⟨B, r, h, hE, hH, ?_⟩
  unfold bPar at p
  cases em : xCons ma (xCons mb xNil) r h with
  | bad => rw [em] at p; exact p
  | exc c h1 => rw [em] at p; exact fun B1 H1 s1 r1 => p B1 σ H1 s1 (hE.step s1) r1
  | ok xs h1 =>
    rw [em] at p
    intro B1 vs H1 s1 r1 p1
    match xs, p1, p with
    | [x1, y1], .cons q1 (.cons q2 .nil), p => exact ⟨_, _, rfl, p B1 _ H1 s1 (((hE.step s1).put q1).put q2) r1⟩
    | [], _, p => exact p.elim
    | [_], _, p => exact p.elim
    | _ :: _ :: _ :: _, _, p => exact p.elim
def bIf (c : TM) (a b : SM) : SM := fun r h => match c r h with
  | .ok true h1 => a r h1
  | .ok false h1 => b r h1
  | .exc c h1 => .ex c r h1
  | .bad => .bad
theorem ds_if {c : Expr} {A1 B1 : List Stmt} {tc : TM} (hc : DT X W F c tc) (ha : DSs X W F A1 mt) (hb : DSs X W F B1 mu) : DS X W F (.If c A1 B1 pos) (bIf tc mt mu) :=
  PS.imp (ps_if hc ha hb) fun D σ H q => by
    obtain ⟨B, r, h, hE, hH, p⟩ := q
    refine ⟨B, r, h, hE, hH, ?_⟩
    unfold bIf at p
    cases em : tc r h with
    | bad => rw [em] at p; exact p
    | exc c h1 => rw [em] at p; exact fun B1 H1 s1 r1 => p B1 σ H1 s1 (hE.step s1) r1
    | ok b h1 =>
      rw [em] at p
      intro B1 v H1 s1 r1 p1
      cases p1
      cases b with
      | true => exact iteT ⟨B1, r, h1, hE.step s1, r1, p.later s1⟩
      | false => exact iteF ⟨B1, r, h1, hE.step s1, r1, p.later s1⟩
/-! ### while -/
def whileN (c : TM) (b : SM) : Nat → Ev → Hh → Out
  | 0, _, _ => .bad
  | n + 1, r, h => match c r h with
    | .ok true h1 => (match b r h1 with
      | .nx r2 h2 => whileN c b n r2 h2
      | .ct r2 h2 => whileN c b n r2 h2
      | .bk r2 h2 => .nx r2 h2
      | o => o)
    | .ok false h1 => .nx r h1
    | .exc c h1 => .ex c r h1
    | .bad => .bad
theorem while_sem {c : TM} {b : SM} {D : Ends} : ∀ (n : Nat) (σ : L2.St) (H : Hp), tDS X.prog X.w X.K W F (whileN c b n) D σ H → tWhile (tDT X.prog X.w X.K W F c) (tDS X.prog X.w X.K W F b) D σ H := by
  intro n σ H q
  refine ⟨fun m σ H => tDS X.prog X.w X.K W F (whileN c b m) D σ H, ⟨n, q⟩, fun m σ H q => ?_⟩
  obtain ⟨B, r, h, hE, hH, p⟩ := q
  cases m with
  | zero => exact p.elim
  | succ m =>
    refine ⟨B, r, h, hE, hH, ?_⟩
    unfold whileN at p
    cases em : c r h with
    | bad => rw [em] at p; exact p
    | exc c h1 => rw [em] at p; exact fun B1 H1 s1 r1 => p B1 σ H1 s1 (hE.step s1) r1
    | ok t h1 =>
      rw [em] at p
      intro B1 v H1 s1 r1 p1
      cases p1
      cases t with
      | false => exact iteF ((p.later s1).nxt (hE.step s1) r1)
      | true =>
        refine iteT ⟨fun σ' H' => tDS X.prog X.w X.K W F (whileN c b m) D σ' H', fun σ' H' z => ⟨m, Nat.lt_succ_self m, z⟩, B1, r, h1, hE.step s1, r1, ?_⟩
        have p := p.later s1
        dsimp only at p
        cases eb : b r h1 with
        | nx r2 h2 => rw [eb] at p; exact fun B2 σ2 H2 s2 e2 x2 => ⟨B2, r2, h2, e2, x2, p.later s2⟩
        | ct r2 h2 => rw [eb] at p; exact fun B2 σ2 H2 s2 e2 x2 => ⟨B2, r2, h2, e2, x2, p.later s2⟩
        | bk r2 h2 => rw [eb] at p; exact p
        | rt d h2 => rw [eb] at p; exact p
        | ex c r2 h2 => rw [eb] at p; exact p
        | bad => rw [eb] at p; exact p
def bWhile (c : TM) (b : SM) : SM := fun r h => whileN c b 1000000000 r h
theorem ds_while {c : Expr} {body : List Stmt} {tc : TM} (hp : PassesOwn (model X.prog X.w) X.A X.env X.xe) (hc : DT X W F c tc) (hb : DSs X W F body mt) : DS X W F (.While c body [] pos) (bWhile tc mt) :=
  PS.imp (ps_while hp hc hb) fun D σ H q => while_sem 1000000000 σ H q
end
end Dc
end
section
set_option Elab.async false
set_option linter.all false
set_option maxRecDepth 100000
set_option maxHeartbeats 4000000
namespace Dc
open PySem PySem.Spec PyProof.Rows L2
/-! ### the keys of a dict that stands exactly so -/
def Itx (a : Addr) (o : Obj) (es : Array DictEntry) : It :=
  ⟨fun i H => H a = some (exO a o) ∧ i < es.size, fun i H x H' => H' = H ∧ ∃ en, es[i]? = some en ∧ RelV x en.key, fun i H => H a = some (exO a o) ∧ es.size ≤ i⟩
/-- every key is a tuple -/
def KeyRefs (es : Array DictEntry) : Prop := ∀ (i : Nat) (en : DictEntry), es[i]? = some en → ∃ q, en.key = .ref q
theorem turn_keysX {P : Program} {w : World} {K : PySem.W.Frag} {tg : Expr} {d : Addr} {o : Obj} {es : Array DictEntry} {ep : Nat} (it : Addr) (hod : o.data = .dict es ep) (hk : KeyRefs es) :
    Turn P w K tg (Itx d o es) [it] it (fun i h => h.IsKeyIter it d i es.size ep) where
  mem := by simp
  obj := fun i h st b hb => by
    have e : b = it := by simpa using hb
    subst e
    obtain ⟨oi, e, c, dd⟩ := st
    exact ⟨oi, e, fun v z => by rw [dd] at z; cases z⟩
  keep := fun i h h' st k => st.at fun oi e => k it (by simp) oi e
  item := by
    intro X hP hw hK hc i pins s σ H E I hf st hg
    subst hP hw hK
    obtain ⟨hd, hi⟩ := hg
    obtain ⟨f0, f1, f2, f3, f4, f5⟩ := hf it (by simp)
    have hgd : s.heap.get? d = some o := (I.hok d _ hd).1
    obtain ⟨en, hen⟩ : ∃ en, es[i]? = some en := ⟨es[i], Array.getElem?_eq_getElem hi⟩
    obtain ⟨q, hq⟩ := hk i en hen
    refine next_key_item st hgd hod rfl hen fun h' st' sb => ?_
    have I1 : Inv X pins σ H { s with heap := h' } := I.turned (t' := s.toks) (fun b ob hb e => (sb.2 b hb).trans e) f0 f1 f3 f4 f5
    obtain ⟨oi, e, c, dd⟩ := id st'
    exact ⟨en.key, rfl, go_of (s := { s with heap := h' }) e c dd (by decide) ⟨.ref q, H, I1, by rw [hq]; rfl, ⟨rfl, en, hen, by rw [hq]; rfl⟩, st', fun b hb => (hf b hb).1⟩⟩
  done := by
    intro X hP hw hK hc i pins s σ H E I hf st hg
    subst hP hw hK
    obtain ⟨hd, hi⟩ := hg
    obtain ⟨f0, f1, f2, f3, f4, f5⟩ := hf it (by simp)
    have hgd : s.heap.get? d = some o := (I.hok d _ hd).1
    exact next_key_end (I.ok.hd hc) st hgd hod rfl hi fun h' eb => ⟨rfl, I.turned (t' := s.toks) (fun b ob hb e => eb b ob hb e) f0 f1 f3 f4 f5⟩
  self := fun A i s Q E st h => by
    refine wpAny_pyIter_slot st.typeIs F.slot_dict_keyiterator_iter (wpAny_call_entry F.slot_dict_keyiterator_iter st.typeIs F.entry_dict_keyiterator_iter ?_ (F.args_dict_keyiterator_iter_1 _))
    show wpAny _ _ (ret (.ref it)) _ _ s
    exact wpAny_pure ⟨_, rfl, "dict_keyiterator", _, st.typeIs, F.slot_dict_keyiterator_next.lookup, h⟩
theorem walk_keysX {a : Addr} {o : Obj} {es : Array DictEntry} : Walk (Itx a o es) es.size (fun H => H a = some (exO a o)) (fun i H x H' => H' = H ∧ ∃ en, es[i]? = some en ∧ RelV x en.key) :=
  ⟨fun i H hi g => ⟨g, hi⟩, fun H g => ⟨g, Nat.le_refl _⟩, fun i H x H' _ _ y => y⟩
/-! ### what a value gives when it is walked -/
def iAny (K : PySem.W.Frag) (te : TE) : TI := fun σ H R => te σ H fun x H1 =>
  (∃ a, x = .ref a ∧ (∃ xs, SqL K H1 a xs) ∧ R (Itl K a) H1) ∨ (∃ a, x = .ref a ∧ (∃ xs, SqT K H1 a xs) ∧ R (Itt K a) H1) ∨ (∃ z, x = .str z ∧ R (Its z) H1) ∨
  (∃ a o es ep, x = .ref a ∧ (a == sysModules) = false ∧ H1 a = some (exO a o) ∧ o.ExactDict ∧ o.data = .dict es ep ∧ KeyRefs es ∧ R (Itx a o es) H1)
theorem pi_any {X : Cx} {tg e : Expr} {te : TE} (he : PE X e te) : PI X tg e (iAny X.K te) := by
  refine ⟨fun pins s σ H R I h => ?_⟩
  refine thn (he.run pins s σ H _ I h) fun v s1 ⟨x, H1, I1, r1, q1⟩ => ?_
  rcases q1 with ⟨a, e, ⟨xs, hq⟩, q⟩ | ⟨a, e, ⟨xs, hq⟩, q⟩ | ⟨z, e, q⟩ | ⟨a, o, es, ep, e, hs, hd, hx, hdt, hk, q⟩
  · subst e
    cases r1
    obtain ⟨its, rv, p, hz⟩ := I1.list hq
    exact wpAny_pyIter_list p.isList (pi_one (tk := s1.toks) I1 _ (turn_list a _) ⟨_, Heap.get?_push_size _ rfl, rfl, rfl⟩ q)
  · subst e
    cases r1
    obtain ⟨its, rv, p, hz⟩ := I1.tuple hq
    exact wpAny_pyIter_tuple (show s1.heap.IsTuple a its.toArray from p) (pi_one (tk := s1.toks) I1 _ (turn_tuple a _) ⟨_, Heap.get?_push_size _ rfl, rfl, rfl⟩ q)
  · subst e
    obtain ⟨t, rfl⟩ := r1
    cases ha : z.cps.all (· < 128)
    · exact wpAny_pyIter_wide ha (pi_one (tk := s1.toks) I1 _ (turn_str _ z t "str_iterator" (.inr rfl)) ⟨_, Heap.get?_push_size _ rfl, rfl, rfl⟩ q)
    · exact wpAny_pyIter_ascii ha (pi_one (tk := s1.toks) I1 _ (turn_str _ z t "str_ascii_iterator" (.inl rfl)) ⟨_, Heap.get?_push_size _ rfl, rfl, rfl⟩ q)
  · subst e
    cases r1
    have hgd : s1.heap.get? a = some o := (I1.hok a _ hd).1
    exact iter_keys hs hgd hx hdt (pi_one (tk := s1.toks) I1 _ (turn_keysX _ hdt hk) ⟨_, Heap.get?_push_size _ rfl, rfl, rfl⟩ q)

/-- the object that a walk locks -/
def Fl.lock (F : Fl) (l : Option Nat) : Fl := match l with
  | some j => ⟨fun i => F.may i && !(i == j)⟩
  | none => F
theorem Fl.lock_may {F : Fl} {l : Option Nat} {i : Nat} (h : F.may i = false) : (F.lock l).may i = false := by
  cases l with
  | none => exact h
  | some j => show (F.may i && !(i == j)) = false; rw [h]; rfl
theorem Fl.lock_not {F : Fl} {j : Nat} : (F.lock (some j)).may j = false := by
  show (F.may j && !(j == j)) = false
  simp
theorem Step.unlock {F : Fl} {l : Option Nat} {B B' : List Addr} {H H' : Hp} (s : Step (F.lock l) B H B' H') : Step F B H B' H' := s.of fun _ _ h => Fl.lock_may h

abbrev Fl.nil : Fl := ⟨fun _ => false⟩
theorem Step.all {F : Fl} {B B' : List Addr} {H H' : Hp} (s : Step Fl.nil B H B' H') : Step F B H B' H' := s.of fun _ _ _ => rfl
/-- J walks ds, from (B1, H1) on -/
def GW (P : Program) (w : World) (K : PySem.W.Frag) (F : Fl) (B1 : List Addr) (H1 : Hp) (ds : List D) (J : It) : Prop :=
  ∃ G Y, Walk J ds.length G Y ∧ (∀ B2 H2, Stay F B1 H1 B2 H2 → G H2) ∧
    ∀ i H2 x H3 B2 h2, i < ds.length → Stay F B1 H1 B2 H2 → RelH P w K B2 h2 H2 → Y i H2 x H3 → Step Fl.nil B2 H2 B2 H3 ∧ RelH P w K B2 h2 H3 ∧ ∃ d, ds[i]? = some d ∧ Rep K B2 H3 d x
abbrev IM := Ev → Hh → Rs (List D × Option Nat)
/-- an iterable: its items and what is locked -/
def DI (X : Cx) (W : WD) (F : Fl) (tg e : Expr) (m : IM) : Prop := ∃ wi : TI, PI X tg e wi ∧ ∀ (σ : L2.St) (H : Hp) (R : It → Hp → Prop) (B : List Addr) (r : Ev) (h : Hh), RelE X.K B H r σ → RelH X.prog X.w X.K B h H →
  (match m r h with
    | .ok (ds, l) h1 => ∀ B1 H1 J, Step F B H B1 H1 → RelH X.prog X.w X.K B1 h1 H1 → GW X.prog X.w X.K (F.lock l) B1 H1 ds J → R J H1
    | .exc c h1 => ∀ B1 H1, Step F B H B1 H1 → RelH X.prog X.w X.K B1 h1 H1 → W c σ H1
    | .bad => False) → wi σ H R
/-- the items of a value -/
def itemsOf (d : D) (h : Hh) : Option (List D × Option Nat) := match d with
  | .tup ds => some (ds, none)
  | .fro ds => some (ds, none)
  | .str cs => some (cs.map fun c => .str [c], none)
  | .ref j => (match h[j]? with
    | some (.lst ds) => some (ds, some j)
    | some (.dct kvs) => some (kvs.map (·.1), some j)
    | none => none)
  | _ => none
def xIter (m : EM) : IM := fun r h => (m r h).bind fun d h1 => match itemsOf d h1 with
  | some p => .ok p h1
  | none => .bad
theorem paired_len {α β : Type} {G : α → β → Prop} {l₁ : List α} {l₂ : List β} (h : Paired G l₁ l₂) : l₁.length = l₂.length := Paired.length h
theorem paired_at {α β : Type} {G : α → β → Prop} {l₁ : List α} {l₂ : List β} (h : Paired G l₁ l₂) {i : Nat} {b : β} (e : l₂[i]? = some b) : ∃ a, l₁[i]? = some a ∧ G a b := by
  induction h generalizing i with
  | nil => simp at e
  | cons r t ih =>
    cases i with
    | zero => simp at e; subst e; exact ⟨_, rfl, r⟩
    | succ i => simpa using ih (by simpa using e)
theorem gw_list {P : Program} {w : World} {K : PySem.W.Frag} {F : Fl} {B1 : List Addr} {H1 : Hp} {ds : List D} {a : Addr} {xs : List V} (hr : Reps K B1 H1 ds xs) (hq : ∀ B2 H2, Stay F B1 H1 B2 H2 → SqL K H2 a xs) : GW P w K F B1 H1 ds (Itl K a) := by
  refine ⟨_, _, (by rw [hr.length]; exact walk_list (xs := xs)), fun B2 H2 s => hq B2 H2 s, fun i H2 x H3 B2 h2 hi s x2 y => ?_⟩
  obtain ⟨rfl, y⟩ := y
  obtain ⟨d, e1, e2⟩ := (hr.grow s.grow).get' y
  exact ⟨.refl, x2, d, e1, e2⟩
theorem gw_tup {P : Program} {w : World} {K : PySem.W.Frag} {F : Fl} {B1 : List Addr} {H1 : Hp} {ds : List D} {a : Addr} {xs : List V} (hr : Reps K B1 H1 ds xs) (hq : SqT K H1 a xs) : GW P w K F B1 H1 ds (Itt K a) := by
  refine ⟨_, _, (by rw [hr.length]; exact walk_tup (xs := xs)), fun B2 H2 s => s.grow.sqT hq, fun i H2 x H3 B2 h2 hi s x2 y => ?_⟩
  obtain ⟨rfl, y⟩ := y
  obtain ⟨d, e1, e2⟩ := (hr.grow s.grow).get' y
  exact ⟨.refl, x2, d, e1, e2⟩
theorem gw_str {P : Program} {w : World} {K : PySem.W.Frag} {F : Fl} {B1 : List Addr} {H1 : Hp} {cs : List Nat} (ok : cs.all (· < 1114112) = true) : GW P w K F B1 H1 (cs.map fun c => .str [c]) (Its ⟨cs.toArray⟩) := by
  refine ⟨_, _, (by rw [List.length_map]; exact walk_str (z := ⟨cs.toArray⟩)), fun B2 H2 s => trivial, fun i H2 x H3 B2 h2 hi s x2 y => ?_⟩
  obtain ⟨rfl, c, y1, rfl⟩ := y
  have y2 : cs[i]? = some c := by simpa using y1
  refine ⟨.refl, x2, .str [c], ?_, .str (by simpa using List.all_eq_true.mp ok c (List.mem_of_getElem? y2))⟩
  rw [List.getElem?_map, y2]; rfl
theorem any_sem {X : Cx} {W : WD} {F : Fl} {m : EM} : ∀ (σ : L2.St) (H : Hp) (R : It → Hp → Prop) (B : List Addr) (r : Ev) (h : Hh), RelE X.K B H r σ → RelH X.prog X.w X.K B h H →
  (match xIter m r h with
    | .ok (ds, l) h1 => ∀ B1 H1 J, Step F B H B1 H1 → RelH X.prog X.w X.K B1 h1 H1 → GW X.prog X.w X.K (F.lock l) B1 H1 ds J → R J H1
    | .exc c h1 => ∀ B1 H1, Step F B H B1 H1 → RelH X.prog X.w X.K B1 h1 H1 → W c σ H1
    | .bad => False) → iAny X.K (tD X.prog X.w X.K W F m) σ H R := by
  intro σ H R B r h hE hH p
  refine ⟨B, r, h, hE, hH, ?_⟩
  unfold xIter at p
  cases em : m r h with
  | bad => rw [em] at p; exact p
  | exc c h1 => rw [em] at p; exact p
  | ok d h1 =>
    rw [em] at p
    intro B1 v H1 s1 r1 p1
    replace p : (match (match itemsOf d h1 with | some p => Rs.ok p h1 | none => Rs.bad : Rs (List D × Option Nat)) with
      | .ok (ds, l) h1 => ∀ B1 H1 J, Step F B H B1 H1 → RelH X.prog X.w X.K B1 h1 H1 → GW X.prog X.w X.K (F.lock l) B1 H1 ds J → R J H1
      | .exc c h1 => ∀ B1 H1, Step F B H B1 H1 → RelH X.prog X.w X.K B1 h1 H1 → W c σ H1
      | .bad => False) := p
    cases p1 with
    | tup h2 h3 => exact .inr (.inl ⟨_, rfl, ⟨_, h2⟩, p B1 H1 _ s1 r1 (gw_tup h3 h2)⟩)
    | fro h2 h3 => exact .inl ⟨_, rfl, ⟨_, h2.sq⟩, p B1 H1 _ s1 r1 (gw_list h3 fun B2 H2 s => (s.grow.frL h2).sq)⟩
    | str ok => exact .inr (.inr (.inl ⟨_, rfl, p B1 H1 _ s1 r1 (gw_str ok)⟩))
    | @ref j a hb =>
      obtain ⟨o, ho, hr⟩ := r1.get hb
      unfold itemsOf at p
      simp only [ho] at p
      cases o with
      | lst ds =>
        obtain ⟨vs, h2, h3⟩ := hr
        refine .inl ⟨_, rfl, ⟨_, SqL.of h2⟩, p B1 H1 _ s1 r1 (gw_list h3 fun B2 H2 s => SqL.of ?_)⟩
        rw [s.keep j a hb Fl.lock_not]; exact h2
      | dct kvs =>
        obtain ⟨hs, hl, hn, o, es, ep, xs, h2, h3, h4, h5, h6⟩ := hr
        have sz : es.size = kvs.length := by rw [paired_len h5, ← Array.length_toList, h6, List.length_map]
        have ents : ∀ (i : Nat) (en : DictEntry), es[i]? = some en → ∃ x, xs[i]? = some x ∧ en = entryOfKey (nestedKind X.prog X.w) x := fun i en e => by
          have e2 : es.toList[i]? = some en := by simpa using e
          rw [h6, List.getElem?_map] at e2
          obtain ⟨x, e3, e4⟩ := Option.map_eq_some_iff.mp e2
          exact ⟨x, e3, e4.symm⟩
        refine .inr (.inr (.inr ⟨a, o, es, ep, rfl, hs, h2, h3, h4, fun i en e => ?_, p B1 H1 _ s1 r1 ?_⟩))
        · obtain ⟨x, _, rfl⟩ := ents i en e
          exact ⟨_, rfl⟩
        · refine ⟨_, _, (by rw [List.length_map, ← sz]; exact walk_keysX), fun B2 H2 s => (s.keep j a hb Fl.lock_not).trans h2, fun i H2 x H3 B2 hh2 hi s x2 y => ?_⟩
          obtain ⟨rfl, en, e1, e2⟩ := y
          obtain ⟨q, e3, rfl⟩ := ents i en e1
          obtain ⟨kv, e4, z1, z2, z3, _⟩ := paired_at h5 e3
          refine ⟨.refl, x2, kv.1, by rw [List.getElem?_map, e4]; rfl, ?_⟩
          have e5 : x = .ref q.2.1 := e2.inj (show RelV (.ref q.2.1) _ from rfl)
          rw [e5]
          exact z3.grow s.grow
    | _ => exact p.elim
theorem di_any {X : Cx} {W : WD} {F : Fl} {tg e : Expr} {m : EM} (he : DE X W F e m) : DI X W F tg e (xIter m) := ⟨_, pi_any he, any_sem⟩
/-! ### for -/
def forL (T : Tg) (b : SM) : List D → Ev → Hh → Out
  | [], r, h => .nx r h
  | d :: ds, r, h => match T.put d r with
    | some r1 => (match b r1 h with
      | .nx r2 h2 => forL T b ds r2 h2
      | .ct r2 h2 => forL T b ds r2 h2
      | .bk r2 h2 => .nx r2 h2
      | o => o)
    | none => .bad
def bFor (F : Fl) (it : IM) (T : Tg) (b : Fl → SM) : SM := fun r h => match it r h with
  | .ok (ds, l) h1 => forL T (b (F.lock l)) ds r h1
  | .exc c h1 => .ex c r h1
  | .bad => .bad
section
variable {X : Cx} {W : WD} {F : Fl} {tg iter : Expr} {pos : Pos}
theorem ds_for {it : IM} {T : Tg} {body : List Stmt} {mb : Fl → SM} (hp : PassesOwn (model X.prog X.w) X.A X.env X.xe) (hc : X.calm = true) (hi : DI X W F tg iter it) (hg : DG X tg T) (hb : ∀ F', DSs X W F' body (mb F'))
    (hs : ∀ x, foldedSetIterable iter X.env x = pure x := by intro _; rfl) : DS X W F (.For tg iter body [] pos) (bFor F it T mb) := by
  obtain ⟨wi, hi, ki⟩ := hi
  have kg := tgT_sem (K := X.K) T
  refine ⟨fun pins s σ H D I q => ?_⟩
  obtain ⟨B, r, h, hE, hH, p⟩ := q
  unfold bFor at p
  -- the body's reading hangs on what is locked: choose it
  cases em : it r h with
  | bad => rw [em] at p; exact p.elim
  | exc c h1 =>
    rw [em] at p
    refine (ps_for (tb := tDS X.prog X.w X.K W F (mb F)) hp hc hi hg (hb F) hs).run pins s σ H D I ?_
    refine ki σ H _ B r h hE hH ?_
    rw [em]
    exact fun B1 H1 s1 r1 => p B1 σ H1 s1 (hE.step s1) r1
  | ok dl h1 =>
    obtain ⟨ds, l⟩ := dl
    rw [em] at p
    refine (ps_for (tb := tDS X.prog X.w X.K W (F.lock l) (mb (F.lock l))) hp hc hi hg (hb (F.lock l)) hs).run pins s σ H D I ?_
    refine ki σ H _ B r h hE hH ?_
    rw [em]
    intro B1 H1 J s1 r1 gw
    obtain ⟨G, Y, wk, gG, gY⟩ := gw
    have p1 := p.later s1
    refine for_it wk (fun i σ H => ∃ B2 r h, Step (F.lock l) B1 H1 B2 H ∧ RelE X.K B2 H r σ ∧ RelH X.prog X.w X.K B2 h H ∧ PostS X.prog X.w X.K W F B2 H (forL T (mb (F.lock l)) (ds.drop i) r h) D)
      ⟨B1, r, h1, .refl, hE.step s1, r1, by simpa using p1⟩ (fun i σ H _ ⟨B2, r, h, s, _⟩ => gG B2 H s.stay) (fun i x σ2 H2 H3 hlt pv y => ?_) (fun σ2 H2 pv => ?_)
    · obtain ⟨B2, r2, h2, s2, e2, x2, p2⟩ := pv
      obtain ⟨s3, x3, d, ed, rd⟩ := gY i H2 x H3 B2 h2 hlt s2.stay x2 y
      replace s3 : Step (F.lock l) B2 H2 B2 H3 := s3.all
      have e3 := e2.step s3
      have p3 := p2.later s3.unlock
      have ec : ds.drop i = d :: ds.drop (i + 1) := by
        rw [List.drop_eq_getElem_cons hlt]
        have := (List.getElem?_eq_some_iff.mp ed).2
        rw [this]
      rw [ec] at p3
      unfold forL at p3
      cases et : T.put d r2 with
      | none => rw [et] at p3; exact p3.elim
      | some r3 =>
        rw [et] at p3
        dsimp only at p3
        refine kg B2 H3 r2 r3 σ2 d x _ e3 rd et fun σ3 e4 _ => ⟨B2, r3, h2, e4, x3, ?_⟩
        cases eb : mb (F.lock l) r3 h2 with
        | nx r4 h4 => rw [eb] at p3; exact fun B4 σ4 H4 s4 e5 x4 => ⟨B4, r4, h4, (s2.trans s3).trans s4, e5, x4, p3.later s4.unlock⟩
        | ct r4 h4 => rw [eb] at p3; exact fun B4 σ4 H4 s4 e5 x4 => ⟨B4, r4, h4, (s2.trans s3).trans s4, e5, x4, p3.later s4.unlock⟩
        | bk r4 h4 => rw [eb] at p3; exact fun B4 σ4 H4 s4 e5 x4 => p3 B4 σ4 H4 s4.unlock e5 x4
        | rt d4 h4 => rw [eb] at p3; exact fun B4 v4 H4 s4 x4 e5 => p3 B4 v4 H4 s4.unlock x4 e5
        | ex c4 r4 h4 => rw [eb] at p3; exact fun B4 σ4 H4 s4 e5 x4 => p3 B4 σ4 H4 s4.unlock e5 x4
        | bad => rw [eb] at p3; exact p3.elim
    · obtain ⟨B2, r2, h2, s2, e2, x2, p2⟩ := pv
      rw [List.drop_length] at p2
      exact p2.nxt e2 x2
/-! ### range -/
def rangeL (lo : Int) (n : Nat) : List D := (List.range n).map fun (i : Nat) => D.int (lo + (i : Int))
theorem gw_range {P : Program} {w : World} {K : PySem.W.Frag} {F : Fl} {B1 : List Addr} {H1 : Hp} {lo : Int} {n : Nat} : GW P w K F B1 H1 (rangeL lo n) (Itr lo n) := by
  refine ⟨_, _, (by unfold rangeL; rw [List.length_map, List.length_range]; exact walk_range), fun B2 H2 s => trivial, fun i H2 x H3 B2 h2 hi s x2 y => ?_⟩
  obtain ⟨rfl, rfl⟩ := y
  refine ⟨.refl, x2, .int (lo + i), ?_, .int _⟩
  unfold rangeL at hi ⊢
  rw [List.length_map, List.length_range] at hi
  rw [List.getElem?_map, List.getElem?_range hi]; rfl
def xRange1 (m : EM) : IM := fun r h => (m r h).bind fun d h1 => match d with
  | .int j => if -(2 ^ 62) ≤ j ∧ j < 2 ^ 62 then .ok (rangeL 0 j.toNat, none) h1 else .bad
  | _ => .bad
theorem di_range1 {a : Expr} {m : EM} {p : Pos} (hm : X.mg "range" = none) (ha : DE X W F a m) (hg : Gl X "range" := by rfl) (hs : starEach [a] X.env = [(false, eval a X.env)] := by rfl) : DI X W F tg (.Call (.Name "range" p) [a] [] pos) (xRange1 m) := by
  have da : DA X W F [a] (xCons m xNil) := da_cons ha da_nil (by rw [hs] <;> rfl)
  refine ⟨_, pi_range1 hg hm da.pa hs, fun σ H R B r h hE hH q => ⟨B, r, h, hE, hH, ?_⟩⟩
  unfold xCons
  unfold xRange1 at q
  cases em : m r h with
  | bad => rw [em] at q; exact q
  | exc c h1 => rw [em] at q; exact q
  | ok d h1 =>
    rw [em] at q
    intro B1 vs H1 s1 r1 p1
    match vs, p1 with
    | [v], .cons p1 .nil =>
      cases p1 with
      | int j =>
        change (match (if -(2 ^ 62) ≤ j ∧ j < 2 ^ 62 then Rs.ok (rangeL 0 j.toNat, none) h1 else Rs.bad : Rs (List D × Option Nat)) with
          | .ok (ds, l) h1 => ∀ B1 H1 J, Step F B H B1 H1 → RelH X.prog X.w X.K B1 h1 H1 → GW X.prog X.w X.K (F.lock l) B1 H1 ds J → R J H1
          | .exc c h1 => ∀ B1 H1, Step F B H B1 H1 → RelH X.prog X.w X.K B1 h1 H1 → W c σ H1
          | .bad => False) at q
        by_cases hc : -(2 ^ 62) ≤ j ∧ j < 2 ^ 62
        · rw [if_pos hc] at q
          exact ⟨j, rfl, hc.1, hc.2, q B1 H1 _ s1 r1 gw_range⟩
        · rw [if_neg hc] at q; exact q.elim
      | _ => exact q.elim
end
end Dc
end
section
set_option Elab.async false
set_option linter.all false
set_option maxRecDepth 100000
set_option maxHeartbeats 4000000
namespace Dc
open PySem PySem.Spec PyProof.Rows L2
/-! ### list comprehensions -/
def wipeE (r : Ev) : List Nat → Ev
  | [] => r
  | v :: vs => (wipeE r vs).set v none
theorem RelE.drop1 {K : PySem.W.Frag} {B : List Addr} {H : Hp} {r : Ev} {s : L2.St} (i : Nat) (h : RelE K B H r s) : RelE K B H (r.set i none) (s.set i none) := by
  refine ⟨by simp [h.1], fun j e q => ?_⟩
  by_cases hj : j = i
  · subst hj
    have hl : j < r.length := by have := (List.getElem?_eq_some_iff.mp q).1; simpa using this
    rw [List.getElem?_set_self hl] at q
    cases q
  · rw [List.getElem?_set_ne (Ne.symm hj)] at q ⊢
    exact h.2 j e q
theorem RelE.wipe {K : PySem.W.Frag} {B : List Addr} {H : Hp} {r : Ev} {s : L2.St} (h : RelE K B H r s) : ∀ vs : List Nat, RelE K B H (wipeE r vs) (L2.wipe s vs)
  | [] => h
  | v :: vs => (RelE.wipe h vs).drop1 v
def lcL (T : Tg) (tt : TM) (te : EM) (r0 : Ev) : List D → Hh → Rs (List D)
  | [], h => .ok [] h
  | d :: ds, h => match T.put d r0 with
    | none => .bad
    | some r1 => (match tt r1 h with
      | .ok true h1 => (match te r1 h1 with
        | .ok y h2 => (lcL T tt te r0 ds h2).bind fun ys h3 => .ok (y :: ys) h3
        | _ => .bad)
      | .ok false h1 => lcL T tt te r0 ds h1
      | _ => .bad)
def xLc (F : Fl) (vs : List Nat) (it : IM) (T : Tg) (tt : Fl → TM) (te : Fl → EM) : EM := fun r h => (it r h).bind fun p h1 =>
  if p.1.length ≤ 16777216 then (lcL T (tt (F.lock p.2)) (te (F.lock p.2)) (wipeE r vs) p.1 h1).bind fun ys h2 => .ok (.ref h2.length) (h2 ++ [.lst ys]) else .bad
abbrev W0 : WD := fun _ _ _ => False
def DTs (X : Cx) (W : WD) (F : Fl) (es : List Expr) (m : TM) : Prop := PTs X es (tDT X.prog X.w X.K W F m)
def xYes : TM := fun _ h => .ok true h
section
variable {X : Cx} {W : WD} {F : Fl} {pos : Pos}
theorem dts_nil : DTs X W F [] xYes := ⟨fun pins s σ H Q I h => wpAny_tests_nil (let ⟨_, _, _, _, hH, p⟩ := h; ⟨H, I, p.now hH rfl⟩)⟩
theorem dts_one {c : Expr} {m : TM} (h : DT X W F c m) : DTs X W F [c] m := pts_one h
/-- a step within which one more object, not ours, has been laid and changed -/
theorem Step.aside {P : Program} {w : World} {K : PySem.W.Frag} {F : Fl} {B B' : List Addr} {h : Hh} {H H' : Hp} {d : Addr} {o : HO} (x : RelH P w K B h H) (s : Step F B H B' H') (hd : H d = none) : Step F B H B' (upd H' d o) :=
  ⟨s.pre, fun a xs e => by rw [upd_ne (ne_of_none e hd)]; exact s.tup a xs e, fun a o' u e => by rw [upd_ne (ne_of_none e hd)]; exact s.frz a o' u e,
    fun i a e m => by rw [upd_ne (x.ne (List.mem_of_getElem? e) hd)]; exact s.keep i a e m, fun a o' n e => by rw [upd_ne (ne_of_none e hd)]; exact s.oth a o' n e,
    fun a e => by
      by_cases z : a = d
      · rw [z, upd_same]; simp
      · rw [upd_ne z]; exact s.dom a e⟩
theorem RelH.aside {P : Program} {w : World} {K : PySem.W.Frag} {B : List Addr} {h : Hh} {H : Hp} {d : Addr} {xs : List V} {o : HO} (x : RelH P w K B h H) (hd : d ∉ B) (e : H d = some (.lst xs)) : RelH P w K B h (upd H d o) ∧ Grow B H B (upd H d o) := by
  have g : Grow B H B (upd H d o) := ⟨⟨[], by simp⟩, fun a ys q => by rw [upd_ne (ne_of q e fun z => by cases z)]; exact q, fun a o' u q => by rw [upd_ne (ne_of q e fun z => by cases z)]; exact q⟩
  refine ⟨⟨x.nd, x.len, fun i u a e1 e2 => (x.ob i u a e1 e2).grow g (upd_ne fun z => hd ?_)⟩, g⟩
  rw [← z]
  exact List.mem_of_getElem? e2
theorem lc_sem {T : Tg} {tt : TM} {te : EM} {F' : Fl} {l : Option Nat} {vs : List Nat} {σ : L2.St} {r : Ev} {B1 : List Addr} {h1 : Hh} {H1 : Hp} {ds : List D} {J : It} {Q : VK} (hF : F' = F.lock l) (hE : RelE X.K B1 H1 r σ) (hH : RelH X.prog X.w X.K B1 h1 H1) (gw : GW X.prog X.w X.K F' B1 H1 ds J)
    (hz : ds.length ≤ 16777216) (hv : ∀ i ∈ T.slots, i ∈ vs) (p : Post X.prog X.w X.K W F (RpD X.K) B1 H1 σ ((lcL T tt te (wipeE r vs) ds h1).bind fun ys h2 => .ok (.ref h2.length) (h2 ++ [.lst ys])) Q) {D0 : Addr} (hD : H1 D0 = none) :
    ∃ W : Nat → Nat → Hp → Prop, (∃ m, W 0 m (upd H1 D0 (.lst []))) ∧ ∀ i m H, W i m H →
      (J.stop i H ∧ Q (.ref D0) H) ∨ (J.go i H ∧ ∃ Nx : Hp → Prop, (∀ H', Nx H' → ∃ m', m' < m ∧ W (i + 1) m' H') ∧ ∀ x H', J.yld i H x H' → tgT X.K T x (L2.wipe σ vs) H' fun σ2 H2 => L2.wipe σ2 vs = L2.wipe σ vs ∧ tDT X.prog X.w X.K W0 F' tt σ2 H2 fun b H3 =>
        if b = true then tD X.prog X.w X.K W0 F' te σ2 H3 fun y H4 => ∃ acc, H4 D0 = some (.lst acc) ∧ acc.length < sizeLine ∧ Nx (upd H4 D0 (.lst (acc ++ [y]))) else Nx H3) := by
  obtain ⟨G, Y, wk, gG, gY⟩ := gw
  have nB : D0 ∉ B1 := fun z => hH.ne z hD rfl
  refine lc_it (Qd := fun H => Q (.ref D0) H) wk (fun i H => ∃ B h acc us, Step F' B1 H1 B H ∧ RelH X.prog X.w X.K B h H ∧ H D0 = some (.lst us) ∧ Reps X.K B H acc us ∧ acc.length ≤ i ∧ D0 ∉ B ∧
      Post X.prog X.w X.K W F (RpD X.K) B1 H1 σ ((lcL T tt te (wipeE r vs) (ds.drop i) h).bind fun ys h2 => .ok (.ref h2.length) (h2 ++ [.lst (acc ++ ys)])) Q)
    ⟨B1, h1, [], [], step_new hH hD, hH.new hD, upd_same, .nil, Nat.le_refl _, nB, by simpa using p⟩ (fun i H _ ⟨B, h, _, _, s, _⟩ => gG B H s.stay) (fun i x H H' hlt pv y => ?_) (fun H pv => ?_)
  · obtain ⟨B, h, acc, us, s, xr, hDa, ra, la, nD, q⟩ := pv
    obtain ⟨s3, x3, d, ed, rd⟩ := gY i H x H' B h hlt s.stay xr y
    replace s3 : Step F' B H B H' := s3.all
    have ec : ds.drop i = d :: ds.drop (i + 1) := by
      rw [List.drop_eq_getElem_cons hlt, (List.getElem?_eq_some_iff.mp ed).2]
    rw [ec] at q
    unfold lcL at q
    have hDa3 := s3.oth D0 _ nD hDa
    have sA := s.trans s3
    cases et : T.put d (wipeE r vs) with
    | none => rw [et] at q; exact q.elim
    | some r1 =>
      rw [et] at q
      dsimp only at q
      have e0 : RelE X.K B H' (wipeE r vs) (L2.wipe σ vs) := (hE.step sA).wipe vs
      refine tgT_sem T B H' _ r1 _ d x _ e0 rd et fun σ2 e1 we => ⟨?_, B, r1, h, e1, x3, ?_⟩
      · rw [we vs hv]
        have ww : ∀ us : List Nat, (∀ i ∈ us, i ∈ vs) → L2.wipe (L2.wipe σ vs) us = L2.wipe σ vs := by
          intro us
          induction us with
          | nil => exact fun _ => rfl
          | cons u us ih =>
            intro hu
            show (L2.wipe (L2.wipe σ vs) us).set u none = L2.wipe σ vs
            rw [ih fun i hi => hu i (List.mem_cons_of_mem _ hi)]
            have e : (L2.wipe σ vs).set u none = L2.wipe σ vs := by
              refine List.ext_getElem? fun j => ?_
              by_cases hj : j = u
              · subst hj
                by_cases hl : j < (L2.wipe σ vs).length
                · rw [List.getElem?_set_self hl]
                  have hm : j ∈ vs := hu j (by simp)
                  cases ej : (L2.wipe σ vs)[j]? with
                  | none => rw [List.getElem?_eq_none_iff] at ej; omega
                  | some o =>
                    cases o with
                    | none => rfl
                    | some v => exact absurd hm (wipe_some ej).2
                · rw [List.getElem?_eq_none (by simpa using Nat.le_of_not_lt hl), List.getElem?_eq_none (Nat.le_of_not_lt hl)]
              · rw [List.getElem?_set_ne (Ne.symm hj)]
            exact e
        cases vs with
        | nil => rfl
        | cons v vs => exact ww (v :: vs) fun _ h => h
      · cases ett : tt r1 h with
        | bad => rw [ett] at q; exact q.elim
        | exc c h2 => rw [ett] at q; exact q.elim
        | ok b h2 =>
          rw [ett] at q
          intro B3 b' H3 st3 xr3 eb
          cases eb
          have sB := sA.trans st3
          have hDb := st3.oth D0 _ nD hDa3
          have nD3 : D0 ∉ B3 := by
            obtain ⟨t, rfl, ht⟩ := st3.pre
            intro z
            rcases List.mem_append.mp z with z | z
            · exact nD z
            · rw [ht D0 z] at hDa3; cases hDa3
          cases b with
          | false =>
            exact iteF ⟨B3, h2, acc, us, sB, xr3, hDb, (ra.step s3).step st3, Nat.le_succ_of_le la, nD3, q⟩
          | true =>
            dsimp only at q
            refine iteT ⟨B3, r1, h2, e1.step st3, xr3, ?_⟩
            cases ete : te r1 h2 with
            | bad => rw [ete] at q; exact q.elim
            | exc c h4 => rw [ete] at q; exact q.elim
            | ok yd h4 =>
              rw [ete] at q
              dsimp only at q
              intro B4 yv H4 st4 xr4 ry
              have hDc := st4.oth D0 _ nD3 hDb
              have nD4 : D0 ∉ B4 := by
                obtain ⟨t, rfl, ht⟩ := st4.pre
                intro z
                rcases List.mem_append.mp z with z | z
                · exact nD3 z
                · rw [ht D0 z] at hDb; cases hDb
              have ra4 : Reps X.K B4 H4 acc us := ((ra.step s3).step st3).step st4
              obtain ⟨xr5, g5⟩ := xr4.aside (o := .lst (us ++ [yv])) nD4 hDc
              refine ⟨us, hDc, ?_, B4, h4, acc ++ [yd], us ++ [yv], Step.aside hH (sB.trans st4) hD, xr5, upd_same, (ra4.grow g5).append (.one (ry.grow g5)), by simp; omega, nD4, ?_⟩
              · rw [sizeLine_eq, ← ra4.length]
                omega
              · cases el : lcL T tt te (wipeE r vs) (ds.drop (i + 1)) h4 with
                | bad => rw [el] at q; exact q
                | exc c h5 => rw [el] at q; exact q
                | ok ys h5 =>
                  rw [el] at q
                  simpa [Rs.bind] using q
  · obtain ⟨B, h, acc, us, s, xr, hDa, ra, la, nD, q⟩ := pv
    rw [List.drop_length] at q
    have q : Post X.prog X.w X.K W F (RpD X.K) B1 H1 σ (.ok (.ref h.length) (h ++ [.lst (acc ++ [])])) Q := q
    rw [List.append_nil] at q
    have sF : Step F B1 H1 B H := by rw [hF] at s; exact s.unlock
    have g : Grow B H (B ++ [D0]) H := ⟨⟨[D0], rfl⟩, fun _ _ h => h, fun _ _ _ h => h⟩
    refine q (B ++ [D0]) (.ref D0) H ⟨?_, sF.tup, sF.frz, sF.keep, sF.oth, sF.dom⟩ ⟨?_, by simp [xr.len], fun i o a e1 e2 => ?_⟩ (.ref (by simp [xr.len]))
    · obtain ⟨t, rfl, ht⟩ := sF.pre
      exact ⟨t ++ [D0], by simp, fun a ha => by
        rcases List.mem_append.mp ha with ha | ha
        · exact ht a ha
        · simp at ha; subst ha; exact hD⟩
    · rw [List.nodup_append]
      exact ⟨xr.nd, by simp, fun a ha b hb => by simp at hb; subst hb; exact fun z => nD (z ▸ ha)⟩
    · by_cases hi : i < B.length
      · rw [List.getElem?_append_left (by rw [xr.len]; exact hi)] at e1
        rw [List.getElem?_append_left hi] at e2
        exact (xr.ob i o a e1 e2).grow g rfl
      · have e : i = B.length := by
          have := (List.getElem?_eq_some_iff.mp e2).1
          simp at this; omega
        subst e
        rw [List.getElem?_append_right (Nat.le_of_eq xr.len)] at e1
        rw [List.getElem?_append_right (Nat.le_refl _)] at e2
        simp [xr.len] at e1 e2
        subst e1; subst e2
        exact ⟨us, hDa, ra.grow g⟩
theorem lc_pre {it : IM} {wi : TI} {T : Tg} {tt : Fl → TM} {te : Fl → EM} {own : List (Str × Nat)} {σ : L2.St} {H : Hp} {Q : VK} {B : List Addr} {r : Ev} {h : Hh} {ds : List D} {l : Option Nat} {h1 : Hh}
    (ki : ∀ (σ : L2.St) (H : Hp) (R : It → Hp → Prop) (B : List Addr) (r : Ev) (h : Hh), RelE X.K B H r σ → RelH X.prog X.w X.K B h H →
  (match it r h with
    | .ok (ds, l) h1 => ∀ B1 H1 J, Step F B H B1 H1 → RelH X.prog X.w X.K B1 h1 H1 → GW X.prog X.w X.K (F.lock l) B1 H1 ds J → R J H1
    | .exc c h1 => ∀ B1 H1, Step F B H B1 H1 → RelH X.prog X.w X.K B1 h1 H1 → W c σ H1
    | .bad => False) → wi σ H R) (hE : RelE X.K B H r σ) (hH : RelH X.prog X.w X.K B h H) (em : it r h = .ok (ds, l) h1) (hv : ∀ i ∈ T.slots, i ∈ own.map (·.2))
    (p : Post X.prog X.w X.K W F (RpD X.K) B H σ (xLc F (own.map (·.2)) it T tt te r h) Q) :
    tLc wi (tgT X.K T) (tDT X.prog X.w X.K W0 (F.lock l) (tt (F.lock l))) (tD X.prog X.w X.K W0 (F.lock l) (te (F.lock l))) (own.map (·.2)) σ H Q := by
  refine ki σ H _ B r h hE hH ?_
  rw [em]
  intro B1 H1 J s1 r1 gw D0 hD
  unfold xLc at p
  rw [em] at p
  have p1 := Post.later s1 p
  change Post X.prog X.w X.K W F (RpD X.K) B1 H1 σ (if ds.length ≤ 16777216 then (lcL T (tt (F.lock l)) (te (F.lock l)) (wipeE r (own.map (·.2))) ds h1).bind fun ys h2 => .ok (.ref h2.length) (h2 ++ [.lst ys]) else .bad) Q at p1
  by_cases hz : ds.length ≤ 16777216
  · rw [if_pos hz] at p1
    exact lc_sem (F' := F.lock l) rfl (hE.step s1) r1 gw hz hv p1 hD
  · rw [if_neg hz] at p1; exact p1.elim
variable {elt tg iter : Expr} {ifs : List Expr} {scope : Scope} {own : List (Str × Nat)}
theorem de_lc {it : IM} {T : Tg} {tt : Fl → TM} {te : Fl → EM} (hc : X.calm = true) (hN : X.N.Nodup) (hi : DI X W F tg iter it) (ok : BlkOk X.N X.env.scope scope own) (hv : ∀ i ∈ T.slots, i ∈ own.map (·.2))
    (hg : ∀ (s : Shared) (H : Hp) (C : Addr) (cl : List (Str × Addr)) (fp : List Addr), DG (X.blk s H scope (compEnvC scope cl C X.env) fp) tg T)
    (ht : ∀ (s : Shared) (H : Hp) (C : Addr) (cl : List (Str × Addr)) (fp : List Addr) (F' : Fl), DTs (X.blk s H scope (compEnvC scope cl C X.env) fp) W0 F' ifs (tt F'))
    (he : ∀ (s : Shared) (H : Hp) (C : Addr) (cl : List (Str × Addr)) (fp : List Addr) (F' : Fl), DE (X.blk s H scope (compEnvC scope cl C X.env) fp) W0 F' elt (te F')) (hs : ∀ x, foldedSetIterable iter X.env x = pure x := by intro _; rfl) :
    DE X W F (.ListComp elt [⟨tg, iter, ifs, 0⟩] scope pos) (xLc F (own.map (·.2)) it T tt te) := by
  obtain ⟨wi, hi, ki⟩ := hi
  refine ⟨fun pins s σ H Q I q => ?_⟩
  obtain ⟨B, r, h, hE, hH, p⟩ := q
  cases em : it r h with
  | bad => unfold xLc at p; rw [em] at p; exact p.elim
  | exc c h1 =>
    refine (pe_lc (elt := elt) (ifs := ifs) (pos := pos) (g := tgT X.K T) (tt := tDT X.prog X.w X.K W0 F (tt F)) (te := tD X.prog X.w X.K W0 F (te F)) hc hN hi ok hg (fun s H C cl fp => ht s H C cl fp F) (fun s H C cl fp => he s H C cl fp F) hs).run pins s σ H Q I ?_
    refine ki σ H _ B r h hE hH ?_
    unfold xLc at p
    rw [em] at p ⊢
    exact p
  | ok dl h1 =>
    obtain ⟨ds, l⟩ := dl
    exact (pe_lc (elt := elt) (ifs := ifs) (pos := pos) (g := tgT X.K T) (tt := tDT X.prog X.w X.K W0 (F.lock l) (tt (F.lock l))) (te := tD X.prog X.w X.K W0 (F.lock l) (te (F.lock l))) hc hN hi ok hg (fun s H C cl fp => ht s H C cl fp (F.lock l)) (fun s H C cl fp => he s H C cl fp (F.lock l)) hs).run pins s σ H Q I (lc_pre ki hE hH em hv p)
theorem ds_setLc {i : Nat} {y : Str} {py spos : Pos} {it : IM} {T : Tg} {tt : Fl → TM} {te : Fl → EM} (hc : X.calm = true) (hN : X.N.Nodup)
    (hi : DI X W F tg iter it) (ok : BlkOk X.N X.env.scope scope own) (hv : ∀ i ∈ T.slots, i ∈ own.map (·.2))
    (hg : ∀ (s : Shared) (H : Hp) (C : Addr) (cl : List (Str × Addr)) (fp : List Addr), DG (X.blk s H scope (compEnvC scope cl C X.env) fp) tg T)
    (ht : ∀ (s : Shared) (H : Hp) (C : Addr) (cl : List (Str × Addr)) (fp : List Addr) (F' : Fl), DTs (X.blk s H scope (compEnvC scope cl C X.env) fp) W0 F' ifs (tt F'))
    (he : ∀ (s : Shared) (H : Hp) (C : Addr) (cl : List (Str × Addr)) (fp : List Addr) (F' : Fl), DE (X.blk s H scope (compEnvC scope cl C X.env) fp) W0 F' elt (te F')) (hy : X.N[i]? = some y := by rfl) (hyl : X.env.scope.names.lookup y = some .local := by rfl)
    (hsw : swapsWith (.ListComp elt [⟨tg, iter, ifs, 0⟩] scope pos) (some (.Name y py)) spos.line X.env = pure true := by exact sw_true rfl rfl rfl (by decide +kernel)) (hs : ∀ x, foldedSetIterable iter X.env x = pure x := by intro _; rfl) :
    DS X W F (.Assign [.Name y py] (.ListComp elt [⟨tg, iter, ifs, 0⟩] scope pos) spos) (bAsg (xLc F (own.map (·.2)) it T tt te) (.one i)) := by
  obtain ⟨wi, hi, ki⟩ := hi
  refine ⟨fun pins s σ H D I q => ?_⟩
  have q2 := of_sem (Q := fun v H1 => D.nx (σ.set i (some v)) H1) q fun d r h B v H1 hE hH hr p => p.nxt (hE.put hr) hH
  obtain ⟨B, r, h, hE, hH, p⟩ := q2
  cases em : it r h with
  | bad => unfold xLc at p; rw [em] at p; exact p.elim
  | exc c h1 =>
    refine (ps_setLc (g := tgT X.K T) (tt := tDT X.prog X.w X.K W0 F (tt F)) (te := tD X.prog X.w X.K W0 F (te F)) hc hN hy hyl hsw hi ok hg (fun s H C cl fp => ht s H C cl fp F) (fun s H C cl fp => he s H C cl fp F) hs).run pins s σ H D I ?_
    refine ki σ H _ B r h hE hH ?_
    unfold xLc at p
    rw [em] at p ⊢
    exact p
  | ok dl h1 =>
    obtain ⟨ds, l⟩ := dl
    exact (ps_setLc (g := tgT X.K T) (tt := tDT X.prog X.w X.K W0 (F.lock l) (tt (F.lock l))) (te := tD X.prog X.w X.K W0 (F.lock l) (te (F.lock l))) hc hN hy hyl hsw hi ok hg (fun s H C cl fp => ht s H C cl fp (F.lock l)) (fun s H C cl fp => he s H C cl fp (F.lock l)) hs).run pins s σ H D I (lc_pre ki hE hH em hv p)
end
/-! ### .. with two fors: nothing is changed within -/
def lc2L (T : Tg) (tt : TM) (it1 : IM) (T1 : Tg) (vs1 : List Nat) (tt1 : TM) (te : EM) (r0 : Ev) : List D → Hh → Rs (List D)
  | [], h => .ok [] h
  | d :: ds, h => match T.put d r0 with
    | none => .bad
    | some r1 => (match tt r1 h with
      | .ok true h1 => (match it1 r1 h1 with
        | .ok (ds1, _) h2 => (match lcL T1 tt1 te (wipeE r1 vs1) ds1 h2 with
          | .ok ys h3 => (match lc2L T tt it1 T1 vs1 tt1 te r0 ds h3 with
            | .ok zs h4 => .ok (ys ++ zs) h4
            | _ => .bad)
          | _ => .bad)
        | _ => .bad)
      | .ok false h1 => lc2L T tt it1 T1 vs1 tt1 te r0 ds h1
      | _ => .bad)
def fin2 (r : Rs (List D)) (acc : List D) : Rs D := match r with
  | .ok ys h2 => if (acc ++ ys).length ≤ 16777216 then .ok (.ref h2.length) (h2 ++ [.lst (acc ++ ys)]) else .bad
  | _ => .bad
def xLc2 (vs : List Nat) (it : IM) (T : Tg) (tt : TM) (it1 : IM) (T1 : Tg) (vs1 : List Nat) (tt1 : TM) (te : EM) : EM := fun r h => (it r h).bind fun p h1 =>
  fin2 (lc2L T tt it1 T1 vs1 tt1 te (wipeE r vs) p.1 h1) []
section
variable {X : Cx} {W : WD} {F : Fl} {pos : Pos}
theorem wipe_wipe {σ σ2 : L2.St} {T : Tg} {vs : List Nat} (hv : ∀ i ∈ T.slots, i ∈ vs) (we : WipeEq T.slots (L2.wipe σ vs) σ2) : L2.wipe σ2 vs = L2.wipe σ vs := by
  rw [we vs hv]
  have ww : ∀ us : List Nat, (∀ i ∈ us, i ∈ vs) → L2.wipe (L2.wipe σ vs) us = L2.wipe σ vs := by
    intro us
    induction us with
    | nil => exact fun _ => rfl
    | cons u us ih =>
      intro hu
      show (L2.wipe (L2.wipe σ vs) us).set u none = L2.wipe σ vs
      rw [ih fun i hi => hu i (List.mem_cons_of_mem _ hi)]
      refine List.ext_getElem? fun j => ?_
      by_cases hj : j = u
      · subst hj
        by_cases hl : j < (L2.wipe σ vs).length
        · rw [List.getElem?_set_self hl]
          have hm : j ∈ vs := hu j (by simp)
          cases ej : (L2.wipe σ vs)[j]? with
          | none => rw [List.getElem?_eq_none_iff] at ej; omega
          | some o =>
            cases o with
            | none => rfl
            | some v => exact absurd hm (wipe_some ej).2
        · rw [List.getElem?_eq_none (by simpa using Nat.le_of_not_lt hl), List.getElem?_eq_none (Nat.le_of_not_lt hl)]
      · rw [List.getElem?_set_ne (Ne.symm hj)]
  exact ww vs fun _ h => h
theorem notin_step {F : Fl} {B B' : List Addr} {H H' : Hp} {d : Addr} {o : HO} (s : Step F B H B' H') (n : d ∉ B) (e : H d = some o) : d ∉ B' := by
  obtain ⟨t, rfl, ht⟩ := s.pre
  intro z
  rcases List.mem_append.mp z with z | z
  · exact n z
  · rw [ht d z] at e; cases e
/-- what holds while a list is made at D0 -/
def LcAt (P : Program) (w : World) (K : PySem.W.Frag) (B1 : List Addr) (H1 : Hp) (D0 : Addr) (B : List Addr) (h : Hh) (acc : List D) (us : List V) (H : Hp) : Prop :=
  Step Fl.nil B1 H1 B H ∧ RelH P w K B h H ∧ H D0 = some (.lst us) ∧ Reps K B H acc us ∧ D0 ∉ B
theorem LcAt.step {P : Program} {w : World} {K : PySem.W.Frag} {B1 B B' : List Addr} {H1 H H' : Hp} {D0 : Addr} {h h' : Hh} {acc : List D} {us : List V} (x : LcAt P w K B1 H1 D0 B h acc us H) (s : Step Fl.nil B H B' H') (r : RelH P w K B' h' H') : LcAt P w K B1 H1 D0 B' h' acc us H' := by
  obtain ⟨a, b, c, d, e⟩ := x
  exact ⟨a.trans s, r, s.oth D0 _ e c, d.step s, notin_step s e c⟩
theorem LcAt.app {P : Program} {w : World} {K : PySem.W.Frag} {B1 B : List Addr} {H1 H : Hp} {D0 : Addr} {h1 h : Hh} {acc : List D} {us : List V} {d : D} {v : V} (r1 : RelH P w K B1 h1 H1) (hD : H1 D0 = none) (x : LcAt P w K B1 H1 D0 B h acc us H) (r : Rep K B H d v) :
    LcAt P w K B1 H1 D0 B h (acc ++ [d]) (us ++ [v]) (upd H D0 (.lst (us ++ [v]))) := by
  obtain ⟨a, b, c, q, e⟩ := x
  obtain ⟨xr5, g5⟩ := b.aside (o := .lst (us ++ [v])) e c
  exact ⟨Step.aside r1 a hD, xr5, upd_same, (q.grow g5).append (.one (r.grow g5)), e⟩
theorem LcAt.done {P : Program} {w : World} {K : PySem.W.Frag} {F : Fl} {B1 B : List Addr} {H1 H : Hp} {D0 : Addr} {h : Hh} {acc : List D} {us : List V} {σ : L2.St} {Q : VK} (hD : H1 D0 = none) (x : LcAt P w K B1 H1 D0 B h acc us H)
    (q : Post P w K W F (RpD K) B1 H1 σ (.ok (.ref h.length) (h ++ [.lst acc])) Q) : Q (.ref D0) H := by
  obtain ⟨s, xr, hDa, ra, nD⟩ := x
  have sF : Step F B1 H1 B H := s.all
  have g : Grow B H (B ++ [D0]) H := ⟨⟨[D0], rfl⟩, fun _ _ h => h, fun _ _ _ h => h⟩
  refine q (B ++ [D0]) (.ref D0) H ⟨?_, sF.tup, sF.frz, sF.keep, sF.oth, sF.dom⟩ ⟨?_, by simp [xr.len], fun i o a e1 e2 => ?_⟩ (.ref (by simp [xr.len]))
  · obtain ⟨t, rfl, ht⟩ := sF.pre
    exact ⟨t ++ [D0], by simp, fun a ha => by
      rcases List.mem_append.mp ha with ha | ha
      · exact ht a ha
      · simp at ha; subst ha; exact hD⟩
  · rw [List.nodup_append]
    exact ⟨xr.nd, by simp, fun a ha b hb => by simp at hb; subst hb; exact fun z => nD (z ▸ ha)⟩
  · by_cases hi : i < B.length
    · rw [List.getElem?_append_left (by rw [xr.len]; exact hi)] at e1
      rw [List.getElem?_append_left hi] at e2
      exact (xr.ob i o a e1 e2).grow g rfl
    · have e : i = B.length := by
        have := (List.getElem?_eq_some_iff.mp e2).1
        simp at this; omega
      subst e
      rw [List.getElem?_append_right (Nat.le_of_eq xr.len)] at e1
      rw [List.getElem?_append_right (Nat.le_refl _)] at e2
      simp [xr.len] at e1 e2
      subst e1; subst e2
      exact ⟨us, hDa, ra.grow g⟩
theorem LcAt.stay {P : Program} {w : World} {K : PySem.W.Frag} {F : Fl} {B1 B3 B : List Addr} {H1 H3 H : Hp} {D0 : Addr} {h3 : Hh} {acc3 : List D} {us3 : List V} {o : HO} (x3 : LcAt P w K B1 H1 D0 B3 h3 acc3 us3 H3) (s : Stay F B3 H3 B H) : Stay F B3 H3 B (upd H D0 o) := by
  obtain ⟨_, _, c, _, e⟩ := x3
  exact ⟨⟨s.grow.sub, fun a xs q => by rw [upd_ne (ne_of q c fun z => by cases z)]; exact s.grow.tup a xs q, fun a o' u q => by rw [upd_ne (ne_of q c fun z => by cases z)]; exact s.grow.frz a o' u q⟩,
    fun i a q m => by rw [upd_ne (show a ≠ D0 from fun z => e (by rw [← z]; exact List.mem_of_getElem? q))]; exact s.keep i a q m⟩
/-- the inner loop -/
theorem lc_in {T : Tg} {tt : TM} {te : EM} {vs : List Nat} {σ : L2.St} {r : Ev} {B1 B3 : List Addr} {h1 h3 : Hh} {H1 H3 : Hp} {ds : List D} {J : It} {D0 : Addr} {acc : List D} {us : List V} {Nx : Hp → Prop} {l : Option Nat} (hH : RelH X.prog X.w X.K B1 h1 H1) (hD : H1 D0 = none)
    (x3 : LcAt X.prog X.w X.K B1 H1 D0 B3 h3 acc us H3) (hE : RelE X.K B3 H3 r σ) (gw : GW X.prog X.w X.K (Fl.nil.lock l) B3 H3 ds J) (hv : ∀ i ∈ T.slots, i ∈ vs)
    {ys : List D} {h4 : Hh} (el : lcL T tt te (wipeE r vs) ds h3 = .ok ys h4) (hz : (acc ++ ys).length ≤ 16777216) (nx : ∀ B us H, LcAt X.prog X.w X.K B1 H1 D0 B h4 (acc ++ ys) us H → Stay (Fl.nil.lock l) B3 H3 B H → Nx H) :
    ∃ W1 : Nat → Nat → Hp → Prop, (∃ m, W1 0 m H3) ∧ ∀ j k H, W1 j k H →
      (J.stop j H ∧ Nx H) ∨ (J.go j H ∧ ∃ Nx1 : Hp → Prop, (∀ H', Nx1 H' → ∃ k', k' < k ∧ W1 (j + 1) k' H') ∧ ∀ x H', J.yld j H x H' → tgT X.K T x (L2.wipe σ vs) H' fun σ3 H5 => L2.wipe σ3 vs = L2.wipe σ vs ∧ tDT X.prog X.w X.K W0 Fl.nil tt σ3 H5 fun b H6 =>
        if b = true then tD X.prog X.w X.K W0 Fl.nil te σ3 H6 fun y H7 => ∃ acc, H7 D0 = some (.lst acc) ∧ acc.length < sizeLine ∧ Nx1 (upd H7 D0 (.lst (acc ++ [y]))) else Nx1 H6) := by
  obtain ⟨G, Y, wk, gG, gY⟩ := gw
  refine ⟨fun j m H => m = ds.length - j ∧ j ≤ ds.length ∧ ∃ B h acc2 us2, LcAt X.prog X.w X.K B1 H1 D0 B h acc2 us2 H ∧ Stay (Fl.nil.lock l) B3 H3 B H ∧ ∃ zs, lcL T tt te (wipeE r vs) (ds.drop j) h = .ok zs h4 ∧ acc2 ++ zs = acc ++ ys,
    ⟨ds.length, rfl, Nat.zero_le _, B3, h3, acc, us, x3, Step.stay .refl, ys, by simpa using el, rfl⟩, ?_⟩
  rintro j m H ⟨rfl, hj, B, h, acc2, us2, x, st, zs, ez, eA⟩
  by_cases hlt : j < ds.length
  · refine .inr ⟨wk.goes j H hlt (gG B H st), fun H' => ∃ B h acc2 us2, LcAt X.prog X.w X.K B1 H1 D0 B h acc2 us2 H' ∧ Stay (Fl.nil.lock l) B3 H3 B H' ∧ ∃ zs, lcL T tt te (wipeE r vs) (ds.drop (j + 1)) h = .ok zs h4 ∧ acc2 ++ zs = acc ++ ys,
      fun H' z => ⟨ds.length - (j + 1), by omega, rfl, hlt, z⟩, fun xv H' y => ?_⟩
    obtain ⟨s5, x5, d, ed, rd⟩ := gY j H xv H' B h hlt st x.2.1 (wk.yields j H xv H' hlt (gG B H st) y)
    have ec : ds.drop j = d :: ds.drop (j + 1) := by rw [List.drop_eq_getElem_cons hlt, (List.getElem?_eq_some_iff.mp ed).2]
    rw [ec] at ez
    unfold lcL at ez
    have xA := x.step s5 x5
    have stA := st.trans (s5.all (F := Fl.nil.lock l)).stay
    cases et : T.put d (wipeE r vs) with
    | none => rw [et] at ez; cases ez
    | some r1 =>
      rw [et] at ez
      dsimp only at ez
      have hE5 : RelE X.K B H' r σ := ⟨hE.1, fun i d e => let ⟨v, e1, e2⟩ := hE.2 i d e; ⟨v, e1, e2.grow stA.grow⟩⟩
      refine tgT_sem T B H' _ r1 _ d xv _ (hE5.wipe vs) rd et fun σ3 e1 we => ⟨wipe_wipe hv we, B, r1, h, e1, x5, ?_⟩
      cases ett : tt r1 h with
      | bad => rw [ett] at ez; cases ez
      | exc c h2 => rw [ett] at ez; cases ez
      | ok b h2 =>
        rw [ett] at ez
        intro B6 b' H6 s6 x6 eb
        cases eb
        have xB := xA.step s6 x6
        have stB := stA.trans (s6.all (F := Fl.nil.lock l)).stay
        cases b with
        | false => exact iteF ⟨B6, h2, acc2, us2, xB, stB, zs, ez, eA⟩
        | true =>
          dsimp only at ez
          refine iteT ⟨B6, r1, h2, e1.step s6, x6, ?_⟩
          cases ete : te r1 h2 with
          | bad => rw [ete] at ez; cases ez
          | exc c h4 => rw [ete] at ez; cases ez
          | ok yd h7 =>
            rw [ete] at ez
            dsimp only at ez
            obtain ⟨zs2, h8, e8, e9⟩ := Rs.bind_ok ez
            cases e9
            intro B7 yv H7 s7 x7 ry
            have xC := xB.step s7 x7
            have stC := stB.trans (s7.all (F := Fl.nil.lock l)).stay
            refine ⟨us2, xC.2.2.1, ?_, B7, h7, acc2 ++ [yd], us2 ++ [yv], xC.app hH hD ry, x3.stay stC, zs2, e8, by rw [← eA]; simp⟩
            rw [sizeLine_eq, ← xC.2.2.2.1.length]
            have := congrArg List.length eA
            simp at this hz
            omega
  · have e : j = ds.length := by omega
    subst e
    rw [List.drop_length] at ez
    cases ez
    rw [List.append_nil] at eA
    subst eA
    exact .inl ⟨wk.stops H (gG B H st), nx B us2 H x st⟩
theorem lc2_pre {it : IM} {wi : TI} {T T1 : Tg} {tt tt1 : TM} {it1 : IM} {wi1 : TI} {te : EM} {own : List (Str × Nat)} {vs1 : List Nat} {σ : L2.St} {H : Hp} {Q : VK} {B : List Addr} {r : Ev} {h : Hh}
    (ki : ∀ (σ : L2.St) (H : Hp) (R : It → Hp → Prop) (B : List Addr) (r : Ev) (h : Hh), RelE X.K B H r σ → RelH X.prog X.w X.K B h H →
  (match it r h with
    | .ok (ds, l) h1 => ∀ B1 H1 J, Step F B H B1 H1 → RelH X.prog X.w X.K B1 h1 H1 → GW X.prog X.w X.K (F.lock l) B1 H1 ds J → R J H1
    | .exc c h1 => ∀ B1 H1, Step F B H B1 H1 → RelH X.prog X.w X.K B1 h1 H1 → W c σ H1
    | .bad => False) → wi σ H R)
    (ki1 : ∀ (σ : L2.St) (H : Hp) (R : It → Hp → Prop) (B : List Addr) (r : Ev) (h : Hh), RelE X.K B H r σ → RelH X.prog X.w X.K B h H →
  (match it1 r h with
    | .ok (ds, l) h1 => ∀ B1 H1 J, Step Fl.nil B H B1 H1 → RelH X.prog X.w X.K B1 h1 H1 → GW X.prog X.w X.K (Fl.nil.lock l) B1 H1 ds J → R J H1
    | .exc c h1 => ∀ B1 H1, Step Fl.nil B H B1 H1 → RelH X.prog X.w X.K B1 h1 H1 → W0 c σ H1
    | .bad => False) → wi1 σ H R)
    (hE : RelE X.K B H r σ) (hH : RelH X.prog X.w X.K B h H) (hv : ∀ i ∈ T.slots, i ∈ own.map (·.2)) (hv1 : ∀ i ∈ T1.slots, i ∈ vs1)
    (p : Post X.prog X.w X.K W F (RpD X.K) B H σ (xLc2 (own.map (·.2)) it T tt it1 T1 vs1 tt1 te r h) Q) :
    tLc2 wi (tgT X.K T) (tDT X.prog X.w X.K W0 Fl.nil tt) wi1 (tgT X.K T1) (tDT X.prog X.w X.K W0 Fl.nil tt1) (tD X.prog X.w X.K W0 Fl.nil te) (own.map (·.2)) vs1 σ H Q := by
  refine ki σ H _ B r h hE hH ?_
  unfold xLc2 at p
  cases em : it r h with
  | bad => rw [em] at p; exact p
  | exc c h1 => rw [em] at p; exact p
  | ok dl h1 =>
    obtain ⟨ds, l⟩ := dl
    rw [em] at p
    intro B1 H1 J s1 r1 gw D0 hD
    have p1 : Post X.prog X.w X.K W F (RpD X.K) B1 H1 σ (fin2 (lc2L T tt it1 T1 vs1 tt1 te (wipeE r (own.map (·.2))) ds h1) []) Q := Post.later s1 p
    have hE1 := hE.step s1
    obtain ⟨G, Y, wk, gG, gY⟩ := gw
    have nB : D0 ∉ B1 := fun z => r1.ne z hD rfl
    have st0 : Step Fl.nil B1 H1 B1 (upd H1 D0 (.lst [])) := step_new r1 hD
    have x0 : LcAt X.prog X.w X.K B1 H1 D0 B1 h1 [] [] (upd H1 D0 (.lst [])) := ⟨st0, r1.new hD, upd_same, .nil, nB⟩
    refine ⟨fun i m H2 => m = ds.length - i ∧ i ≤ ds.length ∧ ∃ B h acc us, LcAt X.prog X.w X.K B1 H1 D0 B h acc us H2 ∧ Stay (F.lock l) B1 H1 B H2 ∧
        Post X.prog X.w X.K W F (RpD X.K) B1 H1 σ (fin2 (lc2L T tt it1 T1 vs1 tt1 te (wipeE r (own.map (·.2))) (ds.drop i) h) acc) Q,
      ⟨ds.length, rfl, Nat.zero_le _, B1, h1, [], [], x0, (st0.all (F := F.lock l)).stay, by simpa using p1⟩, ?_⟩
    rintro i m H2 ⟨rfl, hi, B2, h2, acc, us, x, st, q⟩
    by_cases hlt : i < ds.length
    · refine .inr ⟨wk.goes i H2 hlt (gG B2 H2 st), fun H' => ∃ B h acc us, LcAt X.prog X.w X.K B1 H1 D0 B h acc us H' ∧ Stay (F.lock l) B1 H1 B H' ∧
          Post X.prog X.w X.K W F (RpD X.K) B1 H1 σ (fin2 (lc2L T tt it1 T1 vs1 tt1 te (wipeE r (own.map (·.2))) (ds.drop (i + 1)) h) acc) Q,
        fun H' z => ⟨ds.length - (i + 1), by omega, rfl, hlt, z⟩, fun xv H' y => ?_⟩
      obtain ⟨s5, x5, d, ed, rd⟩ := gY i H2 xv H' B2 h2 hlt st x.2.1 (wk.yields i H2 xv H' hlt (gG B2 H2 st) y)
      have ec : ds.drop i = d :: ds.drop (i + 1) := by rw [List.drop_eq_getElem_cons hlt, (List.getElem?_eq_some_iff.mp ed).2]
      rw [ec] at q
      unfold lc2L at q
      have xA := x.step s5 x5
      have stA := st.trans (s5.all (F := F.lock l)).stay
      cases et : T.put d (wipeE r (own.map (·.2))) with
      | none => rw [et] at q; exact q.elim
      | some r1' =>
        rw [et] at q
        dsimp only at q
        have hE5 : RelE X.K B2 H' r σ := ⟨hE1.1, fun i d e => let ⟨v, e1, e2⟩ := hE1.2 i d e; ⟨v, e1, e2.grow stA.grow⟩⟩
        refine tgT_sem T B2 H' _ r1' _ d xv _ (hE5.wipe _) rd et fun σ3 e1 we => ⟨wipe_wipe hv we, B2, r1', h2, e1, x5, ?_⟩
        cases ett : tt r1' h2 with
        | bad => rw [ett] at q; exact q.elim
        | exc c h3 => rw [ett] at q; exact q.elim
        | ok b h3 =>
          rw [ett] at q
          intro B6 b' H6 s6 x6 eb
          cases eb
          have xB := xA.step s6 x6
          have stB := stA.trans (s6.all (F := F.lock l)).stay
          cases b with
          | false => exact iteF ⟨B6, h3, acc, us, xB, stB, q⟩
          | true =>
            dsimp only at q
            refine iteT (ki1 σ3 H6 _ B6 r1' h3 (e1.step s6) x6 ?_)
            cases ei : it1 r1' h3 with
            | bad => rw [ei] at q; exact q.elim
            | exc c h4 => rw [ei] at q; exact q.elim
            | ok dl1 h4 =>
              obtain ⟨ds1, l1⟩ := dl1
              rw [ei] at q
              dsimp only at q
              intro B7 H7 J1 s7 x7 gw1
              have xC := xB.step s7 x7
              have stC := stB.trans (s7.all (F := F.lock l)).stay
              cases el : lcL T1 tt1 te (wipeE r1' vs1) ds1 h4 with
              | bad => rw [el] at q; exact q.elim
              | exc c h5 => rw [el] at q; exact q.elim
              | ok ys h5 =>
                rw [el] at q
                dsimp only at q
                cases el2 : lc2L T tt it1 T1 vs1 tt1 te (wipeE r (own.map (·.2))) (ds.drop (i + 1)) h5 with
                | bad => rw [el2] at q; exact q.elim
                | exc c h6 => rw [el2] at q; exact q.elim
                | ok zs h6 =>
                  rw [el2] at q
                  unfold fin2 at q
                  dsimp only at q
                  by_cases hz : (acc ++ (ys ++ zs)).length ≤ 16777216
                  · refine lc_in r1 hD xC ((e1.step s6).step s7) gw1 hv1 el (by simp at hz ⊢; omega) fun B9 us9 H9 x9 st9 => ?_
                    refine ⟨B9, h5, acc ++ ys, us9, x9, stC.trans ⟨st9.grow, fun i a e m => st9.keep i a e (Fl.lock_may rfl)⟩, ?_⟩
                    rw [el2]
                    unfold fin2
                    dsimp only
                    rw [if_pos hz] at q
                    rw [List.append_assoc, if_pos hz]
                    exact q
                  · rw [if_neg hz] at q; exact q.elim
    · have e : i = ds.length := by omega
      subst e
      rw [List.drop_length] at q
      unfold lc2L fin2 at q
      dsimp only at q
      rw [List.append_nil] at q
      by_cases hz : acc.length ≤ 16777216
      · rw [if_pos hz] at q
        exact .inl ⟨wk.stops H2 (gG B2 H2 st), x.done hD q⟩
      · rw [if_neg hz] at q; exact q.elim
variable {elt tg iter tg1 iter1 : Expr} {ifs ifs1 : List Expr} {scope : Scope} {own : List (Str × Nat)} {vs1 : List Nat}
theorem de_lc2 {it it1 : IM} {T T1 : Tg} {tt tt1 : TM} {te : EM} (hc : X.calm = true) (hN : X.N.Nodup) (hi : DI X W F tg iter it) (ok : BlkOk X.N X.env.scope scope own) (hvv : ∀ i ∈ vs1, i ∈ own.map (·.2)) (hv : ∀ i ∈ T.slots, i ∈ own.map (·.2)) (hv1 : ∀ i ∈ T1.slots, i ∈ vs1)
    (hg : ∀ (s : Shared) (H : Hp) (C : Addr) (cl : List (Str × Addr)) (fp : List Addr), DG (X.blk s H scope (compEnvC scope cl C X.env) fp) tg T)
    (ht : ∀ (s : Shared) (H : Hp) (C : Addr) (cl : List (Str × Addr)) (fp : List Addr) (F' : Fl), DTs (X.blk s H scope (compEnvC scope cl C X.env) fp) W0 F' ifs tt)
    (hi1 : ∃ wi1 : TI, (∀ (s : Shared) (H : Hp) (C : Addr) (cl : List (Str × Addr)) (fp : List Addr), PI (X.blk s H scope (compEnvC scope cl C X.env) fp) tg1 iter1 wi1) ∧ (∀ (σ : L2.St) (H : Hp) (R : It → Hp → Prop) (B : List Addr) (r : Ev) (h : Hh), RelE X.K B H r σ → RelH X.prog X.w X.K B h H →
  (match it1 r h with
    | .ok (ds, l) h1 => ∀ B1 H1 J, Step Fl.nil B H B1 H1 → RelH X.prog X.w X.K B1 h1 H1 → GW X.prog X.w X.K (Fl.nil.lock l) B1 H1 ds J → R J H1
    | .exc c h1 => ∀ B1 H1, Step Fl.nil B H B1 H1 → RelH X.prog X.w X.K B1 h1 H1 → W0 c σ H1
    | .bad => False) → wi1 σ H R))
    (hg1 : ∀ (s : Shared) (H : Hp) (C : Addr) (cl : List (Str × Addr)) (fp : List Addr), DG (X.blk s H scope (compEnvC scope cl C X.env) fp) tg1 T1)
    (ht1 : ∀ (s : Shared) (H : Hp) (C : Addr) (cl : List (Str × Addr)) (fp : List Addr) (F' : Fl), DTs (X.blk s H scope (compEnvC scope cl C X.env) fp) W0 F' ifs1 tt1)
    (he : ∀ (s : Shared) (H : Hp) (C : Addr) (cl : List (Str × Addr)) (fp : List Addr) (F' : Fl), DE (X.blk s H scope (compEnvC scope cl C X.env) fp) W0 F' elt te) (hs : ∀ x, foldedSetIterable iter X.env x = pure x := by intro _; rfl) (hs1 : ∀ env x, foldedSetIterable iter1 env x = pure x := by intro _ _; rfl) :
    DE X W F (.ListComp elt [⟨tg, iter, ifs, 0⟩, ⟨tg1, iter1, ifs1, 0⟩] scope pos) (xLc2 (own.map (·.2)) it T tt it1 T1 vs1 tt1 te) := by
  obtain ⟨wi, hi, ki⟩ := hi
  obtain ⟨wi1, hi1, ki1⟩ := hi1
  refine ⟨fun pins s σ H Q I q => ?_⟩
  obtain ⟨B, r, h, hE, hH, p⟩ := q
  exact (pe_lc2 (elt := elt) (ifs := ifs) (ifs1 := ifs1) (pos := pos) (g := tgT X.K T) (g1 := tgT X.K T1) (tt := tDT X.prog X.w X.K W0 Fl.nil tt) (tt1 := tDT X.prog X.w X.K W0 Fl.nil tt1) (te := tD X.prog X.w X.K W0 Fl.nil te) hc hN hi ok hvv hg
    (fun s H C cl fp => ht s H C cl fp Fl.nil) hi1 hg1 (fun s H C cl fp => ht1 s H C cl fp Fl.nil) (fun s H C cl fp => he s H C cl fp Fl.nil) hs hs1).run pins s σ H Q I (lc2_pre ki ki1 hE hH hv hv1 p)
/-- the inner iterable of a comprehension -/
theorem di_in {m : EM} (he : ∀ (s : Shared) (H : Hp) (C : Addr) (cl : List (Str × Addr)) (fp : List Addr) (F' : Fl), DE (X.blk s H scope (compEnvC scope cl C X.env) fp) W0 F' iter1 m) : ∃ wi1 : TI, (∀ (s : Shared) (H : Hp) (C : Addr) (cl : List (Str × Addr)) (fp : List Addr), PI (X.blk s H scope (compEnvC scope cl C X.env) fp) tg1 iter1 wi1) ∧ (∀ (σ : L2.St) (H : Hp) (R : It → Hp → Prop) (B : List Addr) (r : Ev) (h : Hh), RelE X.K B H r σ → RelH X.prog X.w X.K B h H →
  (match xIter m r h with
    | .ok (ds, l) h1 => ∀ B1 H1 J, Step Fl.nil B H B1 H1 → RelH X.prog X.w X.K B1 h1 H1 → GW X.prog X.w X.K (Fl.nil.lock l) B1 H1 ds J → R J H1
    | .exc c h1 => ∀ B1 H1, Step Fl.nil B H B1 H1 → RelH X.prog X.w X.K B1 h1 H1 → W0 c σ H1
    | .bad => False) → wi1 σ H R) :=
  ⟨_, fun s H C cl fp => pi_any (he s H C cl fp Fl.nil), any_sem⟩
end
end Dc
end
section
set_option Elab.async false
set_option linter.all false
set_option maxRecDepth 100000
set_option maxHeartbeats 4000000
namespace Dc
open PySem PySem.Spec PyProof.Rows L2
/-! ### calls of defs -/
mutual
def refless : D → Bool
  | .ref _ => false
  | .tup xs => reflesss xs
  | .fro xs => reflesss xs
  | _ => true
def reflesss : List D → Bool
  | [] => true
  | x :: xs => refless x && reflesss xs
end
mutual
theorem Rep.anyB {K : PySem.W.Frag} {B B' : List Addr} {H : Hp} : ∀ {d : D} {v : V}, refless d = true → Rep K B H d v → Rep K B' H d v
  | _, _, _, .non => .non
  | _, _, _, .bl b => .bl b
  | _, _, _, .int i => .int i
  | _, _, _, .str h => .str h
  | _, _, e, .tup h1 h2 => .tup h1 (Reps.anyB (by unfold refless at e; exact e) h2)
  | _, _, e, .fro h1 h2 => .fro h1 (Reps.anyB (by unfold refless at e; exact e) h2)
  | _, _, e, .ref h => by cases e
theorem Reps.anyB {K : PySem.W.Frag} {B B' : List Addr} {H : Hp} : ∀ {ds : List D} {vs : List V}, reflesss ds = true → Reps K B H ds vs → Reps K B' H ds vs
  | _, _, _, .nil => .nil
  | _, _, e, .cons h1 h2 => by
    unfold reflesss at e
    rw [Bool.and_eq_true] at e
    exact .cons (Rep.anyB e.1 h1) (Reps.anyB e.2 h2)
end
def obRefless : Ob → Bool
  | .lst xs => reflesss xs
  | .dct kvs => reflesss (kvs.map (·.1)) && reflesss (kvs.map (·.2))
theorem reflesss_mem {xs : List D} (h : reflesss xs = true) : ∀ x ∈ xs, refless x = true := by
  induction xs with
  | nil => intro x hx; cases hx
  | cons y ys ih =>
    unfold reflesss at h
    rw [Bool.and_eq_true] at h
    intro x hx
    rcases List.mem_cons.mp hx with e | hx
    · rw [e]; exact h.1
    · exact ih h.2 x hx
theorem ObRep.anyB {P : Program} {w : World} {K : PySem.W.Frag} {B B' : List Addr} {H : Hp} {a : Addr} {o : Ob} (e : obRefless o = true) (h : ObRep P w K B H a o) : ObRep P w K B' H a o := by
  cases o with
  | lst xs => obtain ⟨vs, h1, h2⟩ := h; exact ⟨vs, h1, h2.anyB e⟩
  | dct kvs =>
    unfold obRefless at e
    rw [Bool.and_eq_true] at e
    obtain ⟨hs, hl, hn, o, es, ep, xs, h1, h2, h3, h4, h5⟩ := h
    refine ⟨hs, hl, hn, o, es, ep, xs, h1, h2, h3, ?_, h5⟩
    have gen : ∀ {kvs : List (D × D)} {xs : List (NestedKey × Addr × Value)}, Paired (EntOk w K B H) kvs xs → reflesss (kvs.map (·.1)) = true → reflesss (kvs.map (·.2)) = true → Paired (EntOk w K B' H) kvs xs := by
      intro kvs xs p
      induction p with
      | nil => exact fun _ _ => .nil
      | @cons kv x _ _ r _ ih =>
        intro e1 e2
        have e1 : (refless kv.1 && reflesss _) = true := e1
        have e2 : (refless kv.2 && reflesss _) = true := e2
        rw [Bool.and_eq_true] at e1 e2
        obtain ⟨z1, z2, z3, v, z4, z5⟩ := r
        exact .cons ⟨z1, z2, z3.anyB e1.1, v, z4, z5.anyB e2.1⟩ (ih e1.2 e2.2)
    exact gen h4 e.1 e.2
/-- what a call gives back, over the heap h that it leaves -/
def pack (h : Hh) (d : D) (h' : Hh) : Rs D :=
  if refless d = true then .ok d h else match d with
    | .ref j => if h.length ≤ j then (match h'[j]? with
      | some o => if obRefless o = true then .ok (.ref h.length) (h ++ [o]) else .ok d h'
      | none => .bad) else .ok d h'
    | _ => .ok d h'
def finP (h : Hh) (o : Out) : Rs D := match o with
  | .rt d h' => pack h d h'
  | .nx _ _ => .ok .non h
  | _ => .bad
/-- .. of a def that may raise -/
def finX (h : Hh) (o : Out) : Rs D := match o with
  | .rt d h' => pack h d h'
  | .nx _ _ => .ok .non h
  | .ex c _ _ => .exc c h
  | _ => .bad
abbrev flP (h : Hh) : Fl := ⟨fun i => decide (h.length ≤ i)⟩
def startE (n : Nat) (ds : List D) : Ev := ds.map some ++ List.replicate (n - ds.length) none
/-- a def that changes nothing that was there -/
def runP (n : Nat) (mb : Fl → SM) : Fn := fun ds h => finP h (mb (flP h) (startE n ds) h)
def runX (n : Nat) (mb : Fl → SM) : Fn := fun ds h => finX h (mb (flP h) (startE n ds) h)
theorem relE_start {K : PySem.W.Frag} {B : List Addr} {H : Hp} {N : List Str} {ds : List D} {vs : List V} (r : Reps K B H ds vs) : RelE K B H (startE N.length ds) (L2.start N vs) := by
  have hl := r.length
  refine ⟨by unfold startE L2.start; simp [hl], fun i d e => ?_⟩
  unfold startE at e
  unfold L2.start
  by_cases hi : i < ds.length
  · rw [List.getElem?_append_left (by simpa using hi), List.getElem?_map] at e
    obtain ⟨d', e1, e2⟩ := Option.map_eq_some_iff.mp e
    cases e2
    obtain ⟨v, e3, e4⟩ := r.get e1
    exact ⟨v, by rw [List.getElem?_append_left (by simpa [← hl] using hi), List.getElem?_map, e3]; rfl, e4⟩
  · rw [List.getElem?_append_right (by simpa using Nat.le_of_not_lt hi)] at e
    have := List.mem_of_getElem? e
    rw [List.mem_replicate] at this
    exact nomatch this.2
/-- a def's promise: m is what it does -/
def FnSpec (P : Program) (w : World) (K : PySem.W.Frag) (n : Nat) (fl : List D → Hh → Fl) (m : Fn) (Ex : Nat → Value) : Sp := fun vs H Q E => ∃ B ds h, Reps K B H ds vs ∧ RelH P w K B h H ∧ ds.length = n ∧ (match m ds h with
  | .ok d h' => ∀ B' v H', Step (fl ds h) B H B' H' → RelH P w K B' h' H' → Rep K B' H' d v → Q v H'
  | .exc c h' => ∀ B' H', Step (fl ds h) B H B' H' → RelH P w K B' h' H' → E (Ex c) none H'
  | .bad => False)
abbrev FnP (P : Program) (w : World) (K : PySem.W.Frag) (n : Nat) (m : Fn) (Ex : Nat → Value) : Sp := FnSpec P w K n (fun _ h => flP h) m Ex
theorem FnSpec.len {P : Program} {w : World} {K : PySem.W.Frag} {n : Nat} {fl : List D → Hh → Fl} {m : Fn} {Ex : Nat → Value} {vs : List V} {H : Hp} {Q : VK} {E : XK} (h : FnSpec P w K n fl m Ex vs H Q E) : vs.length = n := by
  obtain ⟨B, ds, h, hr, _, hl, _⟩ := h
  rw [← hr.length]; exact hl
section
variable {P : Program} {w : World} {K : PySem.W.Frag} {B B' : List Addr} {H H' : Hp} {h h' : Hh} {d : D} {v : V}
/-- all objects of before stand as they stood -/
theorem RelH.back (x : RelH P w K B h H) (s : Step (flP h) B H B' H') : RelH P w K B h H' ∧ Step (flP h) B H B H' := by
  have k : ∀ a ∈ B, H' a = H a := fun a ha => by
    obtain ⟨i, hi, e⟩ := List.getElem_of_mem ha
    refine s.keep i a (by rw [List.getElem?_eq_some_iff]; exact ⟨hi, e⟩) ?_
    have : ¬ h.length ≤ i := by rw [x.len]; omega
    exact decide_eq_false this
  have s2 : Step (flP h) B H B H' := ⟨⟨[], by simp, by simp⟩, s.tup, s.frz, s.keep, s.oth, s.dom⟩
  exact ⟨x.move s2 k, s2⟩
theorem pack_sem {Q : VK} (x : RelH P w K B h H) (s : Step (flP h) B H B' H') (x' : RelH P w K B' h' H') (r : Rep K B' H' d v)
    (p : match pack h d h' with
      | .ok d h' => ∀ B' v H', Step (flP h) B H B' H' → RelH P w K B' h' H' → Rep K B' H' d v → Q v H'
      | .exc _ _ => True
      | .bad => False) : Q v H' := by
  obtain ⟨xb, sb⟩ := x.back s
  unfold pack at p
  by_cases e : refless d = true
  · rw [if_pos e] at p
    exact p B v H' sb xb (r.anyB e)
  · rw [if_neg e] at p
    cases r with
    | @ref j a hb =>
      dsimp only at p
      by_cases hj : h.length ≤ j
      · rw [if_pos hj] at p
        obtain ⟨o, ho, hr⟩ := x'.get hb
        rw [ho] at p
        dsimp only at p
        by_cases eo : obRefless o = true
        · rw [if_pos eo] at p
          obtain ⟨t, et, ht⟩ := s.pre
          have hat : a ∈ t := by
            rw [et, List.getElem?_append_right (by rw [← x.len]; exact hj)] at hb
            exact List.mem_of_getElem? hb
          have haB : a ∉ B := fun z => by
            have nd := x'.nd
            rw [et, List.nodup_append] at nd
            exact nd.2.2 a z a hat rfl
          refine p (B ++ [a]) (.ref a) H' ⟨⟨[a], rfl, by simpa using ht a hat⟩, s.tup, s.frz, s.keep, s.oth, s.dom⟩ ⟨?_, by simp [x.len], fun i u b e1 e2 => ?_⟩ (.ref (by simp [x.len]))
          · rw [List.nodup_append]
            exact ⟨x.nd, by simp, fun b hm c hc => by simp at hc; subst hc; exact fun z => haB (z ▸ hm)⟩
          · have g : Grow B H' (B ++ [a]) H' := ⟨⟨[a], rfl⟩, fun _ _ h => h, fun _ _ _ h => h⟩
            by_cases hi : i < B.length
            · rw [List.getElem?_append_left (by rw [x.len]; exact hi)] at e1
              rw [List.getElem?_append_left hi] at e2
              exact (xb.ob i u b e1 e2).grow g rfl
            · have e : i = B.length := by
                have := (List.getElem?_eq_some_iff.mp e2).1
                simp at this; omega
              subst e
              rw [List.getElem?_append_right (Nat.le_of_eq x.len)] at e1
              rw [List.getElem?_append_right (Nat.le_refl _)] at e2
              simp [x.len] at e1 e2
              subst e1; subst e2
              exact hr.anyB eo
        · rw [if_neg eo] at p
          exact p B' _ H' s x' (.ref hb)
      · rw [if_neg hj] at p
        exact p B' _ H' s x' (.ref hb)
    | tup h1 h2 => exact p B' _ H' s x' (.tup h1 h2)
    | fro h1 h2 => exact p B' _ H' s x' (.fro h1 h2)
    | non => exact absurd rfl e
    | bl b => exact absurd rfl e
    | int i => exact absurd rfl e
    | str cs => exact absurd rfl e
end
section
variable {P : Program} {w : World} {K : PySem.W.Frag} {mg : Str → Option Value} {base : Heap} {x qual : Str} {params : Arguments} {body : List Stmt} {scope : Scope} {f : Addr} {fd : FuncData}
/-- THE RULE: a def that raises nothing and changes nothing that was there -/
theorem fun_pure {N ps : List Str} {k : Nat} {mb : Fl → SM} {Ex : Nat → Value} (Fd : FunD K x qual params body scope [] [] f fd) (S : FnScope N ps scope)
    (hb : ∀ (cdv : Value) (A : Around) (outer : List Env) (s : Shared) (H : Hp) (E : XK), Room k (A.deeper (envOfC qual scope s.heap.objs.size f cdv)) → ∀ F, DSs (cxOf CX0 P w K mg base N qual scope f cdv A outer s H E).nox W0 F body (mb F)) :
    FnOk P w K mg base CX0 (k + 1) f fd ps (FnP P w K ps.length (runP N.length mb) Ex) := by
  refine Fd.ok S (fun vs H Q E h => h.len) fun cdv A outer s H vs Q E hr hsp => ?_
  obtain ⟨B, ds, h, rs, xh, hl, p⟩ := hsp
  refine ⟨_, PSs.nox (hb cdv A outer s H E hr (flP h)), B, startE N.length ds, h, relE_start rs, xh, ?_⟩
  unfold runP finP at p
  show PostS P w K W0 (flP h) B H (mb (flP h) (startE N.length ds) h) _
  cases em : mb (flP h) (startE N.length ds) h with
  | nx r1 h1 =>
    rw [em] at p
    exact fun B' σ' H' s' e' x' => let ⟨xb, sb⟩ := xh.back s'; p B .non H' sb xb .non
  | rt d h1 =>
    rw [em] at p
    exact fun B' v H' s' x' r' => pack_sem (Q := Q) xh s' x' r' (by
      change (match pack h d h1 with
        | .ok d h' => ∀ B' v H', Step (flP h) B H B' H' → RelH P w K B' h' H' → Rep K B' H' d v → Q v H'
        | .exc c h' => ∀ B' H', Step (flP h) B H B' H' → RelH P w K B' h' H' → E (Ex c) none H'
        | .bad => False) at p
      cases ep : pack h d h1 with
      | ok d2 h2 => rw [ep] at p; exact p
      | exc c h2 => trivial
      | bad => rw [ep] at p; exact p)
  | bk r1 h1 => rw [em] at p; exact p.elim
  | ct r1 h1 => rw [em] at p; exact p.elim
  | ex c r1 h1 => rw [em] at p; exact p.elim
  | bad => rw [em] at p; exact p.elim
/-- .. that may raise -/
theorem fun_raise {N ps : List Str} {k : Nat} {mb : Fl → SM} {Ex : Nat → Value} (Fd : FunD K x qual params body scope [] [] f fd) (S : FnScope N ps scope)
    (hb : ∀ (cdv : Value) (A : Around) (outer : List Env) (s : Shared) (H : Hp) (E : XK), Room k (A.deeper (envOfC qual scope s.heap.objs.size f cdv)) → ∀ F, DSs (cxOf (L2.CX P w) P w K mg base N qual scope f cdv A outer s H E) (fun c _ H => E (Ex c) none H) F body (mb F)) :
    FnOk P w K mg base (L2.CX P w) (k + 1) f fd ps (FnP P w K ps.length (runX N.length mb) Ex) := by
  refine Fd.ok S (fun vs H Q E h => h.len) fun cdv A outer s H vs Q E hr hsp => ?_
  obtain ⟨B, ds, h, rs, xh, hl, p⟩ := hsp
  refine ⟨_, hb cdv A outer s H E hr (flP h), B, startE N.length ds, h, relE_start rs, xh, ?_⟩
  unfold runX finX at p
  show PostS P w K _ (flP h) B H (mb (flP h) (startE N.length ds) h) _
  cases em : mb (flP h) (startE N.length ds) h with
  | nx r1 h1 =>
    rw [em] at p
    exact fun B' σ' H' s' e' x' => let ⟨xb, sb⟩ := xh.back s'; p B .non H' sb xb .non
  | rt d h1 =>
    rw [em] at p
    exact fun B' v H' s' x' r' => pack_sem (Q := Q) xh s' x' r' (by
      change (match pack h d h1 with
        | .ok d h' => ∀ B' v H', Step (flP h) B H B' H' → RelH P w K B' h' H' → Rep K B' H' d v → Q v H'
        | .exc c h' => ∀ B' H', Step (flP h) B H B' H' → RelH P w K B' h' H' → E (Ex c) none H'
        | .bad => False) at p
      cases ep : pack h d h1 with
      | ok d2 h2 => rw [ep] at p; exact p
      | exc c h2 => trivial
      | bad => rw [ep] at p; exact p)
  | bk r1 h1 => rw [em] at p; exact p.elim
  | ct r1 h1 => rw [em] at p; exact p.elim
  | ex c r1 h1 =>
    rw [em] at p
    exact fun B' σ' H' s' e' x' => let ⟨xb, sb⟩ := xh.back s'; p B H' sb xb
  | bad => rw [em] at p; exact p.elim
end
/-! ### a call -/
def xCall (m : Fn) (a : AM) : EM := fun r h => (a r h).bind fun ds h1 => match m ds h1 with
  | .ok d h2 => .ok d h2
  | _ => .bad
def xCallX (m : Fn) (a : AM) : EM := fun r h => (a r h).bind fun ds h1 => m ds h1
section
variable {X : Cx} {W : WD} {F : Fl} {pos p : Pos} {e : Expr} {es : List Expr} {x : Str} {f : Addr} {fd : FuncData} {ps : List Str} {k : Nat} {m : Fn} {Ex : Nat → Value} {ma : AM}
theorem flP_of {F : Fl} {B B' : List Addr} {H H' : Hp} {h : Hh} {P : Program} {w : World} {K : PySem.W.Frag} (x : RelH P w K B h H) (s : Step (flP h) B H B' H') : Step F B H B' H' :=
  s.of fun i hi _ => decide_eq_false (by rw [x.len]; omega)
theorem de_call (G : FnOk X.prog X.w X.K X.mg X.base CX0 k f fd ps (FnP X.prog X.w X.K ps.length m Ex)) (hr : Room k X.A) (hm : X.mg x = some (.ref f)) (hk : PySem.W.keepIn X.K (.ref f) = true) (hb : Binds X.K fd ps []) (ha : DA X W F (e :: es) ma) (hg : Gl X x := by rfl) (hl : (e :: es).length = ps.length := by rfl)
    (hdb : (x == ("__debug__" : Str)) = false := by decide) (he : starEach (e :: es) X.env = (false, eval e X.env) :: starEach es X.env := by rfl) (hpl : (backTo pos (starEach es X.env)).any (·.1) = false := by rfl) :
    DE X W F (.Call (.Name x p) (e :: es) [] pos) (xCall m ma) :=
  PE.imp (pe_call G hr hg hm hk hb .nil pass0 ha.pa hdb he hpl) fun σ H Q q => by
    obtain ⟨B, r, h, hE, hH, q⟩ := q
    refine ⟨B, r, h, hE, hH, ?_⟩
    have ln := ha.len r h
    unfold xCall at q
    cases ea : ma r h with
    | bad => rw [ea] at q; exact q
    | exc c h1 => rw [ea] at q; exact q
    | ok ds h1 =>
      rw [ea] at q
      intro B1 vs H1 s1 r1 p1
      have q1 : Post X.prog X.w X.K W F (RpD X.K) B1 H1 σ (match m ds h1 with | .ok d h2 => .ok d h2 | _ => .bad) Q := Post.later s1 q
      refine ⟨B1, ds, h1, by simpa using p1, r1, (ln ds h1 ea).trans hl, ?_⟩
      cases em : m ds h1 with
      | bad => rw [em] at q1; exact q1
      | exc c h2 => rw [em] at q1; exact q1.elim
      | ok d h2 => rw [em] at q1; exact fun B2 v H2 s2 x2 r2 => q1 B2 v H2 (flP_of r1 s2) x2 r2
theorem de_callX {W' : WX} (G : FnOk X.prog X.w X.K X.mg X.base (L2.CX X.prog X.w) k f fd ps (FnP X.prog X.w X.K ps.length m Ex)) (tk : Takes X W') (hW : ∀ c σ H, W c σ H → W' (Ex c) none σ H) (hr : Room k X.A) (hm : X.mg x = some (.ref f)) (hk : PySem.W.keepIn X.K (.ref f) = true) (hb : Binds X.K fd ps []) (ha : DA X W F (e :: es) ma) (hg : Gl X x := by rfl) (hl : (e :: es).length = ps.length := by rfl)
    (hdb : (x == ("__debug__" : Str)) = false := by decide) (he : starEach (e :: es) X.env = (false, eval e X.env) :: starEach es X.env := by rfl) (hpl : (backTo pos (starEach es X.env)).any (·.1) = false := by rfl) :
    DE X W F (.Call (.Name x p) (e :: es) [] pos) (xCallX m ma) :=
  PE.imp (pe_callS (E := WE W') G hr hg hm hk hb (fun σ => passAt tk σ) ha.pa hdb he hpl) fun σ H Q q => by
    obtain ⟨B, r, h, hE, hH, q⟩ := q
    refine ⟨B, r, h, hE, hH, ?_⟩
    have ln := ha.len r h
    unfold xCallX at q
    cases ea : ma r h with
    | bad => rw [ea] at q; exact q
    | exc c h1 => rw [ea] at q; exact q
    | ok ds h1 =>
      rw [ea] at q
      intro B1 vs H1 s1 r1 p1
      have q1 : Post X.prog X.w X.K W F (RpD X.K) B1 H1 σ (m ds h1) Q := Post.later s1 q
      refine ⟨B1, ds, h1, by simpa using p1, r1, (ln ds h1 ea).trans hl, ?_⟩
      cases em : m ds h1 with
      | bad => rw [em] at q1; exact q1
      | exc c h2 => rw [em] at q1; exact fun B2 H2 s2 x2 => hW _ _ _ (q1 B2 H2 (flP_of r1 s2) x2)
      | ok d h2 => rw [em] at q1; exact fun B2 v H2 s2 x2 r2 => q1 B2 v H2 (flP_of r1 s2) x2 r2
/-! ### a value made aside: what it took is forgotten -/
def xScope (m : EM) : EM := fun r h => match m r h with
  | .ok d h' => pack h d h'
  | o => o
theorem de_scope {e : Expr} {me : EM} (he : ∀ F', DE X W F' e me) : DE X W F e (xScope me) := by
  refine ⟨fun pins s σ H Q I q => ?_⟩
  obtain ⟨B, r, h, hE, hH, q⟩ := q
  refine (he (flP h)).run pins s σ H Q I ⟨B, r, h, hE, hH, ?_⟩
  unfold xScope at q
  cases em : me r h with
  | bad => rw [em] at q; exact q
  | exc c h1 => rw [em] at q; exact fun B1 H1 s1 x1 => q B1 H1 (flP_of hH s1) x1
  | ok d h1 =>
    rw [em] at q
    intro B1 v H1 s1 x1 r1
    refine pack_sem (Q := Q) hH s1 x1 r1 ?_
    change Post X.prog X.w X.K W F (RpD X.K) B H σ (pack h d h1) Q at q
    cases ep : pack h d h1 with
    | bad => rw [ep] at q; exact q
    | exc c h2 => trivial
    | ok d2 h2 => rw [ep] at q; exact fun B2 v2 H2 s2 x2 r2 => q B2 v2 H2 (flP_of hH s2) x2 r2
end
end Dc
end
section
set_option Elab.async false
set_option linter.all false
set_option maxRecDepth 100000
set_option maxHeartbeats 4000000
namespace Dc
open PySem PySem.Spec PyProof.Rows L2
/-! ### equality -/
mutual
def pdat : D → PyData
  | .non => .none
  | .bl b => .bool b
  | .int i => .int i
  | .str cs => .str ⟨cs.toArray⟩
  | .tup xs => .tuple (pdats xs)
  | .ref _ => .none
  | .fro xs => .list (pdats xs)
def pdats : List D → List PyData
  | [] => []
  | x :: xs => pdat x :: pdats xs
end
mutual
theorem Rep.dp {K : PySem.W.Frag} {B : List Addr} {H : Hp} : ∀ {d : D} {v : V}, refless d = true → Rep K B H d v → Dp K H v (pdat d)
  | _, _, _, .non => .non
  | _, _, _, .bl b => .bl b
  | _, _, _, .int i => .int i
  | _, _, _, .str _ => .str _
  | _, _, e, .tup h1 h2 => .tup h1 (Reps.dp (by unfold refless at e; exact e) h2)
  | _, _, e, .fro h1 h2 => .lst h1.sq (Reps.dp (by unfold refless at e; exact e) h2)
  | _, _, e, .ref h => by cases e
theorem Reps.dp {K : PySem.W.Frag} {B : List Addr} {H : Hp} : ∀ {ds : List D} {vs : List V}, reflesss ds = true → Reps K B H ds vs → DpAll K H vs (pdats ds)
  | _, _, _, .nil => .nil
  | _, _, e, .cons h1 h2 => by
    unfold reflesss at e
    rw [Bool.and_eq_true] at e
    exact .cons (Rep.dp e.1 h1) (Reps.dp e.2 h2)
end
mutual
theorem plain_refless : ∀ (n : Nat) (d : D), D.plainN n d = true → refless d = true
  | _, .non, _ => rfl
  | _, .int _, _ => rfl
  | _, .str _, _ => rfl
  | 0, .tup _, h => by simp [D.plainN] at h
  | n + 1, .tup xs, h => by
    unfold refless
    exact plains_refless n xs (by simpa [D.plainN] using h)
  | _, .bl _, h => by simp [D.plainN] at h
  | _, .ref _, h => by simp [D.plainN] at h
  | _, .fro _, h => by simp [D.plainN] at h
theorem plains_refless : ∀ (n : Nat) (xs : List D), D.plainNs n xs = true → reflesss xs = true
  | _, [], _ => rfl
  | n, x :: xs, h => by
    unfold D.plainNs at h
    rw [Bool.and_eq_true] at h
    unfold reflesss
    rw [plain_refless n x h.1, plains_refless n xs h.2]; rfl
end
mutual
theorem pdat_eqv : ∀ (n : Nat) (x : D) (m : Nat) (y : D), D.plainN n x = true → D.plainN m y = true → PyData.eqv (pdat x) (pdat y) = D.beq x y
  | _, .non, _, .non, _, _ => rfl
  | _, .non, _, .int _, _, _ => rfl
  | _, .non, _, .str _, _, _ => rfl
  | _, .non, _, .tup _, _, _ => rfl
  | _, .int _, _, .non, _, _ => rfl
  | _, .int a, _, .int b, _, _ => by
    show (a == b) = decide (a = b)
    exact Bool.beq_eq_decide_eq a b
  | _, .int _, _, .str _, _, _ => rfl
  | _, .int _, _, .tup _, _, _ => rfl
  | _, .str _, _, .non, _, _ => rfl
  | _, .str _, _, .int _, _, _ => rfl
  | _, .str a, _, .str b, _, _ => by
    show ((⟨a.toArray⟩ : Str) == ⟨b.toArray⟩) = decide (a = b)
    by_cases e : a = b
    · subst e; simp
    · rw [decide_eq_false e]
      refine beq_eq_false_iff_ne.mpr fun z => e ?_
      injection z with z
      simpa using z
  | _, .str _, _, .tup _, _, _ => rfl
  | _, .tup _, _, .non, _, _ => rfl
  | _, .tup _, _, .int _, _, _ => rfl
  | _, .tup _, _, .str _, _, _ => rfl
  | 0, .tup _, _, _, h, _ => by simp [D.plainN] at h
  | _, _, 0, .tup _, _, h => by simp [D.plainN] at h
  | n + 1, .tup xs, m + 1, .tup ys, h1, h2 => by
    show PyData.eqvAll (pdats xs) (pdats ys) = D.beqs xs ys
    exact pdats_eqv n xs m ys (by simpa [D.plainN] using h1) (by simpa [D.plainN] using h2)
  | _, .bl _, _, _, h, _ => by simp [D.plainN] at h
  | _, .ref _, _, _, h, _ => by simp [D.plainN] at h
  | _, .fro _, _, _, h, _ => by simp [D.plainN] at h
  | _, _, _, .bl _, _, h => by simp [D.plainN] at h
  | _, _, _, .ref _, _, h => by simp [D.plainN] at h
  | _, _, _, .fro _, _, h => by simp [D.plainN] at h
theorem pdats_eqv : ∀ (n : Nat) (xs : List D) (m : Nat) (ys : List D), D.plainNs n xs = true → D.plainNs m ys = true → PyData.eqvAll (pdats xs) (pdats ys) = D.beqs xs ys
  | _, [], _, [], _, _ => rfl
  | _, [], _, _ :: _, _, _ => rfl
  | _, _ :: _, _, [], _, _ => rfl
  | n, x :: xs, m, y :: ys, h1, h2 => by
    unfold D.plainNs at h1 h2
    rw [Bool.and_eq_true] at h1 h2
    show (PyData.eqv (pdat x) (pdat y) && PyData.eqvAll (pdats xs) (pdats ys)) = (D.beq x y && D.beqs xs ys)
    rw [pdat_eqv n x m y h1.1 h2.1, pdats_eqv n xs m ys h1.2 h2.2]
end
mutual
theorem Rep.lay {K : PySem.W.Frag} {B : List Addr} {H : Hp} : ∀ {d : D} {v : V}, Rep K B H d v → (pdat d).canLay0 = true
  | _, _, .non => rfl
  | _, _, .bl b => rfl
  | _, _, .int i => rfl
  | _, _, .str h => by
    show PyData.strOk ⟨_⟩ = true
    unfold PyData.strOk
    simpa using h
  | _, _, .tup h1 h2 => by
    show PyData.canLayAll0 (pdats _) = true
    exact Reps.lay h2
  | _, _, .fro h1 h2 => by
    show PyData.canLayAll0 (pdats _) = true
    exact Reps.lay h2
  | _, _, .ref h => rfl
theorem Reps.lay {K : PySem.W.Frag} {B : List Addr} {H : Hp} : ∀ {ds : List D} {vs : List V}, Reps K B H ds vs → PyData.canLayAll0 (pdats ds) = true
  | _, _, .nil => rfl
  | _, _, .cons h1 h2 => by
    show (PyData.canLay0 (pdat _) && PyData.canLayAll0 (pdats _)) = true
    rw [Rep.lay h1, Reps.lay h2]; rfl
end
mutual
theorem plain_depth : ∀ (n : Nat) (d : D), D.plainN n d = true → (pdat d).depth ≤ n
  | _, .non, _ => Nat.zero_le _
  | _, .int _, _ => Nat.zero_le _
  | _, .str _, _ => Nat.zero_le _
  | 0, .tup _, h => by simp [D.plainN] at h
  | n + 1, .tup xs, h => by
    show PyData.depthAll (pdats xs) + 1 ≤ n + 1
    have := plains_depth n xs (by simpa [D.plainN] using h)
    omega
  | _, .bl _, h => by simp [D.plainN] at h
  | _, .ref _, h => by simp [D.plainN] at h
  | _, .fro _, h => by simp [D.plainN] at h
theorem plains_depth : ∀ (n : Nat) (xs : List D), D.plainNs n xs = true → PyData.depthAll (pdats xs) ≤ n
  | _, [], _ => Nat.zero_le _
  | n, x :: xs, h => by
    unfold D.plainNs at h
    rw [Bool.and_eq_true] at h
    show max (PyData.depth (pdat x)) (PyData.depthAll (pdats xs)) ≤ n
    have h1 := plain_depth n x h.1
    have h2 := plains_depth n xs h.2
    omega
end
theorem beq_dec (x y : D) : D.beq x y = decide (x = y) := by
  cases h : D.beq x y with
  | true => exact (decide_eq_true (D.eq_of_beq x y h)).symm
  | false => exact (decide_eq_false fun e => by rw [e, D.beq_self] at h; cases h).symm
theorem beqs_dec (x y : List D) : D.beqs x y = decide (x = y) := by
  cases h : D.beqs x y with
  | true => exact (decide_eq_true (D.eq_of_beqs x y h)).symm
  | false => exact (decide_eq_false fun e => by rw [e, D.beqs_self] at h; cases h).symm
/-- the items of a list -/
def listOf (d : D) (h : Hh) : Option (List D) := match d with
  | .ref j => (match h[j]? with
    | some (.lst xs) => some xs
    | _ => none)
  | .fro xs => some xs
  | _ => none
/-- x == y -/
def eqD (x y : D) (h : Hh) : Option Bool :=
  if (D.plainN 8 x && D.plainN 8 y) = true then some (D.beq x y) else match listOf x h, listOf y h with
    | some xs, some ys => if (D.plainNs 8 xs && D.plainNs 8 ys) = true then some (D.beqs xs ys) else none
    | some xs, none => if (D.plainNs 8 xs && D.plainN 8 y) = true then some false else none
    | none, some ys => if (D.plainN 8 x && D.plainNs 8 ys) = true then some false else none
    | none, none => (match x, y with
      | .bl a, .bl b => some (a == b)
      | _, _ => none)
def opEq (x y : D) (h : Hh) : Rs D := match eqD x y h with
  | some b => .ok (.bl b) h
  | none => .bad
def opNe (x y : D) (h : Hh) : Rs D := match eqD x y h with
  | some b => .ok (.bl (!b)) h
  | none => .bad
theorem shaped_of {d : PyData} (h1 : d.canLay0 = true) (h2 : d.depth ≤ 64) : SeqAt.shaped d = true := by
  unfold SeqAt.shaped
  rw [h1, decide_eq_true h2]; rfl
theorem eqD_sem {P : Program} {w : World} {K : PySem.W.Frag} {B : List Addr} {h : Hh} {H : Hp} {d1 d2 : D} {x y : V} {b : Bool} (xh : RelH P w K B h H) (r1 : Rep K B H d1 x) (r2 : Rep K B H d2 y) (e : eqD d1 d2 h = some b) :
    ∃ p q, Dp K H x p ∧ Dp K H y q ∧ SeqAt.shaped p = true ∧ SeqAt.shaped q = true ∧ PyData.eqv p q = b := by
  have lst : ∀ {d : D} {x : V} {xs : List D}, Rep K B H d x → listOf d h = some xs → D.plainNs 8 xs = true → Dp K H x (.list (pdats xs)) ∧ SeqAt.shaped (.list (pdats xs)) = true := by
    intro d x xs r e hp
    have fin : ∀ {vs : List V} {a : Addr}, SqL K H a vs → Reps K B H xs vs → Dp K H (.ref a) (.list (pdats xs)) ∧ SeqAt.shaped (.list (pdats xs)) = true := fun sq rs => by
      refine ⟨.lst sq (rs.dp (plains_refless 8 xs hp)), shaped_of ?_ ?_⟩
      · show PyData.canLayAll0 (pdats xs) = true
        exact rs.lay
      · show PyData.depthAll (pdats xs) + 1 ≤ 64
        have := plains_depth 8 xs hp
        omega
    cases r with
    | @ref j a hb =>
      obtain ⟨o, ho, hr⟩ := xh.get hb
      unfold listOf at e
      simp only [ho] at e
      cases o with
      | lst ds => cases e; obtain ⟨vs, h1, h2⟩ := hr; exact fin (SqL.of h1) h2
      | dct kvs => cases e
    | fro h1 h2 => cases e; exact fin h1.sq h2
    | _ => cases e
  have pln : ∀ {d : D} {x : V}, Rep K B H d x → D.plainN 8 d = true → Dp K H x (pdat d) ∧ SeqAt.shaped (pdat d) = true := fun r hp =>
    ⟨r.dp (plain_refless 8 _ hp), shaped_of r.lay (by have := plain_depth 8 _ hp; omega)⟩
  have nol : ∀ {d : D} {xs : List PyData}, D.plainN 8 d = true → PyData.eqv (pdat d) (.list xs) = false ∧ PyData.eqv (.list xs) (pdat d) = false := by
    intro d xs hp
    cases d with
    | non => exact ⟨rfl, rfl⟩
    | int i => exact ⟨rfl, rfl⟩
    | str c => exact ⟨rfl, rfl⟩
    | tup c => exact ⟨rfl, rfl⟩
    | bl c => simp [D.plainN] at hp
    | ref c => simp [D.plainN] at hp
    | fro c => simp [D.plainN] at hp
  unfold eqD at e
  split at e
  · rename_i c
    rw [Bool.and_eq_true] at c
    cases e
    obtain ⟨a1, a2⟩ := pln r1 c.1
    obtain ⟨b1, b2⟩ := pln r2 c.2
    exact ⟨_, _, a1, b1, a2, b2, pdat_eqv 8 _ 8 _ c.1 c.2⟩
  · split at e
    · rename_i xs ys e1 e2
      split at e
      · rename_i c
        rw [Bool.and_eq_true] at c
        cases e
        obtain ⟨a1, a2⟩ := lst r1 e1 c.1
        obtain ⟨b1, b2⟩ := lst r2 e2 c.2
        exact ⟨_, _, a1, b1, a2, b2, pdats_eqv 8 _ 8 _ c.1 c.2⟩
      · cases e
    · rename_i xs e1 e2
      split at e
      · rename_i c
        rw [Bool.and_eq_true] at c
        cases e
        obtain ⟨a1, a2⟩ := lst r1 e1 c.1
        obtain ⟨b1, b2⟩ := pln r2 c.2
        exact ⟨_, _, a1, b1, a2, b2, (nol c.2).2⟩
      · cases e
    · rename_i ys e1 e2
      split at e
      · rename_i c
        rw [Bool.and_eq_true] at c
        cases e
        obtain ⟨a1, a2⟩ := pln r1 c.1
        obtain ⟨b1, b2⟩ := lst r2 e2 c.2
        exact ⟨_, _, a1, b1, a2, b2, (nol c.1).1⟩
      · cases e
    · split at e
      · cases e
        cases r1
        cases r2
        exact ⟨_, _, .bl _, .bl _, rfl, rfl, rfl⟩
      · cases e
section
variable {X : Cx}
theorem bs_eq : BinSem X.prog X.w X.K (rEqD X.K) opEq := by
  intro W F σ B h H d1 d2 x y Q xh r1 r2 p
  unfold opEq at p
  cases e : eqD d1 d2 h with
  | none => rw [e] at p; exact p.elim
  | some b =>
    rw [e] at p
    obtain ⟨u, v, h1, h2, h3, h4, rfl⟩ := eqD_sem xh r1 r2 e
    exact ⟨u, v, h1, h2, h3, h4, p.now xh (.bl _)⟩
theorem bs_ne : BinSem X.prog X.w X.K (rNeD X.K) opNe := by
  intro W F σ B h H d1 d2 x y Q xh r1 r2 p
  unfold opNe at p
  cases e : eqD d1 d2 h with
  | none => rw [e] at p; exact p.elim
  | some b =>
    rw [e] at p
    obtain ⟨u, v, h1, h2, h3, h4, rfl⟩ := eqD_sem xh r1 r2 e
    exact ⟨u, v, h1, h2, h3, h4, p.now xh (.bl _)⟩
/-! ### arithmetic, joining -/
def lim : Nat := 16777216
def opAdd (x y : D) (h : Hh) : Rs D := match x, y with
  | .int a, .int b => .ok (.int (a + b)) h
  | .str a, .str b => if a.length + b.length ≤ lim then .ok (.str (a ++ b)) h else .bad
  | .tup a, .tup b => if a.length + b.length ≤ lim then .ok (.tup (a ++ b)) h else .bad
  | .ref i, .ref j => (match h[i]?, h[j]? with
    | some (.lst a), some (.lst b) => if a.length + b.length ≤ lim then .ok (.ref h.length) (h ++ [.lst (a ++ b)]) else .bad
    | _, _ => .bad)
  | _, _ => .bad
def rAddA (K : PySem.W.Frag) : R2 := fun x y H Q => (rI0 fun i j => .int (i + j)) x y H Q ∨ (∃ i j, x = .str i ∧ y = .str j ∧ i.length + j.length ≤ sizeLine ∧ Q (.str (i ++ j)) H) ∨ rCatA K x y H Q ∨ rCat x y H Q
theorem or_add : OpR X (binaryOp .Add) (rAddA X.K) := op_add.or (op_add_str.or (op_catA.or op_cat))
theorem lim_eq : sizeLine = lim := sizeLine_eq
theorem str_app (a b : List Nat) : ((⟨a.toArray⟩ : Str) ++ (⟨b.toArray⟩ : Str)) = ⟨(a ++ b).toArray⟩ := by
  show (⟨a.toArray ++ b.toArray⟩ : Str) = _
  simp
theorem str_len (a : List Nat) : (⟨a.toArray⟩ : Str).length = a.length := by
  show a.toArray.size = _
  simp
theorem bs_add : BinSem X.prog X.w X.K (rAddA X.K) opAdd := by
  intro W F σ B h H d1 d2 x y Q xh r1 r2 p
  unfold opAdd at p
  cases r1 with
  | int a =>
    cases r2 with
    | int b => exact .inl ⟨a, b, rfl, rfl, p.now xh (.int _)⟩
    | _ => exact p.elim
  | @str a ok1 =>
    cases r2 with
    | @str b ok2 =>
      dsimp only at p
      by_cases hl : a.length + b.length ≤ lim
      · rw [if_pos hl] at p
        refine .inr (.inl ⟨_, _, rfl, rfl, by rw [str_len, str_len, lim_eq]; exact hl, ?_⟩)
        rw [str_app]
        exact p.now xh (.str (by rw [List.all_append, ok1, ok2]; rfl))
      · rw [if_neg hl] at p; exact p.elim
    | _ => exact p.elim
  | @tup a xs ds h1 h2 =>
    cases r2 with
    | @tup b ys es h3 h4 =>
      dsimp only at p
      by_cases hl : ds.length + es.length ≤ lim
      · rw [if_pos hl] at p
        refine .inr (.inr (.inl ⟨a, b, xs, ys, rfl, rfl, h1, h3, by rw [← h2.length, ← h4.length, lim_eq]; exact hl, fun e => ?_, fun _ e => ?_, fun _ _ q hq => ?_⟩))
        · subst e
          cases h2
          exact p.now xh (.tup h3 h4)
        · subst e
          cases h4
          rw [List.append_nil] at p
          exact p.now xh (.tup h1 h2)
        · exact p B _ _ (step_new xh hq) (xh.new hq) (.tup (SqT.of upd_same) ((h2.append h4).step (step_new (F := F) xh hq)))
      · rw [if_neg hl] at p; exact p.elim
    | _ => exact p.elim
  | @ref i a hb =>
    cases r2 with
    | @ref j b hb2 =>
      obtain ⟨o, ho, hr⟩ := xh.get hb
      obtain ⟨o2, ho2, hr2⟩ := xh.get hb2
      dsimp only at p
      rw [ho, ho2] at p
      cases o with
      | dct kvs => exact p.elim
      | lst ds =>
        cases o2 with
        | dct kvs => exact p.elim
        | lst es =>
          dsimp only at p
          obtain ⟨vs, h1, h2⟩ := hr
          obtain ⟨us, h3, h4⟩ := hr2
          by_cases hl : ds.length + es.length ≤ lim
          · rw [if_pos hl] at p
            refine .inr (.inr (.inr ⟨a, b, vs, us, rfl, rfl, h1, h3, by rw [← h2.length, ← h4.length, lim_eq]; exact hl, fun q hq => ?_⟩))
            have st : Step F B H (B ++ [q]) (upd H q (.lst (vs ++ us))) := step_push xh hq
            exact p _ _ _ st (xh.push hq ⟨_, upd_same, (h2.append h4).step st⟩) (.ref (by simp [xh.len]))
          · rw [if_neg hl] at p; exact p.elim
    | _ => exact p.elim
  | _ => exact p.elim
def opInt (f : Int → Int → Option D) (x y : D) (h : Hh) : Rs D := match x, y with
  | .int a, .int b => (match f a b with
    | some d => .ok d h
    | none => .bad)
  | _, _ => .bad
theorem bs_int {f : Int → Int → Option D} {C : Int → Int → Prop} {g : Int → Int → V} (hf : ∀ a b d, f a b = some d → C a b ∧ ∀ K B H, Rep K B H d (g a b)) : BinSem X.prog X.w X.K (rI C g) (opInt f) := by
  intro W F σ B h H d1 d2 x y Q xh r1 r2 p
  unfold opInt at p
  cases r1 with
  | int a =>
    cases r2 with
    | int b =>
      dsimp only at p
      cases e : f a b with
      | none => rw [e] at p; exact p.elim
      | some d =>
        rw [e] at p
        obtain ⟨c, r⟩ := hf a b d e
        exact ⟨a, b, rfl, rfl, c, p.now xh (r _ _ _)⟩
    | _ => exact p.elim
  | _ => exact p.elim
theorem bs_int0 {f : Int → Int → D} {g : Int → Int → V} (hf : ∀ a b K B H, Rep K B H (f a b) (g a b)) : BinSem X.prog X.w X.K (rI0 g) (opInt fun a b => some (f a b)) := by
  intro W F σ B h H d1 d2 x y Q xh r1 r2 p
  unfold opInt at p
  cases r1 with
  | int a =>
    cases r2 with
    | int b => exact ⟨a, b, rfl, rfl, p.now xh (hf a b _ _ _)⟩
    | _ => exact p.elim
  | _ => exact p.elim
def opSub : D → D → Hh → Rs D := opInt fun a b => some (.int (a - b))
theorem bs_sub : BinSem X.prog X.w X.K (rI0 fun i j => .int (i - j)) opSub := bs_int0 fun a b K B H => .int _
def opMod : D → D → Hh → Rs D := opInt fun a b => if 0 < b then some (.int (a % b)) else none
theorem bs_mod : BinSem X.prog X.w X.K (rI (fun _ j => 0 < j) fun i j => .int (i % j)) opMod := bs_int fun a b d e => by
  split at e
  · rename_i c; cases e; exact ⟨c, fun _ _ _ => .int _⟩
  · cases e
def opDiv : D → D → Hh → Rs D := opInt fun a b => if 0 < b ∧ b < 1073741824 then some (.int (a / b)) else none
theorem bs_div : BinSem X.prog X.w X.K (rI CDiv fun i j => .int (i / j)) opDiv := bs_int fun a b d e => by
  split at e
  · rename_i c; cases e; exact ⟨c, fun _ _ _ => .int _⟩
  · cases e
def opPow : D → D → Hh → Rs D := opInt fun a b => if 0 ≤ b ∧ b ≤ 1000000 ∧ a.natAbs < 18446744073709551616 then some (.int (a ^ b.toNat)) else none
theorem bs_pow : BinSem X.prog X.w X.K (rI CPow fun i j => .int (i ^ j.toNat)) opPow := bs_int fun a b d e => by
  split at e
  · rename_i c; cases e; exact ⟨⟨c.1, c.2.1, by have := c.2.2; omega⟩, fun _ _ _ => .int _⟩
  · cases e
def opLt : D → D → Hh → Rs D := opInt fun a b => some (.bl (decide (a < b)))
def opLe : D → D → Hh → Rs D := opInt fun a b => some (.bl (decide (a ≤ b)))
def opGt : D → D → Hh → Rs D := opInt fun a b => some (.bl (decide (b < a)))
def opGe : D → D → Hh → Rs D := opInt fun a b => some (.bl (decide (b ≤ a)))
theorem bs_lt : BinSem X.prog X.w X.K (rI0 fun i j => .bl (decide (i < j))) opLt := bs_int0 fun a b K B H => .bl _
theorem bs_le : BinSem X.prog X.w X.K (rI0 fun i j => .bl (decide (i ≤ j))) opLe := bs_int0 fun a b K B H => .bl _
theorem bs_gt : BinSem X.prog X.w X.K (rI0 fun i j => .bl (decide (j < i))) opGt := bs_int0 fun a b K B H => .bl _
theorem bs_ge : BinSem X.prog X.w X.K (rI0 fun i j => .bl (decide (j ≤ i))) opGe := bs_int0 fun a b K B H => .bl _
/-! ### is -/
def opIs (x y : D) (h : Hh) : Rs D := match x, y with
  | .bl a, .bl b => .ok (.bl (decide (a = b))) h
  | x, .non => .ok (.bl (decide (x = .non))) h
  | _, _ => .bad
def opIsNot (x y : D) (h : Hh) : Rs D := match x, y with
  | .bl a, .bl b => .ok (.bl (!decide (a = b))) h
  | x, .non => .ok (.bl (!decide (x = .non))) h
  | _, _ => .bad
theorem or_is : OpR X (compareOp .Is) (fun x y H Q => rIsB x y H Q ∨ (y = .non ∧ Q (.bl (decide (x = .non))) H)) := op_isBl.or op_isN
theorem or_isnot : OpR X (compareOp .IsNot) (fun x y H Q => rNotB x y H Q ∨ (y = .non ∧ Q (.bl (!decide (x = .non))) H)) := op_notBl.or op_notN
theorem rep_non {K : PySem.W.Frag} {B : List Addr} {H : Hp} {d : D} {v : V} (r : Rep K B H d v) : decide (d = .non) = decide (v = .non) := by
  cases r <;> simp
theorem bs_is : BinSem X.prog X.w X.K (fun x y H Q => rIsB x y H Q ∨ (y = .non ∧ Q (.bl (decide (x = .non))) H)) opIs := by
  intro W F σ B h H d1 d2 x y Q xh r1 r2 p
  unfold opIs at p
  split at p
  · cases r1; cases r2; exact .inl ⟨_, _, rfl, rfl, p.now xh (.bl _)⟩
  · cases r2; rw [rep_non r1] at p; exact .inr ⟨rfl, p.now xh (.bl _)⟩
  · exact p.elim
theorem bs_isnot : BinSem X.prog X.w X.K (fun x y H Q => rNotB x y H Q ∨ (y = .non ∧ Q (.bl (!decide (x = .non))) H)) opIsNot := by
  intro W F σ B h H d1 d2 x y Q xh r1 r2 p
  unfold opIsNot at p
  split at p
  · cases r1; cases r2; exact .inl ⟨_, _, rfl, rfl, p.now xh (.bl _)⟩
  · cases r2; rw [rep_non r1] at p; exact .inr ⟨rfl, p.now xh (.bl _)⟩
  · exact p.elim
end
end Dc
end
section
set_option Elab.async false
set_option linter.all false
set_option maxRecDepth 100000
set_option maxHeartbeats 4000000
namespace Dc
open PySem PySem.Spec PyProof.Rows L2
/-! ### rules said of the abstract values -/
def rAbs (P : Program) (w : World) (K : PySem.W.Frag) (f : D → D → Hh → Rs D) : R2 := fun x y H Q => ∃ W F σ B h d1 d2, RelH P w K B h H ∧ Rep K B H d1 x ∧ Rep K B H d2 y ∧ Post P w K W F (RpD K) B H σ (f d1 d2 h) Q
theorem bs_abs {P : Program} {w : World} {K : PySem.W.Frag} {f : D → D → Hh → Rs D} : BinSem P w K (rAbs P w K f) f := fun W F σ B h H d1 d2 x y Q xh r1 r2 p => ⟨W, F, σ, B, h, d1, d2, xh, r1, r2, p⟩
/-! ### dicts -/
mutual
theorem nkey_inj : ∀ (n : Nat) (x : D) (m : Nat) (y : D), D.plainN n x = true → D.plainN m y = true → nkey x = nkey y → x = y
  | _, .non, _, .non, _, _, _ => rfl
  | _, .non, _, .int _, _, _, e => by cases e
  | _, .non, _, .str _, _, _, e => by cases e
  | _, .non, _, .tup _, _, _, e => by cases e
  | _, .int _, _, .non, _, _, e => by cases e
  | _, .int a, _, .int b, _, _, e => by cases e; rfl
  | _, .int _, _, .str _, _, _, e => by cases e
  | _, .int _, _, .tup _, _, _, e => by cases e
  | _, .str _, _, .non, _, _, e => by cases e
  | _, .str _, _, .int _, _, _, e => by cases e
  | _, .str a, _, .str b, _, _, e => by
    have e1 : NestedKey.text ⟨a.toArray⟩ = NestedKey.text ⟨b.toArray⟩ := e
    injection e1 with e2
    injection e2 with e3
    have e4 : a = b := by simpa using e3
    rw [e4]
  | _, .str _, _, .tup _, _, _, e => by cases e
  | _, .tup _, _, .non, _, _, e => by cases e
  | _, .tup _, _, .int _, _, _, e => by cases e
  | _, .tup _, _, .str _, _, _, e => by cases e
  | 0, .tup _, _, _, h, _, _ => by simp [D.plainN] at h
  | _, _, 0, .tup _, _, h, _ => by simp [D.plainN] at h
  | n + 1, .tup xs, m + 1, .tup ys, h1, h2, e => by
    have e1 : NestedKey.tup (nkeys xs) = NestedKey.tup (nkeys ys) := e
    injection e1 with e2
    rw [nkeys_inj n xs m ys (by simpa [D.plainN] using h1) (by simpa [D.plainN] using h2) e2]
  | _, .bl _, _, _, h, _, _ => by simp [D.plainN] at h
  | _, .ref _, _, _, h, _, _ => by simp [D.plainN] at h
  | _, .fro _, _, _, h, _, _ => by simp [D.plainN] at h
  | _, _, _, .bl _, _, h, _ => by simp [D.plainN] at h
  | _, _, _, .ref _, _, h, _ => by simp [D.plainN] at h
  | _, _, _, .fro _, _, h, _ => by simp [D.plainN] at h
theorem nkeys_inj : ∀ (n : Nat) (xs : List D) (m : Nat) (ys : List D), D.plainNs n xs = true → D.plainNs m ys = true → nkeys xs = nkeys ys → xs = ys
  | _, [], _, [], _, _, _ => rfl
  | _, [], _, _ :: _, _, _, e => by cases e
  | _, _ :: _, _, [], _, _, e => by cases e
  | n, x :: xs, m, y :: ys, h1, h2, e => by
    unfold D.plainNs at h1 h2
    rw [Bool.and_eq_true] at h1 h2
    have e1 : nkey x :: nkeys xs = nkey y :: nkeys ys := e
    injection e1 with e2 e3
    rw [nkey_inj n x m y h1.1 h2.1 e2, nkeys_inj n xs m ys h1.2 h2.2 e3]
end
theorem isKey_plain {d : D} (h : isKey d = true) : D.plainN 8 d = true := by
  cases d with
  | tup xs => unfold isKey at h; simpa [D.plainN] using h
  | _ => cases h
theorem key_inj {d e : D} (h1 : isKey d = true) (h2 : isKey e = true) (q : nkey d = nkey e) : d = e := nkey_inj 8 d 8 e (isKey_plain h1) (isKey_plain h2) q
mutual
theorem nkey_depth : ∀ (n : Nat) (d : D), D.plainN n d = true → (nkey d).depth ≤ n
  | _, .non, _ => Nat.zero_le _
  | _, .int _, _ => Nat.zero_le _
  | _, .str _, _ => Nat.zero_le _
  | 0, .tup _, h => by simp [D.plainN] at h
  | n + 1, .tup xs, h => by
    show NestedKey.depthAll (nkeys xs) + 1 ≤ n + 1
    have := nkeys_depth n xs (by simpa [D.plainN] using h)
    omega
  | _, .bl _, h => by simp [D.plainN] at h
  | _, .ref _, h => by simp [D.plainN] at h
  | _, .fro _, h => by simp [D.plainN] at h
theorem nkeys_depth : ∀ (n : Nat) (xs : List D), D.plainNs n xs = true → NestedKey.depthAll (nkeys xs) ≤ n
  | _, [], _ => Nat.zero_le _
  | n, x :: xs, h => by
    unfold D.plainNs at h
    rw [Bool.and_eq_true] at h
    show max (NestedKey.depth (nkey x)) (NestedKey.depthAll (nkeys xs)) ≤ n
    have h1 := nkey_depth n x h.1
    have h2 := nkeys_depth n xs h.2
    omega
end
section
variable {X : Cx} {pins : List (Addr × Obj)} {σ : L2.St} {H : Hp} {s : Shared}
mutual
theorem Rep.nested (I : Inv X pins σ H s) {B : List Addr} : ∀ {d : D} {v : V} {u : Value}, refless d = true → (∀ xs, d ≠ .fro xs) → Rep X.K B H d v → RelV v u → (∀ n, D.plainN n d = true → NestedIs s.heap (nkey d) u)
  | _, _, _, _, _, .non, r, _, _ => by cases r; exact .none
  | _, _, _, _, _, .bl b, r, n, h => by simp [D.plainN] at h
  | _, _, _, _, _, .int i, r, _, _ => by obtain ⟨t, rfl⟩ := r; exact .int i t
  | _, _, _, _, _, .str ok, r, _, _ => by obtain ⟨t, rfl⟩ := r; exact .text _ t
  | _, _, _, e, _, .tup h1 h2, r, n, h => by
    cases r
    obtain ⟨its, rv, ⟨o, ho, hc, k, hd⟩, _⟩ := I.tuple h1
    cases n with
    | zero => simp [D.plainN] at h
    | succ n =>
      refine .tup ho hc hd ?_
      have := Reps.nested I (by unfold refless at e; exact e) h2 rv n (by simpa [D.plainN] using h)
      simpa using this
  | _, _, _, _, f, .fro h1 h2, r, n, h => absurd rfl (f _)
  | _, _, _, e, _, .ref h, _, _, _ => by cases e
theorem Reps.nested (I : Inv X pins σ H s) {B : List Addr} : ∀ {ds : List D} {vs : List V} {us : List Value}, reflesss ds = true → Reps X.K B H ds vs → Vals vs us → (∀ n, D.plainNs n ds = true → NestedAll s.heap (nkeys ds) us)
  | _, _, _, _, .nil, r, _, _ => by cases r; exact .nil
  | _, _, _, e, .cons h1 h2, r, n, h => by
    unfold reflesss at e
    rw [Bool.and_eq_true] at e
    unfold D.plainNs at h
    rw [Bool.and_eq_true] at h
    cases r with
    | cons ra rb => exact .cons (Rep.nested I e.1 (fun xs z => by have h0 := h.1; rw [z] at h0; simp [D.plainN] at h0) h1 ra n h.1) (Reps.nested I e.2 h2 rb n h.2)
end
theorem Rep.isKey (I : Inv X pins σ H s) {B : List Addr} {d : D} {a : Addr} (h : isKey d = true) (r : Rep X.K B H d (.ref a)) : (nestedKind X.prog X.w).is s.heap (nkey d) a :=
  ⟨r.nested I (plain_refless 8 d (isKey_plain h)) (fun xs z => by rw [z] at h; cases h) rfl 8 (isKey_plain h), nkey_depth 8 d (isKey_plain h)⟩
def dget (kvs : List (D × D)) (k : D) : Option D := (kvs.find? fun p => D.beq p.1 k).map (·.2)
def dput (kvs : List (D × D)) (k v : D) : List (D × D) := if kvs.any (fun p => D.beq p.1 k) then kvs.map (fun p => if D.beq p.1 k then (p.1, v) else p) else kvs ++ [(k, v)]
/-- a dict of ours, at the state -/
theorem ObRep.ofH (I : Inv X pins σ H s) {B : List Addr} {a : Addr} {kvs : List (D × D)} (h : ObRep X.prog X.w X.K B H a (.dct kvs)) :
    (a == sysModules) = false ∧ kvs.length ≤ sizeLine ∧ ∃ xs, s.heap.DictOfH (nestedKind X.prog X.w) a xs ∧ Paired (EntOk X.w X.K B H) kvs xs ∧ ∃ o, H a = some (exO a o) := by
  obtain ⟨hs, hl, hn, o, es, ep, xs, h1, h2, h3, h4, h5⟩ := h
  refine ⟨hs, hl, xs, ⟨o, es, ep, (I.hok a _ h1).1, h2, h3, h5, fun x hx => ?_, ?_⟩, h4, o, h1⟩
  · obtain ⟨i, hi, e⟩ := List.getElem_of_mem hx
    obtain ⟨kv, _, z1, z2, z3, _⟩ := paired_at h4 (i := i) (b := x) (by rw [List.getElem?_eq_some_iff]; exact ⟨hi, e⟩)
    rw [z2]
    exact z3.isKey I z1
  · have gen : ∀ {kvs : List (D × D)} {xs : List (NestedKey × Addr × Value)}, Paired (EntOk X.w X.K B H) kvs xs → (kvs.map (·.1)).Nodup → (xs.map (·.1)).Nodup := by
      intro kvs xs p
      induction p with
      | nil => exact fun _ => .nil
      | @cons kv x kvs xs r t ih =>
        intro hn
        rw [List.map_cons, List.nodup_cons] at hn ⊢
        refine ⟨fun hm => hn.1 ?_, ih hn.2⟩
        obtain ⟨y, hy, ey⟩ := List.mem_map.mp hm
        obtain ⟨i, hi, e⟩ := List.getElem_of_mem hy
        obtain ⟨kv2, e2, z1, z2, _⟩ := paired_at t (i := i) (b := y) (by rw [List.getElem?_eq_some_iff]; exact ⟨hi, e⟩)
        have := key_inj z1 r.1 (by rw [← z2, ey, r.2.1])
        rw [← this]
        exact List.mem_map.mpr ⟨kv2, List.mem_of_getElem? e2, rfl⟩
    exact gen h4 hn
theorem ent_find {w : World} {K : PySem.W.Frag} {B : List Addr} {k : D} (hk : isKey k = true) : ∀ {kvs : List (D × D)} {xs : List (NestedKey × Addr × Value)}, Paired (EntOk w K B H) kvs xs →
    (dget kvs k = none ∧ atKey xs (nkey k) = none) ∨ (∃ d p v, dget kvs k = some d ∧ atKey xs (nkey k) = some p ∧ RelV v p.2 ∧ Rep K B H d v) := by
  intro kvs xs p
  induction p with
  | nil => exact .inl ⟨rfl, rfl⟩
  | @cons kv x kvs xs r t ih =>
    obtain ⟨z1, z2, z3, v, z4, z5⟩ := r
    unfold dget atKey
    rw [List.find?_cons, List.find?_cons]
    by_cases e : kv.1 = k
    · have e1 : D.beq kv.1 k = true := by rw [e]; exact D.beq_self k
      have e2 : decide (x.1 = nkey k) = true := decide_eq_true (by rw [z2, e])
      rw [e1, e2]
      exact .inr ⟨kv.2, x.2, v, rfl, rfl, z4, z5⟩
    · have e1 : D.beq kv.1 k = false := by rw [beq_dec]; exact decide_eq_false e
      have e2 : decide (x.1 = nkey k) = false := decide_eq_false fun q => e (key_inj z1 hk (by rw [← z2, q]))
      rw [e1, e2]
      exact ih
end
/-! ### x in y -/
def opIn (x y : D) (h : Hh) : Rs D := match y with
  | .ref j => (match h[j]? with
    | some (.lst ys) => if (D.plainN 8 x && D.plainNs 8 ys) = true then .ok (.bl (ys.any fun z => D.beq z x)) h else .bad
    | some (.dct kvs) => if isKey x = true then .ok (.bl (dget kvs x).isSome) h else .bad
    | none => .bad)
  | .str b => (match x with
    | .str [c] => .ok (.bl (decide (c ∈ b))) h
    | _ => .bad)
  | .tup ys => if (D.plainN 8 x && D.plainNs 8 ys) = true then .ok (.bl (ys.any fun z => D.beq z x)) h else .bad
  | _ => .bad
def opNotIn (x y : D) (h : Hh) : Rs D := (opIn x y h).bind fun d h1 => match d with
  | .bl b => .ok (.bl (!b)) h1
  | _ => .bad
theorem any_eqv {x : D} (hx : D.plainN 8 x = true) : ∀ {ys : List D}, D.plainNs 8 ys = true → ((pdats ys).any fun z => PyData.eqv z (pdat x)) = ys.any fun z => D.beq z x
  | [], _ => rfl
  | y :: ys, h => by
    unfold D.plainNs at h
    rw [Bool.and_eq_true] at h
    show (PyData.eqv (pdat y) (pdat x) || (pdats ys).any fun z => PyData.eqv z (pdat x)) = (D.beq y x || ys.any fun z => D.beq z x)
    rw [any_eqv hx h.2, pdat_eqv 8 y 8 x h.1 hx]
section
variable {X : Cx}
theorem in_sem {b : Bool} {B : List Addr} {h h' : Hh} {d1 d2 : D} {pins : List (Addr × Obj)} {s : Shared} {σ : L2.St} {H : Hp} {x y : V} {v u : Value} (hu : X.A.units + 65 < cLine) (I : Inv X pins σ H s) (rx : RelV x v) (ry : RelV y u)
    (xh : RelH X.prog X.w X.K B h H) (r1 : Rep X.K B H d1 x) (r2 : Rep X.K B H d2 y) (e : opIn d1 d2 h = .ok (.bl b) h') :
    h' = h ∧ (∀ Q : VK, Q (.bl b) H → wpAny (model X.prog X.w) X.A (compareOp .In v u) (EP X pins σ Q) X.xe s) ∧ (∀ Q : VK, Q (.bl (!b)) H → wpAny (model X.prog X.w) X.A (compareOp .NotIn v u) (EP X pins σ Q) X.xe s) := by
  unfold opIn at e
  cases r2 with
  | @ref j a hb =>
    obtain ⟨o, ho, hr⟩ := xh.get hb
    dsimp only at e
    rw [ho] at e
    cases o with
    | lst ys =>
      dsimp only at e
      split at e
      · rename_i c
        rw [Bool.and_eq_true] at c
        obtain ⟨vs, h1, h2⟩ := hr
        injection e with e1 e2
        injection e1 with e3
        have dx : Dp X.K H x (pdat d1) := r1.dp (plain_refless 8 _ c.1)
        have dy : Dp X.K H (.ref a) (.list (pdats ys)) := .lst (SqL.of h1) (h2.dp (plains_refless 8 ys c.2))
        have sx : SeqAt.shaped (pdat d1) = true := shaped_of r1.lay (by have := plain_depth 8 _ c.1; omega)
        have sy : SeqAt.shaped (.list (pdats ys)) = true := shaped_of (show PyData.canLayAll0 (pdats ys) = true from h2.lay) (by
          show PyData.depthAll (pdats ys) + 1 ≤ 64
          have := plains_depth 8 ys c.2; omega)
        have eb := any_eqv c.1 c.2
        rw [e3] at eb
        refine ⟨e2.symm, fun Q q => ?_, fun Q q => ?_⟩
        · exact op_inD hu pins s σ H x _ v u Q I rx ry ⟨_, _, dx, dy, sx, sy, by rw [eb]; exact q⟩
        · exact op_notInD hu pins s σ H x _ v u Q I rx ry ⟨_, _, dx, dy, sx, sy, by rw [eb]; exact q⟩
      · cases e
    | dct kvs =>
      dsimp only at e
      split at e
      · rename_i c
        injection e with e1 e2
        injection e1 with e3
        obtain ⟨hs, hl, xs, hm, pr, _⟩ := hr.ofH I
        cases r1 with
        | @tup ka _ kds k1 k2 =>
          cases rx
          cases ry
          have hk := Rep.isKey I c (.tup k1 k2)
          have room : (nestedKind X.prog X.w).room X.A.in1 := by show X.A.units + 1 + 8 < cLine; omega
          have ea : (atKey xs (nkey (.tup kds))).isSome = b := by
            rcases ent_find c pr with ⟨f1, f2⟩ | ⟨d, p, v, f1, f2, _⟩
            · rw [f1] at e3; rw [f2]; exact e3
            · rw [f1] at e3; rw [f2]; exact e3
          refine ⟨e2.symm, fun Q q => ?_, fun Q q => ?_⟩
          · exact wpAny_in_heap room hk hs hm ⟨.bl _, H, I.tok _, rfl, by rw [ea]; exact q⟩
          · exact notIn_keyed room hk hs ⟨xs, hm, rfl⟩ ⟨.bl _, H, I.tok _, rfl, by rw [valueAt_pairsH, Option.isSome_map, ea]; exact q⟩
        | _ => cases c
      · cases e
  | @str b2 ok2 =>
    cases r1 with
    | @str a2 ok1 =>
      dsimp only at e
      split at e
      · rename_i c ec
        injection ec with ec
        subst ec
        injection e with e1 e2
        injection e1 with e3
        refine ⟨e2.symm, fun Q q => ?_, fun Q q => ?_⟩
        · exact op_in_sign pins s σ H _ _ v u Q I rx ry ⟨c, _, rfl, rfl, by rw [← e3] at q; simpa using q⟩
        · exact op_notIn_sign pins s σ H _ _ v u Q I rx ry ⟨c, _, rfl, rfl, by rw [← e3] at q; simpa using q⟩
      · cases e
    | _ => cases e
  | @tup a vs ys h1 h2 =>
    dsimp only at e
    split at e
    · rename_i c
      rw [Bool.and_eq_true] at c
      injection e with e1 e2
      injection e1 with e3
      have dx : Dp X.K H x (pdat d1) := r1.dp (plain_refless 8 _ c.1)
      have dy : Dp X.K H (.ref a) (.tuple (pdats ys)) := .tup h1 (h2.dp (plains_refless 8 ys c.2))
      have sx : SeqAt.shaped (pdat d1) = true := shaped_of r1.lay (by have := plain_depth 8 _ c.1; omega)
      have sy : SeqAt.shaped (.tuple (pdats ys)) = true := shaped_of (show PyData.canLayAll0 (pdats ys) = true from h2.lay) (by
        show PyData.depthAll (pdats ys) + 1 ≤ 64
        have := plains_depth 8 ys c.2; omega)
      have eb := any_eqv c.1 c.2
      rw [e3] at eb
      obtain ⟨as, q1⟩ := Dp.reads I _ x v dx rx
      obtain ⟨bs, q2⟩ := Dp.reads I _ _ u dy ry
      refine ⟨e2.symm, fun Q q => ?_, fun Q q => ?_⟩
      · exact SeqAt.in_tuple_reads q2 q1 (SeqAt.canLay_of_shaped sy) (SeqAt.canLay_of_shaped sx) (room_in_shaped sx hu) ⟨.bl _, H, I, rfl, by rw [eb]; exact q⟩
      · exact SeqAt.notIn_tuple_reads q2 q1 (SeqAt.canLay_of_shaped sy) (SeqAt.canLay_of_shaped sx) (room_in_shaped sx hu) ⟨.bl _, H, I, rfl, by rw [eb]; exact q⟩
    · cases e
  | _ => cases e
theorem in_bl {d1 d2 : D} {h h' : Hh} {d : D} (e : opIn d1 d2 h = .ok d h') : ∃ b, d = .bl b := by
  unfold opIn at e
  repeat' split at e
  all_goals first | (injection e with e1 _; exact ⟨_, e1.symm⟩) | cases e
theorem in_noexc {d1 d2 : D} {h h' : Hh} {c : Nat} (e : opIn d1 d2 h = .exc c h') : False := by
  unfold opIn at e
  repeat' split at e
  all_goals cases e
theorem or_in (hu : X.A.units + 65 < cLine) : OpR X (compareOp .In) (rAbs X.prog X.w X.K opIn) := by
  intro pins s σ H x y v u Q I rx ry ⟨W, F, σ0, B, h, d1, d2, xh, r1, r2, p⟩
  cases e : opIn d1 d2 h with
  | bad => rw [e] at p; exact p.elim
  | exc c h1 => exact (in_noexc e).elim
  | ok d h1 =>
    obtain ⟨b, rfl⟩ := in_bl e
    obtain ⟨rfl, q1, _⟩ := in_sem hu I rx ry xh r1 r2 e
    rw [e] at p
    exact q1 Q (p.now xh (.bl b))
theorem or_notin (hu : X.A.units + 65 < cLine) : OpR X (compareOp .NotIn) (rAbs X.prog X.w X.K opNotIn) := by
  intro pins s σ H x y v u Q I rx ry ⟨W, F, σ0, B, h, d1, d2, xh, r1, r2, p⟩
  unfold opNotIn at p
  cases e : opIn d1 d2 h with
  | bad => rw [e] at p; exact p.elim
  | exc c h1 => exact (in_noexc e).elim
  | ok d h1 =>
    obtain ⟨b, rfl⟩ := in_bl e
    obtain ⟨rfl, _, q2⟩ := in_sem hu I rx ry xh r1 r2 e
    rw [e] at p
    have p : Post X.prog X.w X.K W F (RpD X.K) B H σ0 (.ok (.bl (!b)) h1) Q := p
    exact q2 Q (p.now xh (.bl _))
/-! ### a[b] -/
def ixL (xs : List D) (y : D) (h : Hh) : Rs D := match y with
  | .int i => (match atI xs i with
    | some d => .ok d h
    | none => .bad)
  | _ => .bad
def opIx (x y : D) (h : Hh) : Rs D := match x with
  | .tup xs => ixL xs y h
  | .fro xs => ixL xs y h
  | .str cs => (match y with
    | .int i => if cs.length ≤ lim then (match atI cs i with
      | some c => .ok (.str [c]) h
      | none => .bad) else .bad
    | _ => .bad)
  | .ref j => (match h[j]? with
    | some (.lst xs) => ixL xs y h
    | some (.dct kvs) => if isKey y = true then (match dget kvs y with
      | some d => .ok d h
      | none => .bad) else .bad
    | none => .bad)
  | _ => .bad
theorem reps_atI {K : PySem.W.Frag} {B : List Addr} {H : Hp} {ds : List D} {vs : List V} {i : Int} {d : D} (r : Reps K B H ds vs) (e : atI ds i = some d) : ∃ v, atI vs i = some v ∧ Rep K B H d v := by
  unfold atI at e ⊢
  rw [← r.length]
  cases q : ixN ds.length i with
  | none => rw [q] at e; cases e
  | some j =>
    rw [q] at e
    exact r.get e
theorem ixr_any (hu : X.A.units + 65 < cLine) : IxR X (rAbs X.prog X.w X.K opIx) := by
  intro value slice pins s σ H x y v u Q I rx ry ⟨W, F, σ0, B, h, d1, d2, xh, r1, r2, p⟩ hs
  unfold opIx at p
  have seq : ∀ {xs : List D} {a : Addr} {vs : List V}, x = .ref a → (SqL X.K H a vs ∨ SqT X.K H a vs) → Reps X.K B H xs vs → Post X.prog X.w X.K W F (RpD X.K) B H σ0 (ixL xs d2 h) Q →
      wpAny (model X.prog X.w) X.A (subscriptTail value slice v u) (EP X pins σ Q) X.xe s := by
    intro xs a vs ex hq rs p
    unfold ixL at p
    cases r2 with
    | int i =>
      dsimp only at p
      cases e : atI xs i with
      | none => rw [e] at p; exact p.elim
      | some d =>
        rw [e] at p
        obtain ⟨z, e1, e2⟩ := reps_atI rs e
        refine ix_seq value slice pins s σ H x _ v u Q I rx ry ?_ hs
        rcases hq with hq | hq
        · exact .inl ⟨a, vs, i, z, ex, rfl, hq, e1, p.now xh e2⟩
        · exact .inr (.inl ⟨a, vs, i, z, ex, rfl, hq, e1, p.now xh e2⟩)
    | _ => exact p.elim
  cases r1 with
  | tup h1 h2 => exact seq rfl (.inr h1) h2 p
  | fro h1 h2 => exact seq rfl (.inl h1.sq) h2 p
  | @str cs ok =>
    cases r2 with
    | int i =>
      dsimp only at p
      split at p
      · rename_i hl
        cases e : atI cs i with
        | none => rw [e] at p; exact p.elim
        | some c =>
          rw [e] at p
          refine ix_seq value slice pins s σ H _ _ v u Q I rx ry (.inr (.inr ⟨_, i, c, rfl, rfl, by rw [str_len, lim_eq]; exact hl, by simpa using e, ?_⟩)) hs
          refine p.now xh (.str ?_)
          obtain ⟨j, _, e2, _⟩ := atI_get e
          simpa using List.all_eq_true.mp ok c (List.mem_of_getElem? e2)
      · exact p.elim
    | _ => exact p.elim
  | @ref j a hb =>
    obtain ⟨o, ho, hr⟩ := xh.get hb
    dsimp only at p
    rw [ho] at p
    cases o with
    | lst xs =>
      obtain ⟨vs, h1, h2⟩ := hr
      exact seq rfl (.inl (SqL.of h1)) h2 p
    | dct kvs =>
      dsimp only at p
      split at p
      · rename_i c
        obtain ⟨_, hl, xs, hm, pr, _⟩ := hr.ofH I
        cases r2 with
        | @tup ka _ _ k1 k2 =>
          cases rx
          cases ry
          have hk := Rep.isKey I c (.tup k1 k2)
          have room : (nestedKind X.prog X.w).room X.A.in1 := by show X.A.units + 1 + 8 < cLine; omega
          rcases ent_find c pr with ⟨f1, f2⟩ | ⟨d, q, z, f1, f2, f3, f4⟩
          · rw [f1] at p; exact p.elim
          · rw [f1] at p
            exact subscriptTail_builtinR (x := q.2) hm.typeIs slot_dict_getitem.lookup (wpAny_getItem_heap room hk hm f2 ⟨rfl, z, H, I.tok _, f3, p.now xh f4⟩) hs
        | _ => cases c
      · exact p.elim
  | _ => exact p.elim
theorem de_ix {W : WD} {F : Fl} {a b : Expr} {ma mb : EM} {pos : Pos} (hu : X.A.units + 65 < cLine) (ha : DE X W F a ma) (hb : DE X W F b mb) (hs : PlainIx b := by exact fun _ _ => rfl) : DE X W F (.Subscript a b pos) (xBin opIx ma mb) :=
  PE.imp (pe_ix (ixr_any hu) ha hb hs) fun _ _ _ q => bin_sem bs_abs q
end
end Dc
end
section
set_option Elab.async false
set_option linter.all false
set_option maxRecDepth 100000
set_option maxHeartbeats 4000000
namespace Dc
open PySem PySem.Spec PyProof.Rows L2
/-! ### a dict laid, written -/
theorem exO_ok {P : Program} {w : World} {H : Hp} {h : Heap} {a : Addr} {o : Obj} (e : h.get? a = some o) : ObjOk P w H h a (exO a o) :=
  ⟨e, ⟨o, e⟩, fun h1 h2 p k => k o p⟩
def newD : Obj := { cls := .type "dict", data := .dict #[] }
section
variable {X : Cx} {pins : List (Addr × Obj)} {σ : L2.St} {H : Hp} {s : Shared}
theorem newD_rep {P : Program} {w : World} {K : PySem.W.Frag} {B : List Addr} {a : Addr} (h1 : (a == sysModules) = false) (h2 : H a = some (exO a newD)) : ObRep P w K B H a (.dct []) :=
  ⟨h1, Nat.zero_le _, .nil, newD, #[], _, [], h2, ⟨rfl, rfl, rfl⟩, rfl, .nil, rfl⟩
theorem notSys (I : Inv X pins σ H s) {a : Addr} (h : s.heap.objs.size ≤ a) : (a == sysModules) = false := by
  have := I.big
  have e : a ≠ sysModules := Nat.ne_of_gt (Nat.lt_of_lt_of_le this h)
  exact beq_eq_false_iff_ne.mpr e
theorem dput_len (kvs : List (D × D)) (k v : D) : (dput kvs k v).length ≤ kvs.length + 1 := by
  unfold dput
  split <;> simp
theorem dput_keys {kvs : List (D × D)} {k v : D} (h : (kvs.map (·.1)).Nodup) : ((dput kvs k v).map (·.1)).Nodup := by
  unfold dput
  split
  · have e : (kvs.map fun p => if D.beq p.1 k then (p.1, v) else p).map (·.1) = kvs.map (·.1) := by
      rw [List.map_map]
      refine List.map_congr_left fun p _ => ?_
      show (if D.beq p.1 k then (p.1, v) else p).1 = p.1
      split <;> rfl
    rw [e]; exact h
  · rename_i c
    rw [List.map_append, List.nodup_append]
    refine ⟨h, by simp, fun a ha b hb => ?_⟩
    simp at hb
    subst hb
    intro z
    subst z
    apply c
    obtain ⟨p, hp, e⟩ := List.mem_map.mp ha
    exact List.any_eq_true.mpr ⟨p, hp, by rw [e]; exact D.beq_self _⟩
theorem ent_any {w : World} {K : PySem.W.Frag} {B : List Addr} {k : D} (hk : isKey k = true) {kvs : List (D × D)} {xs : List (NestedKey × Addr × Value)} (p : Paired (EntOk w K B H) kvs xs) : (kvs.any fun p => D.beq p.1 k) = (atKey xs (nkey k)).isSome := by
  induction p with
  | nil => rfl
  | @cons kv x kvs xs r t ih =>
    obtain ⟨z1, z2, _⟩ := r
    unfold atKey at ih ⊢
    rw [List.any_cons, List.find?_cons]
    by_cases e : kv.1 = k
    · have e1 : D.beq kv.1 k = true := by rw [e]; exact D.beq_self k
      have e2 : decide (x.1 = nkey k) = true := decide_eq_true (by rw [z2, e])
      rw [e1, e2]; rfl
    · have e1 : D.beq kv.1 k = false := by rw [beq_dec]; exact decide_eq_false e
      have e2 : decide (x.1 = nkey k) = false := decide_eq_false fun q => e (key_inj z1 hk (by rw [← z2, q]))
      rw [e1, e2, Bool.false_or]
      exact ih
theorem ent_put {w : World} {K : PySem.W.Frag} {B : List Addr} {k v : D} {ka : Addr} {vv : V} {u : Value} (hk : isKey k = true) (rk : Rep K B H k (.ref ka)) (rv : Rep K B H v vv) (ru : RelV vv u) {kvs : List (D × D)} {xs : List (NestedKey × Addr × Value)} (p : Paired (EntOk w K B H) kvs xs) :
    Paired (EntOk w K B H) (dput kvs k v) (storedH xs (nkey k) ka u) := by
  unfold dput storedH
  rw [ent_any hk p]
  split
  · have all : ∀ {l1 : List (D × D)} {l2 : List (NestedKey × Addr × Value)}, Paired (EntOk w K B H) l1 l2 → Paired (EntOk w K B H) (l1.map fun p => if D.beq p.1 k then (p.1, v) else p) (l2.map (putAt (nkey k) u)) := by
      intro l1 l2 p
      induction p with
      | nil => exact .nil
      | @cons kv x _ _ r _ ih =>
        refine .cons ?_ ih
        obtain ⟨z1, z2, z3, z⟩ := r
        unfold putAt
        by_cases e : kv.1 = k
        · have e1 : D.beq kv.1 k = true := by rw [e]; exact D.beq_self k
          dsimp only
          rw [e1, if_pos rfl, if_pos (by rw [z2, e])]
          exact ⟨z1, z2, z3, vv, ru, rv⟩
        · have e1 : D.beq kv.1 k = false := by rw [beq_dec]; exact decide_eq_false e
          dsimp only
          rw [e1, if_neg (by decide), if_neg fun q => e (key_inj z1 hk (by rw [← z2, q]))]
          exact ⟨z1, z2, z3, z⟩
    exact all p
  · have app : ∀ {l1 : List (D × D)} {l2 : List (NestedKey × Addr × Value)}, Paired (EntOk w K B H) l1 l2 → Paired (EntOk w K B H) (l1 ++ [(k, v)]) (l2 ++ [(nkey k, ka, u)]) := by
      intro l1 l2 p
      induction p with
      | nil => exact .cons ⟨hk, rfl, rk, vv, ru, rv⟩ .nil
      | cons r _ ih => exact .cons r ih
    exact app p
theorem ent_grow {w : World} {K : PySem.W.Frag} {B B' : List Addr} {H' : Hp} (g : Grow B H B' H') {kvs : List (D × D)} {xs : List (NestedKey × Addr × Value)} (p : Paired (EntOk w K B H) kvs xs) : Paired (EntOk w K B' H') kvs xs :=
  Paired.mapP p fun _ _ ⟨z1, z2, z3, v, z4, z5⟩ => ⟨z1, z2, z3.grow g, v, z4, z5.grow g⟩
/-- behind a store: the dict's new object -/
theorem dict_new {P : Program} {w : World} {K : PySem.W.Frag} {B : List Addr} {h' : Heap} {a : Addr} {kvs : List (D × D)} {xs : List (NestedKey × Addr × Value)} (hs : (a == sysModules) = false) (hl : kvs.length ≤ sizeLine) (hn : (kvs.map (·.1)).Nodup)
    (hm : h'.DictOfH (nestedKind P w) a xs) : ∃ o, h'.get? a = some o ∧ ∀ B' H', Paired (EntOk w K B' H') kvs xs → H' a = some (exO a o) → ObRep P w K B' H' a (.dct kvs) := by
  obtain ⟨o, es, ep, h1, h2, h3, h4, _⟩ := hm
  exact ⟨o, h1, fun B' H' pr e => ⟨hs, hl, hn, o, es, ep, xs, e, h2, h3, pr, h4⟩⟩
end
/-! ### o[i] = v -/
def putD (F : Fl) (o i v : D) (h : Hh) : Option Hh := match o with
  | .ref j => if F.may j = true then (match h[j]? with
    | some (.lst xs) => (match i with
      | .int k => (match ixN xs.length k with
        | some n => some (h.set j (.lst (xs.set n v)))
        | none => none)
      | _ => none)
    | some (.dct kvs) => if (isKey i && decide (kvs.length < lim)) = true then some (h.set j (.dct (dput kvs i v))) else none
    | none => none) else none
  | _ => none
def tPutA (P : Program) (w : World) (K : PySem.W.Frag) (F : Fl) : TSet := fun o i v H Q => ∃ B h d1 d2 d3, RelH P w K B h H ∧ Rep K B H d1 o ∧ Rep K B H d2 i ∧ Rep K B H d3 v ∧ (match putD F d1 d2 d3 h with
  | some h' => ∀ B' H', Step F B H B' H' → RelH P w K B' h' H' → Q H'
  | none => False)
section
variable {X : Cx} {W : WD} {F : Fl}
theorem set_any (hu : X.A.units + 65 < cLine) : PSet X (tPutA X.prog X.w X.K F) := by
  intro pins s σ H o i v ov iv u Q I ro ri rv ⟨B, h, d1, d2, d3, xh, r1, r2, r3, p⟩
  unfold putD at p
  cases r1 with
  | @ref j a hb =>
    obtain ⟨ob, ho, hr⟩ := xh.get hb
    dsimp only at p
    split at p
    · rename_i h' e
      by_cases may : F.may j = true
      · rw [if_pos may, ho] at e
        cases ob with
        | lst xs =>
          dsimp only at e
          cases r2 with
          | int k =>
            dsimp only at e
            cases ei : ixN xs.length k with
            | none => rw [ei] at e; cases e
            | some n =>
              rw [ei] at e
              cases e
              obtain ⟨vs, h1, h2⟩ := hr
              refine set_list pins s σ H _ _ v ov iv u Q I ro ri rv ⟨a, vs, k, n, rfl, rfl, h1, by rw [← h2.length]; exact ei, ?_⟩
              have st : Step F B H B (upd H a (.lst (vs.set n v))) := step_set xh hb may
              exact p B _ st (xh.set hb ⟨_, upd_same, (h2.step st).set (r3.step st) n⟩)
          | _ => cases e
        | dct kvs =>
          dsimp only at e
          split at e
          · rename_i c
            rw [Bool.and_eq_true] at c
            cases e
            obtain ⟨hs, hl, xs, hm, pr, o0, ho0⟩ := hr.ofH I
            have hn : (kvs.map (·.1)).Nodup := hr.2.2.1
            cases r2 with
            | @tup ka _ kds k1 k2 =>
              obtain rfl : ov = Value.ref a := ro
              obtain rfl : iv = Value.ref ka := ri
              have hk := Rep.isKey I c.1 (.tup k1 k2)
              have room : (nestedKind X.prog X.w).room X.A.in1 := by show X.A.units + 1 + 8 < cLine; omega
              have hlim : kvs.length < lim := of_decide_eq_true c.2
              refine wpAny_setItem_heap room hk hm (fun hp hm' sb => ?_) (by rw [← paired_len pr]; exact hl)
              obtain ⟨o1, e1, nw⟩ := dict_new (P := X.prog) (w := X.w) (K := X.K) (B := B) hs (by have := dput_len kvs (.tup kds) d3; rw [lim_eq]; omega) (dput_keys (k := .tup kds) (v := d3) hn) hm'
              have st : Step F B H B (upd H a (exO a o1)) := step_set xh hb may
              refine ⟨upd H a (exO a o1), I.write (by rw [ho0]; trivial) (.inl rfl) (fun b ob hne q => (sb.2 b hne).trans q) ⟨o1, e1⟩ (exO_ok e1), p B _ st (xh.set hb (nw _ _ ?_ upd_same))⟩
              exact ent_grow st.grow (ent_put c.1 (.tup k1 k2) r3 rv pr)
            | _ => cases c.1
          · cases e
      · rw [if_neg may] at e; cases e
    · exact p.elim
  | _ => exact p.elim
def bPut (F : Fl) (me mo mi : EM) : SM := fun r h => match me r h with
  | .ok d h1 => (match mo r h1 with
    | .ok o h2 => (match mi r h2 with
      | .ok i h3 => (match putD F o i d h3 with
        | some h4 => .nx r h4
        | none => .bad)
      | .exc c h3 => .ex c r h3
      | .bad => .bad)
    | .exc c h2 => .ex c r h2
    | .bad => .bad)
  | .exc c h1 => .ex c r h1
  | .bad => .bad
theorem ds_put {e o i : Expr} {me mo mi : EM} {pos p : Pos} (hu : X.A.units + 65 < cLine) (he : DE X W F e me) (ho : DE X W F o mo) (hi : DE X W F i mi)
    (ha : ∀ v, assign (.Subscript o i p) X.env v = (do
      let ov ← holding [v] (eval o X.env)
      let iv ← holding [v, ov] (eval i X.env)
      standAt p
      holding [v, ov, iv] (setItem ov iv v)
      release [v, ov, iv] []) := by intro _; rfl)
    (hs : swapsWithSole [.Subscript o i p] e pos.line X.env = pure false := by rfl) (hw : swappedStores [.Subscript o i p] e X.env = pure none := by rfl)
    (h1 : (assignEach [.Subscript o i p] X.env).map (·.2) = [assign (.Subscript o i p) X.env] := by rfl) : DS X W F (.Assign [.Subscript o i p] e pos) (bPut F me mo mi) := by
  refine PS.imp (ps_asg he (pg_sub ho hi (set_any (F := F) hu) ha) hs hw h1) fun D σ H q => ?_
  obtain ⟨B, r, h, hE, hH, q⟩ := q
  refine ⟨B, r, h, hE, hH, ?_⟩
  unfold bPut at q
  cases e1 : me r h with
  | bad => rw [e1] at q; exact q
  | exc c h1 => rw [e1] at q; exact fun B1 H1 s1 x1 => q B1 σ H1 s1 (hE.step s1) x1
  | ok d h1 =>
    rw [e1] at q
    intro B1 v H1 s1 x1 r1
    have q := q.later s1
    dsimp only at q
    refine ⟨B1, r, h1, hE.step s1, x1, ?_⟩
    cases e2 : mo r h1 with
    | bad => rw [e2] at q; exact q
    | exc c h2 => rw [e2] at q; exact fun B2 H2 s2 x2 => q B2 σ H2 s2 ((hE.step s1).step s2) x2
    | ok od h2 =>
      rw [e2] at q
      intro B2 ov H2 s2 x2 r2
      have q := q.later s2
      dsimp only at q
      refine ⟨B2, r, h2, (hE.step s1).step s2, x2, ?_⟩
      cases e3 : mi r h2 with
      | bad => rw [e3] at q; exact q
      | exc c h3 => rw [e3] at q; exact fun B3 H3 s3 x3 => q B3 σ H3 s3 (((hE.step s1).step s2).step s3) x3
      | ok id h3 =>
        rw [e3] at q
        intro B3 iv H3 s3 x3 r3
        have q := q.later s3
        dsimp only at q
        refine ⟨B3, h3, od, id, d, x3, r2.step s3, r3, (r1.step s2).step s3, ?_⟩
        cases e4 : putD F od id d h3 with
        | none => rw [e4] at q; exact q
        | some h4 => rw [e4] at q; exact fun B4 H4 s4 x4 => q B4 σ H4 s4 ((((hE.step s1).step s2).step s3).step s4) x4
/-! ### dict displays -/
def xDict0 : EM := fun _ h => .ok (.ref h.length) (h ++ [.dct []])
theorem de_dict0 {pos : Pos} : DE X W F (.Dict [] [] pos) xDict0 := by
  refine ⟨fun pins s σ H Q I q => wpAny_Dict_empty ?_⟩
  obtain ⟨B, r, h, hE, hH, p⟩ := q
  have hf : H s.heap.objs.size = none := I.hok.fresh (Nat.le_refl _)
  refine ⟨.ref s.heap.objs.size, upd H s.heap.objs.size (exO s.heap.objs.size newD), I.laid (t' := s.toks) (fun b u e => Heap.get?_push_of_some _ e) (Nat.le_refl _) (exO_ok (Heap.get?_push_size _ rfl)), rfl, ?_⟩
  have st : Step F B H (B ++ [s.heap.objs.size]) (upd H s.heap.objs.size (exO s.heap.objs.size newD)) := step_push hH hf
  exact p _ _ _ st (hH.push hf (newD_rep (notSys I (Nat.le_refl _)) upd_same)) (.ref (by simp [hH.len]))
def xDict1 (mk mv : EM) : EM := fun r h => (mk r h).bind fun k h1 => (mv r h1).bind fun v h2 => if isKey k = true then .ok (.ref h2.length) (h2 ++ [.dct [(k, v)]]) else .bad
theorem de_dict1 {k v : Expr} {mk mv : EM} {pos : Pos} (hu : X.A.units + 65 < cLine) (hk : DE X W F k mk) (hv : DE X W F v mv) : DE X W F (.Dict [some k] [v] pos) (xDict1 mk mv) := by
  refine ⟨fun pins s σ H Q I q => ?_⟩
  obtain ⟨B, r, h, hE, hH, p⟩ := q
  have hf : H s.heap.objs.size = none := I.hok.fresh (Nat.le_refl _)
  have I1 : Inv X pins σ (upd H s.heap.objs.size (exO s.heap.objs.size newD)) { s with heap := s.heap.push newD } := I.laid (t' := s.toks) (fun b u e => Heap.get?_push_of_some _ e) (Nat.le_refl _) (exO_ok (Heap.get?_push_size _ rfl))
  have s0 : Step F B H B (upd H s.heap.objs.size (exO s.heap.objs.size newD)) := step_new hH hf
  have nB : s.heap.objs.size ∉ B := fun z => hH.ne z hf rfl
  have hD := L2.pps_cons (X := X) (pos := pos) hk hv (L2.pps_nil (X := X) (pos := pos))
  have room : (nestedKind X.prog X.w).room X.A := by show X.A.units + 8 < cLine; omega
  rw [arm_eval_Dict, zip_pairTrees [some k] [v] X.env pos rfl rfl, dictDisplay_pairs _ (by exact fun z => nomatch z) (by show 1 < 17; decide)]
  refine wpAny_bind (wpAny_standAt (wpAny_bind (wpAny_subDictH (knd := nestedKind X.prog X.w) room (by show 1 ≤ 15; decide) ?_)))
  refine thn (hD.run pins _ σ _ (fun ps H2 => ∃ B2 h2 kd vd x y, ps = [(x, y)] ∧ Step F B (upd H s.heap.objs.size (exO s.heap.objs.size newD)) B2 H2 ∧ RelH X.prog X.w X.K B2 h2 H2 ∧ Rep X.K B2 H2 kd x ∧ Rep X.K B2 H2 vd y ∧ isKey kd = true ∧
    Post X.prog X.w X.K W F (RpD X.K) B H σ (.ok (.ref h2.length) (h2 ++ [.dct [(kd, vd)]])) Q) I1 ?_) fun ws s2 ⟨ps, H2, I2, rel, B2, h2, kd, vd, x, y, eps, s2', x2, rk, rv, hkey, pf⟩ => ?_
  · refine ⟨B, r, h, hE.step s0, hH.new hf, ?_⟩
    unfold xDict1 at p
    cases e1 : mk r h with
    | bad => rw [e1] at p; exact p.elim
    | exc c h1 => rw [e1] at p; exact fun B1 H1 s1 x1 => p B1 H1 (s0.trans s1) x1
    | ok kd h1 =>
      rw [e1] at p
      intro B1 x H1 s1 x1 r1
      refine ⟨B1, r, h1, (hE.step s0).step s1, x1, ?_⟩
      have p : Post X.prog X.w X.K W F (RpD X.K) B H σ ((mv r h1).bind fun v h2 => if isKey kd = true then .ok (.ref h2.length) (h2 ++ [.dct [(kd, v)]]) else .bad) Q := p
      cases e2 : mv r h1 with
      | bad => rw [e2] at p; exact p.elim
      | exc c h2 => rw [e2] at p; exact fun B2 H2 s2 x2 => p B2 H2 ((s0.trans s1).trans s2) x2
      | ok vd h2 =>
        rw [e2] at p
        intro B2 y H2 s2 x2 r2
        have p : Post X.prog X.w X.K W F (RpD X.K) B H σ (if isKey kd = true then .ok (.ref h2.length) (h2 ++ [.dct [(kd, vd)]]) else .bad) Q := p
        by_cases hk2 : isKey kd = true
        · rw [if_pos hk2] at p
          exact ⟨B2, h2, kd, vd, x, y, rfl, s1.trans s2, x2, r1.step s2, r2, hk2, p⟩
        · rw [if_neg hk2] at p; exact p.elim
  · subst eps
    have hP : H2 s.heap.objs.size = some (exO s.heap.objs.size newD) := s2'.oth _ _ nB upd_same
    have nB2 : s.heap.objs.size ∉ B2 := notin_step s2' nB upd_same
    have sB : Step F B H B2 H2 := s0.trans s2'
    have kt : ∃ ka kds kxs, kd = .tup kds ∧ x = .ref ka ∧ SqT X.K H2 ka kxs ∧ Reps X.K B2 H2 kds kxs := by
      cases rk with
      | tup h1 h2 => exact ⟨_, _, _, rfl, rfl, h1, h2⟩
      | _ => cases hkey
    obtain ⟨ka, kds, kxs, rfl, rfl, k1, k2⟩ := kt
    cases rel with
    | @cons _ wq _ _ rw0 rwn =>
      cases rwn
      obtain ⟨wk, wv⟩ := wq
      obtain ⟨rw1, rw2⟩ := rw0
      have rw1 : wk = Value.ref ka := rw1
      subst rw1
      refine ⟨[(nkey (.tup kds), ka, wv)], ⟨rfl, rfl, Rep.isKey I2 hkey (.tup k1 k2), trivial⟩, ?_, fun h' tk hm sb => ?_⟩
      · exact ⟨newD, #[], _, (I2.hok _ _ hP).1, ⟨rfl, rfl, rfl⟩, rfl, rfl, (fun x hx => by cases hx), List.nodup_nil⟩
      · have pr : Paired (EntOk X.w X.K B2 H2) [(D.tup kds, vd)] [(nkey (.tup kds), ka, wv)] := .cons ⟨hkey, rfl, .tup k1 k2, y, rw2, rv⟩ .nil
        obtain ⟨o1, e1, nw⟩ := dict_new (P := X.prog) (w := X.w) (K := X.K) (B := B2) (kvs := [(D.tup kds, vd)]) (notSys I (Nat.le_refl _)) (by rw [sizeLine_eq]; show 1 ≤ 16777216; decide) (by simp) hm
        have g : Grow B2 H2 (B2 ++ [s.heap.objs.size]) (upd H2 s.heap.objs.size (exO s.heap.objs.size o1)) := ⟨⟨_, rfl⟩, fun a xs q => by rw [upd_ne (ne_of q hP fun z => by cases z)]; exact q, fun a o' u q => by rw [upd_ne (ne_of q hP fun z => by cases z)]; exact q⟩
        refine wpAny_pure ⟨.ref s.heap.objs.size, upd H2 s.heap.objs.size (exO s.heap.objs.size o1), I2.write (by rw [hP]; trivial) (.inl rfl) (fun b ob hne q => (sb.2 b hne).trans q) ⟨o1, e1⟩ (exO_ok e1), rfl, ?_⟩
        refine pf (B2 ++ [s.heap.objs.size]) _ _ ⟨?_, fun a xs q => ?_, fun a o' u q => ?_, fun i a q m => ?_, fun a o' n q => ?_, fun a q => ?_⟩ ⟨?_, by simp [x2.len], fun i ob a q1 q2 => ?_⟩ (.ref (by simp [x2.len]))
        · obtain ⟨t, rfl, ht⟩ := sB.pre
          exact ⟨t ++ [s.heap.objs.size], by simp, fun a ha => by
            rcases List.mem_append.mp ha with ha | ha
            · exact ht a ha
            · simp at ha; subst ha; exact hf⟩
        · exact g.tup a xs (sB.tup a xs q)
        · exact g.frz a o' u (sB.frz a o' u q)
        · rw [upd_ne (show a ≠ s.heap.objs.size from fun z => nB (by rw [← z]; exact List.mem_of_getElem? q))]; exact sB.keep i a q m
        · rw [upd_ne (ne_of_none q hf)]; exact sB.oth a o' n q
        · by_cases z : a = s.heap.objs.size
          · rw [z, upd_same]; simp
          · rw [upd_ne z]; exact sB.dom a q
        · rw [List.nodup_append]
          exact ⟨x2.nd, by simp, fun a ha b hb => by simp at hb; subst hb; exact fun z => nB2 (z ▸ ha)⟩
        · by_cases hi : i < B2.length
          · rw [List.getElem?_append_left (by rw [x2.len]; exact hi)] at q1
            rw [List.getElem?_append_left hi] at q2
            refine (x2.ob i ob a q1 q2).grow g (upd_ne fun z => nB2 ?_)
            rw [← z]; exact List.mem_of_getElem? q2
          · have e : i = B2.length := by
              have := (List.getElem?_eq_some_iff.mp q2).1
              simp at this; omega
            subst e
            rw [List.getElem?_append_right (Nat.le_of_eq x2.len)] at q1
            rw [List.getElem?_append_right (Nat.le_refl _)] at q2
            simp [x2.len] at q1 q2
            subst q1; subst q2
            exact nw _ _ (ent_grow g pr) upd_same
end
end Dc
end
section
set_option Elab.async false
set_option linter.all false
set_option maxRecDepth 100000
set_option maxHeartbeats 4000000
namespace Dc
open PySem PySem.Spec PyProof.Rows L2
/-! ### methods of built-in types -/
def TyAt (X : Cx) (T : String) (ty : V → Hp → Prop) : Prop := ∀ (pins : List (Addr × Obj)) (σ : L2.St) (H : Hp) (s : Shared) (x : V) (v : Value), Inv X pins σ H s → RelV x v → ty x H → s.TypeIs v T ∧ ∀ a, v = .ref a → ∃ ob, s.heap.get? a = some ob ∧ ob.dict = none
def tBMT (ty : V → Hp → Prop) (r : V → List V → Hp → VK → Prop) (to : TE) (t : TA) : TE := fun σ H Q => to σ H fun x H1 => ty x H1 ∧ t σ H1 fun xs H2 => r x xs H2 Q
section
variable {X : Cx} {o e : Expr} {es : List Expr} {to : TE} {t : TA} {name : Str} {apos cpos : Pos} {T id : String} {r : V → List V → Hp → VK → Prop} {ty : V → Hp → Prop}
theorem pe_bmT0 (pa : PlainAttrs T) (slot : Slot T name id) (hty : typeOf (.builtin id) = pure (.type "method_descriptor")) (hT : TyAt X T ty) (hm : MtR X id r) (ho : PE X o to)
    (hbase : attributeBase o name X.env (eval o X.env) = eval o X.env := by rfl) (hline : (apos.endLine == cpos.line) = true := by rfl) : PE X (.Call (.Attribute o name apos) [] [] cpos) (tBMT ty r to tNil) := by
  refine ⟨fun pins s σ H Q I h => ?_⟩
  refine wpAny_Call_method0_late hbase hline (thn (ho.run pins s σ H _ I h) fun v s1 ⟨x, H1, I1, r1, t1, q1⟩ => ?_)
  have z := hT pins σ H1 s1 x v I1 r1 t1
  exact ⟨T, id, pa, slot, hty, z.1, z.2, Calls.callWith_builtin rfl (PySem.evalArgs_none (hm pins s1 σ H1 x [] v [] Q I1 r1 .nil q1))⟩
theorem pe_bmT (pa : PlainAttrs T) (slot : Slot T name id) (hty : typeOf (.builtin id) = pure (.type "method_descriptor")) (hT : TyAt X T ty) (hm : MtR X id r) (ho : PE X o to) (ha : PA X (e :: es) t)
    (hbase : attributeBase o name X.env (eval o X.env) = eval o X.env := by rfl)
    (hfew : ((backTo cpos (starEach (e :: es) X.env)).all (fun x => !x.1) && (backToKw cpos (keywordEach [] X.env)).all (fun x => x.1.isSome)
      && decide ((e :: es).length + ([] : List Keyword).length + (if ([] : List Keyword).isEmpty then 0 else 1) < 30)) = true := by rfl)
    (hline : (apos.endLine == cpos.line) = true := by rfl) (hs : starEach (e :: es) X.env = (false, eval e X.env) :: starEach es X.env := by rfl) (hplain : (backTo cpos (starEach es X.env)).any (·.1) = false := by rfl) :
    PE X (.Call (.Attribute o name apos) (e :: es) [] cpos) (tBMT ty r to t) := by
  refine ⟨fun pins s σ H Q I h => ?_⟩
  refine wpAny_Call_method_late hbase hfew hline rfl (thn (ho.run pins s σ H _ I h) fun v s1 ⟨x, H1, I1, r1, t1, q1⟩ => ?_)
  have z := hT pins σ H1 s1 x v I1 r1 t1
  refine ⟨T, id, pa, slot, hty, z.1, z.2, ?_⟩
  have hA := ha.run cpos pins s1 σ H1 _ I1 q1
  rw [hs] at hA ⊢
  refine Calls.callWith_builtin (by show (false || (backTo cpos (starEach es X.env)).any (·.1)) = false; rw [hplain]; rfl) (Calls.evalArgs_plain ?_)
  exact thn hA fun us s2 ⟨vs, H2, I2, r2, q2⟩ => hm pins s2 σ H2 x vs v us Q I2 r1 r2 q2
end
inductive Ty where
  | list | dict | str
def Ty.nm : Ty → String
  | .list => "list" | .dict => "dict" | .str => "str"
def tyOk (T : Ty) (d : D) (h : Hh) : Bool := match d with
  | .str _ => (match T with | .str => true | _ => false)
  | .ref j => (match h[j]? with
    | some (.lst _) => (match T with | .list => true | _ => false)
    | some (.dct _) => (match T with | .dict => true | _ => false)
    | none => false)
  | _ => false
def tyA (P : Program) (w : World) (K : PySem.W.Frag) (T : Ty) : V → Hp → Prop := fun x H => ∃ B h d, RelH P w K B h H ∧ Rep K B H d x ∧ tyOk T d h = true
theorem tyA_at {X : Cx} {T : Ty} : TyAt X T.nm (tyA X.prog X.w X.K T) := by
  intro pins σ H s x v I rx ⟨B, h, d, xh, r, t⟩
  unfold tyOk at t
  cases r with
  | str ok =>
    cases T with
    | str => obtain ⟨tk, rfl⟩ := rx; exact ⟨typeIs_str s _ tk, fun _ e => nomatch e⟩
    | _ => cases t
  | @ref j a hb =>
    obtain ⟨ob, ho, hr⟩ := xh.get hb
    dsimp only at t
    rw [ho] at t
    cases rx
    cases ob with
    | lst xs =>
      cases T with
      | list =>
        obtain ⟨vs, h1, _⟩ := hr
        exact tyV_is I (x := .ref a) (T := "list") rfl (.inl ⟨rfl, _, SqL.of h1⟩)
      | _ => cases t
    | dct kvs =>
      cases T with
      | dict =>
        obtain ⟨_, _, xs, hm, _, o, e⟩ := hr.ofH I
        refine ⟨hm.typeIs, fun b eb => ?_⟩
        cases eb
        obtain ⟨o, es, ep, q, ex, _⟩ := hm
        exact ⟨o, q, ex.2.1⟩
      | _ => cases t
  | _ => cases t
def rAbsM (P : Program) (w : World) (K : PySem.W.Frag) (F : Fl) (f : D → List D → Hh → Rs D) : V → List V → Hp → VK → Prop := fun x xs H Q => ∃ W σ B h d ds, RelH P w K B h H ∧ Rep K B H d x ∧ Reps K B H ds xs ∧ Post P w K W F (RpD K) B H σ (f d ds h) Q
def xMeth (T : Ty) (f : D → List D → Hh → Rs D) (o : EM) (a : AM) : EM := fun r h => (o r h).bind fun x h1 => if tyOk T x h1 = true then (a r h1).bind fun ds h2 => f x ds h2 else .bad
section
variable {X : Cx} {W : WD} {F : Fl} {o e : Expr} {es : List Expr} {mo : EM} {ma : AM} {name : Str} {apos cpos : Pos} {id : String} {T : Ty} {f : D → List D → Hh → Rs D}
theorem meth_sem {σ : L2.St} {H : Hp} {Q : VK} (q : tD X.prog X.w X.K W F (xMeth T f mo ma) σ H Q) : tBMT (tyA X.prog X.w X.K T) (rAbsM X.prog X.w X.K F f) (tD X.prog X.w X.K W F mo) (tDA X.prog X.w X.K W F ma) σ H Q := by
  obtain ⟨B, r, h, hE, hH, p⟩ := q
  refine ⟨B, r, h, hE, hH, ?_⟩
  unfold xMeth at p
  cases e1 : mo r h with
  | bad => rw [e1] at p; exact p
  | exc c h1 => rw [e1] at p; exact p
  | ok d h1 =>
    rw [e1] at p
    intro B1 x H1 s1 x1 r1
    have p : Post X.prog X.w X.K W F (RpD X.K) B1 H1 σ (if tyOk T d h1 = true then (ma r h1).bind fun ds h2 => f d ds h2 else .bad) Q := Post.later s1 p
    by_cases t : tyOk T d h1 = true
    · rw [if_pos t] at p
      refine ⟨⟨B1, h1, d, x1, r1, t⟩, B1, r, h1, hE.step s1, x1, Post.bind p fun ds h2 B2 vs H2 s2 x2 r2 q2 => ⟨W, σ, B2, h2, d, ds, x2, r1.step s2, r2, q2⟩⟩
    · rw [if_neg t] at p; exact p.elim
theorem de_meth (pa : PlainAttrs T.nm) (slot : Slot T.nm name id) (hty : typeOf (.builtin id) = pure (.type "method_descriptor")) (hm : MtR X id (rAbsM X.prog X.w X.K F f)) (ho : DE X W F o mo) (ha : DA X W F (e :: es) ma)
    (hbase : attributeBase o name X.env (eval o X.env) = eval o X.env := by rfl)
    (hfew : ((backTo cpos (starEach (e :: es) X.env)).all (fun x => !x.1) && (backToKw cpos (keywordEach [] X.env)).all (fun x => x.1.isSome)
      && decide ((e :: es).length + ([] : List Keyword).length + (if ([] : List Keyword).isEmpty then 0 else 1) < 30)) = true := by rfl)
    (hline : (apos.endLine == cpos.line) = true := by rfl) (hs : starEach (e :: es) X.env = (false, eval e X.env) :: starEach es X.env := by rfl) (hplain : (backTo cpos (starEach es X.env)).any (·.1) = false := by rfl) :
    DE X W F (.Call (.Attribute o name apos) (e :: es) [] cpos) (xMeth T f mo ma) := PE.imp (pe_bmT pa slot hty tyA_at hm ho ha.pa hbase hfew hline hs hplain) fun _ _ _ q => meth_sem q
theorem de_meth0 (pa : PlainAttrs T.nm) (slot : Slot T.nm name id) (hty : typeOf (.builtin id) = pure (.type "method_descriptor")) (hm : MtR X id (rAbsM X.prog X.w X.K F f)) (ho : DE X W F o mo)
    (hbase : attributeBase o name X.env (eval o X.env) = eval o X.env := by rfl) (hline : (apos.endLine == cpos.line) = true := by rfl) :
    DE X W F (.Call (.Attribute o name apos) [] [] cpos) (xMeth T f mo xNil) := PE.imp (pe_bmT0 pa slot hty tyA_at hm ho hbase hline) fun σ H Q q => by
  obtain ⟨B, r, h, hE, hH, p⟩ := meth_sem q
  refine ⟨B, r, h, hE, hH, ?_⟩
  cases e1 : mo r h with
  | bad => rw [e1] at p; exact p
  | exc c h1 => rw [e1] at p; exact p
  | ok d h1 =>
    rw [e1] at p
    intro B1 x H1 s1 x1 r1
    obtain ⟨t1, B2, r2, h2, _, xh2, p2⟩ := p B1 x H1 s1 x1 r1
    exact ⟨t1, p2.now xh2 .nil⟩
/-! lists -/
def mAppend (F : Fl) (d : D) (ds : List D) (h : Hh) : Rs D := match d, ds with
  | .ref j, [y] => (match h[j]? with
    | some (.lst xs) => if (F.may j && decide (xs.length < lim)) = true then .ok .non (h.set j (.lst (xs ++ [y]))) else .bad
    | _ => .bad)
  | _, _ => .bad
theorem mt_app : MtR X "list.append" (rAbsM X.prog X.w X.K F (mAppend F)) := by
  intro pins s σ H x xs v us Q I rx rs ⟨W, σ0, B, h, d, ds, xh, r1, r2, p⟩
  unfold mAppend at p
  split at p
  · rename_i j y
    cases r1 with
    | @ref j a hb =>
      obtain ⟨ob, ho, hr⟩ := xh.get hb
      rw [ho] at p
      cases ob with
      | dct kvs => exact p.elim
      | lst zs =>
        dsimp only at p
        split at p
        · rename_i c
          rw [Bool.and_eq_true] at c
          obtain ⟨vs, h1, h2⟩ := hr
          cases r2 with
          | @cons _ yv _ _ ry rn =>
            cases rn
            refine mt_append pins s σ H _ _ v us Q I rx rs ⟨a, vs, yv, rfl, rfl, h1, by rw [← h2.length, lim_eq]; exact of_decide_eq_true c.2, ?_⟩
            have st : Step F B H B (upd H a (.lst (vs ++ [yv]))) := step_set xh hb c.1
            exact p B .non _ st (xh.set hb ⟨_, upd_same, (h2.step st).append (.one (ry.step st))⟩) .non
        · exact p.elim
  · exact p.elim
def mExtend (F : Fl) (d : D) (ds : List D) (h : Hh) : Rs D := match d, ds with
  | .ref j, [.ref i] => (match h[j]?, h[i]? with
    | some (.lst xs), some (.lst ys) => if (F.may j && decide (xs.length + ys.length ≤ lim)) = true then .ok .non (h.set j (.lst (xs ++ ys))) else .bad
    | _, _ => .bad)
  | .ref j, [.tup ys] => (match h[j]? with
    | some (.lst xs) => if (F.may j && decide (xs.length + ys.length ≤ lim)) = true then .ok .non (h.set j (.lst (xs ++ ys))) else .bad
    | _ => .bad)
  | _, _ => .bad
/-- list.extend(tuple) -/
theorem extend_tup (l : Addr) (items : Array Value) (n : Nat) (b : Addr) (o : Obj) (items2 : Array Value) (n2 : Nat) (ht : o.cls = .type "tuple") (hd : o.data = .seq items2 n2) (hs0 : ¬(!items.isEmpty && Builtin.List.listTooLong (items.size + items2.size)) = true) (hs1 : items.size ≤ sizeLine) (hs2 : items.size + items2.size ≤ sizeLine + 1) :
    Meets (Builtin.«list.extend» ⟨[.ref l, .ref b], []⟩) (fun _ R s => s.heap.get? l = some { cls := .type "list", dict := none, data := .seq items n, slots := #[] } ∧ s.heap.get? b = some o ∧ R (.ok (.ret Value.none)) { s with heap := s.heap.update l (Obj.mapSeq fun x => x ++ items2), toks := s.toks }) :=
  .of_wp fun prog w A R s h => by
    obtain ⟨hp, g, d, tk, os⟩ := s; obtain ⟨hl, hb, h⟩ := h; obtain ⟨c, dd, da, sl⟩ := o; dsimp only at ht hd; subst ht hd; have f1 := AutoSeq1.idx_int; have f2 := AutoSeq1.sub_tuple_tuple; have f3 := AutoSeq1.sub_list_list; have f4 := AutoSeq1.sub_tuple_list; have f5 := AutoSeq1.sub_list_tuple;
    have hz' : (items ++ items2).size ≤ sizeLine + 1 := by rw [Array.size_append]; exact hs2
    wp_walk using (wpAny_updateSeq hl rfl (hz := hs1) (_hz' := hz')), AutoSeq1.wpAny_loadPart' hl, AutoSeq1.wpAny_loadPart' hb; exact ⟨_, rfl, h⟩
def rExtendT (K : PySem.W.Frag) : V → List V → Hp → VK → Prop := fun x vs H Q => ∃ l b xs zs, x = .ref l ∧ vs = [.ref b] ∧ H l = some (.lst xs) ∧ SqT K H b zs ∧ xs.length + zs.length ≤ sizeLine ∧ Q .non (upd H l (.lst (xs ++ zs)))
theorem mt_extendT : MtM X "list.extend" (rExtendT X.K) := by
  intro pins s σ H x vs v us Q I rx rv h
  obtain ⟨l, b, xs, zs, rfl, rfl, hH, hB, hz, q⟩ := h
  cases rx
  obtain ⟨u, rfl, ru⟩ := rv.one
  cases ru
  obtain ⟨z, its, n, r, hl, e⟩ := I.lstM hH
  obtain ⟨its2, r2, ⟨o2, e2, c2, n2, d2⟩, hl2⟩ := I.tuple hB
  have l1 := r.length
  have l2 := r2.length
  have hsz : its.toArray.size + its2.toArray.size ≤ sizeLine := by rw [List.size_toArray, List.size_toArray]; omega
  have hlong : ¬ (!its.toArray.isEmpty && Builtin.List.listTooLong (its.toArray.size + its2.toArray.size)) = true := by
    rw [notLongL hsz, Bool.and_false]
    exact Bool.false_ne_true
  refine call_meets F.slot_list_extend ⟨_, e, rfl⟩ F.entry_list_extend (F.args_list_extend_2 _ _)
    (extend_tup l its.toArray n b o2 its2.toArray n2 c2 d2 hlong (by rw [List.size_toArray]; omega) (by omega)) ⟨e, e2, ?_⟩
  refine ⟨.non, _, I.lset (its' := its ++ its2) hH e (by simp) (r.append r2) ?_, rfl, q⟩
  rw [List.length_append]
  omega
theorem mt_ext : MtR X "list.extend" (rAbsM X.prog X.w X.K F (mExtend F)) := by
  intro pins s σ H x xs v us Q I rx rs ⟨W, σ0, B, h, d, ds, xh, r1, r2, p⟩
  unfold mExtend at p
  split at p
  · rename_i j i
    cases r1 with
    | @ref _ a hb =>
      cases r2 with
      | cons ry rn =>
        cases rn
        cases ry with
        | @ref _ b hb2 =>
          obtain ⟨ob, ho, hr⟩ := xh.get hb
          obtain ⟨ob2, ho2, hr2⟩ := xh.get hb2
          rw [ho, ho2] at p
          cases ob with
          | dct kvs => exact p.elim
          | lst zs =>
            cases ob2 with
            | dct kvs => exact p.elim
            | lst ys =>
              dsimp only at p
              split at p
              · rename_i c
                rw [Bool.and_eq_true] at c
                obtain ⟨vs, h1, h2⟩ := hr
                obtain ⟨ws, h3, h4⟩ := hr2
                refine mt_extend pins s σ H _ _ v us Q I rx rs ⟨a, b, vs, ws, rfl, rfl, h1, h3, by rw [← h2.length, ← h4.length, lim_eq]; exact of_decide_eq_true c.2, ?_⟩
                have st : Step F B H B (upd H a (.lst (vs ++ ws))) := step_set xh hb c.1
                exact p B .non _ st (xh.set hb ⟨_, upd_same, (h2.step st).append (h4.step st)⟩) .non
              · exact p.elim
  · rename_i j ys
    cases r1 with
    | @ref _ a hb =>
      cases r2 with
      | cons ry rn =>
        cases rn
        cases ry with
        | @tup b ws _ h3 h4 =>
          obtain ⟨ob, ho, hr⟩ := xh.get hb
          rw [ho] at p
          cases ob with
          | dct kvs => exact p.elim
          | lst zs =>
            dsimp only at p
            split at p
            · rename_i c
              rw [Bool.and_eq_true] at c
              obtain ⟨vs, h1, h2⟩ := hr
              refine mt_extendT pins s σ H _ _ v us Q I rx rs ⟨a, b, vs, ws, rfl, rfl, h1, h3, by rw [← h2.length, ← h4.length, lim_eq]; exact of_decide_eq_true c.2, ?_⟩
              have st : Step F B H B (upd H a (.lst (vs ++ ws))) := step_set xh hb c.1
              exact p B .non _ st (xh.set hb ⟨_, upd_same, (h2.step st).append (h4.step st)⟩) .non
            · exact p.elim
  · exact p.elim
def mPop (F : Fl) (d : D) (ds : List D) (h : Hh) : Rs D := match d, ds with
  | .ref j, [] => (match h[j]? with
    | some (.lst xs) => if F.may j = true then (match xs[xs.length - 1]? with
      | some y => .ok y (h.set j (.lst xs.dropLast))
      | none => .bad) else .bad
    | _ => .bad)
  | _, _ => .bad
theorem Reps.dropLast {K : PySem.W.Frag} {B : List Addr} {H : Hp} {ds : List D} {vs : List V} (r : Reps K B H ds vs) : Reps K B H ds.dropLast vs.dropLast := by
  rw [List.dropLast_eq_take, List.dropLast_eq_take, ← r.length]
  exact r.take _
theorem mt_popm : MtR X "list.pop" (rAbsM X.prog X.w X.K F (mPop F)) := by
  intro pins s σ H x xs v us Q I rx rs ⟨W, σ0, B, h, d, ds, xh, r1, r2, p⟩
  unfold mPop at p
  split at p
  · rename_i j
    cases r1 with
    | @ref _ a hb =>
      obtain ⟨ob, ho, hr⟩ := xh.get hb
      rw [ho] at p
      cases ob with
      | dct kvs => exact p.elim
      | lst zs =>
        dsimp only at p
        split at p
        · rename_i c
          obtain ⟨vs, h1, h2⟩ := hr
          cases r2
          cases e : zs[zs.length - 1]? with
          | none => rw [e] at p; exact p.elim
          | some y =>
            rw [e] at p
            obtain ⟨yv, e1, e2⟩ := h2.get e
            rw [h2.length] at e1
            refine mt_pop pins s σ H _ _ v us Q I rx rs ⟨a, vs, yv, rfl, rfl, h1, e1, ?_⟩
            have st : Step F B H B (upd H a (.lst vs.dropLast)) := step_set xh hb c
            exact p B yv _ st (xh.set hb ⟨_, upd_same, (h2.step st).dropLast⟩) (e2.step st)
        · exact p.elim
  · exact p.elim
/-! dicts -/
def mGet (d : D) (ds : List D) (h : Hh) : Rs D := match d with
  | .ref j => (match h[j]? with
    | some (.dct kvs) => (match ds with
      | [k, x] => if isKey k = true then .ok ((dget kvs k).getD x) h else .bad
      | _ => .bad)
    | _ => .bad)
  | _ => .bad
theorem key_cases {K : PySem.W.Frag} {B : List Addr} {H : Hp} {k : D} {v : V} (hk : isKey k = true) (r : Rep K B H k v) : ∃ a, v = .ref a := by
  cases r with
  | tup h1 h2 => exact ⟨_, rfl⟩
  | _ => cases hk
theorem mt_dget (hu : X.A.units + 65 < cLine) : MtR X "dict.get" (rAbsM X.prog X.w X.K F mGet) := by
  intro pins s σ H x xs v us Q I rx rs ⟨W, σ0, B, h, d, ds, xh, r1, r2, p⟩
  unfold mGet at p
  cases r1 with
  | @ref j a hb =>
    obtain ⟨ob, ho, hr⟩ := xh.get hb
    dsimp only at p
    rw [ho] at p
    cases ob with
    | lst zs => exact p.elim
    | dct kvs =>
      dsimp only at p
      split at p
      · rename_i k dx
        split at p
        · rename_i c
          obtain ⟨hs, hl, es, hm, pr, _⟩ := hr.ofH I
          cases r2 with
          | @cons _ kv _ _ rk rn =>
            cases rn with
            | @cons _ xv _ _ rx2 rn =>
              cases rn
              obtain ⟨ka, rfl⟩ := key_cases c rk
              cases rs with
              | @cons _ u1 _ _ q1 q2 =>
                cases q2 with
                | @cons _ u2 _ _ q3 q4 =>
                  cases q4
                  obtain rfl : v = Value.ref a := rx
                  obtain rfl : u1 = Value.ref ka := q1
                  have hk := Rep.isKey I c rk
                  have room : (nestedKind X.prog X.w).room X.A.in1 := by show X.A.units + 1 + 8 < cLine; omega
                  refine getOr_keyed room hk hs ⟨es, hm, rfl⟩ ?_
                  rw [valueAt_pairsH]
                  rcases ent_find c pr with ⟨f1, f2⟩ | ⟨d, q, z, f1, f2, f3, f4⟩
                  · rw [f1] at p
                    rw [f2]
                    exact ⟨xv, H, I.tok _, q3, p.now xh rx2⟩
                  · rw [f1] at p
                    rw [f2]
                    exact ⟨z, H, I.tok _, f3, p.now xh f4⟩
        · exact p.elim
      · exact p.elim
  | _ => exact p.elim
def mSetd (F : Fl) (d : D) (ds : List D) (h : Hh) : Rs D := match d with
  | .ref j => (match h[j]? with
    | some (.dct kvs) => (match ds with
      | [k, x] => if (isKey k && F.may j && decide (kvs.length < lim)) = true then (match dget kvs k with
        | some y => .ok y h
        | none => .ok x (h.set j (.dct (kvs ++ [(k, x)])))) else .bad
      | _ => .bad)
    | _ => .bad)
  | _ => .bad
theorem dput_none {kvs : List (D × D)} {k v : D} (h : dget kvs k = none) : dput kvs k v = kvs ++ [(k, v)] := by
  unfold dput
  rw [if_neg]
  unfold dget at h
  intro z
  obtain ⟨p, hp, e⟩ := List.any_eq_true.mp z
  cases q : kvs.find? fun p => D.beq p.1 k with
  | none => exact absurd e (List.find?_eq_none.mp q p hp)
  | some y => rw [q] at h; cases h
theorem mt_setd (hu : X.A.units + 65 < cLine) : MtR X "dict.setdefault" (rAbsM X.prog X.w X.K F (mSetd F)) := by
  intro pins s σ H x xs v us Q I rx rs ⟨W, σ0, B, h, d, ds, xh, r1, r2, p⟩
  unfold mSetd at p
  cases r1 with
  | @ref j a hb =>
    obtain ⟨ob, ho, hr⟩ := xh.get hb
    dsimp only at p
    rw [ho] at p
    cases ob with
    | lst zs => exact p.elim
    | dct kvs =>
      dsimp only at p
      split at p
      · rename_i k dx
        split at p
        · rename_i c
          rw [Bool.and_eq_true, Bool.and_eq_true] at c
          have hlim : kvs.length < lim := of_decide_eq_true c.2
          obtain ⟨hs, hl, es, hm, pr, o0, ho0⟩ := hr.ofH I
          have hn : (kvs.map (·.1)).Nodup := hr.2.2.1
          cases r2 with
          | @cons _ kv _ _ rk rn =>
            cases rn with
            | @cons _ xv _ _ rx2 rn =>
              cases rn
              obtain ⟨ka, rfl⟩ := key_cases c.1.1 rk
              cases rs with
              | @cons _ u1 _ _ q1 q2 =>
                cases q2 with
                | @cons _ u2 _ _ q3 q4 =>
                  cases q4
                  obtain rfl : v = Value.ref a := rx
                  obtain rfl : u1 = Value.ref ka := q1
                  have hk := Rep.isKey I c.1.1 rk
                  have room : (nestedKind X.prog X.w).room X.A.in1 := by show X.A.units + 1 + 8 < cLine; omega
                  rcases ent_find c.1.1 pr with ⟨f1, f2⟩ | ⟨d, q, z, f1, f2, f3, f4⟩
                  · rw [f1] at p
                    dsimp only at p
                    refine call_setdefault_heap room hk hs hm (fun q e => by rw [f2] at e; cases e) (fun _ hp hm' sb => ?_) (by rw [← paired_len pr]; exact hl)
                    have e0 := dput_none (v := dx) f1
                    obtain ⟨o1, e1, nw⟩ := dict_new (P := X.prog) (w := X.w) (K := X.K) (B := B) hs (kvs := dput kvs k dx) (by have := dput_len kvs k dx; rw [lim_eq]; omega) (dput_keys hn) hm'
                    have st : Step F B H B (upd H a (exO a o1)) := step_set xh hb c.1.2
                    refine ⟨xv, upd H a (exO a o1), I.write (by rw [ho0]; trivial) (.inl rfl) (fun b ob hne q => (sb.2 b hne).trans q) ⟨o1, e1⟩ (exO_ok e1), q3, p B xv _ st ?_ (rx2.step st)⟩
                    rw [← e0]
                    exact xh.set hb (nw _ _ (ent_grow st.grow (ent_put c.1.1 rk rx2 q3 pr)) upd_same)
                  · rw [f1] at p
                    dsimp only at p
                    refine call_setdefault_heap room hk hs hm (fun q' e => ?_) (fun e => by rw [f2] at e; cases e) (by rw [← paired_len pr]; exact hl)
                    rw [f2] at e
                    cases e
                    exact ⟨z, H, I.tok _, f3, p.now xh f4⟩
        · exact p.elim
      · exact p.elim
  | _ => exact p.elim
/-! texts -/
def mStarts (d : D) (ds : List D) (h : Hh) : Rs D := match d, ds with
  | .str a, [.str b] => .ok (.bl (b.isPrefixOf a)) h
  | .str a, [.str b, .int i] => if 0 ≤ i ∧ i ≤ a.length then .ok (.bl (b.isPrefixOf (a.drop i.toNat))) h else .bad
  | _, _ => .bad
theorem sub_pre (a b : List Nat) (i : Nat) (hi : i ≤ a.length) : (decide (i + b.length ≤ a.length) && Builtin.Str.subAt ⟨a.toArray⟩ ⟨b.toArray⟩ i) = b.isPrefixOf (a.drop i) := by
  have e1 : Builtin.Str.subAt ⟨a.toArray⟩ ⟨b.toArray⟩ i = decide ((a.drop i).take b.length = b) := by
    unfold Builtin.Str.subAt
    show (a.toArray.extract i (i + b.toArray.size) == b.toArray) = _
    rw [Bool.beq_eq_decide_eq]
    refine decide_eq_decide.mpr ⟨fun e => ?_, fun e => ?_⟩
    · have := congrArg Array.toList e
      simpa [List.take_drop, Nat.add_comm] using this
    · refine Array.toList_inj.mp ?_
      simpa [List.take_drop, Nat.add_comm] using e
  rw [e1, Bool.eq_iff_iff, List.isPrefixOf_iff_prefix, Bool.and_eq_true, decide_eq_true_iff, decide_eq_true_iff]
  constructor
  · rintro ⟨_, h2⟩
    rw [← h2]
    exact List.take_prefix _ _
  · intro hp
    refine ⟨?_, (List.prefix_iff_eq_take.mp hp).symm⟩
    have := hp.length_le
    rw [List.length_drop] at this
    omega
theorem mt_starts : MtR X "str.startswith" (rAbsM X.prog X.w X.K F mStarts) := by
  intro pins s σ H x xs v us Q I rx rs ⟨W, σ0, B, h, d, ds, xh, r1, r2, p⟩
  unfold mStarts at p
  split at p
  · rename_i a b
    cases r1 with
    | str ok1 =>
      cases r2 with
      | cons ry rn =>
        cases rn
        cases ry with
        | str ok2 =>
          refine mt_startswith pins s σ H _ _ v us Q I rx rs ⟨_, _, rfl, rfl, ?_⟩
          have e := sub_pre a b 0 (Nat.zero_le _)
          unfold Txt.startswith
          rw [str_len, str_len]
          have e2 : (decide (0 + b.length ≤ a.length) && Builtin.Str.subAt ⟨a.toArray⟩ ⟨b.toArray⟩ 0) = b.isPrefixOf a := by simpa using e
          rw [e2]
          exact p.now xh (.bl _)
  · rename_i a b i
    split at p
    · rename_i c
      cases r1 with
      | str ok1 =>
        cases r2 with
        | cons ry rn =>
          cases rn with
          | cons rz rn =>
            cases rn
            cases ry with
            | str ok2 =>
              cases rz
              refine mt_startswith3 pins s σ H _ _ v us Q I rx rs ⟨_, _, i, rfl, rfl, ?_⟩
              have ei : fromIndex a.length i = i.toNat := by
                unfold fromIndex
                rw [if_neg (by omega)]
                omega
              have e := sub_pre a b i.toNat (by omega)
              unfold Txt.startswith3
              rw [str_len, str_len, ei, e]
              exact p.now xh (.bl _)
    · exact p.elim
  · exact p.elim
end
end Dc
end
section
set_option Elab.async false
set_option linter.all false
set_option maxRecDepth 100000
set_option maxHeartbeats 4000000
namespace Dc
open PySem PySem.Spec PyProof.Rows L2 TL
/-! ### slices -/
def cutL {α : Type} (xs : List α) (lo hi : Option Int) : List α := (xs.drop (HT.sIx xs.length 0 lo)).take (HT.sIx xs.length xs.length hi - HT.sIx xs.length 0 lo)
def opSl (x : D) (lo hi : Option Int) (h : Hh) : Rs D := match x with
  | .tup xs => .ok (.tup (cutL xs lo hi)) h
  | .str cs => if cs.length ≤ lim then .ok (.str (cutL cs lo hi)) h else .bad
  | .ref j => (match h[j]? with
    | some (.lst xs) => .ok (.ref h.length) (h ++ [.lst (cutL xs lo hi)])
    | _ => .bad)
  | _ => .bad
abbrev OM := Ev → Hh → Rs (Option Int)
def xNoPart : OM := fun _ h => .ok none h
def xPart (m : EM) : OM := fun r h => (m r h).bind fun d h1 => match d with
  | .int i => .ok (some i) h1
  | _ => .bad
def xSl (a : EM) (lo hi : OM) : EM := fun r h => (a r h).bind fun x h1 => (lo r h1).bind fun l h2 => (hi r h2).bind fun u h3 => opSl x l u h3
abbrev RpO : List Addr → Hp → Option Int → Option Int → Prop := fun _ _ a b => a = b
section
variable {X : Cx} {W : WD} {F : Fl}
def DO (X : Cx) (W : WD) (F : Fl) (e : Option Expr) (m : OM) : Prop := PO X e (tDx X.prog X.w X.K W F RpO m)
theorem PO.imp {e : Option Expr} {t t' : TO} (h : PO X e t) (k : ∀ σ H Q, t' σ H Q → t σ H Q) : PO X e t' := ⟨fun pins s σ H Q I q => h.run pins s σ H Q I (k σ H Q q)⟩
theorem do_none : DO X W F none xNoPart := PO.imp po_none fun _ _ _ ⟨_, _, _, _, hH, p⟩ => p.now hH rfl
theorem do_some {e : Expr} {m : EM} (h : DE X W F e m) : DO X W F (some e) (xPart m) := PO.imp (po_some h) fun σ H Q q => by
  obtain ⟨B, r, hh, hE, hH, p⟩ := q
  refine ⟨B, r, hh, hE, hH, Post.bind p fun d h1 B1 v H1 s1 x1 r1 q1 => ?_⟩
  cases r1 with
  | int i => exact ⟨i, rfl, q1.now x1 rfl⟩
  | _ => exact q1.elim
theorem reps_cut {K : PySem.W.Frag} {B : List Addr} {H : Hp} {ds : List D} {vs : List V} (r : Reps K B H ds vs) (lo hi : Option Int) : Reps K B H (cutL ds lo hi) (cutV vs lo hi) := by
  unfold cutL cutV
  rw [← r.length]
  exact (r.drop _).take _
def rSlAll (K : PySem.W.Frag) : V → Option Int → Option Int → Hp → VK → Prop := fun x lo hi H Q => rSlA K x lo hi H Q ∨ rSlS x lo hi H Q ∨ rSlL K x lo hi H Q
theorem slr_any : SlR X (rSlAll X.K) := sl_tupA.or (sl_str.or sl_list)
theorem cut_all {α : Type} {xs : List α} {lo hi : Option Int} (h : HT.sIx xs.length 0 lo = 0 ∧ HT.sIx xs.length xs.length hi = xs.length) : cutL xs lo hi = xs := by
  unfold cutL
  rw [h.1, h.2]
  simp
theorem sl_sem {P : Program} {w : World} {K : PySem.W.Frag} {σ : L2.St} {B : List Addr} {h : Hh} {H : Hp} {d : D} {x : V} {lo hi : Option Int} {Q : VK} (xh : RelH P w K B h H) (r : Rep K B H d x) (p : Post P w K W F (RpD K) B H σ (opSl d lo hi h) Q) : rSlAll K x lo hi H Q := by
  unfold opSl at p
  cases r with
  | @tup a vs ds h1 h2 =>
    refine .inl ⟨a, vs, rfl, h1, fun c => ?_, fun _ q hq => ?_⟩
    · rw [← h2.length] at c
      dsimp only at p
      rw [cut_all c] at p
      exact p.now xh (.tup h1 h2)
    · exact p B _ _ (step_new xh hq) (xh.new hq) (.tup (SqT.of upd_same) ((reps_cut h2 lo hi).step (step_new (F := F) xh hq)))
  | @str cs ok =>
    dsimp only at p
    split at p
    · rename_i hl
      refine .inr (.inl ⟨_, rfl, by rw [str_len, lim_eq]; exact hl, ?_⟩)
      have e : cutS ⟨cs.toArray⟩ lo hi = ⟨(cutL cs lo hi).toArray⟩ := by
        unfold cutS cutL
        rw [str_len]
      rw [e]
      refine p.now xh (.str ?_)
      rw [List.all_eq_true] at ok ⊢
      intro c hc
      unfold cutL at hc
      exact ok c (List.mem_of_mem_drop (List.mem_of_mem_take hc))
    · exact p.elim
  | @ref j a hb =>
    obtain ⟨ob, ho, hr⟩ := xh.get hb
    dsimp only at p
    rw [ho] at p
    cases ob with
    | dct kvs => exact p.elim
    | lst ds =>
      obtain ⟨vs, h1, h2⟩ := hr
      refine .inr (.inr ⟨a, vs, rfl, SqL.of h1, fun q hq => ?_⟩)
      have st : Step F B H (B ++ [q]) (upd H q (.lst (cutV vs lo hi))) := step_push xh hq
      exact p _ _ _ st (xh.push hq ⟨_, upd_same, (reps_cut h2 lo hi).step st⟩) (.ref (by simp [xh.len]))
  | _ => exact p.elim
theorem de_slice {a : Expr} {lo hi : Option Expr} {ma : EM} {ml mh : OM} {pos p2 : Pos} (ha : DE X W F a ma) (hl : DO X W F lo ml) (hu : DO X W F hi mh) : DE X W F (.Subscript a (.Slice lo hi none p2) pos) (xSl ma ml mh) :=
  PE.imp (pe_slice slr_any ha hl hu) fun σ H Q q => by
    obtain ⟨B, r, h, hE, hH, p⟩ := q
    refine ⟨B, r, h, hE, hH, Post.bind p fun d h1 B1 v H1 s1 x1 r1 q1 => ?_⟩
    refine ⟨B1, r, h1, hE.step s1, x1, Post.bind q1 fun l h2 B2 l' H2 s2 x2 r2 q2 => ?_⟩
    refine ⟨B2, r, h2, (hE.step s1).step s2, x2, Post.bind q2 fun u h3 B3 u' H3 s3 x3 r3 q3 => ?_⟩
    cases r2
    cases r3
    exact sl_sem x3 ((r1.step s2).step s3) q3
/-! ### built-in functions by their names -/
def rAbsC (P : Program) (w : World) (K : PySem.W.Frag) (F : Fl) (f : List D → Hh → Rs D) : List V → Hp → VK → Prop := fun xs H Q => ∃ W σ B h ds, RelH P w K B h H ∧ Reps K B H ds xs ∧ Post P w K W F (RpD K) B H σ (f ds h) Q
def xBlt (f : List D → Hh → Rs D) (a : AM) : EM := fun r h => (a r h).bind fun ds h1 => f ds h1
theorem blt_sem {f : List D → Hh → Rs D} {ma : AM} {σ : L2.St} {H : Hp} {Q : VK} (q : tD X.prog X.w X.K W F (xBlt f ma) σ H Q) : tCB (rAbsC X.prog X.w X.K F f) (tDA X.prog X.w X.K W F ma) σ H Q := by
  obtain ⟨B, r, h, hE, hH, p⟩ := q
  exact ⟨B, r, h, hE, hH, Post.bind p fun ds h1 B1 vs H1 s1 x1 r1 q1 => ⟨W, σ, B1, h1, ds, x1, r1, q1⟩⟩
theorem de_blt {x : Str} {id : String} {f : List D → Hh → Rs D} {e : Expr} {es : List Expr} {ma : AM} {p pos : Pos} (hc : CallR X (.builtin id) (rAbsC X.prog X.w X.K F f)) (hm : X.mg x = none) (hv : bootBuiltins x = some (.builtin id)) (ha : DA X W F (e :: es) ma) (hg : Gl X x := by rfl) (hn : x ≠ "__name__" := by decide) (hdb : (x == ("__debug__" : Str)) = false := by decide)
    (he : starEach (e :: es) X.env = (false, eval e X.env) :: starEach es X.env := by rfl) (hpl : (backTo pos (starEach es X.env)).any (·.1) = false := by rfl) : DE X W F (.Call (.Name x p) (e :: es) [] pos) (xBlt f ma) :=
  PE.imp (pe_callB hc hg hm hv ha.pa hn hdb he hpl) fun _ _ _ q => blt_sem q
theorem de_bty {x : Str} {T : String} {f : List D → Hh → Rs D} {e : Expr} {es : List Expr} {ma : AM} {p pos : Pos} (hc : CallR X (.type T) (rAbsC X.prog X.w X.K F f)) (hm : X.mg x = none) (hv : bootBuiltins x = some (.type T)) (ha : DA X W F (e :: es) ma) (hg : Gl X x := by rfl) (hn : x ≠ "__name__" := by decide) (hdb : (x == ("__debug__" : Str)) = false := by decide)
    (he : starEach (e :: es) X.env = (false, eval e X.env) :: starEach es X.env := by rfl) (hpl : (backTo pos (starEach es X.env)).any (·.1) = false := by rfl) : DE X W F (.Call (.Name x p) (e :: es) [] pos) (xBlt f ma) :=
  PE.imp (pe_callTy hc hg hm hv ha.pa hn hdb he hpl) fun _ _ _ q => blt_sem q
/-- the items of a list or a tuple -/
def seqOf (d : D) (h : Hh) : Option (List D) := match d with
  | .tup xs => some xs
  | .fro xs => some xs
  | .ref j => (match h[j]? with
    | some (.lst xs) => some xs
    | _ => none)
  | _ => none
theorem seq_sem2 {P : Program} {w : World} {K : PySem.W.Frag} {B : List Addr} {h : Hh} {H : Hp} {d : D} {x : V} {ds : List D} (xh : RelH P w K B h H) (r : Rep K B H d x) (e : seqOf d h = some ds) : ∃ a vs, x = .ref a ∧ (SqL K H a vs ∨ SqT K H a vs) ∧ Reps K B H ds vs := by
  unfold seqOf at e
  cases r with
  | tup h1 h2 => cases e; exact ⟨_, _, rfl, .inr h1, h2⟩
  | fro h1 h2 => cases e; exact ⟨_, _, rfl, .inl h1.sq, h2⟩
  | @ref j a hb =>
    obtain ⟨ob, ho, hr⟩ := xh.get hb
    dsimp only at e
    rw [ho] at e
    cases ob with
    | dct kvs => cases e
    | lst zs => cases e; obtain ⟨vs, h1, h2⟩ := hr; exact ⟨_, _, rfl, .inl (SqL.of h1), h2⟩
  | _ => cases e
def fLen (ds : List D) (h : Hh) : Rs D := match ds with
  | [.str cs] => if cs.length ≤ lim then .ok (.int cs.length) h else .bad
  | [d] => (match seqOf d h with
    | some xs => .ok (.int xs.length) h
    | none => .bad)
  | _ => .bad
theorem cr_len : CallR X (.builtin "len") (rAbsC X.prog X.w X.K F fLen) := by
  intro pins s σ H xs us Q I rs ⟨W, σ0, B, h, ds, xh, r, p⟩
  unfold fLen at p
  split at p
  · rename_i cs
    cases r with
    | cons r1 rn =>
      cases rn
      cases r1
      split at p
      · rename_i hl
        refine call_len pins s σ H _ us Q I rs ⟨_, cs.length, rfl, ⟨by rw [str_len, lim_eq]; exact hl, (str_len cs).symm⟩, p.now xh (.int _)⟩
      · exact p.elim
  · rename_i d _
    cases r with
    | cons r1 rn =>
      cases rn
      cases e : seqOf d h with
      | none => rw [e] at p; exact p.elim
      | some zs =>
        rw [e] at p
        obtain ⟨a, vs, rfl, hq, h2⟩ := seq_sem2 xh r1 e
        refine call_len pins s σ H _ us Q I rs ⟨_, zs.length, rfl, ?_, p.now xh (.int _)⟩
        rcases hq with hq | hq
        · exact .inl ⟨vs, hq, h2.length⟩
        · exact .inr ⟨vs, hq, h2.length⟩
  · exact p.elim
/-- truth values of a list -/
def bools : List D → Option (List Bool)
  | [] => some []
  | .bl b :: ds => (bools ds).map (b :: ·)
  | _ => none
def intsD : List D → Option (List Int)
  | [] => some []
  | .int i :: ds => (intsD ds).map (i :: ·)
  | _ => none
theorem bools_rep {K : PySem.W.Frag} {B : List Addr} {H : Hp} : ∀ {ds : List D} {vs : List V} {bs : List Bool}, Reps K B H ds vs → bools ds = some bs → vs = bs.map V.bl
  | _, _, bs, .nil, e => by cases e; rfl
  | _, _, bs, .cons r rs, e => by
    cases r with
    | bl b =>
      unfold bools at e
      obtain ⟨cs, e1, e2⟩ := Option.map_eq_some_iff.mp e
      subst e2
      rw [bools_rep rs e1]; rfl
    | _ => cases e
theorem intsD_rep {K : PySem.W.Frag} {B : List Addr} {H : Hp} : ∀ {ds : List D} {vs : List V} {bs : List Int}, Reps K B H ds vs → intsD ds = some bs → vs = bs.map V.int
  | _, _, bs, .nil, e => by cases e; rfl
  | _, _, bs, .cons r rs, e => by
    cases r with
    | int b =>
      unfold intsD at e
      obtain ⟨cs, e1, e2⟩ := Option.map_eq_some_iff.mp e
      subst e2
      rw [intsD_rep rs e1]; rfl
    | _ => cases e
def fList {α : Type} (get : List D → Option (List α)) (g : List α → D) (ds : List D) (h : Hh) : Rs D := match ds with
  | [d] => (match listOf d h with
    | some xs => (match get xs with
      | some bs => .ok (g bs) h
      | none => .bad)
    | none => .bad)
  | _ => .bad
theorem list_sem {P : Program} {w : World} {K : PySem.W.Frag} {B : List Addr} {h : Hh} {H : Hp} {d : D} {x : V} {ds : List D} (xh : RelH P w K B h H) (r : Rep K B H d x) (e : listOf d h = some ds) : ∃ a vs, x = .ref a ∧ SqL K H a vs ∧ Reps K B H ds vs := by
  unfold listOf at e
  cases r with
  | fro h1 h2 => cases e; exact ⟨_, _, rfl, h1.sq, h2⟩
  | @ref j a hb =>
    obtain ⟨ob, ho, hr⟩ := xh.get hb
    dsimp only at e
    rw [ho] at e
    cases ob with
    | dct kvs => cases e
    | lst zs => cases e; obtain ⟨vs, h1, h2⟩ := hr; exact ⟨_, _, rfl, SqL.of h1, h2⟩
  | _ => cases e
theorem cr_list {id : String} {α : Type} {get : List D → Option (List α)} {g : List α → D} {emb : α → V} {gv : List α → V} {r : List V → Hp → VK → Prop} (hr : CallR X (.builtin id) r)
    (hget : ∀ {K : PySem.W.Frag} {B : List Addr} {H : Hp} {ds : List D} {vs : List V} {bs : List α}, Reps K B H ds vs → get ds = some bs → vs = bs.map emb) (hg : ∀ (K : PySem.W.Frag) (B : List Addr) (H : Hp) (bs : List α), Rep K B H (g bs) (gv bs))
    (hq : ∀ (a : Addr) (bs : List α) (H : Hp) (Q : VK), SqL X.K H a (bs.map emb) → Q (gv bs) H → r [.ref a] H Q) : CallR X (.builtin id) (rAbsC X.prog X.w X.K F (fList get g)) := by
  intro pins s σ H xs us Q I rs ⟨W, σ0, B, h, ds, xh, rr, p⟩
  unfold fList at p
  split at p
  · rename_i d
    cases rr with
    | cons r1 rn =>
      cases rn
      cases e : listOf d h with
      | none => rw [e] at p; exact p.elim
      | some zs =>
        rw [e] at p
        dsimp only at p
        cases e2 : get zs with
        | none => rw [e2] at p; exact p.elim
        | some bs =>
          rw [e2] at p
          obtain ⟨a, vs, rfl, hq2, h2⟩ := list_sem xh r1 e
          have ev := hget h2 e2
          subst ev
          exact hr pins s σ H _ us Q I rs (hq a bs H Q hq2 (p.now xh (hg _ _ _ bs)))
  · exact p.elim
def fAny : List D → Hh → Rs D := fList bools fun bs => .bl (bs.any id)
def fAll : List D → Hh → Rs D := fList bools fun bs => .bl (bs.all id)
def fSum : List D → Hh → Rs D := fList intsD fun ns => .int ns.sum
theorem crd_any (hc : X.calm = true) : CallR X (.builtin "any") (rAbsC X.prog X.w X.K F fAny) := cr_list (cr_any hc) bools_rep (fun _ _ _ _ => .bl _) fun a bs H Q h q => ⟨a, bs, rfl, h, q⟩
theorem crd_all (hc : X.calm = true) : CallR X (.builtin "all") (rAbsC X.prog X.w X.K F fAll) := cr_list (cr_all hc) bools_rep (fun _ _ _ _ => .bl _) fun a bs H Q h q => ⟨a, bs, rfl, h, q⟩
theorem crd_sum (hc : X.calm = true) : CallR X (.builtin "sum") (rAbsC X.prog X.w X.K F fSum) := cr_list (cr_sum hc) intsD_rep (fun _ _ _ _ => .int _) fun a bs H Q h q => ⟨a, bs, rfl, h, q⟩
/-- list(x), tuple(x) of a list or tuple -/
def fListOf (ds : List D) (h : Hh) : Rs D := match ds with
  | [d] => (match seqOf d h with
    | some xs => .ok (.ref h.length) (h ++ [.lst xs])
    | none => .bad)
  | _ => .bad
def fTupOf (ds : List D) (h : Hh) : Rs D := match ds with
  | [d] => (match seqOf d h with
    | some xs => .ok (.tup xs) h
    | none => .bad)
  | _ => .bad
theorem crd_list : CallR X (.type "list") (rAbsC X.prog X.w X.K F fListOf) := by
  intro pins s σ H xs us Q I rs ⟨W, σ0, B, h, ds, xh, rr, p⟩
  unfold fListOf at p
  split at p
  · rename_i d
    cases rr with
    | cons r1 rn =>
      cases rn
      cases e : seqOf d h with
      | none => rw [e] at p; exact p.elim
      | some zs =>
        rw [e] at p
        obtain ⟨a, vs, rfl, hq, h2⟩ := seq_sem2 xh r1 e
        refine call_list_of pins s σ H _ us Q I rs ⟨a, vs, rfl, hq, fun q hq => ?_⟩
        have st : Step F B H (B ++ [q]) (upd H q (.lst vs)) := step_push xh hq
        exact p _ _ _ st (xh.push hq ⟨_, upd_same, h2.step st⟩) (.ref (by simp [xh.len]))
  · exact p.elim
theorem crd_tup : CallR X (.type "tuple") (rAbsC X.prog X.w X.K F fTupOf) := by
  intro pins s σ H xs us Q I rs ⟨W, σ0, B, h, ds, xh, rr, p⟩
  unfold fTupOf at p
  split at p
  · rename_i d
    cases rr with
    | cons r1 rn =>
      cases rn
      cases e : seqOf d h with
      | none => rw [e] at p; exact p.elim
      | some zs =>
        rw [e] at p
        obtain ⟨a, vs, rfl, hq, h2⟩ := seq_sem2 xh r1 e
        refine call_tuple_of pins s σ H _ us Q I rs ⟨a, vs, rfl, ?_⟩
        rcases hq with hq | hq
        · exact .inl ⟨hq, fun q hq => p B _ _ (step_new xh hq) (xh.new hq) (.tup (SqT.of upd_same) (h2.step (step_new (F := F) xh hq)))⟩
        · exact .inr ⟨hq, p.now xh (.tup hq h2)⟩
  · exact p.elim
/-! ### sep.join(list of texts) -/
def texts : List D → Option (List (List Nat))
  | [] => some []
  | .str cs :: ds => (texts ds).map (cs :: ·)
  | _ => none
theorem texts_rep {K : PySem.W.Frag} {B : List Addr} {H : Hp} : ∀ {ds : List D} {vs : List V} {bs : List (List Nat)}, Reps K B H ds vs → texts ds = some bs → vs = (bs.map fun cs => (⟨cs.toArray⟩ : Str)).map V.str ∧ ∀ cs ∈ bs, cs.all (· < 1114112) = true
  | _, _, bs, .nil, e => by cases e; exact ⟨rfl, fun _ h => by cases h⟩
  | _, _, bs, .cons r rs, e => by
    cases r with
    | str ok =>
      unfold texts at e
      obtain ⟨cs, e1, e2⟩ := Option.map_eq_some_iff.mp e
      subst e2
      obtain ⟨h1, h2⟩ := texts_rep rs e1
      refine ⟨by rw [h1]; rfl, fun c hc => ?_⟩
      rcases List.mem_cons.mp hc with e | hc
      · rw [e]; exact ok
      · exact h2 c hc
    | _ => cases e
def mJoin (d : D) (ds : List D) (h : Hh) : Rs D := match d, ds with
  | .str a, [x] => (match seqOf x h with
    | some xs => (match texts xs with
      | some ts => if (ts.map (·.length)).sum + ts.length * a.length ≤ lim then .ok (.str (joinL a ts)) h else .bad
      | none => .bad)
    | none => .bad)
  | _, _ => .bad
theorem tl_mk (a : List Nat) : tl (⟨a.toArray⟩ : Str) = a := by
  show a.toArray.toList = a
  simp
theorem joinL_ok {a : List Nat} (ha : a.all (· < 1114112) = true) : ∀ {ts : List (List Nat)}, (∀ c ∈ ts, c.all (· < 1114112) = true) → (joinL a ts).all (· < 1114112) = true
  | [], _ => rfl
  | [p], h => h p (by simp)
  | p :: q :: r, h => by
    show (p ++ (a ++ joinL a (q :: r))).all _ = true
    rw [List.all_append, List.all_append, h p (by simp), ha, joinL_ok ha fun c hc => h c (List.mem_cons_of_mem _ hc)]; rfl
theorem str_ext {x : Str} {a : List Nat} (h : tl x = a) : x = ⟨a.toArray⟩ := by
  obtain ⟨c⟩ := x
  have : c.toList = a := h
  subst this
  simp
theorem mt_joinm : MtR X "str.join" (rAbsM X.prog X.w X.K F mJoin) := by
  intro pins s σ H x xs v us Q I rx rs ⟨W, σ0, B, h, d, ds, xh, r1, r2, p⟩
  unfold mJoin at p
  split at p
  · rename_i a y
    cases r1 with
    | str ok1 =>
      cases r2 with
      | cons ry rn =>
        cases rn
        cases e : seqOf y h with
        | none => rw [e] at p; exact p.elim
        | some zs =>
          rw [e] at p
          dsimp only at p
          cases e2 : texts zs with
          | none => rw [e2] at p; exact p.elim
          | some ts =>
            rw [e2] at p
            dsimp only at p
            split at p
            · rename_i hl
              obtain ⟨b, vs, rfl, hq, h2⟩ := seq_sem2 xh ry e
              obtain ⟨ev, okk⟩ := texts_rep h2 e2
              subst ev
              refine mt_join pins s σ H _ _ v us Q I rx rs ⟨_, b, ts.map fun cs => ⟨cs.toArray⟩, rfl, rfl, hq, ?_, ?_⟩
              · have e3 : (ts.map fun cs => (⟨cs.toArray⟩ : Str)).map (·.length) = ts.map (·.length) := by
                  rw [List.map_map]
                  exact List.map_congr_left fun c _ => str_len c
                rw [e3, List.length_map, str_len]
                exact hl
              · have e4 : Txt.join ⟨a.toArray⟩ (ts.map fun cs => ⟨cs.toArray⟩) = ⟨(joinL a ts).toArray⟩ := by
                  refine str_ext ?_
                  rw [join_eq, tl_join, tl_mk, List.map_map]
                  congr 1
                  have : (tl ∘ fun cs : List Nat => (⟨cs.toArray⟩ : Str)) = id := funext tl_mk
                  rw [this, List.map_id]
                rw [e4]
                exact p.now xh (.str (joinL_ok ok1 okk))
            · exact p.elim
  · exact p.elim
end
end Dc
end
section
set_option Elab.async false
set_option linter.all false
set_option maxRecDepth 100000
set_option maxHeartbeats 4000000
namespace Dc
open PySem PySem.Spec PyProof.Rows L2 TL
/-! ### isinstance(x, T) of a built-in T -/
def isiD (T : String) (d : D) (h : Hh) : Option Bool := match d with
  | .non => kitB "NoneType" T
  | .bl _ => kitB "bool" T
  | .int _ => kitB "int" T
  | .str _ => kitB "str" T
  | .tup _ => kitB "tuple" T
  | .fro _ => kitB "list" T
  | .ref j => (match h[j]? with
    | some (.lst _) => kitB "list" T
    | _ => none)
def xIsi (T : String) (m : EM) : EM := fun r h => (m r h).bind fun d h1 => match isiD T d h1 with
  | some b => .ok (.bl b) h1
  | none => .bad
theorem tyX_of {P : Program} {w : World} {K : PySem.W.Frag} {B : List Addr} {h : Hh} {H : Hp} {d : D} {x : V} {T : String} {b : Bool} (xh : RelH P w K B h H) (r : Rep K B H d x) (e : isiD T d h = some b) : ∃ t, TyX K H x (.type t) ∧ kitB t T = some b := by
  unfold isiD at e
  cases r with
  | non => exact ⟨_, .base .non, e⟩
  | bl c => exact ⟨_, .base (.bl c), e⟩
  | int i => exact ⟨_, .base (.int i), e⟩
  | str ok => exact ⟨_, .base (.str _), e⟩
  | tup h1 h2 =>
    refine ⟨"tuple", ?_, e⟩
    rcases h1 with (h1 | ⟨o, h1⟩) | ⟨o, _, _, h1, c, _⟩
    · exact .base (.tup h1)
    · exact .fTuple h1
    · exact .kTuple h1 c
  | fro h1 h2 =>
    refine ⟨"list", ?_, e⟩
    rcases h1 with ⟨o, h1⟩ | ⟨o, _, _, h1, c, _⟩
    · exact .base (.frz h1)
    · exact .kList h1 c
  | @ref j a hb =>
    obtain ⟨ob, ho, hr⟩ := xh.get hb
    dsimp only at e
    rw [ho] at e
    cases ob with
    | dct kvs => cases e
    | lst zs => obtain ⟨vs, h1, _⟩ := hr; exact ⟨_, .base (.lst h1), e⟩
section
variable {X : Cx} {W : WD} {F : Fl}
theorem de_isi {e : Expr} {m : EM} {T : String} {nm : Str} {p p2 pos : Pos} (hm : X.mg "isinstance" = none) (hT : X.mg nm = none) (hbT : bootBuiltins nm = some (.type T)) (he : DE X W F e m) (hg : Gl X "isinstance" := by rfl) (hgT : Gl X nm := by rfl) (hnT : nm ≠ "__name__" := by decide) (hdT : (nm == ("__debug__" : Str)) = false := by decide)
    (h1 : starEach [e, .Name nm p2] X.env = (false, eval e X.env) :: starEach [.Name nm p2] X.env := by rfl) (h2 : starEach [.Name nm p2] X.env = (false, eval (.Name nm p2) X.env) :: starEach [] X.env := by rfl)
    (hpl : (backTo pos (starEach [.Name nm p2] X.env)).any (·.1) = false := by rfl) : DE X W F (.Call (.Name "isinstance" p) [e, .Name nm p2] [] pos) (xIsi T m) := by
  refine PE.imp (pe_callB call_isi hg hm (by decide +kernel) (pa_cons he (pa_cons (pe_bltn (v := .ty T) hgT hT hbT rfl hnT hdT) pa_nil h2) h1) (by decide) (by decide) h1 hpl) fun σ H Q q => ?_
  obtain ⟨B, r, h, hE, hH, p⟩ := q
  refine ⟨B, r, h, hE, hH, Post.bind p fun d h1 B1 v H1 s1 x1 r1 q1 => ?_⟩
  cases e : isiD T d h1 with
  | none => rw [e] at q1; exact q1.elim
  | some b =>
    rw [e] at q1
    obtain ⟨t, ty, k⟩ := tyX_of x1 r1 e
    exact ⟨v, .ty T, .type t, .type T, b, rfl, .ty T, ty, kit_ty k, q1.now x1 (.bl b)⟩
end
end Dc
end
section
set_option Elab.async false
set_option linter.all false
set_option maxRecDepth 100000
set_option maxHeartbeats 4000000
/-! Sets of texts and of nested tuples: made of a list, a tuple, a text; counted, sorted. -/
namespace Dc
open PySem PySem.Spec PyProof.Rows L2
abbrev SRow := NestedKey × Value
def srows (w : World) (L : List SRow) : List (Int × Value) := L.map fun p => (p.1.hash w, p.2)
/-- texts, or tuples -/
inductive SMo where
  | tx | tp
def SMo.fits : SMo → NestedKey → Prop
  | .tx, .text _ => True
  | .tp, .tup ks => (NestedKey.tup ks).depth ≤ 8
  | _, _ => False
/-- the set at a with the members L, in the table's order -/
structure SV (w : World) (m : SMo) (h : Heap) (a : Addr) (L : List SRow) (es : Array (Int × Value)) (ep : Nat) (t : SetTable) : Prop where
  ob : ∃ o, h.get? a = some o ∧ o.ExactSet ∧ o.data = .set es ep t
  rows : es.toList = srows w L
  nd : (L.map (·.1)).Nodup
  few : L.length < 4096
  fit : t.fits es.size = true
  ris : Ris t.place.toList
  led : w.params.followText "set-order" = true ∨ t.led = true
  mo : ∀ p ∈ L, m.fits p.1
  is : ∀ p ∈ L, NestedIs h p.1 p.2
  tab : m = .tp → TabOk t (L.map fun p => p.1.hash w) ∧ L.length * 5 < t.mask * 3 ∧ L.length < 64
section
variable {P : Program} {w : World} {A : Around} {E : Value → Shared → Prop} {s : Shared} {m : SMo} {a : Addr} {L : List SRow} {es : Array (Int × Value)} {ep : Nat} {t : SetTable}
theorem SV.size {h : Heap} (R : SV w m h a L es ep t) : es.size = L.length := by
  rw [← Array.length_toList, R.rows]; unfold srows; rw [List.length_map]
/-- a key stays when only a set changes -/
theorem is_but {h h' : Heap} {k : NestedKey} {v : Value} {o : Obj} {es : Array (Int × Value)} {ep : Nat} {t : SetTable} (x : NestedIs h k v) (ho : h.get? a = some o) (hd : o.data = .set es ep t) (hs : Heap.SameBut a h h') : NestedIs h' k v :=
  NestedIs.at (fun b ob vs n hb hc => by
    refine (hs.2 b fun e => ?_).trans hb
    subst e
    rw [ho] at hb
    cases hb
    rw [hd] at hc
    cases hc) k v x
theorem is_keep {h h' : Heap} {k : NestedKey} {v : Value} (x : NestedIs h k v) (hk : ∀ c o, h.get? c = some o → h'.get? c = some o) : NestedIs h' k v := NestedIs.at (fun b o _ _ e _ => hk b o e) k v x
theorem SV.keep {h h' : Heap} (R : SV w m h a L es ep t) (ha : ∀ o, h.get? a = some o → h'.get? a = some o) (hi : ∀ p ∈ L, NestedIs h' p.1 p.2) : SV w m h' a L es ep t :=
  ⟨let ⟨o, ho, r⟩ := R.ob; ⟨o, ha o ho, r⟩, R.rows, R.nd, R.few, R.fit, R.ris, R.led, R.mo, hi, R.tab⟩
/-! ### texts, by scan -/
theorem str_is (k : Str) (u : Tok) : (strKind P w).is k (.str k u) = true := by
  show Value.isStr (.str k u) k = true
  simp [Value.isStr]
theorem tx_is {p : SRow} {h : Heap} {k : Str} (m : SMo.tx.fits p.1) (i : NestedIs h p.1 p.2) : (strKind P w).is k p.2 = true ↔ p.1 = .text k := by
  obtain ⟨q, v⟩ := p
  cases q with
  | text x =>
    cases i with
    | text _ u =>
      show Value.isStr (.str x u) k = true ↔ _
      simp [Value.isStr]
  | _ => exact m.elim
theorem tx_elems (mo : ∀ p ∈ L, SMo.tx.fits p.1) {h : Heap} (is : ∀ p ∈ L, NestedIs h p.1 p.2) : ElemsOf (strKind P w) (srows w L) := fun e he => by
  obtain ⟨p, hp, rfl⟩ := List.mem_map.mp he
  obtain ⟨k, v⟩ := p
  have m1 := mo _ hp
  have m2 := is _ hp
  cases k with
  | text x =>
    cases m2 with
    | text _ u => exact ⟨⟨x, str_is x u, rfl⟩, rfl⟩
  | _ => exact m1.elim
/-- what a new member leaves: rows in some order, the table that holds them -/
theorem tx_tail {g : Bool → Sem Unit} (hg : ∀ (b : Bool) (s₁ : Shared) (Q' : Unit → Shared → Prop), Q' () s₁ → wpAny (model P w) A (g b) Q' E s₁) {o : Obj} (ho : s.heap.get? a = some o) (hex : o.ExactSet) (hd : o.data = .set es ep t)
    {rs : List (Int × Value)} {es1 : Array (Int × Value)} {t2 : SetTable} (p1 : es1.toList.Perm rs) (hn : rs.length < 4096) (hf : t2.fits es1.size = true) (hr : Ris t2.place.toList) {wd : Bool} {R : Option Bool → Shared → Prop}
    (k : ∀ h' es' ep' t', Heap.SameBut a s.heap h' → (∃ o, h'.get? a = some o ∧ o.ExactSet ∧ o.data = .set es' ep' t') → es'.toList.Perm rs → t'.fits es'.size = true → Ris t'.place.toList → t'.led = t2.led → R (some true) { s with heap := h' }) :
    wpAny (model P w) A (do
        storeSet a es1 t2
        if (!wd && t2.tooFull) = true then do
            g (relayAll t2 es1 (SetTable.grown es1.size)).2.2
            storeSet a (relayAll t2 es1 (SetTable.grown es1.size)).1 (relayAll t2 es1 (SetTable.grown es1.size)).2.1
            pure (some true)
          else pure (some true)) R E s := by
  have z1 : es1.size < scanBound := by rw [← Array.length_toList, p1.length_eq]; exact hn
  refine wpAny_bind (wpAny_storeSet_of ho hd ?_ (fits_of_scanBound z1))
  have g1 := store_at (es' := es1) (t' := t2) ho hd
  have b1 := Heap.SameBut.update s.heap a (Obj.putSet es1 t2)
  by_cases c : (!wd && t2.tooFull) = true
  · rw [if_pos c]
    obtain ⟨es2, t3, gv⟩ := id (relayAll t2 es1 (SetTable.grown es1.size))
    have q1 := relayAll_perm t2 es1 (SetTable.grown es1.size)
    have q2 := relayAll_fits t2 es1 (SetTable.grown es1.size)
    have q3 := relayAll_ris t2 es1 (SetTable.grown es1.size)
    have q4 := relayAll_led t2 es1 (SetTable.grown es1.size)
    have z2 : (relayAll t2 es1 (SetTable.grown es1.size)).1.size < scanBound := by rw [← Array.length_toList, q1.length_eq, Array.length_toList]; exact z1
    refine wpAny_bind (hg _ _ _ (wpAny_bind (wpAny_storeSet_of g1 rfl ?_ (fits_of_scanBound z2))))
    exact wpAny_pure (k _ _ _ _ (b1.trans (Heap.SameBut.update _ a _)) ⟨_, store_at g1 rfl, hex, rfl⟩ (q1.trans p1) q2 q3 q4)
  · rw [if_neg c]
    exact wpAny_pure (k _ _ _ _ b1 ⟨_, g1, hex, rfl⟩ p1 hf hr rfl)
theorem rows_perm (l : List (Int × Value)) (L : List SRow) (h : l.Perm (srows w L)) : ∃ L', L'.Perm L ∧ l = srows w L' := by
  have gen : ∀ {l l' : List (Int × Value)}, l.Perm l' → ∀ L, l' = srows w L → ∃ L', L'.Perm L ∧ l = srows w L' := by
    intro l l' h
    induction h with
    | nil => intro L e; exact ⟨L, .refl _, e⟩
    | @cons x l l' _ ih =>
      intro L e
      cases L with
      | nil => cases e
      | cons p L =>
        unfold srows at e
        rw [List.map_cons] at e
        injection e with e1 e2
        obtain ⟨L', h1, h2⟩ := ih L e2
        exact ⟨p :: L', h1.cons p, by rw [h2, e1]; rfl⟩
    | swap x y l =>
      intro L e
      match L, e with
      | p :: q :: L, e =>
        unfold srows at e
        rw [List.map_cons, List.map_cons] at e
        injection e with e1 e2
        injection e2 with e2 e3
        exact ⟨q :: p :: L, .swap p q L, by rw [e1, e2, e3]; rfl⟩
    | trans _ _ ih1 ih2 =>
      intro L e
      obtain ⟨L1, h1, h2⟩ := ih2 L e
      obtain ⟨L2, h3, h4⟩ := ih1 L1 h2
      exact ⟨L2, h3.trans h1, h4⟩
  exact gen h L rfl
/-- what add leaves -/
def AddQ (w : World) (m : SMo) (s : Shared) (a : Addr) (L : List SRow) (k : NestedKey) (x : Value) (Q : Bool → Shared → Prop) : Prop :=
  ∀ b h' L' es' ep' t', Heap.SameBut a s.heap h' → SV w m h' a L' es' ep' t' → (k ∈ L.map (·.1) → L' = L) → (k ∉ L.map (·.1) → L'.Perm ((k, x) :: L)) → Q b { s with heap := h' }
theorem tx_add {k : Str} {u : Tok} {Q : Bool → Shared → Prop} (R : SV w .tx s.heap a L es ep t) (room : L.length + 1 < 4096) (hQ : AddQ w .tx s a L (.text k) (.str k u) Q) :
    wpAny (model P w) A (setAddHashed a (.str k u) ((NestedKey.text k).hash w)) Q E s := by
  obtain ⟨o, ho, hex, hd⟩ := R.ob
  have sc : (Value.str k u).scannable = true := rfl
  have el : ElemsOf (strKind P w) es.toList := by rw [R.rows]; exact tx_elems R.mo R.is
  have hb : es.size < scanBound := by rw [R.size]; exact R.few
  have ik : (strKind P w).is k (.str k u) = true := str_is k u
  show wpAny (model P w) A (setAddHashed a (.str k u) ((strKind P w).hash k)) Q E s
  unfold setAddHashed setAddHashedIn
  refine wpAny_holding (wpAny_bind (wpAny_setState_of ho hd R.fit ?_))
  dsimp only
  rw [byScan_of sc hb el]
  simp only [↓reduceIte]
  unfold setAddByScan
  refine wpAny_bind (wpAny_bind (wpAny_rule (wpAny_bind (wpAny_setScan_of ik ho hd R.fit el ?_))))
  have mem : (∃ e ∈ es.toList, (strKind P w).is k e.2 = true) ↔ NestedKey.text k ∈ L.map (·.1) := by
    rw [R.rows, List.mem_map]
    constructor
    · rintro ⟨e, he, q⟩
      obtain ⟨p, hp, rfl⟩ := List.mem_map.mp he
      exact ⟨p, hp, (tx_is (R.mo p hp) (R.is p hp)).mp q⟩
    · rintro ⟨p, hp, q⟩
      exact ⟨_, List.mem_map.mpr ⟨p, hp, rfl⟩, (tx_is (R.mo p hp) (R.is p hp)).mpr q⟩
  cases fi : List.findIdx? (fun e => (strKind P w).is k e.2) es.toList with
  | some j =>
    dsimp only
    obtain ⟨hj, pj, _⟩ := List.findIdx?_eq_some_iff_getElem.mp fi
    have hm := mem.mp ⟨_, List.getElem_mem hj, pj⟩
    exact wpAny_pure (wpAny_pure (hQ false s.heap L es ep t (.refl a s.heap) R (fun _ => rfl) fun z => absurd hm z))
  | none =>
    dsimp only
    have hm : NestedKey.text k ∉ L.map (·.1) := fun z => by
      obtain ⟨e, he, q⟩ := mem.mpr z
      have c := List.findIdx?_eq_none_iff.mp fi e he
      rw [q] at c
      cases c
    have gw : ∀ (b : Bool) {s₁ : Shared} {Q' : Unit → Shared → Prop}, Q' () s₁ → wpAny (model P w) A (match b with | true => rule "set.scan.the-table-gave-way" | false => pure ()) Q' E s₁ := fun b s₁ Q' q => by
      cases b
      · exact wpAny_pure q
      · exact wpAny_rule q
    have q1 := layNew_perm t es ((strKind P w).hash k) (.str k u)
    have q2 := layNew_fits t es ((strKind P w).hash k) (.str k u)
    have q3 := layNew_ris t es ((strKind P w).hash k) (.str k u) R.ris
    have q4 := layNew_led t es ((strKind P w).hash k) (.str k u)
    rw [Array.toList_push, R.rows] at q1
    generalize layNew t es ((strKind P w).hash k) (.str k u) = Z at q1 q2 q3 q4 ⊢
    obtain ⟨es1, t1, wd, gv⟩ := Z
    dsimp only at q1 q2 q3 q4 ⊢
    have q1' : es1.toList.Perm (srows w ((NestedKey.text k, Value.str k u) :: L)) := q1.trans (List.perm_append_singleton _ _)
    have hn : (srows w ((NestedKey.text k, Value.str k u) :: L)).length < 4096 := by unfold srows; rw [List.length_map, List.length_cons]; exact room
    have fin : ∀ h' es' ep' t', Heap.SameBut a s.heap h' → (∃ o, h'.get? a = some o ∧ o.ExactSet ∧ o.data = .set es' ep' t') → es'.toList.Perm (srows w ((NestedKey.text k, Value.str k u) :: L)) → t'.fits es'.size = true → Ris t'.place.toList → t'.led = t1.led → Q true { s with heap := h' } := fun h' es' ep' t' sb ob pm f r l => by
      obtain ⟨L', pL, eL⟩ := rows_perm _ _ pm
      have mem' : ∀ p ∈ L', p = (NestedKey.text k, Value.str k u) ∨ p ∈ L := fun p hp => List.mem_cons.mp (pL.mem_iff.mp hp)
      refine hQ true h' L' es' ep' t' sb ⟨ob, eL, ?_, ?_, f, r, ?_, fun p hp => ?_, fun p hp => ?_, fun z => nomatch z⟩ (fun z => absurd z hm) fun _ => pL
      · rw [(pL.map (·.1)).nodup_iff, List.map_cons]
        exact List.nodup_cons.mpr ⟨hm, R.nd⟩
      · rw [pL.length_eq]; exact room
      · exact R.led.imp id fun z => by rw [l, q4]; exact z
      · rcases mem' p hp with e | z
        · rw [e]; exact True.intro
        · exact R.mo p z
      · rcases mem' p hp with e | z
        · rw [e]; exact .text k u
        · exact is_but (R.is p z) ho hd sb
    refine wpAny_bind (gw _ ?_)
    by_cases pl : t1.plain = true
    · rw [if_pos pl]
      refine wpAny_bind ?_
      rw [hashByValue_scannable 8 sc]
      refine wpAny_pure (tx_tail (fun b s₁ Q' q => by cases b <;> first | exact wpAny_pure q | exact wpAny_rule q) ho hex hd q1' hn ?_ ?_ ?_)
      · split
        · exact q2
        · exact SetTable.fits_plain_off q2
      · split <;> exact q3
      · intro h' es' ep' t' sb ob pm f r l
        refine wpAny_pure (fin h' es' ep' t' sb ob pm f r ?_)
        rw [l]
        split <;> rfl
    · rw [if_neg pl]
      refine wpAny_bind (wpAny_pure ?_)
      simp only [↓reduceIte]
      exact tx_tail (fun b s₁ Q' q => by cases b <;> first | exact wpAny_pure q | exact wpAny_rule q) ho hex hd q1' hn q2 q3 fun h' es' ep' t' sb ob pm f r l => wpAny_pure (fin h' es' ep' t' sb ob pm f r l)
end
end Dc
end
section
set_option Elab.async false
set_option linter.all false
set_option maxRecDepth 100000
set_option maxHeartbeats 4000000
/-! Sets of nested tuples: the search, adding. -/
namespace Dc
open PySem PySem.Spec PyProof.Rows L2
section
variable {P : Program} {w : World}
/-- v is of no class statement -/
def NoCls (P : Program) (w : World) (n : Nat) (s : Shared) (v : Value) : Prop := ∀ (A : Around) (E : Value → Shared → Prop) (Q : Bool → Shared → Prop), Q false s → wpAny (model P w) A (ofAClassStatement n v) Q E s
/-- .. and whether its hash goes by its value is asked without more -/
def HashA (P : Program) (w : World) (n : Nat) (s : Shared) (v : Value) : Prop := ∀ (A : Around) (E : Value → Shared → Prop) (Q : Bool → Shared → Prop), (∀ b, Q b s) → wpAny (model P w) A (hashByValue n v) Q E s
theorem noCls_tup {n : Nat} {s : Shared} {a : Addr} {o : Obj} {vs : Array Value} {m : Nat} (ho : s.heap.get? a = some o) (hc : o.cls = .type "tuple") (hd : o.data = .seq vs m) (hq : ∀ v ∈ vs.toList, NoCls P w n s v) : NoCls P w (n + 1) s (.ref a) := fun A E Q h => by
  have hT : s.TypeIs (.ref a) "tuple" := ⟨o, ho, hc⟩
  unfold ofAClassStatement
  refine wpAny_bind (wpAny_typeOf hT ?_)
  have e : (("tuple" : String) == "tuple") = true := by decide
  simp only [e, if_true, pure_bind, Bool.not_true, Bool.false_eq_true, if_false]
  refine wpAny_bind (wpAny_seqItems ho hd ?_)
  dsimp only
  refine wpAny_bind ?_
  rw [← Array.forIn_toList]
  refine wpAny_forIn_list _ (fun rest r s' => r.1 = none ∧ s' = s ∧ ∀ v ∈ rest, NoCls P w n s v) _ ?_ ?_ _ _ ⟨rfl, rfl, hq⟩
  · rintro v rest r s' ⟨_, rfl, al⟩
    refine wpAny_bind (al v List.mem_cons_self _ _ _ ?_)
    simp only [Bool.false_eq_true, if_false]
    exact wpAny_pure ⟨rfl, rfl, fun u hu => al u (List.mem_cons_of_mem _ hu)⟩
  · rintro ⟨r1, r2⟩ s' ⟨hr, rfl, _⟩
    simp only at hr
    subst hr
    exact wpAny_pure h
theorem hashA_tup {n : Nat} {s : Shared} {a : Addr} {o : Obj} {vs : Array Value} {m : Nat} (ho : s.heap.get? a = some o) (hc : o.cls = .type "tuple") (hd : o.data = .seq vs m) (hq : ∀ v ∈ vs.toList, HashA P w n s v) : HashA P w (n + 1) s (.ref a) := fun A E Q h => by
  have hT : s.TypeIs (.ref a) "tuple" := ⟨o, ho, hc⟩
  unfold hashByValue
  refine wpAny_bind (wpAny_specialOf hT F.slot_tuple_hash.lookup ?_)
  show wpAny _ _ (seqItems? (.ref a) >>= _) _ _ s
  refine wpAny_bind (wpAny_seqItems ho hd ?_)
  refine wpAny_bind ?_
  show wpAny _ _ (forIn vs _ _) _ _ s
  rw [← Array.forIn_toList]
  refine wpAny_forIn_list _ (fun rest r s' => r.1 = none ∧ s' = s ∧ ∀ v ∈ rest, HashA P w n s v) _ ?_ ?_ _ _ ⟨rfl, rfl, hq⟩
  · rintro v rest r s' ⟨_, rfl, al⟩
    refine wpAny_bind (al v List.mem_cons_self _ _ _ fun b => ?_)
    cases b with
    | true =>
      simp only [Bool.not_true, Bool.false_eq_true, if_false]
      exact wpAny_pure ⟨rfl, rfl, fun u hu => al u (List.mem_cons_of_mem _ hu)⟩
    | false =>
      simp only [Bool.not_false, if_true]
      exact wpAny_pure (wpAny_pure (h false))
  · rintro ⟨r1, r2⟩ s' ⟨hr, rfl, _⟩
    simp only at hr
    subst hr
    exact wpAny_pure (h true)
mutual
theorem noCls_key : ∀ (k : NestedKey) (v : Value) (n : Nat) (s : Shared), NestedIs s.heap k v → k.depth ≤ n → NoCls P w n s v
  | .none, _, n, s, x, _ => by cases x; cases n <;> exact fun A E Q h => wpAny_pure h
  | .num i, _, n, s, x, _ => by cases x <;> cases n <;> exact fun A E Q h => wpAny_pure h
  | .text y, _, n, s, x, _ => by cases x; cases n <;> exact fun A E Q h => wpAny_pure h
  | .tup ks, _, n, s, x, hn => by
    cases x with
    | tup hg hc hd hk =>
      simp only [NestedKey.depth] at hn
      cases n with
      | zero => omega
      | succ n => exact noCls_tup hg hc hd (noCls_keys ks _ n s hk (by omega))
theorem noCls_keys : ∀ (ks : List NestedKey) (vs : List Value) (n : Nat) (s : Shared), NestedAll s.heap ks vs → NestedKey.depthAll ks ≤ n → ∀ v ∈ vs, NoCls P w n s v
  | [], _, n, s, x, _, v, hv => by cases x; cases hv
  | k :: ks, _, n, s, x, hn, v, hv => by
    cases x with
    | cons x1 x2 =>
      simp only [NestedKey.depthAll] at hn
      rcases List.mem_cons.mp hv with e | hv
      · rw [e]; exact noCls_key k _ n s x1 (by omega)
      · exact noCls_keys ks _ n s x2 (by omega) v hv
end
mutual
theorem hashA_key : ∀ (k : NestedKey) (v : Value) (n : Nat) (s : Shared), NestedIs s.heap k v → k.depth ≤ n → HashA P w n s v
  | .none, _, n, s, x, _ => by cases x; cases n <;> exact fun A E Q h => wpAny_pure (h true)
  | .num i, _, n, s, x, _ => by cases x <;> cases n <;> exact fun A E Q h => wpAny_pure (h true)
  | .text y, _, n, s, x, _ => by cases x; cases n <;> exact fun A E Q h => wpAny_pure (h false)
  | .tup ks, _, n, s, x, hn => by
    cases x with
    | tup hg hc hd hk =>
      simp only [NestedKey.depth] at hn
      cases n with
      | zero => omega
      | succ n => exact hashA_tup hg hc hd (hashA_keys ks _ n s hk (by omega))
theorem hashA_keys : ∀ (ks : List NestedKey) (vs : List Value) (n : Nat) (s : Shared), NestedAll s.heap ks vs → NestedKey.depthAll ks ≤ n → ∀ v ∈ vs, HashA P w n s v
  | [], _, n, s, x, _, v, hv => by cases x; cases hv
  | k :: ks, _, n, s, x, hn, v, hv => by
    cases x with
    | cons x1 x2 =>
      simp only [NestedKey.depthAll] at hn
      rcases List.mem_cons.mp hv with e | hv
      · rw [e]; exact hashA_key k _ n s x1 (by omega)
      · exact hashA_keys ks _ n s x2 (by omega) v hv
end
end
section
variable {P : Program} {w : World} {A : Around} {E : Value → Shared → Prop} {s : Shared} {a : Addr} {L : List SRow} {es : Array (Int × Value)} {ep : Nat} {t : SetTable}
/-- a key that is a tuple, at b -/
abbrev TKey (s : Shared) (k : NestedKey) (b : Addr) : Prop := NestedIs s.heap k (.ref b) ∧ k.depth ≤ 8
theorem TKey.nk {k : NestedKey} {b : Addr} (x : TKey s k b) : (nestedKind P w).is s.heap k b := x
theorem tp_ref {p : SRow} {h : Heap} (m : SMo.tp.fits p.1) (i : NestedIs h p.1 p.2) : p.1.depth ≤ 8 ∧ ∃ b, p.2 = .ref b := by
  obtain ⟨k, v⟩ := p
  cases k with
  | tup ks =>
    cases i with
    | tup _ _ _ _ => exact ⟨m, _, rfl⟩
  | _ => exact m.elim
/-- a search among such tells nothing -/
theorem seen_key {k : NestedKey} {b : Addr} {Q : Bool → Shared → Prop} (hk : TKey s k b) {ys : List Value} (hy : ∀ y ∈ ys, ∃ k' c, y = Value.ref c ∧ TKey s k' c) (h : Q false s) : wpAny (model P w) A (searchCouldBeSeen (.ref b) ys) Q E s := by
  unfold searchCouldBeSeen
  refine wpAny_bind (wpAny_forIn_list _ (fun rest r s' => r.1 = none ∧ s' = s ∧ ∀ y ∈ rest, ∃ k' c, y = Value.ref c ∧ TKey s k' c) _ ?_ ?_ _ _ ⟨rfl, rfl, hy⟩)
  · rintro v rest r s' ⟨_, rfl, al⟩
    obtain ⟨k', c, rfl, hc⟩ := al v List.mem_cons_self
    have al' : ∀ y ∈ rest, ∃ k' c, y = Value.ref c ∧ TKey s' k' c := fun u hu => al u (List.mem_cons_of_mem _ hu)
    dsimp only
    by_cases hv : (b == c || (carriedByValue (.ref b) && carriedByValue (.ref c))) = true
    · rw [if_pos hv]
      exact wpAny_pure ⟨rfl, rfl, al'⟩
    · rw [if_neg hv]
      refine wpAny_bind (quiet_key k _ 8 s' hk.1 hk.2 _ _ _ ?_)
      simp only [Bool.not_true, Bool.false_eq_true, if_false]
      refine wpAny_bind (quiet_key k' _ 8 s' hc.1 hc.2 _ _ _ ?_)
      simp only [Bool.not_true, Bool.false_eq_true, if_false]
      refine wpAny_bind (noCls_key k _ 8 s' hk.1 hk.2 _ _ _ ?_)
      simp only [Bool.false_eq_true, if_false]
      refine wpAny_bind (noCls_key k' _ 8 s' hc.1 hc.2 _ _ _ ?_)
      simp only [Bool.false_eq_true, if_false]
      exact wpAny_pure ⟨rfl, rfl, al'⟩
  · rintro ⟨r1, r2⟩ s' ⟨hr, rfl, _⟩
    simp only at hr
    subst hr
    exact wpAny_pure h
end
end Dc
end
section
set_option Elab.async false
set_option linter.all false
set_option maxRecDepth 100000
set_option maxHeartbeats 4000000
namespace Dc
open PySem PySem.Spec PyProof.Rows L2
abbrev pr0 (m : Nat) (h : Int) : SetTable.Probe := runAt m (SetTable.bits h % (m + 1)) (SetTable.bits h)
theorem nth_dm (m : Nat) : ∀ (n : Nat) (p : SetTable.Probe), p.dummy = none → (nth m p n).dummy = none
  | 0, _, h => h
  | n + 1, p, h => nth_dm m n (adv m p) (by unfold adv; split <;> exact h)
section
variable {P : Program} {w : World} {A : Around} {E : Value → Shared → Prop} {s : Shared} {a : Addr} {L : List SRow} {es : Array (Int × Value)} {ep : Nat} {t : SetTable}
theorem SV.ent {m : SMo} {h : Heap} (R : SV w m h a L es ep t) {i : Nat} {p : SRow} (e : L[i]? = some p) : es[i]? = some (p.1.hash w, p.2) := by
  rw [← Array.getElem?_toList, R.rows]; unfold srows; rw [List.getElem?_map, e]; rfl
theorem SV.odd (R : SV w .tp s.heap a L es ep t) : ¬ t.gaveWay = true := by
  unfold SetTable.gaveWay
  rw [mask_odd (R.tab rfl).1.mok]
  decide
theorem tp_from (R : SV w .tp s.heap a L es ep t) {x : Addr} {k : NestedKey} (hx : TKey s k x) (hu : A.units + 8 < cLine) {K : Nat} (hKf : K < 10 * SetTable.turns t.mask) (hK : way t.mask (k.hash w) K ∉ t.place.toList)
    (hKb : ∀ c, c < K → way t.mask (k.hash w) c ∈ t.place.toList) {Q : SetFound → Shared → Prop} (yes : k ∈ L.map (·.1) → Q (.there none) s) (no : k ∉ L.map (·.1) → Q (.free (way t.mask (k.hash w) K) false) s) :
    ∀ (f c : Nat) (st : Option SetTable.Probe), st.getD (t.probeStart (k.hash w)) = nth t.mask (pr0 t.mask (k.hash w)) c → c ≤ K → K - c < f →
      (∀ (i : Nat) p, L[i]? = some p → p.1 = k → ∃ c', c ≤ c' ∧ c' < K ∧ t.place.toList[i]? = some (way t.mask (k.hash w) c')) → wpAny (model P w) A (setSearchFrom a (.ref x) (k.hash w) true f st) Q E s := by
  obtain ⟨o, ho, hex, hd⟩ := R.ob
  obtain ⟨T, room, few⟩ := R.tab rfl
  intro f
  induction f with
  | zero => intro c st _ _ hf; exact absurd hf (Nat.not_lt_zero _)
  | succ f ih =>
    intro c st hst hc hf later
    rw [setSearchFrom_succ]
    refine wpAny_bind (wpAny_setState_of ho hd R.fit ?_)
    dsimp only
    rw [if_neg R.odd]
    have sh : ∀ q, nth t.mask (nth t.mask (pr0 t.mask (k.hash w)) c) q = nth t.mask (pr0 t.mask (k.hash w)) (c + q) := fun q => (nth_add t.mask c _ q).symm
    have wj : ∀ q, (nth t.mask (nth t.mask (pr0 t.mask (k.hash w)) c) q).j = way t.mask (k.hash w) (c + q) := fun q => congrArg SetTable.Probe.j (sh q)
    have hat : ∀ (i : Nat) p, L[i]? = some p → (es[i]?.map (·.1)).getD 0 = p.1.hash w := fun i p e => by rw [R.ent e]; rfl
    have eK : c + (K - c) = K := by omega
    rcases go_spec t T.ris T.dm (fun i => (es[i]?.map (·.1)).getD 0) (k.hash w) (10 * SetTable.turns t.mask) (K - c) _ (nth_dm t.mask c _ rfl) (by omega) (fun q hq => by rw [wj]; exact hKb (c + q) (by omega)) (by rw [wj, eK]; exact hK) with ⟨q, i, hq, hi, hh, ex, pr⟩ | ⟨ex, pr⟩
    · have pr' : t.probe (fun i => (es[i]?.map (·.1)).getD 0) (k.hash w) (st.getD (t.probeStart (k.hash w))) = some (.candidate (way t.mask (k.hash w) (c + q)) i (nth t.mask (pr0 t.mask (k.hash w)) (c + (q + 1)))) := by
        rw [hst, ← wj, ← sh]; exact pr
      rw [pr']
      dsimp only
      rw [wj] at hi
      have il : i < L.length := by
        have h1 := (List.getElem?_eq_some_iff.mp hi).1
        have h2 := T.sz
        rw [List.length_map] at h2
        rw [Array.length_toList] at h1
        omega
      obtain ⟨p, ep'⟩ : ∃ p, L[i]? = some p := ⟨_, List.getElem?_eq_getElem il⟩
      have pm : p ∈ L := List.mem_of_getElem? ep'
      obtain ⟨pd, b, eb⟩ := tp_ref (R.mo p pm) (R.is p pm)
      have pk : TKey s p.1 b := ⟨by rw [← eb]; exact R.is p pm, pd⟩
      have sl : t.slot (way t.mask (k.hash w) (c + q)) = .live i := slot_live T.ris hi
      have rest : wpAny (model P w) A (searchRest a (.ref x) (k.hash w) true f es t (way t.mask (k.hash w) (c + q)) i (nth t.mask (pr0 t.mask (k.hash w)) (c + (q + 1)))) Q E s := by
        unfold searchRest
        rw [R.ent ep', eb]
        dsimp only
        refine wpAny_bind (wpAny_holding ((nestedKind P w).eqBool hu pk.nk hx.nk (wpAny_bind (wpAny_setState_of ho hd R.fit ?_))))
        dsimp only
        by_cases ek : p.1 = k
        · simp only [ek, decide_true, Bool.and_self, if_true]
          exact wpAny_pure (yes (List.mem_map.mpr ⟨p, pm, ek⟩))
        · simp only [ek, decide_false, Bool.and_false, Bool.false_eq_true, if_false]
          rw [sameMem]
          simp only [if_true, sl, R.ent ep', eb]
          refine wpAny_bind (wpAny_isSame_ref_self (wpAny_bind (wpAny_pure ?_)))
          simp only [if_true]
          refine ih (c + (q + 1)) _ rfl (by omega) (by omega) fun i0 p0 e0 k0 => ?_
          obtain ⟨c', a1, a2, a3⟩ := later i0 p0 e0 k0
          refine ⟨c', ?_, a2, a3⟩
          rcases Nat.lt_trichotomy c' (c + q) with z | z | z
          · exact absurd ((hat i0 p0 e0).trans (by rw [k0])) (ex (c' - c) i0 (by omega) (by rw [wj, show c + (c' - c) = c' by omega]; exact a3))
          · rw [z] at a3
            have s0 := slot_live T.ris a3
            rw [sl] at s0
            injection s0 with s0
            rw [← s0, ep'] at e0
            cases e0
            exact absurd k0 ek
          · omega
      by_cases ld : t.led = true
      · rw [if_neg (by rw [ld]; decide)]
        exact rest
      · rw [if_pos (by cases h : t.led with | true => exact absurd h ld | false => rfl)]
        refine wpAny_bind (seen_key hx (fun y hy => ?_) ?_)
        · obtain ⟨e, he, rfl⟩ := List.mem_map.mp hy
          have he2 : e ∈ es.toList := by
            have := he
            simp at this
            simpa using this.1
          rw [R.rows] at he2
          obtain ⟨p2, hp2, rfl⟩ := List.mem_map.mp he2
          obtain ⟨d2, c2, e2⟩ := tp_ref (R.mo p2 hp2) (R.is p2 hp2)
          exact ⟨p2.1, c2, e2, by rw [← e2]; exact R.is p2 hp2, d2⟩
        · simp only [Bool.false_eq_true, if_false]
          exact rest
    · have pr' : t.probe (fun i => (es[i]?.map (·.1)).getD 0) (k.hash w) (st.getD (t.probeStart (k.hash w))) = some (.empty (way t.mask (k.hash w) K) none) := by
        rw [hst, show way t.mask (k.hash w) K = (nth t.mask (nth t.mask (pr0 t.mask (k.hash w)) c) (K - c)).j by rw [wj, eK]]; exact pr
      rw [pr']
      refine wpAny_pure (no fun hm => ?_)
      obtain ⟨p0, h0, k0⟩ := List.mem_map.mp hm
      obtain ⟨i0, l0, e0⟩ := List.getElem_of_mem h0
      have e1 : L[i0]? = some p0 := by rw [List.getElem?_eq_getElem l0, e0]
      obtain ⟨c', a1, a2, a3⟩ := later i0 p0 e1 k0
      exact ex (c' - c) i0 (by omega) (by rw [wj, show c + (c' - c) = c' by omega]; exact a3) ((hat i0 p0 e1).trans (by rw [k0]))
theorem tp_search (R : SV w .tp s.heap a L es ep t) {x : Addr} {k : NestedKey} (hx : TKey s k x) (hu : A.units + 8 < cLine) {Q : SetFound → Shared → Prop} (yes : k ∈ L.map (·.1) → Q (.there none) s)
    (no : ∀ K, k ∉ L.map (·.1) → way t.mask (k.hash w) K ∉ t.place.toList → (∀ c, c < K → way t.mask (k.hash w) c ∈ t.place.toList) → Q (.free (way t.mask (k.hash w) K) false) s) :
    wpAny (model P w) A (setSearch a (.ref x) (k.hash w) true) Q E s := by
  obtain ⟨T, room, few⟩ := R.tab rfl
  obtain ⟨K, hKf, hK, hKb⟩ := T.first (by rw [List.length_map]; omega) (k.hash w)
  have big : 10 * SetTable.turns t.mask ≤ 1420 := by
    unfold SetTable.turns
    rcases T.mok with e | e | e <;> omega
  unfold setSearch
  refine tp_from R hx hu hKf hK hKb yes (fun hn => no K hn hK hKb) 100000 0 none rfl (Nat.zero_le _) (by omega) fun i p hp hk => ?_
  have hi : (L.map fun p => p.1.hash w)[i]? = some (k.hash w) := by rw [List.getElem?_map, hp, ← hk]; rfl
  have il : i < t.place.toList.length := by
    have h1 := (List.getElem?_eq_some_iff.mp hp).1
    have h2 := T.sz
    rw [List.length_map] at h2
    rw [Array.length_toList]
    omega
  have hj := List.getElem?_eq_getElem il
  obtain ⟨c, hc, e⟩ := T.before hK hi hj
  exact ⟨c, Nat.zero_le _, hc, by rw [hj, e]⟩
end
end Dc
end
section
set_option Elab.async false
set_option linter.all false
set_option maxRecDepth 100000
set_option maxHeartbeats 4000000
namespace Dc
open PySem PySem.Spec PyProof.Rows L2
section
variable {P : Program} {w : World} {A : Around} {E : Value → Shared → Prop} {s : Shared} {a : Addr} {L : List SRow} {es : Array (Int × Value)} {ep : Nat} {t : SetTable}
theorem srows_fst (L : List SRow) : (srows w L).map (·.1) = L.map fun p => p.1.hash w := by unfold srows; rw [List.map_map]; rfl
theorem pick_rows (es : Array (Int × Value)) (ns : List Nat) (h : ∀ i ∈ ns, i < es.size) : (ns.filterMap fun i => es[i]?).map (·.1) = ns.map fun i => (es.map (·.1)).getD i 0 := by
  induction ns with
  | nil => rfl
  | cons i ns ih =>
    have hi := h i List.mem_cons_self
    rw [List.filterMap_cons_some (Array.getElem?_eq_getElem hi), List.map_cons, List.map_cons, ih fun j hj => h j (List.mem_cons_of_mem _ hj)]
    congr 1
    simp [Array.getD_eq_getD_getElem?, hi]
theorem tp_relay {o : Obj} (ho : s.heap.get? a = some o) (hex : o.ExactSet) (hd : o.data = .set es ep t) (hrows : es.toList = srows w L) (hsz : t.place.size = es.size) (hdm : t.dummies = #[]) (hfl : es.size ≤ t.mask)
    (ld : w.params.followText "set-order" = true ∨ t.led = true) {wanted M : Nat} (hw : SetTable.sizeAbove wanted - 1 = M) (hM : MaskOk M) (hw2 : SetTable.sizeAbove wanted ≤ 128) (hn : L.length * 5 < M * 3) {Q : Unit → Shared → Prop}
    (hQ : ∀ h' L' es' ep' t', Heap.SameBut a s.heap h' → (∃ o, h'.get? a = some o ∧ o.ExactSet ∧ o.data = .set es' ep' t') → es'.toList = srows w L' → L'.Perm L → TabOk t' (L'.map fun p => p.1.hash w) → L'.length * 5 < t'.mask * 3 →
      (w.params.followText "set-order" = true ∨ t'.led = true) → Q () { s with heap := h' }) : wpAny (model P w) A (setRelay a wanted) Q E s := by
  have sl : es.size = L.length := by rw [← Array.length_toList, hrows]; unfold srows; rw [List.length_map]
  have hfits : t.fits es.size = true := by
    unfold SetTable.fits SetTable.fill
    rw [hdm, Bool.and_eq_true, beq_iff_eq, decide_eq_true_eq]
    exact ⟨hsz, by show t.place.size + 0 ≤ t.mask; omega⟩
  obtain ⟨t', order, e, pm, T, em, el, _, _⟩ := relaid_ok t (hs := es.map (·.1)) (wanted := wanted) hw hM (by rw [Array.size_map, sl]; omega)
  rw [Array.size_map] at pm
  have below : ∀ i ∈ order.toList, i < es.size := fun i hi => List.mem_range.mp (pm.mem_iff.mp hi)
  have ef : (order.filterMap (es[·]?)).toList = order.toList.filterMap fun i => es[i]? := by simp
  have pf : (order.filterMap (es[·]?)).toList.Perm (srows w L) := by
    rw [ef, ← hrows]
    refine (pm.filterMap fun i => es[i]?).trans ?_
    rw [filterMap_getElem?_range]
  obtain ⟨L', pL, eL⟩ := rows_perm _ _ pf
  have hh : (L'.map fun p => p.1.hash w) = order.toList.map fun i => (es.map (·.1)).getD i 0 := by
    rw [← srows_fst, ← eL, ef, pick_rows es _ below]
  rw [← hh] at T
  have s2 : (order.filterMap (es[·]?)).size = es.size := by rw [← Array.length_toList, pf.length_eq, ← hrows, Array.length_toList]
  rw [setRelay_eq]
  refine wpAny_bind (wpAny_setState_of ho hd hfits ?_)
  dsimp only
  rw [if_neg (show ¬ SetTable.sizeAbove wanted > sizeLine by rw [sizeLine_eq]; omega), e]
  dsimp only
  rw [s2]
  simp only [bne_self_eq_false, Bool.false_eq_true, if_false]
  refine wpAny_bind (wpAny_pure (wpAny_storeSet_of ho hd ?_ (by rw [s2, sl, sizeLine_eq]; rcases hM with z | z | z <;> omega)))
  exact hQ _ L' _ _ t' (Heap.SameBut.update ..) ⟨_, store_at ho hd, hex, rfl⟩ eL pL T (by rw [pL.length_eq, em]; exact hn) (ld.imp id fun z => by rw [el]; exact z)
theorem tp_add (R : SV w .tp s.heap a L es ep t) {x : Addr} {k : NestedKey} (hx : TKey s k x) (mk : SMo.tp.fits k) (hu : A.units + 8 < cLine) (room : L.length + 1 < 64) {Q : Bool → Shared → Prop} (hQ : AddQ w .tp s a L k (.ref x) Q) :
    wpAny (model P w) A (setAddHashed a (.ref x) (k.hash w)) Q E s := by
  obtain ⟨o, ho, hex, hd⟩ := R.ob
  obtain ⟨T, rm, few⟩ := R.tab rfl
  unfold setAddHashed
  refine wpAny_holding ?_
  rw [show (100000 : Nat) = 99999 + 1 from rfl, setAddHashedIn_succ]
  refine wpAny_bind (wpAny_setState_of ho hd R.fit ?_)
  dsimp only
  rw [if_neg (show ¬ byScan (.ref x) es = true by simp [byScan, Value.scannable])]
  refine wpAny_bind (tp_search R hx hu (fun hm => ?_) fun K hm hK hb => ?_)
  · exact wpAny_pure (hQ false s.heap L es ep t (.refl a s.heap) R (fun _ => rfl) fun z => absurd hm z)
  dsimp only
  refine wpAny_bind (wpAny_setState_of ho hd R.fit ?_)
  dsimp only
  obtain ⟨q1, q2, q3, q4, q5, q6, q7, q8, q9⟩ := T.put hK hb
  generalize t.put (way t.mask (k.hash w) K) = pt at q1 q3 q4 q5 q6 q7 q8 q9 ⊢
  obtain ⟨t1, p⟩ := pt
  dsimp only at q1 q3 q4 q5 q6 q7 q8 q9 ⊢
  subst q1
  generalize SetTable.below t.place (way t.mask (k.hash w) K) = p at q2 q3 ⊢
  rw [List.length_map] at q2 q9
  have pmL : (L.take p ++ (k, Value.ref x) :: L.drop p).Perm ((k, Value.ref x) :: L) := by
    have z : (L.take p ++ (k, Value.ref x) :: L.drop p).Perm ((k, Value.ref x) :: (L.take p ++ L.drop p)) := List.perm_middle
    rwa [List.take_append_drop] at z
  have hin : (SetTable.insertAt es p (k.hash w, Value.ref x)).toList = srows w (L.take p ++ (k, Value.ref x) :: L.drop p) := by
    rw [SetTable.toList_insertAt, R.rows]
    unfold srows
    rw [List.map_append, List.map_cons, List.map_take, List.map_drop]
  have hhs : (L.take p ++ (k, Value.ref x) :: L.drop p).map (fun p => p.1.hash w) = (L.map fun p => p.1.hash w).take p ++ k.hash w :: (L.map fun p => p.1.hash w).drop p := by
    rw [List.map_append, List.map_cons, List.map_take, List.map_drop]
  rw [← hhs] at q3
  generalize SetTable.insertAt es p (k.hash w, Value.ref x) = es1 at hin ⊢
  generalize L.take p ++ (k, Value.ref x) :: L.drop p = L1 at pmL hin q3
  have l1 : L1.length = L.length + 1 := pmL.length_eq
  have z1 : es1.size = L.length + 1 := by rw [← Array.length_toList, hin]; unfold srows; rw [List.length_map, l1]
  have mem' : ∀ p ∈ L1, p = (k, Value.ref x) ∨ p ∈ L := fun p hp => List.mem_cons.mp (pmL.mem_iff.mp hp)
  have esz := R.size
  -- what is to come, once the set stands with the rows of a list like L1
  have fin : ∀ h' L' es' ep' t', Heap.SameBut a s.heap h' → (∃ o, h'.get? a = some o ∧ o.ExactSet ∧ o.data = .set es' ep' t') → es'.toList = srows w L' → L'.Perm L1 → TabOk t' (L'.map fun p => p.1.hash w) → L'.length * 5 < t'.mask * 3 →
      (w.params.followText "set-order" = true ∨ t'.led = true) → Q true { s with heap := h' } := fun h' L' es' ep' t' sb ob er pm T' rm' ld' => by
    have pm2 := pm.trans pmL
    have e1 : es'.size = L'.length := by rw [← Array.length_toList, er]; unfold srows; rw [List.length_map]
    have mem2 : ∀ p ∈ L', p = (k, Value.ref x) ∨ p ∈ L := fun p hp => mem' p (pm.mem_iff.mp hp)
    refine hQ true h' L' es' ep' t' sb ⟨ob, er, ?_, ?_, ?_, T'.ris, ld', fun p hp => ?_, fun p hp => ?_, fun _ => ⟨T', rm', ?_⟩⟩ (fun z => absurd z hm) fun _ => pm2
    · rw [(pm2.map (·.1)).nodup_iff, List.map_cons]
      exact List.nodup_cons.mpr ⟨hm, R.nd⟩
    · rw [pm2.length_eq, List.length_cons]; omega
    · unfold SetTable.fits SetTable.fill
      have h1 := T'.sz
      rw [List.length_map] at h1
      rw [T'.dm, Bool.and_eq_true, beq_iff_eq, decide_eq_true_eq]
      exact ⟨by rw [h1, e1], by show t'.place.size + 0 ≤ t'.mask; omega⟩
    · rcases mem2 p hp with e | z
      · rw [e]; exact mk
      · exact R.mo p z
    · rcases mem2 p hp with e | z
      · rw [e]; exact is_but hx.1 ho hd sb
      · exact is_but (R.is p z) ho hd sb
    · rw [pm2.length_eq, List.length_cons]; exact room
  -- behind the question of the hash: the table is t1, or t1 not plain
  have tl : ∀ t2 : SetTable, t2.place = t1.place → t2.mask = t1.mask → t2.dummies = t1.dummies → t2.led = t1.led → TabOk t2 (L1.map fun p => p.1.hash w) → wpAny (model P w) A (do
      storeSet a es1 t2
      if (!false && t2.tooFull) = true then setRelay a (SetTable.grown (es.size + 1))
      return true) Q E s := fun t2 d1 d2 d3 d4 T2 => by
    refine wpAny_bind (wpAny_storeSet_of ho hd ?_ (by rw [z1, sizeLine_eq]; omega))
    have sb := Heap.SameBut.update s.heap a (Obj.putSet es1 t2)
    have g1 := store_at (es' := es1) (t' := t2) ho hd
    have ld2 : w.params.followText "set-order" = true ∨ t2.led = true := R.led.imp id fun z => by rw [d4, q5]; exact z
    have fl : t2.fill = L.length + 1 := by unfold SetTable.fill at q9 ⊢; rw [d1, d3]; exact q9
    by_cases tf : t2.tooFull = true
    · rw [if_pos (by rw [tf]; rfl)]
      have full : (L.length + 1) * 5 ≥ t2.mask * 3 := by
        have h := tf
        unfold SetTable.tooFull at h
        rw [decide_eq_true_eq, fl] at h
        exact h
      rw [d2, q4] at full
      have c2 : (t.mask = 7 ∧ L.length = 4) ∨ (t.mask = 31 ∧ L.length = 18) := by
        rcases T.mok with e | e | e
        · left; rw [e] at full rm; exact ⟨e, by omega⟩
        · right; rw [e] at full rm; exact ⟨e, by omega⟩
        · exfalso; rw [e] at full; omega
      rw [esz]
      have sz1 : t2.place.size = es1.size := by
        have h := T2.sz
        rw [List.length_map, l1] at h
        rw [h, z1]
      have go : ∀ M, SetTable.sizeAbove (SetTable.grown (L.length + 1)) - 1 = M → MaskOk M → SetTable.sizeAbove (SetTable.grown (L.length + 1)) ≤ 128 → (L.length + 1) * 5 < M * 3 →
          wpAny (model P w) A (do setRelay a (SetTable.grown (L.length + 1)); pure true) Q E { s with heap := s.heap.update a (Obj.putSet es1 t2) } := fun M m1 m2 m3 m4 => by
        refine wpAny_bind (tp_relay (s := { s with heap := s.heap.update a (Obj.putSet es1 t2) }) g1 hex rfl hin sz1 T2.dm (by rw [z1, d2, q4]; rcases c2 with ⟨e, e2⟩ | ⟨e, e2⟩ <;> omega) ld2 m1 m2 m3 (by rw [l1]; exact m4) ?_)
        intro h' L' es' ep' t' sb2 ob er pm T' rm' ld'
        exact wpAny_pure (fin h' L' es' ep' t' (sb.trans sb2) ob er pm T' rm' ld')
      rcases c2 with ⟨_, e2⟩ | ⟨_, e2⟩
      · exact go 31 (by rw [e2, size_20]) (.inr (.inl rfl)) (by rw [e2, size_20]; decide) (by omega)
      · exact go 127 (by rw [e2, size_76]) (.inr (.inr rfl)) (by rw [e2, size_76]; decide) (by omega)
    · rw [if_neg (by intro z; rw [Bool.and_eq_true] at z; exact tf z.2)]
      refine wpAny_pure (fin _ L1 es1 _ t2 sb ⟨_, g1, hex, rfl⟩ hin (.refl _) T2 ?_ ld2)
      have h := tf
      unfold SetTable.tooFull at h
      rw [decide_eq_true_eq, fl] at h
      rw [l1]
      omega
  have T3 : TabOk { t1 with plain := false } (L1.map fun p => p.1.hash w) := ⟨q3.ris, q3.dm, q3.sz, q3.mok, q3.bd, q3.reach⟩
  by_cases pl : t1.plain = true
  · rw [if_pos pl]
    refine wpAny_bind (hashA_key k _ 8 s hx.1 hx.2 _ _ _ fun b => ?_)
    cases b with
    | true => exact tl t1 rfl rfl rfl rfl q3
    | false => exact tl { t1 with plain := false } rfl rfl rfl rfl T3
  · rw [if_neg pl]
    refine wpAny_bind (wpAny_pure ?_)
    exact tl t1 rfl rfl rfl rfl q3
end
end Dc
end
section
set_option Elab.async false
set_option linter.all false
set_option maxRecDepth 100000
set_option maxHeartbeats 4000000
namespace Dc
open PySem PySem.Spec PyProof.Rows L2
/-- what the set has got of the first i keys -/
structure Gt (ks : List NestedKey) (Pv : Nat → Value → Prop) (i : Nat) (L : List SRow) : Prop where
  sub : ∀ p ∈ L, ∃ j, j < i ∧ ks[j]? = some p.1 ∧ Pv j p.2
  all : ∀ k ∈ ks.take i, k ∈ L.map (·.1)
  len : L.length ≤ i
section
variable {P : Program} {w : World} {A : Around} {E : Value → Shared → Prop} {s : Shared} {m : SMo}
theorem key_hash {k : NestedKey} {v : Value} {Q : Int → Shared → Prop} (mk : m.fits k) (x : NestedIs s.heap k v) (hu : A.units + 8 < cLine) (h : Q (k.hash w) { s with toks := s.toks + k.draws }) : wpAny (model P w) A (pyHash v) Q E s := by
  refine pyHash_key k v A s Q x ?_ h
  cases k with
  | tup ks =>
    cases m with
    | tp =>
      have : (NestedKey.tup ks).depth ≤ 8 := mk
      omega
    | tx => exact mk.elim
  | text x => show A.units + 0 < cLine; omega
  | none => cases m <;> exact mk.elim
  | num i => cases m <;> exact mk.elim
theorem any_add {a : Addr} {L : List SRow} {es : Array (Int × Value)} {ep : Nat} {t : SetTable} {k : NestedKey} {v : Value} {Q : Bool → Shared → Prop} (R : SV w m s.heap a L es ep t) (mk : m.fits k) (x : NestedIs s.heap k v) (hu : A.units + 8 < cLine)
    (r1 : L.length + 1 < 4096) (r2 : m = .tp → L.length + 1 < 64) (hQ : AddQ w m s a L k v Q) : wpAny (model P w) A (setAddHashed a v (k.hash w)) Q E s := by
  cases m with
  | tx =>
    cases k with
    | text z =>
      cases x with
      | text _ u => exact tx_add R r1 hQ
    | _ => exact mk.elim
  | tp =>
    cases k with
    | tup ks =>
      cases x with
      | tup h1 h2 h3 h4 => exact tp_add R ⟨.tup h1 h2 h3 h4, mk⟩ mk hu (r2 rfl) hQ
    | _ => exact mk.elim
theorem upd_loop {I : Addr} {fp wr : List Addr} {n : Nat} {Pv : Nat → Value → Prop} {St : Nat → Heap → Prop} {R : Result → Shared → Prop} (W : Walks P w A.in1 I fp wr n Pv St) (S : Addr) (hSf : S ∉ fp) (ks : List NestedKey) (hn : n = ks.length)
    (r1 : ks.length < 4096) (r2 : m = .tp → ks.length < 64) (h0 : Heap) (hval : ∀ i v, Pv i v → ∃ k, ks[i]? = some k ∧ NestedIs h0 k v ∧ m.fits k) (hS0 : h0.get? S = none) (hw0 : ∀ b ∈ wr, h0.get? b = none) (hu : A.in1.units + 8 < cLine) :
    ∀ (d i : Nat) (s : Shared), n - i = d → i ≤ n → St i s.heap → (∀ b o, h0.get? b = some o → s.heap.get? b = some o) → (∃ L es ep t, SV w m s.heap S L es ep t ∧ Gt ks Pv i L) →
      (∀ s' L es ep t, s' = { s with heap := s'.heap, toks := s'.toks } → SV w m s'.heap S L es ep t → Gt ks Pv n L → (∀ b o, h0.get? b = some o → s'.heap.get? b = some o) → R (.ok (.ret .none)) s') →
      codeAny (model P w) A (.builtin "set.update.loop" ⟨[.ref S, .ref I], []⟩) R s := by
  have hSw : S ∉ wr := fun h => hSf (W.sub _ h)
  have old : ∀ {h h' : Heap}, (∀ b o, b ∉ wr → h.get? b = some o → h'.get? b = some o) → (∀ b o, h0.get? b = some o → h.get? b = some o) → ∀ b o, h0.get? b = some o → h'.get? b = some o :=
    fun hm hk b o e => hm b o (fun hb => by rw [hw0 b hb] at e; cases e) (hk b o e)
  have isAll : ∀ {L : List SRow} {i : Nat}, Gt ks Pv i L → ∀ p ∈ L, NestedIs h0 p.1 p.2 := fun g p hp => by
    obtain ⟨j, _, e1, e2⟩ := g.sub p hp
    obtain ⟨k, e3, e4, _⟩ := hval j _ e2
    rw [e1] at e3
    cases e3
    exact e4
  intro d
  induction d with
  | zero =>
    intro i s hd hi hst hkp ⟨L, es, ep, t, hS, g⟩ hR
    have : i = n := by omega
    subst this
    refine codeAny_builtin F.entry_set_update_loop ?_
    rw [Around.under_plainId F.plain_set_update_loop _]
    show wpAny _ A.in1 (pyNext (.ref I) >>= _) _ _ s
    refine wpAny_bind (W.done s _ _ hst fun h' tk hm => ?_)
    have hkp' := old hm hkp
    exact wpAny_pure (hR _ L es ep t rfl (hS.keep (fun o e => hm S o hSw e) fun p hp => is_keep (isAll g p hp) hkp') g hkp')
  | succ d ih =>
    intro i s hd hi hst hkp ⟨L, es, ep, t, hS, g⟩ hR
    have hlt : i < n := by omega
    refine codeAny_builtin F.entry_set_update_loop ?_
    rw [Around.under_plainId F.plain_set_update_loop _]
    show wpAny _ A.in1 (pyNext (.ref I) >>= _) _ _ s
    refine wpAny_bind (W.item i s _ _ hlt hst fun v h1 tk hP hst' hm => ?_)
    obtain ⟨k, hk, hx, mk⟩ := hval i v hP
    have hkp' := old hm hkp
    have hS' : SV w m h1 S L es ep t := hS.keep (fun o e => hm S o hSw e) fun p hp => is_keep (isAll g p hp) hkp'
    have hx' : NestedIs h1 k v := is_keep hx hkp'
    show wpAny _ A.in1 (holding [v] (setAdd S v) >>= _) _ _ _
    refine wpAny_bind (wpAny_holding ?_)
    unfold setAdd
    refine wpAny_holding (wpAny_bind (key_hash (s := { s with heap := h1, toks := tk }) mk hx' hu ?_))
    have gl := g.len
    refine any_add (s := { s with heap := h1, toks := tk + k.draws }) hS' mk hx' hu (by omega) (fun z => by have := r2 z; omega) fun b h2 L2 es2 ep2 t2 sb S2 c1 c2 => ?_
    have g2 : Gt ks Pv (i + 1) L2 := by
      by_cases c : k ∈ L.map (·.1)
      · rw [c1 c]
        refine ⟨fun p hp => let ⟨j, a1, a2, a3⟩ := g.sub p hp; ⟨j, Nat.lt_succ_of_lt a1, a2, a3⟩, fun q hq => ?_, Nat.le_succ_of_le gl⟩
        rw [List.take_succ, hk] at hq
        rcases List.mem_append.mp hq with z | z
        · exact g.all q z
        · rw [show q = k by simpa using z]; exact c
      · have pm := c2 c
        refine ⟨fun p hp => ?_, fun q hq => ?_, by rw [pm.length_eq, List.length_cons]; omega⟩
        · rcases List.mem_cons.mp (pm.mem_iff.mp hp) with e | z
          · rw [e]; exact ⟨i, Nat.lt_succ_self i, hk, hP⟩
          · obtain ⟨j, a1, a2, a3⟩ := g.sub p z
            exact ⟨j, Nat.lt_succ_of_lt a1, a2, a3⟩
        · rw [(pm.map (·.1)).mem_iff, List.map_cons]
          rw [List.take_succ, hk] at hq
          rcases List.mem_append.mp hq with z | z
          · exact List.mem_cons_of_mem _ (g.all q z)
          · rw [show q = k by simpa using z]; exact List.mem_cons_self
    have hkp2 : ∀ b o, h0.get? b = some o → h2.get? b = some o := fun b o e => (sb.2 b (fun z => by rw [z, hS0] at e; cases e)).trans (hkp' b o e)
    refine wpAny_pure ⟨plainId_quiet F.plain_set_update_loop _, ih (i + 1) _ (by omega) hlt (W.frame _ h1 _ hst' fun b hb o e => (sb.2 b fun z => hSf (z ▸ hb)).trans e) hkp2 ⟨L2, es2, ep2, t2, S2, g2⟩ fun s' L3 es3 ep3 t3 es' S3 g3 k3 => ?_⟩
    exact hR s' L3 es3 ep3 t3 (by rw [es']) S3 g3 k3
/-- a new set -/
theorem sv_fresh {h : Heap} {a : Addr} (ho : h.get? a = some { cls := .type "set", dict := none, data := .set #[] 0 (.fresh 0 0 (!w.params.followText "set-order")) }) : SV w m h a [] #[] 0 (.fresh 0 0 (!w.params.followText "set-order")) where
  ob := ⟨_, ho, ⟨rfl, rfl, rfl⟩, rfl⟩
  rows := rfl
  nd := List.nodup_nil
  few := by decide
  fit := by rfl
  ris := List.Pairwise.nil
  led := by
    show _ ∨ (!w.params.followText "set-order") = true
    cases w.params.followText "set-order"
    · exact .inr rfl
    · exact .inl rfl
  mo := fun p hp => nomatch hp
  is := fun p hp => nomatch hp
  tab := fun _ => ⟨⟨List.Pairwise.nil, rfl, rfl, .inl rfl, fun x hx => (nomatch hx), fun i h j hi => by simp at hi⟩, show 0 * 5 < 7 * 3 by decide, show 0 < 64 by decide⟩
/-- how v is walked: an iterator behind all, the keys ks in a row -/
def WalkOk (P : Program) (w : World) (m : SMo) (h0 : Heap) (v : Value) (ks : List NestedKey) (Pv : Nat → Value → Prop) : Prop :=
  (∀ i u, Pv i u → ∃ k, ks[i]? = some k ∧ NestedIs h0 k u ∧ m.fits k) ∧
  ∀ (A A' : Around) (E : Value → Shared → Prop) (s1 : Shared) (Q : Value → Shared → Prop), A'.handled = none → (∀ b o, h0.get? b = some o → s1.heap.get? b = some o) →
    (∀ (ob : Obj) (fp : List Addr) (St : Nat → Heap → Prop), Walks P w A' s1.heap.objs.size fp [s1.heap.objs.size] ks.length Pv St → St 0 (s1.heap.push ob) → ob.isFreed = false → (∀ b ∈ fp, b = s1.heap.objs.size ∨ h0.get? b ≠ none) → Q (.ref s1.heap.objs.size) { s1 with heap := s1.heap.push ob }) →
    wpAny (model P w) A (pyIter v) Q E s1
/-- set(v) -/
theorem call_set_any {v : Value} {T : String} {ks : List NestedKey} {Pv : Nat → Value → Prop} {Q : Value → Shared → Prop} (hh : A.handled = none) (hT : ∀ s1 : Shared, (∀ b o, s.heap.get? b = some o → s1.heap.get? b = some o) → s1.TypeIs v T)
    (n1 : isSubtype (.type T) (.type "set") = pure false) (n2 : isSubtype (.type T) (.type "frozenset") = pure false) (n3 : (Value.type T == Value.type "dict") = false) (hw : WalkOk P w m s.heap v ks Pv) (r1 : ks.length < 4096) (r2 : m = .tp → ks.length < 64)
    (hu : A.units + 11 < cLine)
    (h : ∀ (h' : Heap) (tk : Nat) L es ep t, SV w m h' s.heap.objs.size L es ep t → Gt ks Pv ks.length L → (∀ b o, s.heap.get? b = some o → h'.get? b = some o) → Q (.ref s.heap.objs.size) { s with heap := h', toks := tk }) :
    wpAny (model P w) A (call (.type "set") [v]) Q E s := by
  obtain ⟨c, tl, hmro⟩ := F.called_set.mro
  have hmade := F.called_set.made
  have hsub := F.called_set.sub
  refine wpAny_call (codeAny_of_tree ?_)
  show wpAny _ _ (callAny (.type "set") _) _ _ _
  refine wpAny_pure ⟨Code.quiet_builtin _ (by decide +kernel), codeAny_builtin F.entry_type_call ?_⟩
  rw [Around.under_plain (weight_type_call_type "set" [v] []) rfl]
  have h1 := F.called_set.notType
  have h2 := F.called_set.canCreate
  have hct := F.typeCall_set_1 v
  repeat (any_goals (first | assumption | wp_step))
  refine codeAny_mono (code_set_led1 v (E := E) (Q₁ := fun obj s₁ => obj = .ref s.heap.objs.size ∧ s₁ = { s with heap := s.heap.push { cls := .type "set", dict := none, data := .set #[] 0 (.fresh 0 0 (!w.params.followText "set-order")) } }) ⟨rfl, rfl⟩) fun r s₁ hr => ?_
  cases r with
  | error e => exact hr
  | ok fl =>
    cases fl with
    | ret obj =>
      obtain ⟨rfl, rfl⟩ := hr
      have hS : (s.heap.push { cls := .type "set", dict := none, data := .set #[] 0 (.fresh 0 0 (!w.params.followText "set-order")) }).get? s.heap.objs.size = some { cls := .type "set", dict := none, data := .set #[] 0 (.fresh 0 0 (!w.params.followText "set-order")) } := Heap.get?_push_size _ rfl
      have hT0 : Shared.TypeIs { s with heap := s.heap.push { cls := .type "set", dict := none, data := .set #[] 0 (.fresh 0 0 (!w.params.followText "set-order")) } } (.ref s.heap.objs.size) "set" := ⟨_, hS, rfl⟩
      have hli := F.called_set.init.lookup
      have hbi := F.called_set.init.bind (.ref s.heap.objs.size)
      repeat (any_goals (first | assumption | wp_step))
      refine codeAny_mono (codeAny_call_builtin (R := wants (fun r s₂ => r = .none ∧ ∃ h' tk L es ep t, s₂ = { s with heap := h', toks := tk } ∧ SV w m h' s.heap.objs.size L es ep t ∧ Gt ks Pv ks.length L ∧
          (∀ b o, s.heap.get? b = some o → h'.get? b = some o)) E) F.called_set.init.plain F.entry_set_init (check_set_init_1 hT0 ?_)) fun r₂ s₂ hr₂ => ?_
      · have kp : ∀ b o, s.heap.get? b = some o → (s.heap.push { cls := .type "set", dict := none, data := .set #[] 0 (.fresh 0 0 (!w.params.followText "set-order")) }).get? b = some o := fun b o e => Heap.get?_push_of_some _ e
        have hTv : Shared.TypeIs { s with heap := s.heap.push { cls := .type "set", dict := none, data := .set #[] 0 (.fresh 0 0 (!w.params.followText "set-order")) } } v T := hT _ kp
        have none_of : ∀ b, s.heap.objs.size ≤ b → s.heap.get? b = none := fun b hb => by
          cases q : s.heap.get? b with
          | none => rfl
          | some o => exact absurd (Nat.lt_of_lt_of_le (Heap.lt_size q) hb) (Nat.lt_irrefl _)
        have zz : (s.heap.push { cls := .type "set", dict := none, data := .set #[] 0 (.fresh 0 0 (!w.params.followText "set-order")) }).objs.size = s.heap.objs.size + 1 := Heap.size_push ..
        unfold Builtin.«set.__init__» noKeywords
        generalize hUF : Builtin.Frozenset.updateFrom = UF
        wp_walk
        subst hUF
        unfold Builtin.Frozenset.updateFrom Builtin.Frozenset.isAnySet orM
        refine wpAny_bind (wpAny_bind (wpAny_isInstance hTv n1 ?_))
        refine wpAny_isInstance hTv n2 ?_
        rw [if_neg Bool.false_ne_true]
        refine wpAny_bind (wpAny_typeOf hTv ?_)
        rw [n3, if_neg Bool.false_ne_true]
        refine wpAny_bind (hw.2 _ A.in1.in1.in1 _ _ _ (by simp [hh]) kp fun ob fp St W st fr hfp => wpAny_bind (wpAny_runValue ?_))
        have hg : ((s.heap.push { cls := .type "set", dict := none, data := .set #[] 0 (.fresh 0 0 (!w.params.followText "set-order")) }).push ob).get? s.heap.objs.size = some { cls := .type "set", dict := none, data := .set #[] 0 (.fresh 0 0 (!w.params.followText "set-order")) } := Heap.get?_push_of_some _ hS
        refine upd_loop (m := m) W s.heap.objs.size (fun z => ?_) ks rfl r1 r2 s.heap hw.1 (none_of _ (Nat.le_refl _)) (fun b hb => none_of b (by rw [List.mem_singleton.mp hb]; show s.heap.objs.size ≤ (s.heap.push _).objs.size; rw [zz]; omega)) (by simp only [Around.in1_units]; omega) ks.length 0 _ (by omega) (Nat.zero_le _) st (fun b o e => Heap.get?_push_of_some _ (kp b o e)) ⟨[], _, _, _, sv_fresh hg, ⟨fun p hp => (nomatch hp), fun k hk => by simp at hk, Nat.le_refl _⟩⟩ fun s' L es ep t e' S' g' k' => ?_
        · rcases hfp _ z with z | z
          · have : s.heap.objs.size = s.heap.objs.size + 1 := z.trans zz
            omega
          · exact z (none_of _ (Nat.le_refl _))
        · rw [e']
          refine wpAny_pure (wpAny_pure ⟨rfl, _, _, L, es, ep, t, rfl, S', g', k'⟩)
      · cases r₂ with
        | error e => exact hr₂
        | ok fl₂ =>
          cases fl₂ with
          | ret r =>
            obtain ⟨rfl, h', tk, L, es, ep, t, rfl, hS', g', hk'⟩ := hr₂
            repeat (any_goals (first | assumption | wp_step))
            exact h _ _ _ _ _ _ hS' g' hk'
          | _ => exact hr₂.elim
    | _ => exact hr.elim
end
end Dc
end
section
set_option Elab.async false
set_option linter.all false
set_option maxRecDepth 100000
set_option maxHeartbeats 4000000
/-! The order of data; sorting, the least. -/
namespace Dc
open PySem PySem.Spec PyProof.Rows L2
/-! ### the order -/
def ltNs : List Nat → List Nat → Bool
  | [], [] => false
  | [], _ :: _ => true
  | _ :: _, [] => false
  | a :: as, b :: bs => if a < b then true else if b < a then false else ltNs as bs
theorem ltNs_eq : ∀ a b : List Nat, ltNs a b = decide (a < b)
  | [], [] => by simp [ltNs]
  | [], _ :: _ => by simp [ltNs]
  | _ :: _, [] => by simp [ltNs]
  | a :: as, b :: bs => by
    unfold ltNs
    rw [ltNs_eq as bs]
    by_cases h1 : a < b
    · rw [if_pos h1]; simp [List.cons_lt_cons_iff, h1]
    · rw [if_neg h1]
      by_cases h2 : b < a
      · rw [if_pos h2]
        have : a ≠ b := by omega
        simp [List.cons_lt_cons_iff, h1, this]
      · rw [if_neg h2]
        have : a = b := by omega
        subst this
        simp [List.cons_lt_cons_iff]
mutual
def ltD : D → D → Bool
  | .int a, .int b => decide (a < b)
  | .str a, .str b => ltNs a b
  | .tup a, .tup b => ltDs a b
  | _, _ => false
def ltDs : List D → List D → Bool
  | [], [] => false
  | [], _ :: _ => true
  | _ :: _, [] => false
  | a :: as, b :: bs => if D.beq a b = true then ltDs as bs else ltD a b
end
/-- the kinds of data that are sorted -/
def isS : D → Bool
  | .str _ => true
  | _ => false
def isI : D → Bool
  | .int _ => true
  | _ => false
def is3 : D → Bool
  | .tup (.str _ :: xs) => xs.all isS
  | _ => false
def is4 : D → Bool
  | .tup [.int _, .tup xs] => xs.all isS
  | _ => false
def is5 : D → Bool
  | .tup (.int _ :: xs) => xs.all isI
  | _ => false
def is6 : D → Bool
  | .tup [.int _, .str _] => true
  | _ => false
def is7 : D → Bool
  | .tup [.int _, .str _, .tup xs, .int _] => xs.all isS
  | _ => false
def cls (d : D) : Nat := if isI d = true then 1 else if isS d = true then 2 else if is3 d = true then 3 else if is4 d = true then 4 else if is5 d = true then 5 else if is6 d = true then 6 else if is7 d = true then 7 else 0
inductive Cls : Nat → D → Prop
  | int (i : Int) : Cls 1 (.int i)
  | str (c : List Nat) : Cls 2 (.str c)
  | ss (c : List Nat) (xs : List D) : xs.all isS = true → Cls 3 (.tup (.str c :: xs))
  | ist (i : Int) (xs : List D) : xs.all isS = true → Cls 4 (.tup [.int i, .tup xs])
  | ii (i : Int) (xs : List D) : xs.all isI = true → Cls 5 (.tup (.int i :: xs))
  | is (i : Int) (c : List Nat) : Cls 6 (.tup [.int i, .str c])
  | ent (i : Int) (c : List Nat) (xs : List D) (j : Int) : xs.all isS = true → Cls 7 (.tup [.int i, .str c, .tup xs, .int j])
theorem cls_of {d : D} (h : cls d ≠ 0) : Cls (cls d) d := by
  unfold cls at h ⊢
  split
  · rename_i z; unfold isI at z; split at z
    · exact .int _
    · cases z
  split
  · rename_i z; unfold isS at z; split at z
    · exact .str _
    · cases z
  split
  · rename_i z; unfold is3 at z; split at z
    · exact .ss _ _ z
    · cases z
  split
  · rename_i z; unfold is4 at z; split at z
    · exact .ist _ _ z
    · cases z
  split
  · rename_i z; unfold is5 at z; split at z
    · exact .ii _ _ z
    · cases z
  split
  · rename_i z; unfold is6 at z; split at z
    · exact .is _ _
    · cases z
  split
  · rename_i z; unfold is7 at z; split at z
    · exact .ent _ _ _ _ z
    · cases z
  rename_i h1 h2 h3 h4 h5 h6 h7
  rw [if_neg h1, if_neg h2, if_neg h3, if_neg h4, if_neg h5, if_neg h6, if_neg h7] at h
  exact absurd rfl h
theorem alike_ss : ∀ xs ys : List D, xs.all isS = true → ys.all isS = true → W.alikeAll (pdats xs) (pdats ys) = true
  | [], _, _, _ => by simp [pdats, W.alikeAll]
  | _ :: _, [], _, _ => by simp [pdats, W.alikeAll]
  | x :: xs, y :: ys, h1, h2 => by
    simp only [List.all_cons, Bool.and_eq_true] at h1 h2
    cases x <;> first | (cases h1.1; done) | skip
    cases y <;> first | (cases h2.1; done) | skip
    simp [pdats, pdat, W.alikeAll, W.alike, alike_ss xs ys h1.2 h2.2]
theorem alike_is : ∀ xs ys : List D, xs.all isI = true → ys.all isI = true → W.alikeAll (pdats xs) (pdats ys) = true
  | [], _, _, _ => by simp [pdats, W.alikeAll]
  | _ :: _, [], _, _ => by simp [pdats, W.alikeAll]
  | x :: xs, y :: ys, h1, h2 => by
    simp only [List.all_cons, Bool.and_eq_true] at h1 h2
    cases x <;> first | (cases h1.1; done) | skip
    cases y <;> first | (cases h2.1; done) | skip
    simp [pdats, pdat, W.alikeAll, W.alike, alike_is xs ys h1.2 h2.2]
theorem Cls.alike {n : Nat} {a b : D} (x : Cls n a) (y : Cls n b) : W.alike (pdat a) (pdat b) = true := by
  cases x with
  | int i => cases y; simp [pdat, W.alike]
  | str c => cases y; simp [pdat, W.alike]
  | ss c xs h => cases y with | ss c' ys h' => simp [pdat, pdats, W.alike, W.alikeAll, alike_ss xs ys h h']
  | ist i xs h => cases y with | ist i' ys h' => simp [pdat, pdats, W.alike, W.alikeAll, alike_ss xs ys h h']
  | ii i xs h => cases y with | ii i' ys h' => simp [pdat, pdats, W.alike, W.alikeAll, alike_is xs ys h h']
  | is i c => cases y; simp [pdat, pdats, W.alike, W.alikeAll]
  | ent i c xs j h => cases y with | ent i' c' ys j' h' => simp [pdat, pdats, W.alike, W.alikeAll, alike_ss xs ys h h']
theorem Cls.plain {n : Nat} {a : D} (x : Cls n a) : D.plainN 2 a = true := by
  have g : ∀ (m : Nat) (xs : List D), (xs.all isS = true ∨ xs.all isI = true) → D.plainNs m xs = true := by
    intro m xs
    induction xs with
    | nil => intro _; rfl
    | cons x xs ih =>
      intro h
      unfold D.plainNs
      rw [Bool.and_eq_true]
      rcases h with h | h
      · simp only [List.all_cons, Bool.and_eq_true] at h
        refine ⟨?_, ih (.inl h.2)⟩
        cases x <;> first | (cases h.1; done) | simp [D.plainN]
      · simp only [List.all_cons, Bool.and_eq_true] at h
        refine ⟨?_, ih (.inr h.2)⟩
        cases x <;> first | (cases h.1; done) | simp [D.plainN]
  cases x with
  | int i => rfl
  | str c => rfl
  | ss c xs h => simp [D.plainN, D.plainNs, g 1 xs (.inl h)]
  | ist i xs h => simp [D.plainN, D.plainNs, g 0 xs (.inl h)]
  | ii i xs h => simp [D.plainN, D.plainNs, g 1 xs (.inr h)]
  | is i c => rfl
  | ent i c xs j h => simp [D.plainN, D.plainNs, g 0 xs (.inl h)]
mutual
theorem lt_dat : ∀ (a b : D) (n m : Nat), D.plainN n a = true → D.plainN m b = true → W.alike (pdat a) (pdat b) = true → a ≠ .non → W.dataLt (pdat a) (pdat b) = ltD a b
  | .int a, .int b, _, _, _, _, _, _ => by rw [pdat, pdat, W.dataLt_int, ltD]
  | .str a, .str b, _, _, _, _, _, _ => by rw [pdat, pdat, W.dataLt_str, ltD, ltNs_eq]
  | .tup a, .tup b, n, m, h1, h2, h3, _ => by
    cases n with
    | zero => simp [D.plainN] at h1
    | succ n =>
      cases m with
      | zero => simp [D.plainN] at h2
      | succ m =>
        rw [pdat, pdat, W.dataLt_tuple, ltD]
        rw [pdat, pdat, W.alike] at h3
        exact lt_dats a b n m (by simpa [D.plainN] using h1) (by simpa [D.plainN] using h2) h3
  | .non, _, _, _, _, _, _, h => absurd rfl h
  | .int _, .non, _, _, _, _, h, _ | .int _, .bl _, _, _, _, _, h, _ | .int _, .str _, _, _, _, _, h, _ | .int _, .tup _, _, _, _, _, h, _ | .int _, .ref _, _, _, _, _, h, _ | .int _, .fro _, _, _, _, _, h, _ => by simp [pdat, W.alike] at h
  | .str _, .non, _, _, _, _, h, _ | .str _, .bl _, _, _, _, _, h, _ | .str _, .int _, _, _, _, _, h, _ | .str _, .tup _, _, _, _, _, h, _ | .str _, .ref _, _, _, _, _, h, _ | .str _, .fro _, _, _, _, _, h, _ => by simp [pdat, W.alike] at h
  | .tup _, .non, _, _, _, _, h, _ | .tup _, .bl _, _, _, _, _, h, _ | .tup _, .int _, _, _, _, _, h, _ | .tup _, .str _, _, _, _, _, h, _ | .tup _, .ref _, _, _, _, _, h, _ | .tup _, .fro _, _, _, _, _, h, _ => by simp [pdat, W.alike] at h
  | .bl _, _, _, _, h, _, _, _ => by simp [D.plainN] at h
  | .ref _, _, _, _, h, _, _, _ => by simp [D.plainN] at h
  | .fro _, _, _, _, h, _, _, _ => by simp [D.plainN] at h
theorem lt_dats : ∀ (a b : List D) (n m : Nat), D.plainNs n a = true → D.plainNs m b = true → W.alikeAll (pdats a) (pdats b) = true → PyProof.Rows.lexLt itemOrd (W.keyToksAll (pdats a)) (W.keyToksAll (pdats b)) = ltDs a b
  | [], [], _, _, _, _, _ => by rw [ltDs]; decide
  | [], b :: bs, _, _, _, _, _ => by
    rw [ltDs]
    show PyProof.Rows.lexLt itemOrd [.inl 0] (.inl 1 :: _) = true
    rw [W.lex_atom (by decide)]
    decide
  | a :: as, [], _, _, _, _, _ => by
    rw [ltDs]
    show PyProof.Rows.lexLt itemOrd (.inl 1 :: _) [.inl 0] = false
    rw [W.lex_atom (by decide)]
    decide
  | a :: as, b :: bs, n, m, h1, h2, h3 => by
    unfold D.plainNs at h1 h2
    rw [Bool.and_eq_true] at h1 h2
    rw [pdats, pdats] at h3 ⊢
    obtain ⟨h4, h5⟩ := W.alike_all_cons h3
    have ee := pdat_eqv n a m b h1.1 h2.1
    rw [ltDs]
    by_cases e : D.beq a b = true
    · rw [if_pos e, W.dataLt_all_yes h4 (ee.trans e), lt_dats as bs n m h1.2 h2.2 h5]
    · have ef : PyData.eqv (pdat a) (pdat b) = false := by rw [ee]; simpa using e
      have hn : a ≠ .non := fun z => by
        subst z
        exact W.ne_none_of h4 ef rfl
      rw [if_neg e, W.dataLt_all_no h4 ef, lt_dat a b n m h1.1 h2.1 h4 hn]
end
end Dc
end
section
set_option Elab.async false
set_option linter.all false
set_option maxRecDepth 100000
set_option maxHeartbeats 4000000
namespace Dc
open PySem PySem.Spec PyProof.Rows L2
/-! ### sorting by insertion: what the kernel can run -/
def insL {α : Type} (le : α → α → Bool) (x : α) : List α → List α
  | [] => [x]
  | y :: ys => if le x y = true then x :: y :: ys else y :: insL le x ys
def isort {α : Type} (le : α → α → Bool) : List α → List α
  | [] => []
  | x :: xs => insL le x (isort le xs)
section
variable {α : Type} {le : α → α → Bool}
theorem insL_perm (x : α) : ∀ l : List α, (insL le x l).Perm (x :: l)
  | [] => .refl _
  | y :: ys => by
    unfold insL
    split
    · exact .refl _
    · exact ((insL_perm x ys).cons y).trans (.swap x y ys)
theorem isort_perm : ∀ l : List α, (isort le l).Perm l
  | [] => .refl _
  | x :: xs => (insL_perm x _).trans ((isort_perm xs).cons x)
theorem insL_pw (h : W.TotalLe le) (x : α) : ∀ l : List α, l.Pairwise (fun a b => le a b = true) → (insL le x l).Pairwise (fun a b => le a b = true)
  | [], _ => by simp [insL]
  | y :: ys, hp => by
    obtain ⟨h1, h2⟩ := List.pairwise_cons.mp hp
    unfold insL
    split
    · rename_i c
      refine List.pairwise_cons.mpr ⟨fun z hz => ?_, hp⟩
      rcases List.mem_cons.mp hz with e | hz
      · rw [e]; exact c
      · exact h.trans _ _ _ c (h1 z hz)
    · rename_i c
      refine List.pairwise_cons.mpr ⟨fun z hz => ?_, insL_pw h x ys h2⟩
      rcases List.mem_cons.mp ((insL_perm x ys).mem_iff.mp hz) with e | hz
      · rw [e]; exact (h.total y x).resolve_right c
      · exact h1 z hz
theorem isort_pw (h : W.TotalLe le) : ∀ l : List α, (isort le l).Pairwise (fun a b => le a b = true)
  | [] => .nil
  | x :: xs => insL_pw h x _ (isort_pw h xs)
theorem insL_filter (h : W.TotalLe le) (c x : α) : ∀ l : List α, (insL le x l).filter (W.sameRank le c) = (if W.sameRank le c x = true then [x] else []) ++ l.filter (W.sameRank le c)
  | [] => by simp [insL, List.filter]; cases W.sameRank le c x <;> rfl
  | y :: ys => by
    unfold insL
    split
    · rw [List.filter_cons]
      split <;> rfl
    · rename_i nle
      rw [List.filter_cons, insL_filter h c x ys]
      by_cases s1 : W.sameRank le c x = true
      · by_cases s2 : W.sameRank le c y = true
        · exfalso
          unfold W.sameRank at s1 s2
          rw [Bool.and_eq_true] at s1 s2
          exact nle (h.trans _ _ _ s1.2 s2.1)
        · rw [if_pos s1, if_neg s2, List.filter_cons, if_neg s2]
      · rw [if_neg s1, List.nil_append]
        by_cases s2 : W.sameRank le c y = true
        · rw [if_pos s2, List.filter_cons, if_pos s2]; rfl
        · rw [if_neg s2, List.filter_cons, if_neg s2]; rfl
theorem isort_filter (h : W.TotalLe le) (c : α) : ∀ l : List α, (isort le l).filter (W.sameRank le c) = l.filter (W.sameRank le c)
  | [] => rfl
  | x :: xs => by
    show (insL le x (isort le xs)).filter _ = _
    rw [insL_filter h, isort_filter h c xs, List.filter_cons]
    split <;> rfl
theorem isort_eq (h : W.TotalLe le) (l : List α) : l.mergeSort le = isort le l := (W.sort_unique h (isort_pw h l) fun c => isort_filter h c l).symm
theorem isort_congr {le' : α → α → Bool} {l : List α} (h : ∀ a ∈ l, ∀ b ∈ l, le a b = le' a b) : isort le l = isort le' l := by
  have ins : ∀ (x : α) (m : List α), (∀ b ∈ m, le x b = le' x b) → insL le x m = insL le' x m := by
    intro x m
    induction m with
    | nil => intro _; rfl
    | cons y ys ih =>
      intro hm
      unfold insL
      rw [hm y (by simp), ih fun b hb => hm b (List.mem_cons_of_mem _ hb)]
  induction l with
  | nil => rfl
  | cons x xs ih =>
    show insL le x (isort le xs) = insL le' x (isort le' xs)
    rw [← ih fun a ha b hb => h a (List.mem_cons_of_mem _ ha) b (List.mem_cons_of_mem _ hb)]
    refine ins x _ fun b hb => h x (by simp) b (List.mem_cons_of_mem _ ((isort_perm xs).mem_iff.mp hb))
end
def leD (a b : D) : Bool := !ltD b a
/-- all of one kind that can be sorted -/
def okSort : List D → Bool
  | [] => true
  | x :: xs => cls x != 0 && xs.all fun y => cls y == cls x
theorem okSort_cls {xs : List D} (h : okSort xs = true) : ∃ n, ∀ x ∈ xs, Cls n x := by
  cases xs with
  | nil => exact ⟨1, fun x hx => nomatch hx⟩
  | cons x xs =>
    unfold okSort at h
    rw [Bool.and_eq_true] at h
    have h0 : cls x ≠ 0 := by simpa using h.1
    refine ⟨cls x, fun y hy => ?_⟩
    rcases List.mem_cons.mp hy with e | hy
    · rw [e]; exact cls_of h0
    · have e : cls y = cls x := by simpa using List.all_eq_true.mp h.2 y hy
      rw [← e]
      exact cls_of (by rw [e]; exact h0)
theorem Cls.alikeL {n : Nat} {xs : List D} (h : ∀ x ∈ xs, Cls n x) : W.AllAlike (xs.map pdat) := fun d hd d' hd' => by
  obtain ⟨x, hx, rfl⟩ := List.mem_map.mp hd
  obtain ⟨y, hy, rfl⟩ := List.mem_map.mp hd'
  exact (h x hx).alike (h y hy)
theorem Cls.sortable {n : Nat} {xs : List D} (h : ∀ x ∈ xs, Cls n x) : W.Sortable (xs.map pdat) := by
  rcases Nat.lt_or_ge n 3 with c | c
  · refine .inr fun d hd => ?_
    obtain ⟨x, hx, rfl⟩ := List.mem_map.mp hd
    have q := h x hx
    cases q with
    | int i => exact ⟨fun z => (nomatch z), fun xs z => nomatch z⟩
    | str i => exact ⟨fun z => (nomatch z), fun xs z => nomatch z⟩
    | _ => omega
  · refine .inl fun d hd => ?_
    obtain ⟨x, hx, rfl⟩ := List.mem_map.mp hd
    have q := h x hx
    cases q with
    | int i => omega
    | str i => omega
    | ss c xs h => exact ⟨_, _, rfl⟩
    | ist c xs h => exact ⟨_, _, rfl⟩
    | ii c xs h => exact ⟨_, _, rfl⟩
    | is c xs => exact ⟨_, _, rfl⟩
    | ent i c xs j h => exact ⟨_, _, rfl⟩
theorem Cls.lt {n : Nat} {a b : D} (x : Cls n a) (y : Cls n b) : W.dataLt (pdat a) (pdat b) = ltD a b :=
  lt_dat a b 2 2 x.plain y.plain (x.alike y) (by cases x <;> exact fun z => nomatch z)
theorem dataLe_total {β : Type} (k : β → PyData) : W.TotalLe (W.dataLe false k) := W.sortLe_total _ _ _
/-- the sorted list, two ways -/
theorem sort_dat {β : Type} {n : Nat} (f : β → D) {xs : List β} (h : ∀ x ∈ xs, Cls n (f x)) : xs.mergeSort (W.dataLe false fun b => pdat (f b)) = isort (fun a b => leD (f a) (f b)) xs := by
  rw [isort_eq (dataLe_total _)]
  refine isort_congr fun a ha b hb => ?_
  rw [W.dataLe_eq]
  show (!W.dataLt (pdat (f b)) (pdat (f a))) = !ltD (f b) (f a)
  rw [(h b hb).lt (h a ha)]
theorem Cls.depth {n : Nat} {a : D} (x : Cls n a) : (pdat a).depth ≤ 2 := by
  have g : ∀ (xs : List D), (xs.all isS = true ∨ xs.all isI = true) → PyData.depthAll (pdats xs) = 0 := by
    intro xs
    induction xs with
    | nil => intro _; simp [pdats, PyData.depthAll]
    | cons x xs ih =>
      intro h
      rcases h with h | h
      · simp only [List.all_cons, Bool.and_eq_true] at h
        cases x <;> first | (cases h.1; done) | simp [pdats, pdat, PyData.depthAll, PyData.depth, ih (.inl h.2)]
      · simp only [List.all_cons, Bool.and_eq_true] at h
        cases x <;> first | (cases h.1; done) | simp [pdats, pdat, PyData.depthAll, PyData.depth, ih (.inr h.2)]
  cases x with
  | int i => simp [pdat, PyData.depth]
  | str c => simp [pdat, PyData.depth]
  | ss c xs h => simp [pdat, pdats, PyData.depth, PyData.depthAll, g xs (.inl h)]
  | ist i xs h => simp [pdat, pdats, PyData.depth, PyData.depthAll, g xs (.inl h)]
  | ii i xs h => simp [pdat, pdats, PyData.depth, PyData.depthAll, g xs (.inr h)]
  | is i c => simp [pdat, pdats, PyData.depth, PyData.depthAll]
  | ent i c xs j h => simp [pdat, pdats, PyData.depth, PyData.depthAll, g xs (.inl h)]
/-- what a value stands for -/
def StD (K : PySem.W.Frag) (B : List Addr) (H : Hp) (u : Value) (d : D) : Prop := ∃ x, RelV x u ∧ Rep K B H d x
theorem each_of {K : PySem.W.Frag} {B : List Addr} {H : Hp} : ∀ {ds : List D} {xs : List V} {us : List Value}, Reps K B H ds xs → Vals xs us → W.EachIs (StD K B H) us ds
  | _, _, _, .nil, .nil => .nil
  | _, _, _, .cons r rs, .cons v vs => .cons ⟨_, v, r⟩ (each_of rs vs)
theorem of_each {K : PySem.W.Frag} {B : List Addr} {H : Hp} : ∀ {ds : List D} {us : List Value}, W.EachIs (StD K B H) us ds → ∃ xs, Reps K B H ds xs ∧ Vals xs us
  | _, _, .nil => ⟨[], .nil, .nil⟩
  | _, _, .cons ⟨x, v, r⟩ t => let ⟨xs, h1, h2⟩ := of_each t; ⟨x :: xs, .cons r h1, .cons v h2⟩
section
variable {X : Cx} {F : Fl}
theorem StD.reads {pins : List (Addr × Obj)} {σ : L2.St} {H : Hp} {s : Shared} {B : List Addr} (I : Inv X pins σ H s) {u : Value} {d : D} (h : StD X.K B H u d) (hr : refless d = true) : ∃ as, Reads s.heap u (pdat d) as := by
  obtain ⟨x, h1, h2⟩ := h
  exact Dp.reads I _ x u (h2.dp hr) h1
theorem Cls.refless {n : Nat} {a : D} (x : Cls n a) : refless a = true := plain_refless 2 a x.plain
/-- sorted(xs), xs a list -/
def fSorted (ds : List D) (h : Hh) : Rs D := match ds with
  | [d] => (match listOf d h with
    | some xs => if okSort xs = true then .ok (.ref h.length) (h ++ [.lst (isort leD xs)]) else .bad
    | none => .bad)
  | _ => .bad
theorem each_mono2 {α β : Type} {R R' : α → β → Prop} : ∀ {as : List α} {bs : List β}, (∀ a b, b ∈ bs → R a b → R' a b) → W.EachIs R as bs → W.EachIs R' as bs
  | _, _, _, .nil => .nil
  | _, _, h, .cons r t => .cons (h _ _ (by simp) r) (each_mono2 (fun a b hb => h a b (List.mem_cons_of_mem _ hb)) t)
theorem crd_sorted (hu : X.A.units + 4 < cLine) : CallR X (.builtin "sorted") (rAbsC X.prog X.w X.K F fSorted) := by
  intro pins s σ H xs us Q I rs ⟨Wd, σ0, B, h, ds, xh, rr, p⟩
  unfold fSorted at p
  split at p
  · rename_i d
    cases rr with
    | cons r1 rn =>
      cases rn
      cases e : listOf d h with
      | none => rw [e] at p; exact p.elim
      | some zs =>
        rw [e] at p
        dsimp only at p
        split at p
        · rename_i ok
          obtain ⟨n, hcl⟩ := okSort_cls ok
          obtain ⟨a, vs, rfl, hq, h2⟩ := list_sem xh r1 e
          obtain ⟨its, rv, hl, hz⟩ := I.list hq
          rw [Vals.ref1 rs]
          have eI := each_of h2 rv
          refine W.sorted_data (R := StD X.K B H) (enc := pdat) (bs := zs) hl.isList eI (each_mono2 (fun u b hb st => st.reads I (hcl b hb).refless) eI) (Cls.alikeL hcl) (Cls.sortable hcl) (by rw [h2.length]; exact hz) (fun b hb => by have := (hcl b hb).depth; omega) fun out ho eo => ?_
          rw [sort_dat (fun b => b) hcl] at eo
          obtain ⟨ys, ry, vy⟩ := of_each eo
          obtain ⟨ep, he'⟩ := PyProof.Rows.sortedAll_at s.heap its out.toArray
          have hn : H (s.heap.objs.size + 1) = none := I.hok.fresh (Nat.le_succ _)
          have st : Step F B H (B ++ [s.heap.objs.size + 1]) (upd H (s.heap.objs.size + 1) (.lst ys)) := step_push xh hn
          refine ⟨.ref _, upd H (s.heap.objs.size + 1) (.lst ys), I.laid (t' := s.toks) (fun _ _ => PyProof.Rows.sortedAll_old) (Nat.le_succ _) ⟨?_, out, ep, vy, he'⟩, rfl, ?_⟩
          · rw [vy.length, ho, h2.length]; exact hz
          · exact p _ _ _ st (xh.push hn ⟨_, upd_same, ry.step st⟩) (.ref (by simp [xh.len]))
        · exact p.elim
  · exact p.elim
end
end Dc
end
section
set_option Elab.async false
set_option linter.all false
set_option maxRecDepth 100000
set_option maxHeartbeats 4000000
/-! len(set(x)), sorted(set(x)). -/
namespace Dc
open PySem PySem.Spec PyProof.Rows L2
def dedup : List D → List D
  | [] => []
  | x :: xs => if (xs.any fun y => D.beq y x) = true then dedup xs else x :: dedup xs
theorem beq_iff {a b : D} : D.beq a b = true ↔ a = b := ⟨D.eq_of_beq a b, fun h => h ▸ D.beq_self a⟩
theorem mem_dedup : ∀ {xs : List D} {y : D}, y ∈ dedup xs ↔ y ∈ xs
  | [], y => .rfl
  | x :: xs, y => by
    unfold dedup
    split
    · rename_i h
      obtain ⟨z, hz, e⟩ := List.any_eq_true.mp h
      have e := beq_iff.mp e
      subst e
      rw [mem_dedup, List.mem_cons]
      exact ⟨.inr, fun h => h.elim (fun e => e ▸ hz) id⟩
    · rw [List.mem_cons, List.mem_cons, mem_dedup]
theorem nodup_dedup : ∀ xs : List D, (dedup xs).Nodup
  | [] => List.nodup_nil
  | x :: xs => by
    unfold dedup
    split
    · exact nodup_dedup xs
    · rename_i h
      refine List.nodup_cons.mpr ⟨fun z => h ?_, nodup_dedup xs⟩
      exact List.any_eq_true.mpr ⟨x, mem_dedup.mp z, beq_iff.mpr rfl⟩
/-- the items of which a set is made -/
def setItems (d : D) (h : Hh) : Option (List D) := match d with
  | .str cs => some (cs.map fun c => .str [c])
  | _ => seqOf d h
def setOk (xs : List D) : Bool := (xs.all isS && decide (xs.length < 4096)) || (xs.all isKey && decide (xs.length < 64))
def SetM (m : SMo) (xs : List D) : Prop := match m with
  | .tx => xs.all isS = true ∧ xs.length < 4096
  | .tp => xs.all isKey = true ∧ xs.length < 64
theorem setOk_m {xs : List D} (h : setOk xs = true) : ∃ m, SetM m xs := by
  unfold setOk at h
  rw [Bool.or_eq_true] at h
  rcases h with h | h
  · rw [Bool.and_eq_true, decide_eq_true_eq] at h; exact ⟨.tx, h⟩
  · rw [Bool.and_eq_true, decide_eq_true_eq] at h; exact ⟨.tp, h⟩
theorem SetM.few {m : SMo} {xs : List D} (h : SetM m xs) : xs.length < 4096 := by
  cases m with
  | tx => exact h.2
  | tp => have := h.2; omega
theorem SetM.pl {m : SMo} {xs : List D} (h : SetM m xs) {x : D} (hx : x ∈ xs) : D.plainN 8 x = true ∧ m.fits (nkey x) := by
  cases m with
  | tx =>
    have := List.all_eq_true.mp h.1 x hx
    cases x <;> first | (cases this; done) | exact ⟨by simp [D.plainN], trivial⟩
  | tp =>
    have := List.all_eq_true.mp h.1 x hx
    have p := isKey_plain this
    refine ⟨p, ?_⟩
    cases x <;> first | (cases this; done) | exact nkey_depth 8 _ p
theorem SetM.inj {m : SMo} {xs : List D} (h : SetM m xs) {x y : D} (hx : x ∈ xs) (hy : y ∈ xs) (e : nkey x = nkey y) : x = y := nkey_inj 8 x 8 y (h.pl hx).1 (h.pl hy).1 e
section
variable {X : Cx} {F : Fl} {pins : List (Addr × Obj)} {σ : L2.St} {H : Hp} {s : Shared} {B : List Addr}
theorem pl_nested (I : Inv X pins σ H s) {d : D} {u : Value} (p : D.plainN 8 d = true) (st : StD X.K B H u d) : NestedIs s.heap (nkey d) u := by
  obtain ⟨x, h1, h2⟩ := st
  exact Rep.nested I (plain_refless 8 d p) (fun xs e => by subst e; simp [D.plainN] at p) h2 h1 8 p
/-- how the thing is walked: item j stands for ds[j] -/
structure Wk (X : Cx) (B : List Addr) (H : Hp) (m : SMo) (s : Shared) (u : Value) (ds : List D) (T : String) (Pv : Nat → Value → Prop) : Prop where
  ty : ∀ s1 : Shared, (∀ b o, s.heap.get? b = some o → s1.heap.get? b = some o) → s1.TypeIs u T
  n1 : isSubtype (.type T) (.type "set") = pure false
  n2 : isSubtype (.type T) (.type "frozenset") = pure false
  n3 : (Value.type T == Value.type "dict") = false
  st : ∀ i v, Pv i v → ∃ d, ds[i]? = some d ∧ StD X.K B H v d
  wk : WalkOk X.prog X.w m s.heap u (ds.map nkey) Pv
theorem each_get {α β : Type} {R : α → β → Prop} : ∀ {as : List α} {bs : List β}, W.EachIs R as bs → ∀ (i : Nat) (a : α), as[i]? = some a → ∃ b, bs[i]? = some b ∧ R a b
  | _, _, .nil, i, a, e => by simp at e
  | _, _, .cons r t, 0, a, e => by simp at e; subst e; exact ⟨_, rfl, r⟩
  | _, _, .cons r t, i + 1, a, e => by simpa using each_get t i a (by simpa using e)
theorem wk_of {P : Program} {w : World} {h : Hh} {m : SMo} {d : D} {x : V} {u : Value} {ds : List D} (I : Inv X pins σ H s) (xh : RelH P w X.K B h H) (r : Rep X.K B H d x) (rx : RelV x u) (e : setItems d h = some ds) (hm : SetM m ds) : ∃ T Pv, Wk X B H m s u ds T Pv := by
  have key : ∀ {Pv : Nat → Value → Prop}, (∀ i v, Pv i v → ∃ d, ds[i]? = some d ∧ StD X.K B H v d) → ∀ i u, Pv i u → ∃ k, (ds.map nkey)[i]? = some k ∧ NestedIs s.heap k u ∧ m.fits k := fun h i u p => by
    obtain ⟨d, e1, e2⟩ := h i u p
    obtain ⟨p1, p2⟩ := hm.pl (List.mem_of_getElem? e1)
    exact ⟨nkey d, by rw [List.getElem?_map, e1]; rfl, pl_nested I p1 e2, p2⟩
  by_cases hs : ∃ cs, d = .str cs
  · obtain ⟨cs, rfl⟩ := hs
    cases r with
    | str ok =>
      obtain ⟨t, rfl⟩ := rx
      have e' : ds = cs.map fun c => D.str [c] := by
        have : some (cs.map fun c => D.str [c]) = some ds := e
        exact (Option.some.inj this).symm
      have st : ∀ i v, SignAt ⟨cs.toArray⟩ i v → ∃ d, ds[i]? = some d ∧ StD X.K B H v d := fun i v ⟨c, t', h1, h2⟩ => by
        have h1' : cs[i]? = some c := by simpa using h1
        refine ⟨.str [c], by rw [e', List.getElem?_map, h1']; rfl, .str ⟨#[c]⟩, ⟨t', h2⟩, .str ?_⟩
        simpa using List.all_eq_true.mp ok c (List.mem_of_getElem? h1')
      have lz : (ds.map nkey).length = (⟨cs.toArray⟩ : Str).cps.size := by rw [e']; simp
      refine ⟨"str", SignAt ⟨cs.toArray⟩, fun s1 _ => typeIs_str s1 _ _, F.sub_str_set, F.sub_str_frozenset, by decide, st, key st, fun A A' E s1 Q hh kp q => ?_⟩
      cases ha : (⟨cs.toArray⟩ : Str).cps.all (· < 128)
      · have Wv := Walks.strWide (prog := X.prog) (w := X.w) hh s1.heap.objs.size ⟨cs.toArray⟩ t
        rw [← lz] at Wv
        exact wpAny_pyIter_wide ha (q _ _ _ Wv ⟨_, Heap.get?_push_size _ rfl, rfl, rfl⟩ rfl fun b hb => .inl (by simpa using hb))
      · have Wv := Walks.strAscii (prog := X.prog) (w := X.w) hh s1.heap.objs.size ⟨cs.toArray⟩ t
        rw [← lz] at Wv
        exact wpAny_pyIter_ascii ha (q _ _ _ Wv ⟨_, Heap.get?_push_size _ rfl, rfl, rfl⟩ rfl fun b hb => .inl (by simpa using hb))
  · have e2 : seqOf d h = some ds := by
      unfold setItems at e
      split at e
      · exact absurd ⟨_, rfl⟩ hs
      · exact e
    obtain ⟨a, vs, rfl, hq, h2⟩ := seq_sem2 xh r e2
    cases rx
    rcases hq with hq | hq
    · obtain ⟨its, rv, pl, hz⟩ := I.list hq
      have ei := each_of h2 rv
      have st : ∀ i v, its.toArray[i]? = some v → ∃ d, ds[i]? = some d ∧ StD X.K B H v d := fun i v hv => each_get ei i v (by simpa using hv)
      have lz : (ds.map nkey).length = its.toArray.size := by rw [List.length_map, h2.length, rv.length]; simp
      have hl := pl.isList
      refine ⟨"list", fun i v => its.toArray[i]? = some v, fun s1 kp => (hl.at fun o e => kp _ o e).typeIs, F.sub_list_set, F.sub_list_frozenset, by decide, st, key st, fun A A' E s1 Q hh kp q => ?_⟩
      have hl1 : s1.heap.IsList a its.toArray := hl.at fun o e => kp _ o e
      have hne : a ≠ s1.heap.objs.size := by obtain ⟨o, ho, _⟩ := hl1; exact Nat.ne_of_lt (Heap.lt_size ho)
      have Wv := Walks.list (prog := X.prog) (w := X.w) hh s1.heap.objs.size a hne its.toArray
      rw [← lz] at Wv
      refine wpAny_pyIter_list hl1 (q _ _ _ Wv ⟨⟨_, Heap.get?_push_size _ rfl, rfl, rfl⟩, hl1.push _⟩ rfl fun b hb => ?_)
      rcases List.mem_cons.mp hb with e | e
      · exact .inl e
      · refine .inr ?_
        rw [List.mem_singleton.mp e]
        obtain ⟨o, ho, _⟩ := hl
        rw [ho]
        exact fun z => nomatch z
    · obtain ⟨its, rv, pl, hz⟩ := I.tuple hq
      have ei := each_of h2 rv
      have st : ∀ i v, its.toArray[i]? = some v → ∃ d, ds[i]? = some d ∧ StD X.K B H v d := fun i v hv => each_get ei i v (by simpa using hv)
      have lz : (ds.map nkey).length = its.toArray.size := by rw [List.length_map, h2.length, rv.length]; simp
      have hl : s.heap.IsTuple a its.toArray := pl
      have up : ∀ s1 : Shared, (∀ b o, s.heap.get? b = some o → s1.heap.get? b = some o) → s1.heap.IsTuple a its.toArray := fun s1 kp => by
        obtain ⟨o, ho, r⟩ := hl
        exact ⟨o, kp _ o ho, r⟩
      refine ⟨"tuple", fun i v => its.toArray[i]? = some v, fun s1 kp => (up s1 kp).typeIs, F.sub_tuple_set, F.sub_tuple_frozenset, by decide, st, key st, fun A A' E s1 Q hh kp q => ?_⟩
      have hl1 := up s1 kp
      have hne : a ≠ s1.heap.objs.size := by obtain ⟨o, ho, _⟩ := hl1; exact Nat.ne_of_lt (Heap.lt_size ho)
      have hl2 : ∀ ob : Obj, (s1.heap.push ob).IsTuple a its.toArray := fun ob => by
        obtain ⟨o, ho, r⟩ := hl1
        exact ⟨o, Heap.get?_push_of_some _ ho, r⟩
      have Wv := Walks.tuple (prog := X.prog) (w := X.w) hh s1.heap.objs.size a hne its.toArray
      rw [← lz] at Wv
      refine wpAny_pyIter_tuple hl1 (q _ _ _ Wv ⟨⟨_, Heap.get?_push_size _ rfl, rfl, rfl⟩, hl2 _⟩ rfl fun b hb => ?_)
      rcases List.mem_cons.mp hb with e | e
      · exact .inl e
      · refine .inr ?_
        rw [List.mem_singleton.mp e]
        obtain ⟨o, ho, _⟩ := hl
        rw [ho]
        exact fun z => nomatch z
/-- the members' data -/
theorem rows_dat {m : SMo} {ds : List D} {Pv : Nat → Value → Prop} {L : List SRow} (hm : SetM m ds) (st : ∀ i v, Pv i v → ∃ d, ds[i]? = some d ∧ StD X.K B H v d) (g : Gt (ds.map nkey) Pv (ds.map nkey).length L) (nd : (L.map (·.1)).Nodup) :
    ∃ bs, W.EachIs (StD X.K B H) (L.map (·.2)) bs ∧ bs.Nodup ∧ ∀ b, b ∈ bs ↔ b ∈ ds := by
  have one : ∀ p ∈ L, ∃ d, d ∈ ds ∧ StD X.K B H p.2 d ∧ nkey d = p.1 := fun p hp => by
    obtain ⟨j, _, e1, e2⟩ := g.sub p hp
    obtain ⟨d, e3, e4⟩ := st j _ e2
    rw [List.getElem?_map, e3] at e1
    exact ⟨d, List.mem_of_getElem? e3, e4, Option.some.inj e1⟩
  have all : ∀ L' : List SRow, (∀ p ∈ L', p ∈ L) → ∃ bs, W.EachIs (StD X.K B H) (L'.map (·.2)) bs ∧ bs.map nkey = L'.map (·.1) ∧ ∀ b ∈ bs, b ∈ ds := by
    intro L'
    induction L' with
    | nil => exact fun _ => ⟨[], .nil, rfl, fun b hb => nomatch hb⟩
    | cons p L' ih =>
      intro hs
      obtain ⟨bs, h1, h2, h3⟩ := ih fun q hq => hs q (List.mem_cons_of_mem _ hq)
      obtain ⟨d, k1, k2, k3⟩ := one p (hs p (by simp))
      refine ⟨d :: bs, .cons k2 h1, by rw [List.map_cons, List.map_cons, h2, k3], fun b hb => ?_⟩
      rcases List.mem_cons.mp hb with e | hb
      · rw [e]; exact k1
      · exact h3 b hb
  obtain ⟨bs, h1, h2, h3⟩ := all L fun _ h => h
  refine ⟨bs, h1, ?_, fun b => ⟨h3 b, fun hb => ?_⟩⟩
  · rw [← h2] at nd
    exact nodup_of_map nd
  · have hk : nkey b ∈ (ds.map nkey).take (ds.map nkey).length := by rw [List.take_length]; exact List.mem_map.mpr ⟨b, hb, rfl⟩
    have hl := g.all _ hk
    rw [← h2] at hl
    obtain ⟨c, hc, e⟩ := List.mem_map.mp hl
    rw [← hm.inj (h3 c hc) hb e]
    exact hc
theorem perm_dedup {bs ds : List D} (nd : bs.Nodup) (h : ∀ b, b ∈ bs ↔ b ∈ ds) : bs.Perm (dedup ds) := (List.perm_ext_iff_of_nodup nd (nodup_dedup ds)).mpr fun b => (h b).trans mem_dedup.symm
end
def xLenSet (m : EM) : EM := fun r h => (m r h).bind fun d h1 => match setItems d h1 with
  | some xs => if setOk xs = true then .ok (.int (dedup xs).length) h1 else .bad
  | none => .bad
section
variable {X : Cx} {Wd : WD} {F : Fl}
theorem de_lenSet {a : Expr} {ma : EM} {p p2 q pos : Pos} (hc : X.calm = true) (hu : X.A.units + 11 < cLine) (hm : X.mg "len" = none) (hm2 : X.mg "set" = none) (ha : DE X Wd F a ma) (hg : Gl X "len" := by rfl) (hg2 : Gl X "set" := by rfl)
    (na : starEach [a] X.env = (false, eval a X.env) :: starEach [] X.env := by rfl) : DE X Wd F (.Call (.Name "len" p) [.Call (.Name "set" p2) [a] [] q] [] pos) (xLenSet ma) := by
  refine ⟨fun pins s σ H Q I h => ?_⟩
  obtain ⟨B, r, hh, hE, hH, po⟩ := h
  refine Call_ (ld_blt I hg hm PySem.boot_len ?_)
  refine PyProof.Rows.callWith_builtin1 (PyProof.Rows.args_cons ?_ rfl) rfl rfl
  refine Call_ (ld_blt I hg2 hm2 PyProof.Rows.boot_set ?_)
  refine PyProof.Rows.callWith_type1 (PyProof.Rows.args_cons (thn (ha.run pins s σ H _ I ⟨B, r, hh, hE, hH, Post.bind po fun d h1 B1 v H1 s1 x1 r1 q1 => (show ∃ B h d, RelH X.prog X.w X.K B h H1 ∧ Rep X.K B H1 d v ∧ Post X.prog X.w X.K Wd F (RpD X.K) B H1 σ (match setItems d h with | some xs => if setOk xs = true then .ok (.int (dedup xs).length) h else .bad | none => .bad) Q from ⟨B1, h1, d, x1, r1, q1⟩)⟩) fun v s1 ⟨x, H1, I1, rv, q1⟩ => PyProof.Rows.args_nil ?_) na) na rfl
  obtain ⟨B1, h1, d, x1, r1, q1⟩ := q1
  cases es : setItems d h1 with
  | none => rw [es] at q1; exact q1.elim
  | some ds =>
    rw [es] at q1
    dsimp only at q1
    split at q1
    · rename_i ok
      obtain ⟨m, sm⟩ := setOk_m ok
      obtain ⟨T, Pv, wk⟩ := wk_of I1 x1 r1 rv es sm
      refine call_set_any (I1.ok.hd hc) wk.ty wk.n1 wk.n2 wk.n3 wk.wk (by rw [List.length_map]; exact sm.few) (fun z => by subst z; rw [List.length_map]; exact sm.2) hu fun h' tk L es' ep t S g k => PyProof.Rows.args_nil ?_
      obtain ⟨bs, b1, b2, b3⟩ := rows_dat sm wk.st g S.nd
      obtain ⟨o, ho, hex, hd⟩ := S.ob
      have n1 : es'.size = (dedup ds).length := by rw [S.size, ← (perm_dedup b2 b3).length_eq, ← b1.length, List.length_map]
      have few := S.few
      have I2 : Inv X pins σ H1 { s1 with heap := h', toks := tk } := I1.kept k
      refine call_len_set ho hex hd S.fit (by rw [S.size]; omega) ⟨.int (dedup ds).length, H1, I2.tok _, ⟨_, by rw [n1]⟩, q1.now x1 (.int _)⟩
    · exact q1.elim
end
end Dc
end
section
set_option Elab.async false
set_option linter.all false
set_option maxRecDepth 100000
set_option maxHeartbeats 4000000
/-! sorted(set(x)), min, <. -/
namespace Dc
open PySem PySem.Spec PyProof.Rows L2
theorem ltNs_anti : ∀ a b : List Nat, ltNs a b = false → ltNs b a = false → a = b
  | [], [], _, _ => rfl
  | [], _ :: _, h, _ => by cases h
  | _ :: _, [], _, h => by cases h
  | a :: as, b :: bs, h1, h2 => by
    unfold ltNs at h1 h2
    by_cases c1 : a < b
    · rw [if_pos c1] at h1; cases h1
    · by_cases c2 : b < a
      · rw [if_pos c2] at h2; cases h2
      · rw [if_neg c1, if_neg c2] at h1
        rw [if_neg c2, if_neg c1] at h2
        rw [ltNs_anti as bs h1 h2, show a = b by omega]
theorem ltDs_antiS : ∀ a b : List D, a.all isS = true → b.all isS = true → ltDs a b = false → ltDs b a = false → a = b
  | [], [], _, _, _, _ => rfl
  | [], _ :: _, _, _, h, _ => by rw [ltDs] at h; cases h
  | _ :: _, [], _, _, _, h => by rw [ltDs] at h; cases h
  | a :: as, b :: bs, k1, k2, h1, h2 => by
    simp only [List.all_cons, Bool.and_eq_true] at k1 k2
    rw [ltDs] at h1 h2
    by_cases e : D.beq a b = true
    · have e' := beq_iff.mp e
      subst e'
      rw [if_pos e] at h1 h2
      rw [ltDs_antiS as bs k1.2 k2.2 h1 h2]
    · rw [if_neg e] at h1
      rw [if_neg (fun z => e (beq_iff.mpr (beq_iff.mp z).symm))] at h2
      cases a <;> first | (cases k1.1; done) | skip
      cases b <;> first | (cases k2.1; done) | skip
      rw [ltD] at h1 h2
      exact absurd (beq_iff.mpr (by rw [ltNs_anti _ _ h1 h2])) e
theorem ltDs_antiI : ∀ a b : List D, a.all isI = true → b.all isI = true → ltDs a b = false → ltDs b a = false → a = b
  | [], [], _, _, _, _ => rfl
  | [], _ :: _, _, _, h, _ => by rw [ltDs] at h; cases h
  | _ :: _, [], _, _, _, h => by rw [ltDs] at h; cases h
  | a :: as, b :: bs, k1, k2, h1, h2 => by
    simp only [List.all_cons, Bool.and_eq_true] at k1 k2
    rw [ltDs] at h1 h2
    by_cases e : D.beq a b = true
    · have e' := beq_iff.mp e
      subst e'
      rw [if_pos e] at h1 h2
      rw [ltDs_antiI as bs k1.2 k2.2 h1 h2]
    · rw [if_neg e] at h1
      rw [if_neg (fun z => e (beq_iff.mpr (beq_iff.mp z).symm))] at h2
      cases a <;> first | (cases k1.1; done) | skip
      cases b <;> first | (cases k2.1; done) | skip
      rw [ltD, decide_eq_false_iff_not] at h1 h2
      exact absurd (beq_iff.mpr (by congr 1; omega)) e
theorem ltDs_one {a b : D} {as bs : List D} (hab : ltD a b = false → ltD b a = false → a = b) (h1 : ltDs (a :: as) (b :: bs) = false) (h2 : ltDs (b :: bs) (a :: as) = false) : a = b ∧ ltDs as bs = false ∧ ltDs bs as = false := by
  rw [ltDs] at h1 h2
  by_cases e : D.beq a b = true
  · have e' := beq_iff.mp e
    rw [if_pos e] at h1
    rw [if_pos (beq_iff.mpr e'.symm)] at h2
    exact ⟨e', h1, h2⟩
  · rw [if_neg e] at h1
    rw [if_neg (fun z => e (beq_iff.mpr (beq_iff.mp z).symm))] at h2
    exact absurd (beq_iff.mpr (hab h1 h2)) e
theorem Cls.anti {n : Nat} {a b : D} (x : Cls n a) (y : Cls n b) (h1 : ltD a b = false) (h2 : ltD b a = false) : a = b := by
  cases x with
  | int i =>
    cases y with
    | int j => rw [ltD, decide_eq_false_iff_not] at h1 h2; congr 1; omega
  | str c =>
    cases y with
    | str d => rw [ltD] at h1 h2; rw [ltNs_anti _ _ h1 h2]
  | ss c xs h =>
    cases y with
    | ss d ys h' => rw [ltD] at h1 h2; rw [ltDs_antiS _ _ (by simpa [isS] using h) (by simpa [isS] using h') h1 h2]
  | ii c xs h =>
    cases y with
    | ii d ys h' => rw [ltD] at h1 h2; rw [ltDs_antiI _ _ (by simpa [isI] using h) (by simpa [isI] using h') h1 h2]
  | ist i xs h =>
    cases y with
    | ist j ys h' =>
      rw [ltD] at h1 h2
      rw [ltDs] at h1 h2
      by_cases e : D.beq (.int i) (.int j) = true
      · have e' := beq_iff.mp e
        injection e' with e'
        subst e'
        rw [if_pos e, ltDs] at h1 h2
        by_cases e2 : D.beq (.tup xs) (.tup ys) = true
        · rw [beq_iff.mp e2]
        · rw [if_neg e2, ltD] at h1
          rw [if_neg (fun z => e2 (beq_iff.mpr (beq_iff.mp z).symm)), ltD] at h2
          rw [ltDs_antiS _ _ h h' h1 h2]
      · rw [if_neg e, ltD, decide_eq_false_iff_not] at h1
        rw [if_neg (fun z => e (beq_iff.mpr (beq_iff.mp z).symm)), ltD, decide_eq_false_iff_not] at h2
        exact absurd (beq_iff.mpr (by congr 1; omega)) e
  | ent i c xs k h =>
    cases y with
    | ent j d ys l h' =>
      rw [ltD] at h1 h2
      obtain ⟨e1, h1, h2⟩ := ltDs_one (fun q1 q2 => by rw [ltD, decide_eq_false_iff_not] at q1 q2; congr 1; omega) h1 h2
      obtain ⟨e2, h1, h2⟩ := ltDs_one (fun q1 q2 => by rw [ltD] at q1 q2; rw [ltNs_anti _ _ q1 q2]) h1 h2
      obtain ⟨e3, h1, h2⟩ := ltDs_one (fun q1 q2 => by rw [ltD] at q1 q2; rw [ltDs_antiS _ _ h h' q1 q2]) h1 h2
      obtain ⟨e4, _, _⟩ := ltDs_one (fun q1 q2 => by rw [ltD, decide_eq_false_iff_not] at q1 q2; congr 1; omega) h1 h2
      rw [e1, e2, e3, e4]
  | is i c =>
    cases y with
    | is j d =>
      rw [ltD] at h1 h2
      rw [ltDs] at h1 h2
      by_cases e : D.beq (.int i) (.int j) = true
      · have e' := beq_iff.mp e
        injection e' with e'
        subst e'
        rw [if_pos e, ltDs] at h1 h2
        by_cases e2 : D.beq (.str c) (.str d) = true
        · rw [beq_iff.mp e2]
        · rw [if_neg e2, ltD] at h1
          rw [if_neg (fun z => e2 (beq_iff.mpr (beq_iff.mp z).symm)), ltD] at h2
          rw [ltNs_anti _ _ h1 h2]
      · rw [if_neg e, ltD, decide_eq_false_iff_not] at h1
        rw [if_neg (fun z => e (beq_iff.mpr (beq_iff.mp z).symm)), ltD, decide_eq_false_iff_not] at h2
        exact absurd (beq_iff.mpr (by congr 1; omega)) e
/-- one order only -/
theorem sorted_one {α : Type} {le : α → α → Bool} : ∀ {m n : List α}, m.Perm n → m.Pairwise (fun a b => le a b = true) → n.Pairwise (fun a b => le a b = true) → (∀ a ∈ m, ∀ b ∈ m, le a b = true → le b a = true → a = b) → m = n
  | [], n, p, _, _, _ => p.nil_eq
  | x :: xs, [], p, _, _, _ => by have := p.length_eq; simp at this
  | x :: xs, y :: ys, p, h1, h2, an => by
    obtain ⟨a1, a2⟩ := List.pairwise_cons.mp h1
    obtain ⟨b1, b2⟩ := List.pairwise_cons.mp h2
    have e : x = y := by
      rcases List.mem_cons.mp (p.mem_iff.mp (List.mem_cons_self (a := x) (l := xs))) with e | hx
      · exact e
      · rcases List.mem_cons.mp (p.mem_iff.mpr (List.mem_cons_self (a := y) (l := ys))) with e | hy
        · exact e.symm
        · exact an x (by simp) y (by simp [hy]) (a1 y hy) (b1 x hx)
    subst e
    rw [sorted_one (List.perm_cons x |>.mp p) a2 b2 fun a ha b hb => an a (List.mem_cons_of_mem _ ha) b (List.mem_cons_of_mem _ hb)]
theorem isort_pw_cls {n : Nat} {xs : List D} (h : ∀ x ∈ xs, Cls n x) : (isort leD xs).Pairwise fun a b => leD a b = true := by
  have e : isort leD xs = isort (W.dataLe false fun b => pdat b) xs := isort_congr fun a ha b hb => by
    rw [W.dataLe_eq]
    show (!ltD b a) = !W.dataLt (pdat b) (pdat a)
    rw [(h b hb).lt (h a ha)]
  have p := isort_pw (dataLe_total (fun b : D => pdat b)) xs
  rw [← e] at p
  refine List.Pairwise.imp_of_mem (fun {a b} ha hb q => ?_) p
  rw [W.dataLe_eq] at q
  have ha' := (isort_perm xs).mem_iff.mp ha
  have hb' := (isort_perm xs).mem_iff.mp hb
  show (!ltD b a) = true
  rw [← (h b hb').lt (h a ha')]
  exact q
theorem isort_perm_eq {n : Nat} {xs ys : List D} (p : xs.Perm ys) (h : ∀ x ∈ xs, Cls n x) : isort leD xs = isort leD ys := by
  have h2 : ∀ y ∈ ys, Cls n y := fun y hy => h y (p.mem_iff.mpr hy)
  refine sorted_one (le := leD) (((isort_perm xs).trans p).trans (isort_perm ys).symm) (isort_pw_cls h) (isort_pw_cls h2) fun a ha b hb q1 q2 => ?_
  have ha := h a ((isort_perm xs).mem_iff.mp ha)
  have hb := h b ((isort_perm xs).mem_iff.mp hb)
  unfold leD at q1 q2
  exact ha.anti hb (by simpa using q2) (by simpa using q1)
theorem each_perm {α β : Type} {R : α → β → Prop} {as as' : List α} (p : as'.Perm as) : ∀ {bs : List β}, W.EachIs R as bs → ∃ bs', bs'.Perm bs ∧ W.EachIs R as' bs' := by
  induction p with
  | nil => exact fun e => ⟨_, .refl _, e⟩
  | cons x _ ih =>
    intro bs e
    cases e with
    | cons r t => obtain ⟨bs', h1, h2⟩ := ih t; exact ⟨_, h1.cons _, .cons r h2⟩
  | swap x y l =>
    intro bs e
    cases e with
    | cons r t =>
      cases t with
      | cons r2 t2 => exact ⟨_, .swap _ _ _, .cons r2 (.cons r t2)⟩
  | trans _ _ ih1 ih2 =>
    intro bs e
    obtain ⟨b1, h1, h2⟩ := ih2 e
    obtain ⟨b2, h3, h4⟩ := ih1 h2
    exact ⟨b2, h3.trans h1, h4⟩
mutual
theorem reads_plain {h : Heap} : ∀ (n : Nat) (d : D) (v : Value) (as : List Addr), D.plainN n d = true → Reads h v (pdat d) as → as = []
  | _, .non, _, _, _, r => by rw [pdat] at r; cases r; rfl
  | _, .int _, _, _, _, r => by rw [pdat] at r; cases r; rfl
  | _, .str _, _, _, _, r => by rw [pdat] at r; cases r; rfl
  | 0, .tup _, _, _, h, _ => by simp [D.plainN] at h
  | n + 1, .tup xs, _, _, h, r => by
    rw [pdat] at r
    cases r with
    | tuple _ _ _ ra => exact reads_plains n xs _ _ (by simpa [D.plainN] using h) ra
  | _, .bl _, _, _, h, _ => by simp [D.plainN] at h
  | _, .ref _, _, _, h, _ => by simp [D.plainN] at h
  | _, .fro _, _, _, h, _ => by simp [D.plainN] at h
theorem reads_plains {h : Heap} : ∀ (n : Nat) (ds : List D) (vs : List Value) (as : List Addr), D.plainNs n ds = true → ReadsAll h vs (pdats ds) as → as = []
  | _, [], _, _, _, r => by rw [pdats] at r; cases r; rfl
  | n, d :: ds, _, _, h, r => by
    unfold D.plainNs at h
    rw [Bool.and_eq_true] at h
    rw [pdats] at r
    cases r with
    | cons r1 r2 => rw [reads_plain n d _ _ h.1 r1, reads_plains n ds _ _ h.2 r2]; rfl
end
def xSortedSet (m : EM) : EM := fun r h => (m r h).bind fun d h1 => match setItems d h1 with
  | some xs => if (setOk xs && okSort xs) = true then .ok (.ref h1.length) (h1 ++ [.lst (isort leD (dedup xs))]) else .bad
  | none => .bad
section
variable {X : Cx} {Wd : WD} {F : Fl}
theorem de_sortedSet {a : Expr} {ma : EM} {p p2 q pos : Pos} (hc : X.calm = true) (hu : X.A.units + 11 < cLine) (hm : X.mg "sorted" = none) (hm2 : X.mg "set" = none) (ha : DE X Wd F a ma) (hg : Gl X "sorted" := by rfl) (hg2 : Gl X "set" := by rfl)
    (na : starEach [a] X.env = (false, eval a X.env) :: starEach [] X.env := by rfl) : DE X Wd F (.Call (.Name "sorted" p) [.Call (.Name "set" p2) [a] [] q] [] pos) (xSortedSet ma) := by
  refine ⟨fun pins s σ H Q I h => ?_⟩
  obtain ⟨B, r, hh, hE, hH, po⟩ := h
  refine Call_ (ld_blt I hg hm PyProof.Rows.boot_sorted ?_)
  refine PyProof.Rows.callWith_builtin1 (PyProof.Rows.args_cons ?_ rfl) rfl rfl
  refine Call_ (ld_blt I hg2 hm2 PyProof.Rows.boot_set ?_)
  refine PyProof.Rows.callWith_type1 (PyProof.Rows.args_cons (thn (ha.run pins s σ H _ I ⟨B, r, hh, hE, hH, Post.bind po fun d h1 B1 v H1 s1 x1 r1 q1 => (show ∃ B h d, RelH X.prog X.w X.K B h H1 ∧ Rep X.K B H1 d v ∧ Post X.prog X.w X.K Wd F (RpD X.K) B H1 σ (match setItems d h with | some xs => if (setOk xs && okSort xs) = true then .ok (.ref h.length) (h ++ [.lst (isort leD (dedup xs))]) else .bad | none => .bad) Q from ⟨B1, h1, d, x1, r1, q1⟩)⟩) fun v s1 ⟨x, H1, I1, rv, q1⟩ => PyProof.Rows.args_nil ?_) na) na rfl
  obtain ⟨B1, h1, d, x1, r1, q1⟩ := q1
  cases es : setItems d h1 with
  | none => rw [es] at q1; exact q1.elim
  | some ds =>
    rw [es] at q1
    dsimp only at q1
    split at q1
    · rename_i ok
      rw [Bool.and_eq_true] at ok
      obtain ⟨m, sm⟩ := setOk_m ok.1
      obtain ⟨n, hcl⟩ := okSort_cls ok.2
      obtain ⟨T, Pv, wk⟩ := wk_of I1 x1 r1 rv es sm
      refine call_set_any (I1.ok.hd hc) wk.ty wk.n1 wk.n2 wk.n3 wk.wk (by rw [List.length_map]; exact sm.few) (fun z => by subst z; rw [List.length_map]; exact sm.2) hu fun h' tk L es' ep t S g k => PyProof.Rows.args_nil ?_
      obtain ⟨bs, b1, b2, b3⟩ := rows_dat sm wk.st g S.nd
      obtain ⟨o, ho, hex, hd⟩ := S.ob
      have few := S.few
      have I2 : Inv X pins σ H1 { s1 with heap := h', toks := tk } := I1.kept k
      refine Calls.call_function_entry kind_sorted plain_sorted entry_sorted (args_sorted1 _) ?_
      unfold Builtin.«sorted»
      refine wpAny_bind (m := checkCount "sorted" 1 1 _) (wpAny_pure ?_)
      refine wpAny_bind (collect_set (A := X.A.in1) (I1.ok.hd hc) ⟨o, ho, hex.1, hd⟩ S.fit (by rw [S.size]; exact few) S.ris S.led fun s2 vs k2 hz g2 o2 pm => ?_)
      have e2 : es'.toList.map (·.2) = L.map (·.2) := by rw [S.rows]; unfold srows; rw [List.map_map]; rfl
      rw [e2] at pm
      obtain ⟨cs, c1, c2⟩ := each_perm pm b1
      have pd : cs.Perm (dedup ds) := c1.trans (perm_dedup b2 b3)
      have ccl : ∀ c ∈ cs, Cls n c := fun c hc => hcl c (mem_dedup.mp (pd.mem_iff.mp hc))
      have lv : vs.length ≤ sizeLine := by rw [pm.length_eq, List.length_map, sizeLine_eq]; omega
      refine wpAny_bind (wpAny_newList ?_ lv)
      -- the new list
      have kk : ∀ b o, s1.heap.get? b = some o → (s2.heap.push (seqObj "list" vs.toArray 0)).get? b = some o := fun b o e => Heap.get?_push_of_some _ (k2 b o (k b o e))
      have I3 : Inv X pins σ H1 { s1 with heap := s2.heap.push (seqObj "list" vs.toArray 0), toks := s2.toks } := I1.kept kk
      have hoL : (s2.heap.push (seqObj "list" vs.toArray 0)).get? s2.heap.objs.size = some (seqObj "list" vs.toArray 0) := Heap.get?_push_size _ rfl
      have fr : H1 s2.heap.objs.size = none := I1.hok.fresh (Nat.le_trans (by
        have hlt : s1.heap.objs.size ≤ h'.objs.size := Nat.le_of_lt (Heap.lt_size ho)
        exact hlt) hz)
      refine wpAny_bind (wpAny_holding (W.list_sort_data (s := { s2 with heap := s2.heap.push (seqObj "list" vs.toArray 0) }) (R := StD X.K B1 H1) (enc := pdat) (bs := cs) hoL c2 (each_mono2 (fun u c hc st => ?_) c2) (Cls.alikeL ccl) (Cls.sortable ccl) (by rw [← c2.length]; exact lv) (fun c hc => by have := (ccl c hc).depth; show X.A.in1.units + 1 + _ < _; simp only [Around.in1_units]; omega) fun out lo eo => ?_))
      · obtain ⟨as, ra⟩ := st.reads I1 (ccl c hc).refless
        refine ⟨as, Reads.keeps kk ra, ?_⟩
        rw [reads_plain 2 c u as (ccl c hc).plain ra]
        exact fun z => nomatch z
      · rw [sort_dat (fun b => b) ccl, show isort (fun a b => leD a b) cs = isort leD cs from rfl, isort_perm_eq pd ccl] at eo
        obtain ⟨ys, ry, vy⟩ := of_each eo
        obtain ⟨cn, hcn⟩ := sortedHeap_at (vs := vs) (out := out.toArray) hoL
        have old : ∀ b u, h'.get? b = some u → (sortedHeap (s2.heap.push (seqObj "list" vs.toArray 0)) s2.heap.objs.size vs out.toArray).get? b = some u := fun b u e => by
          have q := k2 b u e
          have hlt := Heap.lt_size q
          rw [sortedHeap_old (Nat.ne_of_lt hlt) (by rw [size_push']; exact Nat.lt_succ_of_lt hlt)]
          exact Heap.get?_push_of_some _ q
        have ly : ys.length ≤ sizeLine := by rw [vy.length, lo, ← c2.length]; exact lv
        refine wpAny_pure ⟨_, rfl, ?_⟩
        have J : Inv X pins σ (upd H1 s2.heap.objs.size (.lst ys)) { { s1 with heap := h', toks := tk } with heap := sortedHeap (s2.heap.push (seqObj "list" vs.toArray 0)) s2.heap.objs.size vs out.toArray, gens := s2.gens, drawn := s2.drawn, toks := s2.toks } :=
          I2.call (ch := []) (Un.laid old hz fr) (I2.hok.laid old hz ⟨ly, out, cn, vy, hcn⟩) (by rw [g2]; exact I2.bare) (fun _ z => nomatch z)
        have e3 : ({ s2 with heap := sortedHeap (s2.heap.push (seqObj "list" vs.toArray 0)) s2.heap.objs.size vs out.toArray } : Shared) = { { s1 with heap := h', toks := tk } with heap := sortedHeap (s2.heap.push (seqObj "list" vs.toArray 0)) s2.heap.objs.size vs out.toArray, gens := s2.gens, drawn := s2.drawn, toks := s2.toks } := by
          cases s2
          cases s1
          cases o2
          rfl
        have st : Step F B1 H1 (B1 ++ [s2.heap.objs.size]) (upd H1 s2.heap.objs.size (.lst ys)) := step_push x1 fr
        have fin := q1 _ (.ref s2.heap.objs.size) _ st (x1.push fr ⟨_, upd_same, ry.step st⟩) (.ref (by simp [x1.len]))
        show ∃ _ _, _
        rw [e3]
        exact ⟨.ref s2.heap.objs.size, _, J, rfl, fin⟩
    · exact q1.elim
end
end Dc
end
section
set_option Elab.async false
set_option linter.all false
set_option maxRecDepth 100000
set_option maxHeartbeats 4000000
/-! Small rules: -c, a <= b <= c, *, +=, <. -/
namespace Dc
open PySem PySem.Spec PyProof.Rows L2
section
variable {X : Cx} {W : WD} {F : Fl} {pos : Pos} {a b c : Expr} {ma mb mc : EM}
def xNeg (m : EM) : EM := fun r h => (m r h).bind fun d h1 => match d with
  | .int i => .ok (.int (-i)) h1
  | _ => .bad
theorem de_neg (ha : DE X W F a ma) : DE X W F (.UnaryOp .USub a pos) (xNeg ma) :=
  PE.imp (pe_un un_neg ha) fun σ H Q q => by
    obtain ⟨B, e, h, hE, hH, p⟩ := q
    refine ⟨B, e, h, hE, hH, Post.bind p fun d h1 B1 v H1 s1 r1 p1 q1 => ?_⟩
    cases p1 with
    | int i => exact ⟨i, rfl, q1.now r1 (.int _)⟩
    | _ => exact q1.elim
theorem de_negc {i : Int} {j pos2} : DE X W F (.UnaryOp .USub (.Constant (.int i) j pos2) pos) (xC (.int (-i))) :=
  PE.imp (pe_un un_neg pe_int) fun σ H Q q => by
    obtain ⟨B, e, h, hE, hH, p⟩ := q
    exact ⟨i, rfl, p.now hH (.int _)⟩
theorem chain_sem {r r' : R2} {f g : D → D → Hh → Rs D} (hf : BinSem X.prog X.w X.K r f) (hg : BinSem X.prog X.w X.K r' g) {σ : L2.St} {H : Hp} {Q : VK} (q : tD X.prog X.w X.K W F (xChain f g ma mb mc) σ H Q) :
    tChain r r' (tD X.prog X.w X.K W F ma) (tD X.prog X.w X.K W F mb) (tD X.prog X.w X.K W F mc) σ H Q := by
  obtain ⟨B, e, h, hE, hH, p⟩ := q
  refine ⟨B, e, h, hE, hH, Post.bind p fun x h1 B1 v H1 s1 r1 p1 q1 => ?_⟩
  refine ⟨B1, e, h1, hE.step s1, r1, Post.bind q1 fun y h2 B2 u H2 s2 r2 p2 q2 => ?_⟩
  refine hf W F σ B2 h2 H2 x y v u _ r2 (p1.step s2) p2 (Post.bind q2 fun z h3 B3 zv H3 s3 r3 p3 q3 => ?_)
  cases z with
  | bl k =>
    cases p3
    refine ⟨k, rfl, ?_⟩
    cases k with
    | false => rw [if_neg (by decide)]; exact q3.now r3 (.bl false)
    | true =>
      rw [if_pos rfl]
      refine ⟨B3, e, h3, ((hE.step s1).step s2).step s3, r3, Post.bind q3 fun w' h4 B4 wv H4 s4 r4 p4 q4 => ?_⟩
      exact hg W F σ B4 h4 H4 y w' u wv _ r4 ((p2.step s3).step s4) p4 q4
  | _ => exact q3.elim
theorem de_chain {op op' : CmpOp} {r r' : R2} {f g : D → D → Hh → Rs D} (ho : OpR X (compareOp op) r) (hf : BinSem X.prog X.w X.K r f) (ho' : OpR X (compareOp op') r') (hg : BinSem X.prog X.w X.K r' g) (ha : DE X W F a ma) (hb : DE X W F b mb) (hc : DE X W F c mc)
    (hm : lastMarks [op, op'] [b, c] = false := by with_unfolding_all rfl) : DE X W F (.Compare a [op, op'] [b, c] pos) (xChain f g ma mb mc) :=
  PE.imp (pe_chain ho ho' ha hb hc hm) fun _ _ _ q => chain_sem hf hg q
theorem dt_chain {op op' : CmpOp} {r r' : R2} {f g : D → D → Hh → Rs D} (ho : OpR X (compareOp op) r) (hf : BinSem X.prog X.w X.K r f) (ho' : OpR X (compareOp op') r') (hg : BinSem X.prog X.w X.K r' g) (ha : DE X W F a ma) (hb : DE X W F b mb) (hc : DE X W F c mc)
    (hm : lastMarks [op, op'] [b, c] = false := by with_unfolding_all rfl) : DT X W F (.Compare a [op, op'] [b, c] pos) (xTest (xChain f g ma mb mc)) :=
  PT.imp (pt_chain ho ho' ha hb hc hm) fun _ _ _ q => by
    obtain ⟨B, e, h, hE, hH, p⟩ := test_sem q
    have z : tD X.prog X.w X.K W F (xChain f g ma mb mc) _ _ _ := ⟨B, e, h, hE, hH, p⟩
    exact chain_sem hf hg z
/-! ### * -/
def repL {α : Type} (xs : List α) : Nat → List α
  | 0 => []
  | n + 1 => xs ++ repL xs n
theorem repL_eq {α : Type} (xs : List α) : ∀ n, (List.replicate n xs).flatten = repL xs n
  | 0 => rfl
  | n + 1 => by rw [List.replicate_succ, List.flatten_cons, repL_eq xs n]; rfl
theorem reps_rep {K : PySem.W.Frag} {B : List Addr} {H : Hp} {ds : List D} {vs : List V} (r : Reps K B H ds vs) : ∀ n, Reps K B H (repL ds n) (repL vs n)
  | 0 => .nil
  | n + 1 => r.append (reps_rep r n)
def mulOk (a b : Int) : Bool := (decide (-18446744073709551616 < b) && decide (b < 18446744073709551616)) || (decide (-18446744073709551616 < a) && decide (a < 18446744073709551616)) || decide (a.natAbs.log2 + b.natAbs.log2 < 1000000)
def opMul (x y : D) (h : Hh) : Rs D := match x, y with
  | .int a, .int b => if mulOk a b = true then .ok (.int (a * b)) h else .bad
  | .str cs, .int k => if -1000 ≤ k ∧ k ≤ 1000 ∧ cs.length ≤ 1000 then .ok (.str (repL cs k.toNat)) h else .bad
  | .tup xs, .int k => if -1000 ≤ k ∧ k ≤ 1000 ∧ xs.length ≤ 1000 then .ok (.tup (repL xs k.toNat)) h else .bad
  | _, _ => .bad
theorem mulOk_ok {a b : Int} (h : mulOk a b = true) : IntMulOk a b := by
  unfold mulOk at h
  rw [Bool.or_eq_true, Bool.or_eq_true, Bool.and_eq_true, Bool.and_eq_true, decide_eq_true_eq, decide_eq_true_eq, decide_eq_true_eq, decide_eq_true_eq, decide_eq_true_eq] at h
  rcases h with (h | h) | h
  · exact CMul.ok (.inr (by constructor <;> omega))
  · exact CMul.ok (.inl (by constructor <;> omega))
  · exact CMulW.ok h
theorem tup_mul_same (l : Addr) (items : Array Value) (n : Nat) (dd : Option Addr) (sl : Array (Option Value)) (x : Int) (u : Tok) (c0 : (decide (x < -(2 ^ 63)) || decide (x ≥ 2 ^ 63)) = false) (c1 : (items.isEmpty || x == 1) = true) :
    Meets (Builtin.«tuple.__mul__» ⟨[.ref l, .int x u], []⟩) (fun _ R s => s.heap.get? l = some { cls := .type "tuple", dict := dd, data := .seq items n, slots := sl } ∧ R (.ok (.ret (Value.ref l))) s) :=
  .of_wp fun prog w A R s h => by
    obtain ⟨hp, g, d, tk, os⟩ := s
    obtain ⟨hl, h⟩ := h
    have f1 := AutoSeq1.idx_int
    have hT : Shared.TypeIs ⟨hp, g, d, tk, os⟩ (.ref l) "tuple" := ⟨_, hl, rfl⟩
    wp_walk using AutoSeq1.wpAny_loadPart' hl
    repeat (first
      | (refine wpAny_ite_false (decide_eq_false (by rw [c0]; exact Bool.false_ne_true)) ?_; wp_walk using AutoSeq1.wpAny_loadPart' hl)
      | (refine wpAny_ite_true (decide_eq_true c1) ?_; wp_walk using AutoSeq1.wpAny_loadPart' hl))
    exact ⟨_, rfl, h⟩
theorem tup_mul_none (l : Addr) (items : Array Value) (n : Nat) (dd : Option Addr) (sl : Array (Option Value)) (x : Int) (u : Tok) (c0 : (decide (x < -(2 ^ 63)) || decide (x ≥ 2 ^ 63)) = false) (c1 : (items.isEmpty || x == 1) = false) (c2 : (decide (x ≤ 0) || items.isEmpty) = true) :
    Meets (Builtin.«tuple.__mul__» ⟨[.ref l, .int x u], []⟩) (fun _ R s => s.heap.get? l = some { cls := .type "tuple", dict := dd, data := .seq items n, slots := sl } ∧
      R (.ok (.ret (Value.ref s.heap.objs.size))) { s with heap := s.heap.push { cls := Value.type "tuple", data := Data.seq #[] } }) :=
  .of_wp fun prog w A R s h => by
    obtain ⟨hp, g, d, tk, os⟩ := s
    obtain ⟨hl, h⟩ := h
    have f1 := AutoSeq1.idx_int
    wp_walk using AutoSeq1.wpAny_loadPart' hl
    repeat (first
      | (refine wpAny_ite_false (decide_eq_false (by rw [c0]; exact Bool.false_ne_true)) ?_; wp_walk using AutoSeq1.wpAny_loadPart' hl)
      | (refine wpAny_ite_false (decide_eq_false (by rw [c1]; exact Bool.false_ne_true)) ?_; wp_walk using AutoSeq1.wpAny_loadPart' hl)
      | (refine wpAny_ite_true (decide_eq_true c2) ?_; wp_walk using AutoSeq1.wpAny_loadPart' hl))
    exact ⟨_, rfl, h⟩
theorem or_mul : OpR X (binaryOp .Mult) (rAbs X.prog X.w X.K opMul) := by
  intro pins s σ H x y v u Q I rx ry ⟨W, Fz, σ0, B, h, d1, d2, xh, r1, r2, p⟩
  unfold opMul at p
  split at p
  · rename_i i j
    cases r1
    cases r2
    obtain ⟨t, rfl⟩ := rx
    obtain ⟨t', rfl⟩ := ry
    split at p
    · rename_i ok
      exact mul_int ⟨.int _, H, I.tok _, ⟨_, rfl⟩, p.now xh (.int _)⟩ (mulOk_ok ok)
    · exact p.elim
  · rename_i cs k
    cases r1 with
    | str okc =>
    cases r2
    obtain ⟨t, rfl⟩ := rx
    obtain ⟨t', rfl⟩ := ry
    split at p
    · rename_i ok
      obtain ⟨k1, k2, k3⟩ := ok
      have hz : (⟨cs.toArray⟩ : Str).length = cs.length := str_len cs
      have hprod : ¬ k < 1 → cs.length * k.toNat ≤ 1000000 := fun _ => by
        have : cs.length * k.toNat ≤ 1000 * 1000 := Nat.mul_le_mul k3 (by omega)
        omega
      have okr : ∀ n, (repL cs n).all (· < 1114112) = true := by
        intro n
        induction n with
        | zero => rfl
        | succ n ih => rw [repL, List.all_append, okc, ih]; rfl
      refine PySem.P.mul_str (by rw [decide_eq_false (by omega), decide_eq_false (by omega)]; rfl) (fun h1 _ => ?_) (fun h1 _ => ?_) ?_
      · rw [hz]
        have : (1000 : Int) ≤ (2 ^ 63 - 1) / k := by
          have hk : 0 < k := by omega
          rw [Int.le_ediv_iff_mul_le hk]
          have : (1000 : Int) * k ≤ 1000 * 1000 := Int.mul_le_mul_of_nonneg_left k2 (by omega)
          omega
        omega
      · rw [hz]
        have := hprod h1
        unfold Builtin.Str.tooLong
        rw [sizeLine_eq]
        exact decide_eq_false (by omega)
      · by_cases h1 : k < 1
        · rw [if_pos h1]
          have e : k.toNat = 0 := by omega
          refine ⟨by decide, ⟨.str Str.empty, H, I.tok _, ⟨_, rfl⟩, ?_⟩⟩
          have := p.now xh (v := .str ⟨(repL cs k.toNat).toArray⟩) (.str (okr _))
          rw [e] at this
          exact this
        · rw [if_neg h1]
          have e0 : (⟨(repL cs k.toNat).toArray⟩ : Str) = ⟨(List.replicate k.toNat cs.toArray).foldl (· ++ ·) #[]⟩ := by
            rw [← repL_eq]
            have f0 : ∀ (m : Nat) (acc : List Nat), List.foldl (fun x1 x2 : Array Nat => x1 ++ x2) acc.toArray (List.replicate m cs.toArray) = (acc ++ (List.replicate m cs).flatten).toArray := by
              intro m
              induction m with
              | zero => intro acc; simp
              | succ m ih =>
                intro acc
                rw [List.replicate_succ, List.foldl_cons]
                have : acc.toArray ++ cs.toArray = (acc ++ cs).toArray := by simp
                rw [this, ih, List.replicate_succ, List.flatten_cons, List.append_assoc]
            have := f0 k.toNat []
            rw [List.nil_append] at this
            rw [← this]
          have pq := p.now xh (v := .str ⟨(repL cs k.toNat).toArray⟩) (.str (okr _))
          by_cases h2 : (k == 1 || (⟨cs.toArray⟩ : Str).length == 0) = true
          · rw [if_pos h2]
            have e1 : repL cs k.toNat = cs := by
              rw [hz, Bool.or_eq_true] at h2
              rcases h2 with h2 | h2
              · have : k = 1 := by simpa using h2
                subst this
                show cs ++ [] = cs
                simp
              · have : cs = [] := List.eq_nil_of_length_eq_zero (by simpa using h2)
                subst this
                have : ∀ n, repL ([] : List Nat) n = [] := by intro n; induction n with | zero => rfl | succ n ih => rw [repL, ih]; rfl
                exact this _
            rw [e1] at pq
            exact ⟨.str _, H, I, ⟨t, rfl⟩, pq⟩
          · rw [if_neg h2]
            refine ⟨?_, ⟨.str _, H, I.tok _, ⟨_, rfl⟩, ?_⟩⟩
            · rw [← e0, sizeLine_eq]
              show (repL cs k.toNat).toArray.size ≤ _
              rw [List.size_toArray, ← repL_eq, PyProof.Rows.lm_len_rep_flat, Nat.mul_comm]
              have := hprod h1
              omega
            · show Q (.str ⟨(List.replicate k.toNat cs.toArray).foldl (· ++ ·) #[]⟩) H
              rw [← e0]
              exact pq
    · exact p.elim
  · rename_i xs k
    cases r1 with
    | @tup l vs ds hT hr =>
    cases r2
    cases rx
    obtain ⟨t', rfl⟩ := ry
    split at p
    · rename_i ok
      obtain ⟨k1, k2, k3⟩ := ok
      have c0 : (decide (k < -(2 ^ 63)) || decide (k ≥ 2 ^ 63)) = false := by rw [decide_eq_false (by omega), decide_eq_false (by omega)]; rfl
      have len := hr.length
      by_cases two : vs ≠ [] ∧ 2 ≤ k
      · refine op_repT pins s σ H (.ref l) (.int k) _ _ Q I rfl ⟨t', rfl⟩ ⟨l, k, vs, rfl, rfl, hT, two.1, two.2, k2, by omega, fun q hq => ?_⟩
        rw [repL_eq]
        exact p B _ _ (step_new xh hq) (xh.new hq) (.tup (SqT.of upd_same) ((reps_rep hr k.toNat).step (step_new (F := Fz) xh hq)))
      · obtain ⟨its, rv, ⟨⟨cls, dd, data, sl⟩, ho, hc, n, hd⟩, hs⟩ := I.tuple hT
        simp only at hc hd
        subst hc hd
        have hle : its.length = vs.length := rv.length.symm
        refine wpAny_binaryOp_repeat_ref (T := "tuple") (U := "int") (by decide) ⟨_, ho, rfl⟩ (fun s' => typeIs_int s' k t') noFill_tuple_mul PySem.F.fills_int_mul PySem.F.slot_int_rmul repeat_tuple PySem.F.slot_int_index.lookup
          (call_meets PySem.F.slot_int_rmul (typeIs_int s k t') PySem.F.entry_int_rmul (PySem.F.args_int_rmul_2 _ _) (int_rmul_tuple k t' l its.toArray n dd sl) ⟨ho, rfl, ⟨_, ho, rfl⟩, ?_⟩)
        by_cases c1 : (its.toArray.isEmpty || k == 1) = true
        · refine call_meets PySem.F.slot_tuple_mul ⟨_, ho, rfl⟩ PySem.F.entry_tuple_mul (PySem.F.args_tuple_mul_2 _ _) (tup_mul_same l its.toArray n dd sl k t' c0 c1) ⟨ho, ⟨.ref l, H, I, rfl, ?_⟩⟩
          have e1 : repL xs k.toNat = xs := by
            rw [Bool.or_eq_true] at c1
            rcases c1 with c1 | c1
            · have e : its = [] := by simpa using c1
              have : xs = [] := List.eq_nil_of_length_eq_zero (by rw [len, ← hle, e]; rfl)
              subst this
              have : ∀ n, repL ([] : List D) n = [] := by intro n; induction n with | zero => rfl | succ n ih => rw [repL, ih]; rfl
              exact this _
            · have : k = 1 := by simpa using c1
              subst this
              show xs ++ [] = xs
              simp
          rw [e1] at p
          exact p.now xh (.tup hT hr)
        · have c1' : (its.toArray.isEmpty || k == 1) = false := by simpa using c1
          have hne : vs ≠ [] := fun e => by
            rw [e] at hle
            have : its = [] := List.eq_nil_of_length_eq_zero hle
            rw [this] at c1'
            simp at c1'
          have hk0 : k ≤ 0 := by
            have h2 : ¬ 2 ≤ k := fun z => two ⟨hne, z⟩
            have h3 : k ≠ 1 := fun z => by rw [z] at c1'; simp at c1'
            omega
          refine call_meets PySem.F.slot_tuple_mul ⟨_, ho, rfl⟩ PySem.F.entry_tuple_mul (PySem.F.args_tuple_mul_2 _ _) (tup_mul_none l its.toArray n dd sl k t' c0 c1' (by rw [decide_eq_true hk0]; rfl)) ⟨ho, ?_⟩
          have fr : H s.heap.objs.size = none := I.hok.fresh (Nat.le_refl _)
          refine ⟨.ref s.heap.objs.size, _, I.laid (t' := s.toks) (o := .tup []) (fun b ob q => Heap.get?_push_of_some _ q) (Nat.le_refl _) ⟨Nat.zero_le _, [], .nil, IsTup.new _ _⟩, rfl, ?_⟩
          have e : k.toNat = 0 := by omega
          rw [e] at p
          exact p B _ _ (step_new xh fr) (xh.new fr) (.tup (SqT.of upd_same) .nil)
    · exact p.elim
  · exact p.elim
end
end Dc
end
section
set_option Elab.async false
set_option linter.all false
set_option maxRecDepth 100000
set_option maxHeartbeats 4000000
/-! x < y, min, o[i] += e. -/
namespace Dc
open PySem PySem.Spec PyProof.Rows L2
def opLtA (x y : D) (h : Hh) : Rs D := if cls x ≠ 0 ∧ cls y = cls x then .ok (.bl (ltD x y)) h else .bad
def minL (x : D) (xs : List D) : D := xs.foldl (fun a y => if ltD y a = true then y else a) x
def fMin (ds : List D) (h : Hh) : Rs D := match ds with
  | [d] => (match listOf d h with
    | some (x :: xs) => if okSort (x :: xs) = true then .ok (minL x xs) h else .bad
    | _ => .bad)
  | [x, y] => if okSort [x, y] = true then .ok (minL x [y]) h else .bad
  | [x, y, z] => if okSort [x, y, z] = true then .ok (minL x [y, z]) h else .bad
  | _ => .bad
theorem minL_mem : ∀ (xs : List D) (x : D), minL x xs ∈ x :: xs
  | [], x => by simp [minL]
  | y :: ys, x => by
    show minL (if ltD y x = true then y else x) ys ∈ _
    have := minL_mem ys (if ltD y x = true then y else x)
    rcases List.mem_cons.mp this with e | e
    · rw [e]
      split <;> simp
    · simp [e]
theorem minL_dat {n : Nat} : ∀ (xs : List D) (x : D), (∀ d ∈ x :: xs, Cls n d) → W.minD (pdat x) (xs.map pdat) = pdat (minL x xs)
  | [], x, _ => rfl
  | y :: ys, x, h => by
    show W.minD (if W.dataLt (pdat y) (pdat x) = true then pdat y else pdat x) (ys.map pdat) = pdat (minL (if ltD y x = true then y else x) ys)
    rw [(h y (by simp)).lt (h x (by simp))]
    split
    · exact minL_dat ys y fun d hd => h d (by
        rcases List.mem_cons.mp hd with e | e
        · simp [e]
        · simp [e])
    · exact minL_dat ys x fun d hd => h d (by
        rcases List.mem_cons.mp hd with e | e
        · simp [e]
        · simp [e])
theorem pdat_inj {n : Nat} {a b : D} (x : Cls n a) (y : Cls n b) (h : pdat a = pdat b) : a = b := by
  have e := pdat_eqv 2 a 2 b x.plain y.plain
  rw [h, W.eqv_refl_alike _ (y.alike y)] at e
  exact beq_iff.mp e.symm
theorem pdats_map : ∀ xs : List D, pdats xs = xs.map pdat
  | [] => rfl
  | x :: xs => by rw [pdats, pdats_map xs]; rfl
theorem depthAll_le {k : Nat} : ∀ (xs : List D), (∀ x ∈ xs, (pdat x).depth ≤ k) → PyData.depthAll (xs.map pdat) ≤ k
  | [], _ => by simp [PyData.depthAll]
  | x :: xs, h => by
    have h1 := h x (by simp)
    have h2 := depthAll_le xs fun y hy => h y (List.mem_cons_of_mem _ hy)
    simp only [List.map_cons, PyData.depthAll]
    omega
theorem Cls.nn {n : Nat} {a : D} (x : Cls n a) : pdat a ≠ .none := by cases x <;> exact fun z => nomatch z
section
variable {X : Cx} {F : Fl}
theorem or_lt (hu : X.A.units + 65 < cLine) : OpR X (compareOp .Lt) (rAbs X.prog X.w X.K opLtA) := by
  intro pins s σ H x y v u Q I rx ry ⟨Wd, Fz, σ0, B, h, d1, d2, xh, r1, r2, p⟩
  unfold opLtA at p
  split at p
  · rename_i ok
    have c1 : Cls (cls d1) d1 := cls_of ok.1
    have c2 : Cls (cls d1) d2 := by rw [← ok.2]; exact cls_of (by rw [ok.2]; exact ok.1)
    obtain ⟨as, ra⟩ := StD.reads I ⟨x, rx, r1⟩ c1.refless
    obtain ⟨bs, rb⟩ := StD.reads I ⟨y, ry, r2⟩ c2.refless
    have := c1.depth
    refine W.lt_data ra rb (c1.alike c2) c1.nn (by have := Nat.min_le_left (pdat d1).depth (pdat d2).depth; omega) ⟨.bl _, H, I, rfl, ?_⟩
    rw [c1.lt c2]
    exact p.now xh (.bl _)
  · exact p.elim
theorem each_reads {pins : List (Addr × Obj)} {σ : L2.St} {H : Hp} {s : Shared} {B : List Addr} {n : Nat} (I : Inv X pins σ H s) : ∀ {us : List Value} {ds : List D}, (∀ d ∈ ds, Cls n d) → W.EachIs (StD X.K B H) us ds → ∃ as, ReadsAll s.heap us (ds.map pdat) as
  | _, _, _, .nil => ⟨[], .nil⟩
  | _, _, h, .cons r t => by
    obtain ⟨as, h1⟩ := r.reads I (h _ (by simp)).refless
    obtain ⟨bs, h2⟩ := each_reads I (fun d hd => h d (List.mem_cons_of_mem _ hd)) t
    exact ⟨as ++ bs, .cons h1 h2⟩
theorem alikeAll_cls {n : Nat} {xs : List D} (h : ∀ x ∈ xs, Cls n x) : W.AlikeAll (xs.map pdat) := ⟨Cls.alikeL h, fun d hd => by
  obtain ⟨x, hx, rfl⟩ := List.mem_map.mp hd
  have := h x hx
  cases this <;> exact fun z => nomatch z⟩
/-- the least, as the walk finds it -/
theorem min_end {pins : List (Addr × Obj)} {σ σ0 : L2.St} {H : Hp} {s : Shared} {B : List Addr} {h : Hh} {n : Nat} {Wd : WD} {us : List Value} {x : D} {xs : List D} {Q : VK} (I : Inv X pins σ H s) (xh : RelH X.prog X.w X.K B h H) (hcl : ∀ d ∈ x :: xs, Cls n d) (e : W.EachIs (StD X.K B H) us (x :: xs))
    (p : Post X.prog X.w X.K Wd F (RpD X.K) B H σ0 (.ok (minL x xs) h) Q) {i : Nat} {v : Value} {h' : Heap} {tk : Nat} {bs : List Addr} (hv : us[i]? = some v) (hr : Reads h' v (W.minD (pdat x) (xs.map pdat)) bs) (k : ∀ b o, s.heap.get? b = some o → h'.get? b = some o) : EP X pins σ Q v { s with heap := h', toks := tk } := by
  obtain ⟨d, hd, st⟩ := each_get e i v hv
  have hm : d ∈ x :: xs := List.mem_of_getElem? hd
  obtain ⟨as, ra⟩ := st.reads I (hcl d hm).refless
  rw [minL_dat xs x hcl] at hr
  have hmin := minL_mem xs x
  have e1 : pdat d = pdat (minL x xs) := W.alike_unique _ _ v as bs ((hcl d hm).alike (hcl _ hmin)) (Reads.keeps k ra) hr
  have e2 := pdat_inj (hcl d hm) (hcl _ hmin) e1
  subst e2
  obtain ⟨y, h1, h2⟩ := st
  exact ⟨y, H, I.kept k, h1, p.now xh h2⟩
theorem call_min_2H {prog : Program} {w : World} {A : Around} {E : Value → Shared → Prop} {s : Shared} {a b : Value} {Q : Value → Shared → Prop}
    (h : wpAny (model prog w) A.in1 (pyIter (.ref s.heap.objs.size)) (fun it s₂ => ∃ I fp wr G n P St H bt, it = .ref I ∧ WalksS prog w A.in1 I fp wr G n P St ∧ St 0 s₂ ∧ (∀ b ∈ fp, b < s₂.heap.objs.size) ∧ 0 < n ∧
      (∀ b o, H.get? b = some o → b ∉ wr) ∧ (∀ b o, H.get? b = some o → s₂.heap.get? b = some o) ∧ CmpIn prog w A.in1 .Lt H P bt ∧ ∀ v s', P (argBest bt (n - 1)) v → Moved wr G s₂ s' → Q v s') E { s with heap := s.heap.push { cls := .type "tuple", data := .seq #[a, b] } }) :
    wpAny (model prog w) A (call (.builtin "min") [a, b]) Q E s := by
  have hname : (toString "min" ++ toString ".loop" : String) = "min.loop" := by decide
  refine call_function_tree F.kind_min F.plain_min F.entry_min (F.args_min2 _ _) ?_
  show wpAny _ A.in1 (Builtin.Builtins.bindParams "min" ["key", "default"] 0 ⟨[], []⟩ >>= _) _ _ s
  refine wpAny_bind (wpAny_of_eq (show Builtin.Builtins.bindParams "min" ["key", "default"] 0 ⟨[], []⟩ = pure [none, none] from rfl) ?_)
  show wpAny _ A.in1 (newTuple [a, b] >>= _) _ _ s
  refine wpAny_bind (wpAny_newObj_type ?_)
  refine wpAny_bind (wpAny_mono h (fun it s₂ h₂ => ?_) fun _ _ e => e)
  obtain ⟨I, fp, wr, G, n, P, St, H, bt, rfl, Wk, hst, hfp, hn, hw, hkeep, hcmp, hQ⟩ := h₂
  refine wpAny_bind (wpAny_newObj_type ?_)
  have hSf : s₂.heap.objs.size ∉ fp := fun hm => Nat.lt_irrefl _ (hfp _ hm)
  rw [hname]
  refine wpAny_pure ⟨plainId_quiet F.plain_min_loop _, codeAny_min_loop_firstH Wk H hw bt hcmp s₂.heap.objs.size hSf (fresh_in hkeep) _ hn (fun b o e => Heap.get?_push_of_some _ (hkeep b o e)) (Wk.frame 0 s₂ _ s₂.toks hst (Nat.le_refl _) fun b _ o e => Heap.get?_push_of_some _ e) (Heap.get?_push_size _ rfl) fun v s' hP hm => ?_⟩
  exact hQ v s' hP (Moved.drop_new (tk := s₂.toks) hm (Nat.le_refl _))
theorem call_min_3H {prog : Program} {w : World} {A : Around} {E : Value → Shared → Prop} {s : Shared} {a b c : Value} {Q : Value → Shared → Prop}
    (h : wpAny (model prog w) A.in1 (pyIter (.ref s.heap.objs.size)) (fun it s₂ => ∃ I fp wr G n P St H bt, it = .ref I ∧ WalksS prog w A.in1 I fp wr G n P St ∧ St 0 s₂ ∧ (∀ b ∈ fp, b < s₂.heap.objs.size) ∧ 0 < n ∧
      (∀ b o, H.get? b = some o → b ∉ wr) ∧ (∀ b o, H.get? b = some o → s₂.heap.get? b = some o) ∧ CmpIn prog w A.in1 .Lt H P bt ∧ ∀ v s', P (argBest bt (n - 1)) v → Moved wr G s₂ s' → Q v s') E { s with heap := s.heap.push { cls := .type "tuple", data := .seq #[a, b, c] } }) :
    wpAny (model prog w) A (call (.builtin "min") [a, b, c]) Q E s := by
  have hname : (toString "min" ++ toString ".loop" : String) = "min.loop" := by decide
  refine call_function_tree F.kind_min F.plain_min F.entry_min (F.args_min3 _ _ _) ?_
  show wpAny _ A.in1 (Builtin.Builtins.bindParams "min" ["key", "default"] 0 ⟨[], []⟩ >>= _) _ _ s
  refine wpAny_bind (wpAny_of_eq (show Builtin.Builtins.bindParams "min" ["key", "default"] 0 ⟨[], []⟩ = pure [none, none] from rfl) ?_)
  show wpAny _ A.in1 (newTuple [a, b, c] >>= _) _ _ s
  refine wpAny_bind (wpAny_newObj_type ?_)
  refine wpAny_bind (wpAny_mono h (fun it s₂ h₂ => ?_) fun _ _ e => e)
  obtain ⟨I, fp, wr, G, n, P, St, H, bt, rfl, Wk, hst, hfp, hn, hw, hkeep, hcmp, hQ⟩ := h₂
  refine wpAny_bind (wpAny_newObj_type ?_)
  have hSf : s₂.heap.objs.size ∉ fp := fun hm => Nat.lt_irrefl _ (hfp _ hm)
  rw [hname]
  refine wpAny_pure ⟨plainId_quiet F.plain_min_loop _, codeAny_min_loop_firstH Wk H hw bt hcmp s₂.heap.objs.size hSf (fresh_in hkeep) _ hn (fun b o e => Heap.get?_push_of_some _ (hkeep b o e)) (Wk.frame 0 s₂ _ s₂.toks hst (Nat.le_refl _) fun b _ o e => Heap.get?_push_of_some _ e) (Heap.get?_push_size _ rfl) fun v s' hP hm => ?_⟩
  exact hQ v s' hP (Moved.drop_new (tk := s₂.toks) hm (Nat.le_refl _))
/-- min(..) of a tuple just made of the arguments -/
theorem min_args {pins : List (Addr × Obj)} {σ σ0 : L2.St} {H : Hp} {s : Shared} {B : List Addr} {h : Hh} {n : Nat} {Wd : WD} {us : List Value} {x : D} {xs : List D} {Q : VK} (hc : X.calm = true) (hu : X.A.units + 65 < cLine) (I : Inv X pins σ H s) (xh : RelH X.prog X.w X.K B h H) (hcl : ∀ d ∈ x :: xs, Cls n d) (e : W.EachIs (StD X.K B H) us (x :: xs))
    (p : Post X.prog X.w X.K Wd F (RpD X.K) B H σ0 (.ok (minL x xs) h) Q) :
    wpAny (model X.prog X.w) X.A.in1 (pyIter (.ref s.heap.objs.size)) (fun it s₂ => ∃ I fp wr G n P St H bt, it = .ref I ∧ WalksS X.prog X.w X.A.in1 I fp wr G n P St ∧ St 0 s₂ ∧ (∀ b ∈ fp, b < s₂.heap.objs.size) ∧ 0 < n ∧
      (∀ b o, H.get? b = some o → b ∉ wr) ∧ (∀ b o, H.get? b = some o → s₂.heap.get? b = some o) ∧ CmpIn X.prog X.w X.A.in1 .Lt H P bt ∧ ∀ v s', P (argBest bt (n - 1)) v → Moved wr G s₂ s' → EP X pins σ Q v s') X.xe { s with heap := s.heap.push { cls := .type "tuple", data := .seq us.toArray } } := by
  have kp : ∀ b o, s.heap.get? b = some o → (s.heap.push { cls := .type "tuple", data := .seq us.toArray }).get? b = some o := fun b o e => Heap.get?_push_of_some _ e
  obtain ⟨as, ra⟩ := each_reads I hcl e
  have ra' : ReadsAll (s.heap.push { cls := .type "tuple", data := .seq us.toArray }) us.toArray.toList ((x :: xs).map pdat) as := by simpa using ReadsAll.keeps kp ra
  have hT : (s.heap.push { cls := .type "tuple", data := .seq us.toArray }).IsTuple s.heap.objs.size us.toArray := ⟨_, Heap.get?_push_size _ rfl, rfl, 0, rfl⟩
  have hd : PyData.depthAll ((x :: xs).map pdat) ≤ 2 := depthAll_le _ fun d hd => (hcl d hd).depth
  have len : us.toArray.size = xs.length + 1 := by rw [List.size_toArray, e.length]; rfl
  refine W.iter_tupleW (A := X.A.in1) (s := { s with heap := s.heap.push { cls := .type "tuple", data := .seq us.toArray } }) (I.ok.hd hc) hT fun s₂ e2 Wk st hfp hw hk => ?_
  refine ⟨_, _, _, _, _, _, _, _, _, rfl, Wk, st, hfp, by omega, hw, hk, W.cmpIn_lt (A := X.A.in1) (s := { s with heap := s.heap.push { cls := .type "tuple", data := .seq us.toArray } }) ra' (alikeAll_cls hcl) (by show X.A.units + 1 + _ < _; omega), fun v s' hP m => ?_⟩
  obtain ⟨h', tk, rfl, hk'⟩ := W.moved_old e2 rfl m
  obtain ⟨bs, r, _, _, _⟩ := W.readsAll_atA ra' _ v hP
  have e1 : us.toArray.size - 1 = (xs.map pdat).length := by rw [List.length_map]; omega
  have e3 := (W.argBest_fold W.dataLt PyData.none (pdat x) (xs.map pdat) (xs.map pdat).length (Nat.le_refl _)).2
  rw [List.take_length] at e3
  rw [e1] at r
  have r2 : Reads (s.heap.push { cls := .type "tuple", data := .seq us.toArray }) v (W.minD (pdat x) (xs.map pdat)) bs := by
    unfold W.minD
    rw [← e3]
    exact r
  exact min_end (s := s) (F := F) I xh hcl e p (by simpa using hP) (Reads.keeps hk' r2) fun b o q => hk' b o (kp b o q)
theorem crd_min (hc : X.calm = true) (hu : X.A.units + 65 < cLine) : CallR X (.builtin "min") (rAbsC X.prog X.w X.K F fMin) := by
  intro pins s σ H xs us Q I rs ⟨Wd, σ0, B, h, ds, xh, rr, p⟩
  unfold fMin at p
  split at p
  · rename_i d
    cases rr with
    | cons r1 rn =>
      cases rn
      split at p
      · rename_i x zs e
        split at p
        · rename_i ok
          obtain ⟨n, hcl⟩ := okSort_cls ok
          obtain ⟨a, vs, rfl, hq, h2⟩ := list_sem xh r1 e
          obtain ⟨its, rv, hl, hz⟩ := I.list hq
          rw [Vals.ref1 rs]
          have eI := each_of h2 rv
          obtain ⟨as, ra⟩ := each_reads I hcl eI
          have hd : PyData.depthAll ((x :: zs).map pdat) ≤ 2 := depthAll_le _ fun d hd => (hcl d hd).depth
          refine W.min_list_data (xs := zs.map pdat) (x := pdat x) (I.ok.hd hc) hl.isList (by simpa using ra) (alikeAll_cls hcl) (by simp only [List.map_cons] at hd; omega) fun i v h' tk bs hv hr k => ?_
          exact min_end (F := F) I xh hcl eI p (by simpa using hv) hr k
        · exact p.elim
      · exact p.elim
  · rename_i x y
    split at p
    · rename_i ok
      obtain ⟨n, hcl⟩ := okSort_cls ok
      have eI := each_of rr rs
      obtain ⟨a, b, rfl⟩ : ∃ a b, us = [a, b] := by
        cases eI with
        | cons _ t => cases t with | cons _ t2 => cases t2; exact ⟨_, _, rfl⟩
      exact call_min_2H (min_args (F := F) hc hu I xh hcl eI p)
    · exact p.elim
  · rename_i x y z
    split at p
    · rename_i ok
      obtain ⟨n, hcl⟩ := okSort_cls ok
      have eI := each_of rr rs
      obtain ⟨a, b, c, rfl⟩ : ∃ a b c, us = [a, b, c] := by
        cases eI with
        | cons _ t => cases t with | cons _ t2 => cases t2 with | cons _ t3 => cases t3; exact ⟨_, _, _, rfl⟩
      exact call_min_3H (min_args (F := F) hc hu I xh hcl eI p)
    · exact p.elim
  · exact p.elim
end
end Dc
end
section
set_option Elab.async false
set_option linter.all false
set_option maxRecDepth 100000
set_option maxHeartbeats 4000000
/-! o[i] += e of ints; enumerate of a tuple; sorted of a text, by a key. -/
namespace Dc
open PySem PySem.Spec PyProof.Rows L2
section
variable {X : Cx} {W : WD} {F : Fl}
/-- the int at o[i], o a list -/
def getI (o i : D) (h : Hh) : Option Int := match o, i with
  | .ref j, .int k => (match h[j]? with
    | some (.lst xs) => if 0 ≤ k ∧ k < 1000000 then (match xs[k.toNat]? with
      | some (.int n) => some n
      | _ => none) else none
    | _ => none)
  | _, _ => none
def rGetI (P : Program) (w : World) (K : PySem.W.Frag) : V → V → Hp → VK → Prop := fun o i H Q => ∃ B h d1 d2 n, RelH P w K B h H ∧ Rep K B H d1 o ∧ Rep K B H d2 i ∧ getI d1 d2 h = some n ∧ Q (.int n) H
theorem pget_int : PGet X (rGetI X.prog X.w X.K) := by
  intro pins s σ H o i ov iv Q I ro ri ⟨B, h, d1, d2, n, xh, r1, r2, e, q⟩
  unfold getI at e
  split at e
  · rename_i j k
    cases r1 with
    | @ref _ a hb =>
      cases r2
      cases ro
      obtain ⟨t, rfl⟩ := ri
      split at e
      · rename_i xs ho
        obtain ⟨ob, ho2, hr⟩ := xh.get hb
        rw [ho] at ho2
        cases ho2
        obtain ⟨vs, h1, h2⟩ := hr
        split at e
        · rename_i hk
          split at e
          · rename_i m hm
            cases e
            obtain ⟨v, e1, e2⟩ := h2.get hm
            cases e2
            obtain ⟨its, rv, pl, hz⟩ := I.list (SqL.of h1)
            obtain ⟨u, hu, ru⟩ := rv.get e1
            exact wpAny_getItem_list pl.isList hk.1 (by omega) (by simpa using hu) ⟨.int n, H, I, ru, q⟩
          · cases e
        · cases e
      · cases e
  · cases e
def bAug (F : Fl) (mo mi me : EM) : SM := fun r h => match mo r h with
  | .ok o h1 => (match mi r h1 with
    | .ok i h2 => (match getI o i h2 with
      | some n => (match me r h2 with
        | .ok (.int k) h3 => (match putD F o i (.int (n + k)) h3 with
          | some h4 => .nx r h4
          | none => .bad)
        | _ => .bad)
      | none => .bad)
    | _ => .bad)
  | _ => .bad
theorem ds_aug {o i e : Expr} {mo mi me : EM} {pos tpos : Pos} (hu : X.A.units + 65 < cLine) (ho : DE X W F o mo) (hi : DE X W F i mi) (he : DE X W F e me)
    (ha : ∀ ov iv new, augStore i ov iv new = (do holding [new, ov, iv] (setItem ov iv new); release [new, ov, iv] []; pure .next) := by intros; rfl) : DS X W F (.AugAssign (.Subscript o i tpos) .Add e pos) (bAug F mo mi me) := by
  refine PS.imp (ps_augS ho hi pget_int he ip_add (set_any (F := F) hu) ha) fun D σ H q => ?_
  obtain ⟨B, r, h, hE, hH, q⟩ := q
  refine ⟨B, r, h, hE, hH, ?_⟩
  unfold bAug at q
  cases e1 : mo r h with
  | bad => rw [e1] at q; exact q.elim
  | exc c h1 => rw [e1] at q; exact q.elim
  | ok od h1 =>
    rw [e1] at q
    intro B1 ov H1 s1 x1 r1
    have q := q.later s1
    dsimp only at q
    refine ⟨B1, r, h1, hE.step s1, x1, ?_⟩
    cases e2 : mi r h1 with
    | bad => rw [e2] at q; exact q.elim
    | exc c h2 => rw [e2] at q; exact q.elim
    | ok id h2 =>
      rw [e2] at q
      intro B2 iv H2 s2 x2 r2
      have q := q.later s2
      dsimp only at q
      cases e3 : getI od id h2 with
      | none => rw [e3] at q; exact q.elim
      | some n =>
        rw [e3] at q
        dsimp only at q
        refine ⟨B2, h2, od, id, n, x2, r1.step s2, r2, e3, B2, r, h2, (hE.step s1).step s2, x2, ?_⟩
        cases e4 : me r h2 with
        | bad => rw [e4] at q; exact q.elim
        | exc c h3 => rw [e4] at q; exact q.elim
        | ok kd h3 =>
          rw [e4] at q
          intro B3 kv H3 s3 x3 r3
          have q := q.later s3
          cases kd with
          | int k =>
            cases r3
            dsimp only at q
            refine ⟨n, k, rfl, rfl, B3, h3, od, id, .int (n + k), x3, (r1.step s2).step s3, r2.step s3, .int _, ?_⟩
            cases e5 : putD F od id (.int (n + k)) h3 with
            | none => rw [e5] at q; exact q.elim
            | some h4 =>
              rw [e5] at q
              exact fun B4 H4 s4 x4 => q B4 σ H4 s4 (((hE.step s1).step s2).step s3 |>.step s4) x4
          | _ => exact q.elim
end
/-! ### enumerate(tuple) -/
set_option maxHeartbeats 8000000 in
theorem enum_newT (l : Addr) (items : Array Value) (n : Nat) (dct : Option Addr) (sl : Array (Option Value)) :
    Meets (Builtin.«enumerate.__new__» ⟨[.type "enumerate", .ref l], []⟩) (fun _ R s => s.heap.get? l = some { cls := .type "tuple", dict := dct, data := .seq items n, slots := sl } ∧
      R (.ok (.ret (.ref (s.heap.push { cls := .type "tuple_iterator", data := .fields #[.ref l, .int 0 0] }).objs.size)))
        { s with heap := (s.heap.push { cls := .type "tuple_iterator", data := .fields #[.ref l, .int 0 0] }).push { cls := .type "enumerate", data := .fields #[.none, .bool false, .ref s.heap.objs.size, rawInt 0, .none, .none] } }) :=
  .of_wp fun prog w A R s h => by
    obtain ⟨hp, g, d, tk, os⟩ := s
    obtain ⟨hl, h⟩ := h
    have hsub := sub_enumerate
    have hL : Heap.IsTuple (Shared.heap ⟨hp, g, d, tk, os⟩) l items := ⟨_, hl, rfl, n, rfl⟩
    wp_walk using AutoSeq1.wpAny_loadPart' hl
    refine wpAny_stack_any fun st => wpAny_pure ?_
    split
    · rename_i c _ _ _ _ _
      cases (c == Value.type "enumerate")
      · wp_walk using AutoSeq1.wpAny_loadPart' hl, wpAny_pyIter_tuple hL
        exact ⟨_, rfl, h⟩
      · wp_walk using AutoSeq1.wpAny_loadPart' hl, wpAny_pyIter_tuple hL
        exact ⟨_, rfl, h⟩
    · wp_walk using AutoSeq1.wpAny_loadPart' hl, wpAny_pyIter_tuple hL
      exact ⟨_, rfl, h⟩
end Dc
end
section
set_option Elab.async false
set_option linter.all false
set_option maxRecDepth 100000
set_option maxHeartbeats 4000000
namespace Dc
open PySem PySem.Spec PyProof.Rows L2
section
variable {prog : Program} {w : World} {A : Around} {E : Value → Shared → Prop} {s : Shared} {it t : Addr} {i : Nat} {items : Array Value}
theorem nextT_item {x : Value} {Q : Value → Shared → Prop} (hit : s.heap.IsTupleIter it t i) (ht : s.heap.IsTuple t items) (hx : items[i]? = some x) (hQ : ∀ h', h'.IsTupleIter it t (i + 1) → Heap.SameBut it s.heap h' → Q x { s with heap := h' }) :
    wpAny (model prog w) A (Builtin.SmallTypes.nextOf (.ref it)) Q E s := by
  obtain ⟨o, ho, hc, hd⟩ := id hit
  obtain ⟨ol, hol, _, nl, hdl⟩ := ht
  unfold Builtin.SmallTypes.nextOf
  refine wpAny_bind (wpAny_callSpecial?_slot (name := Str.ofString "__next__") hit.typeIs F.slot_tuple_iterator_next (wpAny_call_entry F.slot_tuple_iterator_next hit.typeIs F.entry_tuple_iterator_next ?_ (F.args_tuple_iterator_next_1 _)))
  show wpAny _ _ (field (.ref it) 0 >>= _) _ _ s
  refine wpAny_bind (wpAny_field ho hd (x := .ref t) rfl ?_)
  rw [if_neg (show ¬ ((Value.ref t == Value.none) = true) from Bool.false_ne_true)]
  show wpAny _ _ (field (.ref it) 1 >>= _) _ _ s
  refine wpAny_bind (wpAny_field ho hd (x := .int i 0) rfl (wpAny_bind (wpAny_seqItems hol hdl ?_)))
  simp only [Int.toNat_natCast, hx]
  refine wpAny_bind (wpAny_setField ho hd (by simp) (wpAny_pure ⟨x, rfl, wpAny_pure (hQ _ ?_ (Heap.SameBut.update ..))⟩))
  exact ⟨_, Heap.get?_update_self _ ho (Obj.isFreed_of_fields (Obj.data_mapFields hd _)), (Obj.cls_mapFields ..).trans hc, by rw [Obj.data_mapFields hd]; simp [rawInt]⟩
theorem nextT_end {Q : Value → Shared → Prop} (hh : A.handled = none) (hit : s.heap.IsTupleIter it t i) (ht : s.heap.IsTuple t items) (hx : items[i]? = none)
    (hE : ∀ h' e, Heap.ExtBut it s.heap h' → (∃ o, h'.get? e = some o ∧ o.cls = .type "StopIteration") → E (.ref e) { s with heap := h' }) : wpAny (model prog w) A (Builtin.SmallTypes.nextOf (.ref it)) Q E s := by
  obtain ⟨o, ho, hc, hd⟩ := id hit
  obtain ⟨ol, hol, _, nl, hdl⟩ := ht
  unfold Builtin.SmallTypes.nextOf
  refine wpAny_bind (wpAny_callSpecial?_slot (name := Str.ofString "__next__") hit.typeIs F.slot_tuple_iterator_next (wpAny_call_entry F.slot_tuple_iterator_next hit.typeIs F.entry_tuple_iterator_next ?_ (F.args_tuple_iterator_next_1 _)))
  show wpAny _ _ (field (.ref it) 0 >>= _) _ _ s
  refine wpAny_bind (wpAny_field ho hd (x := .ref t) rfl ?_)
  rw [if_neg (show ¬ ((Value.ref t == Value.none) = true) from Bool.false_ne_true)]
  show wpAny _ _ (field (.ref it) 1 >>= _) _ _ s
  refine wpAny_bind (wpAny_field ho hd (x := .int i 0) rfl (wpAny_bind (wpAny_seqItems hol hdl ?_)))
  simp only [Int.toNat_natCast, hx]
  refine wpAny_bind (wpAny_rule (wpAny_bind (wpAny_setField ho hd (by simp) ?_)))
  show wpAny _ _ (newExc (.type "StopIteration") [] >>= _) _ _ _
  refine wpAny_bind ?_
  simp only [newExc, newTuple]
  refine wpAny_bind (wpAny_newObj_type ?_ (by size_fits))
  refine wpAny_bind (m := firstArgMember _ _) (wpAny_of_eq (a := Value.none) (by first | rfl | (simp only [firstArgMember]; rfl)) ?_)
  refine wpAny_newObj_type ?_ (by size_fits)
  simp only [raiseNew]
  refine wpAny_bind (wpAny_handled ?_)
  first | rw [show A.in1.handled = none from hh] | rw [hh]
  exact wpAny_bind (wpAny_pure (wpAny_throw (hE _ _ (((Heap.SameBut.update ..).extBut.push _).push _) ⟨_, Heap.get?_push_size _ rfl, rfl⟩)))
theorem drawsT (hh : A.handled = none) (it l : Addr) (hne : l ≠ it) (items : Array Value) : Draws prog w A it [it, l] items.size (fun i v => items[i]? = some v) (fun i h => h.IsTupleIter it l i ∧ h.IsTuple l items) where
  live := fun _ _ st => let ⟨o, ho, _⟩ := st.1; ⟨o, ho⟩
  frame := fun _ _ _ st hk => ⟨let ⟨o, ho, r⟩ := st.1; ⟨o, hk it (by simp) o ho, r⟩, let ⟨o, ho, r⟩ := st.2; ⟨o, hk l (by simp) o ho, r⟩⟩
  item := fun i s Q E hi st hQ => by
    refine nextT_item st.1 st.2 (x := items[i]) (by simp [hi]) fun h' hit' hs' => ?_
    exact hQ _ h' s.toks (by simp [hi]) ⟨hit', let ⟨o, ho, r⟩ := st.2; ⟨o, (hs'.2 l hne).trans ho, r⟩⟩ hs'
  done := fun s Q E st hE => nextT_end hh st.1 st.2 (by simp) hE
theorem call_enumT {l : Addr} {Q : Value → Shared → Prop} (hL : s.heap.IsTuple l items)
    (h : ∀ h', IsEnum h' (s.heap.objs.size + 1) s.heap.objs.size 0 .none → h'.IsTupleIter s.heap.objs.size l 0 → h'.objs.size = s.heap.objs.size + 2 → (∀ b o, s.heap.get? b = some o → h'.get? b = some o) → Q (.ref (s.heap.objs.size + 1)) { s with heap := h' }) :
    wpAny (model prog w) A (call (.type "enumerate") [.ref l]) Q E s := by
  obtain ⟨⟨c, dct, dt, sl⟩, hl, hc, n, hd⟩ := hL
  replace hc : c = .type "tuple" := hc
  replace hd : dt = .seq items n := hd
  subst hc hd
  refine callType_new F.called_enumerate (by decide) (F.typeCall_enumerate_1 _) (F.newCall_enumerate_1 _) (fun obj => F.args_object_init_2 obj _) F.entry_enumerate_new (enum_newT l items n dct sl) ⟨hl, ?_⟩
  have hz : (s.heap.push { cls := .type "tuple_iterator", data := .fields #[.ref l, .int 0 0] }).objs.size = s.heap.objs.size + 1 := Heap.size_push ..
  show _ ∧ _
  rw [hz]
  have he : IsEnum ((s.heap.push { cls := .type "tuple_iterator", data := .fields #[.ref l, .int 0 0] }).push { cls := .type "enumerate", data := .fields #[.none, .bool false, .ref s.heap.objs.size, rawInt 0, .none, .none] }) (s.heap.objs.size + 1) s.heap.objs.size 0 .none := by
    have := Heap.get?_push_size (s.heap.push { cls := .type "tuple_iterator", data := .fields #[.ref l, .int 0 0] }) (o := { cls := .type "enumerate", data := .fields #[.none, .bool false, .ref s.heap.objs.size, rawInt 0, .none, .none] }) rfl
    rw [hz] at this; exact this
  exact ⟨⟨_, he, rfl⟩, h _ he ⟨_, Heap.get?_push_of_some _ (Heap.get?_push_size _ rfl), rfl, rfl⟩ (by rw [Heap.size_push, hz]) fun b o x => Heap.get?_push_of_some _ (Heap.get?_push_of_some _ x)⟩
end
/-- the tuple at a, each item in a new pair -/
def ItU (K : PySem.W.Frag) (a : Addr) : It :=
  ⟨fun i H => ∃ (xs : List V) (x : V), SqT K H a xs ∧ xs[i]? = some x, fun i H v H' => ∃ T x, v = .ref T ∧ H T = none ∧ H' = upd H T (.tup [.int (i : Nat), x]) ∧ ∀ xs, SqT K H a xs → xs[i]? = some x, fun i H => ∃ xs : List V, SqT K H a xs ∧ xs.length ≤ i⟩
theorem turn_enumT {P : Program} {w : World} {K : PySem.W.Frag} {elts : List Expr} {kk : Nat} {tpos : Pos} (a e it : Addr) (hea : e ≠ a) (hia : it ≠ a) :
    Turn P w K (.Tuple elts kk tpos) (ItU K a) [e, it] e (fun i h => (∃ old, IsEnum h e it ((i : Nat) : Int) old) ∧ h.IsTupleIter it a i ∧ e ≠ it) where
  mem := by simp
  obj := fun i h st b hb => by
    obtain ⟨⟨old, he⟩, ⟨o, ho, hc, hd⟩, _⟩ := st
    have e' : b = e ∨ b = it := by simpa using hb
    rcases e' with z | z
    · rw [z]; exact ⟨_, he, fun v q => nomatch q⟩
    · rw [z]; exact ⟨o, ho, fun v q => by rw [hd] at q; cases q⟩
  keep := fun i h h' st k => let ⟨⟨old, he⟩, ⟨o, ho, r⟩, hne⟩ := st; ⟨⟨old, k e (by simp) _ he⟩, ⟨o, k it (by simp) o ho, r⟩, hne⟩
  item := by
    intro X hP hw hK hc i pins s σ H E I hf st hg
    subst hP hw hK
    obtain ⟨⟨old, he⟩, hit, hne⟩ := st
    obtain ⟨xs, x, hq, hx⟩ := hg
    obtain ⟨its, rv, p, hz⟩ := I.tuple hq
    have p : s.heap.IsTuple a its.toArray := p
    obtain ⟨u, hu, ru⟩ := rv.get hx
    have hel : e < s.heap.objs.size := Heap.lt_size he
    have hil : it < s.heap.objs.size := by obtain ⟨_, q, _⟩ := hit; exact Heap.lt_size q
    have hil2 : i < its.toArray.size := by simpa using (List.getElem?_eq_some_iff.mp hu).1
    refine wpAny_pyNext_enum_itemD (drawsT (A := X.A.in1) (I.ok.hd hc) it a hia.symm its.toArray) he ⟨hit, p⟩ hil2 hne (by simp [hne, hea]) fun y h' tk hy ho hit' hT hsz hk => ?_
    have hy : its.toArray[i]? = some y := hy
    have ey : y = u := by
      have : its[i]? = some y := by simpa using hy
      rw [hu] at this
      exact (Option.some.inj this).symm
    subst ey
    refine ⟨_, rfl, wpAny_letOwnedTupleGo_enum (s := { s with heap := h', toks := tk + 1 }) ho fun h'' he' sb => ?_⟩
    have hT2 : h''.get? s.heap.objs.size = some { cls := .type "tuple", data := .seq #[.int i tk, y] } := (sb.2 _ (Nat.ne_of_gt hel)).trans hT
    have new : ObjOk X.prog X.w (upd H s.heap.objs.size (.tup [.int (i : Nat), x])) h'' s.heap.objs.size (.tup [.int (i : Nat), x]) :=
      ⟨by show 2 ≤ sizeLine; decide, [.int i tk, y], .cons ⟨_, rfl⟩ (.cons ru .nil), ⟨_, hT2, rfl, _, rfl⟩⟩
    have I1 : Inv X pins σ (upd H s.heap.objs.size (.tup [.int (i : Nat), x])) { s with heap := h'', toks := tk + 1 } :=
      I.turnedNew (ch := [e, it]) (fun b ob hb q => (sb.2 b (fun z => hb (by simp [z]))).trans (hk b ob (fun z => hb (by simp [z])) (fun z => hb (by simp [z])) q)) hf (Nat.le_refl _) new
    refine ⟨.ref s.heap.objs.size, _, I1, rfl, ⟨_, x, rfl, I.hok.fresh (Nat.le_refl _), rfl, fun ys hy => by rw [I.tuple_inj hy hq]; exact hx⟩, ⟨⟨y, ?_⟩, let ⟨o, q, r⟩ := hit'.1; ⟨o, (sb.2 it (Ne.symm hne)).trans q, r⟩, hne⟩, fun b hb => ?_⟩
    · have e1 : ((i + 1 : Nat) : Int) = (i : Int) + 1 := by omega
      rw [e1]; exact he'
    · have hb' : b < s.heap.objs.size := by
        have e' : b = e ∨ b = it := by simpa using hb
        rcases e' with z | z
        · rw [z]; exact hel
        · rw [z]; exact hil
      rw [upd_ne (Nat.ne_of_lt hb')]
      exact (hf b hb).1
  done := by
    intro X hP hw hK hc i pins s σ H E I hf st hg
    subst hP hw hK
    obtain ⟨⟨old, he⟩, hit, hne⟩ := st
    obtain ⟨xs, hq, hx⟩ := hg
    obtain ⟨its, rv, p, hz⟩ := I.tuple hq
    have p : s.heap.IsTuple a its.toArray := p
    obtain ⟨f0, f1, f2, f3, f4, f5⟩ := hf it (by simp)
    have hl := rv.length
    have hT : s.TypeIs (.ref e) "enumerate" := ⟨_, he, rfl⟩
    unfold pyNext
    refine wpAny_bind (wpAny_attempt (wpAny_callSpecial?_slot (name := Str.ofString "__next__") hT F.slot_enumerate_next (wpAny_call_entry F.slot_enumerate_next hT F.entry_enumerate_next ?_ (F.args_enumerate_next_1 _))))
    show wpAny _ _ (field (.ref e) 2 >>= _) _ _ _
    refine wpAny_bind (wpAny_field he rfl (x := .ref it) rfl ?_)
    refine wpAny_bind (nextT_end (A := X.A.in1) (I.ok.hd hc) hit p (by simp; omega) fun h' x he' hx' => ?_)
    obtain ⟨o, ho, hcc⟩ := hx'
    refine wpAny_bind (wpAny_isInstance (T := "StopIteration") (b := true) ⟨o, ho, hcc⟩ isSubtype_stop ?_)
    exact wpAny_pure ⟨rfl, I.turned (t' := s.toks) (fun b o hb q => he' b o hb q) f0 f1 f3 f4 f5⟩
  self := fun A i s Q E st h => let ⟨⟨_, he⟩, _⟩ := st; wpAny_pyIter_enum he h
theorem walk_enumT {K : PySem.W.Frag} {a : Addr} {xs : List V} : Walk (ItU K a) xs.length (fun H => SqT K H a xs) (fun i H x H' => ∃ T y, x = .ref T ∧ H T = none ∧ H' = upd H T (.tup [.int (i : Nat), y]) ∧ xs[i]? = some y) := by
  refine ⟨fun i _ hi q => ⟨xs, xs[i], q, by simp [hi]⟩, fun _ q => ⟨xs, q, Nat.le_refl _⟩, fun i H v H' _ q y => ?_⟩
  obtain ⟨T, x, h1, h2, h3, h4⟩ := y
  exact ⟨T, x, h1, h2, h3, h4 xs q⟩
def numd : Nat → List D → List D
  | _, [] => []
  | n, d :: ds => .tup [.int n, d] :: numd (n + 1) ds
theorem numd_len : ∀ (ds : List D) (n : Nat), (numd n ds).length = ds.length
  | [], _ => rfl
  | d :: ds, n => by simp [numd, numd_len ds]
theorem numd_get : ∀ (ds : List D) (n i : Nat) (d : D), ds[i]? = some d → (numd n ds)[i]? = some (.tup [.int ((n + i : Nat) : Int), d])
  | [], _, _, _, e => by simp at e
  | x :: ds, n, 0, d, e => by simp at e; subst e; rfl
  | x :: ds, n, i + 1, d, e => by
    have := numd_get ds (n + 1) i d (by simpa using e)
    show (numd (n + 1) ds)[i]? = _
    rw [this]
    have : n + 1 + i = n + (i + 1) := by omega
    rw [this]
def xEnum (m : EM) : IM := fun r h => (m r h).bind fun d h1 => match d with
  | .tup ds => .ok (numd 0 ds, none) h1
  | _ => .bad
section
variable {X : Cx} {Wd : WD} {F : Fl}
def iEnT (K : PySem.W.Frag) (ta : TA) : TI := fun σ H R => ta σ H fun vs H1 => ∃ a xs, vs = [.ref a] ∧ SqT K H1 a xs ∧ R (ItU K a) H1
theorem pi_enT {e : Expr} {ta : TA} {p pos tpos : Pos} {elts : List Expr} {kk : Nat} (hg : Gl X "enumerate") (hm : X.mg "enumerate" = none) (ha : PA X [e] ta) (hs : starEach [e] X.env = [(false, eval e X.env)] := by rfl) :
    PI X (.Tuple elts kk tpos) (.Call (.Name "enumerate" p) [e] [] pos) (iEnT X.K ta) := by
  refine ⟨fun pins s σ H R I h => ?_⟩
  refine Call_ (ld_blt I hg hm boot_enumerate (PyProof.Rows.callWith_type1 (thn (ha.run pos pins s σ H _ I h) fun us s1 ⟨vs, H1, I1, r1, q1⟩ => ?_) hs rfl))
  obtain ⟨a, xs, ex, hq, q⟩ := q1
  subst ex
  rw [Vals.ref1 r1]
  obtain ⟨its, rv, p', hz⟩ := I1.tuple hq
  have p' : s1.heap.IsTuple a its.toArray := p'
  have al : a < s1.heap.objs.size := by obtain ⟨o, ho, _⟩ := p'; exact Heap.lt_size ho
  refine call_enumT p' fun h' he hit hsz hk => wpAny_pyIter_enum he ?_
  have I2 : Inv X pins σ H1 { s1 with heap := h' } := I1.kept (t' := s1.toks) hk
  refine ⟨s1.heap.objs.size + 1, [s1.heap.objs.size + 1, s1.heap.objs.size], _, _, H1, rfl, I2, turn_enumT a (s1.heap.objs.size + 1) s1.heap.objs.size (Nat.ne_of_gt (Nat.lt_succ_of_lt al)) (Nat.ne_of_gt al), ⟨⟨.none, he⟩, hit, Nat.succ_ne_self _⟩, fun b hb => ?_, q⟩
  have e' : b = s1.heap.objs.size + 1 ∨ b = s1.heap.objs.size := by simpa using hb
  have hle : s1.heap.objs.size ≤ b := by
    rcases e' with z | z
    · rw [z]; exact Nat.le_succ _
    · rw [z]; exact Nat.le_refl _
  exact I1.fpOk hle (I1.hok.fresh hle)
theorem di_enum {a : Expr} {m : EM} {p pos tpos : Pos} {elts : List Expr} {kk : Nat} (hm : X.mg "enumerate" = none) (ha : DE X Wd F a m) (hg : Gl X "enumerate" := by rfl) (hs : starEach [a] X.env = [(false, eval a X.env)] := by rfl) : DI X Wd F (.Tuple elts kk tpos) (.Call (.Name "enumerate" p) [a] [] pos) (xEnum m) := by
  have da : DA X Wd F [a] (xCons m xNil) := da_cons ha da_nil (by rw [hs] <;> rfl)
  refine ⟨_, pi_enT hg hm da.pa hs, fun σ H R B r h hE hH q => ⟨B, r, h, hE, hH, ?_⟩⟩
  unfold xCons
  unfold xEnum at q
  cases em : m r h with
  | bad => rw [em] at q; exact q
  | exc c h1 => rw [em] at q; exact q
  | ok d h1 =>
    rw [em] at q
    intro B1 vs H1 s1 r1 p1
    match vs, p1 with
    | [v], .cons p1 .nil =>
      cases p1 with
      | @tup a xs ds hT hr =>
        refine ⟨a, xs, rfl, hT, ?_⟩
        refine q B1 H1 _ s1 r1 ⟨_, _, (by rw [numd_len, hr.length]; exact walk_enumT (xs := xs)), fun B2 H2 s => s.grow.sqT hT, fun i H2 x H3 B2 h2 hi s x2 y => ?_⟩
        obtain ⟨T, y, rfl, hn, rfl, hy⟩ := y
        obtain ⟨d, e1, e2⟩ := hr.get' hy
        refine ⟨step_new x2 hn, x2.new hn, _, numd_get ds 0 i d e1, .tup (SqT.of upd_same) (.cons ?_ (.cons ((e2.grow s.grow).step (step_new (F := F) x2 hn)) .nil))⟩
        rw [Nat.zero_add]
        exact .int _
      | _ => exact q.elim
end
end Dc
end
section
set_option Elab.async false
set_option linter.all false
set_option maxRecDepth 100000
set_option maxHeartbeats 4000000
/-! {k: v for t in e}, keys tuples. -/
namespace Dc
open PySem PySem.Spec PyProof.Rows L2
def dcL (T : Tg) (tk tv : EM) (r0 : Ev) : List D → List (D × D) → Hh → Rs (List (D × D))
  | [], kvs, h => .ok kvs h
  | d :: ds, kvs, h => match T.put d r0 with
    | none => .bad
    | some r1 => (match tk r1 h with
      | .ok k h1 => (match tv r1 h1 with
        | .ok v h2 => if (isKey k && decide (kvs.length < lim)) = true then dcL T tk tv r0 ds (dput kvs k v) h2 else .bad
        | _ => .bad)
      | _ => .bad)
def xDc (F : Fl) (vs : List Nat) (it : IM) (T : Tg) (tk tv : Fl → EM) : EM := fun r h => (it r h).bind fun p h1 =>
  (dcL T (tk (F.lock p.2)) (tv (F.lock p.2)) (wipeE r vs) p.1 [] h1).bind fun kvs h2 => .ok (.ref h2.length) (h2 ++ [.dct kvs])
section
variable {X : Cx}
/-- d[k] = v by a comprehension -/
theorem dset_any {pins : List (Addr × Obj)} {σ : L2.St} {H : Hp} {s : Shared} {E : Value → Shared → Prop} {a : Addr} {B : List Addr} {kvs : List (D × D)} {k v : D} {x y : V} {u r : Value} {Q : Unit → Shared → Prop} (hu : X.A.units + 65 < cLine) (I : Inv X pins σ H s) (ob : ObRep X.prog X.w X.K B H a (.dct kvs)) (hk : isKey k = true) (hl : kvs.length < lim)
    (rk : Rep X.K B H k x) (rx : RelV x u) (rv : Rep X.K B H v y) (ry : RelV y r)
    (h : ∀ s' o, Inv X pins σ (upd H a (exO a o)) s' → ObRep X.prog X.w X.K B (upd H a (exO a o)) a (.dct (dput kvs k v)) → Q () s') : wpAny (model X.prog X.w) X.A (dictSet a u r) Q E s := by
  obtain ⟨hs, hz, xs, hm, pr, o0, ho0⟩ := ob.ofH I
  have hn : (kvs.map (·.1)).Nodup := ob.2.2.1
  cases rk with
  | @tup ka _ kds k1 k2 =>
    obtain rfl : u = Value.ref ka := rx
    have hk2 := Rep.isKey I hk (.tup k1 k2)
    have room : (nestedKind X.prog X.w).room X.A := by show X.A.units + 8 < cLine; omega
    refine wpAny_dictSet_heap room hk2 hm (fun hp hm' sb => ?_) (by rw [← paired_len pr]; exact hz)
    obtain ⟨o1, e1, nw⟩ := dict_new (P := X.prog) (w := X.w) (K := X.K) (B := B) hs (by have := dput_len kvs (.tup kds) v; rw [lim_eq]; omega) (dput_keys (k := .tup kds) (v := v) hn) hm'
    have g : Grow B H B (upd H a (exO a o1)) := ⟨⟨[], by simp⟩, fun b ys q => by rw [upd_ne (ne_of q ho0 fun z => by cases z)]; exact q, fun b o' u' q => by rw [upd_ne (ne_of q ho0 fun z => by cases z)]; exact q⟩
    exact h _ o1 (I.write (by rw [ho0]; trivial) (.inl rfl) (fun b ob hne q => (sb.2 b hne).trans q) ⟨o1, e1⟩ (exO_ok e1)) (nw _ _ (ent_grow g (ent_put hk (.tup k1 k2) rv ry pr)) upd_same)
  | _ => cases hk
/-- the reading: D the new dict -/
def tDcx (P : Program) (w : World) (K : PySem.W.Frag) (wi : TI) (g : TG) (tk tv : TE) (vs : List Nat) : TE := fun σ H Q => wi σ H fun J H1 => ∀ D, H1 D = none → (D == sysModules) = false → ∃ W : Nat → Nat → Hp → Prop, (∃ m, W 0 m (upd H1 D (exO D newD))) ∧ ∀ i m H, W i m H →
  (J.stop i H ∧ Q (.ref D) H) ∨ (J.go i H ∧ ∃ Nx : Hp → Prop, (∀ H', Nx H' → ∃ m', m' < m ∧ W (i + 1) m' H') ∧ ∀ x H', J.yld i H x H' → g x (wipe σ vs) H' fun σ2 H2 => wipe σ2 vs = wipe σ vs ∧ tk σ2 H2 fun y H4 => tv σ2 H4 fun z H5 =>
    ∃ B kvs k v, ObRep P w K B H5 D (.dct kvs) ∧ isKey k = true ∧ kvs.length < lim ∧ Rep K B H5 k y ∧ Rep K B H5 v z ∧ ∀ o, ObRep P w K B (upd H5 D (exO D o)) D (.dct (dput kvs k v)) → Nx (upd H5 D (exO D o)))
theorem dcx_core {pins : List (Addr × Obj)} {s : Shared} {σ : L2.St} {H : Hp} {Q : VK} {use : Option (Value → Sem Unit)} {Qf : Value → Shared → Prop} {kx vx tg iter : Expr} {scope : Scope} {own : List (Str × Nat)} {pos pos' : Pos} {wi : TI} {g : TG} {tk tv : TE} (hu : X.A.units + 65 < cLine) (hc : X.calm = true) (hN : X.N.Nodup) (hi : PI X tg iter wi) (ok : BlkOk X.N X.env.scope scope own)
    (hg : ∀ (s : Shared) (H : Hp) (C : Addr) (cl : List (Str × Addr)) (fp : List Addr), PG (X.blk s H scope (compEnvC scope cl C X.env) fp) tg g)
    (hk : ∀ (s : Shared) (H : Hp) (C : Addr) (cl : List (Str × Addr)) (fp : List Addr), PE (X.blk s H scope (compEnvC scope cl C X.env) fp) kx tk)
    (he : ∀ (s : Shared) (H : Hp) (C : Addr) (cl : List (Str × Addr)) (fp : List Addr), PE (X.blk s H scope (compEnvC scope cl C X.env) fp) vx tv) (hs : ∀ x, foldedSetIterable iter X.env x = pure x) (I : Inv X pins σ H s) (h : tDcx X.prog X.w X.K wi g tk tv (own.map (·.2)) σ H Q)
    (hRR : ∀ D C s' m H', Inv X pins σ H' s' → Q (.ref D) H' → s'.heap.Ns C m → FpOk X pins H' C → compPost (model X.prog X.w) X.A X.xe use Qf (.ref D) C (.ok .next) s') :
    wpAny (model X.prog X.w) X.A (comprehension (.DictComp kx vx [⟨tg, iter, [], 0⟩] scope pos) scope X.env pos' newDict false (eval iter X.env) use) Qf X.xe s := by
  have hfree : ∀ y ∈ scope.names, y.2 = .free → ∃ c, X.env.cells.lookup y.1 = some c := fun y hy e => (ok.free y hy e).elim (fun k => I.ok.has _ (.inl k)) fun k => I.ok.has _ (.inr k)
  refine wpAny_comprehension_free (use := use) rfl hs (closure_ok hfree) ok.kind (fun y hy e => by rw [ok.uniq y hy, e]) (thn (hi.run pins s σ H _ I h) fun xv s1 hx => thn hx fun itv s2 h2 => ?_)
  obtain ⟨it, fp, tn, J, H2, rfl, I2, T, st2, f2, q⟩ := h2
  refine wpAny_newObj_type (newEnv_comp ?_)
  have hDn : H2 s2.heap.objs.size = none := I2.hok.fresh (Nat.le_refl _)
  obtain ⟨Wd, ⟨m0, w0⟩, turn⟩ := q _ hDn (notSys I2 (Nat.le_refl _))
  have I3 : Inv X pins σ (upd H2 s2.heap.objs.size (exO s2.heap.objs.size newD)) { s2 with heap := s2.heap.push newD } :=
    I2.laid (t' := s2.toks) (fun b o e => Heap.get?_push_of_some _ e) (Nat.le_refl _) (exO_ok (Heap.get?_push_size _ rfl))
  have f3 : ∀ b ∈ fp, FpOk X pins (upd H2 s2.heap.objs.size (exO s2.heap.objs.size newD)) b ∧ b < (s2.heap.push newD).objs.size := fun b hb => by
    obtain ⟨o, e, _⟩ := T.obj _ _ st2 b hb
    have lt := Heap.lt_size e
    refine ⟨⟨?_, (f2 b hb).2⟩, by rw [Heap.size_push]; exact Nat.lt_succ_of_lt lt⟩
    rw [upd_ne (Nat.ne_of_lt lt)]
    exact (f2 b hb).1
  have st3 : tn 0 (s2.heap.push newD) := T.keep _ _ _ st2 fun b _ o e => Heap.get?_push_of_some _ e
  have I4 := block_start I3 ok hN f3
  show codeAny _ _ (.compStart (.DictComp kx vx [⟨tg, iter, [], 0⟩] scope pos) 0 (.ref it) (.ref s2.heap.objs.size) (compEnvC scope (cellsFrom (({ s2 with heap := s2.heap.push newD } : Shared).heap.objs.size + 1) scope.names (cloFrom X.env.cells scope.names [])) ({ s2 with heap := s2.heap.push newD } : Shared).heap.objs.size X.env)) (compPost (model X.prog X.w) X.A X.xe use Qf (.ref s2.heap.objs.size) ({ s2 with heap := s2.heap.push newD } : Shared).heap.objs.size) { ({ s2 with heap := s2.heap.push newD } : Shared) with heap := pushCells (({ s2 with heap := s2.heap.push newD } : Shared).heap.push { cls := .type "dict", data := .dict #[] }) scope.names }
  generalize hD : s2.heap.objs.size = D at *
  generalize hs3 : ({ s2 with heap := s2.heap.push newD } : Shared) = s3 at *
  have h3 : s3.heap = s2.heap.push newD := by rw [← hs3]
  generalize hH3 : upd H2 D (exO D newD) = H3 at *
  have pg := hg s3 H3 s3.heap.objs.size (cellsFrom (s3.heap.objs.size + 1) scope.names (cloFrom X.env.cells scope.names [])) fp
  have pk := hk s3 H3 s3.heap.objs.size (cellsFrom (s3.heap.objs.size + 1) scope.names (cloFrom X.env.cells scope.names [])) fp
  have pe := he s3 H3 s3.heap.objs.size (cellsFrom (s3.heap.objs.size + 1) scope.names (cloFrom X.env.cells scope.names [])) fp
  have nfp : ∀ b ∈ fp, H3 b = none := fun b hb => (f3 b hb).1.1
  generalize hce : compEnvC scope (cellsFrom (s3.heap.objs.size + 1) scope.names (cloFrom X.env.cells scope.names [])) s3.heap.objs.size X.env = ce at I4 pg pk pe ⊢
  have cL : ce.locals = s3.heap.objs.size := by subst hce; rfl
  generalize hs4 : ({ s3 with heap := pushCells (s3.heap.push { cls := .type "dict", data := .dict #[] }) scope.names } : Shared) = s4 at I4 ⊢
  have st4 : tn 0 s4.heap := T.keep _ _ _ st3 fun b _ o e => by rw [← hs4]; exact pushCells_keeps _ _ _ _ (Heap.get?_push_of_some _ (by rw [h3]; exact e))
  have stat : ∀ {σ' : L2.St} {H' : Hp} {s' : Shared}, Inv (X.blk s3 H3 scope ce fp) [] σ' H' s' → (∀ b ∈ fp, H' b = none) → ∀ b ∈ fp, FpOk (X.blk s3 H3 scope ce fp) [] H' b := fun {σ' H' s'} I' hn b hb =>
    ⟨hn b hb, (I'.ok.exf b hb).1, I'.ok.exfs b hb, .inl hb, fun x c e => (I'.ok.exf b hb).2 x c e, fun p hp => absurd (show p ∈ ([] : List (Addr × Obj)) ++ [] from hp) (by simp)⟩
  have loop : codeAny (model X.prog X.w) X.A (.compLoop (.DictComp kx vx [⟨tg, iter, [], 0⟩] scope pos) 0 (.ref it) (.ref D) ce) (compPost (model X.prog X.w) X.A X.xe use Qf (.ref D) s3.heap.objs.size) s4 := by
    refine compLoop_anyD (fun n s' => ∃ i H', Inv (X.blk s3 H3 scope ce fp) [] (wipe σ (own.map (·.2))) H' s' ∧ tn i s'.heap ∧ (∀ b ∈ fp, H' b = none) ∧ Wd i n H') ?_ m0 ⟨0, H3, I4, st4, nfp, w0⟩
    rintro n s5 ⟨i, H5, I5, st5, n5, w5⟩
    rcases turn i n H5 w5 with ⟨stop, qq⟩ | ⟨go, Nx, hNx, step⟩
    · refine thnF (T.done (X.blk s3 H3 scope ce fp) rfl rfl rfl hc i [] s5 _ H5 (fun _ _ => False) I5 (stat I5 n5) st5 stop) fun r s6 ⟨hr, I6⟩ => ?_
      subst hr
      have I7 : Inv X pins σ H5 s6 := I3.call' (ch := fp) I6.os I6.base I6.hok I6.bare fun b hb => ⟨(f3 b hb).1.2.2.2.1, (f3 b hb).1.2.1, (f3 b hb).1.2.2.2.2.1, (f3 b hb).1.2.2.2.2.2⟩
      have nC : H5 ce.locals = none := I6.free
      obtain ⟨m, hn, _⟩ := I6.loc
      have hn : s6.heap.Ns ce.locals m := hn
      rw [cL] at hn nC
      exact hRR D s3.heap.objs.size s6 m H5 I7 qq hn (I3.fpOk (Nat.le_refl _) nC)
    · refine thnF (T.item (X.blk s3 H3 scope ce fp) rfl rfl rfl hc i [] s5 _ H5 (fun _ _ => False) I5 (stat I5 n5) st5 go) fun r s6 ⟨u, hr, h6⟩ => ?_
      subst hr
      refine thnF h6 fun _ s7 ⟨x, H7, I7, r7, y7, st7, n7⟩ => ?_
      refine thnF (pg.run _ s7 _ H7 x u _ (I7.pinned (stat I7 n7) (T.obj _ _ st7)) r7 (step x H7 y7)) fun _ s8 ⟨σ8, H8, I8, hw8, q8⟩ => ?_
      refine wpAny_tests_nil ?_
      simp only [if_true]
      refine thnF (pk.run _ s8 σ8 H8 _ I8 q8) fun z s10 ⟨yk, H10, I10, r10, q10⟩ => ?_
      refine thnF (pe.run _ s10 σ8 H10 _ I10 q10) fun z2 s11 ⟨yv, H11, I11, r11, B, kvs, kd, vd, ob, hkk, hll, rk, rv, nx⟩ => ?_
      refine dset_any (X := X.blk s3 H3 scope ce fp) hu I11 ob hkk hll rk r10 rv r11 fun s12 o I12 ob12 => ?_
      obtain ⟨m', hm, w'⟩ := hNx _ (nx o ob12)
      have pin' : ∀ b ∈ fp, ∀ o', s7.heap.get? b = some o' → s12.heap.get? b = some o' ∧ (upd H11 D (exO D o)) b = none := fun b hb o' e =>
        let z := I12.pin (b, o') (List.mem_append_right _ (List.mem_append_right _ (mem_pinsAt hb e)))
        ⟨z.1, z.2.1⟩
      have hl : (wipe σ (own.map (·.2))).length = σ8.length := by rw [← hw8, wipe_length]
      refine ⟨m', hm, i + 1, _, (I12.unpinned (pins := [])).weak hl (fun j v e => ?_), T.keep _ _ _ st7 fun b hb o' e => (pin' b hb o' e).1, fun b hb => ?_, w'⟩
      · rw [← hw8] at e
        exact (wipe_some e).1
      · obtain ⟨o', e, _⟩ := T.obj _ _ st7 b hb
        exact (pin' b hb o' e).2
  exact codeAny_compStart_dict loop (T.self X.A 0 _ _ _ st4 loop)
variable {kx vx tg iter : Expr} {scope : Scope} {own : List (Str × Nat)} {pos spos py : Pos} {wi : TI} {g : TG} {tk tv : TE} {i : Nat} {y : Str}
theorem pe_dcx (hu : X.A.units + 65 < cLine) (hc : X.calm = true) (hN : X.N.Nodup) (hi : PI X tg iter wi) (ok : BlkOk X.N X.env.scope scope own)
    (hg : ∀ (s : Shared) (H : Hp) (C : Addr) (cl : List (Str × Addr)) (fp : List Addr), PG (X.blk s H scope (compEnvC scope cl C X.env) fp) tg g)
    (hk : ∀ (s : Shared) (H : Hp) (C : Addr) (cl : List (Str × Addr)) (fp : List Addr), PE (X.blk s H scope (compEnvC scope cl C X.env) fp) kx tk)
    (he : ∀ (s : Shared) (H : Hp) (C : Addr) (cl : List (Str × Addr)) (fp : List Addr), PE (X.blk s H scope (compEnvC scope cl C X.env) fp) vx tv) (hs : ∀ x, foldedSetIterable iter X.env x = pure x := by intro _; rfl) :
    PE X (.DictComp kx vx [⟨tg, iter, [], 0⟩] scope pos) (tDcx X.prog X.w X.K wi g tk tv (own.map (·.2))) := by
  refine ⟨fun pins s σ H Q I h => ?_⟩
  rw [arm_eval_DictComp]
  refine dcx_core hu hc hN hi ok hg hk he hs I h fun D C s' m H' I' q hn f => ⟨m, hn, fun h'' sb => ?_⟩
  obtain ⟨f0, f1, f2, f3, f4, f5⟩ := f
  exact ⟨.ref D, H', I'.turned (t' := s'.toks) (fun b o hb e => (sb.2 b hb).trans e) f0 f1 f3 f4 f5, rfl, q⟩
/-- y = {..} on one line, y a local -/
theorem ps_setDcx (hu : X.A.units + 65 < cLine) (hc : X.calm = true) (hN : X.N.Nodup) (hy : X.N[i]? = some y) (hyl : X.env.scope.names.lookup y = some .local) (hsw : swapsWith (.DictComp kx vx [⟨tg, iter, [], 0⟩] scope pos) (some (.Name y py)) spos.line X.env = pure true) (hi : PI X tg iter wi) (ok : BlkOk X.N X.env.scope scope own)
    (hg : ∀ (s : Shared) (H : Hp) (C : Addr) (cl : List (Str × Addr)) (fp : List Addr), PG (X.blk s H scope (compEnvC scope cl C X.env) fp) tg g)
    (hk : ∀ (s : Shared) (H : Hp) (C : Addr) (cl : List (Str × Addr)) (fp : List Addr), PE (X.blk s H scope (compEnvC scope cl C X.env) fp) kx tk)
    (he : ∀ (s : Shared) (H : Hp) (C : Addr) (cl : List (Str × Addr)) (fp : List Addr), PE (X.blk s H scope (compEnvC scope cl C X.env) fp) vx tv) (hs : ∀ x, foldedSetIterable iter X.env x = pure x := by intro _; rfl) :
    PS X (.Assign [.Name y py] (.DictComp kx vx [⟨tg, iter, [], 0⟩] scope pos) spos) (tAsg (tDcx X.prog X.w X.K wi g tk tv (own.map (·.2))) (gName i)) := by
  refine ⟨fun pins s σ H D I h => ?_⟩
  rw [exec_Assign_Name_used _ _ _ _ hsw]
  refine wpAny_bind (wpAny_standAt (wpAny_bind ?_))
  show wpAny _ X.A (do let _ ← comprehension (.DictComp kx vx [⟨tg, iter, [], 0⟩] scope pos) scope X.env (firstIterPos [⟨tg, iter, [], 0⟩] pos) newDict false (eval iter X.env) (some (assign (.Name y py) X.env))) _ _ s
  have h : tDcx X.prog X.w X.K wi g tk tv (own.map (·.2)) σ H (fun x H1 => gName i x σ H1 D.nx) := h
  refine wpAny_bind (thn (dcx_core (Qf := fun _ s' => SP X pins D .next s') hu hc hN hi ok hg hk he hs I h fun L C s' m H' I' q hn f => ?_) fun _ s' hq => wpAny_pure (wpAny_pure hq))
  show wpAny _ _ (assign (.Name y py) X.env (.ref L)) _ _ _
  refine wpAny_assign_Name (store_ok2 (v := V.ref L) I' hN hy (.inl hyl) rfl (fun s2 I2 ⟨a, sb, ha⟩ => ?_) (.inr hyl))
  obtain ⟨f0, f1, f2, f3, f4, f5⟩ := f
  have haC : C ≠ a := by
    rcases ha with z | z
    · rw [z]; exact f1
    · exact fun e => f4 y a z e.symm
  exact ⟨m, hn.sameBut sb haC, fun h3 sb3 => ⟨_, H', I2.turned (t' := s2.toks) (fun b o hb e => (sb3.2 b hb).trans e) f0 f1 f3 f4 f5, q⟩⟩
theorem swd_true {gs : List Comprehension} {l : Nat} {env : Env} (hk : env.scope.kind = .function) (hy : env.scope.names.lookup y = some .local) (hl : (py.line == pos.line) = true) (ha : (scope.names.any fun (n, k) => n == y && (k == .local || k == .cell)) = false) :
    swapsWith (.DictComp kx vx gs scope pos) (some (.Name y py)) l env = pure true := by
  have ky : env.kindOf y = some .local := hy
  have hb : env.blockKind = .function := by unfold Env.blockKind; rw [hk]; rfl
  unfold swapsWith
  simp only [hb, ky, ha, Expr.pos, hl]
  rfl
end
end Dc
end
section
set_option Elab.async false
set_option linter.all false
set_option maxRecDepth 100000
set_option maxHeartbeats 4000000
namespace Dc
open PySem PySem.Spec PyProof.Rows L2
section
variable {X : Cx} {Wd : WD} {F : Fl} {pos : Pos}
/-- an object aside, not ours, changes -/
theorem RelH.asideX {P : Program} {w : World} {K : PySem.W.Frag} {B : List Addr} {h : Hh} {H : Hp} {d : Addr} {o1 : Obj} {o : HO} (x : RelH P w K B h H) (hd : d ∉ B) (e : H d = some (exO d o1)) : RelH P w K B h (upd H d o) ∧ Grow B H B (upd H d o) := by
  have g : Grow B H B (upd H d o) := ⟨⟨[], by simp⟩, fun a ys q => by rw [upd_ne (ne_of q e fun z => by cases z)]; exact q, fun a o' u q => by rw [upd_ne (ne_of q e fun z => by cases z)]; exact q⟩
  refine ⟨⟨x.nd, x.len, fun i u a e1 e2 => (x.ob i u a e1 e2).grow g (upd_ne fun z => hd ?_)⟩, g⟩
  rw [← z]
  exact List.mem_of_getElem? e2
/-- any walk, an invariant by turns -/
theorem dc_it {J : It} {n : Nat} {G : Hp → Prop} {Y : Nat → Hp → V → Hp → Prop} (wk : Walk J n G Y) {Qd : Hp → Prop} {St : V → Hp → (Hp → Prop) → Prop} {H0 : Hp} (Pv : Nat → Hp → Prop) (h0 : Pv 0 H0) (hl : ∀ i H, i ≤ n → Pv i H → G H)
    (hs : ∀ i x H H', i < n → Pv i H → Y i H x H' → St x H' (Pv (i + 1))) (hd : ∀ H, Pv n H → Qd H) :
    ∃ W : Nat → Nat → Hp → Prop, (∃ m, W 0 m H0) ∧ ∀ i m H, W i m H → (J.stop i H ∧ Qd H) ∨ (J.go i H ∧ ∃ Nx : Hp → Prop, (∀ H', Nx H' → ∃ m', m' < m ∧ W (i + 1) m' H') ∧ ∀ x H', J.yld i H x H' → St x H' Nx) := by
  refine ⟨fun i m H => m = n - i ∧ i ≤ n ∧ Pv i H, ⟨n, by simp, Nat.zero_le _, h0⟩, ?_⟩
  rintro i m H ⟨rfl, hi, p⟩
  have q := hl i H hi p
  by_cases hlt : i < n
  · exact .inr ⟨wk.goes i H hlt q, Pv (i + 1), fun H' p' => ⟨n - (i + 1), by omega, rfl, hlt, p'⟩, fun x H' y => hs i x H H' hlt p (wk.yields i H x H' hlt q y)⟩
  · have e : i = n := by omega
    subst e
    exact .inl ⟨wk.stops H q, hd H p⟩
variable {kx vx tg iter : Expr} {scope : Scope} {own : List (Str × Nat)}
theorem dc_pre {it : IM} {wi : TI} {T : Tg} {tk tv : Fl → EM} {σ : L2.St} {H : Hp} {Q : VK} {B : List Addr} {r : Ev} {h : Hh} {Goal : Prop}
    (ki : ∀ (σ : L2.St) (H : Hp) (R : It → Hp → Prop) (B : List Addr) (r : Ev) (h : Hh), RelE X.K B H r σ → RelH X.prog X.w X.K B h H →
  (match it r h with
    | .ok (ds, l) h1 => ∀ B1 H1 J, Step F B H B1 H1 → RelH X.prog X.w X.K B1 h1 H1 → GW X.prog X.w X.K (F.lock l) B1 H1 ds J → R J H1
    | .exc c h1 => ∀ B1 H1, Step F B H B1 H1 → RelH X.prog X.w X.K B1 h1 H1 → Wd c σ H1
    | .bad => False) → wi σ H R) (hE : RelE X.K B H r σ) (hH : RelH X.prog X.w X.K B h H) (hv : ∀ i ∈ T.slots, i ∈ own.map (·.2)) (p : Post X.prog X.w X.K Wd F (RpD X.K) B H σ (xDc F (own.map (·.2)) it T tk tv r h) Q)
    (run : ∀ l : Option Nat, tDcx X.prog X.w X.K wi (tgT X.K T) (tD X.prog X.w X.K W0 (F.lock l) (tk (F.lock l))) (tD X.prog X.w X.K W0 (F.lock l) (tv (F.lock l))) (own.map (·.2)) σ H Q → Goal) : Goal := by
  unfold xDc at p
  cases em : it r h with
  | bad => rw [em] at p; exact p.elim
  | exc c h1 =>
    rw [em] at p
    refine run none (ki σ H _ B r h hE hH ?_)
    rw [em]
    exact p
  | ok dl h1 =>
    obtain ⟨ds, l⟩ := dl
    rw [em] at p
    refine run l (ki σ H _ B r h hE hH ?_)
    rw [em]
    intro B1 H1 J s1 r1 gw D0 hD hsys
    have p1 := Post.later s1 p
    obtain ⟨G, Y, wk, gG, gY⟩ := gw
    have nB : D0 ∉ B1 := fun z => r1.ne z hD rfl
    have eE := hE.step s1
    refine dc_it (Qd := fun H => Q (.ref D0) H) wk (fun i H => ∃ B h acc o, Step (F.lock l) B1 H1 B H ∧ RelH X.prog X.w X.K B h H ∧ H D0 = some (exO D0 o) ∧ ObRep X.prog X.w X.K B H D0 (.dct acc) ∧ D0 ∉ B ∧
        Post X.prog X.w X.K Wd F (RpD X.K) B1 H1 σ ((dcL T (tk (F.lock l)) (tv (F.lock l)) (wipeE r (own.map (·.2))) (ds.drop i) acc h).bind fun kvs h2 => .ok (.ref h2.length) (h2 ++ [.dct kvs])) Q)
      ⟨B1, h1, [], newD, step_new r1 hD, r1.new hD, upd_same, newD_rep hsys upd_same, nB, by rw [List.drop_zero]; exact p1⟩ (fun i H _ ⟨B, h, _, _, s, _⟩ => gG B H s.stay) (fun i x H H' hlt pv y => ?_) (fun H pv => ?_)
    · obtain ⟨B, h, acc, o, s, xr, hDa, oa, nD, q⟩ := pv
      obtain ⟨s3, x3, d, ed, rd⟩ := gY i H x H' B h hlt s.stay xr y
      replace s3 : Step (F.lock l) B H B H' := s3.all
      have ec : ds.drop i = d :: ds.drop (i + 1) := by rw [List.drop_eq_getElem_cons hlt, (List.getElem?_eq_some_iff.mp ed).2]
      rw [ec] at q
      unfold dcL at q
      have sA := s.trans s3
      have hDa3 := s3.oth D0 _ nD hDa
      have oa3 := oa.step s3 (hDa3.trans hDa.symm)
      cases et : T.put d (wipeE r (own.map (·.2))) with
      | none => rw [et] at q; exact q.elim
      | some r2 =>
        rw [et] at q
        dsimp only at q
        have e0 : RelE X.K B H' (wipeE r (own.map (·.2))) (L2.wipe σ (own.map (·.2))) := (eE.step sA).wipe _
        refine tgT_sem T B H' _ r2 _ d x _ e0 rd et fun σ2 e1 we => ⟨wipe_wipe hv we, B, r2, h, e1, x3, ?_⟩
        cases etk : tk (F.lock l) r2 h with
        | bad => rw [etk] at q; exact q.elim
        | exc c h2 => rw [etk] at q; exact q.elim
        | ok kd h2 =>
          rw [etk] at q
          dsimp only at q
          intro B4 yk H4 st4 xr4 rk
          have hDb := st4.oth D0 _ nD hDa3
          have oa4 := oa3.step st4 (hDb.trans hDa3.symm)
          have nD4 : D0 ∉ B4 := by
            obtain ⟨t, rfl, ht⟩ := st4.pre
            intro z
            rcases List.mem_append.mp z with z | z
            · exact nD z
            · rw [ht D0 z] at hDa3; cases hDa3
          refine ⟨B4, r2, h2, e1.step st4, xr4, ?_⟩
          cases etv : tv (F.lock l) r2 h2 with
          | bad => rw [etv] at q; exact q.elim
          | exc c h4 => rw [etv] at q; exact q.elim
          | ok vd h4 =>
            rw [etv] at q
            dsimp only at q
            intro B5 yv H5 st5 xr5 rv
            have hDc := st5.oth D0 _ nD4 hDb
            have oa5 := oa4.step st5 (hDc.trans hDb.symm)
            have nD5 : D0 ∉ B5 := by
              obtain ⟨t, rfl, ht⟩ := st5.pre
              intro z
              rcases List.mem_append.mp z with z | z
              · exact nD4 z
              · rw [ht D0 z] at hDb; cases hDb
            split at q
            · rename_i hkk
              rw [Bool.and_eq_true, decide_eq_true_eq] at hkk
              refine ⟨B5, acc, kd, vd, oa5, hkk.1, hkk.2, rk.step st5, rv, fun o' ob' => ?_⟩
              obtain ⟨xr6, g6⟩ := xr5.asideX (o := exO D0 o') nD5 hDc
              exact ⟨B5, h4, dput acc kd vd, o', Step.aside r1 ((sA.trans st4).trans st5) hD, xr6, upd_same, ob', nD5, q⟩
            · exact q.elim
    · obtain ⟨B, h, acc, o, s, xr, hDa, oa, nD, q⟩ := pv
      rw [List.drop_length] at q
      have q : Post X.prog X.w X.K Wd F (RpD X.K) B1 H1 σ (.ok (.ref h.length) (h ++ [.dct acc])) Q := q
      have sF : Step F B1 H1 B H := s.unlock
      have g : Grow B H (B ++ [D0]) H := ⟨⟨[D0], rfl⟩, fun _ _ h => h, fun _ _ _ h => h⟩
      refine q (B ++ [D0]) (.ref D0) H ⟨?_, sF.tup, sF.frz, sF.keep, sF.oth, sF.dom⟩ ⟨?_, by simp [xr.len], fun i o' a e1 e2 => ?_⟩ (.ref (by simp [xr.len]))
      · obtain ⟨t, rfl, ht⟩ := sF.pre
        exact ⟨t ++ [D0], by simp, fun a ha => by
          rcases List.mem_append.mp ha with ha | ha
          · exact ht a ha
          · simp at ha; subst ha; exact hD⟩
      · rw [List.nodup_append]
        exact ⟨xr.nd, by simp, fun a ha b hb => by simp at hb; subst hb; exact fun z => nD (z ▸ ha)⟩
      · by_cases hi : i < B.length
        · rw [List.getElem?_append_left (by rw [xr.len]; exact hi)] at e1
          rw [List.getElem?_append_left hi] at e2
          exact (xr.ob i o' a e1 e2).grow g rfl
        · have e : i = B.length := by
            have := (List.getElem?_eq_some_iff.mp e2).1
            simp at this; omega
          subst e
          rw [List.getElem?_append_right (Nat.le_of_eq xr.len)] at e1
          rw [List.getElem?_append_right (Nat.le_refl _)] at e2
          simp [xr.len] at e1 e2
          subst e1; subst e2
          exact oa.grow g rfl
theorem de_dc {it : IM} {T : Tg} {tk tv : Fl → EM} (hu : X.A.units + 65 < cLine) (hc : X.calm = true) (hN : X.N.Nodup) (hi : DI X Wd F tg iter it) (ok : BlkOk X.N X.env.scope scope own) (hv : ∀ i ∈ T.slots, i ∈ own.map (·.2))
    (hg : ∀ (s : Shared) (H : Hp) (C : Addr) (cl : List (Str × Addr)) (fp : List Addr), DG (X.blk s H scope (compEnvC scope cl C X.env) fp) tg T)
    (hk : ∀ (s : Shared) (H : Hp) (C : Addr) (cl : List (Str × Addr)) (fp : List Addr) (F' : Fl), DE (X.blk s H scope (compEnvC scope cl C X.env) fp) W0 F' kx (tk F'))
    (he : ∀ (s : Shared) (H : Hp) (C : Addr) (cl : List (Str × Addr)) (fp : List Addr) (F' : Fl), DE (X.blk s H scope (compEnvC scope cl C X.env) fp) W0 F' vx (tv F')) (hs : ∀ x, foldedSetIterable iter X.env x = pure x := by intro _; rfl) :
    DE X Wd F (.DictComp kx vx [⟨tg, iter, [], 0⟩] scope pos) (xDc F (own.map (·.2)) it T tk tv) := by
  obtain ⟨wi, hi, ki⟩ := hi
  refine ⟨fun pins s σ H Q I q => ?_⟩
  obtain ⟨B, r, h, hE, hH, p⟩ := q
  exact dc_pre ki hE hH hv p fun l => (pe_dcx (kx := kx) (vx := vx) (pos := pos) (g := tgT X.K T) (tk := tD X.prog X.w X.K W0 (F.lock l) (tk (F.lock l))) (tv := tD X.prog X.w X.K W0 (F.lock l) (tv (F.lock l))) hu hc hN hi ok hg (fun s H C cl fp => hk s H C cl fp (F.lock l)) (fun s H C cl fp => he s H C cl fp (F.lock l)) hs).run pins s σ H Q I
theorem ds_setDc {i : Nat} {y : Str} {py spos : Pos} {it : IM} {T : Tg} {tk tv : Fl → EM} (hu : X.A.units + 65 < cLine) (hc : X.calm = true) (hN : X.N.Nodup) (hi : DI X Wd F tg iter it) (ok : BlkOk X.N X.env.scope scope own) (hv : ∀ i ∈ T.slots, i ∈ own.map (·.2))
    (hg : ∀ (s : Shared) (H : Hp) (C : Addr) (cl : List (Str × Addr)) (fp : List Addr), DG (X.blk s H scope (compEnvC scope cl C X.env) fp) tg T)
    (hk : ∀ (s : Shared) (H : Hp) (C : Addr) (cl : List (Str × Addr)) (fp : List Addr) (F' : Fl), DE (X.blk s H scope (compEnvC scope cl C X.env) fp) W0 F' kx (tk F'))
    (he : ∀ (s : Shared) (H : Hp) (C : Addr) (cl : List (Str × Addr)) (fp : List Addr) (F' : Fl), DE (X.blk s H scope (compEnvC scope cl C X.env) fp) W0 F' vx (tv F')) (hy : X.N[i]? = some y := by rfl) (hyl : X.env.scope.names.lookup y = some .local := by rfl)
    (hsw : swapsWith (.DictComp kx vx [⟨tg, iter, [], 0⟩] scope pos) (some (.Name y py)) spos.line X.env = pure true := by exact swd_true rfl rfl rfl (by decide +kernel)) (hs : ∀ x, foldedSetIterable iter X.env x = pure x := by intro _; rfl) :
    DS X Wd F (.Assign [.Name y py] (.DictComp kx vx [⟨tg, iter, [], 0⟩] scope pos) spos) (bAsg (xDc F (own.map (·.2)) it T tk tv) (.one i)) := by
  obtain ⟨wi, hi, ki⟩ := hi
  refine ⟨fun pins s σ H D I q => ?_⟩
  have q2 := of_sem (Q := fun v H1 => D.nx (σ.set i (some v)) H1) q fun d r h B v H1 hE hH hr p => p.nxt (hE.put hr) hH
  obtain ⟨B, r, h, hE, hH, p⟩ := q2
  exact dc_pre ki hE hH hv p fun l => (ps_setDcx (kx := kx) (vx := vx) (pos := pos) (g := tgT X.K T) (tk := tD X.prog X.w X.K W0 (F.lock l) (tk (F.lock l))) (tv := tD X.prog X.w X.K W0 (F.lock l) (tv (F.lock l))) hu hc hN hy hyl hsw hi ok hg (fun s H C cl fp => hk s H C cl fp (F.lock l)) (fun s H C cl fp => he s H C cl fp (F.lock l)) hs).run pins s σ H D I
end
end Dc
end
section
set_option Elab.async false
set_option linter.all false
set_option maxRecDepth 100000
set_option maxHeartbeats 4000000
/-! list(d), sorted(text), text.index(sign). -/
namespace Dc
open PySem PySem.Spec PyProof.Rows L2
/-- list(x) of a list, a tuple or a dict -/
def fListA (ds : List D) (h : Hh) : Rs D := match ds with
  | [.ref j] => (match h[j]? with
    | some (.lst xs) => .ok (.ref h.length) (h ++ [.lst xs])
    | some (.dct kvs) => .ok (.ref h.length) (h ++ [.lst (kvs.map (·.1))])
    | none => .bad)
  | _ => fListOf ds h
section
variable {X : Cx} {F : Fl}
theorem reps_of_at {K : PySem.W.Frag} {B : List Addr} {H : Hp} : ∀ {ds : List D} {us : List Value}, ds.length = us.length → (∀ (j : Nat) (d : D) (u : Value), ds[j]? = some d → us[j]? = some u → StD K B H u d) → W.EachIs (StD K B H) us ds
  | [], [], _, _ => .nil
  | [], _ :: _, h, _ => by simp at h
  | _ :: _, [], h, _ => by simp at h
  | d :: ds, u :: us, h, f => .cons (f 0 d u rfl rfl) (reps_of_at (by simpa using h) fun j y w h1 h2 => f (j + 1) y w (by simpa using h1) (by simpa using h2))
theorem crd_listA (hc : X.calm = true) : CallR X (.type "list") (rAbsC X.prog X.w X.K F fListA) := by
  intro pins s σ H xs us Q I rs ⟨Wd, σ0, B, h, ds, xh, rr, p⟩
  unfold fListA at p
  split at p
  · rename_i j
    cases rr with
    | cons r1 rn =>
      cases rn
      cases r1 with
      | @ref _ a hb =>
      obtain ⟨ob, ho, hr⟩ := xh.get hb
      rw [ho] at p
      cases ob with
      | lst zs =>
        obtain ⟨vs, h1, h2⟩ := hr
        refine call_list_of pins s σ H _ us Q I rs ⟨a, vs, rfl, .inl (SqL.of h1), fun q hq => ?_⟩
        have st : Step F B H (B ++ [q]) (upd H q (.lst vs)) := step_push xh hq
        exact p _ _ _ st (xh.push hq ⟨_, upd_same, h2.step st⟩) (.ref (by simp [xh.len]))
      | dct kvs =>
        obtain ⟨lo, hl, hn, o, es, ep, ys, h1, h2, h3, h4, h5⟩ := hr
        rw [Vals.ref1 rs]
        have ga : s.heap.get? a = some o := (I.hok a _ h1).1
        have sz : es.size = kvs.length := by rw [paired_len h4, ← Array.length_toList, h5, List.length_map]
        refine PySem.W.kdl_call (kdl_raw (prog := X.prog) (w := X.w) lo h2 h3) (I.ok.hd hc) ga (by rw [sz]; exact hl) fun h' tk acc' c' hkeep hS hacc => ?_
        have eI : W.EachIs (StD X.K B H) acc'.toList (kvs.map (·.1)) := by
          refine reps_of_at (by rw [List.length_map, ← sz, ← hacc.1]; rfl) fun i d u h1 h2 => ?_
          obtain ⟨en, e1, rfl⟩ := hacc.2 i u (by rw [← Array.getElem?_toList]; exact h2)
          have e2 : es.toList[i]? = some en := by simpa using e1
          rw [h5, List.getElem?_map] at e2
          obtain ⟨y, e3, rfl⟩ := Option.map_eq_some_iff.mp e2
          obtain ⟨kv, e4, z1, z2, z3, _⟩ := paired_at h4 e3
          rw [List.getElem?_map, e4] at h1
          cases h1
          exact ⟨.ref y.2.1, rfl, z3⟩
        obtain ⟨vs, rv, vy⟩ := of_each eI
        have fr : H s.heap.objs.size = none := I.hok.fresh (Nat.le_refl _)
        have st : Step F B H (B ++ [s.heap.objs.size]) (upd H s.heap.objs.size (.lst vs)) := step_push xh fr
        refine ⟨.ref s.heap.objs.size, _, I.laid (o := .lst vs) hkeep (Nat.le_refl _) ⟨?_, acc'.toList, c', vy, by rw [Array.toArray_toList]; exact hS⟩, rfl, p _ _ _ st (xh.push fr ⟨_, upd_same, rv.step st⟩) (.ref (by simp [xh.len]))⟩
        rw [vy.length, Array.length_toList, hacc.1, sz]; exact hl
  · exact crd_list pins s σ H xs us Q I rs ⟨Wd, σ0, B, h, ds, xh, rr, p⟩
/-! ### sorted(text) -/
theorem collect_text {prog : Program} {w : World} {A : Around} {E : Value → Shared → Prop} {s : Shared} {x : Str} {t : Tok} {Q : List Value → Shared → Prop} (hh : A.handled = none) (hn : x.cps.size ≤ sizeLine)
    (hQ : ∀ h' tk out, (∀ b o, s.heap.get? b = some o → h'.get? b = some o) → s.heap.objs.size ≤ h'.objs.size → out.length = x.cps.size → (∀ j u, out[j]? = some u → SignAt x j u) → Q out { s with heap := h', toks := tk }) :
    wpAny (model prog w) A (collect (.str x t)) Q E s := by
  unfold collect
  refine wpAny_bind (wpAny_runValue (codeAny_builtin F.entry_proto_collect ?_))
  rw [Around.under_plainId F.plain_proto_collect _]
  show wpAny _ A.in1 (newList [] >>= fun l => again (.builtin "list.__iadd__" ⟨[l, .str x t], []⟩)) _ _ s
  refine wpAny_bind (wpAny_newObj_type ?_)
  refine wpAny_pure ⟨plainId_quiet F.plain_list_iadd _, codeAny_builtin F.entry_list_iadd ?_⟩
  rw [Around.under_plainId F.plain_list_iadd _]
  have hS : (s.heap.push { cls := .type "list", data := .seq ([] : List Value).toArray }).get? s.heap.objs.size = some { cls := .type "list", data := .seq ([] : List Value).toArray } := Heap.get?_push_size _ rfl
  show wpAny _ A.in1 (Builtin.List.listExtendWith (.ref s.heap.objs.size) (.str x t) (.ref s.heap.objs.size)) _ _ _
  have fin : ∀ (r : Result) (s' : Shared), (∃ h' tk acc c, r = .ok (.ret (.ref s.heap.objs.size)) ∧ s' = { s with heap := h', toks := tk } ∧ (∀ b o, s.heap.get? b = some o → h'.get? b = some o) ∧ h'.get? s.heap.objs.size = some { cls := .type "list", dict := none, data := .seq acc c, slots := #[] } ∧ ItemsOf (SignAt x) acc x.cps.size) →
      (match r with
        | .ok (.ret v) => wpAny (model prog w) A (match v with
          | .ref a => do match (← load a).data with
            | .seq xs _ => pure xs.toList
            | _ => unsupported "internal:collect"
          | _ => unsupported "internal:collect") Q E s'
        | .ok _ => False
        | .error e => E e s') := fun r s' ⟨h', tk, acc, c, e1, e2, hk, hS', hacc⟩ => by
    subst e1 e2
    refine wpAny_bind (wpAny_load hS' (wpAny_pure ?_))
    exact hQ h' tk acc.toList hk (Nat.le_of_lt (Heap.lt_size hS')) (by rw [Array.length_toList]; exact hacc.1) fun j u e => hacc.2 j u (by rw [← Array.getElem?_toList]; exact e)
  refine wpAny_mono (wpAny_extend_str (s := { s with heap := s.heap.push { cls := .type "list", data := .seq ([] : List Value).toArray } }) (R := fun r s' => ∃ h' tk acc c, r = .ok (.ret (.ref s.heap.objs.size)) ∧ s' = { s with heap := h', toks := tk } ∧ (∀ b o, s.heap.get? b = some o → h'.get? b = some o) ∧ h'.get? s.heap.objs.size = some { cls := .type "list", dict := none, data := .seq acc c, slots := #[] } ∧ ItemsOf (SignAt x) acc x.cps.size)
    hh x t s.heap.objs.size (.ref s.heap.objs.size) 0 hS (fun h' tk acc c hk hS' hacc => ⟨h', tk, acc, c, rfl, rfl, fun b o e => hk b o (Nat.ne_of_lt (Heap.lt_size e)) (Heap.get?_push_of_some _ e), hS', hacc⟩) hn) (fun fn s' q => ?_) fun e s' q => ?_
  · cases fn with
    | done f => exact fin _ _ q
    | again c' => exact ⟨q.1, codeAny_mono q.2 fun r s' q => fin r s' q⟩
  · exact fin _ _ q
def fSortedA (ds : List D) (h : Hh) : Rs D := match ds with
  | [.str cs] => if cs.length ≤ lim then .ok (.ref h.length) (h ++ [.lst (isort leD (cs.map fun c => .str [c]))]) else .bad
  | _ => fSorted ds h
theorem crd_sortedA (hc : X.calm = true) (hu : X.A.units + 65 < cLine) : CallR X (.builtin "sorted") (rAbsC X.prog X.w X.K F fSortedA) := by
  intro pins s σ H xs us Q I rs ⟨Wd, σ0, B, h, ds, xh, rr, p⟩
  unfold fSortedA at p
  split at p
  · rename_i cs
    cases rr with
    | cons r1 rn =>
      cases rn
      cases r1 with
      | str ok =>
      split at p
      · rename_i hl
        cases rs with
        | cons ru rn =>
        cases rn
        obtain ⟨t, rfl⟩ := ru
        refine Calls.call_function_entry kind_sorted plain_sorted entry_sorted (args_sorted1 _) ?_
        unfold Builtin.«sorted»
        refine wpAny_bind (m := checkCount "sorted" 1 1 _) (wpAny_pure ?_)
        have hz : (⟨cs.toArray⟩ : Str).cps.size = cs.length := by show cs.toArray.size = _; simp
        refine wpAny_bind (collect_text (A := X.A.in1) (I.ok.hd hc) (by rw [hz, lim_eq]; exact hl) fun h' tk out k hsz lo sg => ?_)
        have eI : W.EachIs (StD X.K B H) out (cs.map fun c => D.str [c]) := by
          refine reps_of_at (by rw [List.length_map, lo, hz]) fun j d u e1 e2 => ?_
          obtain ⟨c, t', e3, rfl⟩ := sg j u e2
          have e4 : cs[j]? = some c := by simpa using e3
          rw [List.getElem?_map, e4] at e1
          cases e1
          exact ⟨.str ⟨#[c]⟩, ⟨t', rfl⟩, .str (by simpa using List.all_eq_true.mp ok c (List.mem_of_getElem? e4))⟩
        have ccl : ∀ d ∈ cs.map (fun c => D.str [c]), Cls 2 d := fun d hd => by
          obtain ⟨c, _, rfl⟩ := List.mem_map.mp hd
          exact .str _
        have lv : out.length ≤ sizeLine := by rw [lo, hz, lim_eq]; exact hl
        refine wpAny_bind (wpAny_newList ?_ lv)
        have I2 : Inv X pins σ H { s with heap := h', toks := tk } := I.kept k
        have kk : ∀ b o, s.heap.get? b = some o → (h'.push (seqObj "list" out.toArray 0)).get? b = some o := fun b o e => Heap.get?_push_of_some _ (k b o e)
        have hoL : (h'.push (seqObj "list" out.toArray 0)).get? h'.objs.size = some (seqObj "list" out.toArray 0) := Heap.get?_push_size _ rfl
        refine wpAny_bind (wpAny_holding (W.list_sort_data (s := { s with heap := h'.push (seqObj "list" out.toArray 0), toks := tk }) (R := StD X.K B H) (enc := pdat) (bs := cs.map fun c => D.str [c]) hoL eI (each_mono2 (fun u c hc st => ?_) eI) (Cls.alikeL ccl) (Cls.sortable ccl) (by rw [← eI.length]; exact lv) (fun c hc => by have := (ccl c hc).depth; show X.A.in1.units + 1 + _ < _; simp only [Around.in1_units]; omega) fun out2 lo2 eo => ?_))
        · obtain ⟨as, ra⟩ := st.reads I (ccl c hc).refless
          refine ⟨as, Reads.keeps kk ra, ?_⟩
          rw [reads_plain 2 c u as (ccl c hc).plain ra]
          exact fun z => nomatch z
        · rw [sort_dat (fun b => b) ccl] at eo
          obtain ⟨ys, ry, vy⟩ := of_each eo
          obtain ⟨cn, hcn⟩ := sortedHeap_at (vs := out) (out := out2.toArray) hoL
          have old : ∀ b u, h'.get? b = some u → (sortedHeap (h'.push (seqObj "list" out.toArray 0)) h'.objs.size out out2.toArray).get? b = some u := fun b u e => by
            have hlt := Heap.lt_size e
            rw [sortedHeap_old (Nat.ne_of_lt hlt) (by rw [size_push']; exact Nat.lt_succ_of_lt hlt)]
            exact Heap.get?_push_of_some _ e
          have ly : ys.length ≤ sizeLine := by rw [vy.length, lo2, ← eI.length]; exact lv
          have fr : H h'.objs.size = none := I2.hok.fresh (Nat.le_refl _)
          have st : Step F B H (B ++ [h'.objs.size]) (upd H h'.objs.size (.lst ys)) := step_push xh fr
          refine wpAny_pure ⟨_, rfl, .ref h'.objs.size, _, I2.laid (t' := tk) (o := .lst ys) old (Nat.le_refl _) ⟨ly, out2, cn, vy, hcn⟩, rfl, p _ _ _ st (xh.push fr ⟨_, upd_same, ry.step st⟩) (.ref (by simp [xh.len]))⟩
      · exact p.elim
  · exact crd_sorted (by omega) pins s σ H xs us Q I rs ⟨Wd, σ0, B, h, ds, xh, rr, p⟩
end
end Dc
end
section
set_option Elab.async false
set_option linter.all false
set_option maxRecDepth 100000
set_option maxHeartbeats 4000000
/-! sorted(xs, key=f), f(x) = x[0]; text.index(sign). -/
namespace Dc
open PySem PySem.Spec PyProof.Rows L2
section
variable {P : Program} {w : World} {K : PySem.W.Frag} {x qual y : Str} {params : Arguments} {scope : Scope} {f : Addr} {fd : FuncData} {p1 p2 p3 p4 : Pos} {j : Nat}
/-- a def whose body is «return y[0]», called over the raw state -/
theorem first_raw {A : Around} {s : Shared} {t : Addr} {items : Array Value} {v : Value} {k : Nat} (Fd : FunD K x qual params [.Return (some (.Subscript (.Name y p1) (.Constant (.int 0) j p2) p3)) p4] scope [] [] f fd) (S : FnScope [y] [y] scope)
    (hb : ∀ (s : Shared) (u : Value), BindsTo s fd ⟨[u], []⟩ [(y, u)]) (hr : Room k A) (KX : K.In s.heap) (lim : s.heap.NoLimit) (hloc : scope.names.lookup y = some .local) (hd1 : (y == ("__debug__" : Str)) = false)
    (hT : s.heap.IsTuple t items) (h0 : items[0]? = some v) : wpAny (model P w) A (call (.ref f) [.ref t]) (fun r s' => r = v ∧ ∃ h' tk, s' = { s with heap := h', toks := tk } ∧ ∀ b o, s.heap.get? b = some o → h'.get? b = some o) (fun _ _ => False) s := by
  obtain ⟨oc, od, dV, kV, doc, pm, an, cdv, ct, osl, rfl, lk, hcd, _, _⟩ := Fd.ex
  refine wpAny_call ?_
  have hkind : ∀ z ∈ [(y, Value.ref t)], scope.names.lookup z.1 = some .local ∨ (scope.names.lookup z.1 = some .cell ∧ ((cellsFrom (s.heap.objs.size + 1) scope.names []).lookup z.1).isSome = true) := fun z hz => by
    rw [List.mem_singleton.mp hz]; exact .inl hloc
  refine codeAny_call_function hr.depth (KX _ _ lk) rfl S.co S.gen rfl (PySem.W.codeRec_of KX hcd) (hb _ _ _ _ _ _ ?_)
  refine wpAny_newFunctionEnv_cells S.kind hkind fun env he s1 xx => ?_
  subst he
  refine ⟨lim.keeps xx.toInCall.keep, codeAny_func ?_⟩
  refine wpAny_execs_cons ?_
  refine wpAny_Return_some ?_
  obtain ⟨h1, tk1, rfl, k1⟩ := xx.done
  refine Subscript_ (wpAny_Name (ldLC (v := .ref t) xx S.kind hloc ?_ (wpAny_Constant_int ?_)) hd1)
  · show (if scope.names.lookup y = some .local then fun z => if z = y then some (Value.ref t) else none else fun _ => none) y = _
    rw [if_pos hloc, if_pos rfl]
  · have hT1 : IsTup h1 t items := by
      obtain ⟨o, ho, r⟩ := hT
      exact ⟨o, k1 _ _ ho, r⟩
    have hz : 0 < items.size := by
      rcases Nat.eq_zero_or_pos items.size with z | z
      · rw [Array.getElem?_eq_none (by omega)] at h0; cases h0
      · exact z
    refine subscriptTail_builtinR (x := v) hT1.typeIs slot_tuple_getitem.lookup (getItem_tuple (j := 0) (s := { s with heap := h1, toks := tk1 + 1 }) hT1 (by decide) (by decide) ?_ h0 ⟨rfl, rfl, h1, _, rfl, k1⟩) rfl
    rw [seqIndex_of (by decide) (by omega)]
    rfl
end
/-! ### sorted(xs, key=f) -/
def headD (d : D) : Option D := match d with
  | .tup (x :: _) => some x
  | _ => none
def headsD : List D → Option (List D)
  | [] => some []
  | d :: ds => match headD d, headsD ds with
    | some x, some xs => some (x :: xs)
    | _, _ => none
def hd0 (d : D) : D := (headD d).getD .non
theorem headsD_eq : ∀ {ds xs : List D}, headsD ds = some xs → xs = ds.map hd0 ∧ ∀ d ∈ ds, headD d = some (hd0 d)
  | [], xs, e => by cases e; exact ⟨rfl, fun _ h => nomatch h⟩
  | d :: ds, xs, e => by
    unfold headsD at e
    cases h1 : headD d with
    | none => rw [h1] at e; cases e
    | some x =>
      cases h2 : headsD ds with
      | none => rw [h1, h2] at e; cases e
      | some ys =>
        rw [h1, h2] at e
        cases e
        obtain ⟨h3, h4⟩ := headsD_eq h2
        have e0 : hd0 d = x := by unfold hd0; rw [h1]; rfl
        refine ⟨by rw [List.map_cons, e0, h3], fun z hz => ?_⟩
        rcases List.mem_cons.mp hz with e | hz
        · rw [e, h1, e0]
        · exact h4 z hz
def fSortKey (ds : List D) (h : Hh) : Rs D := match ds with
  | [d] => (match listOf d h with
    | some xs => (match headsD xs with
      | some ks => if okSort ks = true then .ok (.ref h.length) (h ++ [.lst (isort (fun a b => leD (hd0 a) (hd0 b)) xs)]) else .bad
      | none => .bad)
    | none => .bad)
  | _ => .bad
def xSortKey (m : AM) : EM := fun r h => (m r h).bind fun ds h1 => fSortKey ds h1
section
variable {X : Cx} {Wd : WD} {F : Fl} {x qual y : Str} {params : Arguments} {scope : Scope} {f : Addr} {fd : FuncData} {p1 p2 p3 p4 : Pos} {j : Nat}
def rSortKey (P : Program) (w : World) (K : PySem.W.Frag) (F : Fl) (f : Addr) : List V → List V → Hp → VK → Prop := fun xs zs H Q => zs = [.ref f] ∧ rAbsC P w K F fSortKey xs H Q
theorem crk_sortKey {k : Nat} (Fd : FunD X.K x qual params [.Return (some (.Subscript (.Name y p1) (.Constant (.int 0) j p2) p3)) p4] scope [] [] f fd) (S : FnScope [y] [y] scope) (hb : ∀ (s : Shared) (u : Value), BindsTo s fd ⟨[u], []⟩ [(y, u)]) (hr : Room (k + 2) X.A)
    (hloc : scope.names.lookup y = some .local) (hd1 : (y == ("__debug__" : Str)) = false) : CallRK X (.builtin "sorted") [Str.ofString "key"] (rSortKey X.prog X.w X.K F f) := by
  intro pins s σ H xs zs us ws Q I rs rz ⟨ez, Wd, σ0, B, h, ds, xh, rr, p⟩
  subst ez
  rw [Vals.ref1 rz]
  unfold fSortKey at p
  split at p
  · rename_i d
    cases rr with
    | cons r1 rn =>
      cases rn
      cases e : listOf d h with
      | none => rw [e] at p; exact p.elim
      | some zs =>
        rw [e] at p
        dsimp only at p
        cases eh : headsD zs with
        | none => rw [eh] at p; exact p.elim
        | some ks =>
          rw [eh] at p
          dsimp only at p
          split at p
          · rename_i ok
            obtain ⟨n, hcl⟩ := okSort_cls ok
            obtain ⟨ek, hk0⟩ := headsD_eq eh
            have ccl : ∀ b ∈ zs, Cls n (hd0 b) := fun b hb => hcl _ (by rw [ek]; exact List.mem_map.mpr ⟨b, hb, rfl⟩)
            have em : zs.map (fun b => pdat (hd0 b)) = ks.map pdat := by rw [ek, List.map_map]; rfl
            obtain ⟨a, vs, rfl, hq, h2⟩ := list_sem xh r1 e
            obtain ⟨its, rv, hl, hz⟩ := I.list hq
            rw [Vals.ref1 rs]
            have eI := each_of h2 rv
            show wpAny _ _ (call (.builtin "sorted") [.ref a] [(Str.ofString "key", .ref f)]) _ _ _
            refine W.sorted_key_data (R := StD X.K B H) (b := false) (fun b : D => pdat (hd0 b)) hl.isList eI (by rw [em]; exact Cls.alikeL hcl) (by rw [em]; exact Cls.sortable hcl) (by rw [h2.length]; exact hz) (fun b hb => by have := (ccl b hb).depth; have := hr.un; omega) (ksk_s1 _ _) (fun _ => ksk_l1 _ _) (fun _ => ksk_t1 _ _) (fun v b st hb' h1 tk kp => ?_) fun out c h' tk kp fr hD lo eo => ?_
            · obtain ⟨xv, rx, rb⟩ := st
              have hh := hk0 b hb'
              unfold headD at hh
              split at hh
              · rename_i x0 rest
                cases hh
                cases rb with
                | @tup ta us' _ hT hr' =>
                  cases hr' with
                  | @cons _ v0 _ vr r0 _ =>
                  obtain rfl : v = Value.ref ta := rx
                  obtain ⟨its', rv', pt, _⟩ := I.tuple hT
                  cases rv' with
                  | @cons _ u0 _ ur ru0 rur =>
                  have pt : s.heap.IsTuple ta (u0 :: ur).toArray := pt
                  have pt1 : h1.IsTuple ta (u0 :: ur).toArray := by
                    obtain ⟨o, ho, r⟩ := pt
                    exact ⟨o, kp _ _ ho, r⟩
                  have c0 := ccl _ hb'
                  obtain ⟨as, ra⟩ := StD.reads I (⟨v0, ru0, r0⟩ : StD X.K B H u0 x0) c0.refless
                  have ea := reads_plain 2 _ _ _ c0.plain ra
                  subst ea
                  refine wpAny_mono (first_raw (P := X.prog) (w := X.w) (A := X.A.in1.in1) (s := { s with heap := h1, toks := tk }) Fd S hb (Room.in1 (Room.in1 hr)) (I.kIn.keeps kp) (I.ok.mod.nolimit.keeps fun b o e => kp b o (I.bs b o e).1) hloc hd1 pt1 (v := u0) rfl) (fun r s' ⟨e1, h2', tk2, e2, k2⟩ => ?_) fun _ _ z => z
                  subst e1
                  exact ⟨h2', tk2, e2, k2, Reads.keeps (fun b o e => k2 b o (kp b o e)) ra⟩
              · cases hh
            · rw [sort_dat hd0 ccl] at eo
              obtain ⟨ys, ry, vy⟩ := of_each eo
              have fr' : H (s.heap.objs.size + 1) = none := I.hok.fresh (Nat.le_succ _)
              have st : Step F B H (B ++ [s.heap.objs.size + 1]) (upd H (s.heap.objs.size + 1) (.lst ys)) := step_push xh fr'
              refine ⟨.ref _, _, I.laid (t' := tk) (o := .lst ys) kp (Nat.le_succ _) ⟨?_, out, c, vy, hD⟩, rfl, p _ _ _ st (xh.push fr' ⟨_, upd_same, ry.step st⟩) (.ref (by simp [xh.len]))⟩
              rw [vy.length, lo, h2.length]; exact hz
          · exact p.elim
  · exact p.elim
theorem de_sortKey {a : Expr} {ma : EM} {k : Nat} {pf pos kpos p0 : Pos} (Fd : FunD X.K x qual params [.Return (some (.Subscript (.Name y p1) (.Constant (.int 0) j p2) p3)) p4] scope [] [] f fd) (S : FnScope [y] [y] scope) (hb : ∀ (s : Shared) (u : Value), BindsTo s fd ⟨[u], []⟩ [(y, u)]) (hr : Room (k + 2) X.A)
    (hm : X.mg "sorted" = none) (hf : X.mg x = some (.ref f)) (ha : DE X Wd F a ma) (hloc : scope.names.lookup y = some .local := by rfl) (hd1 : (y == ("__debug__" : Str)) = false := by decide) (hg : Gl X "sorted" := by rfl) (hgf : Gl X x := by rfl) (hdx : (x == ("__debug__" : Str)) = false := by decide)
    (na : starEach [a] X.env = (false, eval a X.env) :: starEach [] X.env := by rfl) (he : backTo pos (starEach [a] X.env) = (false, eval a X.env) :: backTo pos (starEach [] X.env) := by rfl) (hpl : (backTo pos (starEach [a] X.env)).any (·.1) = false := by rfl)
    (hks : (backToKw pos (keywordEach [⟨some "key", .Name x pf, kpos⟩] X.env)).filterMap (·.1) = [Str.ofString "key"] := by rfl) :
    DE X Wd F (.Call (.Name "sorted" p0) [a] [⟨some "key", .Name x pf, kpos⟩] pos) (xSortKey (xCons ma xNil)) := by
  have da : DA X Wd F [a] (xCons ma xNil) := da_cons ha da_nil na
  refine PE.imp (pe_callBK (crk_sortKey (F := F) Fd S hb hr hloc hd1) hg hm boot_sorted da.pa (pk_cons (pe_glob (v := .ref f) hgf hf rfl hdx) pk_nil) (by decide) (by decide) he hpl rfl rfl hks) fun σ H Q q => ?_
  obtain ⟨B, r, h, hE, hH, p⟩ := q
  exact ⟨B, r, h, hE, hH, Post.bind p fun ds h1 B1 vs H1 s1 x1 r1 q1 => ⟨rfl, Wd, σ, B1, h1, ds, x1, r1, q1⟩⟩
/-! ### text.index(sign) -/
def dots : List Nat := [49, 50, 51, 52, 53, 54]
def mIndex (d : D) (ds : List D) (h : Hh) : Rs D := match d, ds with
  | .str a, [.str [c]] => if a = dots ∧ 49 ≤ c ∧ c ≤ 54 then .ok (.int ((c - 49 : Nat) : Int)) h else .bad
  | _, _ => .bad
theorem occ_dots {c : Nat} (h1 : 49 ≤ c) (h2 : c ≤ 54) : Builtin.Str.occurrences ⟨dots.toArray⟩ ⟨[c].toArray⟩ 0 (⟨dots.toArray⟩ : Str).length 1 = [c - 49] := by
  have : c = 49 ∨ c = 50 ∨ c = 51 ∨ c = 52 ∨ c = 53 ∨ c = 54 := by omega
  rcases this with e | e | e | e | e | e <;> subst e <;> decide +kernel
theorem mt_index1 : MtR X "str.index" (rAbsM X.prog X.w X.K F mIndex) := by
  intro pins s σ H x xs v us Q I rx rs ⟨Wd, σ0, B, h, d, ds, xh, r1, r2, p⟩
  unfold mIndex at p
  split at p
  · rename_i a c
    cases r1 with
    | str ok1 =>
      cases r2 with
      | cons ry rn =>
        cases rn
        cases ry with
        | str ok2 =>
        split at p
        · rename_i hc
          obtain ⟨rfl, h1, h2⟩ := hc
          exact mt_sindex pins s σ H _ _ v us Q I rx rs ⟨_, _, c - 49, [], rfl, rfl, occ_dots h1 h2, p.now xh (.int _)⟩
        · exact p.elim
  · exact p.elim
end
end Dc
end
section
set_option Elab.async false
set_option linter.all false
set_option maxRecDepth 100000
set_option maxHeartbeats 4000000
/-! Defs that change their second argument, a list of data, and nothing else. -/
namespace Dc
open PySem PySem.Spec PyProof.Rows L2
abbrev flT (h : Hh) (t : Nat) : Fl := ⟨fun i => decide (h.length ≤ i) || decide (i = t)⟩
def townOf (ds : List D) : Option Nat := match ds with
  | _ :: .ref t :: _ => some t
  | _ => none
def flTs (ds : List D) (h : Hh) : Fl := match townOf ds with
  | some t => flT h t
  | none => flP h
/-- data without objects, or an object that stood before -/
def okT (h : Hh) (d : D) : Bool := match d with
  | .ref j => decide (j < h.length)
  | _ => refless d
def finT (h : Hh) (t : Nat) (o : Out) : Rs D := match o with
  | .rt d h' => if okT h d = true then (match h'[t]? with
    | some u => if obRefless u = true ∧ t < h.length then .ok d (h.set t u) else .bad
    | none => .bad) else .bad
  | _ => .bad
def runT (n : Nat) (mb : Fl → SM) : Fn := fun ds h => match townOf ds with
  | some t => finT h t (mb (flT h t) (startE n ds) h)
  | none => .bad
abbrev FnT (P : Program) (w : World) (K : PySem.W.Frag) (n : Nat) (m : Fn) (Ex : Nat → Value) : Sp := FnSpec P w K n flTs m Ex
section
variable {P : Program} {w : World} {K : PySem.W.Frag} {mg : Str → Option Value} {base : Heap} {x qual : Str} {params : Arguments} {body : List Stmt} {scope : Scope} {f : Addr} {fd : FuncData}
theorem okT_rep {B B' : List Addr} {H H' : Hp} {h : Hh} {d : D} {v : V} {F : Fl} (x : RelH P w K B h H) (s : Step F B H B' H') (r : Rep K B' H' d v) (e : okT h d = true) : Rep K B H' d v := by
  cases d with
  | ref j =>
    cases r with
    | ref hb =>
      obtain ⟨t, rfl, _⟩ := s.pre
      have hj : j < B.length := by rw [← x.len]; exact of_decide_eq_true e
      exact .ref (by rw [List.getElem?_append_left hj] at hb; exact hb)
  | _ => exact r.anyB e
theorem fin_town {B B' : List Addr} {H H' : Hp} {h h' : Hh} {d : D} {v : V} {t : Nat} {u : Ob} {Q : VK} (x : RelH P w K B h H) (s : Step (flT h t) B H B' H') (x' : RelH P w K B' h' H') (r : Rep K B' H' d v) (e1 : okT h d = true) (e2 : h'[t]? = some u) (e3 : obRefless u = true) (e4 : t < h.length)
    (p : ∀ B' v H', Step (flT h t) B H B' H' → RelH P w K B' (h.set t u) H' → Rep K B' H' d v → Q v H') : Q v H' := by
  have s2 : Step (flT h t) B H B H' := ⟨⟨[], by simp, by simp⟩, s.tup, s.frz, s.keep, s.oth, s.dom⟩
  refine p B v H' s2 ⟨x.nd, by rw [List.length_set]; exact x.len, fun i o a g1 g2 => ?_⟩ (okT_rep x s r e1)
  by_cases ht : i = t
  · subst ht
    rw [List.getElem?_set_self e4] at g1
    cases g1
    have g3 : B'[i]? = some a := s.grow.get g2
    exact (x'.ob i u a e2 g3).anyB e3
  · rw [List.getElem?_set_ne (Ne.symm ht)] at g1
    refine (x.ob i o a g1 g2).grow s2.grow (s.keep i a g2 ?_)
    have hi : i < h.length := (List.getElem?_eq_some_iff.mp g1).1
    show (decide (h.length ≤ i) || decide (i = t)) = false
    rw [decide_eq_false (by omega), decide_eq_false ht]; rfl
theorem fun_town {N ps : List Str} {k : Nat} {mb : Fl → SM} {Ex : Nat → Value} (Fd : FunD K x qual params body scope [] [] f fd) (S : FnScope N ps scope)
    (hb : ∀ (cdv : Value) (A : Around) (outer : List Env) (s : Shared) (H : Hp) (E : XK), Room k (A.deeper (envOfC qual scope s.heap.objs.size f cdv)) → ∀ F, DSs (cxOf CX0 P w K mg base N qual scope f cdv A outer s H E).nox W0 F body (mb F)) :
    FnOk P w K mg base CX0 (k + 1) f fd ps (FnT P w K ps.length (runT N.length mb) Ex) := by
  refine Fd.ok S (fun vs H Q E h => h.len) fun cdv A outer s H vs Q E hr hsp => ?_
  obtain ⟨B, ds, h, rs, xh, hl, p⟩ := hsp
  unfold runT flTs at p
  cases et : townOf ds with
  | none => rw [et] at p; exact p.elim
  | some t =>
    rw [et] at p
    dsimp only at p
    refine ⟨_, PSs.nox (hb cdv A outer s H E hr (flT h t)), B, startE N.length ds, h, relE_start rs, xh, ?_⟩
    show PostS P w K W0 (flT h t) B H (mb (flT h t) (startE N.length ds) h) _
    unfold finT at p
    cases em : mb (flT h t) (startE N.length ds) h with
    | rt d h1 =>
      rw [em] at p
      dsimp only at p
      by_cases e1 : okT h d = true
      · rw [if_pos e1] at p
        cases e2 : h1[t]? with
        | none => rw [e2] at p; exact p.elim
        | some u =>
          rw [e2] at p
          dsimp only at p
          by_cases e3 : obRefless u = true ∧ t < h.length
          · rw [if_pos e3] at p
            exact fun B' v H' s' x' r' => fin_town (Q := Q) xh s' x' r' e1 e2 e3.1 e3.2 p
          · rw [if_neg e3] at p; exact p.elim
      · rw [if_neg e1] at p; exact p.elim
    | nx r1 h1 => rw [em] at p; exact p.elim
    | bk r1 h1 => rw [em] at p; exact p.elim
    | ct r1 h1 => rw [em] at p; exact p.elim
    | ex c r1 h1 => rw [em] at p; exact p.elim
    | bad => rw [em] at p; exact p.elim
end
def xCallT (F : Fl) (m : Fn) (a : AM) : EM := fun r h => (a r h).bind fun ds h1 => match townOf ds with
  | some t => if F.may t = true then (match m ds h1 with
    | .ok d h2 => .ok d h2
    | _ => .bad) else .bad
  | none => .bad
section
variable {X : Cx} {W : WD} {F : Fl} {pos p : Pos} {e : Expr} {es : List Expr} {x : Str} {f : Addr} {fd : FuncData} {ps : List Str} {k : Nat} {m : Fn} {Ex : Nat → Value} {ma : AM}
theorem de_callT (G : FnOk X.prog X.w X.K X.mg X.base CX0 k f fd ps (FnT X.prog X.w X.K ps.length m Ex)) (hr : Room k X.A) (hm : X.mg x = some (.ref f)) (hk : PySem.W.keepIn X.K (.ref f) = true) (hb : Binds X.K fd ps []) (ha : DA X W F (e :: es) ma) (hg : Gl X x := by rfl) (hl : (e :: es).length = ps.length := by rfl)
    (hdb : (x == ("__debug__" : Str)) = false := by decide) (he : starEach (e :: es) X.env = (false, eval e X.env) :: starEach es X.env := by rfl) (hpl : (backTo pos (starEach es X.env)).any (·.1) = false := by rfl) :
    DE X W F (.Call (.Name x p) (e :: es) [] pos) (xCallT F m ma) :=
  PE.imp (pe_call G hr hg hm hk hb .nil pass0 ha.pa hdb he hpl) fun σ H Q q => by
    obtain ⟨B, r, h, hE, hH, q⟩ := q
    refine ⟨B, r, h, hE, hH, ?_⟩
    have ln := ha.len r h
    unfold xCallT at q
    cases ea : ma r h with
    | bad => rw [ea] at q; exact q
    | exc c h1 => rw [ea] at q; exact q
    | ok ds h1 =>
      rw [ea] at q
      intro B1 vs H1 s1 r1 p1
      have q1 : Post X.prog X.w X.K W F (RpD X.K) B1 H1 σ (match townOf ds with | some t => if F.may t = true then (match m ds h1 with | .ok d h2 => .ok d h2 | _ => .bad) else .bad | none => .bad) Q := Post.later s1 q
      refine ⟨B1, ds, h1, by simpa using p1, r1, (ln ds h1 ea).trans hl, ?_⟩
      unfold flTs
      cases et : townOf ds with
      | none => rw [et] at q1; exact q1.elim
      | some t =>
        rw [et] at q1
        dsimp only at q1
        split at q1
        · rename_i may
          cases em : m ds h1 with
          | bad => rw [em] at q1; exact q1
          | exc c h2 => rw [em] at q1; exact q1.elim
          | ok d h2 =>
            rw [em] at q1
            refine fun B2 v H2 s2 x2 r2 => q1 B2 v H2 (s2.of fun i hi hf => ?_) x2 r2
            show (decide (h1.length ≤ i) || decide (i = t)) = false
            have : i ≠ t := fun z => by rw [z, may] at hf; cases hf
            rw [decide_eq_false (by rw [r1.len]; omega), decide_eq_false this]; rfl
        · exact q1.elim
end
end Dc
end
section
set_option Elab.async false
set_option linter.all false
set_option maxRecDepth 100000
set_option maxHeartbeats 4000000
namespace Dc
open PySem PySem.Spec PyProof.Rows L2
/-- a, b, c = x, y, z -/
def bPar3 (i j l : Nat) (a b c : EM) : SM := fun r h => match xCons a (xCons b (xCons c xNil)) r h with
  | .ok [x, y, z] h1 => .nx (((r.set i (some x)).set j (some y)).set l (some z)) h1
  | .ok _ _ => .bad
  | .exc c h1 => .ex c r h1
  | .bad => .bad
section
variable {X : Cx} {W : WD} {F : Fl} {pos : Pos}
theorem ds_par3 {i j l : Nat} {x y z : Str} {a b c : Expr} {ma mb mc : EM} {px py pz pt : Pos} {kt k2 pt2} (hc : X.calm = true) (hN : X.N.Nodup) (ha : DE X W F a ma) (hb : DE X W F b mb) (hd : DE X W F c mc) (hi : X.N[i]? = some x := by rfl) (hj : X.N[j]? = some y := by rfl) (hl : X.N[l]? = some z := by rfl) (hij : i ≠ j := by decide) (hil : i ≠ l := by decide) (hjl : j ≠ l := by decide)
    (hx : X.env.scope.names.lookup x = some .local := by rfl) (hy : X.env.scope.names.lookup y = some .local := by rfl) (hz : X.env.scope.names.lookup z = some .local := by rfl)
    (hw : swappedStores [.Tuple [.Name x px, .Name y py, .Name z pz] kt pt] (.Tuple [a, b, c] k2 pt2) X.env = pure (some [x, y, z]) := by rfl)
    (hs : swapsWithSole [.Tuple [.Name x px, .Name y py, .Name z pz] kt pt] (.Tuple [a, b, c] k2 pt2) pos.line X.env = pure false := by rfl)
    (h1 : starEach (a :: [b, c]) X.env = (false, eval a X.env) :: starEach [b, c] X.env := by rfl) (h2 : starEach (b :: [c]) X.env = (false, eval b X.env) :: starEach [c] X.env := by rfl) (h3 : starEach (c :: []) X.env = (false, eval c X.env) :: starEach [] X.env := by rfl) :
    DS X W F (.Assign [.Tuple [.Name x px, .Name y py, .Name z pz] kt pt] (.Tuple [a, b, c] k2 pt2) pos) (bPar3 i j l ma mb mc) := by
  have da : DA X W F [a, b, c] (xCons ma (xCons mb (xCons mc xNil))) := da_cons ha (da_cons hb (da_cons hd da_nil h3) h2) h1
  refine PS.imp (ps_par3 hc hN hi hj hl hij hil hjl hx hy hz da.pa hw hs) fun D σ H q => ?_
  obtain ⟨B, r, h, hE, hH, p⟩ := q
  refine ⟨B, r, h, hE, hH, ?_⟩
  unfold bPar3 at p
  cases em : xCons ma (xCons mb (xCons mc xNil)) r h with
  | bad => rw [em] at p; exact p
  | exc c h1 => rw [em] at p; exact fun B1 H1 s1 r1 => p B1 σ H1 s1 (hE.step s1) r1
  | ok xs h1 =>
    rw [em] at p
    intro B1 vs H1 s1 r1 p1
    match xs, p1, p with
    | [x1, y1, z1], .cons q1 (.cons q2 (.cons q3 .nil)), p => exact ⟨_, _, _, rfl, p B1 _ H1 s1 ((((hE.step s1).put q1).put q2).put q3) r1⟩
    | [], _, p => exact p.elim
    | [_], _, p => exact p.elim
    | [_, _], _, p => exact p.elim
    | _ :: _ :: _ :: _ :: _, _, p => exact p.elim
end
end Dc
end
section
set_option Elab.async false
set_option linter.all false
set_option maxRecDepth 100000
set_option maxHeartbeats 4000000
/-! texts cut at a separator -/
namespace Dc
open PySem PySem.Spec PyProof.Rows L2 TL
def mSplit (d : D) (ds : List D) (h : Hh) : Rs D := match d, ds with
  | .str a, [.str b] => if b ≠ [] ∧ b.all (· < 256) = true ∧ a.length + 2 ≤ lim then .ok (.ref h.length) (h ++ [.lst ((spl b 0 [] a).map D.str)]) else .bad
  | _, _ => .bad
theorem spl_ok (S : List Nat) : ∀ (n : Nat) (acc r : List Nat), acc.all (· < 1114112) = true → r.all (· < 1114112) = true → ∀ c ∈ spl S n acc r, c.all (· < 1114112) = true
  | n, acc, [], h1, _ => by
    intro c hc
    have e : spl S n acc [] = [acc] := by cases n <;> rfl
    rw [e] at hc
    simp at hc
    subst hc
    exact h1
  | 0, acc, x :: r, h1, h2 => by
    intro c hc
    rw [List.all_cons, Bool.and_eq_true] at h2
    unfold spl at hc
    split at hc
    · rcases List.mem_cons.mp hc with e | e
      · subst e; exact h1
      · exact spl_ok S _ [] r rfl h2.2 c e
    · refine spl_ok S 0 _ r ?_ h2.2 c hc
      rw [List.all_append, h1]
      simpa using h2.1
  | k + 1, acc, x :: r, h1, h2 => by
    intro c hc
    rw [List.all_cons, Bool.and_eq_true] at h2
    unfold spl at hc
    exact spl_ok S k acc r h1 h2.2 c hc
section
variable {X : Cx} {W : WD} {F : Fl}
theorem reps_txts {K : PySem.W.Frag} {B : List Addr} {H : Hp} : ∀ {ts : List (List Nat)}, (∀ c ∈ ts, c.all (· < 1114112) = true) → Reps K B H (ts.map D.str) (ts.map fun c => V.str ⟨c.toArray⟩)
  | [], _ => .nil
  | t :: ts, h => .cons (.str (h t (by simp))) (reps_txts fun c hc => h c (by simp [hc]))
theorem mt_splitm : MtR X "str.split" (rAbsM X.prog X.w X.K F mSplit) := by
  intro pins s σ H x xs v us Q I rx rs ⟨W, σ0, B, h, d, ds, xh, r1, r2, p⟩
  unfold mSplit at p
  split at p
  · rename_i a b
    cases r1 with
    | str ok1 =>
      cases r2 with
      | cons ry rn =>
        cases rn
        cases ry with
        | str ok2 =>
          split at p
          · rename_i c
            have hy : tl (⟨b.toArray⟩ : Str) ≠ [] := by rw [tl_mk]; exact c.1
            have ha : (⟨b.toArray⟩ : Str).cps.all (· < 256) = true := by
              show b.toArray.all (· < 256) = true
              rw [List.all_toArray]
              exact c.2.1
            have e := split_spl (⟨a.toArray⟩ : Str) ⟨b.toArray⟩ hy (kind_ok ha)
            rw [tl_mk, tl_mk] at e
            have e2 : Txt.split (⟨a.toArray⟩ : Str) ⟨b.toArray⟩ = (spl b 0 [] a).map fun c => ⟨c.toArray⟩ := by
              rw [← e, List.map_map]
              have : ((fun c : List Nat => (⟨c.toArray⟩ : Str)) ∘ tl) = id := funext fun z => str_ext (by show tl (⟨(tl z).toArray⟩ : Str) = tl z; rw [tl_mk])
              rw [this, List.map_id]
            refine mt_split pins s σ H _ _ v us Q I rx rs ⟨_, _, rfl, rfl, ?_, ?_, ?_⟩
            · rw [str_len]
              cases b with
              | nil => exact absurd rfl c.1
              | cons z zs => rfl
            · rw [str_len, lim_eq]; exact c.2.2
            · intro q hq
              rw [e2, List.map_map]
              have st := step_push (F := F) (o := .lst ((spl b 0 [] a).map fun c => V.str ⟨c.toArray⟩)) xh hq
              exact p (B ++ [q]) (.ref q) _ st (xh.push hq ⟨_, upd_same, reps_txts (spl_ok b 0 [] a rfl ok1)⟩) (.ref (by rw [xh.len]; simp))
          · exact p.elim
  · exact p.elim
end
end Dc
end
section
set_option Elab.async false
set_option linter.all false
set_option maxRecDepth 100000
set_option maxHeartbeats 4000000
/-! str of a digit, int of a digit -/
namespace Dc
open PySem PySem.Spec PyProof.Rows L2 TL
def fStr (ds : List D) (h : Hh) : Rs D := match ds with
  | [.int i] => if 0 ≤ i ∧ i < 10 then .ok (.str [48 + i.toNat]) h else .bad
  | _ => .bad
def fInt (ds : List D) (h : Hh) : Rs D := match ds with
  | [.str [c]] => if 48 ≤ c ∧ c < 58 then .ok (.int ((c - 48 : Nat) : Int)) h else .bad
  | _ => .bad
theorem digit_str {i : Int} (h0 : 0 ≤ i) (h1 : i < 10) : (toString i : Str) = ⟨#[48 + i.toNat]⟩ := by
  have : i = 0 ∨ i = 1 ∨ i = 2 ∨ i = 3 ∨ i = 4 ∨ i = 5 ∨ i = 6 ∨ i = 7 ∨ i = 8 ∨ i = 9 := by omega
  rcases this with e | e | e | e | e | e | e | e | e | e <;> subst e <;> decide +kernel
theorem digit_int {c : Nat} (h0 : 48 ≤ c) (h1 : c < 58) : PySem.intText? ⟨#[c]⟩ = some ((c - 48 : Nat) : Int) := by
  have : c = 48 ∨ c = 49 ∨ c = 50 ∨ c = 51 ∨ c = 52 ∨ c = 53 ∨ c = 54 ∨ c = 55 ∨ c = 56 ∨ c = 57 := by omega
  rcases this with e | e | e | e | e | e | e | e | e | e <;> subst e <;> decide +kernel
section
variable {X : Cx} {W : WD} {F : Fl}
theorem crd_str : CallR X (.type "str") (rAbsC X.prog X.w X.K F fStr) := by
  intro pins s σ H xs us Q I rs ⟨W, σ0, B, h, ds, xh, rr, p⟩
  unfold fStr at p
  split at p
  · rename_i i
    cases rr with
    | cons r1 rn =>
      cases rn
      cases r1
      split at p
      · rename_i c
        refine call_str_int pins s σ H _ us Q I rs ⟨i, rfl, ?_, ?_⟩
        · have : i = 0 ∨ i = 1 ∨ i = 2 ∨ i = 3 ∨ i = 4 ∨ i = 5 ∨ i = 6 ∨ i = 7 ∨ i = 8 ∨ i = 9 := by omega
          rcases this with e | e | e | e | e | e | e | e | e | e <;> subst e <;> decide +kernel
        · rw [digit_str c.1 c.2]
          exact p.now xh (.str (by simp; omega))
      · exact p.elim
  · exact p.elim
theorem crd_int : CallR X (.type "int") (rAbsC X.prog X.w X.K F fInt) := by
  intro pins s σ H xs us Q I rs ⟨W, σ0, B, h, ds, xh, rr, p⟩
  unfold fInt at p
  split at p
  · rename_i z
    cases rr with
    | cons r1 rn =>
      cases rn
      cases r1 with
      | str ok1 =>
        split at p
        · rename_i c
          exact call_int_str pins s σ H _ us Q I rs ⟨_, _, rfl, digit_int c.1 c.2, by show 1 ≤ 640; decide, p.now xh (.int _)⟩
        · exact p.elim
  · exact p.elim
end
end Dc
end
section
set_option Elab.async false
set_option linter.all false
set_option maxRecDepth 100000
set_option maxHeartbeats 4000000
/-! a tuple from behind -/
namespace Dc
open PySem PySem.Spec PyProof.Rows L2
section
variable {prog : Program} {w : World} {A : Around} {s : Shared} {E : Value → Shared → Prop}
theorem rev_pick (xs : Array Value) : ((List.range xs.size).filterMap fun (m : Nat) => xs[(((xs.size : Int) - 1) + (m : Int) * (-1)).toNat]?).toArray = xs.toList.reverse.toArray := by
  congr 1
  have e : (List.range xs.size).filterMap (fun (m : Nat) => xs[(((xs.size : Int) - 1) + (m : Int) * (-1)).toNat]?) = ((List.range xs.size).map fun k => xs.size - 1 - k).filterMap (xs[·]?) := by
    rw [List.filterMap_map]
    congr 1
    funext m
    show xs[_]? = xs[xs.size - 1 - m]?
    congr 1
    omega
  rw [e, PySem.W.krv_range, List.filterMap_reverse, PySem.W.krv_all]
theorem rev_applied {sl : Addr} {vl vu vs : Value} {n : Nat} {Q : Int × Int × Nat → Shared → Prop} (hs : s.heap.IsSliceOf sl vl vu vs) (pl : IsPart vl none) (pu : IsPart vu none) (ps : IsPart vs (some (-1)))
    (h : Q ((n : Int) - 1, -1, n) s) : wpAny (model prog w) A (Builtin.Slice.sliceApplied (.ref sl) (pure (n : Int))) Q E s := by
  obtain ⟨os, h1, h2, h3⟩ := id hs
  unfold Builtin.Slice.sliceApplied Builtin.Slice.sliceFields
  refine wpAny_bind (wpAny_bind (wpAny_field h1 h3 (x := vl) rfl (wpAny_bind (wpAny_field h1 h3 (x := vu) rfl (wpAny_bind (wpAny_field h1 h3 (x := vs) rfl (wpAny_pure ?_)))))))
  refine wpAny_bind (HT.slicePart_ ps ?_)
  show wpAny _ _ (if ((-1 : Int) == 0) = true then _ else _) _ _ s
  rw [if_neg (by decide)]
  refine wpAny_bind (HT.slicePart_ pl (wpAny_bind (HT.slicePart_ pu (wpAny_bind (wpAny_pure ?_)))))
  have e1 : Builtin.Slice.sliceAdjust none none (-1) (n : Int) = ((n : Int) - 1, -1) := rfl
  have e2 : Builtin.Slice.slicePlaces ((n : Int) - 1) (-1) (-1) = n := by
    unfold Builtin.Slice.slicePlaces
    have : ¬ ((-1 : Int) > 0) := by omega
    simp only [this, if_false, Int.neg_neg, Int.ediv_one]
    split <;> omega
  show wpAny _ _ (match Builtin.Slice.sliceAdjust none none (-1) (n : Int) with | (lo, hi) => pure (lo, (-1 : Int), Builtin.Slice.slicePlaces lo hi (-1))) _ _ s
  rw [e1]
  show wpAny _ _ (pure ((n : Int) - 1, (-1 : Int), Builtin.Slice.slicePlaces ((n : Int) - 1) (-1) (-1))) _ _ s
  rw [e2]
  exact wpAny_pure h
theorem tup_rev {t sl : Addr} {its : Array Value} {vl vu vs : Value} {Q : Value → Shared → Prop} (ht : IsTup s.heap t its) (hs : s.heap.IsSliceOf sl vl vu vs) (pl : IsPart vl none) (pu : IsPart vu none) (ps : IsPart vs (some (-1))) (hsz : its.size ≤ sizeLine)
    (h : Q (.ref s.heap.objs.size) { s with heap := s.heap.push { cls := .type "tuple", data := .seq its.toList.reverse.toArray } }) : wpAny (model prog w) A (getItem (.ref t) (.ref sl)) Q E s := by
  have hk : sizeOk (.seq its.toList.reverse.toArray) := by
    show its.toList.reverse.toArray.size ≤ sizeLine
    rw [List.size_toArray, List.length_reverse, Array.length_toList]
    exact hsz
  obtain ⟨os, h1, h2, h3⟩ := id hs
  have ty : s.TypeIs (.ref sl) "slice" := ⟨os, h1, h2⟩
  unfold getItem
  try with_reducible refine wpAny_holding ?_
  first | refine wpAny_bind (wpAny_pure ?_) | skip
  refine wpAny_bind (wpAny_sequenceKey ht.typeIs (by decide) ?_)
  refine wpAny_bind (wpAny_callSpecial?_slot (name := Str.ofString "__getitem__") ht.typeIs PyProof.Rows.slot_tuple_getitem (wpAny_call_entry PyProof.Rows.slot_tuple_getitem ht.typeIs entry_tuple_getitem ?_ (args_tuple_getitem _ _)))
  show wpAny _ _ (Builtin.Tuple.tupleItemsOf (.ref t) >>= _) _ _ s
  refine wpAny_bind (tupleItemsOf_ ht ?_)
  refine wpAny_bind (wpAny_typeOf ty ?_)
  rw [if_pos (by decide)]
  refine wpAny_bind (rev_applied hs pl pu ps ?_)
  have hno : ¬ ((((its.size : Int) - 1) == 0 && (-1 : Int) == 1 && its.size == its.size) = true) := by simp
  show wpAny _ _ (if (((its.size : Int) - 1) == 0 && (-1 : Int) == 1 && its.size == its.size) = true then _ else _) _ _ s
  rw [if_neg hno, rev_pick]
  first
    | exact wpAny_bind (m := Builtin.Tuple.tupleExact _) (wpAny_newObj_type (wpAny_pure ⟨_, rfl, wpAny_pure h⟩) hk)
    | exact wpAny_bind (m := Builtin.Tuple.tupleExact _) (wpAny_newObj_type (wpAny_bind (wpAny_pure (wpAny_pure ⟨_, rfl, wpAny_pure h⟩))) hk)
    | exact wpAny_bind (wpAny_bind (m := Builtin.Tuple.tupleExact _) (wpAny_newObj_type (wpAny_pure (wpAny_pure ⟨_, rfl, wpAny_pure h⟩)) hk))
    | exact wpAny_bind (wpAny_bind (m := Builtin.Tuple.tupleExact _) (wpAny_newObj_type (wpAny_pure ⟨_, rfl, wpAny_pure h⟩) hk))
end
section
variable {X : Cx} {W : WD} {F : Fl}
def tRev (K : PySem.W.Frag) (te : TE) : TE := fun σ H Q => te σ H fun x H1 => (∃ a xs, x = .ref a ∧ SqT K H1 a xs ∧ ∀ p, H1 p = none → Q (.ref p) (upd H1 p (.tup xs.reverse))) ∨ ∃ a xs, x = .ref a ∧ SqL K H1 a xs ∧ ∀ p, H1 p = none → Q (.ref p) (upd H1 p (.lst xs.reverse))
theorem pe_revA {e : Expr} {te : TE} {k : Nat} {p1 p2 p3 pos : Pos} (he : PE X e te) : PE X (.Subscript e (.Slice none none (some (.UnaryOp .USub (.Constant (.int 1) k p1) p2)) p3) pos) (tRev X.K te) := by
  refine ⟨fun pins s σ H Q I h => ?_⟩
  refine Subscript_ (thn (he.run pins s σ H _ I h) fun v s1 ⟨x, H1, I1, r1, q1⟩ => ?_)
  have hst : PO X (some (.UnaryOp .USub (.Constant (.int 1) k p1) p2)) (tPart (tUn (rU fun i => .int (-i)) (tC (.int 1)))) := po_some (pe_un un_neg pe_int)
  refine wpAny_Slice (thn (po_none.run pins s1 σ H1 (fun o G => o = none ∧ G = H1) I1 ⟨rfl, rfl⟩) fun vl s2 ⟨l, H2, I2, pl, el, e2⟩ => ?_)
  subst el e2
  refine thn (po_none.run pins s2 σ H2 (fun o G => o = none ∧ G = H2) I2 ⟨rfl, rfl⟩) fun vu s3 ⟨u, H3, I3, pu, eu, e3⟩ => ?_
  subst eu e3
  refine thn (hst.run pins s3 σ H3 (fun o G => o = some (-1) ∧ G = H3) I3 ⟨1, rfl, -1, rfl, rfl, rfl⟩) fun vs s4 ⟨o, H4, I4, ps, eo, e4⟩ => ?_
  subst eo e4
  have I5 : Inv X pins σ H4 { s4 with heap := s4.heap.push { cls := .type "slice", data := .fields #[vl, vu, vs] } } := I4.kept (t' := s4.toks) fun b ob q => Heap.get?_push_of_some _ q
  rcases q1 with ⟨a, xs, ex, hx, q⟩ | ⟨a, xs, ex, hx, q⟩
  · subst ex
    cases r1
    obtain ⟨its, r, ht, hz⟩ := I5.tuple hx
    have hlen := r.length
    show wpAny (model X.prog X.w) X.A (subscriptTail e (.Slice none none (some (.UnaryOp .USub (.Constant (.int 1) k p1) p2)) p3) (.ref a) (.ref s4.heap.objs.size)) (EP X pins σ Q) X.xe { s4 with heap := s4.heap.push { cls := .type "slice", data := .fields #[vl, vu, vs] } }
    refine tail_any (ops := [.ref a, .ref s4.heap.objs.size]) ht.typeIs (PyProof.Rows.slot_tuple_getitem.lookup) ?_ (by with_unfolding_all rfl)
    refine tup_rev ht (Heap.IsSliceOf.new _ vl vu vs) pl pu ps (by rw [List.size_toArray]; omega) ?_
    refine ⟨.ref _, _, I5.laid (t' := s4.toks) (o := .tup xs.reverse) (fun b ob q => Heap.get?_push_of_some _ q) (Nat.le_refl _) ?_, rfl, q _ (I5.hok.fresh (Nat.le_refl _))⟩
    exact ⟨by rw [List.length_reverse]; exact hz, _, r.reverse, IsTup.new _ _⟩
  · subst ex
    cases r1
    obtain ⟨its, r, ht, hz⟩ := I5.list hx
    have hlen := r.length
    show wpAny (model X.prog X.w) X.A (subscriptTail e (.Slice none none (some (.UnaryOp .USub (.Constant (.int 1) k p1) p2)) p3) (.ref a) (.ref s4.heap.objs.size)) (EP X pins σ Q) X.xe { s4 with heap := s4.heap.push { cls := .type "slice", data := .fields #[vl, vu, vs] } }
    refine tail_any (ops := [.ref a, .ref s4.heap.objs.size]) ht.isList.typeIs (PySem.slot_list_getitem.lookup) ?_ (by with_unfolding_all rfl)
    refine wpAny_getItem_list_slice ht.isList (Heap.IsSliceOf.new _ vl vu vs) pl pu ps (by decide) ?_ (by rw [List.size_toArray]; omega)
    rw [PySem.W.krv_pick]
    refine ⟨.ref _, _, I5.laid (t' := s4.toks) (o := .lst xs.reverse) (fun b ob q => Heap.get?_push_of_some _ q) (Nat.le_refl _) ?_, rfl, q _ (I5.hok.fresh (Nat.le_refl _))⟩
    exact ⟨by rw [List.length_reverse]; exact hz, _, 0, r.reverse, Heap.get?_push_size _ rfl⟩
def opRev (x : D) (h : Hh) : Rs D := match x with
  | .tup xs => .ok (.tup xs.reverse) h
  | .ref j => (match h[j]? with
    | some (.lst xs) => .ok (.ref h.length) (h ++ [.lst xs.reverse])
    | _ => .bad)
  | _ => .bad
def xRev (a : EM) : EM := fun r h => (a r h).bind fun x h1 => opRev x h1
theorem reps_rev {K : PySem.W.Frag} {B : List Addr} {H : Hp} : ∀ {ds : List D} {vs : List V}, Reps K B H ds vs → Reps K B H ds.reverse vs.reverse
  | _, _, .nil => .nil
  | _, _, .cons r rs => by
    rw [List.reverse_cons, List.reverse_cons]
    exact (reps_rev rs).append (.one r)
theorem de_rev {a : Expr} {ma : EM} {k : Nat} {p1 p2 p3 pos : Pos} (ha : DE X W F a ma) : DE X W F (.Subscript a (.Slice none none (some (.UnaryOp .USub (.Constant (.int 1) k p1) p2)) p3) pos) (xRev ma) :=
  PE.imp (pe_revA ha) fun σ H Q q => by
    obtain ⟨B, r, h, hE, hH, p⟩ := q
    refine ⟨B, r, h, hE, hH, Post.bind p fun d h1 B1 v H1 s1 x1 r1 q1 => ?_⟩
    unfold opRev at q1
    cases r1 with
    | @tup b vs ds h1 h2 =>
      exact .inl ⟨b, vs, rfl, h1, fun z hz => q1 B1 _ _ (step_new x1 hz) (x1.new hz) (.tup (SqT.of upd_same) (reps_rev (h2.step (step_new (F := F) x1 hz))))⟩
    | @ref j b hb =>
      obtain ⟨ob, ho, hr⟩ := x1.get hb
      dsimp only at q1
      rw [ho] at q1
      cases ob with
      | dct kvs => exact q1.elim
      | lst zs =>
        obtain ⟨vs, h1, h2⟩ := hr
        refine .inr ⟨b, vs, rfl, .inl (.inl h1), fun z hz => ?_⟩
        have st : Step F B1 H1 (B1 ++ [z]) (upd H1 z (.lst vs.reverse)) := step_push x1 hz
        exact q1 _ _ _ st (x1.push hz ⟨_, upd_same, reps_rev (h2.step st)⟩) (.ref (by simp [x1.len]))
    | _ => exact q1.elim
end
end Dc
end
section
set_option Elab.async false
set_option linter.all false
set_option maxRecDepth 100000
set_option maxHeartbeats 4000000
/-! raise -/
namespace Dc
open PySem PySem.Spec PyProof.Rows L2
section
variable {X : Cx} {C : Addr} {bmB : List Value} {Bn newId initId : String}
/-- X() -/
theorem pmk_own0 {x : Str} {p pos : Pos} (G : ExcBaseFacts Bn newId initId bmB) (q : PySem.W.excIn X.K C bmB newId = true) (gC : X.mg x = some (.ref C)) (kC : PySem.W.keepIn X.K (.ref C) = true) (r : Raises X (.ref C)) (hg : Gl X x)
    (hdb : (x == ("__debug__" : Str)) = false := by decide) : PMk X (.Call (.Name x p) [] [] pos) (fun _ H Q => Q (.ref C) none H) := by
  intro pins s σ H Q I h
  refine wpAny_Call_Name_kw (ld_glob I hg gC ?_ hdb)
  refine PySem.W.callWith_K0 I.kIn kC ?_
  show wpAny _ _ (call (.ref C) []) _ _ _
  obtain ⟨bm, N, nm, qn, bs, hdct, sn, sub, ab, col, dd, k0, k1, k2, k3, k5, mN, hC, hN, hni, T⟩ := exc_obj I.kIn q
  refine wpAny_call_exc_subT G T hC hN hni (fun h' e hm => ?_) (Nat.zero_le _)
  exact mk_of I hm r h (I.hok.gone hm.new)
end
def bRaise (c : Nat) : SM := fun r h => .ex c r h
section
variable {X : Cx} {W : WD} {F : Fl} {C : Addr} {bmB : List Value} {Bn newId initId : String}
theorem ds_raise {W' : WX} {c : Nat} {x : Str} {p pos pos' : Pos} (hc : X.calm = true) (tk : Takes X W') (hW : ∀ σ H, W c σ H → W' (.ref C) none σ H) (G : ExcBaseFacts Bn newId initId bmB) (q : PySem.W.excIn X.K C bmB newId = true) (gC : X.mg x = some (.ref C)) (kC : PySem.W.keepIn X.K (.ref C) = true) (r : Raises X (.ref C)) (hg : Gl X x := by rfl)
    (hdb : (x == ("__debug__" : Str)) = false := by decide) : DS X W F (.Raise (some (.Call (.Name x p) [] [] pos)) none pos') (bRaise c) :=
  PS.imp (ps_raise hc tk (pmk_own0 G q gC kC r hg hdb)) fun D σ H z => by
    obtain ⟨B, r, h, hE, hH, p⟩ := z
    exact hW σ H (p B σ H .refl hE hH)
end
end Dc
end
section
set_option Elab.async false
set_option linter.all false
set_option maxRecDepth 100000
set_option maxHeartbeats 4000000
/-! try with several clauses -/
namespace Dc
open PySem PySem.Spec PyProof.Rows L2
/-- the clauses one after the other: does the class match (if it is known), the suite -/
def tryIn : List ((Nat → Option Bool) × SM) → Nat → SM
  | [], c => fun r h => .ex c r h
  | (p, m) :: t, c => fun r h => match p c with
    | some true => m r h
    | some false => tryIn t c r h
    | none => .bad
def bTry (mb : SM) (l : List ((Nat → Option Bool) × SM)) : SM := fun r h => match mb r h with
  | .ex c r1 h1 => tryIn l c r1 h1
  | .nx r1 h1 => .nx r1 h1
  | .rt d h1 => .rt d h1
  | .bk r1 h1 => .bk r1 h1
  | .ct r1 h1 => .ct r1 h1
  | .bad => .bad
inductive HdsD (X : Cx) (W : WD) (F : Fl) (Ex : Nat → Value) : List ExceptHandler → List ((Nat → Option Bool) × SM) → Prop
  | nil : HdsD X W F Ex [] []
  | cons {x : Str} {c : Value} {b₀ : Stmt} {suite : List Stmt} {np pos' : Pos} {hds : List ExceptHandler} {p : Nat → Option Bool} {m : SM} {l : List ((Nat → Option Bool) × SM)} (hc : Names X x c) (hm : ∀ n b, p n = some b → PySem.W.exmOne X.K (Ex n) c = some b)
      (hsu : ∀ (a : Addr) (pn : List (Addr × Obj)), DSs (X.suite a pn) W F (b₀ :: suite) m) (r : HdsD X W F Ex hds l) : HdsD X W F Ex (.ExceptHandler (some (.Name x np)) none (b₀ :: suite) pos' :: hds) ((p, m) :: l)
section
variable {X : Cx} {W : WD} {F : Fl} {Ex : Nat → Value}
theorem HdsD.ok {hs : List ExceptHandler} {l : List ((Nat → Option Bool) × SM)} {Wout : WX} (h : HdsD X W F Ex hs l) (hW : ∀ c σ H, W c σ H → Wout (Ex c) none σ H) : ∃ l', HdsOk X hs l' ∧
    ∀ (D : Ends) (B B' : List Addr) (H H' : Hp) (c : Nat) (r : Ev) (hh : Hh) (σ' : L2.St), PostS X.prog X.w X.K W F B H (tryIn l c r hh) D → Step F B H B' H' → RelE X.K B' H' r σ' → RelH X.prog X.w X.K B' hh H' → wMany X.K Wout D l' (Ex c) none σ' H' := by
  induction h with
  | nil => exact ⟨[], .nil, fun D B B' H H' c r hh σ' p s e x => hW _ _ _ (p B' σ' H' s e x)⟩
  | @cons x c b₀ suite np pos' hds p m l hc hm hsu r ih =>
    obtain ⟨l', ok, g⟩ := ih
    refine ⟨(c, fun _ _ _ => tDS X.prog X.w X.K W F m) :: l', .cons hc (fun a oe cls d pn _ _ => hsu a _) ok, fun D B B' H H' n r hh σ' q s e z => ?_⟩
    unfold tryIn at q
    cases ep : p n with
    | none => rw [ep] at q; exact q.elim
    | some b =>
      rw [ep] at q
      refine ⟨b, hm n b ep, fun eb a ha => ?_, fun eb => ?_⟩
      · subst eb
        exact ⟨B', r, hh, e, z, q.later s⟩
      · subst eb
        exact g D B B' H H' n r hh σ' q s e z
theorem ds_try {body : List Stmt} {h₀ : ExceptHandler} {hds : List ExceptHandler} {mb : SM} {l : List ((Nat → Option Bool) × SM)} {pos : Pos} {Wout : WX} (hs : X.stack = X.env :: X.outer) (hf : X.env.frame = some X.env.locals) (tk : Takes X Wout) (hW : ∀ c σ H, W c σ H → Wout (Ex c) none σ H)
    (hb : ∀ (W' : WX) (pn : List (Addr × Obj)) (xe : Value → Shared → Prop), Takes (X.tr pn xe) W' → PassesOwn (model X.prog X.w) X.A X.env xe → DSs (X.tr pn xe) (fun c σ H => W' (Ex c) none σ H) F body mb)
    (hh : HdsD X W F Ex (h₀ :: hds) l) : DS X W F (.Try body (h₀ :: hds) [] [] pos) (bTry mb l) := by
  obtain ⟨l', ok, g⟩ := hh.ok hW
  refine PS.imp (ps_try_many (tb := fun W' => tDS X.prog X.w X.K (fun c σ H => W' (Ex c) none σ H) F mb) hs hf tk hb ok) fun D σ H z => ?_
  obtain ⟨B, r, h, hE, hH, p⟩ := z
  refine ⟨B, r, h, hE, hH, ?_⟩
  unfold bTry at p
  cases em : mb r h with
  | ex c r1 h1 =>
    rw [em] at p
    exact fun B' σ' H' s e x => g D B B' H H' c r1 h1 σ' p s e x
  | nx r1 h1 => rw [em] at p; exact p
  | rt d h1 => rw [em] at p; exact p
  | bk r1 h1 => rw [em] at p; exact p
  | ct r1 h1 => rw [em] at p; exact p
  | bad => rw [em] at p; exact p
end
end Dc
end
section
set_option Elab.async false
set_option linter.all false
set_option maxRecDepth 100000
set_option maxHeartbeats 4000000
/-! a call without arguments -/
namespace Dc
open PySem PySem.Spec PyProof.Rows L2
section
variable {X : Cx} {W : WD} {F : Fl} {pos p : Pos} {x : Str} {f : Addr} {fd : FuncData} {k : Nat} {m : Fn} {Ex : Nat → Value}
theorem de_call0 (G : FnOk X.prog X.w X.K X.mg X.base CX0 k f fd [] (FnP X.prog X.w X.K ([] : List Str).length m Ex)) (hr : Room k X.A) (hm : X.mg x = some (.ref f)) (hk : PySem.W.keepIn X.K (.ref f) = true) (hb : Binds X.K fd [] []) (hg : Gl X x := by rfl)
    (hdb : (x == ("__debug__" : Str)) = false := by decide) :
    DE X W F (.Call (.Name x p) [] [] pos) (xCall m xNil) :=
  PE.imp (pe_call0 G hr hg hm hk hb .nil pass0 hdb) fun σ H Q q => by
    obtain ⟨B, r, h, hE, hH, q⟩ := q
    unfold xCall at q
    refine ⟨B, [], h, .nil, hH, rfl, ?_⟩
    have q1 : Post X.prog X.w X.K W F (RpD X.K) B H σ (match m [] h with | .ok d h2 => .ok d h2 | _ => .bad) Q := q
    cases em : m [] h with
    | bad => rw [em] at q1; exact q1
    | exc c h2 => rw [em] at q1; exact q1.elim
    | ok d h2 => rw [em] at q1; exact fun B2 v H2 s2 x2 r2 => q1 B2 v H2 (flP_of hH s2) x2 r2
end
end Dc
end
section
set_option linter.all false
set_option maxRecDepth 100000
/-! what the defs do -/
namespace Dcl
open Dc
def b__law_draw (F : Fl) : SM := (bSeq (bIf (xTest (xBin opGt (xBin opIx (xVar 1) (xC (.int 1))) (xC (.int 0)))) (bSeq (bAsg (xBin opMod (xBin opIx (xVar 1) (xC (.int 1))) (xVar 2)) (.one 3))
  (bSeq (bPut F (xBin opDiv (xBin opIx (xVar 1) (xC (.int 1))) (xVar 2)) (xVar 1) (xC (.int 1)))
  (bRet (xVar 3)))) bNext)
  (bSeq (bAsg (xBin opIx (xVar 1) (xC (.int 0))) (.one 4))
  (bSeq (bAug F (xVar 1) (xC (.int 0)) (xC (.int 1)))
  (bSeq (bIf (xTest (xBin opEq (xVar 0) (xLst xNil))) (bRet (xBin opMod (xVar 4) (xVar 2))) bNext)
  (bSeq (bIf (xAnd (xTest (xBin opLtA (xVar 4) (xBlt fLen (xCons (xVar 0) xNil)))) (xTest (xBin opGe (xBin opIx (xVar 0) (xVar 4)) (xBin opPow (xC (.int 10)) (xC (.int 18)))))) (bSeq (bPut F (xBin opMod (xBin opDiv (xBin opIx (xVar 0) (xVar 4)) (xVar 2)) (xBin opMul (xBin opPow (xC (.int 10)) (xC (.int 60))) (xBin opPow (xC (.int 10)) (xC (.int 60))))) (xVar 1) (xC (.int 1)))
  (bRet (xBin opMod (xBin opIx (xVar 0) (xVar 4)) (xVar 2)))) bNext)
  (bSeq (bAsg (xBin opMod (xBin opAdd (xBin opAdd (xBin opMul (xBin opIx (xVar 0) (xBin opMod (xVar 4) (xBlt fLen (xCons (xVar 0) xNil)))) (xC (.int 1103515245))) (xBin opMul (xC (.int 7919)) (xVar 4))) (xC (.int 12345))) (xC (.int 2147483647))) (.one 5))
  (bRet (xBin opMod (xBin opMod (xBin opMod (xBin opPow (xVar 5) (xC (.int 5))) (xC (.int 2147483647))) (xC (.int 999983))) (xVar 2)))))))))
def m__law_draw : Fn := runT 6 b__law_draw
def b__law_pick (F : Fl) : SM := (bRet (xBin opIx (xVar 2) (xCallT F m__law_draw (xCons (xVar 0) (xCons (xVar 1) (xCons (xBlt fLen (xCons (xVar 2) xNil)) xNil))))))
def m__law_pick : Fn := runT 3 b__law_pick
def b__law_entry (F : Fl) : SM := (bSeq (bAsg (xMeth .str (mJoin) (xC (.str [])) (xCons (xLc F [6] (xRange1 (xCallT F m__law_pick (xCons (xVar 0) (xCons (xVar 1) (xCons (xLst (xCons (xC (.int 0)) (xCons (xC (.int 1)) (xCons (xC (.int 1)) (xCons (xC (.int 2)) (xCons (xC (.int 3)) xNil)))))) xNil))))) (.one 6) (fun F' => xYes) (fun F' => (xCallT F' m__law_pick (xCons (xVar 0) (xCons (xVar 1) (xCons (xC (.str [97, 98])) xNil)))))) xNil)) (.one 4))
  (bSeq (bAsg (xBlt fTupOf (xCons (xLc F [6] (xRange1 (xCallT F m__law_pick (xCons (xVar 0) (xCons (xVar 1) (xCons (xLst (xCons (xC (.int 1)) (xCons (xC (.int 1)) (xCons (xC (.int 2)) (xCons (xC (.int 2)) (xCons (xC (.int 3)) xNil)))))) xNil))))) (.one 6) (fun F' => xYes) (fun F' => (xCallT F' m__law_pick (xCons (xVar 0) (xCons (xVar 1) (xCons (xVar 3) xNil)))))) xNil)) (.one 5))
  (bRet (xTup (xCons (xCallT F m__law_draw (xCons (xVar 0) (xCons (xVar 1) (xCons (xVar 2) xNil)))) (xCons (xVar 4) (xCons (xVar 5) (xCons (xCallT F m__law_draw (xCons (xVar 0) (xCons (xVar 1) (xCons (xVar 2) xNil)))) xNil))))))))
def m__law_entry : Fn := runT 7 b__law_entry
def b__law_table (F : Fl) : SM := (bSeq (bAsg (xCallT F m__law_pick (xCons (xVar 0) (xCons (xVar 1) (xCons (xLst (xCons (xLst (xCons (xC (.str [49])) (xCons (xC (.str [49, 52])) xNil))) (xCons (xLst (xCons (xC (.str [49, 52])) (xCons (xC (.str [50, 53])) xNil))) (xCons (xLst (xCons (xC (.str [49])) (xCons (xC (.str [52])) (xCons (xC (.str [49, 52])) xNil)))) (xCons (xLst (xCons (xC (.str [])) (xCons (xC (.str [51])) (xCons (xC (.str [54])) xNil)))) xNil))))) xNil)))) (.one 3))
  (bSeq (bPar 4 5 (xCallT F m__law_pick (xCons (xVar 0) (xCons (xVar 1) (xCons (xLst (xCons (xC (.int 1)) (xCons (xC (.int 1)) (xCons (xC (.int 2)) xNil)))) xNil)))) (xLst xNil))
  (bSeq (bFor F (xRange1 (xBin opAdd (xC (.int 1)) (xCallT F m__law_draw (xCons (xVar 0) (xCons (xVar 1) (xCons (xVar 2) xNil)))))) (.one 6) (fun F1 => (bSeq (bAsg (xCallT F1 m__law_entry (xCons (xVar 0) (xCons (xVar 1) (xCons (xVar 4) (xCons (xVar 3) xNil))))) (.one 7))
  (bIf (xTest (xBin opNotIn (xVar 7) (xVar 5))) (bExpr (xMeth .list (mAppend F1) (xVar 5) (xCons (xVar 7) xNil))) bNext))))
  (bRet (xTup (xCons (xVar 4) (xCons (xBlt fTupOf (xCons (xVar 5) xNil)) xNil)))))))
def m__law_table : Fn := runT 8 b__law_table
def b__law_cells (F : Fl) : SM := (bSeq (bAsg (xLst xNil) (.one 1))
  (bSeq (bFor F (xIter (xBin opIx (xVar 0) (xC (.int 1)))) (.many [2, 3, 4, 5]) (fun F1 => (bExpr (xMeth .list (mExtend F1) (xVar 1) (xCons (xVar 4) xNil)))))
  (bRet (xSortedSet (xVar 1)))))
def m__law_cells : Fn := runP 6 b__law_cells
def b_is_count (F : Fl) : SM := (bRet (xAndV (xIsi "int" (xVar 0)) (xAndV (xNotV (xIsi "bool" (xVar 0))) (xChain opLe opLe (xVar 1) (xVar 0) (xVar 2)))))
def m_is_count : Fn := runP 3 b_is_count
def b_are_letters (F : Fl) : SM := (bRet (xAndV (xIsi "str" (xVar 0)) (xAndV (xBin opLe (xBlt fLen (xCons (xVar 0) xNil)) (xVar 1)) (xBlt fAll (xCons (xLc F [2] (xIter (xVar 0)) (.one 2) (fun F' => xYes) (fun F' => (xBin opIn (xVar 2) (xC (.str [97, 98, 99, 100, 101]))))) xNil)))))
def m_are_letters : Fn := runP 3 b_are_letters
def b_is_cell (F : Fl) : SM := (bRet (xAndV (xIsi "str" (xVar 0)) (xBin opEq (xMeth .str (mJoin) (xC (.str [])) (xCons (xLc F [1] (xIter (xC (.str [49, 50, 51, 52, 53, 54]))) (.one 1) (fun F' => (xTest (xBin opIn (xVar 1) (xVar 0)))) (fun F' => (xVar 1))) xNil)) (xVar 0))))
def m_is_cell : Fn := runP 2 b_is_cell
def b_are_cells (F : Fl) : SM := (bRet (xAndV (xIsi "tuple" (xVar 0)) (xAndV (xChain opLe opLe (xVar 1) (xBlt fLen (xCons (xVar 0) xNil)) (xVar 2)) (xBlt fAll (xCons (xLc F [3] (xIter (xVar 0)) (.one 3) (fun F' => xYes) (fun F' => (xCall m_is_cell (xCons (xVar 3) xNil)))) xNil)))))
def m_are_cells : Fn := runP 4 b_are_cells
def b_is_entry (F : Fl) : SM := (bSeq (bIf (xOr (xNot (xTest (xIsi "tuple" (xVar 0)))) (xOr (xTest (xBin opNe (xBlt fLen (xCons (xVar 0) xNil)) (xC (.int 4)))) (xNot (xTest (xCall m_is_count (xCons (xBin opIx (xVar 0) (xC (.int 0))) (xCons (xC (.int 0)) (xCons (xBin opSub (xVar 1) (xC (.int 1))) xNil)))))))) (bRet (xC (.bl false))) bNext)
  (bRet (xAndV (xCall m_are_letters (xCons (xBin opIx (xVar 0) (xC (.int 1))) (xCons (xC (.int 3)) xNil))) (xAndV (xCall m_are_cells (xCons (xBin opIx (xVar 0) (xC (.int 2))) (xCons (xC (.int 1)) (xCons (xC (.int 3)) xNil)))) (xCall m_is_count (xCons (xBin opIx (xVar 0) (xC (.int 3))) (xCons (xC (.int 0)) (xCons (xBin opSub (xVar 1) (xC (.int 1))) xNil))))))))
def m_is_entry : Fn := runP 2 b_is_entry
def b_is_table (F : Fl) : SM := (bSeq (bIf (xOr (xNot (xTest (xIsi "tuple" (xVar 0)))) (xOr (xTest (xBin opNe (xBlt fLen (xCons (xVar 0) xNil)) (xC (.int 2)))) (xNot (xTest (xCall m_is_count (xCons (xBin opIx (xVar 0) (xC (.int 0))) (xCons (xC (.int 1)) (xCons (xC (.int 3)) xNil)))))))) (bRet (xC (.bl false))) bNext)
  (bSeq (bAsg (xVar 0) (.many [1, 2]))
  (bSeq (bIf (xOr (xNot (xTest (xIsi "tuple" (xVar 2)))) (xNot (xTest (xChain opLe opLe (xC (.int 1)) (xBlt fLen (xCons (xVar 2) xNil)) (xC (.int 10)))))) (bRet (xC (.bl false))) bNext)
  (bRet (xAndV (xBlt fAll (xCons (xLc F [3] (xIter (xVar 2)) (.one 3) (fun F' => xYes) (fun F' => (xCall m_is_entry (xCons (xVar 3) (xCons (xVar 1) xNil))))) xNil)) (xBin opEq (xLenSet (xVar 2)) (xBlt fLen (xCons (xVar 2) xNil))))))))
def m_is_table : Fn := runP 4 b_is_table
def b__law_texts (F : Fl) : SM := (bSeq (bPar 2 3 (xLst xNil) (xLst (xCons (xTup (xCons (xC (.int 0)) (xCons (xC (.int 0)) (xCons (xC (.str [])) xNil)))) xNil)))
  (bSeq (bWhile (xTest (xBin opNe (xVar 3) (xLst xNil))) (bSeq (bAsg (xMeth .list (mPop F) (xVar 3) xNil) (.many [4, 5, 6]))
  (bSeq (bIf (xTest (xBin opEq (xVar 5) (xBlt fLen (xCons (xVar 1) xNil)))) (bExpr (xMeth .list (mAppend F) (xVar 2) (xCons (xVar 6) xNil))) bNext)
  (bFor F (xIter (xBin opIx (xVar 0) (xC (.int 1)))) (.many [7, 8, 9, 10]) (fun F1 => (bIf (xAnd (xTest (xBin opEq (xVar 7) (xVar 4))) (xAnd (xTest (xBin opEq (xSl (xVar 1) (xPart (xVar 5)) (xPart (xBin opAdd (xVar 5) (xBlt fLen (xCons (xVar 9) xNil))))) (xVar 9))) (xTest (xBin opLtA (xVar 5) (xBlt fLen (xCons (xVar 1) xNil)))))) (bExpr (xMeth .list (mAppend F1) (xVar 3) (xCons (xTup (xCons (xVar 10) (xCons (xBin opAdd (xVar 5) (xBlt fLen (xCons (xVar 9) xNil))) (xCons (xBin opAdd (xVar 6) (xVar 8)) xNil)))) xNil))) bNext))))))
  (bRet (xBlt fSortedA (xCons (xVar 2) xNil)))))
def m__law_texts : Fn := runP 11 b__law_texts
def b_need_table (F : Fl) : SM := (bIf (xNot (xTest (xCall m_is_table (xCons (xVar 0) xNil)))) bNever bNext)
def m_need_table : Fn := runP 1 b_need_table
def b_is_writing (F : Fl) : SM := (bRet (xCall m_are_cells (xCons (xVar 0) (xCons (xC (.int 0)) (xCons (xC (.int 20)) xNil)))))
def m_is_writing : Fn := runP 1 b_is_writing
def b_need_writing (F : Fl) : SM := (bIf (xNot (xTest (xCall m_is_writing (xCons (xVar 0) xNil)))) bNever bNext)
def m_need_writing : Fn := runP 1 b_need_writing
def b_is_end (F : Fl) : SM := (bRet (xBin opEq (xBin opIx (xVar 0) (xC (.int 1))) (xC (.int (-1)))))
def m_is_end : Fn := runP 1 b_is_end
def b_stepped (F : Fl) : SM := (bSeq (bAsg (xVar 1) (.many [3, 4, 5]))
  (bSeq (bAsg (xIf (xTest (xBin opGe (xVar 4) (xC (.int 0)))) (xLst (xCons (xVar 4) xNil)) (xLc F [6, 13] (xEnum (xBin opIx (xVar 0) (xC (.int 1)))) (.many [6, 13]) (fun F' => (xTest (xBin opEq (xBin opIx (xVar 13) (xC (.int 0))) (xVar 3)))) (fun F' => (xVar 6)))) (.one 7))
  (bSeq (bAsg (xLst xNil) (.one 8))
  (bSeq (bFor F (xIter (xVar 7)) (.one 6) (fun F1 => (bSeq (bAsg (xBin opIx (xBin opIx (xVar 0) (xC (.int 1))) (xVar 6)) (.many [9, 10, 11, 12]))
  (bIf (xTest (xBin opEq (xBin opIx (xVar 11) (xVar 5)) (xVar 2))) (bIf (xTest (xBin opEq (xBin opAdd (xVar 5) (xC (.int 1))) (xBlt fLen (xCons (xVar 11) xNil)))) (bExpr (xMeth .list (mAppend F1) (xVar 8) (xCons (xTup (xCons (xTup (xCons (xVar 12) (xCons (xC (.int (-1))) (xCons (xC (.int 0)) xNil)))) (xCons (xVar 10) xNil))) xNil))) (bExpr (xMeth .list (mAppend F1) (xVar 8) (xCons (xTup (xCons (xTup (xCons (xVar 3) (xCons (xVar 6) (xCons (xBin opAdd (xVar 5) (xC (.int 1))) xNil)))) (xCons (xC (.str [])) xNil))) xNil)))) bNext))))
  (bRet (xVar 8))))))
def m_stepped : Fn := runP 14 b_stepped
def b_texts_of (F : Fl) : SM := (bSeq (bAsg (xDict1 (xC (.tup [.int 0, .int (-1), .int 0])) (xLst (xCons (xC (.str [])) xNil))) (.one 2))
  (bSeq (bFor F (xIter (xVar 1)) (.one 3) (fun F1 => (bSeq (bAsg xDict0 (.one 4))
  (bSeq (bFor F1 (xIter (xVar 2)) (.one 5) (fun F2 => (bFor F2 (xIter (xCall m_stepped (xCons (xVar 0) (xCons (xVar 5) (xCons (xVar 3) xNil))))) (.many [6, 7]) (fun F3 => (bSeq (bAsg (xMeth .dict (mSetd F3) (xVar 4) (xCons (xVar 6) (xCons (xLst xNil) xNil))) (.one 8))
  (bFor F3 (xIter (xBin opIx (xVar 2) (xVar 5))) (.one 9) (fun F4 => (bIf (xAnd (xTest (xBin opNotIn (xBin opAdd (xVar 9) (xVar 7)) (xVar 8))) (xTest (xBin opLtA (xBlt fLen (xCons (xVar 8) xNil)) (xC (.int 2))))) (bExpr (xMeth .list (mAppend F4) (xVar 8) (xCons (xBin opAdd (xVar 9) (xVar 7)) xNil))) bNext))))))))
  (bAsg (xVar 4) (.one 2))))))
  (bSeq (bAsg (xLst xNil) (.one 10))
  (bSeq (bFor F (xIter (xVar 2)) (.one 5) (fun F5 => (bIf (xTest (xCall m_is_end (xCons (xVar 5) xNil))) (bExpr (xMeth .list (mExtend F5) (xVar 10) (xCons (xLc F5 [7] (xIter (xBin opIx (xVar 2) (xVar 5))) (.one 7) (fun F' => (xTest (xBin opNotIn (xVar 7) (xVar 10)))) (fun F' => (xVar 7))) xNil))) bNext)))
  (bRet (xVar 10))))))
def m_texts_of : Fn := runP 11 b_texts_of
def b_read (F : Fl) : SM := (bSeq (bExpr (xCall m_need_table (xCons (xVar 0) xNil)))
  (bSeq (bExpr (xCall m_need_writing (xCons (xVar 1) xNil)))
  (bSeq (bAsg (xCall m_texts_of (xCons (xVar 0) (xCons (xVar 1) xNil))) (.one 2))
  (bSeq (bIf (xTest (xBin opGt (xBlt fLen (xCons (xVar 2) xNil)) (xC (.int 1)))) bNever bNext)
  (bRet (xBin opIx (xBin opAdd (xVar 2) (xLst (xCons (xC .non) xNil))) (xC (.int 0))))))))
def m_read : Fn := runP 3 b_read
def b_ways (F : Fl) : SM := (bSeq (bExpr (xCall m_need_table (xCons (xVar 0) xNil)))
  (bSeq (bExpr (xCall m_need_writing (xCons (xVar 1) xNil)))
  (bSeq (bAsg (xDict1 (xC (.tup [.int 0, .int (-1), .int 0])) (xC (.int 1))) (.one 2))
  (bSeq (bFor F (xIter (xVar 1)) (.one 3) (fun F1 => (bSeq (bAsg xDict0 (.one 4))
  (bSeq (bFor F1 (xIter (xVar 2)) (.one 5) (fun F2 => (bFor F2 (xIter (xCall m_stepped (xCons (xVar 0) (xCons (xVar 5) (xCons (xVar 3) xNil))))) (.many [6, 7]) (fun F3 => (bPut F3 (xBin opAdd (xMeth .dict (mGet) (xVar 4) (xCons (xVar 6) (xCons (xC (.int 0)) xNil))) (xBin opIx (xVar 2) (xVar 5))) (xVar 4) (xVar 6))))))
  (bAsg (xVar 4) (.one 2))))))
  (bRet (xBlt fSum (xCons (xLc F [5] (xIter (xVar 2)) (.one 5) (fun F' => (xTest (xCall m_is_end (xCons (xVar 5) xNil)))) (fun F' => (xBin opIx (xVar 2) (xVar 5)))) xNil)))))))
def m_ways : Fn := runP 8 b_ways
def b__law_random (F : Fl) : SM := (bSeq (bAsg (xTup (xCons (xC (.int 0)) (xCons (xTup xNil) (xCons (xC (.str [])) xNil)))) (.many [4, 5, 6]))
  (bSeq (bFor F (xRange1 (xVar 3)) (.one 7) (fun F1 => (bSeq (bAsg (xLc F1 [8] (xIter (xBin opIx (xVar 2) (xC (.int 1)))) (.one 8) (fun F' => (xTest (xBin opEq (xBin opIx (xVar 8) (xC (.int 0))) (xVar 4)))) (fun F' => (xVar 8))) (.one 9))
  (bSeq (bIf (xOr (xTest (xBin opEq (xVar 9) (xLst xNil))) (xTest (xBin opGt (xBlt fLen (xCons (xVar 5) xNil)) (xC (.int 16))))) bBreak bNext)
  (bSeq (bAsg (xCallT F1 m__law_pick (xCons (xVar 0) (xCons (xVar 1) (xCons (xVar 9) xNil)))) (.one 8))
  (bSeq (bPar 5 6 (xBin opAdd (xVar 5) (xBin opIx (xVar 8) (xC (.int 2)))) (xBin opAdd (xVar 6) (xBin opIx (xVar 8) (xC (.int 1)))))
  (bAsg (xBin opIx (xVar 8) (xC (.int 3))) (.one 4))))))))
  (bRet (xTup (xCons (xVar 5) (xCons (xVar 6) xNil))))))
def m__law_random : Fn := runT 10 b__law_random
def b__law_tables (F : Fl) : SM := (bSeq (bAsg (xTup (xCons (xC (.int 2)) (xCons (xTup (xCons (xTup (xCons (xC (.int 0)) (xCons (xC (.str [97])) (xCons (xTup (xCons (xC (.str [49])) xNil)) (xCons (xC (.int 1)) xNil))))) (xCons (xTup (xCons (xC (.int 1)) (xCons (xC (.str [])) (xCons (xTup (xCons (xC (.str [])) (xCons (xC (.str [49, 52])) xNil))) (xCons (xC (.int 0)) xNil))))) xNil))) xNil))) (.one 0))
  (bSeq (bAsg (xLst (xCons (xC .non) (xCons (xTup xNil) (xCons (xBlt fListA (xCons (xVar 0) xNil)) (xCons (xSl (xVar 0) xNoPart (xPart (xC (.int 1)))) (xCons (xBin opAdd (xVar 0) (xTup (xCons (xC (.int 1)) xNil))) (xCons (xC (.str [49])) xNil))))))) (.one 1))
  (bSeq (bExpr (xMeth .list (mExtend F) (xVar 1) (xCons (xLc F [5] (xIter (xTup (xCons (xC (.int 0)) (xCons (xC (.int 1)) (xCons (xC (.int 4)) (xCons (xC (.bl true)) (xCons (xC (.str [50])) (xCons (xC .non) xNil)))))))) (.one 5) (fun F' => xYes) (fun F' => (xTup (xCons (xVar 5) (xCons (xBin opIx (xVar 0) (xC (.int 1))) xNil))))) xNil)))
  (bSeq (bAsg (xTup (xCons (xC .non) (xCons (xTup xNil) (xCons (xLst (xCons (xBin opIx (xBin opIx (xVar 0) (xC (.int 1))) (xC (.int 0))) xNil)) (xCons (xTup (xCons (xC .non) xNil)) (xCons (xBin opMul (xTup (xCons (xBin opIx (xBin opIx (xVar 0) (xC (.int 1))) (xC (.int 0))) xNil)) (xC (.int 2))) (xCons (xTup (xCons (xTup (xCons (xC (.int 0)) (xCons (xC (.str [97])) (xCons (xTup (xCons (xC (.str [49])) xNil)) xNil)))) xNil)) (xCons (xTup (xCons (xLst (xCons (xC (.int 0)) (xCons (xC (.str [97])) (xCons (xTup (xCons (xC (.str [49])) xNil)) (xCons (xC (.int 0)) xNil))))) xNil)) xNil)))))))) (.one 2))
  (bSeq (bExpr (xMeth .list (mExtend F) (xVar 1) (xCons (xLc F [5] (xIter (xVar 2)) (.one 5) (fun F' => xYes) (fun F' => (xTup (xCons (xC (.int 2)) (xCons (xVar 5) xNil))))) xNil)))
  (bSeq (bAsg (xLst (xCons (xTup (xCons (xC (.int 2)) (xCons (xC (.str [97])) (xCons (xTup (xCons (xC (.str [49])) xNil)) (xCons (xC (.int 0)) xNil))))) (xCons (xTup (xCons (xC (.int (-1))) (xCons (xC (.str [97])) (xCons (xTup (xCons (xC (.str [49])) xNil)) (xCons (xC (.int 0)) xNil))))) (xCons (xTup (xCons (xC (.bl true)) (xCons (xC (.str [97])) (xCons (xTup (xCons (xC (.str [49])) xNil)) (xCons (xC (.int 0)) xNil))))) xNil)))) (.one 3))
  (bSeq (bExpr (xMeth .list (mExtend F) (xVar 3) (xCons (xLst (xCons (xTup (xCons (xC (.int 0)) (xCons (xC (.str [102])) (xCons (xTup (xCons (xC (.str [49])) xNil)) (xCons (xC (.int 0)) xNil))))) (xCons (xTup (xCons (xC (.int 0)) (xCons (xC (.str [97, 98, 97, 98])) (xCons (xTup (xCons (xC (.str [49])) xNil)) (xCons (xC (.int 0)) xNil))))) xNil))) xNil)))
  (bSeq (bExpr (xMeth .list (mExtend F) (xVar 3) (xCons (xLst (xCons (xTup (xCons (xC (.int 0)) (xCons (xC .non) (xCons (xTup (xCons (xC (.str [49])) xNil)) (xCons (xC (.int 0)) xNil))))) (xCons (xTup (xCons (xC (.int 0)) (xCons (xC (.str [65])) (xCons (xTup (xCons (xC (.str [49])) xNil)) (xCons (xC (.int 0)) xNil))))) (xCons (xTup (xCons (xC (.int 0)) (xCons (xC (.str [97])) (xCons (xTup xNil) (xCons (xC (.int 0)) xNil))))) (xCons (xTup (xCons (xC (.int 0)) (xCons (xC (.str [97])) (xCons (xLst (xCons (xC (.str [49])) xNil)) (xCons (xC (.int 0)) xNil))))) xNil))))) xNil)))
  (bSeq (bExpr (xMeth .list (mExtend F) (xVar 3) (xCons (xLst (xCons (xTup (xCons (xC (.int 0)) (xCons (xC (.str [97])) (xCons (xBin opMul (xTup (xCons (xC (.str [49])) xNil)) (xC (.int 4))) (xCons (xC (.int 0)) xNil))))) xNil)) xNil)))
  (bSeq (bExpr (xMeth .list (mExtend F) (xVar 3) (xCons (xLst (xCons (xTup (xCons (xC (.int 0)) (xCons (xC (.str [97])) (xCons (xTup (xCons (xC (.str [50, 49])) xNil)) (xCons (xC (.int 0)) xNil))))) (xCons (xTup (xCons (xC (.int 0)) (xCons (xC (.str [97])) (xCons (xTup (xCons (xC (.str [49, 49])) xNil)) (xCons (xC (.int 0)) xNil))))) (xCons (xTup (xCons (xC (.int 0)) (xCons (xC (.str [97])) (xCons (xTup (xCons (xC (.str [55])) xNil)) (xCons (xC (.int 0)) xNil))))) (xCons (xTup (xCons (xC (.int 0)) (xCons (xC (.str [97])) (xCons (xTup (xCons (xC (.int 1)) xNil)) (xCons (xC (.int 0)) xNil))))) xNil))))) xNil)))
  (bSeq (bExpr (xMeth .list (mExtend F) (xVar 3) (xCons (xLst (xCons (xTup (xCons (xC (.int 0)) (xCons (xC (.str [97])) (xCons (xTup (xCons (xC (.str [49])) xNil)) (xCons (xC (.int 2)) xNil))))) xNil)) xNil)))
  (bSeq (bExpr (xMeth .list (mExtend F) (xVar 1) (xCons (xLc F [6] (xIter (xVar 3)) (.one 6) (fun F' => xYes) (fun F' => (xTup (xCons (xC (.int 2)) (xCons (xTup (xCons (xVar 6) xNil)) xNil))))) xNil)))
  (bSeq (bAsg (xTup (xCons (xC (.str [])) (xCons (xC (.str [49])) (xCons (xC (.str [50])) (xCons (xC (.str [51])) (xCons (xC (.str [52])) (xCons (xC (.str [53])) (xCons (xC (.str [54])) (xCons (xC (.str [49, 50])) (xCons (xC (.str [49, 51])) (xCons (xC (.str [49, 52])) (xCons (xC (.str [49, 53])) xNil)))))))))))) (.one 4))
  (bRet (xBin opAdd (xVar 1) (xLst (xCons (xTup (xCons (xC (.int 1)) (xCons (xBlt fTupOf (xCons (xLc F [7] (xIter (xVar 4)) (.one 7) (fun F' => xYes) (fun F' => (xTup (xCons (xC (.int 0)) (xCons (xC (.str [97])) (xCons (xTup (xCons (xVar 7) xNil)) (xCons (xC (.int 0)) xNil))))))) xNil)) xNil))) xNil)))))))))))))))))
def m__law_tables : Fn := runP 8 b__law_tables
def b_need_text (F : Fl) : SM := (bIf (xNot (xTest (xCall m_are_letters (xCons (xVar 0) (xCons (xC (.int 20)) xNil))))) bNever bNext)
def m_need_text : Fn := runP 1 b_need_text
def b_write (F : Fl) : SM := (bSeq (bExpr (xCall m_need_table (xCons (xVar 0) xNil)))
  (bSeq (bExpr (xCall m_need_text (xCons (xVar 1) xNil)))
  (bSeq (bAsg (xTup (xCons (xDict1 (xTup (xCons (xC (.int 0)) (xCons (xC (.int 0)) xNil))) (xTup (xCons (xC (.int 0)) (xCons (xTup xNil) xNil)))) (xCons (xC (.bl true)) xNil))) (.many [2, 3]))
  (bSeq (bWhile (xTest (xVar 3)) (bSeq (bAsg (xC (.bl false)) (.one 3))
  (bFor F (xIter (xBlt fListA (xCons (xVar 2) xNil))) (.many [4, 5]) (fun F1 => (bFor F1 (xIter (xBin opIx (xVar 0) (xC (.int 1)))) (.many [6, 7, 8, 9]) (fun F2 => (bIf (xAnd (xTest (xBin opEq (xVar 6) (xVar 5))) (xTest (xMeth .str (mStarts) (xVar 1) (xCons (xVar 7) (xCons (xVar 4) xNil))))) (bSeq (bAsg (xBin opIx (xVar 2) (xTup (xCons (xVar 4) (xCons (xVar 5) xNil)))) (.many [10, 11]))
  (bSeq (bPar 12 13 (xTup (xCons (xBin opAdd (xVar 10) (xBlt fLen (xCons (xVar 8) xNil))) (xCons (xBin opAdd (xVar 11) (xVar 8)) xNil))) (xTup (xCons (xBin opAdd (xVar 4) (xBlt fLen (xCons (xVar 7) xNil))) (xCons (xVar 9) xNil))))
  (bIf (xOr (xTest (xBin opNotIn (xVar 13) (xVar 2))) (xTest (xBin opLtA (xVar 12) (xBin opIx (xVar 2) (xVar 13))))) (bSeq (bPut F2 (xVar 12) (xVar 2) (xVar 13))
  (bAsg (xC (.bl true)) (.one 3))) bNext))) bNext)))))))
  (bSeq (bAsg (xLc F [13] (xIter (xVar 2)) (.one 13) (fun F' => (xTest (xBin opEq (xBin opIx (xVar 13) (xC (.int 0))) (xBlt fLen (xCons (xVar 1) xNil))))) (fun F' => (xBin opIx (xVar 2) (xVar 13)))) (.one 14))
  (bRet (xIf (xTest (xBin opNe (xVar 14) (xLst xNil))) (xBin opIx (xBlt fMin (xCons (xVar 14) xNil)) (xC (.int 1))) (xC .non))))))))
def m_write : Fn := runP 15 b_write
def b_spread (F : Fl) : SM := (bSeq (bPar 2 3 (xLst xNil) (xBlt fListA (xCons (xVar 1) xNil)))
  (bSeq (bWhile (xTest (xBin opNe (xVar 3) (xLst xNil))) (bSeq (bAsg (xMeth .list (mPop F) (xVar 3) xNil) (.one 4))
  (bIf (xTest (xBin opNotIn (xVar 4) (xVar 2))) (bSeq (bExpr (xMeth .list (mAppend F) (xVar 2) (xCons (xVar 4) xNil)))
  (bIf (xTest (xBin opEq (xBin opIx (xVar 4) (xC (.int 1))) (xC (.str [])))) (bExpr (xMeth .list (mExtend F) (xVar 3) (xCons (xLc F [5] (xIter (xBin opIx (xVar 0) (xC (.int 1)))) (.one 5) (fun F' => (xAnd (xTest (xBin opEq (xBin opIx (xVar 5) (xC (.int 0))) (xBin opIx (xVar 4) (xC (.int 0))))) (xTest (xBin opEq (xBin opIx (xVar 5) (xC (.int 1))) (xC (.str [])))))) (fun F' => (xTup (xCons (xBin opIx (xVar 5) (xC (.int 3))) (xCons (xC (.str [])) xNil))))) xNil))) bNext)) bNext)))
  (bRet (xBlt fTupOf (xCons (xBlt fSortedA (xCons (xVar 2) xNil)) xNil)))))
def m_spread : Fn := runP 6 b_spread
def b_lettered (F : Fl) : SM := (bSeq (bAsg (xLst xNil) (.one 3))
  (bSeq (bFor F (xIter (xVar 1)) (.many [4, 5]) (fun F1 => (bSeq (bIf (xTest (xBin opNe (xVar 5) (xC (.str [])))) (bSeq (bIf (xTest (xBin opEq (xBin opIx (xVar 5) (xC (.int 0))) (xVar 2))) (bExpr (xMeth .list (mAppend F1) (xVar 3) (xCons (xTup (xCons (xVar 4) (xCons (xSl (xVar 5) (xPart (xC (.int 1))) xNoPart) xNil))) xNil))) bNext)
  bCont) bNext)
  (bFor F1 (xIter (xBin opIx (xVar 0) (xC (.int 1)))) (.many [6, 7, 8, 9]) (fun F2 => (bIf (xAnd (xTest (xBin opEq (xVar 6) (xVar 4))) (xTest (xMeth .str (mStarts) (xVar 7) (xCons (xVar 2) xNil)))) (bExpr (xMeth .list (mAppend F2) (xVar 3) (xCons (xTup (xCons (xVar 9) (xCons (xSl (xVar 7) (xPart (xC (.int 1))) xNoPart) xNil))) xNil))) bNext))))))
  (bRet (xCall m_spread (xCons (xVar 0) (xCons (xVar 3) xNil))))))
def m_lettered : Fn := runP 10 b_lettered
def b_unwritable (F : Fl) : SM := (bSeq (bExpr (xCall m_need_table (xCons (xVar 0) xNil)))
  (bSeq (bIf (xOr (xNot (xTest (xCall m_are_letters (xCons (xVar 1) (xCons (xC (.int 5)) xNil))))) (xOr (xTest (xBin opEq (xVar 1) (xC (.str [])))) (xTest (xBin opNe (xLenSet (xVar 1)) (xBlt fLen (xCons (xVar 1) xNil)))))) bNever bNext)
  (bSeq (bAsg (xCall m_spread (xCons (xVar 0) (xCons (xLst (xCons (xTup (xCons (xC (.int 0)) (xCons (xC (.str [])) xNil))) xNil)) xNil))) (.one 2))
  (bSeq (bPar 3 4 (xDict1 (xVar 2) (xC (.bl true))) (xLst (xCons (xTup (xCons (xVar 2) (xCons (xC (.str [])) xNil))) xNil)))
  (bSeq (bWhile (xTest (xBin opNe (xVar 4) (xLst xNil))) (bSeq (bAsg (xLst xNil) (.one 5))
  (bSeq (bFor F (xIter (xVar 4)) (.many [6, 7]) (fun F1 => (bSeq (bIf (xNot (xTest (xBlt fAny (xCons (xLc F1 [10, 11] (xIter (xVar 6)) (.many [10, 11]) (fun F' => xYes) (fun F' => (xBin opEq (xVar 11) (xC (.str []))))) xNil)))) (bRet (xVar 7)) bNext)
  (bFor F1 (xIter (xBlt fSortedA (xCons (xVar 1) xNil))) (.one 8) (fun F2 => (bSeq (bAsg (xCall m_lettered (xCons (xVar 0) (xCons (xVar 6) (xCons (xVar 8) xNil)))) (.one 9))
  (bIf (xTest (xBin opNotIn (xVar 9) (xVar 3))) (bSeq (bPut F2 (xC (.bl true)) (xVar 3) (xVar 9))
  (bExpr (xMeth .list (mAppend F2) (xVar 5) (xCons (xTup (xCons (xVar 9) (xCons (xBin opAdd (xVar 7) (xVar 8)) xNil))) xNil)))) bNext)))))))
  (bAsg (xVar 5) (.one 4)))))
  (bRet (xC .non)))))))
def m_unwritable : Fn := runP 12 b_unwritable
def b_pair_graph (F : Fl) : SM := (bSeq (bPar 3 4 xDict0 (xLst (xCons (xTup (xCons (xC (.tup [.int 0, .int (-1), .int 0])) (xCons (xC (.tup [.int 0, .int (-1), .int 0])) xNil))) xNil)))
  (bSeq (bWhile (xTest (xBin opNe (xVar 4) (xLst xNil))) (bSeq (bAsg (xMeth .list (mPop F) (xVar 4) xNil) (.one 5))
  (bIf (xTest (xBin opNotIn (xVar 5) (xVar 3))) (bSeq (bPut F (xLst xNil) (xVar 3) (xVar 5))
  (bSeq (bFor F (xIter (xVar 2)) (.one 6) (fun F1 => (bFor F1 (xIter (xCall m_stepped (xCons (xVar 0) (xCons (xBin opIx (xVar 5) (xC (.int 0))) (xCons (xVar 6) xNil))))) (.many [7, 8]) (fun F2 => (bExpr (xMeth .list (mExtend F2) (xBin opIx (xVar 3) (xVar 5)) (xCons (xLc F2 [9, 10] (xIter (xCall m_stepped (xCons (xVar 1) (xCons (xBin opIx (xVar 5) (xC (.int 1))) (xCons (xVar 6) xNil))))) (.many [9, 10]) (fun F' => xYes) (fun F' => (xTup (xCons (xVar 7) (xCons (xVar 9) xNil))))) xNil)))))))
  (bExpr (xMeth .list (mExtend F) (xVar 4) (xCons (xBin opIx (xVar 3) (xVar 5)) xNil))))) bNext)))
  (bRet (xVar 3))))
def m_pair_graph : Fn := runP 11 b_pair_graph
def b_alive_from (F : Fl) : SM := (bSeq (bAsg (xDc F [2] (xIter (xVar 0)) (.one 2) (fun F' => (xVar 2)) (fun F' => (xLst xNil))) (.one 3))
  (bSeq (bFor F (xIter (xVar 0)) (.one 2) (fun F1 => (bFor F1 (xIter (xBin opIx (xVar 0) (xVar 2))) (.one 4) (fun F2 => (bExpr (xMeth .list (mAppend F2) (xBin opIx (xVar 3) (xVar 4)) (xCons (xVar 2) xNil)))))))
  (bSeq (bPar 5 6 xDict0 (xBlt fListA (xCons (xVar 1) xNil)))
  (bSeq (bWhile (xTest (xBin opNe (xVar 6) (xLst xNil))) (bSeq (bAsg (xMeth .list (mPop F) (xVar 6) xNil) (.one 2))
  (bIf (xTest (xBin opNotIn (xVar 2) (xVar 5))) (bSeq (bPut F (xC (.bl true)) (xVar 5) (xVar 2))
  (bExpr (xMeth .list (mExtend F) (xVar 6) (xCons (xBin opIx (xVar 3) (xVar 2)) xNil)))) bNext)))
  (bRet (xVar 5))))))
def m_alive_from : Fn := runP 7 b_alive_from
def b_first_part (F : Fl) : SM := (bRet (xBin opIx (xVar 0) (xC (.int 0))))
def m_first_part : Fn := runP 1 b_first_part
def b_split (F : Fl) : SM := (bSeq (bWhile (xAnd (xTest (xBin opNe (xVar 0) (xC (.str [])))) (xAnd (xTest (xBin opNe (xVar 1) (xC (.str [])))) (xTest (xBin opEq (xBin opIx (xVar 0) (xC (.int 0))) (xBin opIx (xVar 1) (xC (.int 0))))))) (bPar 0 1 (xSl (xVar 0) (xPart (xC (.int 1))) xNoPart) (xSl (xVar 1) (xPart (xC (.int 1))) xNoPart)))
  (bRet (xIf (xAnd (xTest (xBin opNe (xVar 0) (xC (.str [])))) (xTest (xBin opNe (xVar 1) (xC (.str []))))) (xC .non) (xTup (xCons (xVar 0) (xCons (xVar 1) xNil))))))
def m_split : Fn := runP 2 b_split
def b_followers (F : Fl) : SM := (bSeq (bAsg (xVar 2) (.many [4, 5]))
  (bSeq (bAsg (xLst xNil) (.one 6))
  (bSeq (bFor F (xIter (xCall m_stepped (xCons (xVar 0) (xCons (xBin opIx (xVar 4) (xC (.int 0))) (xCons (xVar 3) xNil))))) (.many [7, 8]) (fun F1 => (bFor F1 (xIter (xCall m_stepped (xCons (xVar 1) (xCons (xBin opIx (xVar 4) (xC (.int 1))) (xCons (xVar 3) xNil))))) (.many [9, 10]) (fun F2 => (bSeq (bAsg (xIf (xTest (xBin opIs (xVar 5) (xC .non))) (xC .non) (xCall m_split (xCons (xBin opAdd (xBin opIx (xVar 5) (xC (.int 0))) (xVar 8)) (xCons (xBin opAdd (xBin opIx (xVar 5) (xC (.int 1))) (xVar 10)) xNil)))) (.one 11))
  (bExpr (xMeth .list (mAppend F2) (xVar 6) (xCons (xTup (xCons (xTup (xCons (xVar 7) (xCons (xVar 9) xNil))) (xCons (xVar 11) xNil))) xNil))))))))
  (bRet (xVar 6)))))
def m_followers : Fn := runP 12 b_followers
def b_unlike (F : Fl) : SM := (bSeq (bAsg (xCall m_pair_graph (xCons (xVar 0) (xCons (xVar 1) (xCons (xVar 2) xNil)))) (.one 3))
  (bSeq (bAsg (xCall m_alive_from (xCons (xVar 3) (xCons (xLc F [12] (xIter (xVar 3)) (.one 12) (fun F' => (xAnd (xTest (xCall m_is_end (xCons (xBin opIx (xVar 12) (xC (.int 0))) xNil))) (xTest (xCall m_is_end (xCons (xBin opIx (xVar 12) (xC (.int 1))) xNil))))) (fun F' => (xVar 12))) xNil))) (.one 4))
  (bSeq (bAsg (xTup (xCons (xTup (xCons (xC (.tup [.int 0, .int (-1), .int 0])) (xCons (xC (.tup [.int 0, .int (-1), .int 0])) xNil))) (xCons (xTup (xCons (xC (.str [])) (xCons (xC (.str [])) xNil))) xNil))) (.one 5))
  (bSeq (bPar 6 7 (xDict1 (xVar 5) (xC (.bl true))) (xLst (xCons (xTup (xCons (xVar 5) (xCons (xTup xNil) xNil))) xNil)))
  (bSeq (bWhile (xTest (xBin opNe (xVar 7) (xLst xNil))) (bSeq (bFor F (xIter (xVar 7)) (.many [8, 9]) (fun F1 => (bIf (xAnd (xTest (xBin opNe (xBin opIx (xVar 8) (xC (.int 1))) (xTup (xCons (xC (.str [])) (xCons (xC (.str [])) xNil))))) (xAnd (xTest (xCall m_is_end (xCons (xBin opIx (xBin opIx (xVar 8) (xC (.int 0))) (xC (.int 0))) xNil))) (xTest (xCall m_is_end (xCons (xBin opIx (xBin opIx (xVar 8) (xC (.int 0))) (xC (.int 1))) xNil))))) (bRet (xVar 9)) bNext)))
  (bSeq (bPar 10 7 (xLc2 [8, 9, 13] (xIter (xVar 7)) (.many [8, 9]) xYes (xIter (xVar 2)) (.one 13) [13] xYes (xTup (xCons (xBin opAdd (xVar 9) (xTup (xCons (xVar 13) xNil))) (xCons (xVar 8) xNil)))) (xLst xNil))
  (bFor F (xIter (xSortKey (xCons (xVar 10) xNil))) (.many [9, 8]) (fun F2 => (bFor F2 (xIter (xCall m_followers (xCons (xVar 0) (xCons (xVar 1) (xCons (xVar 8) (xCons (xBin opIx (xVar 9) (xC (.int (-1)))) xNil)))))) (.one 11) (fun F3 => (bIf (xAnd (xTest (xBin opIn (xBin opIx (xVar 11) (xC (.int 0))) (xVar 4))) (xTest (xBin opNotIn (xVar 11) (xVar 6)))) (bSeq (bPut F3 (xC (.bl true)) (xVar 6) (xVar 11))
  (bExpr (xMeth .list (mAppend F3) (xVar 7) (xCons (xTup (xCons (xVar 11) (xCons (xVar 9) xNil))) xNil)))) bNext))))))))
  (bRet (xC .non)))))))
def m_unlike : Fn := runP 14 b_unlike
def b_moved (F : Fl) : SM := (bSeq (bAsg (xLst xNil) (.one 3))
  (bSeq (bFor F (xIter (xVar 1)) (.one 4) (fun F1 => (bExpr (xMeth .list (mExtend F1) (xVar 3) (xCons (xLc F1 [5, 6] (xIter (xCall m_stepped (xCons (xVar 0) (xCons (xVar 4) (xCons (xVar 2) xNil))))) (.many [5, 6]) (fun F' => xYes) (fun F' => (xVar 5))) xNil)))))
  (bRet (xBlt fTupOf (xCons (xSortedSet (xVar 3)) xNil)))))
def m_moved : Fn := runP 7 b_moved
def b_unread (F : Fl) : SM := (bSeq (bAsg (xTup (xCons (xTup (xCons (xC (.tup [.int 0, .int (-1), .int 0])) xNil)) (xCons (xTup (xCons (xC (.tup [.int 0, .int (-1), .int 0])) xNil)) xNil))) (.one 3))
  (bSeq (bPar 4 5 (xDict1 (xVar 3) (xC (.bl true))) (xLst (xCons (xTup (xCons (xVar 3) (xCons (xTup xNil) xNil))) xNil)))
  (bSeq (bWhile (xTest (xBin opNe (xVar 5) (xLst xNil))) (bSeq (bAsg (xLst xNil) (.one 6))
  (bSeq (bFor F (xIter (xVar 5)) (.many [7, 8]) (fun F1 => (bSeq (bIf (xTest (xBin opNe (xBlt fAny (xCons (xLc F1 [11] (xIter (xBin opIx (xVar 7) (xC (.int 0)))) (.one 11) (fun F' => xYes) (fun F' => (xCall m_is_end (xCons (xVar 11) xNil)))) xNil)) (xBlt fAny (xCons (xLc F1 [11] (xIter (xBin opIx (xVar 7) (xC (.int 1)))) (.one 11) (fun F' => xYes) (fun F' => (xCall m_is_end (xCons (xVar 11) xNil)))) xNil)))) (bRet (xVar 8)) bNext)
  (bFor F1 (xIter (xVar 2)) (.one 9) (fun F2 => (bSeq (bAsg (xTup (xCons (xCall m_moved (xCons (xVar 0) (xCons (xBin opIx (xVar 7) (xC (.int 0))) (xCons (xVar 9) xNil)))) (xCons (xCall m_moved (xCons (xVar 1) (xCons (xBin opIx (xVar 7) (xC (.int 1))) (xCons (xVar 9) xNil)))) xNil))) (.one 10))
  (bIf (xTest (xBin opNotIn (xVar 10) (xVar 4))) (bSeq (bPut F2 (xC (.bl true)) (xVar 4) (xVar 10))
  (bExpr (xMeth .list (mAppend F2) (xVar 6) (xCons (xTup (xCons (xVar 10) (xCons (xBin opAdd (xVar 8) (xTup (xCons (xVar 9) xNil))) xNil))) xNil)))) bNext)))))))
  (bAsg (xVar 6) (.one 5)))))
  (bRet (xC .non)))))
def m_unread : Fn := runP 12 b_unread
def b_cells_of (F : Fl) : SM := (bRet (xSortedSet (xLc2 [1, 2] (xIter (xBin opIx (xVar 0) (xC (.int 1)))) (.one 1) xYes (xIter (xBin opIx (xVar 1) (xC (.int 2)))) (.one 2) [2] xYes (xVar 2))))
def m_cells_of : Fn := runP 3 b_cells_of
def b_double (F : Fl) : SM := (bSeq (bExpr (xCall m_need_table (xCons (xVar 0) xNil)))
  (bRet (xCall m_unlike (xCons (xVar 0) (xCons (xVar 0) (xCons (xCall m_cells_of (xCons (xVar 0) xNil)) xNil))))))
def m_double : Fn := runP 1 b_double
def b_difference (F : Fl) : SM := (bSeq (bExpr (xCall m_need_table (xCons (xVar 0) xNil)))
  (bSeq (bExpr (xCall m_need_table (xCons (xVar 1) xNil)))
  (bSeq (bIf (xOr (xTest (xBin opIsNot (xCall m_double (xCons (xVar 0) xNil)) (xC .non))) (xTest (xBin opIsNot (xCall m_double (xCons (xVar 1) xNil)) (xC .non)))) bNever bNext)
  (bSeq (bAsg (xSortedSet (xBin opAdd (xCall m_cells_of (xCons (xVar 0) xNil)) (xCall m_cells_of (xCons (xVar 1) xNil)))) (.one 2))
  (bSeq (bAsg (xTup (xCons (xCall m_unlike (xCons (xVar 0) (xCons (xVar 1) (xCons (xVar 2) xNil)))) (xCons (xCall m_unread (xCons (xVar 0) (xCons (xVar 1) (xCons (xVar 2) xNil)))) xNil))) (.one 3))
  (bSeq (bAsg (xLc F [5] (xIter (xVar 3)) (.one 5) (fun F' => (xTest (xBin opIsNot (xVar 5) (xC .non)))) (fun F' => (xTup (xCons (xBlt fLen (xCons (xVar 5) xNil)) (xCons (xVar 5) xNil))))) (.one 4))
  (bRet (xIf (xTest (xBin opNe (xVar 4) (xLst xNil))) (xBin opIx (xBlt fMin (xCons (xVar 4) xNil)) (xC (.int 1))) (xC .non)))))))))
def m_difference : Fn := runP 6 b_difference
def b_sources (F : Fl) : SM := (bSeq (bPar3 1 2 3 xDict0 (xLst (xCons (xC (.tup [.int 0, .int (-1), .int 0])) xNil)) (xLst xNil))
  (bSeq (bWhile (xTest (xBin opNe (xVar 2) (xLst xNil))) (bSeq (bAsg (xMeth .list (mPop F) (xVar 2) xNil) (.one 4))
  (bSeq (bIf (xTest (xBin opIn (xVar 4) (xVar 3))) bCont bNext)
  (bSeq (bExpr (xMeth .list (mAppend F) (xVar 3) (xCons (xVar 4) xNil)))
  (bFor F (xIter (xCall m_cells_of (xCons (xVar 0) xNil))) (.one 5) (fun F1 => (bFor F1 (xIter (xCall m_stepped (xCons (xVar 0) (xCons (xVar 4) (xCons (xVar 5) xNil))))) (.many [6, 7]) (fun F2 => (bSeq (bExpr (xMeth .list (mAppend F2) (xMeth .dict (mSetd F2) (xVar 1) (xCons (xTup (xCons (xVar 6) (xCons (xVar 5) xNil))) (xCons (xLst xNil) xNil))) (xCons (xVar 4) xNil)))
  (bExpr (xMeth .list (mAppend F2) (xVar 2) (xCons (xVar 6) xNil))))))))))))
  (bRet (xTup (xCons (xVar 1) (xCons (xVar 3) xNil))))))
def m_sources : Fn := runP 8 b_sources
def b_turned (F : Fl) : SM := (bRet (xMeth .str (mJoin) (xC (.str [])) (xCons (xBlt fSortedA (xCons (xLc F [1] (xIter (xVar 0)) (.one 1) (fun F' => xYes) (fun F' => (xBin opIx (xC (.str [52, 53, 54, 49, 50, 51])) (xMeth .str (mIndex) (xC (.str [49, 50, 51, 52, 53, 54])) (xCons (xVar 1) xNil))))) xNil)) xNil)))
def m_turned : Fn := runP 2 b_turned
def b_both_sides (F : Fl) : SM := (bSeq (bExpr (xCall m_need_table (xCons (xVar 0) xNil)))
  (bSeq (bAsg (xCall m_sources (xCons (xVar 0) xNil)) (.many [1, 2]))
  (bSeq (bAsg (xLc F [11] (xIter (xVar 2)) (.one 11) (fun F' => (xTest (xCall m_is_end (xCons (xVar 11) xNil)))) (fun F' => (xTup (xCons (xTup (xCons (xC (.tup [.int 0, .int (-1), .int 0])) (xCons (xVar 11) xNil))) (xCons (xTup xNil) xNil))))) (.one 3))
  (bSeq (bAsg (xDc F [4, 5] (xIter (xVar 3)) (.many [4, 5]) (fun F' => (xVar 4)) (fun F' => (xC (.bl true)))) (.one 6))
  (bSeq (bWhile (xTest (xBin opNe (xVar 3) (xLst xNil))) (bSeq (bPar 7 3 (xLc2 [4, 5, 12] (xIter (xVar 3)) (.many [4, 5]) xYes (xIter (xCall m_cells_of (xCons (xVar 0) xNil))) (.one 12) [12] xYes (xTup (xCons (xBin opAdd (xVar 5) (xTup (xCons (xVar 12) xNil))) (xCons (xVar 4) xNil)))) (xLst xNil))
  (bFor F (xIter (xSortKey (xCons (xVar 7) xNil))) (.many [5, 4]) (fun F1 => (bFor F1 (xIter (xCall m_stepped (xCons (xVar 0) (xCons (xBin opIx (xVar 4) (xC (.int 0))) (xCons (xBin opIx (xVar 5) (xC (.int (-1)))) xNil))))) (.many [8, 9]) (fun F2 => (bFor F2 (xIter (xMeth .dict (mGet) (xVar 1) (xCons (xTup (xCons (xBin opIx (xVar 4) (xC (.int 1))) (xCons (xCall m_turned (xCons (xBin opIx (xVar 5) (xC (.int (-1)))) xNil)) xNil))) (xCons (xLst xNil) xNil)))) (.one 10) (fun F3 => (bSeq (bIf (xAnd (xTest (xCall m_is_end (xCons (xVar 8) xNil))) (xTest (xBin opEq (xVar 10) (xC (.tup [.int 0, .int (-1), .int 0]))))) (bRet (xVar 5)) bNext)
  (bIf (xTest (xBin opNotIn (xTup (xCons (xVar 8) (xCons (xVar 10) xNil))) (xVar 6))) (bSeq (bPut F3 (xC (.bl true)) (xVar 6) (xTup (xCons (xVar 8) (xCons (xVar 10) xNil))))
  (bExpr (xMeth .list (mAppend F3) (xVar 3) (xCons (xTup (xCons (xTup (xCons (xVar 8) (xCons (xVar 10) xNil))) (xCons (xVar 5) xNil))) xNil)))) bNext))))))))))
  (bRet (xC .non)))))))
def m_both_sides : Fn := runP 13 b_both_sides
def b__law_writings (F : Fl) : SM := (bSeq (bPar 2 3 (xLst (xCons (xTup xNil) xNil)) (xLst (xCons (xTup xNil) xNil)))
  (bSeq (bFor F (xRange1 (xVar 1)) (.one 4) (fun F1 => (bSeq (bAsg (xLst xNil) (.one 5))
  (bSeq (bFor F1 (xIter (xVar 3)) (.one 6) (fun F2 => (bExpr (xMeth .list (mExtend F2) (xVar 5) (xCons (xLc F2 [7] (xIter (xVar 0)) (.one 7) (fun F' => xYes) (fun F' => (xBin opAdd (xVar 6) (xTup (xCons (xVar 7) xNil))))) xNil)))))
  (bSeq (bExpr (xMeth .list (mExtend F1) (xVar 2) (xCons (xVar 5) xNil)))
  (bAsg (xVar 5) (.one 3)))))))
  (bRet (xVar 2))))
def m__law_writings : Fn := runP 8 b__law_writings
def b__law_fewest (F : Fl) : SM := (bSeq (bAsg (xDict1 (xTup (xCons (xC (.int 0)) (xCons (xC (.int 0)) xNil))) (xC (.int 0))) (.one 2))
  (bSeq (bFor F (xRange1 (xC (.int 260))) (.one 3) (fun F1 => (bFor F1 (xIter (xBlt fSortedA (xCons (xVar 2) xNil))) (.one 4) (fun F2 => (bSeq (bIf (xTest (xBin opNe (xBin opIx (xVar 2) (xVar 4)) (xVar 3))) bCont bNext)
  (bFor F2 (xIter (xBin opIx (xVar 0) (xC (.int 1)))) (.many [5, 6, 7, 8]) (fun F3 => (bIf (xAnd (xTest (xBin opEq (xVar 5) (xBin opIx (xVar 4) (xC (.int 1))))) (xTest (xMeth .str (mStarts) (xSl (xVar 1) (xPart (xBin opIx (xVar 4) (xC (.int 0)))) xNoPart) (xCons (xVar 6) xNil)))) (bSeq (bAsg (xTup (xCons (xBin opAdd (xBin opIx (xVar 4) (xC (.int 0))) (xBlt fLen (xCons (xVar 6) xNil))) (xCons (xVar 8) xNil))) (.one 9))
  (bPut F3 (xBlt fMin (xCons (xMeth .dict (mGet) (xVar 2) (xCons (xVar 9) (xCons (xC (.int 999)) xNil))) (xCons (xBin opAdd (xVar 3) (xBlt fLen (xCons (xVar 7) xNil))) xNil))) (xVar 2) (xVar 9))) bNext))))))))
  (bSeq (bAsg (xLc F [4] (xIter (xVar 2)) (.one 4) (fun F' => (xTest (xBin opEq (xBin opIx (xVar 4) (xC (.int 0))) (xBlt fLen (xCons (xVar 1) xNil))))) (fun F' => (xBin opIx (xVar 2) (xVar 4)))) (.one 10))
  (bRet (xIf (xTest (xBin opNe (xVar 10) (xLst xNil))) (xBlt fMin (xCons (xVar 10) xNil)) (xC .non))))))
def m__law_fewest : Fn := runP 11 b__law_fewest
def b__law_reads (F : Fl) : SM := (bSeq (bPar 3 4 (xLst xNil) (xLst (xCons (xTup (xCons (xC (.int 0)) (xCons (xC (.int 0)) (xCons (xC (.int 0)) xNil)))) xNil)))
  (bSeq (bWhile (xTest (xBin opNe (xVar 4) (xLst xNil))) (bSeq (bAsg (xMeth .list (mPop F) (xVar 4) xNil) (.one 5))
  (bIf (xTest (xBin opNotIn (xVar 5) (xVar 3))) (bSeq (bExpr (xMeth .list (mAppend F) (xVar 3) (xCons (xVar 5) xNil)))
  (bFor F (xIter (xBin opIx (xVar 0) (xC (.int 1)))) (.many [6, 7, 8, 9]) (fun F1 => (bIf (xAnd (xTest (xBin opEq (xVar 6) (xBin opIx (xVar 5) (xC (.int 0))))) (xAnd (xTest (xBin opEq (xSl (xVar 1) (xPart (xBin opIx (xVar 5) (xC (.int 1)))) (xPart (xBin opAdd (xBin opIx (xVar 5) (xC (.int 1))) (xBlt fLen (xCons (xVar 8) xNil))))) (xVar 8))) (xTest (xMeth .str (mStarts) (xSl (xVar 2) (xPart (xBin opIx (xVar 5) (xC (.int 2)))) xNoPart) (xCons (xVar 7) xNil))))) (bExpr (xMeth .list (mAppend F1) (xVar 4) (xCons (xTup (xCons (xVar 9) (xCons (xBin opAdd (xBin opIx (xVar 5) (xC (.int 1))) (xBlt fLen (xCons (xVar 8) xNil))) (xCons (xBin opAdd (xBin opIx (xVar 5) (xC (.int 2))) (xBlt fLen (xCons (xVar 7) xNil))) xNil)))) xNil))) bNext)))) bNext)))
  (bRet (xBlt fAny (xCons (xLc F [5] (xIter (xVar 3)) (.one 5) (fun F' => xYes) (fun F' => (xBin opEq (xSl (xVar 5) (xPart (xC (.int 1))) xNoPart) (xTup (xCons (xBlt fLen (xCons (xVar 1) xNil)) (xCons (xBlt fLen (xCons (xVar 2) xNil)) xNil)))))) xNil)))))
def m__law_reads : Fn := runP 10 b__law_reads
def b__law_texts_of (F : Fl) : SM := (bSeq (bPar 2 3 (xLst (xCons (xC (.str [])) xNil)) (xLst (xCons (xC (.str [])) xNil)))
  (bSeq (bFor F (xRange1 (xVar 1)) (.one 4) (fun F1 => (bSeq (bAsg (xLst xNil) (.one 5))
  (bSeq (bFor F1 (xIter (xVar 3)) (.one 6) (fun F2 => (bExpr (xMeth .list (mExtend F2) (xVar 5) (xCons (xLc F2 [7] (xIter (xBlt fSortedA (xCons (xVar 0) xNil))) (.one 7) (fun F' => xYes) (fun F' => (xBin opAdd (xVar 6) (xVar 7)))) xNil)))))
  (bSeq (bExpr (xMeth .list (mExtend F1) (xVar 2) (xCons (xVar 5) xNil)))
  (bAsg (xVar 5) (.one 3)))))))
  (bRet (xVar 2))))
def m__law_texts_of : Fn := runP 8 b__law_texts_of
def b__law_can (F : Fl) : SM := (bSeq (bPar 2 3 (xLst xNil) (xLst (xCons (xTup (xCons (xC (.int 0)) (xCons (xC (.int 0)) xNil))) xNil)))
  (bSeq (bWhile (xTest (xBin opNe (xVar 3) (xLst xNil))) (bSeq (bAsg (xMeth .list (mPop F) (xVar 3) xNil) (.one 4))
  (bIf (xTest (xBin opNotIn (xVar 4) (xVar 2))) (bSeq (bExpr (xMeth .list (mAppend F) (xVar 2) (xCons (xVar 4) xNil)))
  (bFor F (xIter (xBin opIx (xVar 0) (xC (.int 1)))) (.many [5, 6, 7, 8]) (fun F1 => (bIf (xAnd (xTest (xBin opEq (xVar 5) (xBin opIx (xVar 4) (xC (.int 1))))) (xTest (xMeth .str (mStarts) (xSl (xVar 1) (xPart (xBin opIx (xVar 4) (xC (.int 0)))) xNoPart) (xCons (xVar 6) xNil)))) (bExpr (xMeth .list (mAppend F1) (xVar 3) (xCons (xTup (xCons (xBin opAdd (xBin opIx (xVar 4) (xC (.int 0))) (xBlt fLen (xCons (xVar 6) xNil))) (xCons (xVar 8) xNil))) xNil))) bNext)))) bNext)))
  (bRet (xBlt fAny (xCons (xLc F [4] (xIter (xVar 2)) (.one 4) (fun F' => xYes) (fun F' => (xBin opEq (xBin opIx (xVar 4) (xC (.int 0))) (xBlt fLen (xCons (xVar 1) xNil))))) xNil)))))
def m__law_can : Fn := runP 9 b__law_can
def b_law_k05 (F : Fl) : SM := (bSeq (bAsg (xLst (xCons (xC (.int 0)) (xCons (xC (.int 0)) xNil))) (.one 1))
  (bSeq (bAsg (xCallT F m__law_table (xCons (xVar 0) (xCons (xVar 1) (xCons (xC (.int 8)) xNil)))) (.many [2, 3]))
  (bSeq (bIf (xTest (xBin opEq (xCallT F m__law_draw (xCons (xVar 0) (xCons (xVar 1) (xCons (xC (.int 2)) xNil)))) (xC (.int 0)))) (bSeq (bAsg (xLc F [11] (xIter (xC (.str [97, 98]))) (.one 11) (fun F' => xYes) (fun F' => (xTup (xCons (xCallT F' m__law_draw (xCons (xVar 0) (xCons (xVar 1) (xCons (xVar 2) xNil)))) (xCons (xVar 11) (xCons (xTup (xCons (xC (.str [54])) xNil)) (xCons (xCallT F' m__law_draw (xCons (xVar 0) (xCons (xVar 1) (xCons (xVar 2) xNil)))) xNil))))))) (.one 4))
  (bAsg (xBin opAdd (xVar 3) (xBlt fTupOf (xCons (xLc F [12] (xIter (xVar 4)) (.one 12) (fun F' => (xTest (xBin opNotIn (xVar 12) (xVar 3)))) (fun F' => (xVar 12))) xNil))) (.one 3))) bNext)
  (bSeq (bAsg (xTup (xCons (xVar 2) (xCons (xVar 3) xNil))) (.one 5))
  (bSeq (bFor F (xIter (xTup (xCons (xC (.str [97])) (xCons (xC (.str [97, 98])) (xCons (xC (.str [98, 97])) (xCons (xCallT F m__law_pick (xCons (xVar 0) (xCons (xVar 1) (xCons (xLst (xCons (xC (.str [98])) (xCons (xC (.str [99])) (xCons (xC (.str [99, 97])) (xCons (xC (.str [98, 99, 97])) xNil))))) xNil)))) xNil)))))) (.one 6) (fun F1 => (bSeq (bPar 7 8 (xCall m_unwritable (xCons (xVar 5) (xCons (xVar 6) xNil))) (xC .non))
  (bSeq (bFor F1 (xIter (xCall m__law_texts_of (xCons (xVar 6) (xCons (xIf (xTest (xBin opLtA (xBlt fLen (xCons (xVar 6) xNil)) (xC (.int 3)))) (xC (.int 5)) (xC (.int 3))) xNil)))) (.one 9) (fun F2 => (bIf (xAnd (xTest (xBin opIs (xVar 8) (xC .non))) (xNot (xTest (xCall m__law_can (xCons (xVar 5) (xCons (xVar 9) xNil)))))) (bAsg (xVar 9) (.one 8)) bNext)))
  (bSeq (bIf (xTest (xBin opIsNot (xVar 8) (xC .non))) (bSeq (bIf (xTest (xBin opNe (xVar 7) (xVar 8))) (bRet (xC (.bl false))) bNext)
  bCont) bNext)
  (bSeq (bIf (xAnd (xTest (xBin opIsNot (xVar 7) (xC .non))) (xOr (xTest (xBin opLtA (xBlt fLen (xCons (xVar 7) xNil)) (xC (.int 4)))) (xTest (xCall m__law_can (xCons (xVar 5) (xCons (xVar 7) xNil)))))) (bRet (xC (.bl false))) bNext)
  (bSeq (bIf (xAnd (xTest (xBin opIsNot (xVar 7) (xC .non))) (xNot (xTest (xCall m__law_can (xCons (xVar 5) (xCons (xSl (xVar 7) xNoPart (xPart (xC (.int (-1))))) xNil)))))) (bRet (xC (.bl false))) bNext)
  (bSeq (bAsg (xMeth .str (mJoin) (xC (.str [])) (xCons (xLc F1 [13] (xRange1 (xCallT F1 m__law_draw (xCons (xVar 0) (xCons (xVar 1) (xCons (xC (.int 21)) xNil))))) (.one 13) (fun F' => xYes) (fun F' => (xCallT F' m__law_pick (xCons (xVar 0) (xCons (xVar 1) (xCons (xVar 6) xNil)))))) xNil)) (.one 10))
  (bIf (xAnd (xTest (xBin opIs (xVar 7) (xC .non))) (xOr (xTest (xBin opIs (xCall m_write (xCons (xVar 5) (xCons (xVar 10) xNil))) (xC .non))) (xNot (xTest (xCall m__law_can (xCons (xVar 5) (xCons (xVar 10) xNil))))))) (bRet (xC (.bl false))) bNext)))))))))
  (bRet (xBin opEq (xCall m_unwritable (xCons (xVar 5) (xCons (xC (.str [101])) xNil))) (xC (.str [101])))))))))
def m_law_k05 : Fn := runP 14 b_law_k05
def b__law_nexts (F : Fl) : SM := (bSeq (bPar 2 3 (xLst xNil) (xDict1 (xTup (xCons (xC (.int 0)) (xCons (xC (.int 0)) xNil))) (xC (.bl true))))
  (bSeq (bFor F (xRange1 (xBin opAdd (xBlt fLen (xCons (xVar 1) xNil)) (xC (.int 1)))) (.one 4) (fun F1 => (bFor F1 (xRange1 (xBin opIx (xVar 0) (xC (.int 0)))) (.one 5) (fun F2 => (bSeq (bIf (xTest (xBin opNotIn (xTup (xCons (xVar 4) (xCons (xVar 5) xNil))) (xVar 3))) bCont bNext)
  (bFor F2 (xIter (xBin opIx (xVar 0) (xC (.int 1)))) (.many [6, 7, 8, 9]) (fun F3 => (bSeq (bAsg (xSl (xVar 1) (xPart (xVar 4)) xNoPart) (.one 10))
  (bSeq (bIf (xTest (xBin opNe (xVar 6) (xVar 5))) bCont bNext)
  (bSeq (bIf (xTest (xBin opEq (xVar 8) (xSl (xVar 10) xNoPart (xPart (xBlt fLen (xCons (xVar 8) xNil)))))) (bPut F3 (xC (.bl true)) (xVar 3) (xTup (xCons (xBin opAdd (xVar 4) (xBlt fLen (xCons (xVar 8) xNil))) (xCons (xVar 9) xNil)))) bNext)
  (bIf (xAnd (xTest (xBin opLtA (xBlt fLen (xCons (xVar 10) xNil)) (xBlt fLen (xCons (xVar 8) xNil)))) (xTest (xBin opEq (xSl (xVar 8) xNoPart (xPart (xBlt fLen (xCons (xVar 10) xNil)))) (xVar 10)))) (bExpr (xMeth .list (mAppend F3) (xVar 2) (xCons (xBin opIx (xVar 8) (xBlt fLen (xCons (xVar 10) xNil))) xNil))) bNext)))))))))))
  (bRet (xSortedSet (xVar 2)))))
def m__law_nexts : Fn := runP 11 b__law_nexts
def b__law_cell (F : Fl) : SM := (bRet (xMeth .str (mJoin) (xC (.str [])) (xCons (xBlt fSortedA (xCons (xLc F [2] (xIter (xVar 0)) (.one 2) (fun F' => xYes) (fun F' => (xBin opIx (xVar 1) (xMeth .str (mIndex) (xC (.str [49, 50, 51, 52, 53, 54])) (xCons (xVar 2) xNil))))) xNil)) xNil)))
def m__law_cell : Fn := runP 3 b__law_cell
def b__law_changed (F : Fl) : SM := (bSeq (bAsg (xLst xNil) (.one 3))
  (bSeq (bFor F (xIter (xBin opIx (xVar 0) (xC (.int 1)))) (.many [4, 5, 6, 7]) (fun F1 => (bSeq (bAsg (xMeth .str (mJoin) (xC (.str [])) (xCons (xLc F1 [9] (xIter (xVar 5)) (.one 9) (fun F' => xYes) (fun F' => (xBin opIx (xVar 2) (xMeth .str (mIndex) (xC (.str [97, 98, 99, 100, 101])) (xCons (xVar 9) xNil))))) xNil)) (.one 8))
  (bExpr (xMeth .list (mAppend F1) (xVar 3) (xCons (xTup (xCons (xVar 4) (xCons (xVar 8) (xCons (xBlt fTupOf (xCons (xLc F1 [10] (xIter (xVar 6)) (.one 10) (fun F' => xYes) (fun F' => (xCall m__law_cell (xCons (xVar 10) (xCons (xVar 1) xNil))))) xNil)) (xCons (xVar 7) xNil))))) xNil))))))
  (bRet (xTup (xCons (xBin opIx (xVar 0) (xC (.int 0))) (xCons (xBlt fTupOf (xCons (xVar 3) xNil)) xNil))))))
def m__law_changed : Fn := runP 11 b__law_changed
def b__law_long (F : Fl) : SM := (bRet (xIf (xTest (xBin opIs (xVar 0) (xC .non))) (xC .non) (xBlt fLen (xCons (xVar 0) xNil))))
def m__law_long : Fn := runP 1 b__law_long
def b__law_number_k12 (F : Fl) : SM := (bRet (xIf (xTest (xBin opIs (xVar 0) (xC .non))) (xC (.int 9999)) (xBlt fLen (xCons (xVar 0) xNil))))
def m__law_number_k12 : Fn := runP 1 b__law_number_k12
def b_law_k12 (F : Fl) : SM := (bSeq (bAsg (xLst (xCons (xC (.int 0)) (xCons (xC (.int 0)) xNil))) (.one 1))
  (bSeq (bAsg (xCallT F m__law_table (xCons (xVar 0) (xCons (xVar 1) (xCons (xC (.int 5)) xNil)))) (.one 2))
  (bSeq (bAsg (xCall m__law_cells (xCons (xVar 2) xNil)) (.one 3))
  (bSeq (bAsg (xCallT F m__law_entry (xCons (xVar 0) (xCons (xVar 1) (xCons (xBin opIx (xVar 2) (xC (.int 0))) (xCons (xVar 3) xNil))))) (.one 4))
  (bSeq (bAsg (xIf (xTest (xBin opNotIn (xVar 4) (xBin opIx (xVar 2) (xC (.int 1))))) (xTup (xCons (xBin opIx (xVar 2) (xC (.int 0))) (xCons (xBin opAdd (xBin opIx (xVar 2) (xC (.int 1))) (xTup (xCons (xVar 4) xNil))) xNil))) (xVar 2)) (.one 5))
  (bSeq (bFor F (xRange1 (xC (.int 5))) (.one 6) (fun F1 => (bSeq (bAsg (xCallT F1 m__law_random (xCons (xVar 0) (xCons (xVar 1) (xCons (xVar 2) (xCons (xC (.int 6)) xNil))))) (.many [7, 8]))
  (bSeq (bIf (xTest (xBin opLtA (xCall m_ways (xCons (xVar 5) (xCons (xVar 7) xNil))) (xCall m_ways (xCons (xVar 2) (xCons (xVar 7) xNil))))) (bRet (xC (.bl false))) bNext)
  (bIf (xAnd (xTest (xBin opLe (xBlt fLen (xCons (xVar 8) xNil)) (xC (.int 20)))) (xTest (xBin opGt (xBlt fLen (xCons (xCall m_write (xCons (xVar 5) (xCons (xVar 8) xNil))) xNil)) (xBlt fLen (xCons (xCall m_write (xCons (xVar 2) (xCons (xVar 8) xNil))) xNil))))) (bRet (xC (.bl false))) bNext)))))
  (bSeq (bIf (xTest (xBin opGt (xCall m__law_number_k12 (xCons (xCall m_double (xCons (xVar 5) xNil)) xNil)) (xCall m__law_number_k12 (xCons (xCall m_double (xCons (xVar 2) xNil)) xNil)))) (bRet (xC (.bl false))) bNext)
  (bSeq (bIf (xTest (xBin opGt (xCall m__law_number_k12 (xCons (xCall m_both_sides (xCons (xVar 5) xNil)) xNil)) (xCall m__law_number_k12 (xCons (xCall m_both_sides (xCons (xVar 2) xNil)) xNil)))) (bRet (xC (.bl false))) bNext)
  (bSeq (bIf (xTest (xBin opLtA (xCall m__law_number_k12 (xCons (xCall m_unwritable (xCons (xVar 5) (xCons (xC (.str [97, 98])) xNil))) xNil)) (xCall m__law_number_k12 (xCons (xCall m_unwritable (xCons (xVar 2) (xCons (xC (.str [97, 98])) xNil))) xNil)))) (bRet (xC (.bl false))) bNext)
  (bSeq (bAsg (xTup (xCons (xBin opAdd (xBin opIx (xVar 2) (xC (.int 0))) (xC (.int 1))) (xCons (xBin opAdd (xBin opIx (xVar 2) (xC (.int 1))) (xTup (xCons (xTup (xCons (xBin opIx (xVar 2) (xC (.int 0))) (xCons (xC (.str [101])) (xCons (xTup (xCons (xC (.str [53])) xNil)) (xCons (xC (.int 0)) xNil))))) (xCons (xTup (xCons (xBin opIx (xVar 2) (xC (.int 0))) (xCons (xC (.str [100])) (xCons (xTup (xCons (xC (.str [49])) xNil)) (xCons (xBin opIx (xVar 2) (xC (.int 0))) xNil))))) xNil)))) xNil))) (.one 9))
  (bSeq (bIf (xOr (xTest (xBin opNe (xCall m_double (xCons (xVar 9) xNil)) (xCall m_double (xCons (xVar 2) xNil)))) (xTest (xBin opNe (xCall m_both_sides (xCons (xVar 9) xNil)) (xCall m_both_sides (xCons (xVar 2) xNil))))) (bRet (xC (.bl false))) bNext)
  (bSeq (bIf (xTest (xBin opNe (xCall m_unwritable (xCons (xVar 9) (xCons (xC (.str [97, 98])) xNil))) (xCall m_unwritable (xCons (xVar 2) (xCons (xC (.str [97, 98])) xNil))))) (bRet (xC (.bl false))) bNext)
  (bRet (xAndV (xBin opEq (xCall m_unwritable (xCons (xVar 9) (xCons (xC (.str [100, 101])) xNil))) (xC (.str [100]))) (xBin opEq (xCall m_ways (xCons (xVar 9) (xCons (xTup (xCons (xC (.str [53])) xNil)) xNil))) (xC (.int 0)))))))))))))))))
def m_law_k12 : Fn := runP 10 b_law_k12
def b__law_doubles (F : Fl) : SM := (bSeq (bAsg (xTup (xCons (xC (.int 1)) (xCons (xTup (xCons (xTup (xCons (xC (.int 0)) (xCons (xC (.str [97])) (xCons (xTup (xCons (xVar 0) xNil)) (xCons (xC (.int 0)) xNil))))) (xCons (xTup (xCons (xC (.int 0)) (xCons (xC (.str [98])) (xCons (xTup (xCons (xVar 0) (xCons (xVar 1) xNil))) (xCons (xC (.int 0)) xNil))))) (xCons (xTup (xCons (xC (.int 0)) (xCons (xC (.str [99])) (xCons (xTup (xCons (xVar 1) (xCons (xVar 0) xNil))) (xCons (xC (.int 0)) xNil))))) xNil)))) xNil))) (.one 2))
  (bSeq (bAsg (xTup (xCons (xC (.int 1)) (xCons (xTup (xCons (xTup (xCons (xC (.int 0)) (xCons (xC (.str [97])) (xCons (xTup (xCons (xVar 0) xNil)) (xCons (xC (.int 0)) xNil))))) (xCons (xTup (xCons (xC (.int 0)) (xCons (xC (.str [98])) (xCons (xTup (xCons (xVar 0) (xCons (xVar 1) xNil))) (xCons (xC (.int 0)) xNil))))) (xCons (xTup (xCons (xC (.int 0)) (xCons (xC (.str [99])) (xCons (xTup (xCons (xVar 1) (xCons (xVar 1) xNil))) (xCons (xC (.int 0)) xNil))))) xNil)))) xNil))) (.one 3))
  (bSeq (bIf (xOr (xTest (xBin opNe (xCall m_double (xCons (xVar 2) xNil)) (xTup (xCons (xVar 0) (xCons (xVar 1) (xCons (xVar 0) xNil)))))) (xOr (xTest (xBin opIsNot (xCall m_double (xCons (xVar 3) xNil)) (xC .non))) (xTest (xBin opNe (xCall m_read (xCons (xVar 3) (xCons (xTup (xCons (xVar 0) (xCons (xVar 1) (xCons (xVar 1) xNil)))) xNil))) (xC (.str [97, 99])))))) (bRet (xC (.bl false))) bNext)
  (bSeq (bIf (xTest (xBin opNe (xCall m_read (xCons (xVar 3) (xCons (xTup (xCons (xVar 0) (xCons (xVar 1) (xCons (xVar 1) (xCons (xVar 1) xNil))))) xNil))) (xC (.str [98, 99])))) (bRet (xC (.bl false))) bNext)
  (bSeq (bAsg (xTup (xCons (xC (.int 1)) (xCons (xTup (xCons (xTup (xCons (xC (.int 0)) (xCons (xC (.str [97])) (xCons (xTup (xCons (xVar 0) xNil)) (xCons (xC (.int 0)) xNil))))) (xCons (xTup (xCons (xC (.int 0)) (xCons (xC (.str [97, 97])) (xCons (xTup (xCons (xVar 0) (xCons (xVar 0) xNil))) (xCons (xC (.int 0)) xNil))))) xNil))) xNil))) (.one 4))
  (bSeq (bIf (xOr (xTest (xBin opIsNot (xCall m_double (xCons (xVar 4) xNil)) (xC .non))) (xOr (xTest (xBin opNe (xCall m_ways (xCons (xVar 4) (xCons (xBin opMul (xTup (xCons (xVar 0) xNil)) (xC (.int 6))) xNil))) (xC (.int 13)))) (xTest (xBin opNe (xCall m_read (xCons (xVar 4) (xCons (xBin opMul (xTup (xCons (xVar 0) xNil)) (xC (.int 6))) xNil))) (xC (.str [97, 97, 97, 97, 97, 97])))))) (bRet (xC (.bl false))) bNext)
  (bSeq (bAsg (xTup (xCons (xTup (xCons (xC (.int 1)) (xCons (xC (.str [97])) (xCons (xTup (xCons (xC (.str [50])) xNil)) (xCons (xC (.int 0)) xNil))))) (xCons (xTup (xCons (xC (.int 1)) (xCons (xC (.str [99])) (xCons (xTup (xCons (xC (.str [51])) xNil)) (xCons (xC (.int 0)) xNil))))) (xCons (xTup (xCons (xC (.int 1)) (xCons (xC (.str [100])) (xCons (xTup (xCons (xC (.str [51])) xNil)) (xCons (xC (.int 0)) xNil))))) xNil)))) (.one 5))
  (bSeq (bAsg (xTup (xCons (xC (.int 2)) (xCons (xBin opAdd (xTup (xCons (xTup (xCons (xC (.int 0)) (xCons (xC (.str [97])) (xCons (xTup (xCons (xC (.str [49])) xNil)) (xCons (xC (.int 1)) xNil))))) (xCons (xTup (xCons (xC (.int 0)) (xCons (xC (.str [98])) (xCons (xTup (xCons (xC (.str [49])) (xCons (xC (.str [50])) xNil))) (xCons (xC (.int 0)) xNil))))) xNil))) (xVar 5)) xNil))) (.one 6))
  (bRet (xAndV (xBin opEq (xCall m_double (xCons (xVar 6) xNil)) (xTup (xCons (xC (.str [49])) (xCons (xC (.str [50])) xNil)))) (xBin opEq (xCall m_difference (xCons (xVar 3) (xCons (xVar 4) xNil))) (xBlt fMin (xCons (xTup (xCons (xVar 0) (xCons (xVar 1) xNil))) (xCons (xTup (xCons (xVar 1) (xCons (xVar 1) xNil))) xNil))))))))))))))
def m__law_doubles : Fn := runP 7 b__law_doubles
def b__law_shifts (F : Fl) : SM := (bSeq (bAsg (xTup (xCons (xC (.int 2)) (xCons (xTup (xCons (xTup (xCons (xC (.int 0)) (xCons (xC (.str [97])) (xCons (xTup (xCons (xC (.str [49])) xNil)) (xCons (xC (.int 0)) xNil))))) (xCons (xTup (xCons (xC (.int 0)) (xCons (xC (.str [])) (xCons (xTup (xCons (xC (.str [54])) xNil)) (xCons (xC (.int 1)) xNil))))) (xCons (xTup (xCons (xC (.int 1)) (xCons (xC (.str [98])) (xCons (xTup (xCons (xC (.str [49])) xNil)) (xCons (xC (.int 0)) xNil))))) xNil)))) xNil))) (.one 1))
  (bSeq (bAsg (xTup (xCons (xC (.int 2)) (xCons (xTup (xCons (xTup (xCons (xC (.int 0)) (xCons (xC (.str [97])) (xCons (xTup (xCons (xC (.str [49])) xNil)) (xCons (xC (.int 0)) xNil))))) (xCons (xTup (xCons (xC (.int 0)) (xCons (xC (.str [])) (xCons (xTup (xCons (xC (.str [54])) xNil)) (xCons (xC (.int 1)) xNil))))) (xCons (xTup (xCons (xC (.int 1)) (xCons (xC (.str [98])) (xCons (xTup (xCons (xC (.str [49])) xNil)) (xCons (xC (.int 1)) xNil))))) (xCons (xTup (xCons (xC (.int 1)) (xCons (xC (.str [])) (xCons (xTup (xCons (xC (.str [51])) xNil)) (xCons (xC (.int 0)) xNil))))) xNil))))) xNil))) (.one 2))
  (bSeq (bIf (xTest (xBin opNe (xCall m_write (xCons (xVar 1) (xCons (xBin opMul (xC (.str [98])) (xVar 0)) xNil))) (xBin opMul (xTup (xCons (xC (.str [54])) (xCons (xC (.str [49])) xNil))) (xVar 0)))) (bRet (xC (.bl false))) bNext)
  (bSeq (bIf (xTest (xBin opNe (xCall m_write (xCons (xVar 2) (xCons (xBin opMul (xC (.str [98])) (xVar 0)) xNil))) (xIf (xTest (xBin opGt (xVar 0) (xC (.int 0)))) (xBin opAdd (xTup (xCons (xC (.str [54])) xNil)) (xBin opMul (xTup (xCons (xC (.str [49])) xNil)) (xVar 0))) (xTup xNil)))) (bRet (xC (.bl false))) bNext)
  (bSeq (bIf (xTest (xBin opNe (xCall m_write (xCons (xVar 2) (xCons (xBin opMul (xC (.str [97, 98])) (xC (.int 3))) xNil))) (xBin opAdd (xBin opMul (xTup (xCons (xC (.str [49])) (xCons (xC (.str [54])) (xCons (xC (.str [49])) (xCons (xC (.str [51])) xNil))))) (xC (.int 2))) (xTup (xCons (xC (.str [49])) (xCons (xC (.str [54])) (xCons (xC (.str [49])) xNil))))))) (bRet (xC (.bl false))) bNext)
  (bSeq (bIf (xTest (xBin opIsNot (xCall m_unwritable (xCons (xVar 2) (xCons (xC (.str [97, 98])) xNil))) (xC .non))) (bRet (xC (.bl false))) bNext)
  (bRet (xAndV (xBin opIs (xCall m_read (xCons (xVar 1) (xCons (xTup (xCons (xC (.str [54])) (xCons (xC (.str [54])) xNil))) xNil))) (xC .non)) (xAndV (xBin opEq (xCall m_read (xCons (xVar 2) (xCons (xTup (xCons (xC (.str [54])) (xCons (xC (.str [51])) (xCons (xC (.str [54])) xNil)))) xNil))) (xC (.str []))) (xBin opIs (xCall m_double (xCons (xVar 2) xNil)) (xC .non)))))))))))
def m__law_shifts : Fn := runP 3 b__law_shifts
def b_law_k14 (F : Fl) : SM := (bSeq (bAsg (xLst (xCons (xC (.int 0)) (xCons (xC (.int 0)) xNil))) (.one 1))
  (bSeq (bAsg (xCallT F m__law_pick (xCons (xVar 0) (xCons (xVar 1) (xCons (xLst (xCons (xTup (xCons (xC (.str [49])) (xCons (xC (.str [50])) xNil))) (xCons (xTup (xCons (xC (.str [])) (xCons (xC (.str [52])) xNil))) (xCons (xTup (xCons (xC (.str [50, 53])) (xCons (xC (.str [49, 52])) xNil))) (xCons (xTup (xCons (xC (.str [49, 50, 51])) (xCons (xC (.str [54])) xNil))) xNil))))) xNil)))) (.many [2, 3]))
  (bSeq (bIf (xOr (xNot (xTest (xCall m__law_doubles (xCons (xVar 2) (xCons (xVar 3) xNil))))) (xNot (xTest (xCall m__law_shifts (xCons (xCallT F m__law_draw (xCons (xVar 0) (xCons (xVar 1) (xCons (xC (.int 10)) xNil)))) xNil))))) (bRet (xC (.bl false))) bNext)
  (bSeq (bAsg (xTup (xCons (xC (.int 1)) (xCons (xTup (xCons (xTup (xCons (xC (.int 0)) (xCons (xC (.str [97, 97])) (xCons (xTup (xCons (xVar 2) xNil)) (xCons (xC (.int 0)) xNil))))) (xCons (xTup (xCons (xC (.int 0)) (xCons (xC (.str [97, 97, 97])) (xCons (xTup (xCons (xVar 3) xNil)) (xCons (xC (.int 0)) xNil))))) xNil))) xNil))) (.one 4))
  (bSeq (bAsg (xBlt fMin (xCons (xTup (xCons (xVar 2) (xCons (xVar 2) (xCons (xVar 3) xNil)))) (xCons (xTup (xCons (xVar 2) (xCons (xVar 3) (xCons (xVar 2) xNil)))) (xCons (xTup (xCons (xVar 3) (xCons (xVar 2) (xCons (xVar 2) xNil)))) xNil)))) (.one 5))
  (bSeq (bIf (xOr (xTest (xBin opNe (xCall m_unwritable (xCons (xVar 4) (xCons (xC (.str [97])) xNil))) (xC (.str [97])))) (xTest (xBin opNe (xCall m_write (xCons (xVar 4) (xCons (xBin opMul (xC (.str [97])) (xC (.int 7))) xNil))) (xVar 5)))) (bRet (xC (.bl false))) bNext)
  (bSeq (bIf (xTest (xBin opNe (xCall m_unwritable (xCons (xVar 4) (xCons (xC (.str [97, 98])) xNil))) (xC (.str [97])))) (bRet (xC (.bl false))) bNext)
  (bSeq (bIf (xTest (xBin opIsNot (xCall m_unwritable (xCons (xTup (xCons (xC (.int 1)) (xCons (xBin opAdd (xBin opIx (xVar 4) (xC (.int 1))) (xTup (xCons (xTup (xCons (xC (.int 0)) (xCons (xC (.str [97])) (xCons (xTup (xCons (xVar 2) (xCons (xVar 2) xNil))) (xCons (xC (.int 0)) xNil))))) xNil))) xNil))) (xCons (xC (.str [97])) xNil))) (xC .non))) (bRet (xC (.bl false))) bNext)
  (bSeq (bIf (xTest (xBin opNe (xCall m_both_sides (xCons (xTup (xCons (xC (.int 1)) (xCons (xTup (xCons (xTup (xCons (xC (.int 0)) (xCons (xC (.str [97])) (xCons (xTup (xCons (xC (.str [49, 52])) xNil)) (xCons (xC (.int 0)) xNil))))) xNil)) xNil))) xNil)) (xTup (xCons (xC (.str [49, 52])) xNil)))) (bRet (xC (.bl false))) bNext)
  (bSeq (bIf (xTest (xBin opNe (xCall m_both_sides (xCons (xTup (xCons (xC (.int 1)) (xCons (xTup (xCons (xTup (xCons (xC (.int 0)) (xCons (xC (.str [97])) (xCons (xTup (xCons (xC (.str [49])) (xCons (xC (.str [52])) xNil))) (xCons (xC (.int 0)) xNil))))) xNil)) xNil))) xNil)) (xTup (xCons (xC (.str [49])) (xCons (xC (.str [52])) xNil))))) (bRet (xC (.bl false))) bNext)
  (bSeq (bIf (xTest (xBin opIsNot (xCall m_both_sides (xCons (xTup (xCons (xC (.int 1)) (xCons (xTup (xCons (xTup (xCons (xC (.int 0)) (xCons (xC (.str [97])) (xCons (xTup (xCons (xC (.str [49])) xNil)) (xCons (xC (.int 0)) xNil))))) (xCons (xTup (xCons (xC (.int 0)) (xCons (xC (.str [98])) (xCons (xTup (xCons (xC (.str [50])) (xCons (xC (.str [52])) xNil))) (xCons (xC (.int 0)) xNil))))) xNil))) xNil))) xNil)) (xC .non))) (bRet (xC (.bl false))) bNext)
  (bRet (xBin opEq (xCall m_both_sides (xCons (xTup (xCons (xC (.int 1)) (xCons (xTup (xCons (xTup (xCons (xC (.int 0)) (xCons (xC (.str [97])) (xCons (xTup (xCons (xC (.str [49])) (xCons (xC (.str [50])) xNil))) (xCons (xC (.int 0)) xNil))))) (xCons (xTup (xCons (xC (.int 0)) (xCons (xC (.str [98])) (xCons (xTup (xCons (xC (.str [53])) xNil)) (xCons (xC (.int 0)) xNil))))) (xCons (xTup (xCons (xC (.int 0)) (xCons (xC (.str [99])) (xCons (xTup (xCons (xC (.str [52])) xNil)) (xCons (xC (.int 0)) xNil))))) xNil)))) xNil))) xNil)) (xTup (xCons (xC (.str [49])) (xCons (xC (.str [50])) xNil))))))))))))))))
def m_law_k14 : Fn := runP 6 b_law_k14
def b__law_begun_texts (F : Fl) : SM := (bSeq (bAsg (xTup (xCons (xTup (xCons (xC (.int 0)) (xCons (xC (.str [97])) (xCons (xTup (xCons (xC (.str [49])) xNil)) (xCons (xC (.int 0)) xNil))))) (xCons (xTup (xCons (xC (.int 0)) (xCons (xC (.str [98])) (xCons (xTup (xCons (xC (.str [50])) xNil)) (xCons (xC (.int 1)) xNil))))) (xCons (xTup (xCons (xC (.int 0)) (xCons (xC (.str [98, 97])) (xCons (xTup (xCons (xC (.str [51])) xNil)) (xCons (xC (.int 0)) xNil))))) (xCons (xTup (xCons (xC (.int 1)) (xCons (xC (.str [98])) (xCons (xTup (xCons (xC (.str [50])) xNil)) (xCons (xC (.int 1)) xNil))))) xNil))))) (.one 0))
  (bSeq (bIf (xOr (xTest (xBin opNe (xCall m_unwritable (xCons (xTup (xCons (xC (.int 2)) (xCons (xVar 0) xNil))) (xCons (xC (.str [97, 98])) xNil))) (xC (.str [98, 98, 97])))) (xTest (xBin opNe (xCall m_write (xCons (xTup (xCons (xC (.int 2)) (xCons (xVar 0) xNil))) (xCons (xC (.str [97, 98, 97, 98])) xNil))) (xTup (xCons (xC (.str [49])) (xCons (xC (.str [51])) (xCons (xC (.str [50])) xNil))))))) (bRet (xC (.bl false))) bNext)
  (bSeq (bAsg (xBin opAdd (xVar 0) (xTup (xCons (xTup (xCons (xC (.int 0)) (xCons (xC (.str [98, 98, 97])) (xCons (xTup (xCons (xC (.str [52])) xNil)) (xCons (xC (.int 0)) xNil))))) xNil))) (.one 1))
  (bRet (xAndV (xBin opEq (xCall m_unwritable (xCons (xTup (xCons (xC (.int 2)) (xCons (xVar 1) xNil))) (xCons (xC (.str [97, 98])) xNil))) (xC (.str [98, 98, 98, 97]))) (xBin opEq (xCall m_write (xCons (xTup (xCons (xC (.int 2)) (xCons (xVar 1) xNil))) (xCons (xC (.str [98, 98, 97, 98, 98])) xNil))) (xTup (xCons (xC (.str [52])) (xCons (xC (.str [50])) (xCons (xC (.str [50])) xNil))))))))))
def m__law_begun_texts : Fn := runP 2 b__law_begun_texts
def b_law_k15 (F : Fl) : SM := (bSeq (bAsg (xLst (xCons (xC (.int 0)) (xCons (xC (.int 0)) xNil))) (.one 1))
  (bSeq (bAsg (xCallT F m__law_table (xCons (xVar 0) (xCons (xVar 1) (xCons (xC (.int 4)) xNil)))) (.many [2, 3]))
  (bSeq (bAsg (xLst xNil) (.one 4))
  (bSeq (bFor F (xRange1 (xVar 2)) (.one 5) (fun F1 => (bFor F1 (xIter (xTup (xCons (xTup (xCons (xC (.str [97])) (xCons (xC (.str [53])) xNil))) (xCons (xTup (xCons (xC (.str [98])) (xCons (xC (.str [53, 54])) xNil))) xNil)))) (.many [6, 7]) (fun F2 => (bExpr (xMeth .list (mAppend F2) (xVar 4) (xCons (xTup (xCons (xVar 5) (xCons (xVar 6) (xCons (xTup (xCons (xVar 7) xNil)) (xCons (xCallT F2 m__law_draw (xCons (xVar 0) (xCons (xVar 1) (xCons (xVar 2) xNil)))) xNil))))) xNil)))))))
  (bSeq (bAsg (xTup (xCons (xVar 2) (xCons (xBlt fTupOf (xCons (xBin opAdd (xLc F [14] (xIter (xVar 3)) (.one 14) (fun F' => (xTest (xBin opNotIn (xVar 14) (xVar 4)))) (fun F' => (xVar 14))) (xVar 4)) xNil)) xNil))) (.one 8))
  (bSeq (bIf (xOr (xTest (xBin opIsNot (xCall m_unwritable (xCons (xVar 8) (xCons (xC (.str [97, 98])) xNil))) (xC .non))) (xTest (xBin opNe (xCall m_unwritable (xCons (xVar 8) (xCons (xC (.str [97, 98, 99])) xNil))) (xC (.str [99]))))) (bRet (xC (.bl false))) bNext)
  (bSeq (bFor F (xRange1 (xC (.int 4))) (.one 9) (fun F3 => (bSeq (bAsg (xMeth .str (mJoin) (xC (.str [])) (xCons (xLc F3 [15] (xRange1 (xCallT F3 m__law_draw (xCons (xVar 0) (xCons (xVar 1) (xCons (xC (.int 21)) xNil))))) (.one 15) (fun F' => xYes) (fun F' => (xCallT F' m__law_pick (xCons (xVar 0) (xCons (xVar 1) (xCons (xC (.str [97, 98])) xNil)))))) xNil)) (.one 10))
  (bSeq (bAsg (xCall m_write (xCons (xVar 8) (xCons (xVar 10) xNil))) (.one 11))
  (bIf (xOr (xTest (xBin opIs (xVar 11) (xC .non))) (xTest (xBin opGt (xBlt fLen (xCons (xVar 11) xNil)) (xBlt fLen (xCons (xVar 10) xNil))))) (bRet (xC (.bl false))) bNext)))))
  (bSeq (bAsg (xTup (xCons (xVar 2) (xCons (xBlt fTupOf (xCons (xLc F [5] (xRange1 (xVar 2)) (.one 5) (fun F' => xYes) (fun F' => (xTup (xCons (xVar 5) (xCons (xC (.str [97])) (xCons (xTup (xCons (xC (.str [53])) xNil)) (xCons (xVar 5) xNil))))))) xNil)) xNil))) (.one 12))
  (bSeq (bIf (xOr (xTest (xBin opIsNot (xCall m_unwritable (xCons (xVar 12) (xCons (xC (.str [97])) xNil))) (xC .non))) (xTest (xBin opNe (xCall m_unwritable (xCons (xVar 12) (xCons (xC (.str [98, 97])) xNil))) (xC (.str [98]))))) (bRet (xC (.bl false))) bNext)
  (bSeq (bIf (xTest (xBin opNe (xCall m_write (xCons (xVar 12) (xCons (xC (.str [97, 97, 97])) xNil))) (xTup (xCons (xC (.str [53])) (xCons (xC (.str [53])) (xCons (xC (.str [53])) xNil)))))) (bRet (xC (.bl false))) bNext)
  (bSeq (bIf (xNot (xTest (xCall m__law_begun_texts xNil))) (bRet (xC (.bl false))) bNext)
  (bSeq (bAsg (xTup (xCons (xC (.int 2)) (xCons (xTup (xCons (xTup (xCons (xC (.int 0)) (xCons (xC (.str [97])) (xCons (xTup (xCons (xC (.str [49])) xNil)) (xCons (xC (.int 0)) xNil))))) (xCons (xTup (xCons (xC (.int 0)) (xCons (xC (.str [98])) (xCons (xTup (xCons (xC (.str [50])) xNil)) (xCons (xC (.int 1)) xNil))))) (xCons (xTup (xCons (xC (.int 1)) (xCons (xC (.str [97])) (xCons (xTup (xCons (xC (.str [49])) xNil)) (xCons (xC (.int 1)) xNil))))) xNil)))) xNil))) (.one 13))
  (bSeq (bIf (xOr (xTest (xBin opNe (xCall m_unwritable (xCons (xVar 13) (xCons (xC (.str [97, 98])) xNil))) (xC (.str [98, 98])))) (xTest (xBin opIsNot (xCall m_unwritable (xCons (xVar 13) (xCons (xC (.str [97])) xNil))) (xC .non)))) (bRet (xC (.bl false))) bNext)
  (bRet (xBin opEq (xCall m_write (xCons (xVar 13) (xCons (xC (.str [97, 98, 97, 97])) xNil))) (xTup (xCons (xC (.str [49])) (xCons (xC (.str [50])) (xCons (xC (.str [49])) (xCons (xC (.str [49])) xNil))))))))))))))))))))
def m_law_k15 : Fn := runP 16 b_law_k15
def b__law_key (F : Fl) : SM := (bRet (xIf (xTest (xBin opIs (xVar 0) (xC .non))) (xTup (xCons (xC (.int 999)) (xCons (xTup xNil) xNil))) (xTup (xCons (xBlt fLen (xCons (xVar 0) xNil)) (xCons (xVar 0) xNil)))))
def m__law_key : Fn := runP 1 b__law_key
def b__law_places (F : Fl) : SM := (bSeq (bPar 3 4 (xLst xNil) (xLst (xCons (xTup (xCons (xC (.int 0)) (xCons (xC (.int 0)) (xCons (xC (.int 0)) xNil)))) xNil)))
  (bSeq (bWhile (xTest (xBin opNe (xVar 4) (xLst xNil))) (bSeq (bAsg (xMeth .list (mPop F) (xVar 4) xNil) (.one 5))
  (bIf (xTest (xBin opNotIn (xVar 5) (xVar 3))) (bSeq (bExpr (xMeth .list (mAppend F) (xVar 3) (xCons (xVar 5) xNil)))
  (bFor F (xIter (xBin opIx (xVar 0) (xC (.int 1)))) (.many [6, 7, 8, 9]) (fun F1 => (bIf (xAnd (xTest (xBin opEq (xVar 6) (xBin opIx (xVar 5) (xC (.int 1))))) (xAnd (xTest (xBin opEq (xSl (xVar 1) (xPart (xBin opIx (xVar 5) (xC (.int 2)))) (xPart (xBin opAdd (xBin opIx (xVar 5) (xC (.int 2))) (xBlt fLen (xCons (xVar 8) xNil))))) (xVar 8))) (xTest (xMeth .str (mStarts) (xSl (xVar 2) (xPart (xBin opIx (xVar 5) (xC (.int 0)))) xNoPart) (xCons (xVar 7) xNil))))) (bExpr (xMeth .list (mAppend F1) (xVar 4) (xCons (xTup (xCons (xBin opAdd (xBin opIx (xVar 5) (xC (.int 0))) (xBlt fLen (xCons (xVar 7) xNil))) (xCons (xVar 9) (xCons (xBin opAdd (xBin opIx (xVar 5) (xC (.int 2))) (xBlt fLen (xCons (xVar 8) xNil))) xNil)))) xNil))) bNext)))) bNext)))
  (bRet (xVar 3))))
def m__law_places : Fn := runP 10 b__law_places
def b__law_begun (F : Fl) : SM := (bSeq (bAsg (xLst xNil) (.one 2))
  (bSeq (bFor F (xIter (xBin opIx (xVar 0) (xC (.int 1)))) (.many [3, 4, 5, 6]) (fun F1 => (bExpr (xMeth .list (mAppend F1) (xVar 2) (xCons (xTup (xCons (xBin opMod (xBin opSub (xVar 3) (xVar 1)) (xBin opIx (xVar 0) (xC (.int 0)))) (xCons (xVar 4) (xCons (xVar 5) (xCons (xBin opMod (xBin opSub (xVar 6) (xVar 1)) (xBin opIx (xVar 0) (xC (.int 0)))) xNil))))) xNil)))))
  (bRet (xTup (xCons (xBin opIx (xVar 0) (xC (.int 0))) (xCons (xBlt fTupOf (xCons (xVar 2) xNil)) xNil))))))
def m__law_begun : Fn := runP 7 b__law_begun
def b__law_fit (F : Fl) : SM := (bSeq (bPar 3 4 (xBin opIx (xVar 0) (xC (.int 2))) (xBin opIx (xVar 1) (xC (.int 2))))
  (bSeq (bIf (xTest (xBin opGt (xBlt fLen (xCons (xVar 4) xNil)) (xBlt fLen (xCons (xVar 3) xNil)))) (bRet (xC (.bl false))) bNext)
  (bRet (xIf (xTest (xBin opEq (xVar 2) (xC (.int 0)))) (xBin opEq (xSl (xVar 3) xNoPart (xPart (xBlt fLen (xCons (xVar 4) xNil)))) (xVar 4)) (xBin opEq (xSl (xVar 3) (xPart (xBin opSub (xBlt fLen (xCons (xVar 3) xNil)) (xBlt fLen (xCons (xVar 4) xNil)))) xNoPart) (xVar 4))))))
def m__law_fit : Fn := runP 5 b__law_fit
def b__law_thinned (F : Fl) : SM := (bSeq (bAsg (xLst xNil) (.one 2))
  (bSeq (bFor F (xIter (xBin opIx (xVar 0) (xC (.int 1)))) (.one 3) (fun F1 => (bSeq (bAsg (xLc F1 [5] (xIter (xVar 2)) (.one 5) (fun F' => (xOr (xTest (xBin opEq (xBin opIx (xVar 5) (xC (.int 0))) (xBin opIx (xVar 3) (xC (.int 0))))) (xTest (xBin opEq (xVar 1) (xC (.int 1)))))) (fun F' => (xVar 5))) (.one 4))
  (bIf (xNot (xTest (xBlt fAny (xCons (xLc F1 [5] (xIter (xVar 4)) (.one 5) (fun F' => xYes) (fun F' => (xOrV (xCall m__law_fit (xCons (xVar 5) (xCons (xVar 3) (xCons (xVar 1) xNil)))) (xCall m__law_fit (xCons (xVar 3) (xCons (xVar 5) (xCons (xVar 1) xNil))))))) xNil)))) (bExpr (xMeth .list (mAppend F1) (xVar 2) (xCons (xVar 3) xNil))) bNext))))
  (bRet (xTup (xCons (xBin opIx (xVar 0) (xC (.int 0))) (xCons (xBlt fTupOf (xCons (xVar 2) xNil)) xNil))))))
def m__law_thinned : Fn := runP 6 b__law_thinned
def b_law_k22 (F : Fl) : SM := (bSeq (bAsg (xLst (xCons (xC (.int 0)) (xCons (xC (.int 0)) xNil))) (.one 1))
  (bSeq (bAsg (xCall m__law_thinned (xCons (xCallT F m__law_table (xCons (xVar 0) (xCons (xVar 1) (xCons (xC (.int 9)) xNil)))) (xCons (xC (.int 0)) xNil))) (.one 2))
  (bSeq (bAsg (xCall m__law_cells (xCons (xVar 2) xNil)) (.one 3))
  (bSeq (bIf (xTest (xBin opIsNot (xCall m_double (xCons (xVar 2) xNil)) (xC .non))) (bRet (xC (.bl false))) bNext)
  (bSeq (bFor F (xIter (xCall m__law_writings (xCons (xVar 3) (xCons (xC (.int 4)) xNil)))) (.one 4) (fun F1 => (bIf (xTest (xBin opGt (xCall m_ways (xCons (xVar 2) (xCons (xVar 4) xNil))) (xC (.int 1)))) (bRet (xC (.bl false))) bNext)))
  (bSeq (bFor F (xRange1 (xC (.int 3))) (.one 5) (fun F2 => (bSeq (bAsg (xCallT F2 m__law_random (xCons (xVar 0) (xCons (xVar 1) (xCons (xVar 2) (xCons (xC (.int 8)) xNil))))) (.many [4, 6]))
  (bSeq (bIf (xOr (xTest (xBin opNe (xCall m_read (xCons (xVar 2) (xCons (xVar 4) xNil))) (xVar 6))) (xTest (xBin opNe (xCall m_ways (xCons (xVar 2) (xCons (xVar 4) xNil))) (xC (.int 1))))) (bRet (xC (.bl false))) bNext)
  (bIf (xAnd (xTest (xBin opLe (xBlt fLen (xCons (xVar 6) xNil)) (xC (.int 20)))) (xTest (xBin opGt (xBlt fLen (xCons (xCall m_write (xCons (xVar 2) (xCons (xVar 6) xNil))) xNil)) (xBlt fLen (xCons (xVar 4) xNil))))) (bRet (xC (.bl false))) bNext)))))
  (bSeq (bAsg (xCallT F m__law_table (xCons (xVar 0) (xCons (xVar 1) (xCons (xC (.int 9)) xNil)))) (.many [7, 8]))
  (bSeq (bAsg (xTup (xCons (xC (.int 1)) (xCons (xBlt fTupOf (xCons (xSortedSet (xLc F [11] (xIter (xVar 8)) (.one 11) (fun F' => xYes) (fun F' => (xTup (xCons (xC (.int 0)) (xCons (xBin opIx (xVar 11) (xC (.int 1))) (xCons (xBin opIx (xVar 11) (xC (.int 2))) (xCons (xC (.int 0)) xNil)))))))) xNil)) xNil))) (.one 9))
  (bSeq (bAsg (xCall m__law_thinned (xCons (xVar 9) (xCons (xC (.int 1)) xNil))) (.one 10))
  (bSeq (bIf (xTest (xBin opIsNot (xCall m_double (xCons (xVar 10) xNil)) (xC .non))) (bRet (xC (.bl false))) bNext)
  (bRet (xBlt fAll (xCons (xLc F [4] (xIter (xCall m__law_writings (xCons (xCall m__law_cells (xCons (xVar 10) xNil)) (xCons (xC (.int 4)) xNil)))) (.one 4) (fun F' => xYes) (fun F' => (xBin opLtA (xCall m_ways (xCons (xVar 10) (xCons (xVar 4) xNil))) (xC (.int 2))))) xNil)))))))))))))
def m_law_k22 : Fn := runP 12 b_law_k22
def b__law_exchanged (F : Fl) : SM := (bSeq (bAsg (xLst (xCons (xC (.int 0)) (xCons (xC (.int 2)) (xCons (xC (.int 1)) xNil)))) (.one 1))
  (bRet (xTup (xCons (xC (.int 3)) (xCons (xBlt fTupOf (xCons (xLc F [2, 3, 4, 5] (xIter (xBin opIx (xVar 0) (xC (.int 1)))) (.many [2, 3, 4, 5]) (fun F' => xYes) (fun F' => (xTup (xCons (xBin opIx (xVar 1) (xVar 2)) (xCons (xVar 3) (xCons (xVar 4) (xCons (xBin opIx (xVar 1) (xVar 5)) xNil))))))) xNil)) xNil)))))
def m__law_exchanged : Fn := runP 6 b__law_exchanged
def b_law_k23 (F : Fl) : SM := (bSeq (bAsg (xLst (xCons (xC (.int 0)) (xCons (xC (.int 0)) xNil))) (.one 1))
  (bSeq (bAsg (xCallT F m__law_table (xCons (xVar 0) (xCons (xVar 1) (xCons (xC (.int 5)) xNil)))) (.many [2, 3]))
  (bSeq (bAsg (xTup (xCons (xC (.int 3)) (xCons (xBin opAdd (xVar 3) (xTup (xCons (xTup (xCons (xC (.int 2)) (xCons (xC (.str [99])) (xCons (xTup (xCons (xC (.str [53])) xNil)) (xCons (xC (.int 1)) xNil))))) (xCons (xTup (xCons (xC (.int 1)) (xCons (xC (.str [])) (xCons (xTup (xCons (xC (.str [53, 54])) xNil)) (xCons (xC (.int 2)) xNil))))) xNil)))) xNil))) (.one 4))
  (bSeq (bAsg (xCall m__law_exchanged (xCons (xVar 4) xNil)) (.one 5))
  (bSeq (bIf (xOr (xTest (xBin opNe (xCall m_double (xCons (xVar 5) xNil)) (xCall m_double (xCons (xVar 4) xNil)))) (xTest (xBin opNe (xCall m_both_sides (xCons (xVar 5) xNil)) (xCall m_both_sides (xCons (xVar 4) xNil))))) (bRet (xC (.bl false))) bNext)
  (bSeq (bIf (xTest (xBin opNe (xCall m_unwritable (xCons (xVar 5) (xCons (xC (.str [97, 98])) xNil))) (xCall m_unwritable (xCons (xVar 4) (xCons (xC (.str [97, 98])) xNil))))) (bRet (xC (.bl false))) bNext)
  (bSeq (bAsg (xBin opIs (xCall m_double (xCons (xVar 4) xNil)) (xC .non)) (.one 6))
  (bSeq (bFor F (xRange1 (xC (.int 5))) (.one 7) (fun F1 => (bSeq (bAsg (xCallT F1 m__law_random (xCons (xVar 0) (xCons (xVar 1) (xCons (xVar 4) (xCons (xC (.int 7)) xNil))))) (.many [8, 9]))
  (bSeq (bAsg (xSl (xVar 9) xNoPart (xPart (xC (.int 20)))) (.one 9))
  (bSeq (bAsg (xCall m_write (xCons (xVar 4) (xCons (xVar 9) xNil))) (.one 10))
  (bSeq (bIf (xOr (xTest (xBin opNe (xCall m_write (xCons (xVar 5) (xCons (xVar 9) xNil))) (xVar 10))) (xTest (xBin opNe (xCall m_ways (xCons (xVar 5) (xCons (xVar 8) xNil))) (xCall m_ways (xCons (xVar 4) (xCons (xVar 8) xNil)))))) (bRet (xC (.bl false))) bNext)
  (bSeq (bIf (xAnd (xTest (xVar 6)) (xAnd (xTest (xBin opIsNot (xVar 10) (xC .non))) (xAnd (xTest (xBin opLe (xBlt fLen (xCons (xVar 10) xNil)) (xC (.int 20)))) (xTest (xBin opNe (xCall m_read (xCons (xVar 4) (xCons (xVar 10) xNil))) (xVar 9)))))) (bRet (xC (.bl false))) bNext)
  (bIf (xTest (xVar 6)) (bSeq (bAsg (xCall m_read (xCons (xVar 4) (xCons (xVar 8) xNil))) (.one 11))
  (bIf (xOr (xTest (xBin opIs (xVar 11) (xC .non))) (xAnd (xTest (xBin opLe (xBlt fLen (xCons (xVar 11) xNil)) (xC (.int 20)))) (xTest (xBin opGt (xBlt fLen (xCons (xCall m_write (xCons (xVar 4) (xCons (xVar 11) xNil))) xNil)) (xBlt fLen (xCons (xVar 8) xNil)))))) (bRet (xC (.bl false))) bNext)) bNext))))))))
  (bRet (xC (.bl true)))))))))))
def m_law_k23 : Fn := runP 12 b_law_k23
end Dcl
end
section
set_option linter.all false
set_option maxRecDepth 100000
set_option maxHeartbeats 400000
/-! what the mirrors come to: plain rules -/
namespace Dc
open PySem L2
open TL (joinL)
/-- what is wanted of a result -/
@[irreducible] def WR {α : Type} (x : Rs α) (K : α → Hh → Prop) : Prop := match x with
  | .ok a h => K a h
  | _ => False
/-- .. of an expression -/
@[irreducible] def WE {α : Type} (m : Ev → Hh → Rs α) (r : Ev) (h : Hh) (K : α → Hh → Prop) : Prop := WR (m r h) K
/-- .. of a statement -/
@[irreducible] def WP (m : SM) (r : Ev) (h : Hh) (K : Out → Prop) : Prop := K (m r h)
def asB (d : D) (k : Bool → Prop) : Prop := match d with
  | .bl b => k b
  | _ => False
def asI (d : D) (k : Int → Prop) : Prop := match d with
  | .int b => k b
  | _ => False
@[irreducible] def WO {α : Type} (x : Option α) (k : α → Prop) : Prop := match x with
  | some a => k a
  | none => False
def SeqK (q : SM) (K : Out → Prop) : Out → Prop := fun o => match o with
  | .nx r h => WP q r h K
  | o => K o
def Go (N : Ev → Hh → Prop) (R : D → Hh → Prop) : Out → Prop
  | .nx r h => N r h
  | .ct r h => N r h
  | .rt d h => R d h
  | _ => False
section
variable {r : Ev} {h h1 h2 h3 : Hh} {a b c : EM} {x y d : D} {p q : SM} {t tb : TM} {α β : Type} {K : D → Hh → Prop} {KB : Bool → Hh → Prop} {KA : List D → Hh → Prop} {KO : Out → Prop} {f g : D → D → Hh → Rs D} {m : AM} {o : Ob}
theorem wr_ok {a : α} {K : α → Hh → Prop} : WR (.ok a h) K = K a h := by with_unfolding_all exact rfl
theorem wr_bind {x : Rs α} {k : α → Hh → Rs β} {K : β → Hh → Prop} : WR (x.bind k) K = WR x fun a h => WR (k a h) K := by with_unfolding_all (cases x <;> rfl)
theorem wr_if {P : Prop} [Decidable P] {x y : Rs α} {K : α → Hh → Prop} : WR (if P then x else y) K = if P then WR x K else WR y K := by with_unfolding_all (split <;> rfl)
theorem asB_bl {b : Bool} {k : Bool → Prop} : asB (.bl b) k = k b := rfl
theorem asI_int {b : Int} {k : Int → Prop} : asI (.int b) k = k b := rfl
theorem wo_some {a : α} {k : α → Prop} : WO (some a) k = k a := by with_unfolding_all exact rfl
theorem sk_nx {q : SM} : SeqK q KO (.nx r h) = WP q r h KO := by with_unfolding_all exact rfl
theorem sk_rt : SeqK q KO (.rt d h) = KO (.rt d h) := by with_unfolding_all exact rfl
theorem sk_ct : SeqK q KO (.ct r h) = KO (.ct r h) := by with_unfolding_all exact rfl
theorem sk_bk : SeqK q KO (.bk r h) = KO (.bk r h) := by with_unfolding_all exact rfl
theorem go_nx {N R} : Go N R (.nx r h) = N r h := by with_unfolding_all exact rfl
theorem go_ct {N R} : Go N R (.ct r h) = N r h := by with_unfolding_all exact rfl
theorem go_rt {N R} : Go N R (.rt d h) = R d h := by with_unfolding_all exact rfl
theorem we_var_s {i : Nat} {o : Option D} : WE (xVar (i + 1)) (o :: r) h K = WE (xVar i) r h K := by with_unfolding_all exact rfl
theorem we_var_0 : WE (xVar 0) (some d :: r) h K = K d h := by with_unfolding_all exact rfl
theorem we_c : WE (xC d) r h K = K d h := by with_unfolding_all exact rfl
theorem we_nil : WE xNil r h KA = KA [] h := by with_unfolding_all exact rfl
theorem we_yes : WE xYes r h KB = KB true h := by with_unfolding_all exact rfl
theorem we_bind {k : α → Hh → Rs β} {n : Ev → Hh → Rs α} {K : β → Hh → Prop} : WE (fun r h => (n r h).bind (k)) r h K = WE n r h fun a h1 => WR (k a h1) K := by with_unfolding_all exact wr_bind
theorem we_cons : WE (xCons a m) r h KA = WE a r h fun x h1 => WE m r h1 fun xs h2 => KA (x :: xs) h2 := by
  with_unfolding_all
    unfold WE xCons; rw [wr_bind]; congr; funext x h1; rw [wr_bind]; rfl
theorem we_bin : WE (xBin f a b) r h K = WE a r h fun x h1 => WE b r h1 fun y h2 => WR (f x y h2) K := by
  with_unfolding_all
    unfold WE xBin; rw [wr_bind]; congr; funext x h1; rw [wr_bind]
theorem we_tup : WE (xTup m) r h K = WE m r h fun xs h1 => K (.tup xs) h1 := by with_unfolding_all (unfold WE xTup; rw [wr_bind]; rfl)
theorem we_lst : WE (xLst m) r h K = WE m r h fun xs h1 => K (.ref h1.length) (h1 ++ [.lst xs]) := by with_unfolding_all (unfold WE xLst; rw [wr_bind]; rfl)
theorem we_blt {f : List D → Hh → Rs D} : WE (xBlt f m) r h K = WE m r h fun xs h1 => WR (f xs h1) K := by with_unfolding_all (unfold WE xBlt; rw [wr_bind])
theorem we_call {f : Fn} : WE (xCall f m) r h K = WE m r h fun xs h1 => WR (f xs h1) K := by
  with_unfolding_all
    unfold WE xCall; rw [wr_bind]; congr; funext ds h1; cases f ds h1 <;> rfl
theorem we_callT {F : Fl} {f : Fn} : WE (xCallT F f m) r h K = WE m r h fun xs h1 => WO (townOf xs) fun t => F.may t = true ∧ WR (f xs h1) K := by
  with_unfolding_all
    unfold WE xCallT; rw [wr_bind]; congr; funext ds h1; cases townOf ds with
    | none => rfl
    | some t =>
      dsimp only; by_cases e : F.may t = true
      · rw [if_pos e]; simp only [WO, e, true_and]; cases f ds h1 <;> rfl
      · rw [if_neg e]; simp [WO, e, WR]
theorem we_test : WE (xTest a) r h KB = WE a r h fun d h1 => asB d fun b => KB b h1 := by
  with_unfolding_all
    unfold WE xTest; rw [wr_bind]; congr; funext d h1; cases d <;> rfl
theorem we_and : WE (xAnd t tb) r h KB = WE t r h fun c h1 => if c = true then WE tb r h1 KB else KB false h1 := by
  with_unfolding_all
    unfold WE xAnd; rw [wr_bind]; congr; funext c h1; cases c <;> rfl
theorem we_or : WE (xOr t tb) r h KB = WE t r h fun c h1 => if c = true then KB true h1 else WE tb r h1 KB := by
  with_unfolding_all
    unfold WE xOr; rw [wr_bind]; congr; funext c h1; cases c <;> rfl
theorem we_not : WE (xNot t) r h KB = WE t r h fun c h1 => KB (!c) h1 := by with_unfolding_all (unfold WE xNot; rw [wr_bind]; rfl)
theorem we_andV : WE (xAndV a b) r h K = WE a r h fun d h1 => asB d fun c => if c = true then WE b r h1 K else K (.bl false) h1 := by
  with_unfolding_all
    unfold WE xAndV; rw [wr_bind]; congr; funext d h1; cases d with
    | bl c => cases c <;> rfl
    | _ => rfl
theorem we_orV : WE (xOrV a b) r h K = WE a r h fun d h1 => asB d fun c => if c = true then K (.bl true) h1 else WE b r h1 K := by
  with_unfolding_all
    unfold WE xOrV; rw [wr_bind]; congr; funext d h1; cases d with
    | bl c => cases c <;> rfl
    | _ => rfl
theorem we_notV : WE (xNotV a) r h K = WE a r h fun d h1 => asB d fun c => K (.bl (!c)) h1 := by
  with_unfolding_all
    unfold WE xNotV; rw [wr_bind]; congr; funext d h1; cases d <;> rfl
theorem we_ifx : WE (xIf t a b) r h K = WE t r h fun c h1 => if c = true then WE a r h1 K else WE b r h1 K := by
  with_unfolding_all
    unfold WE xIf; rw [wr_bind]; congr; funext c h1; cases c <;> rfl
theorem we_chain : WE (xChain f g a b c) r h K = WE a r h fun x h1 => WE b r h1 fun y h2 => WR (f x y h2) fun z h3 => asB z fun u => if u = true then WE c r h3 fun u h4 => WR (g y u h4) K else K (.bl false) h3 := by
  with_unfolding_all
    unfold WE xChain; rw [wr_bind]; congr; funext x h1; rw [wr_bind]; congr; funext y h2; rw [wr_bind]; congr; funext z h3; cases z with
    | bl u => cases u with
      | true => exact wr_bind
      | false => rfl
    | _ => rfl
theorem we_isi {T : String} : WE (xIsi T a) r h K = WE a r h fun d h1 => WO (isiD T d h1) fun b => K (.bl b) h1 := by
  with_unfolding_all
    unfold WE xIsi; rw [wr_bind]; congr; funext d h1; cases isiD T d h1 <;> rfl
theorem we_meth {T : Ty} {f : D → List D → Hh → Rs D} : WE (xMeth T f a m) r h K = WE a r h fun x h1 => tyOk T x h1 = true ∧ WE m r h1 fun ds h2 => WR (f x ds h2) K := by
  with_unfolding_all
    unfold WE xMeth; rw [wr_bind]; congr; funext x h1; by_cases e : tyOk T x h1 = true
    · rw [if_pos e, wr_bind]; simp [e]
    · rw [if_neg e]; simp [e, WR]
theorem we_sl {lo hi : OM} : WE (xSl a lo hi) r h K = WE a r h fun x h1 => WE lo r h1 fun l h2 => WE hi r h2 fun u h3 => WR (opSl x l u h3) K := by
  with_unfolding_all
    unfold WE xSl; rw [wr_bind]; congr; funext x h1; rw [wr_bind]; congr; funext l h2; rw [wr_bind]
theorem we_nopart {KO : Option Int → Hh → Prop} : WE xNoPart r h KO = KO none h := by with_unfolding_all exact rfl
theorem we_part {KO : Option Int → Hh → Prop} : WE (xPart a) r h KO = WE a r h fun d h1 => asI d fun i => KO (some i) h1 := by
  with_unfolding_all
    unfold WE xPart; rw [wr_bind]; congr; funext d h1; cases d <;> rfl
theorem we_iter {KI : List D × Option Nat → Hh → Prop} : WE (xIter a) r h KI = WE a r h fun d h1 => WO (itemsOf d h1) fun p => KI p h1 := by
  with_unfolding_all
    unfold WE xIter; rw [wr_bind]; congr; funext d h1; cases itemsOf d h1 <;> rfl
theorem we_range {KI : List D × Option Nat → Hh → Prop} : WE (xRange1 a) r h KI = WE a r h fun d h1 => asI d fun j => (-(2 ^ 62) ≤ j ∧ j < 2 ^ 62) ∧ KI (rangeL 0 j.toNat, none) h1 := by
  with_unfolding_all
    unfold WE xRange1; rw [wr_bind]; congr; funext d h1; cases d with
    | int j =>
      dsimp only [asI]; by_cases e : -(2 ^ 62) ≤ j ∧ j < 2 ^ 62
      · rw [if_pos e]; exact propext ⟨fun k => ⟨e, k⟩, fun k => k.2⟩
      · rw [if_neg e]; exact propext ⟨fun k => k.elim, fun k => e k.1⟩
    | _ => rfl
theorem we_enum {KI : List D × Option Nat → Hh → Prop} : WE (xEnum a) r h KI = WE a r h fun d h1 => WO (match d with | .tup ds => some ds | _ => none) fun ds => KI (numd 0 ds, none) h1 := by
  with_unfolding_all
    unfold WE xEnum; rw [wr_bind]; congr; funext d h1; cases d <;> rfl
theorem we_dict1 : WE (xDict1 a b) r h K = WE a r h fun k h1 => WE b r h1 fun v h2 => isKey k = true ∧ K (.ref h2.length) (h2 ++ [.dct [(k, v)]]) := by
  with_unfolding_all
    unfold WE xDict1; rw [wr_bind]; congr; funext k h1; rw [wr_bind]; congr; funext v h2; by_cases e : isKey k = true
    · rw [if_pos e]; simp [e, WR]
    · rw [if_neg e]; simp [e, WR]
theorem we_dict0 : WE xDict0 r h K = K (.ref h.length) (h ++ [.dct []]) := by with_unfolding_all exact rfl
theorem we_lenset : WE (xLenSet a) r h K = WE a r h fun d h1 => WO (setItems d h1) fun xs => setOk xs = true ∧ K (.int (dedup xs).length) h1 := by
  with_unfolding_all
    unfold WE xLenSet; rw [wr_bind]; congr; funext d h1; cases setItems d h1 with
    | none => rfl
    | some xs =>
      by_cases e : setOk xs = true
      · simp [e, WR, WO]
      · simp [e, WR, WO]
theorem we_sortedset : WE (xSortedSet a) r h K = WE a r h fun d h1 => WO (setItems d h1) fun xs => (setOk xs && okSort xs) = true ∧ K (.ref h1.length) (h1 ++ [.lst (isort leD (dedup xs))]) := by
  with_unfolding_all
    unfold WE xSortedSet; rw [wr_bind]; congr; funext d h1; cases setItems d h1 with
    | none => rfl
    | some xs =>
      by_cases e : (setOk xs && okSort xs) = true
      · dsimp only [WO]; rw [if_pos e]; exact propext ⟨fun k => ⟨e, k⟩, fun k => k.2⟩
      · dsimp only [WO]; rw [if_neg e]; exact propext ⟨fun k => k.elim, fun k => e k.1⟩
theorem we_sortkey : WE (xSortKey m) r h K = WE m r h fun ds h1 => WR (fSortKey ds h1) K := by with_unfolding_all (unfold WE xSortKey; rw [wr_bind])
theorem we_lc {F : Fl} {vs : List Nat} {it : IM} {T : Tg} {tt : Fl → TM} {te : Fl → EM} : WE (xLc F vs it T tt te) r h K = WE it r h fun p h1 => p.1.length ≤ 16777216 ∧ WR (lcL T (tt (F.lock p.2)) (te (F.lock p.2)) (wipeE r vs) p.1 h1) fun ys h2 => K (.ref h2.length) (h2 ++ [.lst ys]) := by
  with_unfolding_all
    unfold WE xLc; rw [wr_bind]; congr; funext p h1; by_cases e : p.1.length ≤ 16777216
    · rw [if_pos e, wr_bind]; simp only [e, true_and]; rfl
    · rw [if_neg e]; simp [e, WR]
theorem we_lc2 {vs vs1 : List Nat} {it it1 : IM} {T T1 : Tg} {tt tt1 : TM} {te : EM} : WE (xLc2 vs it T tt it1 T1 vs1 tt1 te) r h K = WE it r h fun p h1 => WR (lc2L T tt it1 T1 vs1 tt1 te (wipeE r vs) p.1 h1) fun ys h2 => ys.length ≤ 16777216 ∧ K (.ref h2.length) (h2 ++ [.lst ys]) := by
  with_unfolding_all
    unfold WE xLc2; rw [wr_bind]; congr; funext p h1; unfold fin2; cases lc2L T tt it1 T1 vs1 tt1 te (wipeE r vs) p.1 h1 with
    | ok ys h2 =>
      dsimp only; rw [List.nil_append]
      by_cases e : ys.length ≤ 16777216
      · rw [if_pos e]; simp [e, WR]
      · rw [if_neg e]; simp [e, WR]
    | exc => rfl
    | bad => rfl
theorem we_dc {F : Fl} {vs : List Nat} {it : IM} {T : Tg} {tk tv : Fl → EM} : WE (xDc F vs it T tk tv) r h K = WE it r h fun p h1 => WR (dcL T (tk (F.lock p.2)) (tv (F.lock p.2)) (wipeE r vs) p.1 [] h1) fun kvs h2 => K (.ref h2.length) (h2 ++ [.dct kvs]) := by
  with_unfolding_all
    unfold WE xDc; rw [wr_bind]; congr; funext p h1; rw [wr_bind]; rfl
/-! ### statements -/
theorem wp_seq : WP (bSeq p q) r h KO = WP p r h (SeqK q KO) := by
  with_unfolding_all
    unfold WP bSeq; cases p r h <;> rfl
theorem wp_sq (w : WP p r h (SeqK q KO)) : WP (bSeq p q) r h KO := by with_unfolding_all (rw [wp_seq]; exact w)
theorem wp_next : WP bNext r h KO = KO (.nx r h) := by with_unfolding_all exact rfl
theorem wp_break : WP bBreak r h KO = KO (.bk r h) := by with_unfolding_all exact rfl
theorem wp_cont : WP bCont r h KO = KO (.ct r h) := by with_unfolding_all exact rfl
theorem wp_retN : WP bRetN r h KO = KO (.rt .non h) := by with_unfolding_all exact rfl
theorem wp_if (hc : WE t r h fun c h1 => if c = true then WP p r h1 KO else WP q r h1 KO) : WP (bIf t p q) r h KO := by
  with_unfolding_all
    unfold WE at hc; unfold WP bIf; cases e : t r h with
    | ok c h1 => rw [e] at hc; cases c <;> exact hc
    | exc => rw [e] at hc; exact hc.elim
    | bad => rw [e] at hc; exact hc.elim
theorem wp_of {k : D → Ev → Hh → Out} (hc : WE a r h fun d h1 => KO (k d r h1)) : WP (bOf a k) r h KO := by
  with_unfolding_all
    unfold WE at hc; unfold WP bOf; cases e : a r h with
    | ok c h1 => rw [e] at hc; exact hc
    | exc => rw [e] at hc; exact hc.elim
    | bad => rw [e] at hc; exact hc.elim
theorem wp_asg {T : Tg} (hc : WE a r h fun d h1 => WO (T.put d r) fun r1 => KO (.nx r1 h1)) : WP (bAsg a T) r h KO := by
  with_unfolding_all
    refine wp_of ?_
    unfold WE at hc ⊢; cases e : a r h with
    | ok d h1 =>
      rw [e] at hc; simp only [wr_ok] at hc ⊢; cases e2 : T.put d r with
      | some r1 => rw [e2] at hc; exact hc
      | none => rw [e2] at hc; exact hc.elim
    | exc => rw [e] at hc; exact hc.elim
    | bad => rw [e] at hc; exact hc.elim
theorem wp_expr (hc : WE a r h fun _ h1 => KO (.nx r h1)) : WP (bExpr a) r h KO := by with_unfolding_all exact wp_of hc
theorem wp_ret (hc : WE a r h fun d h1 => KO (.rt d h1)) : WP (bRet a) r h KO := by with_unfolding_all exact wp_of hc
theorem wr_elim {α : Type} {x : Rs α} {K : α → Hh → Prop} (w : WR x K) : ∃ a h, x = .ok a h ∧ K a h := by
  with_unfolding_all
    cases x with
    | ok a h => exact ⟨a, h, rfl, w⟩
    | exc => exact w.elim
    | bad => exact w.elim
theorem wo_elim {α : Type} {x : Option α} {K : α → Prop} (w : WO x K) : ∃ a, x = some a ∧ K a := by
  with_unfolding_all
    cases x with
    | some a => exact ⟨a, rfl, w⟩
    | none => exact w.elim
theorem wp_par {i j : Nat} (hc : WE a r h fun x h1 => WE b r h1 fun y h2 => KO (.nx ((r.set i (some x)).set j (some y)) h2)) : WP (bPar i j a b) r h KO := by
  with_unfolding_all
    obtain ⟨x, h1, e1, w⟩ := wr_elim hc
    obtain ⟨y, h2, e2, w⟩ := wr_elim w
    unfold WP bPar xCons; rw [e1]; dsimp only [Rs.bind]; rw [e2]; exact w
theorem wp_par3 {i j l : Nat} (hc : WE a r h fun x h1 => WE b r h1 fun y h2 => WE c r h2 fun z h3 => KO (.nx (((r.set i (some x)).set j (some y)).set l (some z)) h3)) : WP (bPar3 i j l a b c) r h KO := by
  with_unfolding_all
    obtain ⟨x, h1, e1, w⟩ := wr_elim hc
    obtain ⟨y, h2, e2, w⟩ := wr_elim w
    obtain ⟨z, h3, e3, w⟩ := wr_elim w
    unfold WP bPar3 xCons; rw [e1]; dsimp only [Rs.bind]; rw [e2]; dsimp only [Rs.bind]; rw [e3]; exact w
theorem wp_put {F : Fl} {mo mi : EM} (hc : WE a r h fun d h1 => WE mo r h1 fun o h2 => WE mi r h2 fun i h3 => WO (putD F o i d h3) fun h4 => KO (.nx r h4)) : WP (bPut F a mo mi) r h KO := by
  with_unfolding_all
    obtain ⟨x, h1, e1, w⟩ := wr_elim hc
    obtain ⟨y, h2, e2, w⟩ := wr_elim w
    obtain ⟨z, h3, e3, w⟩ := wr_elim w
    obtain ⟨h4, e4, w⟩ := wo_elim w
    unfold WP bPut; rw [e1]; dsimp only; rw [e2]; dsimp only; rw [e3]; dsimp only; rw [e4]; exact w
theorem wp_aug {F : Fl} {mo mi me : EM} (hc : WE mo r h fun o h1 => WE mi r h1 fun i h2 => WO (getI o i h2) fun n => WE me r h2 fun k h3 => asI k fun k => WO (putD F o i (.int (n + k)) h3) fun h4 => KO (.nx r h4)) : WP (bAug F mo mi me) r h KO := by
  with_unfolding_all
    obtain ⟨x, h1, e1, w⟩ := wr_elim hc
    obtain ⟨y, h2, e2, w⟩ := wr_elim w
    obtain ⟨n, e3, w⟩ := wo_elim w
    obtain ⟨z, h3, e4, w⟩ := wr_elim w
    cases z with
    | int k =>
      obtain ⟨h4, e5, w⟩ := wo_elim w
      unfold WP bAug; rw [e1]; dsimp only; rw [e2]; dsimp only; rw [e3]; dsimp only; rw [e4]; dsimp only; rw [e5]; exact w
    | _ => exact w.elim
theorem forL_wp {T : Tg} {b : SM} (I : List D → Ev → Hh → Prop) (R : D → Hh → Prop) {ds : List D} (step : ∀ pre d post r h, ds = pre ++ d :: post → I pre r h → WO (T.put d r) fun r1 => WP b r1 h (Go (I (pre ++ [d])) R)) :
    ∀ {pre post : List D} {r : Ev} {h : Hh}, ds = pre ++ post → I pre r h → (∃ r' h', forL T b post r h = .nx r' h' ∧ I ds r' h') ∨ ∃ d h', forL T b post r h = .rt d h' ∧ R d h' := by
  with_unfolding_all
    intro pre post
    induction post generalizing pre with
    | nil => intro r h e i; exact .inl ⟨r, h, rfl, by rw [e, List.append_nil]; exact i⟩
    | cons d post ih =>
      intro r h e i
      obtain ⟨r1, e1, w⟩ := wo_elim (step pre d post r h e i)
      unfold WP at w
      unfold forL; rw [e1]; dsimp only
      cases eb : b r1 h with
      | nx r2 h2 => rw [eb] at w; exact ih (pre := pre ++ [d]) (by rw [e]; simp) w
      | ct r2 h2 => rw [eb] at w; exact ih (pre := pre ++ [d]) (by rw [e]; simp) w
      | rt d2 h2 => rw [eb] at w; exact .inr ⟨d2, h2, rfl, w⟩
      | bk => rw [eb] at w; exact w.elim
      | ex => rw [eb] at w; exact w.elim
      | bad => rw [eb] at w; exact w.elim
/-- a for loop: an invariant over what has been walked -/
theorem wp_for {F : Fl} {it : IM} {T : Tg} {b : Fl → SM} (I : List D → Ev → Hh → Prop) (R : D → Hh → Prop)
    (e : WE it r h fun p h1 => I [] r h1 ∧ (∀ pre d post r h, p.1 = pre ++ d :: post → I pre r h → WO (T.put d r) fun r1 => WP (b (F.lock p.2)) r1 h (Go (I (pre ++ [d])) R)) ∧ (∀ r h, I p.1 r h → KO (.nx r h)))
    (kR : ∀ d h, R d h → KO (.rt d h)) : WP (bFor F it T b) r h KO := by
  with_unfolding_all
    obtain ⟨⟨ds, l⟩, h1, e1, i0, step, kN⟩ := wr_elim e
    unfold WP bFor; rw [e1]
    rcases forL_wp I R step (pre := []) rfl i0 with ⟨r', h', e1, i⟩ | ⟨d, h', e1, i⟩
    · dsimp only at e1 ⊢; rw [e1]; exact kN _ _ i
    · dsimp only at e1 ⊢; rw [e1]; exact kR _ _ i
/-- a halt: what is known there -/
def Nx (I : Ev → Hh → Prop) : Out → Prop
  | .nx r h => I r h
  | _ => False
theorem nx_nx {I : Ev → Hh → Prop} : Nx I (.nx r h) = I r h := by with_unfolding_all exact rfl
theorem wp_cut (I : Ev → Hh → Prop) (w : WP p r h (Nx I)) (hn : ∀ r h, I r h → KO (.nx r h)) : WP p r h KO := by
  with_unfolding_all
    unfold WP at w ⊢
    cases e : p r h with
    | nx r2 h2 => rw [e] at w; exact hn _ _ w
    | ct => rw [e] at w; exact w.elim
    | rt => rw [e] at w; exact w.elim
    | bk => rw [e] at w; exact w.elim
    | ex => rw [e] at w; exact w.elim
    | bad => rw [e] at w; exact w.elim
/-- a short row, one by one -/
def FW (T : Tg) (b : SM) (KO : Out → Prop) : List D → Ev → Hh → Prop
  | [], r, h => KO (.nx r h)
  | d :: ds, r, h => WO (T.put d r) fun r1 => WP b r1 h (Go (FW T b KO ds) fun d h => KO (.rt d h))
theorem fw_nil {T : Tg} {b : SM} : FW T b KO [] r h = KO (.nx r h) := by with_unfolding_all exact rfl
theorem fw_cons {T : Tg} {b : SM} {ds : List D} : FW T b KO (d :: ds) r h = WO (T.put d r) fun r1 => WP b r1 h (Go (FW T b KO ds) fun d h => KO (.rt d h)) := by with_unfolding_all exact rfl
theorem forL_fw {T : Tg} {b : SM} : ∀ {ds : List D} {r : Ev} {h : Hh}, FW T b KO ds r h → KO (forL T b ds r h)
  | [], r, h, w => w
  | d :: ds, r, h, w => by
    obtain ⟨r1, e1, w⟩ := wo_elim (show WO (T.put d r) fun r1 => WP b r1 h (Go (FW T b KO ds) fun d h => KO (.rt d h)) from w)
    unfold forL; rw [e1]; dsimp only
    unfold WP at w
    cases eb : b r1 h with
    | nx r2 h2 => rw [eb] at w; exact forL_fw w
    | ct r2 h2 => rw [eb] at w; exact forL_fw w
    | rt d2 h2 => rw [eb] at w; exact w
    | bk => rw [eb] at w; exact w.elim
    | ex => rw [eb] at w; exact w.elim
    | bad => rw [eb] at w; exact w.elim
theorem wp_forU {F : Fl} {it : IM} {T : Tg} {b : Fl → SM} (e : WE it r h fun p h1 => FW T (b (F.lock p.2)) KO p.1 r h1) : WP (bFor F it T b) r h KO := by
  with_unfolding_all
    obtain ⟨⟨ds, l⟩, h1, e1, w⟩ := wr_elim e
    unfold WP bFor; rw [e1]; exact forL_fw w
/-- .. over a row of things that are told as data -/
theorem wp_forE {F : Fl} {it : IM} {T : Tg} {b : Fl → SM} {α : Type} (xs : List α) (en : α → D) (I : List α → Ev → Hh → Prop) (R : D → Hh → Prop)
    (e : WE it r h fun p h1 => p.1 = xs.map en ∧ I [] r h1 ∧ (∀ pre x post r h, xs = pre ++ x :: post → I pre r h → WO (T.put (en x) r) fun r1 => WP (b (F.lock p.2)) r1 h (Go (I (pre ++ [x])) R)) ∧ (∀ r h, I xs r h → KO (.nx r h)))
    (kR : ∀ d h, R d h → KO (.rt d h)) : WP (bFor F it T b) r h KO := by
  with_unfolding_all
    obtain ⟨⟨ds, l⟩, h1, e1, ed, i0, step, kN⟩ := wr_elim e
    refine wp_for (fun pre r h => ∃ n, n ≤ xs.length ∧ pre = (xs.take n).map en ∧ I (xs.take n) r h) R ?_ kR
    unfold WE; rw [e1, wr_ok]
    dsimp only at ed step ⊢
    subst ed
    refine ⟨⟨0, Nat.zero_le _, rfl, i0⟩, fun pre d post r h e ⟨n, hn, hp, i⟩ => ?_, fun r h ⟨n, hn, hp, i⟩ => kN r h ?_⟩
    · have lt : n < xs.length := by
        have := congrArg List.length e
        have l2 := congrArg List.length hp
        simp at this l2; omega
      have hd : d = en xs[n] := by
        have z : (xs.map en)[n]? = some d := by
          rw [e, List.getElem?_append_right (by rw [hp]; simp; omega)]
          have : n - pre.length = 0 := by rw [hp]; simp; omega
          rw [this]; rfl
        simpa [lt] using z.symm
      have es : xs = xs.take n ++ xs[n] :: xs.drop (n + 1) := by
        rw [List.getElem_cons_drop]; exact (List.take_append_drop n xs).symm
      have s := step (xs.take n) xs[n] (xs.drop (n + 1)) r h es i
      rw [← hd] at s
      obtain ⟨r1, e2, w⟩ := wo_elim s
      rw [e2, wo_some]
      unfold WP at w ⊢
      have key : ∀ r h, I (xs.take n ++ [xs[n]]) r h → ∃ n, n ≤ xs.length ∧ pre ++ [d] = (xs.take n).map en ∧ I (xs.take n) r h := fun r h i =>
        ⟨n + 1, lt, by rw [List.take_succ_eq_append_getElem lt, List.map_append, ← hp, hd]; rfl, by rw [List.take_succ_eq_append_getElem lt]; exact i⟩
      cases eb : b (F.lock l) r1 h with
      | nx r2 h2 => rw [eb] at w; exact key _ _ w
      | ct r2 h2 => rw [eb] at w; exact key _ _ w
      | rt d2 h2 => rw [eb] at w; exact w
      | bk => rw [eb] at w; exact w.elim
      | ex => rw [eb] at w; exact w.elim
      | bad => rw [eb] at w; exact w.elim
    · have : n = xs.length := by have l2 := congrArg List.length hp; simp at l2; omega
      rw [this, List.take_length] at i; exact i
theorem whileN_wp {c : TM} {b : SM} (I : Nat → Ev → Hh → Prop) (N : Ev → Hh → Prop) (R : D → Hh → Prop)
    (step : ∀ n r h, I n r h → WE c r h fun t h1 => if t = true then WP b r h1 (Go (fun r2 h2 => ∃ m, m < n ∧ I m r2 h2) R) else N r h1) :
    ∀ (f n : Nat) (r : Ev) (h : Hh), n < f → I n r h → (∃ r' h', whileN c b f r h = .nx r' h' ∧ N r' h') ∨ ∃ d h', whileN c b f r h = .rt d h' ∧ R d h' := by
  with_unfolding_all
    intro f
    induction f with
    | zero => intro n r h l; omega
    | succ f ih =>
      intro n r h l i
      obtain ⟨t, h1, e1, k⟩ := wr_elim (step n r h i)
      unfold whileN; rw [e1]
      cases t with
      | false => exact .inl ⟨r, h1, rfl, k⟩
      | true =>
        have w : WP b r h1 (Go (fun r2 h2 => ∃ m, m < n ∧ I m r2 h2) R) := k
        unfold WP at w
        dsimp only
        cases eb : b r h1 with
        | nx r2 h2 => rw [eb] at w; obtain ⟨m, lm, im⟩ := w; exact ih m r2 h2 (by omega) im
        | ct r2 h2 => rw [eb] at w; obtain ⟨m, lm, im⟩ := w; exact ih m r2 h2 (by omega) im
        | rt d2 h2 => rw [eb] at w; exact .inr ⟨d2, h2, rfl, w⟩
        | bk => rw [eb] at w; exact w.elim
        | ex => rw [eb] at w; exact w.elim
        | bad => rw [eb] at w; exact w.elim
/-- a while loop: an invariant with a measure -/
theorem wp_while {c : TM} {b : SM} (I : Nat → Ev → Hh → Prop) (N : Ev → Hh → Prop) (R : D → Hh → Prop) (n : Nat) (hn : n < 1000000000) (i0 : I n r h)
    (step : ∀ n r h, I n r h → WE c r h fun t h1 => if t = true then WP b r h1 (Go (fun r2 h2 => ∃ m, m < n ∧ I m r2 h2) R) else N r h1)
    (kR : ∀ d h, R d h → KO (.rt d h)) (kN : ∀ r h, N r h → KO (.nx r h)) : WP (bWhile c b) r h KO := by
  with_unfolding_all
    unfold WP bWhile
    rcases whileN_wp I N R step 1000000000 n r h hn i0 with ⟨r', h', e1, i⟩ | ⟨d, h', e1, i⟩
    · rw [e1]; exact kN _ _ i
    · rw [e1]; exact kR _ _ i
/-- a def's end -/
theorem runP_wp {n : Nat} {mb : Fl → SM} {ds : List D} {res : Rs D} (w : WP (mb (flP h)) (startE n ds) h fun o => finP h o = res) : runP n mb ds h = res := by with_unfolding_all exact w
theorem runP_wr {n : Nat} {mb : Fl → SM} {ds : List D} (w : WP (mb (flP h)) (startE n ds) h fun o => WR (finP h o) K) : WR (runP n mb ds h) K := by with_unfolding_all exact w
theorem runP_q {n : Nat} {mb : Fl → SM} {ds : List D} {Q : Rs D → Prop} (w : WP (mb (flP h)) (startE n ds) h fun o => Q (finP h o)) : Q (runP n mb ds h) := by with_unfolding_all exact w
theorem runP_law {n : Nat} {mb : Fl → SM} {ds : List D} {res : Rs D} {r : Ev} (e : startE n ds = r) (w : WP (mb (flP [])) r [] fun o => finP [] o = res) : runP n mb ds [] = res := by with_unfolding_all (subst e; exact w)
theorem we_elim {α : Type} {m : Ev → Hh → Rs α} {K : α → Hh → Prop} (w : WE m r h K) : ∃ a h1, m r h = .ok a h1 ∧ K a h1 := by with_unfolding_all exact wr_elim w
theorem we_intro {α : Type} {m : Ev → Hh → Rs α} {K : α → Hh → Prop} {a : α} (e : m r h = .ok a h1) (k : K a h1) : WE m r h K := by with_unfolding_all (unfold WE; rw [e]; exact k)
theorem wr_intro {α : Type} {x : Rs α} {K : α → Hh → Prop} {a : α} (e : x = .ok a h1) (k : K a h1) : WR x K := by with_unfolding_all (rw [e]; exact k)
theorem runT_wr {n : Nat} {mb : Fl → SM} {t : Nat} {x : D} {ds : List D} (w : WP (mb (flT h t)) (startE n (x :: .ref t :: ds)) h fun o => WR (finT h t o) K) : WR (runT n mb (x :: .ref t :: ds) h) K := by with_unfolding_all exact w
theorem finP_rt {h' : Hh} : finP h (.rt d h') = pack h d h' := rfl
theorem finP_nx {r : Ev} {h' : Hh} : finP h (.nx r h') = .ok .non h := rfl
/-- a comprehension whose parts change nothing -/
theorem lcL_pure {T : Tg} {tt : TM} {te : EM} {r0 : Ev} {α : Type} {h : Hh} {K : List D → Hh → Prop} (xs : List α) (en : α → D) (p : α → Bool) (f : α → D)
    (H : ∀ x ∈ xs, WO (T.put (en x) r0) fun r1 => WE tt r1 h fun c h1 => h1 = h ∧ c = p x ∧ (c = true → WE te r1 h fun d h2 => h2 = h ∧ d = f x)) (k : K ((xs.filter p).map f) h) : WR (lcL T tt te r0 (xs.map en) h) K := by
  with_unfolding_all
    have z : lcL T tt te r0 (xs.map en) h = .ok ((xs.filter p).map f) h := by
      clear k
      induction xs with
      | nil => rfl
      | cons x xs ih =>
        obtain ⟨r1, e1, w⟩ := wo_elim (H x (by simp))
        obtain ⟨c, h1, e2, rfl, rfl, w⟩ := wr_elim w
        have ih := ih fun y hy => H y (by simp [hy])
        rw [List.map_cons]; unfold lcL; rw [e1]; dsimp only; rw [e2]
        cases hp : p x with
        | true =>
          obtain ⟨d, h2, e3, rfl, rfl⟩ := wr_elim (w hp)
          dsimp only; rw [e3]; dsimp only; rw [ih, List.filter_cons_of_pos hp]; rfl
        | false => dsimp only; rw [ih, List.filter_cons_of_neg (by simp [hp])]
    rw [z]; exact k
/-- .. one by one -/
theorem lcL_nil {T : Tg} {tt : TM} {te : EM} {r0 : Ev} {K : List D → Hh → Prop} (k : K [] h) : WR (lcL T tt te r0 [] h) K := by
  with_unfolding_all exact k
theorem lcL_cons {T : Tg} {tt : TM} {te : EM} {r0 : Ev} {ds : List D} {K : List D → Hh → Prop} (w : WO (T.put d r0) fun r1 => WE tt r1 h fun c h1 => if c = true then WE te r1 h1 fun y h2 => WR (lcL T tt te r0 ds h2) fun ys h3 => K (y :: ys) h3 else WR (lcL T tt te r0 ds h1) K) : WR (lcL T tt te r0 (d :: ds) h) K := by
  with_unfolding_all
    obtain ⟨r1, e1, w⟩ := wo_elim w
    obtain ⟨c, h1, e2, w⟩ := wr_elim w
    unfold lcL; rw [e1]; dsimp only; rw [e2]
    cases c with
    | true =>
      rw [if_pos rfl] at w
      obtain ⟨y, h2, e3, w⟩ := wr_elim w
      obtain ⟨ys, h3, e4, w⟩ := wr_elim w
      dsimp only; rw [e3]; dsimp only; rw [e4]; exact w
    | false =>
      rw [if_neg (by decide)] at w
      exact w
/-- .. whose heap may grow -/
theorem lcL_any {T : Tg} {tt : TM} {te : EM} {r0 : Ev} {h : Hh} {K : List D → Hh → Prop} (ds : List D) (I : List D → List D → Hh → Prop) (i0 : I [] [] h)
    (step : ∀ pre d post ys h, ds = pre ++ d :: post → I pre ys h → WO (T.put d r0) fun r1 => WE tt r1 h fun c h1 => if c = true then WE te r1 h1 fun y h2 => I (pre ++ [d]) (ys ++ [y]) h2 else I (pre ++ [d]) ys h1) (k : ∀ ys h, I ds ys h → K ys h) : WR (lcL T tt te r0 ds h) K := by
  with_unfolding_all
    have z : ∀ (post pre ys : List D) (h : Hh), ds = pre ++ post → I pre ys h → ∃ zs h', lcL T tt te r0 post h = .ok zs h' ∧ I ds (ys ++ zs) h' := by
      intro post
      induction post with
      | nil => intro pre ys h e i; exact ⟨[], h, rfl, by rw [e]; simpa using i⟩
      | cons d post ih =>
        intro pre ys h e i
        obtain ⟨r1, e1, w⟩ := wo_elim (step pre d post ys h e i)
        obtain ⟨c, h1, e2, w⟩ := wr_elim w
        unfold lcL; rw [e1]; dsimp only; rw [e2]
        cases c with
        | true =>
          rw [if_pos rfl] at w
          obtain ⟨y, h2, e3, w⟩ := wr_elim w
          obtain ⟨zs, h', e4, i4⟩ := ih (pre ++ [d]) (ys ++ [y]) h2 (by rw [e]; simp) w
          dsimp only; rw [e3]; dsimp only; rw [e4]
          exact ⟨y :: zs, h', rfl, by simpa using i4⟩
        | false =>
          rw [if_neg (by decide)] at w
          obtain ⟨zs, h', e4, i4⟩ := ih (pre ++ [d]) ys h1 (by rw [e]; simp) w
          exact ⟨zs, h', e4, i4⟩
    obtain ⟨zs, h', e, i⟩ := z ds [] [] h rfl i0
    rw [e]; exact k _ _ (by simpa using i)
end
/-! ### heaps: what stood before, and what is new -/
section
variable {h L M : Hh} {k : Nat} {o : Ob}
theorem get_len {α : Type} {h L : List α} : (h ++ L)[h.length + k]? = L[k]? := by rw [List.getElem?_append_right (by omega)]; congr 1; omega
theorem get_len0 {α : Type} {h L : List α} : (h ++ L)[h.length]? = L[0]? := by rw [List.getElem?_append_right (by omega)]; congr 1; omega
theorem it_tup {ds : List D} : itemsOf (.tup ds) h = some (ds, none) := rfl
theorem it_fro {ds : List D} : itemsOf (.fro ds) h = some (ds, none) := rfl
theorem it_str {cs : List Nat} : itemsOf (.str cs) h = some (cs.map fun c => .str [c], none) := rfl
theorem it_ref {j : Nat} : itemsOf (.ref j) h = (match h[j]? with
    | some (.lst ds) => some (ds, some j)
    | some (.dct kvs) => some (kvs.map (·.1), some j)
    | none => none) := rfl
theorem add_ref {i j : Nat} : opAdd (.ref i) (.ref j) h = (match h[i]?, h[j]? with
    | some (.lst a), some (.lst b) => if a.length + b.length ≤ lim then .ok (.ref h.length) (h ++ [.lst (a ++ b)]) else .bad
    | _, _ => .bad) := rfl
theorem isnot_n {x : D} : opIsNot x .non h = .ok (.bl (!decide (x = .non))) h := by cases x <;> rfl
theorem is_n {x : D} : opIs x .non h = .ok (.bl (decide (x = .non))) h := by cases x <;> rfl
theorem le_len_add {α : Type} {h : List α} {k : Nat} : h.length ≤ h.length + k := Nat.le_add_right _ _
theorem get_cons2 {α : Type} {a : α} {L : List α} {n k : Nat} : (a :: L)[n + (k + 1)]? = L[n + k]? := rfl
theorem get_cons3 {α : Type} {a : α} {L : List α} {n m k : Nat} : (a :: L)[n + (m + (k + 1))]? = L[n + (m + k)]? := rfl
theorem set_cons2 {α : Type} {a b : α} {L : List α} {n k : Nat} : (a :: L).set (n + (k + 1)) b = a :: L.set (n + k) b := rfl
theorem set_cons3 {α : Type} {a b : α} {L : List α} {n m k : Nat} : (a :: L).set (n + (m + (k + 1))) b = a :: L.set (n + (m + k)) b := rfl
theorem get_map0 {α β : Type} {f : α → β} {xs : List α} {L : List β} : (xs.map f ++ L)[xs.length]? = L[0]? := by rw [← List.length_map (f := f) (as := xs)]; exact get_len0
theorem get_mapk {α β : Type} {f : α → β} {xs : List α} {L : List β} : (xs.map f ++ L)[xs.length + k]? = L[k]? := by rw [← List.length_map (f := f) (as := xs)]; exact get_len
theorem set_len : (h ++ L).set (h.length + k) o = h ++ L.set k o := by rw [List.set_append_right (h := by omega)]; congr 2; omega
theorem set_len0 : (h ++ L).set h.length o = h ++ L.set 0 o := by rw [List.set_append_right (h := by omega)]; congr 2; omega
theorem pack_refless {d : D} {h' : Hh} (e : refless d = true) : pack h d h' = .ok d h := by unfold pack; rw [if_pos e]
theorem pack_lst {xs : List D} {h' : Hh} {j : Nat} (hj : h.length ≤ j) (e : h'[j]? = some (.lst xs)) (er : reflesss xs = true) : pack h (.ref j) h' = .ok (.ref h.length) (h ++ [.lst xs]) := by
  unfold pack; rw [if_neg (by simp [refless])]; dsimp only; rw [if_pos hj, e]; dsimp only; rw [if_pos (by exact er)]
theorem may_P {i : Nat} : (flP h).may i = decide (h.length ≤ i) := rfl
theorem may_T {i t : Nat} : (flT h t).may i = (decide (h.length ≤ i) || decide (i = t)) := rfl
theorem lock_none {F : Fl} : F.lock none = F := rfl
theorem lock_some {F : Fl} {j i : Nat} : (F.lock (some j)).may i = (F.may i && !(i == j)) := rfl
theorem put_one {i : Nat} {d : D} {r : Ev} : Tg.put (.one i) d r = some (r.set i (some d)) := rfl
theorem put_many {is : List Nat} {ds : List D} {r : Ev} : Tg.put (.many is) (.tup ds) r = putAll is ds r := rfl
theorem putAll_nil {r : Ev} : putAll [] [] r = some r := rfl
theorem putAll_cons {i : Nat} {is : List Nat} {d : D} {ds : List D} {r : Ev} : putAll (i :: is) (d :: ds) r = putAll is ds (r.set i (some d)) := rfl
theorem set_s {α : Type} {x y : α} {xs : List α} {n : Nat} : (x :: xs).set (n + 1) y = x :: xs.set n y := rfl
theorem set_0 {α : Type} {x y : α} {xs : List α} : (x :: xs).set 0 y = y :: xs := rfl
theorem wipe_nil {r : Ev} : wipeE r [] = r := rfl
theorem wipe_cons {r : Ev} {v : Nat} {vs : List Nat} : wipeE r (v :: vs) = (wipeE r vs).set v none := rfl
theorem le_int {a b : Int} : opLe (.int a) (.int b) h = .ok (.bl (decide (a ≤ b))) h := rfl
theorem ge_int {a b : Int} : opGe (.int a) (.int b) h = .ok (.bl (decide (b ≤ a))) h := rfl
theorem gt_int {a b : Int} : opGt (.int a) (.int b) h = .ok (.bl (decide (b < a))) h := rfl
theorem lt_int {a b : Int} : opLtA (.int a) (.int b) h = .ok (.bl (decide (a < b))) h := rfl
theorem add_int {a b : Int} : opAdd (.int a) (.int b) h = .ok (.int (a + b)) h := rfl
theorem sub_int {a b : Int} : opSub (.int a) (.int b) h = .ok (.int (a - b)) h := rfl
theorem add_str {a b : List Nat} (hl : a.length + b.length ≤ lim) : opAdd (.str a) (.str b) h = .ok (.str (a ++ b)) h := if_pos hl
theorem add_tup {a b : List D} (hl : a.length + b.length ≤ lim) : opAdd (.tup a) (.tup b) h = .ok (.tup (a ++ b)) h := if_pos hl
theorem beqs_eq (a b : List D) : D.beqs a b = decide (a = b) := by
  by_cases e : a = b
  · subst e; simp [D.beqs_self]
  · simp [e]; cases h : D.beqs a b with
    | false => rfl
    | true => exact absurd (D.eq_of_beqs _ _ h) e
theorem beq_eq (a b : D) : D.beq a b = decide (a = b) := by
  by_cases e : a = b
  · subst e; simp [D.beq_self]
  · simp [e]; cases h : D.beq a b with
    | false => rfl
    | true => exact absurd (D.eq_of_beq _ _ h) e
theorem eq_plain {a b : D} (ha : D.plainN 8 a = true) (hb : D.plainN 8 b = true) : opEq a b h = .ok (.bl (decide (a = b))) h := by unfold opEq eqD; simp [ha, hb, beq_eq]
theorem ne_plain {a b : D} (ha : D.plainN 8 a = true) (hb : D.plainN 8 b = true) : opNe a b h = .ok (.bl (!decide (a = b))) h := by unfold opNe eqD; simp [ha, hb, beq_eq]
theorem plain_str (n : Nat) (c : List Nat) : D.plainN n (.str c) = true := by cases n <;> rfl
theorem plain_int (n : Nat) (c : Int) : D.plainN n (.int c) = true := by cases n <;> rfl
theorem plain_tup (n : Nat) (c : List D) : D.plainN (n + 1) (.tup c) = D.plainNs n c := rfl
theorem plain_nil (n : Nat) : D.plainNs n [] = true := by cases n <;> rfl
theorem plain_cons (n : Nat) (x : D) (xs : List D) : D.plainNs n (x :: xs) = (D.plainN n x && D.plainNs n xs) := rfl
theorem plain_non (n : Nat) : D.plainN n .non = true := by cases n <;> rfl
theorem eq_str {a b : List Nat} : opEq (.str a) (.str b) h = .ok (.bl (decide (a = b))) h := by rw [eq_plain (plain_str _ _) (plain_str _ _)]; simp
theorem ne_str {a b : List Nat} : opNe (.str a) (.str b) h = .ok (.bl (!decide (a = b))) h := by rw [ne_plain (plain_str _ _) (plain_str _ _)]; simp
theorem eq_int {a b : Int} : opEq (.int a) (.int b) h = .ok (.bl (decide (a = b))) h := by rw [eq_plain (plain_int _ _) (plain_int _ _)]; simp
theorem ne_int {a b : Int} : opNe (.int a) (.int b) h = .ok (.bl (!decide (a = b))) h := by rw [ne_plain (plain_int _ _) (plain_int _ _)]; simp
theorem len_str {c : List Nat} (hl : c.length ≤ lim) : fLen [.str c] h = .ok (.int c.length) h := if_pos hl
theorem len_tup {c : List D} : fLen [.tup c] h = .ok (.int c.length) h := rfl
theorem len_fro {c : List D} : fLen [.fro c] h = .ok (.int c.length) h := rfl
theorem len_lst {c : List D} {j : Nat} (hj : h[j]? = some (.lst c)) : fLen [.ref j] h = .ok (.int c.length) h := by simp [fLen, seqOf, hj]
theorem ix_tup {c : List D} {i : Int} : opIx (.tup c) (.int i) h = (match atI c i with | some d => .ok d h | none => .bad) := rfl
theorem town_s {x : D} {t : Nat} {ds : List D} : townOf (x :: .ref t :: ds) = some t := rfl
theorem kit_ii : kitB "int" "int" = some true := by decide +kernel
theorem kit_ib : kitB "int" "bool" = some false := by decide +kernel
theorem kit_ss : kitB "str" "str" = some true := by decide +kernel
theorem kit_tt : kitB "tuple" "tuple" = some true := by decide +kernel
theorem bools_map {α : Type} (f : α → Bool) : ∀ xs : List α, bools (xs.map fun x => D.bl (f x)) = some (xs.map f)
  | [] => rfl
  | x :: xs => by show (bools (xs.map fun x => D.bl (f x))).map (f x :: ·) = _; rw [bools_map f xs]; rfl
theorem all_new {α : Type} {xs : List α} {f : α → Bool} : fAll [.ref h.length] (h ++ [.lst (xs.map fun x => D.bl (f x))]) = .ok (.bl (xs.all f)) (h ++ [.lst (xs.map fun x => D.bl (f x))]) := by
  simp [fAll, fList, listOf, bools_map]
theorem any_new {α : Type} {xs : List α} {f : α → Bool} : fAny [.ref h.length] (h ++ [.lst (xs.map fun x => D.bl (f x))]) = .ok (.bl (xs.any f)) (h ++ [.lst (xs.map fun x => D.bl (f x))]) := by
  simp [fAny, fList, listOf, bools_map]
/-- .. without a test -/
theorem lcL_map {T : Tg} {te : EM} {r0 : Ev} {α : Type} {h : Hh} {K : List D → Hh → Prop} (xs : List α) (en : α → D) (f : α → D)
    (H : ∀ x ∈ xs, WO (T.put (en x) r0) fun r1 => WE te r1 h fun d h2 => h2 = h ∧ d = f x) (k : K (xs.map f) h) : WR (lcL T xYes te r0 (xs.map en) h) K := by
  with_unfolding_all
    refine lcL_pure xs en (fun _ => true) f (fun x hx => ?_) (by rw [List.filter_eq_self.mpr (fun _ _ => rfl)]; exact k)
    obtain ⟨r1, e1, w⟩ := wo_elim (H x hx)
    rw [e1]; exact ⟨rfl, rfl, fun _ => w⟩
theorem refless_bl {b : Bool} : refless (.bl b) = true := rfl
theorem refless_int {b : Int} : refless (.int b) = true := rfl
theorem refless_str {b : List Nat} : refless (.str b) = true := rfl
theorem refless_non : refless .non = true := rfl
theorem refless_tup {b : List D} : refless (.tup b) = reflesss b := rfl
theorem reflesss_nil : reflesss [] = true := rfl
theorem reflesss_cons {x : D} {xs : List D} : reflesss (x :: xs) = (refless x && reflesss xs) := rfl
theorem pack_bl {b : Bool} {h' : Hh} : pack h (.bl b) h' = .ok (.bl b) h := pack_refless rfl
theorem pack_int {b : Int} {h' : Hh} : pack h (.int b) h' = .ok (.int b) h := pack_refless rfl
theorem pack_str {b : List Nat} {h' : Hh} : pack h (.str b) h' = .ok (.str b) h := pack_refless rfl
theorem pack_non {h' : Hh} : pack h .non h' = .ok .non h := pack_refless rfl
theorem pack_tup {b : List D} {h' : Hh} (e : reflesss b = true) : pack h (.tup b) h' = .ok (.tup b) h := pack_refless e
theorem texts_map {α : Type} (f : α → List Nat) : ∀ xs : List α, texts (xs.map fun x => D.str (f x)) = some (xs.map f)
  | [] => rfl
  | x :: xs => by show (texts (xs.map fun x => D.str (f x))).map (f x :: ·) = _; rw [texts_map f xs]; rfl
theorem joinL_nil : ∀ ts : List (List Nat), joinL [] ts = ts.flatten
  | [] => rfl
  | [t] => by simp [joinL]
  | t :: u :: ts => by show t ++ ([] ++ joinL [] (u :: ts)) = _; rw [joinL_nil (u :: ts)]; simp
/-- "".join of one letter each -/
theorem join_new {xs : List Nat} (hl : xs.length ≤ lim) : mJoin (.str []) [.ref h.length] (h ++ [.lst (xs.map fun x => D.str [x])]) = .ok (.str xs) (h ++ [.lst (xs.map fun x => D.str [x])]) := by
  have e : ((xs.map fun x => [x]).map (·.length)).sum + (xs.map fun x => [x]).length * ([] : List Nat).length = xs.length := by
    simp; clear hl; induction xs with
    | nil => rfl
    | cons x xs ih => simp_all; omega
  have e2 : (xs.map fun x => [x]).flatten = xs := by
    clear e hl; induction xs with
    | nil => rfl
    | cons x xs ih => simp_all
  unfold mJoin seqOf
  simp only [get_len0, List.getElem?_cons_zero, texts_map]
  rw [if_pos (by rw [e]; exact hl), joinL_nil, e2]
/-! what reads a list in the heap -/
def joinOf (a : List Nat) (xs : List D) (h : Hh) : Rs D := match texts xs with
  | some ts => if (ts.map (·.length)).sum + ts.length * a.length ≤ lim then .ok (.str (joinL a ts)) h else .bad
  | none => .bad
theorem join_ref {a : List Nat} {j : Nat} : mJoin (.str a) [.ref j] h = (match h[j]? with | some (.lst xs) => joinOf a xs h | _ => .bad) := by
  unfold mJoin seqOf; dsimp only; cases h[j]? with
  | none => rfl
  | some o => cases o <;> rfl
theorem joinOf_chars {xs : List Nat} (hl : xs.length ≤ lim) : joinOf [] (xs.map fun x => D.str [x]) h = .ok (.str xs) h := by
  have e : ((xs.map fun x => [x]).map (·.length)).sum + (xs.map fun x => [x]).length * ([] : List Nat).length = xs.length := by
    simp; clear hl; induction xs with
    | nil => rfl
    | cons x xs ih => simp_all; omega
  have e2 : (xs.map fun x => [x]).flatten = xs := by
    clear e hl; induction xs with
    | nil => rfl
    | cons x xs ih => simp_all
  unfold joinOf; rw [texts_map]; dsimp only; rw [if_pos (by rw [e]; exact hl), joinL_nil, e2]
theorem len_ref {j : Nat} : fLen [.ref j] h = (match h[j]? with | some (.lst xs) => .ok (.int xs.length) h | _ => .bad) := by
  unfold fLen seqOf; dsimp only; cases h[j]? with
  | none => rfl
  | some o => cases o <;> rfl
theorem tup_ref {j : Nat} : fTupOf [.ref j] h = (match h[j]? with | some (.lst xs) => .ok (.tup xs) h | _ => .bad) := by
  unfold fTupOf seqOf; dsimp only; cases h[j]? with
  | none => rfl
  | some o => cases o <;> rfl
def boolsOf (g : List Bool → Bool) (xs : List D) (h : Hh) : Rs D := match bools xs with
  | some bs => .ok (.bl (g bs)) h
  | none => .bad
theorem all_ref {j : Nat} : fAll [.ref j] h = (match h[j]? with | some (.lst xs) => boolsOf (fun bs => bs.all id) xs h | _ => .bad) := by
  unfold fAll fList listOf; dsimp only; cases h[j]? with
  | none => rfl
  | some o => cases o with
    | lst xs => unfold boolsOf; dsimp only; cases bools xs <;> rfl
    | dct => rfl
theorem any_ref {j : Nat} : fAny [.ref j] h = (match h[j]? with | some (.lst xs) => boolsOf (fun bs => bs.any id) xs h | _ => .bad) := by
  unfold fAny fList listOf; dsimp only; cases h[j]? with
  | none => rfl
  | some o => cases o with
    | lst xs => unfold boolsOf; dsimp only; cases bools xs <;> rfl
    | dct => rfl
theorem all_of {α : Type} {xs : List α} {f : α → Bool} : boolsOf (fun bs => bs.all id) (xs.map fun x => D.bl (f x)) h = .ok (.bl (xs.all f)) h := by
  unfold boolsOf; rw [bools_map]; simp
theorem any_of {α : Type} {xs : List α} {f : α → Bool} : boolsOf (fun bs => bs.any id) (xs.map fun x => D.bl (f x)) h = .ok (.bl (xs.any f)) h := by
  unfold boolsOf; rw [bools_map]; simp
theorem app_ref {F : Fl} {j : Nat} {y : D} : mAppend F (.ref j) [y] h = (match h[j]? with | some (.lst xs) => if (F.may j && decide (xs.length < lim)) = true then .ok .non (h.set j (.lst (xs ++ [y]))) else .bad | _ => .bad) := rfl
theorem ext_ref {F : Fl} {j i : Nat} : mExtend F (.ref j) [.ref i] h = (match h[j]?, h[i]? with | some (.lst xs), some (.lst ys) => if (F.may j && decide (xs.length + ys.length ≤ lim)) = true then .ok .non (h.set j (.lst (xs ++ ys))) else .bad | _, _ => .bad) := rfl
theorem ext_tup {F : Fl} {j : Nat} {ys : List D} : mExtend F (.ref j) [.tup ys] h = (match h[j]? with | some (.lst xs) => if (F.may j && decide (xs.length + ys.length ≤ lim)) = true then .ok .non (h.set j (.lst (xs ++ ys))) else .bad | _ => .bad) := rfl
theorem pop_ref {F : Fl} {j : Nat} : mPop F (.ref j) [] h = (match h[j]? with | some (.lst xs) => if F.may j = true then (match xs[xs.length - 1]? with | some y => .ok y (h.set j (.lst xs.dropLast)) | none => .bad) else .bad | _ => .bad) := rfl
theorem ix_ref {j : Nat} {y : D} : opIx (.ref j) y h = (match h[j]? with
    | some (.lst xs) => ixL xs y h
    | some (.dct kvs) => if isKey y = true then (match dget kvs y with
      | some d => .ok d h
      | none => .bad) else .bad
    | none => .bad) := rfl
theorem ixL_int {xs : List D} {i : Int} : ixL xs (.int i) h = (match atI xs i with | some d => .ok d h | none => .bad) := rfl
theorem ty_list {j : Nat} : tyOk .list (.ref j) h = (match h[j]? with | some (.lst _) => true | _ => false) := by
  unfold tyOk; dsimp only; cases h[j]? with
  | none => rfl
  | some o => cases o <;> rfl
theorem ty_dict {j : Nat} : tyOk .dict (.ref j) h = (match h[j]? with | some (.dct _) => true | _ => false) := by
  unfold tyOk; dsimp only; cases h[j]? with
  | none => rfl
  | some o => cases o <;> rfl
theorem ty_str {a : List Nat} : tyOk .str (.str a) h = true := rfl
theorem in_ref {j : Nat} {x : D} : opIn x (.ref j) h = (match h[j]? with
    | some (.lst ys) => if (D.plainN 8 x && D.plainNs 8 ys) = true then .ok (.bl (ys.any fun z => D.beq z x)) h else .bad
    | some (.dct kvs) => if isKey x = true then .ok (.bl (dget kvs x).isSome) h else .bad
    | none => .bad) := rfl
theorem sorted_ref {j : Nat} : fSortedA [.ref j] h = (match h[j]? with | some (.lst xs) => if okSort xs = true then .ok (.ref h.length) (h ++ [.lst (isort leD xs)]) else .bad | _ => .bad) := by
  unfold fSortedA fSorted listOf; dsimp only; cases h[j]? with
  | none => rfl
  | some o => cases o <;> rfl
theorem list_ref {j : Nat} : fListA [.ref j] h = (match h[j]? with
    | some (.lst xs) => .ok (.ref h.length) (h ++ [.lst xs])
    | some (.dct kvs) => .ok (.ref h.length) (h ++ [.lst (kvs.map (·.1))])
    | none => .bad) := rfl
theorem ix_str {cs : List Nat} {i : Int} : opIx (.str cs) (.int i) h = (if cs.length ≤ lim then (match atI cs i with | some c => .ok (.str [c]) h | none => .bad) else .bad) := rfl
theorem sl_str {cs : List Nat} {lo hi : Option Int} : opSl (.str cs) lo hi h = (if cs.length ≤ lim then .ok (.str (cutL cs lo hi)) h else .bad) := rfl
theorem sl_tup {cs : List D} {lo hi : Option Int} : opSl (.tup cs) lo hi h = .ok (.tup (cutL cs lo hi)) h := rfl
theorem starts_s {a b : List Nat} : mStarts (.str a) [.str b] h = .ok (.bl (b.isPrefixOf a)) h := rfl
theorem cut_1 {α : Type} {x : α} {xs : List α} : cutL (x :: xs) (some 1) none = xs := by
  unfold cutL; simp [HT.sIx]
theorem cut_map {α β : Type} {f : α → β} {xs : List α} {lo hi : Option Int} : cutL (xs.map f) lo hi = (cutL xs lo hi).map f := by
  unfold cutL; rw [List.length_map, List.map_take, List.map_drop]
theorem put_ref {F : Fl} {j : Nat} {i v : D} : putD F (.ref j) i v h = (if F.may j = true then (match h[j]? with
    | some (.lst xs) => (match i with
      | .int k => (match L2.ixN xs.length k with
        | some n => some (h.set j (.lst (xs.set n v)))
        | none => none)
      | _ => none)
    | some (.dct kvs) => if (isKey i && decide (kvs.length < lim)) = true then some (h.set j (.dct (dput kvs i v))) else none
    | none => none) else none) := rfl
theorem wo_if {α : Type} {P : Prop} [Decidable P] {x y : Option α} {K : α → Prop} : WO (if P then x else y) K = if P then WO x K else WO y K := by with_unfolding_all (split <;> rfl)
theorem in_tup {x : D} {ys : List D} : opIn x (.tup ys) h = (if (D.plainN 8 x && D.plainNs 8 ys) = true then .ok (.bl (ys.any fun z => D.beq z x)) h else .bad) := rfl
theorem ne_ref {j i : Nat} : opNe (.ref j) (.ref i) h = (match h[j]?, h[i]? with | some (.lst xs), some (.lst ys) => if (D.plainNs 8 xs && D.plainNs 8 ys) = true then .ok (.bl (!decide (xs = ys))) h else .bad | _, _ => .bad) := by
  unfold opNe eqD; rw [if_neg (by simp [D.plainN])]; simp only [listOf]
  cases h[j]? with
  | none => cases h[i]? with
    | none => rfl
    | some o => cases o <;> simp [D.plainN]
  | some o => cases o with
    | dct => cases h[i]? with
      | none => rfl
      | some o => cases o <;> simp [D.plainN]
    | lst xs => cases h[i]? with
      | none => simp [D.plainN]
      | some o => cases o with
        | dct => simp [D.plainN]
        | lst ys => dsimp only; rw [beqs_eq]; by_cases e : (D.plainNs 8 xs && D.plainNs 8 ys) = true <;> simp only [e, if_true] <;> rfl
theorem dget_enc {α : Type} [DecidableEq α] {f : α → D} (hf : ∀ a b, f a = f b → a = b) {v : D} {y : α} {xs : List α} : (dget (xs.map fun x => (f x, v)) (f y)).isSome = decide (y ∈ xs) := by
  unfold dget
  induction xs with
  | nil => rfl
  | cons x xs ih =>
    rw [List.map_cons, List.find?_cons]
    by_cases e : x = y
    · subst e; simp [D.beq_self]
    · have : D.beq (f x) (f y) = false := by rw [beq_eq]; simpa using fun z => e (hf _ _ z)
      simp only [this]; rw [ih]; simp [Ne.symm e]
theorem dput_enc {α : Type} [DecidableEq α] {f : α → D} (hf : ∀ a b, f a = f b → a = b) {v : D} {y : α} {xs : List α} (hy : y ∉ xs) : dput (xs.map fun x => (f x, v)) (f y) v = (xs ++ [y]).map fun x => (f x, v) := by
  unfold dput
  rw [if_neg]
  · simp
  · rw [List.any_eq_true]; rintro ⟨p, hp, e⟩
    obtain ⟨x, hx, rfl⟩ := List.mem_map.mp hp
    rw [← hf _ _ (D.eq_of_beq _ _ e)] at hy; exact hy hx
theorem any_enc {α : Type} [DecidableEq α] {f : α → D} (hf : ∀ a b, f a = f b → a = b) {xs : List α} {y : α} : ((xs.map f).any fun z => D.beq z (f y)) = decide (y ∈ xs) := by
  rw [Bool.eq_iff_iff, List.any_eq_true, decide_eq_true_iff]
  constructor
  · rintro ⟨x, hx, e1⟩
    obtain ⟨z, hz, rfl⟩ := List.mem_map.mp hx
    rw [← hf _ _ (D.eq_of_beq _ _ e1)]; exact hz
  · intro he; exact ⟨f y, List.mem_map.mpr ⟨y, he, rfl⟩, D.beq_self _⟩
theorem plain_map {α : Type} {f : α → D} {n : Nat} (hf : ∀ a, D.plainN n (f a) = true) : ∀ xs : List α, D.plainNs n (xs.map f) = true
  | [] => plain_nil n
  | x :: xs => by rw [List.map_cons, plain_cons, hf, plain_map hf xs]; rfl
theorem map_nil_iff {α β : Type} {f : α → β} {xs : List α} : (xs.map f = []) = (xs = []) := by cases xs <;> simp
theorem notin_eq {x y : D} {K : D → Hh → Prop} : WR (opNotIn x y h) K = WR (opIn x y h) fun d h1 => asB d fun b => K (.bl (!b)) h1 := by
  with_unfolding_all
    unfold opNotIn; rw [wr_bind]; congr; funext d h1; cases d <;> rfl
theorem dedup_nodup : ∀ {xs : List D}, xs.Nodup → dedup xs = xs
  | [], _ => rfl
  | x :: xs, n => by
    rw [List.nodup_cons] at n
    unfold dedup
    rw [if_neg, dedup_nodup n.2]
    rw [List.any_eq_true]; rintro ⟨y, hy, e⟩
    rw [D.eq_of_beq _ _ e] at hy; exact n.1 hy
theorem nodup_map {α β : Type} {f : α → β} (hf : ∀ a b, f a = f b → a = b) : ∀ {xs : List α}, xs.Nodup → (xs.map f).Nodup
  | [], _ => by simp
  | x :: xs, n => by
    rw [List.nodup_cons] at n
    rw [List.map_cons, List.nodup_cons]
    refine ⟨fun hx => ?_, nodup_map hf n.2⟩
    obtain ⟨y, hy, e⟩ := List.mem_map.mp hx
    rw [hf _ _ e] at hy; exact n.1 hy
theorem set_all_key {xs : List D} (hk : xs.all isKey = true) (hl : xs.length < 64) : setOk xs = true := by unfold setOk; rw [hk]; simp [hl]
theorem set_all_str {xs : List D} (hk : xs.all isS = true) (hl : xs.length < 4096) : setOk xs = true := by unfold setOk; rw [hk]; simp [hl]
theorem seq_tup {xs : List D} : seqOf (.tup xs) h = some xs := rfl
theorem items_tup {xs : List D} : setItems (.tup xs) h = some xs := rfl
theorem items_str {xs : List Nat} : setItems (.str xs) h = some (xs.map fun c => .str [c]) := rfl
theorem ix_0 {α : Type} {x : α} {xs : List α} : atI (x :: xs) 0 = some x := by simp [atI, ixN]
theorem ix_lst {xs : List D} {j : Nat} {i : Int} (hj : h[j]? = some (.lst xs)) : opIx (.ref j) (.int i) h = (match atI xs i with | some d => .ok d h | none => .bad) := by
  unfold opIx; simp only [hj]; rfl
theorem ix_fro {xs : List D} {i : Int} : opIx (.fro xs) (.int i) h = (match atI xs i with | some d => .ok d h | none => .bad) := rfl
theorem put_lst {F : Fl} {xs : List D} {j n : Nat} {v : D} (hj : h[j]? = some (.lst xs)) (hm : F.may j = true) (hn : n < xs.length) : putD F (.ref j) (.int n) v h = some (h.set j (.lst (xs.set n v))) := by
  unfold putD; simp only [hj, hm, if_true]
  have : ixN xs.length (n : Int) = some n := by unfold ixN; rw [if_pos (by omega), if_pos (by omega)]; simp
  rw [this]
theorem mod_int {i j : Int} (hj : 0 < j) : opMod (.int i) (.int j) h = .ok (.int (i % j)) h := by
  show (match (if 0 < j then some (D.int (i % j)) else none) with | some d => Rs.ok d h | none => .bad) = _
  rw [if_pos hj]
theorem div_int {i j : Int} (hj : 0 < j) (hk : j < 1073741824) : opDiv (.int i) (.int j) h = .ok (.int (i / j)) h := by
  show (match (if 0 < j ∧ j < 1073741824 then some (D.int (i / j)) else none) with | some d => Rs.ok d h | none => .bad) = _
  rw [if_pos ⟨hj, hk⟩]
theorem pow_int {i j : Int} (c : 0 ≤ j ∧ j ≤ 1000000 ∧ i.natAbs < 18446744073709551616) : opPow (.int i) (.int j) h = .ok (.int (i ^ j.toNat)) h := by
  show (match (if 0 ≤ j ∧ j ≤ 1000000 ∧ i.natAbs < 18446744073709551616 then some (D.int (i ^ j.toNat)) else none) with | some d => Rs.ok d h | none => .bad) = _
  rw [if_pos c]
theorem mul_int {i j : Int} (c : mulOk i j = true) : opMul (.int i) (.int j) h = .ok (.int (i * j)) h := by
  show (if mulOk i j = true then Rs.ok (D.int (i * j)) h else .bad) = _
  rw [if_pos c]
theorem finT_ok {h' : Hh} {t : Nat} {d : D} {u : Ob} {K : D → Hh → Prop} (e : h'[t]? = some u) (hl : t < h.length) (hd : okT h d = true) (hu : obRefless u = true) (k : K d (h.set t u)) : WR (finT h t (.rt d h')) K := by
  with_unfolding_all
    show WR (if okT h d = true then (match h'[t]? with
      | some u => if obRefless u = true ∧ t < h.length then Rs.ok d (h.set t u) else Rs.bad
      | none => Rs.bad) else Rs.bad) K
    rw [if_pos hd, e]; dsimp only; rw [if_pos ⟨hu, hl⟩]; exact k
theorem atI_nat {α : Type} {xs : List α} {n : Nat} : atI xs (n : Int) = xs[n]? := by
  unfold atI ixN
  rw [if_pos (by omega)]
  by_cases e : n < xs.length
  · rw [if_pos (by omega)]; simp
  · rw [if_neg (by omega)]; simp; omega
theorem ix_1 {α : Type} {x y : α} {xs : List α} : atI (x :: y :: xs) 1 = some y := atI_nat (n := 1)
theorem ix_2 {α : Type} {x y z : α} {xs : List α} : atI (x :: y :: z :: xs) 2 = some z := atI_nat (n := 2)
theorem ix_3 {α : Type} {x y z u : α} {xs : List α} : atI (x :: y :: z :: u :: xs) 3 = some u := atI_nat (n := 3)
end
end Dc
/-- step by step -/
local macro_rules | `(tactic| simp! [$ts,*]) => `(tactic| simp (config := {failIfUnchanged := false}) only [Dc.wr_ok, Dc.wr_bind, Dc.wr_if, Dc.asB_bl, Dc.asI_int, Dc.wo_some, Dc.sk_nx, Dc.sk_rt, Dc.sk_ct, Dc.sk_bk, Dc.go_nx, Dc.go_ct, Dc.go_rt, Dc.we_var_s, Dc.we_var_0, Dc.we_c, Dc.we_nil, Dc.we_yes, Dc.we_cons, Dc.we_bin, Dc.we_tup, Dc.we_lst, Dc.we_blt, Dc.we_call, Dc.we_callT, Dc.town_s, Dc.we_test, Dc.we_and, Dc.we_or, Dc.we_not, Dc.we_andV, Dc.we_orV, Dc.we_notV, Dc.we_ifx, Dc.we_chain, Dc.we_isi, Dc.we_meth, Dc.we_sl, Dc.we_nopart, Dc.we_part, Dc.we_iter, Dc.we_range, Dc.we_enum, Dc.we_dict1, Dc.we_dict0, Dc.we_lenset, Dc.we_sortedset, Dc.we_sortkey, Dc.we_lc, Dc.we_lc2, Dc.we_dc, Dc.wp_next, Dc.wp_break, Dc.wp_cont, Dc.wp_retN, Dc.finP_rt, Dc.finP_nx, Dc.may_P, Dc.may_T, Dc.lock_none, Dc.lock_some, Dc.put_one, Dc.put_many, Dc.putAll_nil, Dc.putAll_cons, Dc.set_s, Dc.set_0, Dc.wipe_nil, Dc.wipe_cons, Dc.le_int, Dc.ge_int, Dc.gt_int, Dc.lt_int, Dc.add_int, Dc.sub_int, Dc.eq_str, Dc.ne_str, Dc.eq_int, Dc.ne_int, Dc.len_tup, Dc.len_fro, Dc.ix_tup, Dc.ix_0, Dc.ix_1, Dc.ix_2, Dc.ix_3, Int.cast_ofNat_Int, Int.reduceEq, Int.reduceLE, Int.reduceLT, Int.reduceAdd, Int.reduceSub, Int.reduceNeg, decide_true, decide_false,  Dc.get_len, Dc.get_len0, Dc.get_cons2, Dc.get_cons3, Dc.set_cons2, Dc.set_cons3, Dc.get_map0, Dc.get_mapk, Dc.set_len, Dc.set_len0, List.append_assoc, List.length_append, List.cons_append, List.nil_append, List.length_cons, List.length_nil, if_true, if_false, Bool.false_eq_true, true_and, and_true, false_and, and_false, Bool.not_false, Bool.not_true, Bool.true_and, Bool.false_and, Bool.and_true, Bool.and_false, Nat.reduceAdd, Nat.reduceSub, List.reduceReplicate, List.map_cons, List.map_nil, Dc.startE, Dc.isiD, Dc.it_tup, Dc.it_fro, Dc.it_str, Dc.it_ref, Dc.kit_ii, Dc.kit_ib, Dc.kit_ss, Dc.kit_tt, Dc.pack_bl, Dc.pack_int, Dc.pack_str, Dc.pack_non, Dc.items_tup, Dc.items_str, Nat.add_assoc, Dc.join_ref, Dc.len_ref, Dc.tup_ref, Dc.all_ref, Dc.any_ref, Dc.all_of, Dc.any_of, Dc.app_ref, Dc.ext_ref, Dc.ext_tup, Dc.pop_ref, Dc.ix_ref, Dc.ixL_int, Dc.ty_list, Dc.ty_dict, Dc.ty_str, Dc.in_ref, Dc.notin_eq, Dc.in_tup, Dc.add_ref, Dc.isnot_n, Dc.is_n, Dc.nx_nx, Dc.fw_nil, Dc.fw_cons, Dc.wo_if, Dc.ix_str, Dc.sl_str, Dc.sl_tup, Dc.starts_s, Dc.cut_1, Dc.cut_map, Dc.sorted_ref, Dc.list_ref, Dc.ne_ref, Dc.map_nil_iff, Dc.plain_nil, Nat.add_sub_cancel, List.dropLast_concat, List.length_map, List.map_append, List.getElem?_cons_zero, List.getElem?_cons_succ, Bool.or_true, Bool.true_or, Bool.or_false, Bool.false_or, Nat.zero_le, Nat.le_refl, Dc.le_len_add, $ts,*])
local macro_rules | `(tactic| simp_all! [$ts,*]) => `(tactic| (simp! [$ts,*]; repeat ((first | with_reducible refine Dc.wp_sq ?_ | with_reducible refine Dc.wp_if ?_ | with_reducible refine Dc.wp_ret ?_ | with_reducible refine Dc.wp_asg ?_ | with_reducible refine Dc.wp_expr ?_ | with_reducible refine Dc.wp_par ?_ | with_reducible refine Dc.wp_par3 ?_ | with_reducible refine Dc.wp_put ?_ | with_reducible refine Dc.wp_aug ?_); simp! [$ts,*])))
end
section
set_option linter.all false
set_option maxHeartbeats 400000
/-! Breadth first, plainly: rows of letters in order, states, what is first. -/
namespace Bf
variable {α S : Type}
/-- a strict order of all letters -/
structure Ord (lt : α → α → Prop) : Prop where
  irr : ∀ a, ¬ lt a a
  tr : ∀ {a b c}, lt a b → lt b c → lt a c
  tri : ∀ a b, lt a b ∨ a = b ∨ lt b a
/-- the order of words of one length -/
def wlt (lt : α → α → Prop) : List α → List α → Prop
  | a :: as, b :: bs => lt a b ∨ (a = b ∧ wlt lt as bs)
  | _, _ => False
def wle (lt : α → α → Prop) (u v : List α) : Prop := u = v ∨ wlt lt u v
section
variable {lt : α → α → Prop}
theorem wlt_irr (O : Ord lt) : ∀ u : List α, ¬ wlt lt u u
  | [], h => h
  | a :: u, h => by rcases h with h | ⟨_, h⟩; exact O.irr a h; exact wlt_irr O u h
theorem wlt_tr (O : Ord lt) : ∀ {u v w : List α}, wlt lt u v → wlt lt v w → wlt lt u w
  | a :: u, b :: v, c :: w, h1, h2 => by
    rcases h1 with h1 | ⟨rfl, h1⟩
    · rcases h2 with h2 | ⟨rfl, h2⟩
      · exact .inl (O.tr h1 h2)
      · exact .inl h1
    · rcases h2 with h2 | ⟨rfl, h2⟩
      · exact .inl h2
      · exact .inr ⟨rfl, wlt_tr O h1 h2⟩
  | [], _, _, h1, _ => h1.elim
  | _ :: _, [], _, h1, _ => h1.elim
  | _ :: _, _ :: _, [], _, h2 => h2.elim
theorem wlt_tri (O : Ord lt) : ∀ {u v : List α}, u.length = v.length → wlt lt u v ∨ u = v ∨ wlt lt v u
  | [], [], _ => .inr (.inl rfl)
  | [], _ :: _, e => by simp at e
  | _ :: _, [], e => by simp at e
  | a :: u, b :: v, e => by
    rcases O.tri a b with h | rfl | h
    · exact .inl (.inl h)
    · rcases wlt_tri O (u := u) (v := v) (by simpa using e) with h | rfl | h
      · exact .inl (.inr ⟨rfl, h⟩)
      · exact .inr (.inl rfl)
      · exact .inr (.inr (.inr ⟨rfl, h⟩))
    · exact .inr (.inr (.inl h))
theorem wlt_app : ∀ {u v : List α} (x y : List α), wlt lt u v → wlt lt (u ++ x) (v ++ y)
  | a :: u, b :: v, x, y, h => by
    rcases h with h | ⟨rfl, h⟩
    · exact .inl h
    · exact .inr ⟨rfl, wlt_app x y h⟩
  | [], _, _, _, h => h.elim
  | _ :: _, [], _, _, h => h.elim
theorem wlt_pre : ∀ (u : List α) {x y : List α}, wlt lt x y → wlt lt (u ++ x) (u ++ y)
  | [], _, _, h => h
  | a :: u, _, _, h => .inr ⟨rfl, wlt_pre u h⟩
theorem wle_refl (u : List α) : wle lt u u := .inl rfl
theorem wle_tr (O : Ord lt) {u v w : List α} (h1 : wle lt u v) (h2 : wle lt v w) : wle lt u w := by
  rcases h1 with rfl | h1
  · exact h2
  · rcases h2 with rfl | h2
    · exact .inr h1
    · exact .inr (wlt_tr O h1 h2)
theorem wle_snoc {u v : List α} (a : α) (h : wle lt u v) : wle lt (u ++ [a]) (v ++ [a]) := by
  rcases h with rfl | h
  · exact .inl rfl
  · exact .inr (wlt_app _ _ h)
end
/-- what is reached by a word -/
inductive Rch (st : S → Prop) (A : List α) (δ : S → α → List S) : List α → S → Prop
  | nil {s : S} : st s → Rch st A δ [] s
  | snoc {u : List α} {s s' : S} {a : α} : Rch st A δ u s → a ∈ A → s' ∈ δ s a → Rch st A δ (u ++ [a]) s'
section
variable {lt : α → α → Prop} {st : S → Prop} {A : List α} {δ : S → α → List S}
theorem Rch.inv {w : List α} {s : S} (h : Rch st A δ w s) : (w = [] ∧ st s) ∨ ∃ u s0 a, w = u ++ [a] ∧ Rch st A δ u s0 ∧ a ∈ A ∧ s ∈ δ s0 a := by
  cases h with
  | nil h => exact .inl ⟨rfl, h⟩
  | snoc h1 h2 h3 => exact .inr ⟨_, _, _, rfl, h1, h2, h3⟩
/-- a level of the search -/
structure Lv (lt : α → α → Prop) (st : S → Prop) (A : List α) (δ : S → α → List S) (bad : S → Prop) (k : Nat) (seen : List S) (lev : List (S × List α)) : Prop where
  nd : seen.Nodup
  sound : ∀ s ∈ seen, ∃ u, Rch st A δ u s ∧ u.length ≤ k
  lvl : ∀ p ∈ lev, p.2.length = k ∧ Rch st A δ p.2 p.1
  sort : lev.Pairwise fun p q => wle lt p.2 q.2
  good : ∀ u s, Rch st A δ u s → u.length < k → ¬ bad s
  cov : ∀ u s, Rch st A δ u s → u.length = k → (∃ w, (s, w) ∈ lev ∧ wle lt w u) ∨ ∃ u', Rch st A δ u' s ∧ u'.length < k
variable {bad : S → Prop} {k : Nat} {seen : List S} {lev : List (S × List α)}
/-- the first bad one of a level -/
theorem Lv.found (O : Ord lt) (L : Lv lt st A δ bad k seen lev) {pre post : List (S × List α)} {s : S} {w : List α} (e : lev = pre ++ (s, w) :: post) (hb : bad s) (hp : ∀ p ∈ pre, ¬ bad p.1) :
    Rch st A δ w s ∧ ∀ u s', Rch st A δ u s' → bad s' → w.length < u.length ∨ (w.length = u.length ∧ wle lt w u) := by
  have hw := L.lvl (s, w) (by rw [e]; simp)
  refine ⟨hw.2, fun u s' hu hb' => ?_⟩
  have hk : w.length = k := hw.1
  rcases Nat.lt_trichotomy u.length k with h | h | h
  · exact absurd hb' (L.good u s' hu h)
  · right
    refine ⟨by omega, ?_⟩
    rcases L.cov u s' hu h with ⟨w2, hw2, hle⟩ | ⟨u', h1, h2⟩
    · have : wle lt w w2 := by
        have srt := L.sort
        rw [e, List.pairwise_append] at srt
        rw [e] at hw2
        rcases List.mem_append.mp hw2 with z | z
        · exact absurd hb' (hp _ z)
        · rcases List.mem_cons.mp z with z | z
          · cases z; exact .inl rfl
          · exact (List.pairwise_cons.mp srt.2.1).1 _ z
      exact wle_tr O this hle
    · exact absurd hb' (L.good _ _ h1 h2)
  · exact .inl (by omega)
/-- nothing is left -/
theorem Lv.none (L : Lv lt st A δ bad k seen []) {u : List α} {s : S} (h : Rch st A δ u s) : ¬ bad s := by
  have : ∀ {u : List α} {s : S}, Rch st A δ u s → ∃ u', Rch st A δ u' s ∧ u'.length < k := by
    intro u s h
    induction h with
    | @nil s hs =>
      rcases Nat.eq_zero_or_pos k with z | z
      · rcases L.cov [] s (.nil hs) (by simp [z]) with ⟨w, hw, _⟩ | h
        · cases hw
        · exact h
      · exact ⟨[], .nil hs, by simpa using z⟩
    | @snoc u s s' a h1 h2 h3 ih =>
      obtain ⟨v, hv, hl⟩ := ih
      have hr : Rch st A δ (v ++ [a]) s' := .snoc hv h2 h3
      rcases Nat.lt_or_ge (v ++ [a]).length k with z | z
      · exact ⟨_, hr, z⟩
      · rcases L.cov _ _ hr (by simp at z ⊢; omega) with ⟨w, hw, _⟩ | h
        · cases hw
        · exact h
  obtain ⟨u', h1, h2⟩ := this h
  exact L.good _ _ h1 h2
variable [DecidableEq S]
/-- one successor put in -/
def put1 (w : List α) (x : List S × List (S × List α)) (s' : S) : List S × List (S × List α) := if s' ∈ x.1 then x else (x.1 ++ [s'], x.2 ++ [(s', w)])
/-- one candidate: a word with its last letter, the state before it -/
def cand (δ : S → α → List S) (x : List S × List (S × List α)) (c : List α × S × α) : List S × List (S × List α) := (δ c.2.1 c.2.2).foldl (put1 c.1) x
/-- within a round -/
structure Rd (lt : α → α → Prop) (st : S → Prop) (A : List α) (δ : S → α → List S) (k : Nat) (seen : List S) (top : List α) (done : List (List α × S)) (x : List S × List (S × List α)) : Prop where
  nd : x.1.Nodup
  sub : ∀ s ∈ seen, s ∈ x.1
  sound : ∀ s ∈ x.1, s ∈ seen ∨ ∃ w, (s, w) ∈ x.2
  acc : ∀ p ∈ x.2, p.1 ∈ x.1 ∧ p.2.length = k + 1 ∧ Rch st A δ p.2 p.1 ∧ wle lt p.2 top
  sort : x.2.Pairwise fun p q => wle lt p.2 q.2
  done : ∀ c ∈ done, c.2 ∈ x.1 ∧ (c.2 ∈ seen ∨ ∃ w, (c.2, w) ∈ x.2 ∧ wle lt w c.1)
theorem put1_rd (O : Ord lt) {top w : List α} {done : List (List α × S)} {x : List S × List (S × List α)} {s' : S} (R : Rd lt st A δ k seen top done x) (ht : wle lt top w) (hw : w.length = k + 1) (hr : Rch st A δ w s') :
    Rd lt st A δ k seen w (done ++ [(w, s')]) (put1 w x s') := by
  unfold put1
  have acc' : ∀ p ∈ x.2, p.1 ∈ x.1 ∧ p.2.length = k + 1 ∧ Rch st A δ p.2 p.1 ∧ wle lt p.2 w := fun p hp => let ⟨a, b, c, d⟩ := R.acc p hp; ⟨a, b, c, wle_tr O d ht⟩
  split
  · rename_i hs
    refine ⟨R.nd, R.sub, R.sound, acc', R.sort, fun c hc => ?_⟩
    rcases List.mem_append.mp hc with hc | hc
    · exact R.done c hc
    · simp at hc; subst hc
      refine ⟨hs, ?_⟩
      rcases R.sound s' hs with z | ⟨w2, z⟩
      · exact .inl z
      · exact .inr ⟨w2, z, (acc' _ z).2.2.2⟩
  · rename_i hs
    refine ⟨?_, fun s h => by simp [R.sub s h], fun s h => ?_, fun p hp => ?_, ?_, fun c hc => ?_⟩
    · rw [List.nodup_append]; exact ⟨R.nd, by simp, by intro a ha b hb; simp at hb; subst hb; intro z; subst z; exact hs ha⟩
    · rcases List.mem_append.mp h with h | h
      · rcases R.sound s h with z | ⟨w2, z⟩
        · exact .inl z
        · exact .inr ⟨w2, by simp [z]⟩
      · simp at h; subst h; exact .inr ⟨w, by simp⟩
    · rcases List.mem_append.mp hp with hp | hp
      · obtain ⟨a, b, c, d⟩ := acc' p hp; exact ⟨by simp [a], b, c, d⟩
      · simp at hp; subst hp; exact ⟨by simp, hw, hr, .inl rfl⟩
    · rw [List.pairwise_append]; exact ⟨R.sort, by simp, by intro a ha b hb; simp at hb; subst hb; exact (acc' a ha).2.2.2⟩
    · rcases List.mem_append.mp hc with hc | hc
      · obtain ⟨a, b⟩ := R.done c hc
        refine ⟨by simp [a], ?_⟩
        rcases b with z | ⟨w2, z, z2⟩
        · exact .inl z
        · exact .inr ⟨w2, by simp [z], z2⟩
      · simp at hc; subst hc; exact ⟨by simp, .inr ⟨w, by simp, .inl rfl⟩⟩
theorem puts_rd (O : Ord lt) {w : List α} : ∀ (ss : List S) {top : List α} {done : List (List α × S)} {x : List S × List (S × List α)}, Rd lt st A δ k seen top done x → wle lt top w → w.length = k + 1 → (∀ s' ∈ ss, Rch st A δ w s') →
    Rd lt st A δ k seen w (done ++ ss.map fun s => (w, s)) (ss.foldl (put1 w) x)
  | [], top, done, x, R, ht, hw, hr => ⟨R.nd, R.sub, R.sound, fun p hp => let ⟨a, b, c, d⟩ := R.acc p hp; ⟨a, b, c, wle_tr O d ht⟩, R.sort, by simpa using R.done⟩
  | s :: ss, top, done, x, R, ht, hw, hr => by
    have := puts_rd O ss (put1_rd O R ht hw (hr s (by simp))) (.inl rfl) hw fun s' hs => hr s' (by simp [hs])
    simpa using this
/-- a whole round: all candidates in order -/
theorem round_rd (O : Ord lt) : ∀ (cs : List (List α × S × α)) {top : List α} {done : List (List α × S)} {x : List S × List (S × List α)}, Rd lt st A δ k seen top done x → (∀ c ∈ cs, wle lt top c.1 ∧ c.1.length = k + 1 ∧ ∃ u, c.1 = u ++ [c.2.2] ∧ c.2.2 ∈ A ∧ Rch st A δ u c.2.1) → (cs.Pairwise fun a b => wle lt a.1 b.1) →
    ∃ top', Rd lt st A δ k seen top' (done ++ cs.flatMap fun c => (δ c.2.1 c.2.2).map fun s => (c.1, s)) (cs.foldl (cand δ) x)
  | [], top, done, x, R, _, _ => ⟨top, by simpa using R⟩
  | c :: cs, top, done, x, R, hc, hp => by
    obtain ⟨h1, h2, u, h3, h4, h5⟩ := hc c (by simp)
    have R' := puts_rd O (δ c.2.1 c.2.2) R h1 h2 fun s' hs => by rw [h3]; exact .snoc h5 h4 hs
    obtain ⟨top', R''⟩ := round_rd O cs R' (fun d hd => ⟨(List.pairwise_cons.mp hp).1 d hd, (hc d (by simp [hd])).2⟩) (List.pairwise_cons.mp hp).2
    exact ⟨top', by simpa [cand] using R''⟩
theorem Lv.next (O : Ord lt) (L : Lv lt st A δ bad k seen lev) (hg : ∀ p ∈ lev, ¬ bad p.1) {cs : List (List α × S × α)} (hs : cs.Pairwise fun a b => wle lt a.1 b.1) (hc : ∀ c, c ∈ cs ↔ ∃ p ∈ lev, ∃ a ∈ A, c = (p.2 ++ [a], p.1, a)) :
    Lv lt st A δ bad (k + 1) (cs.foldl (cand δ) (seen, [])).1 (cs.foldl (cand δ) (seen, [])).2 := by
  have hcs : ∀ c ∈ cs, c.1.length = k + 1 ∧ ∃ u, c.1 = u ++ [c.2.2] ∧ c.2.2 ∈ A ∧ Rch st A δ u c.2.1 := fun c h => by
    obtain ⟨p, hp, a, ha, rfl⟩ := (hc c).mp h
    exact ⟨by simp [(L.lvl p hp).1], p.2, rfl, ha, (L.lvl p hp).2⟩
  obtain ⟨top, R⟩ : ∃ top, Rd lt st A δ k seen top ([] ++ cs.flatMap fun c => (δ c.2.1 c.2.2).map fun s => (c.1, s)) (cs.foldl (cand δ) (seen, [])) := by
    cases cs with
    | nil => exact ⟨[], L.nd, fun s h => h, fun s h => .inl h, by simp, by simp, by simp⟩
    | cons c cs =>
      have R0 : Rd lt st A δ k seen c.1 [] (seen, []) := ⟨L.nd, fun s h => h, fun s h => .inl h, by simp, by simp, by simp⟩
      refine round_rd O (c :: cs) R0 (fun d hd => ⟨?_, hcs d hd⟩) hs
      rcases List.mem_cons.mp hd with rfl | hd
      · exact .inl rfl
      · exact (List.pairwise_cons.mp hs).1 d hd
  rw [List.nil_append] at R
  refine ⟨R.nd, fun s h => ?_, fun p hp => ⟨(R.acc p hp).2.1, (R.acc p hp).2.2.1⟩, R.sort, fun u s hu hk => ?_, fun u s hu hk => ?_⟩
  · rcases R.sound s h with z | ⟨w, z⟩
    · obtain ⟨u, h1, h2⟩ := L.sound s z; exact ⟨u, h1, by omega⟩
    · have := R.acc _ z; exact ⟨w, this.2.2.1, by have := this.2.1; dsimp only at this; omega⟩
  · rcases Nat.lt_or_ge u.length k with z | z
    · exact L.good u s hu z
    · rcases L.cov u s hu (by omega) with ⟨w, hw, _⟩ | ⟨u', h1, h2⟩
      · exact hg _ hw
      · exact L.good _ _ h1 h2
  · rcases hu.inv with ⟨rfl, _⟩ | ⟨v, s0, a, rfl, h1, h2, h3⟩
    · simp at hk
    · rcases L.cov v s0 h1 (by simpa using hk) with ⟨w, hw, hle⟩ | ⟨u', h4, h5⟩
      · have hcm : (w ++ [a], s0, a) ∈ cs := (hc _).mpr ⟨_, hw, a, h2, rfl⟩
        have := R.done (w ++ [a], s) (List.mem_flatMap.mpr ⟨_, hcm, List.mem_map.mpr ⟨s, h3, rfl⟩⟩)
        rcases this.2 with z | ⟨w2, z, z2⟩
        · obtain ⟨u, q1, q2⟩ := L.sound s z; exact .inr ⟨u, q1, by omega⟩
        · exact .inl ⟨w2, z, wle_tr O z2 (wle_snoc a hle)⟩
      · exact .inr ⟨u' ++ [a], .snoc h4 h2 h3, by simp; omega⟩
end
/-! ### one after the other: what is reached -/
inductive Rc {κ : Type} (succ : κ → List κ) (st : κ) : κ → Prop
  | st : Rc succ st st
  | step {p q : κ} : Rc succ st p → q ∈ succ p → Rc succ st q
structure DF {κ : Type} (succ : κ → List κ) (st : κ) (fd lf : List κ) : Prop where
  nd : fd.Nodup
  sf : ∀ k ∈ fd, Rc succ st k
  sl : ∀ k ∈ lf, Rc succ st k
  s0 : st ∈ fd ∨ st ∈ lf
  cl : ∀ k ∈ fd, ∀ q ∈ succ k, q ∈ fd ∨ q ∈ lf
section
variable {κ : Type} {succ : κ → List κ} {st : κ} {fd lf : List κ} {p : κ}
theorem DF.start : DF succ st [] [st] := ⟨by simp, by simp, by intro k hk; simp at hk; rw [hk]; exact .st, by simp, by simp⟩
theorem DF.old (h : DF succ st fd (lf ++ [p])) (hp : p ∈ fd) : DF succ st fd lf := by
  have mv : ∀ q, (q ∈ fd ∨ q ∈ lf ++ [p]) → (q ∈ fd ∨ q ∈ lf) := fun q hq => by
    rcases hq with z | z
    · exact .inl z
    · rcases List.mem_append.mp z with z | z
      · exact .inr z
      · simp at z; rw [z]; exact .inl hp
  exact ⟨h.nd, h.sf, fun k hk => h.sl k (by simp [hk]), mv _ h.s0, fun k hk q hq => mv _ (h.cl k hk q hq)⟩
theorem DF.new (h : DF succ st fd (lf ++ [p])) (hp : p ∉ fd) : DF succ st (fd ++ [p]) (lf ++ succ p) := by
  have mv : ∀ q, (q ∈ fd ∨ q ∈ lf ++ [p]) → (q ∈ fd ++ [p] ∨ q ∈ lf ++ succ p) := fun q hq => by
    rcases hq with z | z
    · exact .inl (by simp [z])
    · rcases List.mem_append.mp z with z | z
      · exact .inr (by simp [z])
      · exact .inl (by simp at z; simp [z])
  have hr := h.sl p (by simp)
  refine ⟨?_, fun k hk => ?_, fun k hk => ?_, mv _ h.s0, fun k hk q hq => ?_⟩
  · rw [List.nodup_append]; exact ⟨h.nd, by simp, by intro a ha b hb; simp at hb; subst hb; rintro rfl; exact hp ha⟩
  · rcases List.mem_append.mp hk with z | z
    · exact h.sf k z
    · simp at z; rw [z]; exact hr
  · rcases List.mem_append.mp hk with z | z
    · exact h.sl k (by simp [z])
    · exact .step hr z
  · rcases List.mem_append.mp hk with z | z
    · exact mv _ (h.cl k z q hq)
    · simp at z; subst z; exact .inr (by simp [hq])
theorem DF.done (h : DF succ st fd []) {k : κ} : k ∈ fd ↔ Rc succ st k := by
  refine ⟨h.sf k, fun r => ?_⟩
  induction r with
  | st => simpa using h.s0
  | step _ hq ih => simpa using h.cl _ ih _ hq
end
end Bf
end
section
set_option linter.all false
set_option maxHeartbeats 400000
/-! dicts told as rows of pairs -/
namespace Dc
section
variable {κ ν : Type} [DecidableEq κ]
def look (xs : List (κ × ν)) (k : κ) : Option ν := (xs.find? fun p => decide (p.1 = k)).map (·.2)
def aput (xs : List (κ × ν)) (k : κ) (v : ν) : List (κ × ν) := if xs.any (fun p => decide (p.1 = k)) then xs.map (fun p => if p.1 = k then (p.1, v) else p) else xs ++ [(k, v)]
theorem look_nil {k : κ} : look ([] : List (κ × ν)) k = none := rfl
theorem look_cons {x : κ} {v : ν} {xs : List (κ × ν)} {k : κ} : look ((x, v) :: xs) k = if x = k then some v else look xs k := by
  unfold look; rw [List.find?_cons]; by_cases e : x = k <;> simp [e]
theorem look_some_mem {xs : List (κ × ν)} {k : κ} {v : ν} (h : look xs k = some v) : (k, v) ∈ xs := by
  induction xs with
  | nil => simp [look] at h
  | cons p xs ih =>
    obtain ⟨x, u⟩ := p
    rw [look_cons] at h
    split at h
    · rename_i e; simp at h; subst e h; simp
    · simp [ih h]
theorem look_none {xs : List (κ × ν)} {k : κ} : look xs k = none ↔ k ∉ xs.map (·.1) := by
  induction xs with
  | nil => simp [look]
  | cons p xs ih =>
    obtain ⟨x, u⟩ := p
    rw [look_cons]
    by_cases e : x = k
    · simp [e]
    · rw [if_neg e, ih]; simp [Ne.symm e]
theorem look_isSome {xs : List (κ × ν)} {k : κ} : (look xs k).isSome = decide (k ∈ xs.map (·.1)) := by
  cases h : look xs k with
  | none => rw [look_none] at h; simp only [Option.isSome_none]; exact (decide_eq_false h).symm
  | some v => have := look_some_mem h; simp only [Option.isSome_some]; exact (decide_eq_true (List.mem_map.mpr ⟨_, this, rfl⟩)).symm
theorem mem_look {xs : List (κ × ν)} (nd : (xs.map (·.1)).Nodup) {k : κ} {v : ν} (h : (k, v) ∈ xs) : look xs k = some v := by
  induction xs with
  | nil => cases h
  | cons p xs ih =>
    obtain ⟨x, u⟩ := p
    rw [List.map_cons, List.nodup_cons] at nd
    rw [look_cons]
    rcases List.mem_cons.mp h with z | z
    · cases z; simp
    · rw [if_neg, ih nd.2 z]
      rintro rfl; exact nd.1 (List.mem_map.mpr ⟨_, z, rfl⟩)
theorem look_app {xs ys : List (κ × ν)} {k : κ} : look (xs ++ ys) k = (look xs k).or (look ys k) := by
  induction xs with
  | nil => simp [look]
  | cons p xs ih => obtain ⟨x, u⟩ := p; rw [List.cons_append, look_cons, look_cons]; split <;> simp [ih]
theorem any_key {xs : List (κ × ν)} {k : κ} : (xs.any fun p => decide (p.1 = k)) = decide (k ∈ xs.map (·.1)) := by
  rw [Bool.eq_iff_iff, List.any_eq_true, decide_eq_true_iff, List.mem_map]
  simp
theorem aput_keys {xs : List (κ × ν)} {k : κ} {v : ν} : (aput xs k v).map (·.1) = if k ∈ xs.map (·.1) then xs.map (·.1) else xs.map (·.1) ++ [k] := by
  unfold aput; rw [any_key]
  by_cases h : k ∈ xs.map (·.1)
  · simp only [h, decide_true, if_true, List.map_map]
    apply List.map_congr_left; intro p _; simp only [Function.comp]; split <;> rfl
  · simp [h]
theorem look_aput {xs : List (κ × ν)} {k k' : κ} {v : ν} : look (aput xs k v) k' = if k = k' then some v else look xs k' := by
  unfold aput; rw [any_key]
  by_cases h : k ∈ xs.map (·.1)
  · simp only [h, decide_true, if_true]
    induction xs with
    | nil => simp at h
    | cons p xs ih =>
      obtain ⟨x, u⟩ := p
      rw [List.map_cons]
      by_cases e : x = k
      · subst e
        rw [if_pos rfl, look_cons, look_cons]
        by_cases e2 : x = k'
        · simp [e2]
        · rw [if_neg e2, if_neg e2, if_neg e2]
          by_cases h2 : x ∈ xs.map (·.1)
          · rw [ih h2, if_neg e2]
          · have : xs.map (fun p => if p.1 = x then (p.1, v) else p) = xs := by
              conv => rhs; rw [← List.map_id xs]
              apply List.map_congr_left; intro p hp
              rw [if_neg]; rfl
              rintro rfl; exact h2 (List.mem_map.mpr ⟨p, hp, rfl⟩)
            rw [this]
      · rw [if_neg e, look_cons, look_cons]
        have h2 : k ∈ xs.map (·.1) := by simp at h ⊢; rcases h with z | z; exact absurd z.symm e; exact z
        by_cases e2 : x = k'
        · rw [if_pos e2, if_neg (by rintro rfl; exact e e2), if_pos e2]
        · rw [if_neg e2, if_neg e2, ih h2]
  · simp only [h, decide_false, Bool.false_eq_true, if_false]
    rw [look_app, look_cons, look_nil]
    have : look xs k = none := look_none.mpr h
    by_cases e : k = k'
    · subst e; rw [this]; simp
    · simp [e]
theorem aput_nodup {xs : List (κ × ν)} {k : κ} {v : ν} (nd : (xs.map (·.1)).Nodup) : ((aput xs k v).map (·.1)).Nodup := by
  rw [aput_keys]; split
  · exact nd
  · rename_i h; rw [List.nodup_append]; exact ⟨nd, by simp, by intro a ha b hb; simp at hb; subst hb; rintro rfl; exact h ha⟩
theorem aput_len {xs : List (κ × ν)} {k : κ} {v : ν} : (aput xs k v).length = if k ∈ xs.map (·.1) then xs.length else xs.length + 1 := by
  have := congrArg List.length (aput_keys (xs := xs) (k := k) (v := v))
  rw [List.length_map] at this; rw [this]; split <;> simp
variable {fk : κ → D} {fv : ν → D}
theorem dget_al (hf : ∀ a b, fk a = fk b → a = b) {xs : List (κ × ν)} {k : κ} : dget (xs.map fun p => (fk p.1, fv p.2)) (fk k) = (look xs k).map fv := by
  unfold dget
  induction xs with
  | nil => rfl
  | cons p xs ih =>
    obtain ⟨x, u⟩ := p
    rw [List.map_cons, List.find?_cons, look_cons]
    by_cases e : x = k
    · subst e; simp [D.beq_self]
    · have : D.beq (fk x) (fk k) = false := by rw [beq_eq]; simpa using fun z => e (hf _ _ z)
      simp only [this]; rw [ih, if_neg e]
theorem dput_al (hf : ∀ a b, fk a = fk b → a = b) {xs : List (κ × ν)} {k : κ} {v : ν} : dput (xs.map fun p => (fk p.1, fv p.2)) (fk k) (fv v) = (aput xs k v).map fun p => (fk p.1, fv p.2) := by
  have hb : ∀ x, D.beq (fk x) (fk k) = decide (x = k) := fun x => by
    rw [beq_eq]; by_cases e : x = k
    · simp [e]
    · simp only [e, decide_false]; exact decide_eq_false fun z => e (hf _ _ z)
  unfold dput aput
  rw [List.any_map]
  simp only [Function.comp_def, hb]
  split
  · rw [List.map_map, List.map_map]; apply List.map_congr_left; intro p _; simp only [Function.comp, hb]
    by_cases e : p.1 = k <;> simp [e]
  · simp
end
end Dc
end
section
local macro_rules | `(tactic| simp! [$ts,*]) => `(tactic| simp (config := {failIfUnchanged := false}) only [Dc.wr_ok, Dc.wr_bind, Dc.wr_if, Dc.asB_bl, Dc.asI_int, Dc.wo_some, Dc.sk_nx, Dc.sk_rt, Dc.sk_ct, Dc.sk_bk, Dc.go_nx, Dc.go_ct, Dc.go_rt, Dc.we_var_s, Dc.we_var_0, Dc.we_c, Dc.we_nil, Dc.we_yes, Dc.we_cons, Dc.we_bin, Dc.we_tup, Dc.we_lst, Dc.we_blt, Dc.we_call, Dc.we_callT, Dc.town_s, Dc.we_test, Dc.we_and, Dc.we_or, Dc.we_not, Dc.we_andV, Dc.we_orV, Dc.we_notV, Dc.we_ifx, Dc.we_chain, Dc.we_isi, Dc.we_meth, Dc.we_sl, Dc.we_nopart, Dc.we_part, Dc.we_iter, Dc.we_range, Dc.we_enum, Dc.we_dict1, Dc.we_dict0, Dc.we_lenset, Dc.we_sortedset, Dc.we_sortkey, Dc.we_lc, Dc.we_lc2, Dc.we_dc, Dc.wp_next, Dc.wp_break, Dc.wp_cont, Dc.wp_retN, Dc.finP_rt, Dc.finP_nx, Dc.may_P, Dc.may_T, Dc.lock_none, Dc.lock_some, Dc.put_one, Dc.put_many, Dc.putAll_nil, Dc.putAll_cons, Dc.set_s, Dc.set_0, Dc.wipe_nil, Dc.wipe_cons, Dc.le_int, Dc.ge_int, Dc.gt_int, Dc.lt_int, Dc.add_int, Dc.sub_int, Dc.eq_str, Dc.ne_str, Dc.eq_int, Dc.ne_int, Dc.len_tup, Dc.len_fro, Dc.ix_tup, Dc.ix_0, Dc.ix_1, Dc.ix_2, Dc.ix_3, Int.cast_ofNat_Int, Int.reduceEq, Int.reduceLE, Int.reduceLT, Int.reduceAdd, Int.reduceSub, Int.reduceNeg, decide_true, decide_false,  Dc.get_len, Dc.get_len0, Dc.get_cons2, Dc.get_cons3, Dc.set_cons2, Dc.set_cons3, Dc.get_map0, Dc.get_mapk, Dc.set_len, Dc.set_len0, List.append_assoc, List.length_append, List.cons_append, List.nil_append, List.length_cons, List.length_nil, if_true, if_false, Bool.false_eq_true, true_and, and_true, false_and, and_false, Bool.not_false, Bool.not_true, Bool.true_and, Bool.false_and, Bool.and_true, Bool.and_false, Nat.reduceAdd, Nat.reduceSub, List.reduceReplicate, List.map_cons, List.map_nil, Dc.startE, Dc.isiD, Dc.it_tup, Dc.it_fro, Dc.it_str, Dc.it_ref, Dc.kit_ii, Dc.kit_ib, Dc.kit_ss, Dc.kit_tt, Dc.pack_bl, Dc.pack_int, Dc.pack_str, Dc.pack_non, Dc.items_tup, Dc.items_str, Nat.add_assoc, Dc.join_ref, Dc.len_ref, Dc.tup_ref, Dc.all_ref, Dc.any_ref, Dc.all_of, Dc.any_of, Dc.app_ref, Dc.ext_ref, Dc.ext_tup, Dc.pop_ref, Dc.ix_ref, Dc.ixL_int, Dc.ty_list, Dc.ty_dict, Dc.ty_str, Dc.in_ref, Dc.notin_eq, Dc.in_tup, Dc.add_ref, Dc.isnot_n, Dc.is_n, Dc.nx_nx, Dc.fw_nil, Dc.fw_cons, Dc.wo_if, Dc.ix_str, Dc.sl_str, Dc.sl_tup, Dc.starts_s, Dc.cut_1, Dc.cut_map, Dc.sorted_ref, Dc.list_ref, Dc.ne_ref, Dc.map_nil_iff, Dc.plain_nil, Nat.add_sub_cancel, List.dropLast_concat, List.length_map, List.map_append, List.getElem?_cons_zero, List.getElem?_cons_succ, Bool.or_true, Bool.true_or, Bool.or_false, Bool.false_or, Nat.zero_le, Nat.le_refl, Dc.le_len_add, $ts,*])
local macro_rules | `(tactic| simp_all! [$ts,*]) => `(tactic| (simp! [$ts,*]; repeat ((first | with_reducible refine Dc.wp_sq ?_ | with_reducible refine Dc.wp_if ?_ | with_reducible refine Dc.wp_ret ?_ | with_reducible refine Dc.wp_asg ?_ | with_reducible refine Dc.wp_expr ?_ | with_reducible refine Dc.wp_par ?_ | with_reducible refine Dc.wp_par3 ?_ | with_reducible refine Dc.wp_put ?_ | with_reducible refine Dc.wp_aug ?_); simp! [$ts,*])))
set_option linter.all false
set_option maxRecDepth 100000
set_option maxHeartbeats 400000
/-! tables, their checks -/
namespace Dcl
open Dc
open L2 (atI ixN)
structure Ent where
  m : Nat
  t : List Nat
  cs : List (List Nat)
  n : Nat
deriving DecidableEq
structure Tab where
  k : Nat
  es : List Ent
deriving DecidableEq
def Ent.d (e : Ent) : D := .tup [.int e.m, .str e.t, .tup (e.cs.map D.str), .int e.n]
def Tab.d (T : Tab) : D := .tup [.int T.k, .tup (T.es.map Ent.d)]
def IsCell (c : List Nat) : Prop := dots.filter (fun x => decide (x ∈ c)) = c
instance (c : List Nat) : Decidable (IsCell c) := inferInstanceAs (Decidable (_ = _))
structure Ent.Ok (k : Nat) (e : Ent) : Prop where
  m : e.m < k
  n : e.n < k
  t3 : e.t.length ≤ 3
  tl : ∀ c ∈ e.t, 97 ≤ c ∧ c ≤ 101
  c0 : e.cs ≠ []
  c3 : e.cs.length ≤ 3
  cc : ∀ c ∈ e.cs, IsCell c
structure Tab.Ok (T : Tab) : Prop where
  k1 : 1 ≤ T.k
  k3 : T.k ≤ 3
  e0 : T.es ≠ []
  e10 : T.es.length ≤ 10
  nd : T.es.Nodup
  ok : ∀ e ∈ T.es, e.Ok T.k
theorem map_str_inj : ∀ {a b : List (List Nat)}, a.map D.str = b.map D.str → a = b
  | [], [], _ => rfl
  | [], _ :: _, e => by simp at e
  | _ :: _, [], e => by simp at e
  | x :: a, y :: b, e => by simp at e; rw [e.1, map_str_inj (a := a) (b := b) (by simpa using e.2)]
theorem Ent.d_inj {a b : Ent} (e : a.d = b.d) : a = b := by
  cases a; cases b; simp [Ent.d] at e
  obtain ⟨e1, e2, e3, e4⟩ := e
  have := map_str_inj (by simpa using e3); subst this; subst e2
  congr 1 <;> omega
theorem plain_strs (n : Nat) : ∀ cs : List (List Nat), D.plainNs n (cs.map D.str) = true
  | [] => by cases n <;> rfl
  | c :: cs => by show (D.plainN n (.str c) && D.plainNs n (cs.map D.str)) = true; rw [plain_strs n cs, plain_str]; rfl
theorem plain_ent (n : Nat) (e : Ent) : D.plainN (n + 2) e.d = true := by
  show D.plainNs (n + 1) [.int e.m, .str e.t, .tup (e.cs.map D.str), .int e.n] = true
  simp [D.plainNs, plain_str, plain_int, D.plainN, plain_strs]
theorem plain_ents (n : Nat) : ∀ es : List Ent, D.plainNs (n + 2) (es.map Ent.d) = true
  | [] => rfl
  | e :: es => by show (D.plainN (n + 2) e.d && D.plainNs (n + 2) (es.map Ent.d)) = true; rw [plain_ents n es, plain_ent]; rfl
theorem refless_strs : ∀ cs : List (List Nat), reflesss (cs.map D.str) = true
  | [] => rfl
  | c :: cs => by show (refless (.str c) && reflesss (cs.map D.str)) = true; rw [refless_strs cs]; rfl
theorem refless_ent (e : Ent) : refless e.d = true := by simp [Ent.d, refless, reflesss, refless_strs]
theorem refless_map {α : Type} {f : α → D} (hf : ∀ x, refless (f x) = true) : ∀ xs : List α, reflesss (xs.map f) = true
  | [] => rfl
  | x :: xs => by show (refless (f x) && reflesss (xs.map f)) = true; rw [refless_map hf xs, hf]; rfl
theorem refless_tab (T : Tab) : refless T.d = true := by simp [Tab.d, refless, reflesss, refless_map refless_ent]
/-! ### the checks -/
theorem is_count_ok {v lo hi : Int} {h : Hh} : m_is_count [.int v, .int lo, .int hi] h = .ok (.bl (decide (lo ≤ v) && decide (v ≤ hi))) h := by
  refine runP_wp ?_
  unfold b_is_count
  refine wp_ret ?_
  simp! []
  split <;> simp_all
  intro; omega
def isLetter (c : Nat) : Bool := decide (c ∈ [97, 98, 99, 100, 101])
theorem are_letters_ok {t : List Nat} {n : Int} {h : Hh} (hl : t.length ≤ lim) : m_are_letters [.str t, .int n] h = .ok (.bl (decide ((t.length : Int) ≤ n) && t.all isLetter)) h := by
  refine runP_wp ?_
  unfold b_are_letters
  refine wp_ret ?_
  simp! [len_str hl]
  split
  · refine ⟨by simpa [lim] using hl, lcL_map t _ (fun c => .bl (isLetter c)) (fun c hc => ?_) ?_⟩
    · simp! [opIn]; rfl
    · simp! []; simp_all
  · simp_all; intro; omega
def cellB (c : List Nat) : Bool := decide (IsCell c)
theorem is_cell_ok {c : List Nat} {h : Hh} : m_is_cell [.str c] h = .ok (.bl (cellB c)) h := by
  refine runP_wp ?_
  unfold b_is_cell
  refine wp_ret ?_
  simp! []
  refine ⟨by decide, lcL_pure dots (fun c => .str [c]) (fun x => decide (x ∈ c)) (fun c => .str [c]) (fun x hx => ?_) ?_⟩
  · simp! [opIn]; simp
  · have hl : (dots.filter fun x => decide (x ∈ c)).length ≤ lim := Nat.le_trans (List.length_filter_le _ _) (by decide)
    simp! [joinOf_chars hl]; rfl
theorem are_cells_ok {cs : List (List Nat)} {lo hi : Int} {h : Hh} (hl : cs.length ≤ lim) : m_are_cells [.tup (cs.map D.str), .int lo, .int hi] h = .ok (.bl (decide (lo ≤ (cs.length : Int)) && decide ((cs.length : Int) ≤ hi) && cs.all cellB)) h := by
  refine runP_wp ?_
  unfold b_are_cells
  refine wp_ret ?_
  simp! [List.length_map]
  split
  · split
    · refine ⟨by simpa [lim] using hl, lcL_map cs _ (fun c => .bl (cellB c)) (fun c hc => ?_) ?_⟩
      · simp! [is_cell_ok]
      · simp! []; simp_all
    · simp_all; intro; omega
  · simp_all; intro; omega
theorem is_entry_ok {e : Ent} {k : Nat} {h : Hh} (ok : e.Ok k) : m_is_entry [e.d, .int k] h = .ok (.bl true) h := by
  have h1 := ok.t3
  have h2 := ok.c3
  have hm := ok.m
  have hn := ok.n
  have h3 : e.t.all isLetter = true := by
    rw [List.all_eq_true]; intro c hc; have := ok.tl c hc; unfold isLetter; simp; omega
  have h4 : e.cs.all cellB = true := by
    rw [List.all_eq_true]; intro c hc; have := ok.cc c hc; unfold cellB; simp [this]
  have h5 : 1 ≤ e.cs.length := by
    have := ok.c0; cases hc : e.cs with
    | nil => exact absurd hc this
    | cons => simp
  have b1 : (decide ((0 : Int) ≤ (e.m : Int)) && decide ((e.m : Int) ≤ (k : Int) - 1)) = true := by simp; omega
  have b2 : (decide ((0 : Int) ≤ (e.n : Int)) && decide ((e.n : Int) ≤ (k : Int) - 1)) = true := by simp; omega
  have b3 : (e.t.length : Int) ≤ 3 := by omega
  have b4 : (e.cs.length : Int) ≤ 3 := by omega
  have b5 : 1 ≤ (e.cs.length : Int) := by omega
  refine runP_wp ?_
  unfold b_is_entry Ent.d
  simp_all! [is_count_ok, b1, b2, b3, b4, b5, are_letters_ok (show e.t.length ≤ lim by unfold lim; omega), are_cells_ok (show e.cs.length ≤ lim by unfold lim; omega), is_count_ok, b2, h3, h4]
theorem key_ent (e : Ent) : isKey e.d = true := plain_ent 6 e
theorem is_table_ok {T : Tab} {h : Hh} (ok : T.Ok) : m_is_table [T.d] h = .ok (.bl true) h := by
  have h1 : (decide ((1 : Int) ≤ (T.k : Int)) && decide ((T.k : Int) ≤ 3)) = true := by have := ok.k1; have := ok.k3; simp; omega
  have h2 : 1 ≤ (T.es.length : Int) := by
    have := ok.e0; cases hc : T.es with
    | nil => exact absurd hc this
    | cons => simp; omega
  have h4 := ok.e10
  have h3 : (T.es.length : Int) ≤ 10 := by omega
  have h5 : dedup (T.es.map Ent.d) = T.es.map Ent.d := dedup_nodup (nodup_map (fun _ _ => Ent.d_inj) ok.nd)
  have h6 : setOk (T.es.map Ent.d) = true := set_all_key (by simp [key_ent]) (by simp; omega)
  refine runP_wp ?_
  unfold b_is_table Tab.d
  simp_all! [is_count_ok, h1, List.length_map, h2, h3]
  refine ⟨by omega, lcL_map T.es _ (fun _ => .bl true) (fun e he => ?_) ?_⟩
  · simp_all! [is_entry_ok (ok.ok e he)]
  · have e1 : ∀ g : Hh, boolsOf (fun bs => bs.all id) (T.es.map fun _ => D.bl true) g = .ok (.bl true) g := fun g => by rw [all_of (f := fun _ => true)]; simp
    simp_all! [e1, h5, h6, List.length_map]
theorem need_table_ok {T : Tab} {h : Hh} (ok : T.Ok) : m_need_table [T.d] h = .ok .non h := by
  refine runP_wp ?_
  unfold b_need_table
  simp_all! [is_table_ok ok]
def LettersOk (t : List Nat) : Prop := t.all isLetter = true
theorem need_text_ok {t : List Nat} {h : Hh} (hl : t.length ≤ 20) (ht : LettersOk t) : m_need_text [.str t] h = .ok .non h := by
  have b : (t.length : Int) ≤ 20 := by omega
  refine runP_wp ?_
  unfold b_need_text
  simp_all! [are_letters_ok (show t.length ≤ lim by unfold lim; omega), b, show t.all isLetter = true from ht]
def CellsOk (w : List (List Nat)) : Prop := ∀ c ∈ w, IsCell c
theorem is_writing_ok {w : List (List Nat)} {h : Hh} (hl : w.length ≤ 20) (ht : CellsOk w) : m_is_writing [.tup (w.map D.str)] h = .ok (.bl true) h := by
  have b : (w.length : Int) ≤ 20 := by omega
  have b0 : 0 ≤ (w.length : Int) := by omega
  have h4 : w.all cellB = true := by rw [List.all_eq_true]; intro c hc; have := ht c hc; unfold cellB; simp [this]
  refine runP_wp ?_
  unfold b_is_writing
  simp_all! [are_cells_ok (show w.length ≤ lim by unfold lim; omega), b, b0, h4]
theorem need_writing_ok {w : List (List Nat)} {h : Hh} (hl : w.length ≤ 20) (ht : CellsOk w) : m_need_writing [.tup (w.map D.str)] h = .ok .non h := by
  refine runP_wp ?_
  unfold b_need_writing
  simp_all! [is_writing_ok hl ht]
end Dcl
end
section
local macro_rules | `(tactic| simp! [$ts,*]) => `(tactic| simp (config := {failIfUnchanged := false}) only [Dc.wr_ok, Dc.wr_bind, Dc.wr_if, Dc.asB_bl, Dc.asI_int, Dc.wo_some, Dc.sk_nx, Dc.sk_rt, Dc.sk_ct, Dc.sk_bk, Dc.go_nx, Dc.go_ct, Dc.go_rt, Dc.we_var_s, Dc.we_var_0, Dc.we_c, Dc.we_nil, Dc.we_yes, Dc.we_cons, Dc.we_bin, Dc.we_tup, Dc.we_lst, Dc.we_blt, Dc.we_call, Dc.we_callT, Dc.town_s, Dc.we_test, Dc.we_and, Dc.we_or, Dc.we_not, Dc.we_andV, Dc.we_orV, Dc.we_notV, Dc.we_ifx, Dc.we_chain, Dc.we_isi, Dc.we_meth, Dc.we_sl, Dc.we_nopart, Dc.we_part, Dc.we_iter, Dc.we_range, Dc.we_enum, Dc.we_dict1, Dc.we_dict0, Dc.we_lenset, Dc.we_sortedset, Dc.we_sortkey, Dc.we_lc, Dc.we_lc2, Dc.we_dc, Dc.wp_next, Dc.wp_break, Dc.wp_cont, Dc.wp_retN, Dc.finP_rt, Dc.finP_nx, Dc.may_P, Dc.may_T, Dc.lock_none, Dc.lock_some, Dc.put_one, Dc.put_many, Dc.putAll_nil, Dc.putAll_cons, Dc.set_s, Dc.set_0, Dc.wipe_nil, Dc.wipe_cons, Dc.le_int, Dc.ge_int, Dc.gt_int, Dc.lt_int, Dc.add_int, Dc.sub_int, Dc.eq_str, Dc.ne_str, Dc.eq_int, Dc.ne_int, Dc.len_tup, Dc.len_fro, Dc.ix_tup, Dc.ix_0, Dc.ix_1, Dc.ix_2, Dc.ix_3, Int.cast_ofNat_Int, Int.reduceEq, Int.reduceLE, Int.reduceLT, Int.reduceAdd, Int.reduceSub, Int.reduceNeg, decide_true, decide_false,  Dc.get_len, Dc.get_len0, Dc.get_cons2, Dc.get_cons3, Dc.set_cons2, Dc.set_cons3, Dc.get_map0, Dc.get_mapk, Dc.set_len, Dc.set_len0, List.append_assoc, List.length_append, List.cons_append, List.nil_append, List.length_cons, List.length_nil, if_true, if_false, Bool.false_eq_true, true_and, and_true, false_and, and_false, Bool.not_false, Bool.not_true, Bool.true_and, Bool.false_and, Bool.and_true, Bool.and_false, Nat.reduceAdd, Nat.reduceSub, List.reduceReplicate, List.map_cons, List.map_nil, Dc.startE, Dc.isiD, Dc.it_tup, Dc.it_fro, Dc.it_str, Dc.it_ref, Dc.kit_ii, Dc.kit_ib, Dc.kit_ss, Dc.kit_tt, Dc.pack_bl, Dc.pack_int, Dc.pack_str, Dc.pack_non, Dc.items_tup, Dc.items_str, Nat.add_assoc, Dc.join_ref, Dc.len_ref, Dc.tup_ref, Dc.all_ref, Dc.any_ref, Dc.all_of, Dc.any_of, Dc.app_ref, Dc.ext_ref, Dc.ext_tup, Dc.pop_ref, Dc.ix_ref, Dc.ixL_int, Dc.ty_list, Dc.ty_dict, Dc.ty_str, Dc.in_ref, Dc.notin_eq, Dc.in_tup, Dc.add_ref, Dc.isnot_n, Dc.is_n, Dc.nx_nx, Dc.fw_nil, Dc.fw_cons, Dc.wo_if, Dc.ix_str, Dc.sl_str, Dc.sl_tup, Dc.starts_s, Dc.cut_1, Dc.cut_map, Dc.sorted_ref, Dc.list_ref, Dc.ne_ref, Dc.map_nil_iff, Dc.plain_nil, Nat.add_sub_cancel, List.dropLast_concat, List.length_map, List.map_append, List.getElem?_cons_zero, List.getElem?_cons_succ, Bool.or_true, Bool.true_or, Bool.or_false, Bool.false_or, Nat.zero_le, Nat.le_refl, Dc.le_len_add, $ts,*])
local macro_rules | `(tactic| simp_all! [$ts,*]) => `(tactic| (simp! [$ts,*]; repeat ((first | with_reducible refine Dc.wp_sq ?_ | with_reducible refine Dc.wp_if ?_ | with_reducible refine Dc.wp_ret ?_ | with_reducible refine Dc.wp_asg ?_ | with_reducible refine Dc.wp_expr ?_ | with_reducible refine Dc.wp_par ?_ | with_reducible refine Dc.wp_par3 ?_ | with_reducible refine Dc.wp_put ?_ | with_reducible refine Dc.wp_aug ?_); simp! [$ts,*])))
set_option linter.all false
set_option maxRecDepth 100000
set_option maxHeartbeats 1000000
/-! draws, random tables -/
namespace Dcl
open Dc
open L2 (atI ixN)
/-- the town at its place -/
def tw (h : Hh) (t : Nat) (a b : Int) : Hh := h.set t (.lst [.int a, .int b])
structure TownAt (h : Hh) (t : Nat) (a b : Int) : Prop where
  get : h[t]? = some (.lst [.int a, .int b])
  a0 : 0 ≤ a
  b0 : 0 ≤ b
section
variable {h L : Hh} {t : Nat} {a b a' b' : Int} {ns : List Int} {K : D → Hh → Prop}
theorem TownAt.lt (T : TownAt h t a b) : t < h.length := (List.getElem?_eq_some_iff.mp T.get).1
theorem tw_get (e : t < h.length) : (tw h t a b)[t]? = some (.lst [.int a, .int b]) := List.getElem?_set_self e
theorem tw_len : (tw h t a b).length = h.length := List.length_set
theorem tw_tw : tw (tw h t a b) t a' b' = tw h t a' b' := List.set_set ..
theorem tw_app (e : t < h.length) : tw (h ++ L) t a b = tw h t a b ++ L := List.set_append_left _ _ e
theorem TownAt.tw (e : t < h.length) (ha : 0 ≤ a) (hb : 0 ≤ b) : TownAt (tw h t a b) t a b := ⟨tw_get e, ha, hb⟩
theorem TownAt.app (T : TownAt h t a b) : TownAt (h ++ L) t a b := ⟨by rw [List.getElem?_append_left T.lt]; exact T.get, T.a0, T.b0⟩
theorem fin_int {h' : Hh} {k : Int} (e : h'[t]? = some (.lst [.int a, .int b])) (hl : t < h.length) (hk : K (.int k) (tw h t a b)) : WR (finT h t (.rt (.int k) h')) K := finT_ok e hl rfl rfl hk
/-- script == [] -/
theorem plain_ints : ∀ (n : Nat) (ns : List Int), D.plainNs n (ns.map D.int) = true
  | n, [] => plain_nil n
  | n, i :: ns => by rw [List.map_cons, plain_cons, plain_ints n ns, plain_int]; rfl
theorem eq_nil {ns : List Int} {h : Hh} : opEq (.fro (ns.map D.int)) (.ref h.length) (h ++ [.lst []]) = .ok (.bl (ns.isEmpty)) (h ++ [.lst []]) := by
  have e : eqD (.fro (ns.map D.int)) (.ref h.length) (h ++ [.lst []]) = some ns.isEmpty := by
    unfold eqD
    rw [if_neg (by simp [D.plainN])]
    simp only [listOf, get_len0, List.getElem?_cons_zero]
    rw [if_pos (by rw [plain_ints]; rfl)]
    cases ns with
    | nil => rfl
    | cons i ns => rfl
  unfold opEq
  rw [e]
theorem at_ints {ns : List Int} {k : Int} (h0 : 0 ≤ k) (h1 : k < ns.length) : ∃ i, ns[k.toNat]? = some i ∧ atI (ns.map D.int) k = some (.int i) := by
  have hl : k.toNat < ns.length := by omega
  refine ⟨ns[k.toNat], by simp [hl], ?_⟩
  unfold atI ixN
  rw [if_pos h0, if_pos (by simpa using h1)]
  simp [hl]
theorem draw_wr {many : Int} (T : TownAt h t a b) (hm : 0 < many) (hm2 : many < 1073741824) (k : ∀ k a' b', 0 ≤ k → k < many → 0 ≤ a' → 0 ≤ b' → K (.int k) (tw h t a' b')) : WR (m__law_draw [.fro (ns.map D.int), .ref t, .int many] h) K := by
  have hl := T.lt
  have may : (flT h t).may t = true := by simp [may_T]
  have i0 : opIx (.ref t) (.int 0) h = .ok (.int a) h := by rw [ix_lst T.get, ix_0]
  have i1 : opIx (.ref t) (.int 1) h = .ok (.int b) h := by rw [ix_lst T.get, ix_1]
  have p1 : ∀ v, putD (flT h t) (.ref t) (.int 1) v h = some (h.set t (.lst [.int a, v])) := fun v => put_lst (n := 1) T.get may (by simp)
  have p0 : ∀ v, putD (flT h t) (.ref t) (.int 0) v h = some (h.set t (.lst [v, .int b])) := fun v => put_lst (n := 0) T.get may (by simp)
  have g0 : getI (.ref t) (.int 0) h = some a := by unfold getI; simp [T.get]
  refine runT_wr ?_
  unfold b__law_draw
  simp_all! [i0, i1, p0, p1, g0, mod_int hm, div_int hm hm2]
  split
  · simp_all! [i0, i1, p0, p1, g0, mod_int hm, div_int hm hm2]
    exact fin_int (List.getElem?_set_self hl) hl (k _ _ _ (Int.emod_nonneg _ (by omega)) (Int.emod_lt_of_pos _ hm) T.a0 (Int.ediv_nonneg T.b0 (by omega)))
  · rename_i hb0
    have b0 : b = 0 := by have := T.b0; simp at hb0; omega
    subst b0
    simp_all! [i0, i1, p0, p1, g0]
    generalize hg : List.set h t (Ob.lst [D.int (a + 1), D.int 0]) = g
    have T2 : TownAt g t (a + 1) 0 := ⟨by rw [← hg, List.getElem?_set_self hl], by have := T.a0; omega, Int.le_refl 0⟩
    have hgl : g.length = h.length := by rw [← hg]; simp
    have ee := eq_nil (ns := ns) (h := g)
    simp_all! [ee]
    have T3 : TownAt (g ++ [Ob.lst []]) t (a + 1) 0 := T2.app
    generalize hg2 : g ++ [Ob.lst []] = g2 at T3
    have fin : ∀ {k' a' b' : Int} {h' : Hh}, h'[t]? = some (.lst [.int a', .int b']) → 0 ≤ k' → k' < many → 0 ≤ a' → 0 ≤ b' → WR (finT h t (.rt (.int k') h')) K := fun e e2 e3 e4 e5 => fin_int e hl (k _ _ _ e2 e3 e4 e5)
    split
    · simp_all! [mod_int hm]
      exact fin T3.get (Int.emod_nonneg _ (by omega)) (Int.emod_lt_of_pos _ hm) T3.a0 T3.b0
    · rename_i hns
      have pos : 0 < ns.length := by cases ns with | nil => simp at hns | cons i ns => simp
      have a0 := T.a0
      obtain ⟨i, hi, ei⟩ := at_ints (ns := ns) (k := a % (ns.length : Int)) (Int.emod_nonneg _ (by omega)) (Int.emod_lt_of_pos _ (by omega))
      have tail : ∀ r0 : Option D, WP (bSeq (bAsg (xBin opMod (xBin opAdd (xBin opAdd (xBin opMul (xBin opIx (xVar 0) (xBin opMod (xVar 4) (xBlt fLen (xCons (xVar 0) xNil)))) (xC (.int 1103515245))) (xBin opMul (xC (.int 7919)) (xVar 4))) (xC (.int 12345))) (xC (.int 2147483647))) (.one 5))
          (bRet (xBin opMod (xBin opMod (xBin opMod (xBin opPow (xVar 5) (xC (.int 5))) (xC (.int 2147483647))) (xC (.int 999983))) (xVar 2)))) [some (D.fro (ns.map D.int)), some (D.ref t), some (D.int many), none, some (D.int a), none] g2 fun o => WR (finT h t o) K := fun r0 => by
        have m1 : mulOk i 1103515245 = true := by unfold mulOk; simp
        have m2 : mulOk 7919 a = true := by unfold mulOk; simp
        have q1 : ((i * 1103515245 + 7919 * a + 12345) % 2147483647).natAbs < 18446744073709551616 := by
          have := Int.emod_nonneg (i * 1103515245 + 7919 * a + 12345) (b := 2147483647) (by decide)
          have := Int.emod_lt_of_pos (i * 1103515245 + 7919 * a + 12345) (b := 2147483647) (by decide)
          omega
        simp_all! [List.length_map, ix_fro, mod_int (show (0 : Int) < (ns.length : Int) by omega), ei, mul_int m1, mul_int m2, mod_int (show (0 : Int) < 2147483647 by decide), mod_int (show (0 : Int) < 999983 by decide), pow_int (j := 5) ⟨by decide, by decide, q1⟩, mod_int hm]
        exact fin T3.get (Int.emod_nonneg _ (by omega)) (Int.emod_lt_of_pos _ hm) T3.a0 T3.b0
      simp_all! [List.length_map]
      split
      · rename_i hlt
        obtain ⟨i, hi, ei⟩ := at_ints (ns := ns) (k := a) a0 (by simpa using hlt)
        have pw : opPow (.int 10) (.int 18) g2 = .ok (.int (10 ^ 18)) g2 := pow_int ⟨by decide, by decide, by decide⟩
        have pw2 : opPow (.int 10) (.int 60) g2 = .ok (.int (10 ^ 60)) g2 := pow_int ⟨by decide, by decide, by decide⟩
        have may2 : putD (flT h t) (.ref t) (.int 1) = putD (flT h t) (.ref t) (.int 1) := rfl
        have p1' : ∀ v, putD (flT h t) (.ref t) (.int 1) v g2 = some (g2.set t (.lst [.int (a + 1), v])) := fun v => put_lst (n := 1) T3.get may (by simp)
        have i1' : opIx (.ref t) (.int 1) g2 = .ok (.int 0) g2 := by rw [ix_lst T3.get, ix_1]
        simp_all! [ix_fro, ei, pw, pw2, div_int hm hm2, mul_int (show mulOk (10 ^ 60) (10 ^ 60) = true by decide +kernel), mod_int (show (0 : Int) < 10 ^ 60 * 10 ^ 60 by decide)]
        split
        · simp_all! [ix_fro, ei, pw, pw2, div_int hm hm2, mul_int (show mulOk (10 ^ 60) (10 ^ 60) = true by decide +kernel), mod_int (show (0 : Int) < 10 ^ 60 * 10 ^ 60 by decide), p1', mod_int hm]
          exact fin (by rw [List.getElem?_set_self T3.lt]) (Int.emod_nonneg _ (by omega)) (Int.emod_lt_of_pos _ hm) T3.a0 (Int.emod_nonneg _ (by decide))
        · exact wp_seq ▸ tail none
      · exact wp_seq ▸ tail none
theorem tw_ne {j : Nat} (e : j ≠ t) : (tw h t a b)[j]? = h[j]? := List.getElem?_set_ne (Ne.symm e)
theorem atI_some {α : Type} {xs : List α} {k : Int} (h0 : 0 ≤ k) (h1 : k < xs.length) : ∃ x, x ∈ xs ∧ atI xs k = some x := by
  have hl : k.toNat < xs.length := by omega
  refine ⟨xs[k.toNat], List.getElem_mem hl, ?_⟩
  have : atI xs (k.toNat : Int) = xs[k.toNat]? := atI_nat
  rw [show (k.toNat : Int) = k by omega] at this
  rw [this]; simp [hl]
theorem pick_lst {j : Nat} {xs : List D} (T : TownAt h t a b) (hj : h[j]? = some (.lst xs)) (hjt : j ≠ t) (hx : xs ≠ []) (hn : xs.length < 1073741824) (hok : ∀ x ∈ xs, okT h x = true) (k : ∀ x a' b', x ∈ xs → 0 ≤ a' → 0 ≤ b' → K x (tw h t a' b')) :
    WR (m__law_pick [.fro (ns.map D.int), .ref t, .ref j] h) K := by
  have hl := T.lt
  have h0 : 0 < xs.length := by cases xs with | nil => exact absurd rfl hx | cons => simp
  refine runT_wr ?_
  unfold b__law_pick
  simp_all! [hj]
  refine draw_wr T (by omega) (by omega) fun n a' b' n0 n1 ha hb => ?_
  obtain ⟨x, hxm, e⟩ := atI_some n0 n1
  simp_all! [show (tw h t a' b')[j]? = some (.lst xs) by rw [tw_ne hjt]; exact hj, e]
  exact finT_ok (tw_get hl) hl (hok x hxm) rfl (k x a' b' hxm ha hb)
theorem pick_str {cs : List Nat} (T : TownAt h t a b) (hx : cs ≠ []) (hn : cs.length ≤ lim) (k : ∀ c a' b', c ∈ cs → 0 ≤ a' → 0 ≤ b' → K (.str [c]) (tw h t a' b')) :
    WR (m__law_pick [.fro (ns.map D.int), .ref t, .str cs] h) K := by
  have hl := T.lt
  have h0 : 0 < cs.length := by cases cs with | nil => exact absurd rfl hx | cons => simp
  have hl2 : (cs.length : Int) < 1073741824 := by unfold lim at hn; omega
  refine runT_wr ?_
  unfold b__law_pick
  simp_all! [len_str hn]
  refine draw_wr T (by omega) hl2 fun n a' b' n0 n1 ha hb => ?_
  obtain ⟨x, hxm, e⟩ := atI_some n0 n1
  have e2 : opIx (.str cs) (.int n) (tw h t a' b') = .ok (.str [x]) (tw h t a' b') := by unfold opIx; dsimp only; rw [if_pos hn, e]
  simp_all! [e2]
  exact finT_ok (tw_get hl) hl rfl rfl (k x a' b' hxm ha hb)
theorem set_same {o : Ob} (e : h[t]? = some o) : h.set t o = h := by
  apply List.ext_getElem?; intro i
  by_cases hi : t = i
  · subst hi; rw [List.getElem?_set_self (List.getElem?_eq_some_iff.mp e).1, e]
  · rw [List.getElem?_set_ne hi]
theorem TownAt.same (T : TownAt h t a b) : Dcl.tw h t a b = h := set_same T.get
/-- a row of draws -/
theorem lcL_rnd {Tg' : Tg} {te : EM} {r0 : Ev} {P : D → Prop} {ds : List D} {K : List D → Hh → Prop} (T : TownAt h t a b)
    (H : ∀ d a' b', d ∈ ds → 0 ≤ a' → 0 ≤ b' → WO (Tg'.put d r0) fun r1 => WE te r1 (tw h t a' b') fun y h2 => ∃ a2 b2, 0 ≤ a2 ∧ 0 ≤ b2 ∧ h2 = tw h t a2 b2 ∧ P y)
    (k : ∀ ys a' b', 0 ≤ a' → 0 ≤ b' → ys.length = ds.length → (∀ y ∈ ys, P y) → K ys (tw h t a' b')) : WR (lcL Tg' xYes te r0 ds h) K := by
  refine lcL_any ds (fun pre ys h1 => ∃ a' b', 0 ≤ a' ∧ 0 ≤ b' ∧ h1 = tw h t a' b' ∧ ys.length = pre.length ∧ ∀ y ∈ ys, P y) ⟨a, b, T.a0, T.b0, T.same.symm, rfl, by simp⟩ (fun pre d post ys h1 e ⟨a', b', ha, hb, e1, hl, hp⟩ => ?_) fun ys h1 ⟨a', b', ha, hb, e1, hl, hp⟩ => ?_
  · subst e1
    obtain ⟨r1, e1, w⟩ := wo_elim (H d a' b' (by rw [e]; simp) ha hb)
    rw [e1, wo_some, we_yes, if_pos rfl]
    obtain ⟨y, h2, e2, a2, b2, q1, q2, q3, q4⟩ := we_elim w
    unfold WE; rw [e2, wr_ok]
    refine ⟨a2, b2, q1, q2, q3, by simp [hl], fun z hz => ?_⟩
    rcases List.mem_append.mp hz with hz | hz
    · exact hp z hz
    · simp at hz; rw [hz]; exact q4
  · subst e1; exact k ys a' b' ha hb hl hp
theorem strs_of {P : List Nat → Prop} : ∀ {ys : List D}, (∀ y ∈ ys, ∃ c, y = .str c ∧ P c) → ∃ cs : List (List Nat), ys = cs.map D.str ∧ ∀ c ∈ cs, P c
  | [], _ => ⟨[], rfl, by simp⟩
  | y :: ys, h => by
    obtain ⟨c, rfl, hc⟩ := h y (by simp)
    obtain ⟨cs, rfl, hs⟩ := strs_of (ys := ys) fun z hz => h z (by simp [hz])
    exact ⟨c :: cs, rfl, by intro d hd; rcases List.mem_cons.mp hd with rfl | hd; exact hc; exact hs d hd⟩
theorem chars_of {P : Nat → Prop} : ∀ {ys : List D}, (∀ y ∈ ys, ∃ c, y = .str [c] ∧ P c) → ∃ cs : List Nat, ys = cs.map (fun c => D.str [c]) ∧ ∀ c ∈ cs, P c
  | [], _ => ⟨[], rfl, by simp⟩
  | y :: ys, h => by
    obtain ⟨c, rfl, hc⟩ := h y (by simp)
    obtain ⟨cs, rfl, hs⟩ := chars_of (ys := ys) fun z hz => h z (by simp [hz])
    exact ⟨c :: cs, rfl, by intro d hd; rcases List.mem_cons.mp hd with rfl | hd; exact hc; exact hs d hd⟩
theorem range_len {n : Nat} : (rangeL 0 n).length = n := by simp [rangeL]
theorem tup_new {xs : List D} : fTupOf [.ref h.length] (h ++ [.lst xs]) = .ok (.tup xs) (h ++ [.lst xs]) := by simp [fTupOf, seqOf]
theorem may_t : (flT h t).may t = true := by simp
/-- a random entry: cells out of a list -/
structure RE (modes : Nat) (cells : List (List Nat)) (e : Ent) : Prop where
  m : e.m < modes
  n : e.n < modes
  t3 : e.t.length ≤ 3
  tl : ∀ c ∈ e.t, c = 97 ∨ c = 98
  c0 : e.cs ≠ []
  c3 : e.cs.length ≤ 3
  cc : ∀ c ∈ e.cs, c ∈ cells
theorem get_tw {k : Nat} : (tw h t a b ++ L)[h.length + k]? = L[k]? := by rw [← tw_len (h := h) (t := t) (a := a) (b := b)]; exact get_len
theorem get_tw0 : (tw h t a b ++ L)[h.length]? = L[0]? := by rw [← tw_len (h := h) (t := t) (a := a) (b := b)]; exact get_len0
theorem set_tw {k : Nat} {o : Ob} : (tw h t a b ++ L).set (h.length + k) o = tw h t a b ++ L.set k o := by rw [← tw_len (h := h) (t := t) (a := a) (b := b)]; exact set_len
theorem set_tw0 {o : Ob} : (tw h t a b ++ L).set h.length o = tw h t a b ++ L.set 0 o := by rw [← tw_len (h := h) (t := t) (a := a) (b := b)]; exact set_len0
theorem tw_app2 (e : t < h.length) : tw (tw h t a b ++ L) t a' b' = tw h t a' b' ++ L := by rw [tw_app (by rw [tw_len]; exact e), tw_tw]
theorem old_tw {j : Nat} (e : j ≠ t) (hj : j < h.length) : (tw h t a b ++ L)[j]? = h[j]? := by rw [List.getElem?_append_left (by rw [tw_len]; exact hj), tw_ne e]
end
end Dcl
local macro_rules | `(tactic| dsimp! [$ts,*]) => `(tactic| simp_all! [Dcl.tw_len, Dcl.get_tw, Dcl.get_tw0, Dcl.set_tw, Dcl.set_tw0, Dcl.range_len, Int.toNat_natCast, $ts,*])
namespace Dcl
open Dc
open L2 (atI ixN)
section
variable {h L : Hh} {t : Nat} {a b a' b' : Int} {ns : List Int} {K : D → Hh → Prop}
theorem int_mem {x : D} {ms : List Nat} {n : Nat} (hx : x ∈ ms.map (fun (m : Nat) => D.int (m : Int))) (hn : ∀ m ∈ ms, m ≤ n) : ∃ m : Nat, x = .int m ∧ m ∈ ms ∧ m ≤ n := by
  obtain ⟨m, hm, rfl⟩ := List.mem_map.mp hx
  exact ⟨m, rfl, hm, hn m hm⟩
theorem entry_wr {modes j : Nat} {cells : List (List Nat)} (T : TownAt h t a b) (hm : 0 < modes) (hm2 : modes < 1000) (hj : h[j]? = some (.lst (cells.map D.str))) (hjt : j ≠ t) (hx : cells ≠ []) (hn : cells.length < 1000) (k : ∀ e a' b', RE modes cells e → 0 ≤ a' → 0 ≤ b' → K e.d (tw h t a' b')) :
    WR (m__law_entry [.fro (ns.map D.int), .ref t, .int modes, .ref j] h) K := by
  have hl := T.lt
  have hjl : j < h.length := (List.getElem?_eq_some_iff.mp hj).1
  refine runT_wr ?_
  unfold b__law_entry
  dsimp! []
  refine pick_lst T.app (xs := [0, 1, 1, 2, 3].map fun (m : Nat) => D.int m) get_len0 (by omega) (by simp) (by simp) (by simp [okT, refless]) fun x a1 b1 hx1 ha1 hb1 => ?_
  obtain ⟨n, rfl, -, n3⟩ := int_mem (n := 3) (ms := [0, 1, 1, 2, 3]) hx1 (by decide)
  rw [tw_app hl]
  have T1 : TownAt (tw h t a1 b1 ++ [Ob.lst [.int 0, .int 1, .int 1, .int 2, .int 3]]) t a1 b1 := (TownAt.tw hl ha1 hb1).app
  dsimp! []
  refine ⟨⟨by omega, by omega⟩, by omega, lcL_rnd (P := fun y => ∃ c, y = .str [c] ∧ (c = 97 ∨ c = 98)) T1 (fun d a' b' hd ha hb => ?_) fun ys a2 b2 ha2 hb2 hys hP => ?_⟩
  · dsimp! []
    refine pick_str (TownAt.tw T1.lt ha hb) (by simp) (by decide) fun c a2 b2 hc ha2 hb2 => ?_
    exact ⟨a2, b2, ha2, hb2, tw_tw, c, rfl, by simpa using hc⟩
  obtain ⟨cs, rfl, hcs⟩ := chars_of hP
  rw [List.length_map, range_len] at hys
  rw [tw_app2 hl]
  generalize hL : [Ob.lst [D.int 0, D.int 1, D.int 1, D.int 2, D.int 3]] = L
  dsimp! [joinOf_chars (show cs.length ≤ lim by unfold lim; omega)]
  refine pick_lst (TownAt.tw hl ha2 hb2).app (xs := [1, 1, 2, 2, 3].map fun (m : Nat) => D.int m) (by rw [get_tw, get_len]; rfl) (by omega) (by simp) (by simp) (by simp [okT, refless]) fun x a3 b3 hx3 ha3 hb3 => ?_
  obtain ⟨n2, rfl, hn2, n33⟩ := int_mem (n := 3) (ms := [1, 1, 2, 2, 3]) hx3 (by decide)
  have n21 : 1 ≤ n2 := by simp at hn2; omega
  rw [tw_app2 hl]
  generalize hL2 : L ++ [Ob.lst (cs.map fun c => D.str [c]), Ob.lst [D.int 1, D.int 1, D.int 2, D.int 2, D.int 3]] = L2
  have T3 : TownAt (tw h t a3 b3 ++ L2) t a3 b3 := (TownAt.tw hl ha3 hb3).app
  dsimp! []
  refine ⟨⟨by omega, by omega⟩, by omega, lcL_rnd (P := fun y => ∃ c, y = .str c ∧ c ∈ cells) T3 (fun d a' b' hd ha hb => ?_) fun ys a4 b4 ha4 hb4 hys4 hP4 => ?_⟩
  · dsimp! []
    refine pick_lst (TownAt.tw T3.lt ha hb) (xs := cells.map D.str) (by rw [tw_app2 hl, old_tw hjt hjl]; exact hj) hjt (by simpa using hx) (by simp; omega) (by intro x hx; obtain ⟨c, -, rfl⟩ := List.mem_map.mp hx; rfl) fun c a2 b2 hc ha2 hb2 => ?_
    obtain ⟨c', hc', rfl⟩ := List.mem_map.mp hc
    exact ⟨a2, b2, ha2, hb2, tw_tw, c', rfl, hc'⟩
  obtain ⟨ds, rfl, hds⟩ := strs_of hP4
  rw [List.length_map, range_len] at hys4
  rw [tw_app2 hl]
  dsimp! []
  refine draw_wr (TownAt.tw hl ha4 hb4).app (by omega) (by omega) fun m a5 b5 m0 m1 ha5 hb5 => ?_
  rw [tw_app2 hl]
  refine draw_wr (TownAt.tw hl ha5 hb5).app (by omega) (by omega) fun m2 a6 b6 m20 m21 ha6 hb6 => ?_
  rw [tw_app2 hl]
  obtain ⟨m, rfl⟩ : ∃ k : Nat, m = k := ⟨m.toNat, by omega⟩
  obtain ⟨m2, rfl⟩ : ∃ k : Nat, m2 = k := ⟨m2.toNat, by omega⟩
  refine finT_ok (u := .lst [.int a6, .int b6]) (by rw [List.getElem?_append_left (by rw [tw_len]; exact hl), tw_get hl]) hl ?_ rfl (k ⟨m, cs, ds, m2⟩ a6 b6 ⟨by show m < modes; omega, by show m2 < modes; omega, by show cs.length ≤ 3; omega, hcs, ?_, by show ds.length ≤ 3; omega, hds⟩ ha6 hb6)
  · exact refless_ent ⟨m, cs, ds, m2⟩
  · intro e; rw [show ds = [] from e] at hys4; simp at hys4; omega
/-- the cells a random table may have -/
def cellSets : List (List (List Nat)) := [[[49], [49, 52]], [[49, 52], [50, 53]], [[49], [52], [49, 52]], [[], [51], [54]]]
structure RT (most : Nat) (T : Tab) (cells : List (List Nat)) : Prop where
  k : T.k = 1 ∨ T.k = 2
  e0 : T.es ≠ []
  le : T.es.length ≤ most
  nd : T.es.Nodup
  cs : cells ∈ cellSets
  ok : ∀ e ∈ T.es, RE T.k cells e
theorem plain_ents8 (es : List Ent) : D.plainNs 8 (es.map Ent.d) = true := plain_ents 6 es
theorem any_ent {es : List Ent} {e : Ent} : ((es.map Ent.d).any fun z => D.beq z e.d) = decide (e ∈ es) := by
  rw [Bool.eq_iff_iff, List.any_eq_true, decide_eq_true_iff]
  constructor
  · rintro ⟨x, hx, e1⟩
    obtain ⟨y, hy, rfl⟩ := List.mem_map.mp hx
    rw [← Ent.d_inj (D.eq_of_beq _ _ e1)]; exact hy
  · intro he; exact ⟨e.d, List.mem_map.mpr ⟨e, he, rfl⟩, D.beq_self _⟩
theorem table_wr {most : Nat} (T : TownAt h t a b) (hm : 0 < most) (hm2 : most < 1000) (k : ∀ T cells a' b', RT most T cells → 0 ≤ a' → 0 ≤ b' → K T.d (tw h t a' b')) :
    WR (m__law_table [.fro (ns.map D.int), .ref t, .int most] h) K := by
  have hl := T.lt
  refine runT_wr ?_
  unfold b__law_table
  dsimp! []
  generalize hL0 : ([Ob.lst [D.str [49], D.str [49, 52]], Ob.lst [D.str [49, 52], D.str [50, 53]],
          Ob.lst [D.str [49], D.str [52], D.str [49, 52]], Ob.lst [D.str [], D.str [51], D.str [54]],
          Ob.lst [D.ref (List.length h), D.ref (List.length h + 1), D.ref (List.length h + 2), D.ref (List.length h + 3)]] : Hh) = L0
  have l0 : L0.length = 5 := by rw [← hL0]; rfl
  refine pick_lst T.app (xs := [D.ref (List.length h), D.ref (List.length h + 1), D.ref (List.length h + 2), D.ref (List.length h + 3)]) (by rw [get_len, ← hL0]; rfl) (by omega) (by simp) (by simp) (by simp [okT, l0]) fun x a1 b1 hx1 ha1 hb1 => ?_
  obtain ⟨i, cells, rfl, gi, hcells, hi⟩ : ∃ i cells, x = .ref (h.length + i) ∧ L0[i]? = some (.lst (cells.map D.str)) ∧ cells ∈ cellSets ∧ i < 4 := by
    rw [← hL0]
    simp at hx1; rcases hx1 with rfl | rfl | rfl | rfl
    · exact ⟨0, [[49], [49, 52]], rfl, rfl, by simp [cellSets], by omega⟩
    · exact ⟨1, [[49, 52], [50, 53]], rfl, rfl, by simp [cellSets], by omega⟩
    · exact ⟨2, [[49], [52], [49, 52]], rfl, rfl, by simp [cellSets], by omega⟩
    · exact ⟨3, [[], [51], [54]], rfl, rfl, by simp [cellSets], by omega⟩
  rw [tw_app hl]
  dsimp! []
  refine pick_lst (TownAt.tw hl ha1 hb1).app (xs := [1, 1, 2].map fun (m : Nat) => D.int m) (by rw [get_tw, get_len0]; rfl) (by omega) (by simp) (by simp) (by simp [okT, refless]) fun x a2 b2 hx2 ha2 hb2 => ?_
  obtain ⟨m, rfl, hm', m2⟩ := int_mem (n := 2) (ms := [1, 1, 2]) hx2 (by decide)
  have m1 : m = 1 ∨ m = 2 := by simpa using hm'
  rw [tw_app2 hl]
  generalize hL1 : L0 ++ [Ob.lst [D.int 1, D.int 1, D.int 2]] = L1
  have l1 : L1.length = 6 := by rw [← hL1]; simp [l0]
  have gi1 : L1[i]? = some (.lst (cells.map D.str)) := by rw [← hL1, List.getElem?_append_left (by omega)]; exact gi
  dsimp! []
  have hc0 : cells ≠ [] ∧ cells.length < 1000 := by simp [cellSets] at hcells; rcases hcells with rfl | rfl | rfl | rfl <;> simp
  refine wp_for (fun pre r hh => ∃ a b es x6 x7, r = [some (D.fro (List.map D.int ns)), some (D.ref t), some (D.int most), some (D.ref (h.length + i)), some (.int m), some (.ref (h.length + L1.length)), x6, x7] ∧ hh = tw h t a b ++ (L1 ++ [.lst (es.map Ent.d)]) ∧ 0 ≤ a ∧ 0 ≤ b ∧ es.Nodup ∧ es.length ≤ pre.length ∧ (pre ≠ [] → es ≠ []) ∧ ∀ e ∈ es, RE m cells e) (fun _ _ => False) ?_ (fun _ _ z => z.elim)
  dsimp! []
  refine draw_wr (TownAt.tw hl ha2 hb2).app (by omega) (by omega) fun n a3 b3 n0 n1 ha3 hb3 => ?_
  obtain ⟨n, rfl⟩ : ∃ k : Nat, n = k := ⟨n.toNat, by omega⟩
  rw [tw_app2 hl]
  dsimp! []
  refine ⟨⟨by omega, by omega⟩, ⟨a3, b3, [], none, none, rfl, rfl, ha3, hb3, by simp, by simp, by simp, by simp⟩, fun pre d post r hh e ⟨a, b, es, x6, x7, er, eh, ha, hb, nd, le, ne, ok⟩ => ?_, fun r hh ⟨a, b, es, x6, x7, er, eh, ha, hb, nd, le, ne, ok⟩ => ?_⟩
  · subst er eh
    have pl : pre.length < 1000 := by have := congrArg List.length e; simp [range_len] at this; omega
    dsimp! []
    refine entry_wr (TownAt.tw hl ha hb).app (by omega) (by omega) (cells := cells) (by rw [get_tw, List.getElem?_append_left (by omega)]; exact gi1) (by omega) hc0.1 hc0.2 fun e' a4 b4 he ha4 hb4 => ?_
    rw [tw_app2 hl]
    dsimp! [get_len0, plain_ent 6, plain_ents8, any_ent]
    split
    · dsimp! [show es.length < lim by unfold lim; omega, List.length_map]
      rename_i hne
      refine ⟨a4, b4, es ++ [e'], some d, some e'.d, rfl, by simp, ha4, hb4, ?_, by simp; omega, by simp, ?_⟩
      · rw [List.nodup_append]; simp at hne; exact ⟨nd, by simp, by intro x hx y hy; simp at hy; subst hy; intro z; subst z; exact hne hx⟩
      · intro x hx; rcases List.mem_append.mp hx with hx | hx
        · exact ok x hx
        · simp at hx; rw [hx]; exact he
    · rename_i hne
      refine ⟨a4, b4, es, some d, some e'.d, rfl, rfl, ha4, hb4, nd, by omega, ?_, ok⟩
      intro _ z; rw [z] at hne; simp at hne
  · subst er eh
    dsimp! []
    have ne' : es ≠ [] := ne (by intro z; have := congrArg List.length z; simp [range_len] at this; omega)
    refine finT_ok (u := .lst [.int a, .int b]) (by rw [List.getElem?_append_left (by rw [tw_len]; exact hl), tw_get hl]) hl ?_ rfl (k ⟨m, es⟩ cells a b ⟨m1, ne', ?_, nd, hcells, ok⟩ ha hb)
    · exact refless_tab ⟨m, es⟩
    · show es.length ≤ most; omega
end
end Dcl
end
section
local macro_rules | `(tactic| simp! [$ts,*]) => `(tactic| simp (config := {failIfUnchanged := false}) only [Dc.wr_ok, Dc.wr_bind, Dc.wr_if, Dc.asB_bl, Dc.asI_int, Dc.wo_some, Dc.sk_nx, Dc.sk_rt, Dc.sk_ct, Dc.sk_bk, Dc.go_nx, Dc.go_ct, Dc.go_rt, Dc.we_var_s, Dc.we_var_0, Dc.we_c, Dc.we_nil, Dc.we_yes, Dc.we_cons, Dc.we_bin, Dc.we_tup, Dc.we_lst, Dc.we_blt, Dc.we_call, Dc.we_callT, Dc.town_s, Dc.we_test, Dc.we_and, Dc.we_or, Dc.we_not, Dc.we_andV, Dc.we_orV, Dc.we_notV, Dc.we_ifx, Dc.we_chain, Dc.we_isi, Dc.we_meth, Dc.we_sl, Dc.we_nopart, Dc.we_part, Dc.we_iter, Dc.we_range, Dc.we_enum, Dc.we_dict1, Dc.we_dict0, Dc.we_lenset, Dc.we_sortedset, Dc.we_sortkey, Dc.we_lc, Dc.we_lc2, Dc.we_dc, Dc.wp_next, Dc.wp_break, Dc.wp_cont, Dc.wp_retN, Dc.finP_rt, Dc.finP_nx, Dc.may_P, Dc.may_T, Dc.lock_none, Dc.lock_some, Dc.put_one, Dc.put_many, Dc.putAll_nil, Dc.putAll_cons, Dc.set_s, Dc.set_0, Dc.wipe_nil, Dc.wipe_cons, Dc.le_int, Dc.ge_int, Dc.gt_int, Dc.lt_int, Dc.add_int, Dc.sub_int, Dc.eq_str, Dc.ne_str, Dc.eq_int, Dc.ne_int, Dc.len_tup, Dc.len_fro, Dc.ix_tup, Dc.ix_0, Dc.ix_1, Dc.ix_2, Dc.ix_3, Int.cast_ofNat_Int, Int.reduceEq, Int.reduceLE, Int.reduceLT, Int.reduceAdd, Int.reduceSub, Int.reduceNeg, decide_true, decide_false,  Dc.get_len, Dc.get_len0, Dc.get_cons2, Dc.get_cons3, Dc.set_cons2, Dc.set_cons3, Dc.get_map0, Dc.get_mapk, Dc.set_len, Dc.set_len0, List.append_assoc, List.length_append, List.cons_append, List.nil_append, List.length_cons, List.length_nil, if_true, if_false, Bool.false_eq_true, true_and, and_true, false_and, and_false, Bool.not_false, Bool.not_true, Bool.true_and, Bool.false_and, Bool.and_true, Bool.and_false, Nat.reduceAdd, Nat.reduceSub, List.reduceReplicate, List.map_cons, List.map_nil, Dc.startE, Dc.isiD, Dc.it_tup, Dc.it_fro, Dc.it_str, Dc.it_ref, Dc.kit_ii, Dc.kit_ib, Dc.kit_ss, Dc.kit_tt, Dc.pack_bl, Dc.pack_int, Dc.pack_str, Dc.pack_non, Dc.items_tup, Dc.items_str, Nat.add_assoc, Dc.join_ref, Dc.len_ref, Dc.tup_ref, Dc.all_ref, Dc.any_ref, Dc.all_of, Dc.any_of, Dc.app_ref, Dc.ext_ref, Dc.ext_tup, Dc.pop_ref, Dc.ix_ref, Dc.ixL_int, Dc.ty_list, Dc.ty_dict, Dc.ty_str, Dc.in_ref, Dc.notin_eq, Dc.in_tup, Dc.add_ref, Dc.isnot_n, Dc.is_n, Dc.nx_nx, Dc.fw_nil, Dc.fw_cons, Dc.wo_if, Dc.ix_str, Dc.sl_str, Dc.sl_tup, Dc.starts_s, Dc.cut_1, Dc.cut_map, Dc.sorted_ref, Dc.list_ref, Dc.ne_ref, Dc.map_nil_iff, Dc.plain_nil, Nat.add_sub_cancel, List.dropLast_concat, List.length_map, List.map_append, List.getElem?_cons_zero, List.getElem?_cons_succ, Bool.or_true, Bool.true_or, Bool.or_false, Bool.false_or, Nat.zero_le, Nat.le_refl, Dc.le_len_add, $ts,*])
local macro_rules | `(tactic| simp_all! [$ts,*]) => `(tactic| (simp! [$ts,*]; repeat ((first | with_reducible refine Dc.wp_sq ?_ | with_reducible refine Dc.wp_if ?_ | with_reducible refine Dc.wp_ret ?_ | with_reducible refine Dc.wp_asg ?_ | with_reducible refine Dc.wp_expr ?_ | with_reducible refine Dc.wp_par ?_ | with_reducible refine Dc.wp_par3 ?_ | with_reducible refine Dc.wp_put ?_ | with_reducible refine Dc.wp_aug ?_); simp! [$ts,*])))
local macro_rules | `(tactic| dsimp! [$ts,*]) => `(tactic| simp_all! [Dcl.tw_len, Dcl.get_tw, Dcl.get_tw0, Dcl.set_tw, Dcl.set_tw0, Dcl.range_len, Int.toNat_natCast, $ts,*])
set_option linter.all false
set_option maxRecDepth 100000
set_option maxHeartbeats 1000000
/-! places, spread -/
namespace Dcl
open Dc
open L2 (atI ixN)
abbrev Place := Nat × List Nat
def Place.d (p : Place) : D := .tup [.int p.1, .str p.2]
theorem Place.d_inj {a b : Place} (e : a.d = b.d) : a = b := by
  obtain ⟨a1, a2⟩ := a; obtain ⟨b1, b2⟩ := b; simp [Place.d] at e; obtain ⟨e1, e2⟩ := e; subst e2; congr; omega
theorem plain_place (n : Nat) (p : Place) : D.plainN (n + 1) p.d = true := by simp [Place.d, plain_tup, plain_cons, plain_int, plain_str, plain_nil]
theorem plain_places (ps : List Place) : D.plainNs 8 (ps.map Place.d) = true := plain_map (plain_place 7) ps
theorem refless_place (p : Place) : refless p.d = true := rfl
/-- a shift -/
inductive Sh (T : Tab) : Place → Place → Prop
  | sh {e : Ent} : e ∈ T.es → e.t = [] → Sh T (e.m, []) (e.n, [])
inductive Shs (T : Tab) (ps : List Place) : Place → Prop
  | of {p : Place} : p ∈ ps → Shs T ps p
  | step {p q : Place} : Shs T ps p → Sh T p q → Shs T ps q
def nub {α : Type} [DecidableEq α] : List α → List α
  | [] => []
  | x :: xs => if x ∈ xs then nub xs else x :: nub xs
theorem mem_nub {α : Type} [DecidableEq α] {y : α} : ∀ {xs : List α}, y ∈ nub xs ↔ y ∈ xs
  | [] => Iff.rfl
  | x :: xs => by
    unfold nub; split
    · rename_i hx; rw [mem_nub, List.mem_cons]; exact ⟨.inr, fun z => z.elim (fun e => e ▸ hx) id⟩
    · rw [List.mem_cons, List.mem_cons, mem_nub]
theorem nodup_nub {α : Type} [DecidableEq α] : ∀ xs : List α, (nub xs).Nodup
  | [] => List.nodup_nil
  | x :: xs => by
    unfold nub; split
    · exact nodup_nub xs
    · rename_i hx; rw [List.nodup_cons, mem_nub]; exact ⟨hx, nodup_nub xs⟩
theorem len_le_of_subset {α : Type} [DecidableEq α] : ∀ {xs ys : List α}, xs.Nodup → (∀ x ∈ xs, x ∈ ys) → xs.length ≤ ys.length
  | [], _, _, _ => Nat.zero_le _
  | x :: xs, ys, nd, h => by
    rw [List.nodup_cons] at nd
    have hx : x ∈ ys := h x (by simp)
    have ih := len_le_of_subset (xs := xs) (ys := ys.erase x) nd.2 fun y hy => (List.mem_erase_of_ne (by rintro rfl; exact nd.1 hy)).mpr (h y (by simp [hy]))
    rw [List.length_erase_of_mem hx] at ih
    have : 0 < ys.length := List.length_pos_of_mem hx
    simp; omega
open Classical in
noncomputable def clo (T : Tab) (ps : List Place) : List Place := (nub (ps ++ (List.range T.k).map fun m => (m, ([] : List Nat)))).filter fun p => decide (Shs T ps p)
theorem shs_univ {T : Tab} (ok : T.Ok) {ps : List Place} {p : Place} (h : Shs T ps p) : p ∈ ps ++ (List.range T.k).map fun m => (m, ([] : List Nat)) := by
  cases h with
  | of h => exact List.mem_append_left _ h
  | step _ s => cases s with
    | sh he _ => exact List.mem_append_right _ (List.mem_map.mpr ⟨_, List.mem_range.mpr (ok.ok _ he).n, rfl⟩)
theorem mem_clo {T : Tab} (ok : T.Ok) {ps : List Place} {p : Place} : p ∈ clo T ps ↔ Shs T ps p := by
  unfold clo
  rw [List.mem_filter, mem_nub]
  simp only [decide_eq_true_eq, and_iff_right_iff_imp]
  exact shs_univ ok
theorem nodup_clo (T : Tab) (ps : List Place) : (clo T ps).Nodup := (nodup_nub _).filter _
def leP (a b : Place) : Bool := leD a.d b.d
noncomputable def spr (T : Tab) (ps : List Place) : List Place := isort leP (clo T ps)
theorem insL_map {α β : Type} {le : β → β → Bool} (f : α → β) (x : α) : ∀ xs : List α, insL le (f x) (xs.map f) = (insL (fun a b => le (f a) (f b)) x xs).map f
  | [] => rfl
  | y :: ys => by
    simp only [List.map_cons, insL]; split
    · rfl
    · rw [insL_map f x ys]; rfl
theorem isort_map {α β : Type} {le : β → β → Bool} (f : α → β) : ∀ xs : List α, isort le (xs.map f) = (isort (fun a b => le (f a) (f b)) xs).map f
  | [] => rfl
  | x :: xs => by simp only [List.map_cons, isort]; rw [isort_map f xs, insL_map]
theorem cls_place (p : Place) : Cls 6 p.d := .is _ _
theorem map_inj {α β : Type} {f : α → β} (hf : ∀ a b, f a = f b → a = b) : ∀ {xs ys : List α}, xs.map f = ys.map f → xs = ys
  | [], [], _ => rfl
  | [], _ :: _, e => by simp at e
  | _ :: _, [], e => by simp at e
  | x :: xs, y :: ys, e => by
    simp only [List.map_cons, List.cons.injEq] at e
    rw [hf _ _ e.1, map_inj hf e.2]
/-- the same members: the same row -/
theorem canon_eq {xs ys : List Place} (n1 : xs.Nodup) (n2 : ys.Nodup) (h : ∀ p, p ∈ xs ↔ p ∈ ys) : isort leP xs = isort leP ys := by
  have p : xs.Perm ys := (List.perm_ext_iff_of_nodup n1 n2).mpr h
  have := isort_perm_eq (n := 6) (p.map Place.d) (by intro x hx; obtain ⟨q, -, rfl⟩ := List.mem_map.mp hx; exact cls_place q)
  rw [isort_map, isort_map] at this
  exact map_inj (fun _ _ => Place.d_inj) this
theorem mem_isort {α : Type} {le : α → α → Bool} {x : α} {xs : List α} : x ∈ isort le xs ↔ x ∈ xs := (isort_perm xs).mem_iff
theorem mem_spr {T : Tab} (ok : T.Ok) {ps : List Place} {p : Place} : p ∈ spr T ps ↔ Shs T ps p := by unfold spr; rw [mem_isort, mem_clo ok]
theorem okSort_cls' {n : Nat} (h0 : n ≠ 0) : ∀ {xs : List D}, (∀ x ∈ xs, cls x = n) → okSort xs = true
  | [], _ => rfl
  | x :: xs, h => by
    have hx := h x (by simp)
    simp only [okSort, hx, Bool.and_eq_true, List.all_eq_true]
    exact ⟨by simp [h0], fun y hy => by simp [h y (by simp [hy])]⟩
theorem spread_ok {T : Tab} (ok : T.Ok) {ps : List Place} {j : Nat} {h : Hh} (hj : h[j]? = some (.lst (ps.map Place.d))) (hl : ps.length ≤ 10000) : m_spread [T.d, .ref j] h = .ok (.tup ((spr T ps).map Place.d)) h := by
  have jl : j < h.length := (List.getElem?_eq_some_iff.mp hj).1
  refine runP_wp ?_
  unfold b_spread
  simp_all! [show (h ++ [Ob.lst []])[j]? = some (.lst (ps.map Place.d)) by rw [List.getElem?_append_left jl]; exact hj]
  have k3 := ok.k3
  have ub : ∀ {fd : List Place}, fd.Nodup → (∀ p ∈ fd, Shs T ps p) → fd.length ≤ ps.length + T.k := fun nd sub => by
    have := len_le_of_subset nd fun p hp => shs_univ ok (sub p hp)
    simpa using this
  refine wp_while (fun n r hh => ∃ (fd lf : List Place) (x4 x5 : Option D) (G : Hh), r = [some T.d, some (.ref j), some (.ref h.length), some (.ref (h.length + 1)), x4, x5] ∧ hh = h ++ (.lst (fd.map Place.d) :: .lst (lf.map Place.d) :: G) ∧ fd.Nodup ∧ (∀ p ∈ fd, Shs T ps p) ∧ (∀ p ∈ lf, Shs T ps p) ∧ (∀ p ∈ ps, p ∈ fd ∨ p ∈ lf) ∧ (∀ p ∈ fd, ∀ q, Sh T p q → q ∈ fd ∨ q ∈ lf) ∧ n = (ps.length + T.k - fd.length) * 11 + lf.length ∧ n ≤ 200000)
    (fun r hh => ∃ (fd : List Place) (x4 x5 : Option D) (G : Hh), r = [some T.d, some (.ref j), some (.ref h.length), some (.ref (h.length + 1)), x4, x5] ∧ hh = h ++ (.lst (fd.map Place.d) :: G) ∧ fd.Nodup ∧ ∀ p, p ∈ fd ↔ Shs T ps p) (fun _ _ => False) ((ps.length + T.k) * 11 + ps.length) (by omega)
    ⟨[], ps, none, none, [], rfl, rfl, by simp, by simp, fun p hp => .of hp, by simp, by simp, by simp, by omega⟩ ?_ (fun _ _ z => z.elim) ?_
  · rintro n r hh ⟨fd, lf, x4, x5, G, rfl, rfl, nd, sf, sl, cp, cl, hn, hn2⟩
    simp_all! [plain_places]
    split
    · rename_i hne
      obtain ⟨lf', p, rfl⟩ : ∃ lf' p, lf = lf' ++ [p] := by
        rcases List.eq_nil_or_concat lf with z | ⟨a, b, z⟩
        · rw [z] at hne; simp at hne
        · exact ⟨a, b, by rw [z]; simp⟩
      simp_all! [plain_places, plain_place 7, any_enc (fun _ _ => Place.d_inj), Nat.le_add_right]
      have bd := ub nd sf
      simp only [List.length_append, List.length_cons, List.length_nil] at hn
      split
      · rename_i hpf
        have hpf : p ∉ fd := by simpa using hpf
        have nd' : (fd ++ [p]).Nodup := by
          rw [List.nodup_append]; exact ⟨nd, by simp, by intro x hx y hy; simp at hy; subst hy; intro z; subst z; exact hpf hx⟩
        have sf' : ∀ q ∈ fd ++ [p], Shs T ps q := fun q hq => by
          rcases List.mem_append.mp hq with hq | hq
          · exact sf q hq
          · simp at hq; subst hq; exact sl q (by simp)
        have bd' := ub nd' sf'
        simp at bd'
        simp_all! [show fd.length < lim by unfold lim; omega, Nat.le_refl, Place.d]
        split
        · rename_i hp2
          have hp2 : p.2 = [] := by simpa using hp2
          simp_all! [Tab.d]
          have e10 := ok.e10
          refine ⟨by omega, lcL_pure T.es Ent.d (fun e => decide (e.m = p.1) && decide (e.t = [])) (fun e => Place.d (e.n, [])) (fun e he => ?_) ?_⟩
          · simp_all! [Ent.d, Place.d]
            by_cases em : e.m = p.1
            · simp [em]
            · rw [if_neg (by simp; omega)]; simp [em]
          · generalize hes : (T.es.filter fun e => decide (e.m = p.1) && decide (e.t = [])) = es
            have esl : es.length ≤ 10 := by rw [← hes]; exact Nat.le_trans (List.length_filter_le _ _) e10
            simp_all! [Nat.le_add_right, show lf'.length + es.length ≤ lim by unfold lim; omega]
            refine ⟨(ps.length + T.k - (fd ++ [p]).length) * 11 + (lf' ++ es.map fun (e : Ent) => (e.n, ([] : List Nat))).length, ?_, fd ++ [p], lf' ++ es.map fun (e : Ent) => (e.n, ([] : List Nat)), some p.d, x5, _, rfl, (by simp only [List.map_append, List.map_map, List.map_cons, List.map_nil]; rfl), nd', sf', fun q hq => ?_, fun q hq => ?_, fun q hq r hr => ?_, rfl, ?_⟩
            · simp only [List.length_append, List.length_cons, List.length_nil, List.length_map]; omega
            · rcases List.mem_append.mp hq with hq | hq
              · exact sl q (by simp [hq])
              · obtain ⟨e, he, rfl⟩ := List.mem_map.mp hq
                rw [← hes, List.mem_filter] at he
                have he2 : e.m = p.1 ∧ e.t = [] := by simpa using he.2
                refine .step (sl p (by simp)) ?_
                have := Sh.sh he.1 he2.2
                rw [he2.1] at this
                rwa [show p = (p.1, []) from Prod.ext rfl hp2]
            · rcases cp q hq with z | z
              · exact .inl (by simp [z])
              · rcases List.mem_append.mp z with z | z
                · exact .inr (by simp [z])
                · exact .inl (by simp at z; simp [z])
            · rcases List.mem_append.mp hq with hq | hq
              · rcases cl q hq r hr with z | z
                · exact .inl (by simp [z])
                · rcases List.mem_append.mp z with z | z
                  · exact .inr (by simp [z])
                  · exact .inl (by simp at z; simp [z])
              · simp at hq; subst hq
                right
                cases hr with
                | @sh e he ht =>
                  refine List.mem_append_right _ (List.mem_map.mpr ⟨e, ?_, rfl⟩)
                  rw [← hes, List.mem_filter]; exact ⟨he, by simp [ht]⟩
            · simp only [List.length_append, List.length_cons, List.length_nil, List.length_map]; omega
        · rename_i hp2
          have hp2 : p.2 ≠ [] := by simpa using hp2
          refine ⟨(ps.length + T.k - (fd ++ [p]).length) * 11 + lf'.length, ?_, fd ++ [p], lf', some p.d, x5, _, rfl, (by simp only [List.map_append, List.map_map, List.map_cons, List.map_nil]; rfl), nd', sf', fun q hq => sl q (by simp [hq]), fun q hq => ?_, fun q hq r hr => ?_, rfl, ?_⟩
          · simp only [List.length_append, List.length_cons, List.length_nil, List.length_map]; omega
          · rcases cp q hq with z | z
            · exact .inl (by simp [z])
            · rcases List.mem_append.mp z with z | z
              · exact .inr (by simp [z])
              · exact .inl (by simp at z; simp [z])
          · rcases List.mem_append.mp hq with hq | hq
            · rcases cl q hq r hr with z | z
              · exact .inl (by simp [z])
              · rcases List.mem_append.mp z with z | z
                · exact .inr (by simp [z])
                · exact .inl (by simp at z; simp [z])
            · simp at hq; subst hq
              cases hr with
              | sh he ht => exact absurd rfl hp2
          · simp only [List.length_append, List.length_cons, List.length_nil, List.length_map]; omega
      · rename_i hpf
        have hpf : p ∈ fd := by simpa using hpf
        refine ⟨_, ?_, fd, lf', some p.d, x5, _, rfl, rfl, nd, sf, fun q hq => sl q (by simp [hq]), fun q hq => ?_, fun q hq r hr => ?_, rfl, ?_⟩
        · omega
        · rcases cp q hq with z | z
          · exact .inl z
          · rcases List.mem_append.mp z with z | z
            · exact .inr z
            · simp at z; subst z; exact .inl hpf
        · rcases cl q hq r hr with z | z
          · exact .inl z
          · rcases List.mem_append.mp z with z | z
            · exact .inr z
            · simp at z; subst z; exact .inl hpf
        · omega
    · rename_i hne
      have : lf = [] := by simpa using hne
      subst this
      refine ⟨fd, x4, x5, _, rfl, rfl, nd, fun p => ⟨sf p, fun z => ?_⟩⟩
      induction z with
      | of hp => simpa using cp _ hp
      | step _ s ih => simpa using cl _ ih _ s
  · rintro r hh ⟨fd, x4, x5, G, rfl, rfl, nd, hfd⟩
    simp_all! [okSort_cls' (n := 6) (by decide) (xs := fd.map Place.d) (by intro x hx; obtain ⟨p, -, rfl⟩ := List.mem_map.mp hx; rfl)]
    have e1 : isort leD (fd.map Place.d) = (spr T ps).map Place.d := by
      rw [isort_map]; congr 1
      exact canon_eq nd (nodup_clo T ps) fun p => by rw [mem_clo ok, hfd]
    rw [e1]; exact pack_tup (refless_map refless_place _)
def step1 (T : Tab) (c : Nat) (p : Place) : List Place := match p.2 with
  | [] => (T.es.filter fun e => decide (e.m = p.1) && [c].isPrefixOf e.t).map fun e => (e.n, e.t.tail)
  | x :: r => if x = c then [(p.1, r)] else []
def let1 (T : Tab) (ps : List Place) (c : Nat) : List Place := ps.flatMap (step1 T c)
theorem let1_app {T : Tab} {ps : List Place} {p : Place} {c : Nat} : let1 T (ps ++ [p]) c = let1 T ps c ++ step1 T c p := by simp [let1]
theorem step1_len {T : Tab} (ok : T.Ok) {c : Nat} {p : Place} : (step1 T c p).length ≤ 10 := by
  unfold step1; split
  · rw [List.length_map]; exact Nat.le_trans (List.length_filter_le _ _) ok.e10
  · split <;> simp
theorem lettered_ok {T : Tab} (ok : T.Ok) {ps : List Place} {c : Nat} {h : Hh} (hl : ps.length ≤ 1000) (hp : ∀ p ∈ ps, p.2.length ≤ 3) : m_lettered [T.d, .tup (ps.map Place.d), .str [c]] h = .ok (.tup ((spr T (let1 T ps c)).map Place.d)) h := by
  have e10 := ok.e10
  refine runP_wp ?_
  unfold b_lettered
  simp_all! []
  refine wp_forE ps Place.d (fun pre r hh => ∃ x4 x5 x6 x7 x8 x9, r = [some T.d, some (.tup (ps.map Place.d)), some (.str [c]), some (.ref h.length), x4, x5, x6, x7, x8, x9] ∧ hh = h ++ [.lst ((let1 T pre c).map Place.d)] ∧ (let1 T pre c).length ≤ pre.length * 10) (fun _ _ => False) ?_ (fun _ _ z => z.elim)
  simp_all! []
  refine ⟨⟨_, _, _, _, _, _, rfl, rfl, by simp [let1]⟩, ?_, ?_⟩
  · rintro pre p post r hh e ⟨x4, x5, x6, x7, x8, x9, rfl, rfl, ll⟩
    have pl : pre.length < 1000 := by have := congrArg List.length e; simp at this; omega
    have p3 := hp p (by rw [e]; simp)
    obtain ⟨m, rest⟩ := p
    simp_all! [Place.d]
    cases rest with
    | nil =>
      simp_all! []
      refine wp_forE T.es Ent.d (fun es r hh => ∃ x6 x7 x8 x9, r = [some T.d, some (.tup (ps.map Place.d)), some (.str [c]), some (.ref h.length), some (.int m), some (.str []), x6, x7, x8, x9] ∧ hh = h ++ [.lst ((let1 T pre c ++ (es.filter fun e => decide (e.m = m) && [c].isPrefixOf e.t).map fun e => (e.n, e.t.tail)).map Place.d)]) (fun _ _ => False) ?_ (fun _ _ z => z.elim)
      simp_all! [Tab.d]
      refine ⟨⟨_, _, _, _, rfl, by simp⟩, ?_, ?_⟩
      · rintro es e post r hh he ⟨x6, x7, x8, x9, rfl, rfl⟩
        have eo := ok.ok e (by rw [he]; simp)
        have esl : es.length ≤ 10 := by have := congrArg List.length he; simp at this; omega
        simp_all! [Ent.d]
        by_cases em : e.m = m
        · simp_all! [em]
          cases et : e.t with
          | nil =>
            simp_all! [List.isPrefixOf]
            exact ⟨_, _, _, _, rfl, by simp [em, et, List.filter_append]⟩
          | cons y u =>
            have := eo.t3
            rw [et] at this
            by_cases ec : c = y
            · have l1 : u.length + 1 ≤ lim := by unfold lim; simp at this; omega
              have l2 : (let1 T pre c).length + (es.filter fun e => decide (e.m = m) && [c].isPrefixOf e.t).length < lim := by
                have := List.length_filter_le (fun e => decide (e.m = m) && [c].isPrefixOf e.t) es
                unfold lim; omega
              subst ec
              simp_all! [List.isPrefixOf, beq_self_eq_true, l1, l2, Nat.le_refl]
              exact ⟨_, _, _, _, rfl, by simp [em, et, List.filter_append, Place.d]⟩
            · simp_all! [List.isPrefixOf, show (c == y) = false by simpa using ec]
              exact ⟨_, _, _, _, rfl, by simp [em, et, List.filter_append, ec]⟩
        · rw [if_neg (by simp; omega)]
          exact ⟨_, _, _, _, rfl, by simp [em, List.filter_append]⟩
      · rintro r hh ⟨x6, x7, x8, x9, rfl, rfl⟩
        simp_all! []
        have := step1_len ok (c := c) (p := (m, []))
        exact ⟨_, _, _, _, _, _, rfl, by rw [let1_app, List.map_append]; rfl, by rw [let1_app, List.length_append]; omega⟩
    | cons x rest =>
      have p3' : rest.length + 1 ≤ lim := by unfold lim; simp at p3; omega
      simp_all! [p3', show (x :: rest = []) = False by simp]
      have := step1_len ok (c := c) (p := (m, x :: rest))
      split
      · rename_i ec
        have ec : x = c := by simpa using ec
        simp_all! [p3', show (let1 T pre c).length < lim by unfold lim; omega, Nat.le_refl]
        exact ⟨_, _, _, _, _, _, rfl, by rw [let1_app]; simp [step1, ec, Place.d], by rw [let1_app, List.length_append]; omega⟩
      · rename_i ec
        have ec : x ≠ c := by simpa using ec
        exact ⟨_, _, _, _, _, _, rfl, by rw [let1_app]; simp [step1, ec], by rw [let1_app, List.length_append]; omega⟩
  · rintro r hh ⟨x4, x5, x6, x7, x8, x9, rfl, rfl, ll⟩
    simp_all! [spread_ok ok (ps := let1 T ps c) (h := h ++ [Ob.lst ((let1 T ps c).map Place.d)]) (j := h.length) get_len0 (by omega)]
    exact pack_tup (refless_map refless_place _)
end Dcl
end
section
set_option linter.all false
set_option maxRecDepth 100000
set_option maxHeartbeats 1000000
/-! what can be written; unwritable -/
namespace Dcl
open Dc
open L2 (atI ixN)
/-- a row of entries that fit -/
inductive Run (T : Tab) : Nat → List Ent → Nat → Prop
  | nil {m : Nat} : Run T m [] m
  | cons {m0 : Nat} {e : Ent} {es : List Ent} {m : Nat} : e ∈ T.es → e.m = m0 → Run T e.n es m → Run T m0 (e :: es) m
def txt (es : List Ent) : List Nat := es.flatMap (·.t)
def wri (es : List Ent) : List (List Nat) := es.flatMap (·.cs)
def Can (T : Tab) (t : List Nat) : Prop := ∃ es m, Run T 0 es m ∧ txt es = t
def Acc (T : Tab) (p : Place) (u : List Nat) : Prop := ∃ v es m, u = p.2 ++ v ∧ Run T p.1 es m ∧ txt es = v
def AccS (T : Tab) (s : List Place) (u : List Nat) : Prop := ∃ p ∈ s, Acc T p u
section
variable {T : Tab}
theorem acc_sh {p q : Place} {u : List Nat} (s : Sh T p q) (h : Acc T q u) : Acc T p u := by
  cases s with
  | @sh e he ht =>
    obtain ⟨v, es, m, h1, h2, h3⟩ := h
    exact ⟨v, e :: es, m, h1, .cons he rfl h2, by simp [txt, ht]; exact h3⟩
theorem acc_shs {ps : List Place} {q : Place} {u : List Nat} (s : Shs T ps q) (h : Acc T q u) : AccS T ps u := by
  induction s with
  | of hp => exact ⟨_, hp, h⟩
  | step _ s ih => exact ih (acc_sh s h)
theorem acc_spr (ok : T.Ok) {ps : List Place} {u : List Nat} : AccS T (spr T ps) u ↔ AccS T ps u := by
  constructor
  · rintro ⟨q, hq, h⟩; exact acc_shs ((mem_spr ok).mp hq) h
  · rintro ⟨q, hq, h⟩; exact ⟨q, (mem_spr ok).mpr (.of hq), h⟩
def Closed (T : Tab) (s : List Place) : Prop := ∀ p ∈ s, ∀ q, Sh T p q → q ∈ s
theorem closed_spr (ok : T.Ok) {ps : List Place} : Closed T (spr T ps) := fun p hp q hs => (mem_spr ok).mpr (.step ((mem_spr ok).mp hp) hs)
theorem acc_run {s : List Place} (hc : Closed T s) {c : Nat} {u : List Nat} : ∀ {es : List Ent} {m m' : Nat}, Run T m es m' → txt es = c :: u → (m, []) ∈ s → AccS T (let1 T s c) u
  | [], _, _, _, e, _ => by simp [txt] at e
  | e :: es, _, m', .cons he rfl hr, ht, hs => by
    cases et : e.t with
    | nil => exact acc_run hc hr (by simpa [txt, et] using ht) (hc _ hs _ (.sh he et))
    | cons y t' =>
      simp [txt, et] at ht
      refine ⟨(e.n, t'), List.mem_flatMap.mpr ⟨_, hs, ?_⟩, ⟨txt es, es, m', ht.2.symm, hr, rfl⟩⟩
      show (e.n, t') ∈ (T.es.filter fun e' => decide (e'.m = e.m) && [c].isPrefixOf e'.t).map fun e' => (e'.n, e'.t.tail)
      refine List.mem_map.mpr ⟨e, List.mem_filter.mpr ⟨he, ?_⟩, by rw [et]; rfl⟩
      simp [et, List.isPrefixOf, ht.1]
theorem acc_let {s : List Place} (hc : Closed T s) {c : Nat} {u : List Nat} : AccS T s (c :: u) ↔ AccS T (let1 T s c) u := by
  constructor
  · rintro ⟨⟨m, r⟩, hp, v, es, m', h1, h2, h3⟩
    cases r with
    | nil => simp at h1; exact acc_run hc h2 (h3.trans h1.symm) hp
    | cons x r =>
      simp at h1
      exact ⟨(m, r), List.mem_flatMap.mpr ⟨_, hp, by simp [step1, h1.1]⟩, v, es, m', h1.2, h2, h3⟩
  · rintro ⟨q, hq, v, es, m', h1, h2, h3⟩
    obtain ⟨⟨m, r⟩, hp, hq⟩ := List.mem_flatMap.mp hq
    cases r with
    | nil =>
      obtain ⟨e, hef, rfl⟩ := List.mem_map.mp hq
      obtain ⟨he, h4⟩ := List.mem_filter.mp hef
      clear hef
      simp at h4
      obtain ⟨h5, t', et⟩ := h4
      subst h5
      refine ⟨_, hp, c :: u, e :: es, m', rfl, .cons he rfl h2, ?_⟩
      simp [txt, ← et] at h1 h3 ⊢
      rw [h1, ← h3]
    | cons x r =>
      by_cases hx : x = c
      · simp [step1, hx] at hq; subst hq; subst hx
        exact ⟨_, hp, v, es, m', by simp at h1 ⊢; exact h1, h2, h3⟩
      · simp [step1, hx] at hq
theorem acc_nil {s : List Place} : AccS T s [] ↔ ∃ p ∈ s, p.2 = [] := by
  constructor
  · rintro ⟨p, hp, v, es, m, h1, _, _⟩; exact ⟨p, hp, by simp at h1; exact h1.1⟩
  · rintro ⟨p, hp, h⟩; exact ⟨p, hp, [], [], p.1, by simp [h], .nil, rfl⟩
noncomputable def nx (T : Tab) (s : List Place) (c : Nat) : List Place := spr T (let1 T s c)
noncomputable def pset (T : Tab) (t : List Nat) : List Place := t.foldl (nx T) (spr T [(0, [])])
theorem can_fold (ok : T.Ok) : ∀ (t : List Nat) {s : List Place}, Closed T s → (AccS T s t ↔ ∃ p ∈ t.foldl (nx T) s, p.2 = [])
  | [], s, _ => acc_nil
  | c :: t, s, hc => by
    rw [acc_let hc, ← acc_spr ok]
    exact can_fold ok t (closed_spr ok)
theorem can_iff (ok : T.Ok) {t : List Nat} : Can T t ↔ ∃ p ∈ pset T t, p.2 = [] := by
  unfold pset
  rw [← can_fold ok t (closed_spr ok), acc_spr ok]
  constructor
  · rintro ⟨es, m, h1, h2⟩; exact ⟨(0, []), by simp, t, es, m, rfl, h1, h2⟩
  · rintro ⟨p, hp, v, es, m, h1, h2, h3⟩; simp at hp; subst hp; exact ⟨es, m, h2, h3.trans (by simpa using h1.symm)⟩
/-! ### how many sets of places there are -/
def UP (T : Tab) : List Place := (List.range T.k).map (fun m => (m, [])) ++ T.es.flatMap fun e => [(e.n, e.t.tail), (e.n, e.t.tail.tail)]
theorem UP_len (ok : T.Ok) : (UP T).length ≤ 23 := by
  have h1 := ok.k3
  have h2 := ok.e10
  have : ∀ es : List Ent, (es.flatMap fun e => [(e.n, e.t.tail), (e.n, e.t.tail.tail)]).length = es.length * 2 := by
    intro es; induction es with
    | nil => rfl
    | cons e es ih => simp [ih]; omega
  unfold UP; rw [List.length_append, this]; simp; omega
structure Pk (T : Tab) (s : List Place) : Prop where
  nd : s.Nodup
  can : isort leP s = s
  up : ∀ p ∈ s, p ∈ UP T
theorem UP_mode (ok : T.Ok) {e : Ent} (he : e ∈ T.es) : (e.n, []) ∈ UP T := List.mem_append_left _ (List.mem_map.mpr ⟨_, List.mem_range.mpr (ok.ok e he).n, rfl⟩)
theorem pk_spr (ok : T.Ok) {ps : List Place} (h : ∀ p ∈ ps, p ∈ UP T) : Pk T (spr T ps) := by
  have nd : (spr T ps).Nodup := (isort_perm _).nodup_iff.mpr (nodup_clo T ps)
  refine ⟨nd, canon_eq nd (nodup_clo T ps) fun p => mem_isort, fun p hp => ?_⟩
  have := (mem_spr ok).mp hp
  cases this with
  | of h1 => exact h p h1
  | step _ s => cases s with | sh he _ => exact UP_mode ok he
theorem up_let (ok : T.Ok) {s : List Place} (h : ∀ p ∈ s, p ∈ UP T) {c : Nat} : ∀ p ∈ let1 T s c, p ∈ UP T := by
  intro q hq
  obtain ⟨⟨m, r⟩, hp, hq⟩ := List.mem_flatMap.mp hq
  cases r with
  | nil =>
    obtain ⟨e, he, rfl⟩ := List.mem_map.mp hq
    exact List.mem_append_right _ (List.mem_flatMap.mpr ⟨e, (List.mem_filter.mp he).1, by simp⟩)
  | cons x r =>
    by_cases hx : x = c
    · simp [step1, hx] at hq; subst hq
      rcases List.mem_append.mp (h _ hp) with z | z
      · obtain ⟨m', _, e⟩ := List.mem_map.mp z; simp at e
      · obtain ⟨e, he, z2⟩ := List.mem_flatMap.mp z
        clear z
        simp at z2
        rcases z2 with ⟨rfl, z⟩ | ⟨rfl, z⟩
        · exact List.mem_append_right _ (List.mem_flatMap.mpr ⟨e, he, by simp [← z]⟩)
        · have t3 := (ok.ok e he).t3
          have : r = [] := by
            cases et : e.t with
            | nil => simp [et] at z
            | cons a t1 => cases t1 with
              | nil => simp [et] at z
              | cons b t2 => simp [et] at z; rw [et, ← z] at t3; simp at t3; exact t3
          rw [this]; exact UP_mode ok he
    · simp [step1, hx] at hq
theorem pk_nx (ok : T.Ok) {s : List Place} (h : Pk T s) {c : Nat} : Pk T (nx T s c) := pk_spr ok (up_let ok h.up)
theorem pk_start (ok : T.Ok) : Pk T (spr T [(0, [])]) := pk_spr ok fun p hp => by
  simp at hp; subst hp; exact List.mem_append_left _ (List.mem_map.mpr ⟨0, List.mem_range.mpr ok.k1, rfl⟩)
theorem pk_len (ok : T.Ok) {s : List Place} (h : Pk T s) : s.length ≤ 23 := Nat.le_trans (len_le_of_subset h.nd h.up) (UP_len ok)
def bvs : Nat → List (List Bool)
  | 0 => [[]]
  | n + 1 => (bvs n).map (true :: ·) ++ (bvs n).map (false :: ·)
theorem bvs_len : ∀ n, (bvs n).length = 2 ^ n
  | 0 => rfl
  | n + 1 => by simp [bvs, bvs_len n]; omega
theorem mem_bvs : ∀ l : List Bool, l ∈ bvs l.length
  | [] => by simp [bvs]
  | true :: l => by simp [bvs, mem_bvs l]
  | false :: l => by simp [bvs, mem_bvs l]
theorem nodup_map_on {α β : Type} {f : α → β} : ∀ {xs : List α}, (∀ a ∈ xs, ∀ b ∈ xs, f a = f b → a = b) → xs.Nodup → (xs.map f).Nodup
  | [], _, _ => by simp
  | x :: xs, hf, n => by
    rw [List.nodup_cons] at n
    rw [List.map_cons, List.nodup_cons]
    refine ⟨fun hx => ?_, nodup_map_on (fun a ha b hb => hf a (by simp [ha]) b (by simp [hb])) n.2⟩
    obtain ⟨y, hy, e⟩ := List.mem_map.mp hx
    rw [hf y (by simp [hy]) x (by simp) e] at hy; exact n.1 hy
theorem seen_len (ok : T.Ok) {seen : List (List Place)} (nd : seen.Nodup) (h : ∀ s ∈ seen, Pk T s) : seen.length ≤ 8388608 := by
  have n2 : (seen.map fun s => (UP T).map fun p => decide (p ∈ s)).Nodup := by
    refine nodup_map_on (fun a ha b hb e => ?_) nd
    rw [← (h a ha).can, ← (h b hb).can]
    refine canon_eq (h a ha).nd (h b hb).nd fun p => ?_
    have key : ∀ p ∈ UP T, (p ∈ a ↔ p ∈ b) := by
      intro p hp
      have := List.map_inj_left.mp e p hp
      simpa using this
    exact ⟨fun z => (key p ((h a ha).up p z)).mp z, fun z => (key p ((h b hb).up p z)).mpr z⟩
  have := len_le_of_subset n2 (ys := bvs (UP T).length) fun v hv => by
    obtain ⟨s, -, rfl⟩ := List.mem_map.mp hv
    have := mem_bvs ((UP T).map fun p => decide (p ∈ s))
    rwa [List.length_map] at this
  rw [List.length_map, bvs_len] at this
  exact Nat.le_trans this (Nat.le_trans (Nat.pow_le_pow_right (by decide) (UP_len ok)) (by decide))
end
end Dcl
end
section
local macro_rules | `(tactic| simp! [$ts,*]) => `(tactic| simp (config := {failIfUnchanged := false}) only [Dc.wr_ok, Dc.wr_bind, Dc.wr_if, Dc.asB_bl, Dc.asI_int, Dc.wo_some, Dc.sk_nx, Dc.sk_rt, Dc.sk_ct, Dc.sk_bk, Dc.go_nx, Dc.go_ct, Dc.go_rt, Dc.we_var_s, Dc.we_var_0, Dc.we_c, Dc.we_nil, Dc.we_yes, Dc.we_cons, Dc.we_bin, Dc.we_tup, Dc.we_lst, Dc.we_blt, Dc.we_call, Dc.we_callT, Dc.town_s, Dc.we_test, Dc.we_and, Dc.we_or, Dc.we_not, Dc.we_andV, Dc.we_orV, Dc.we_notV, Dc.we_ifx, Dc.we_chain, Dc.we_isi, Dc.we_meth, Dc.we_sl, Dc.we_nopart, Dc.we_part, Dc.we_iter, Dc.we_range, Dc.we_enum, Dc.we_dict1, Dc.we_dict0, Dc.we_lenset, Dc.we_sortedset, Dc.we_sortkey, Dc.we_lc, Dc.we_lc2, Dc.we_dc, Dc.wp_next, Dc.wp_break, Dc.wp_cont, Dc.wp_retN, Dc.finP_rt, Dc.finP_nx, Dc.may_P, Dc.may_T, Dc.lock_none, Dc.lock_some, Dc.put_one, Dc.put_many, Dc.putAll_nil, Dc.putAll_cons, Dc.set_s, Dc.set_0, Dc.wipe_nil, Dc.wipe_cons, Dc.le_int, Dc.ge_int, Dc.gt_int, Dc.lt_int, Dc.add_int, Dc.sub_int, Dc.eq_str, Dc.ne_str, Dc.eq_int, Dc.ne_int, Dc.len_tup, Dc.len_fro, Dc.ix_tup, Dc.ix_0, Dc.ix_1, Dc.ix_2, Dc.ix_3, Int.cast_ofNat_Int, Int.reduceEq, Int.reduceLE, Int.reduceLT, Int.reduceAdd, Int.reduceSub, Int.reduceNeg, decide_true, decide_false,  Dc.get_len, Dc.get_len0, Dc.get_cons2, Dc.get_cons3, Dc.set_cons2, Dc.set_cons3, Dc.get_map0, Dc.get_mapk, Dc.set_len, Dc.set_len0, List.append_assoc, List.length_append, List.cons_append, List.nil_append, List.length_cons, List.length_nil, if_true, if_false, Bool.false_eq_true, true_and, and_true, false_and, and_false, Bool.not_false, Bool.not_true, Bool.true_and, Bool.false_and, Bool.and_true, Bool.and_false, Nat.reduceAdd, Nat.reduceSub, List.reduceReplicate, List.map_cons, List.map_nil, Dc.startE, Dc.isiD, Dc.it_tup, Dc.it_fro, Dc.it_str, Dc.it_ref, Dc.kit_ii, Dc.kit_ib, Dc.kit_ss, Dc.kit_tt, Dc.pack_bl, Dc.pack_int, Dc.pack_str, Dc.pack_non, Dc.items_tup, Dc.items_str, Nat.add_assoc, Dc.join_ref, Dc.len_ref, Dc.tup_ref, Dc.all_ref, Dc.any_ref, Dc.all_of, Dc.any_of, Dc.app_ref, Dc.ext_ref, Dc.ext_tup, Dc.pop_ref, Dc.ix_ref, Dc.ixL_int, Dc.ty_list, Dc.ty_dict, Dc.ty_str, Dc.in_ref, Dc.notin_eq, Dc.in_tup, Dc.add_ref, Dc.isnot_n, Dc.is_n, Dc.nx_nx, Dc.fw_nil, Dc.fw_cons, Dc.wo_if, Dc.ix_str, Dc.sl_str, Dc.sl_tup, Dc.starts_s, Dc.cut_1, Dc.cut_map, Dc.sorted_ref, Dc.list_ref, Dc.ne_ref, Dc.map_nil_iff, Dc.plain_nil, Nat.add_sub_cancel, List.dropLast_concat, List.length_map, List.map_append, List.getElem?_cons_zero, List.getElem?_cons_succ, Bool.or_true, Bool.true_or, Bool.or_false, Bool.false_or, Nat.zero_le, Nat.le_refl, Dc.le_len_add, $ts,*])
local macro_rules | `(tactic| simp_all! [$ts,*]) => `(tactic| (simp! [$ts,*]; repeat ((first | with_reducible refine Dc.wp_sq ?_ | with_reducible refine Dc.wp_if ?_ | with_reducible refine Dc.wp_ret ?_ | with_reducible refine Dc.wp_asg ?_ | with_reducible refine Dc.wp_expr ?_ | with_reducible refine Dc.wp_par ?_ | with_reducible refine Dc.wp_par3 ?_ | with_reducible refine Dc.wp_put ?_ | with_reducible refine Dc.wp_aug ?_); simp! [$ts,*])))
local macro_rules | `(tactic| dsimp! [$ts,*]) => `(tactic| simp_all! [Dcl.tw_len, Dcl.get_tw, Dcl.get_tw0, Dcl.set_tw, Dcl.set_tw0, Dcl.range_len, Int.toNat_natCast, $ts,*])
set_option linter.all false
set_option maxRecDepth 100000
set_option maxHeartbeats 1000000
/-! unwritable -/
namespace Dcl
open Dc Bf
open L2 (atI ixN)
def encS (s : List Place) : D := .tup (s.map Place.d)
theorem encS_inj {a b : List Place} (e : encS a = encS b) : a = b := map_inj (fun _ _ => Place.d_inj) (by simpa [encS] using e)
theorem key_encS (s : List Place) : isKey (encS s) = true := plain_map (plain_place 6) s
theorem refless_encS (s : List Place) : refless (encS s) = true := refless_map refless_place s
def srt (L : List Nat) : List Nat := isort (fun a b => decide (a ≤ b)) L
theorem le1 (a b : Nat) : leD (.str [a]) (.str [b]) = decide (a ≤ b) := by
  unfold leD; simp only [ltD, ltNs]
  by_cases h : b < a
  · simp [h]
  · by_cases h2 : a < b
    · simp [h, h2]; omega
    · simp [h, h2]; omega
theorem sorted_letters (L : List Nat) : isort leD (L.map fun c => D.str [c]) = (srt L).map fun c => D.str [c] := by
  rw [isort_map]; simp only [le1]; rfl
theorem srt_lt {L : List Nat} (nd : L.Nodup) : (srt L).Pairwise (· < ·) := by
  have h1 : (srt L).Pairwise fun a b => decide (a ≤ b) = true := isort_pw ⟨by intro a b c; simp; omega, by intro a b; simp; omega⟩ L
  have h2 : (srt L).Nodup := (isort_perm _).nodup_iff.mpr nd
  have h3 := h1.and h2
  exact h3.imp fun ⟨a, b⟩ => by simp at a; omega
theorem ordNat : Ord (fun a b : Nat => a < b) := ⟨fun a => Nat.lt_irrefl a, fun h1 h2 => Nat.lt_trans h1 h2, fun a b => Nat.lt_trichotomy a b⟩
def cands (A : List Nat) (p : List Place × List Nat) : List (List Nat × List Place × Nat) := A.map fun a => (p.2 ++ [a], p.1, a)
noncomputable def dl (T : Tab) (s : List Place) (c : Nat) : List (List Place) := [nx T s c]
/-- what stands in the heap while a round goes on -/
structure Good (T : Tab) (k : Nat) (n : Nat) (x : List (List Place) × List (List Place × List Nat)) : Prop where
  nd : x.1.Nodup
  pk : ∀ s ∈ x.1, Pk T s
  acc : ∀ p ∈ x.2, Pk T p.1 ∧ p.2.length = k + 1
  len : x.1.length = n + x.2.length
theorem Good.cand {T : Tab} (ok : T.Ok) {k n : Nat} {x : List (List Place) × List (List Place × List Nat)} (G : Good T k n x) {s : List Place} (hs : Pk T s) {w : List Nat} (hw : w.length = k) {a : Nat} : Good T k n (cand (dl T) x (w ++ [a], s, a)) := by
  unfold Bf.cand dl
  simp only [List.foldl_cons, List.foldl_nil, put1]
  split
  · exact G
  · rename_i hn
    refine ⟨?_, fun s' h => ?_, fun p h => ?_, by simp [G.len]; omega⟩
    · rw [List.nodup_append]; exact ⟨G.nd, by simp, by intro a ha b hb; simp at hb; subst hb; intro z; subst z; exact hn ha⟩
    · rcases List.mem_append.mp h with h | h
      · exact G.pk _ h
      · simp at h; rw [h]; exact pk_nx ok hs
    · rcases List.mem_append.mp h with h | h
      · exact G.acc _ h
      · simp at h; rw [h]; exact ⟨pk_nx ok hs, by simp [hw]⟩
/-- words of a round with one successor each -/
theorem cand_words {T : Tab} : ∀ (cs : List (List Nat × List Place × Nat)) (x : List (List Place) × List (List Place × List Nat)), ((cs.foldl (cand (dl T)) x).2.map (·.2)).Sublist (x.2.map (·.2) ++ cs.map (·.1))
  | [], x => by simp
  | c :: cs, x => by
    rw [List.foldl_cons]
    refine (cand_words cs _).trans ?_
    unfold Bf.cand dl
    simp only [List.foldl_cons, List.foldl_nil, put1]
    split
    · exact (List.Sublist.refl _).append (List.Sublist.cons _ (List.Sublist.refl _))
    · simp
theorem rch_fold {T : Tab} {A : List Nat} : ∀ {w : List Nat} {s : List Place}, Rch (fun s => s = spr T [(0, [])]) A (dl T) w s ↔ s = pset T w ∧ ∀ c ∈ w, c ∈ A := by
  intro w s
  constructor
  · intro h
    induction h with
    | nil hs => exact ⟨hs, by simp⟩
    | @snoc u s s' a h1 h2 h3 ih =>
      refine ⟨?_, fun c hc => ?_⟩
      · simp [dl] at h3; rw [h3, ih.1]; simp [pset]
      · rcases List.mem_append.mp hc with z | z
        · exact ih.2 c z
        · simp at z; rw [z]; exact h2
  · rintro ⟨rfl, h⟩
    have key : ∀ (v : List Nat) (w : List Nat), w = v.reverse → (∀ c ∈ w, c ∈ A) → Rch (fun s => s = spr T [(0, [])]) A (dl T) w (pset T w) := by
      intro v
      induction v with
      | nil => rintro w rfl _; exact .nil rfl
      | cons a v ih =>
        rintro w rfl hw
        rw [List.reverse_cons]
        refine .snoc (ih v.reverse rfl fun c hc => hw c (by simp at hc ⊢; exact .inl hc)) (hw a (by simp)) ?_
        simp [dl, pset]
    exact key w.reverse w (by simp) h
theorem pk_pset {T : Tab} (ok : T.Ok) {t : List Nat} : Pk T (pset T t) := by
  have : ∀ (t : List Nat) {s : List Place}, Pk T s → Pk T (t.foldl (nx T) s) := by
    intro t
    induction t with
    | nil => exact fun h => h
    | cons c t ih => exact fun h => ih (pk_nx ok h)
  exact this t (pk_start ok)
def badP (s : List Place) : Prop := ¬ ∃ p ∈ s, p.2 = []
/-- a level with different words -/
structure LvD (T : Tab) (A : List Nat) (k : Nat) (seen : List (List Place)) (lev : List (List Place × List Nat)) : Prop where
  lv : Lv (fun a b : Nat => a < b) (fun s => s = spr T [(0, [])]) A (dl T) badP k seen lev
  str : (lev.map (·.2)).Pairwise (wlt fun a b : Nat => a < b)
theorem LvD.next {T : Tab} {A : List Nat} (hA : A.Pairwise (· < ·)) {k : Nat} {seen : List (List Place)} {lev : List (List Place × List Nat)} (L : LvD T A k seen lev) (hg : ∀ p ∈ lev, ¬ badP p.1) :
    LvD T A (k + 1) ((lev.flatMap (cands A)).foldl (cand (dl T)) (seen, [])).1 ((lev.flatMap (cands A)).foldl (cand (dl T)) (seen, [])).2 := by
  have st : ((lev.flatMap (cands A)).map (·.1)).Pairwise (wlt fun a b : Nat => a < b) := by
    have h1 := L.str
    have h2 : ∀ p ∈ lev, p.2.length = k := fun p hp => (L.lv.lvl p hp).1
    clear L hg
    induction lev with
    | nil => simp
    | cons p lev ih =>
      rw [List.map_cons, List.pairwise_cons] at h1
      rw [List.flatMap_cons, List.map_append, List.pairwise_append]
      refine ⟨?_, ih h1.2 fun q hq => h2 q (by simp [hq]), ?_⟩
      · unfold cands; rw [List.map_map, List.pairwise_map]
        exact hA.imp fun {a b} h => wlt_pre _ (show wlt _ [a] [b] from Or.inl h)
      · intro u hu v hv
        unfold cands at hu
        rw [List.map_map] at hu
        obtain ⟨a, ha, rfl⟩ := List.mem_map.mp hu
        obtain ⟨c, hc, rfl⟩ := List.mem_map.mp hv
        obtain ⟨q, hq, hc⟩ := List.mem_flatMap.mp hc
        obtain ⟨b, hb, rfl⟩ := List.mem_map.mp hc
        exact wlt_app _ _ (h1.1 q.2 (List.mem_map.mpr ⟨q, hq, rfl⟩))
  refine ⟨L.lv.next ordNat hg ?_ fun c => ?_, ?_⟩
  · exact (List.pairwise_map.mp st).imp fun h => .inr h
  · simp only [List.mem_flatMap, cands, List.mem_map]
    constructor
    · rintro ⟨p, hp, a, ha, rfl⟩; exact ⟨p, hp, a, ha, rfl⟩
    · rintro ⟨p, hp, a, ha, rfl⟩; exact ⟨p, hp, a, ha, rfl⟩
  · have := cand_words (T := T) (lev.flatMap (cands A)) (seen, [])
    simp only [List.map_nil, List.nil_append] at this
    exact st.sublist this
/-- what unwritable says -/
def UnwSays (T : Tab) (L : List Nat) (h : Hh) (res : Rs D) : Prop :=
  (res = .ok .non h ∧ ∀ t, (∀ c ∈ t, c ∈ L) → Can T t) ∨ ∃ t, res = .ok (.str t) h ∧ (∀ c ∈ t, c ∈ L) ∧ ¬ Can T t ∧ ∀ t', (∀ c ∈ t', c ∈ L) → ¬ Can T t' → t.length < t'.length ∨ (t.length = t'.length ∧ wle (fun a b : Nat => a < b) t t')
theorem items_encS {s : List Place} {h : Hh} : itemsOf (encS s) h = some (s.map Place.d, none) := rfl
theorem lettered_S {T : Tab} (ok : T.Ok) {s : List Place} (hs : Pk T s) {c : Nat} {h : Hh} : m_lettered [T.d, encS s, .str [c]] h = .ok (encS (nx T s c)) h := by
  refine lettered_ok ok (by have := pk_len ok hs; omega) fun p hp => ?_
  have := hs.up p hp
  rcases List.mem_append.mp this with z | z
  · obtain ⟨m, _, rfl⟩ := List.mem_map.mp z; simp
  · obtain ⟨e, he, z⟩ := List.mem_flatMap.mp z
    have := (ok.ok e he).t3
    simp at z; rcases z with rfl | rfl <;> simp <;> omega
theorem cand_dl {T : Tab} {x : List (List Place) × List (List Place × List Nat)} {w : List Nat} {s : List Place} {a : Nat} : cand (dl T) x (w, s, a) = if nx T s a ∈ x.1 then x else (x.1 ++ [nx T s a], x.2 ++ [(nx T s a, w)]) := by
  unfold Bf.cand dl; simp only [List.foldl_cons, List.foldl_nil, put1]
  by_cases e : nx T s a ∈ x.1 <;> simp [e]
theorem add_beq (n a b : Nat) : (n + a == n + b) = (a == b) := by rw [Bool.eq_iff_iff]; simp
theorem sorted_str {L : List Nat} {h : Hh} (hl : L.length ≤ lim) : fSortedA [.str L] h = .ok (.ref h.length) (h ++ [.lst ((srt L).map fun c => D.str [c])]) := by
  unfold fSortedA; dsimp only; rw [if_pos hl, sorted_letters]
def encL (p : List Place × List Nat) : D := .tup [encS p.1, .str p.2]
theorem unw_ok {T : Tab} (ok : T.Ok) {L : List Nat} {h : Hh} (hL : L ≠ []) (nd : L.Nodup) (l5 : L.length ≤ 5) (hl : LettersOk L) : UnwSays T L h (m_unwritable [T.d, .str L] h) := by
  have b5 : (L.length : Int) ≤ 5 := by omega
  have ll : L.length ≤ lim := by unfold lim; omega
  have dd : (dedup (L.map fun c => D.str [c])).length = L.length := by rw [dedup_nodup (nodup_map (fun a b e => by simpa using e) nd)]; simp
  have so : setOk (L.map fun c => D.str [c]) = true := set_all_str (by simp [isS]) (by simp; omega)
  have hA := srt_lt nd
  have mA : ∀ c, c ∈ srt L ↔ c ∈ L := fun c => mem_isort
  have st := pk_start ok
  refine runP_q (Q := UnwSays T L h) ?_
  unfold b_unwritable
  simp_all! [need_table_ok ok, are_letters_ok ll, b5, show L.all isLetter = true from hl, hL, dd, so, len_str ll]
  have e0 : D.tup [D.int 0, D.str []] = Place.d (0, []) := rfl
  have e1 : m_spread [T.d, .ref h.length] (h ++ [.lst [Place.d (0, [])]]) = .ok (encS (spr T [(0, [])])) (h ++ [.lst [Place.d (0, [])]]) := spread_ok ok (ps := [(0, [])]) get_len0 (by simp)
  simp_all! [e0, e1, key_encS]
  clear e0 e1 dd so b5
  refine wp_while (fun n r hh => ∃ (k : Nat) (seen : List (List Place)) (lev : List (List Place × List Nat)) (i : Nat) (g0 : Ob) (M : Hh) (x5 x6 x7 x8 x9 x10 x11 : Option D), r = [some T.d, some (.str L), some (encS (spr T [(0, [])])), some (.ref (h.length + 1)), some (.ref (h.length + (i + 2))), x5, x6, x7, x8, x9, x10, x11] ∧
      hh = h ++ (g0 :: .dct (seen.map fun s => (encS s, .bl true)) :: M) ∧ M[i]? = some (.lst (lev.map encL)) ∧ LvD T (srt L) k seen lev ∧ (∀ s ∈ seen, Pk T s) ∧ (lev = [] ∨ k + 1 ≤ seen.length) ∧ n = 2 * (8388608 - seen.length) + (if lev = [] then 0 else 1))
    (fun r hh => ∀ t, (∀ c ∈ t, c ∈ L) → Can T t) (fun d hh => ∃ t, d = .str t ∧ (∀ c ∈ t, c ∈ L) ∧ ¬ Can T t ∧ ∀ t', (∀ c ∈ t', c ∈ L) → ¬ Can T t' → t.length < t'.length ∨ (t.length = t'.length ∧ wle (fun a b : Nat => a < b) t t'))
    (2 * (8388608 - 1) + 1) (by decide) ?_ ?_ ?_ ?_
  · refine ⟨0, [spr T [(0, [])]], [(spr T [(0, [])], [])], 0, _, _, _, _, _, _, _, _, _, rfl, rfl, rfl, ⟨⟨by simp, ?_, ?_, by simp, by simp, ?_⟩, by simp⟩, ?_, .inr (by simp), by simp⟩
    · intro s hs; simp at hs; exact ⟨[], .nil hs, by simp⟩
    · intro p hp; simp at hp; subst hp; exact ⟨rfl, .nil rfl⟩
    · intro u s hu hk
      have : u = [] := List.eq_nil_of_length_eq_zero hk
      subst this
      rw [rch_fold] at hu
      refine .inl ⟨[], ?_, .inl rfl⟩
      rw [hu.1]; simp [pset]
    · intro s hs; simp at hs; rw [hs]; exact st
  · rintro n r hh ⟨k, seen, lev, i, g0, M, x5, x6, x7, x8, x9, x10, x11, rfl, rfl, hM, lv, pk, hk, rfl⟩
    have il : i < M.length := (List.getElem?_eq_some_iff.mp hM).1
    have hi : ∀ X : Hh, (M ++ X)[i]? = some (.lst (lev.map encL)) := fun X => by rw [List.getElem?_append_left il]; exact hM
    have plv : D.plainNs 8 (lev.map encL) = true := plain_map (fun p => by simp [encL, encS, plain_tup, plain_cons, plain_str, plain_nil, plain_map (plain_place 5)]) lev
    have sl := seen_len ok lv.lv.nd pk
    simp_all! [hi, plv]
    split
    · rename_i hne
      have hne : lev ≠ [] := by simpa using hne
      have hk : k + 1 ≤ seen.length := hk.resolve_left hne
      simp_all! []
      refine wp_forE lev encL (fun pre r hh => ∃ (G : Hh) (x6 x7 x8 x9 x10 x11 : Option D), r = [some T.d, some (.str L), some (encS (spr T [(0, [])])), some (.ref (h.length + 1)), some (.ref (h.length + (i + 2))), some (.ref (h.length + (M.length + 3))), x6, x7, x8, x9, x10, x11] ∧
          hh = h ++ (g0 :: .dct (((pre.flatMap (cands (srt L))).foldl (cand (dl T)) (seen, [])).1.map fun s => (encS s, .bl true)) :: (M ++ (.lst [] :: .lst (((pre.flatMap (cands (srt L))).foldl (cand (dl T)) (seen, [])).2.map encL) :: G))) ∧ (∀ p ∈ pre, ¬ badP p.1) ∧ Good T k seen.length ((pre.flatMap (cands (srt L))).foldl (cand (dl T)) (seen, [])))
        (fun d hh => ∃ t, d = .str t ∧ (∀ c ∈ t, c ∈ L) ∧ ¬ Can T t ∧ ∀ t', (∀ c ∈ t', c ∈ L) → ¬ Can T t' → t.length < t'.length ∨ (t.length = t'.length ∧ wle (fun a b : Nat => a < b) t t')) ?_ ?_
      · simp_all! [hi]
        refine ⟨⟨[], _, _, _, _, _, _, rfl, rfl, by simp, ⟨lv.lv.nd, pk, by simp, by simp⟩⟩, ?_, ?_⟩
        · rintro pre ⟨s, w⟩ post r hh e ⟨G, x6, x7, x8, x9, x10, x11, rfl, rfl, hb, gd⟩
          have hs : (s, w) ∈ lev := by rw [e]; simp
          obtain ⟨wk, hr⟩ := lv.lv.lvl _ hs
          rw [rch_fold] at hr
          dsimp only at wk hr
          obtain ⟨hr, hwA⟩ := hr
          have ps : Pk T s := by rw [hr]; exact pk_pset ok
          generalize hx : (pre.flatMap (cands (srt L))).foldl (cand (dl T)) (seen, []) = x at gd
          simp_all! [encL, items_encS]
          have := pk_len ok ps
          refine ⟨by omega, lcL_map s Place.d (fun p => .bl (decide (p.2 = []))) (fun p hp => ?_) ?_⟩
          · simp_all! [Place.d]
          · simp_all! []
            split
            · rename_i hbad
              have hbad : badP s := by
                rintro ⟨p, hp, h0⟩
                simp at hbad
                exact hbad p.1 p.2 hp h0
              simp_all! []
              obtain ⟨f1, f2⟩ := lv.lv.found ordNat e hbad hb
              refine ⟨w, rfl, fun c hc => (mA c).mp (hwA c hc), ?_, fun t' ht' hc' => ?_⟩
              · rw [can_iff ok, ← hr]; exact hbad
              · rw [can_iff ok] at hc'
                exact f2 t' (pset T t') (rch_fold.mpr ⟨rfl, fun c hc => (mA c).mpr (ht' c hc)⟩) hc'
            · rename_i hgood
              have hgood : ¬ badP s := by
                have h1 : s.any (fun p => decide (p.2 = [])) = true := by cases hh : s.any (fun p => decide (p.2 = [])) with | true => rfl | false => rw [hh] at hgood; exact absurd rfl hgood
                obtain ⟨p, hp, h0⟩ := List.any_eq_true.mp h1
                exact fun z => z ⟨p, hp, by simpa using h0⟩
              refine wp_forE (srt L) (fun c => D.str [c]) (fun pa r hh => ∃ (G : Hh) (x8 x9 x10 x11 : Option D), r = [some T.d, some (.str L), some (encS (spr T [(0, [])])), some (.ref (h.length + 1)), some (.ref (h.length + (i + 2))), some (.ref (h.length + (M.length + 3))), some (encS s), some (.str w), x8, x9, x10, x11] ∧
                  hh = h ++ (g0 :: .dct ((((cands pa (s, w))).foldl (cand (dl T)) x).1.map fun s => (encS s, .bl true)) :: (M ++ (.lst [] :: .lst (((cands pa (s, w)).foldl (cand (dl T)) x).2.map encL) :: G))) ∧ Good T k seen.length ((cands pa (s, w)).foldl (cand (dl T)) x))
                (fun d hh => False) ?_ (fun _ _ z => z.elim)
              simp_all! [sorted_str ll]
              refine ⟨⟨_, _, _, _, _, rfl, rfl, gd⟩, ?_, ?_⟩
              · rintro pa a post r hh ea ⟨G, x8, x9, x10, x11, rfl, rfl, gd⟩
                have ec : cands (pa ++ [a]) (s, w) = cands pa (s, w) ++ [(w ++ [a], s, a)] := by simp [cands]
                rw [ec, List.foldl_append, List.foldl_cons, List.foldl_nil]
                generalize hy : (cands pa (s, w)).foldl (cand (dl T)) x = y at gd
                have yl := seen_len ok gd.nd gd.pk
                have yl2 := gd.len
                have gd' := gd.cand ok ps wk (a := a)
                rw [cand_dl] at gd'
                by_cases hm : nx T s a ∈ y.1
                · simp_all! [lettered_S ok ps, key_encS, dget_enc (fun _ _ => encS_inj), cand_dl, hm]
                  rw [if_pos hm] at gd'
                  exact ⟨_, _, _, _, _, rfl, rfl, gd'⟩
                · rw [if_neg hm] at gd'
                  have q1 : (1 == i + 2) = false := by simp
                  have q2 : ∀ n, (1 == M.length + (n + 5)) = false := fun n => by simp; omega
                  have q3 : (M.length + 3 == i + 2) = false := by simp; omega
                  have q4 : ∀ n, (M.length + 3 == M.length + (n + 5)) = false := fun n => by simp
                  simp_all! [lettered_S ok ps, key_encS, dget_enc (fun _ _ => encS_inj), cand_dl, hm, put_ref, add_beq, q1, q2, q3, q4, dput_enc (fun _ _ => encS_inj) hm, show y.1.length < lim by unfold lim; omega, show y.2.length < lim by unfold lim; omega, Nat.le_add_right, add_str (show w.length + [a].length ≤ lim by simp; unfold lim; omega)]
                  exact ⟨G, _, _, _, _, rfl, by simp [encL], gd'⟩
              · rintro r hh ⟨G, x8, x9, x10, x11, rfl, rfl, gd⟩
                simp_all! []
                refine ⟨_, _, _, _, _, _, _, rfl, by rw [List.flatMap_append, List.foldl_append, hx]; simp; rfl, ?_, by rw [List.flatMap_append, List.foldl_append, hx]; simpa using gd⟩
                intro p hp
                rcases List.mem_append.mp hp with z | z
                · exact hb p z
                · simp at z; rw [z]; exact hgood
        · rintro r hh ⟨G, x6, x7, x8, x9, x10, x11, rfl, rfl, hb, gd⟩
          simp_all! []
          have nxt := lv.next hA hb
          generalize hx : (lev.flatMap (cands (srt L))).foldl (cand (dl T)) (seen, []) = x at gd nxt
          have yl := seen_len ok gd.nd gd.pk
          have yl2 := gd.len
          refine ⟨_, ?_, k + 1, x.1, x.2, M.length + 1, g0, _, _, _, _, _, _, _, _, rfl, rfl, by simp [get_len], nxt, gd.pk, ?_, rfl⟩
          · rw [if_neg hne]; split
            · omega
            · have : 0 < x.2.length := by cases h : x.2 with | nil => contradiction | cons => simp
              omega
          · cases h : x.2 with
            | nil => exact .inl rfl
            | cons a b => right; rw [h] at yl2; simp at yl2; omega
      · intro d hh h1; simp_all! []; exact h1
    · rename_i hne
      have : lev = [] := by simpa using hne
      subst this
      intro t ht
      rw [can_iff ok]
      have := lv.lv.none (rch_fold.mpr ⟨rfl, fun c hc => (mA c).mpr (ht c hc)⟩ : Rch _ (srt L) _ t (pset T t))
      exact Classical.not_not.mp this
  · rintro d hh ⟨t, rfl, h1, h2, h3⟩
    simp_all! []
    exact .inr ⟨t, rfl, h1, h2, h3⟩
  · intro r hh h1
    simp_all! []
    exact .inl ⟨rfl, h1⟩
end Dcl
end
section
set_option linter.all false
set_option maxRecDepth 100000
set_option maxHeartbeats 1000000
/-! few sets of places are met -/
namespace Dcl
open Dc Bf
section
variable {T : Tab}
theorem pset_snoc {t : List Nat} {c : Nat} : pset T (t ++ [c]) = nx T (pset T t) c := by simp [pset]
theorem mem_nx_rest (ok : T.Ok) {s : List Place} {c m x : Nat} {r : List Nat} : (m, x :: r) ∈ nx T s c ↔ (∃ e ∈ T.es, e.n = m ∧ e.t = c :: x :: r ∧ (e.m, []) ∈ s) ∨ (m, c :: x :: r) ∈ s := by
  unfold nx
  rw [mem_spr ok]
  have h1 : Shs T (let1 T s c) (m, x :: r) ↔ (m, x :: r) ∈ let1 T s c := by
    constructor
    · intro h; generalize hp : (m, x :: r) = p at h; cases h with
      | of h => exact h
      | step _ q => cases q with | sh => cases hp
    · exact .of
  rw [h1]
  constructor
  · intro h
    obtain ⟨⟨m0, r0⟩, hp, hq⟩ := List.mem_flatMap.mp h
    cases r0 with
    | nil =>
      obtain ⟨e, he, e1⟩ := List.mem_map.mp hq
      obtain ⟨he, h2⟩ := List.mem_filter.mp he
      simp at h2 e1
      obtain ⟨h3, t', h4⟩ := h2
      refine .inl ⟨e, he, e1.1, ?_, by rw [h3]; exact hp⟩
      rw [← h4] at e1 ⊢
      simp at e1 ⊢; exact e1.2
    | cons y r0 =>
      by_cases hy : y = c
      · simp [step1, hy] at hq
        obtain ⟨rfl, rfl⟩ := hq
        subst hy; exact .inr hp
      · simp [step1, hy] at hq
  · rintro (⟨e, he, rfl, h3, h4⟩ | h)
    · refine List.mem_flatMap.mpr ⟨_, h4, List.mem_map.mpr ⟨e, List.mem_filter.mpr ⟨he, ?_⟩, by rw [h3]; rfl⟩⟩
      simp [h3, List.isPrefixOf]
    · exact List.mem_flatMap.mpr ⟨_, h, by simp [step1]⟩
theorem up_rest (ok : T.Ok) {m : Nat} {r : List Nat} (h : (m, r) ∈ UP T) : r.length ≤ 2 := by
  rcases List.mem_append.mp h with z | z
  · obtain ⟨m', _, e⟩ := List.mem_map.mp z; cases e; exact Nat.zero_le _
  · obtain ⟨e, he, z⟩ := List.mem_flatMap.mp z
    have := (ok.ok e he).t3
    simp at z; rcases z with ⟨_, z⟩ | ⟨_, z⟩ <;> rw [z] <;> rw [List.length_tail] <;> (try rw [List.length_tail]) <;> omega
def modesOf (T : Tab) (s : List Place) : List Bool := (List.range T.k).map fun m => decide ((m, ([] : List Nat)) ∈ s)
theorem modes_iff {s s' : List Place} (h : modesOf T s = modesOf T s') {m : Nat} (hm : m < T.k) : (m, ([] : List Nat)) ∈ s ↔ (m, ([] : List Nat)) ∈ s' := by
  have := List.map_inj_left.mp h m (List.mem_range.mpr hm)
  simpa using this
/-- the last two letters and three sets of modes tell the places -/
theorem pset_eq (ok : T.Ok) {t t' : List Nat} {b c : Nat} (h1 : modesOf T (pset T t) = modesOf T (pset T t')) (h2 : modesOf T (pset T (t ++ [b])) = modesOf T (pset T (t' ++ [b]))) (h3 : modesOf T (pset T (t ++ [b] ++ [c])) = modesOf T (pset T (t' ++ [b] ++ [c]))) :
    pset T (t ++ [b] ++ [c]) = pset T (t' ++ [b] ++ [c]) := by
  have p1 := pk_pset ok (t := t ++ [b] ++ [c])
  have p2 := pk_pset ok (t := t' ++ [b] ++ [c])
  rw [← p1.can, ← p2.can]
  refine canon_eq p1.nd p2.nd ?_
  have half : ∀ {t t' : List Nat}, modesOf T (pset T t) = modesOf T (pset T t') → modesOf T (pset T (t ++ [b])) = modesOf T (pset T (t' ++ [b])) → modesOf T (pset T (t ++ [b] ++ [c])) = modesOf T (pset T (t' ++ [b] ++ [c])) → ∀ p, p ∈ pset T (t ++ [b] ++ [c]) → p ∈ pset T (t' ++ [b] ++ [c]) := by
    intro t t' h1 h2 h3 ⟨m, r⟩ hp
    cases r with
    | nil =>
      have hm : m < T.k := by
        have := (pk_pset ok).up _ hp
        rcases List.mem_append.mp this with z | z
        · obtain ⟨m', hm', e⟩ := List.mem_map.mp z; simp at e; rw [← e]; exact List.mem_range.mp hm'
        · obtain ⟨e, he, z⟩ := List.mem_flatMap.mp z
          have := (ok.ok e he).n
          simp at z; rcases z with ⟨z, _⟩ | ⟨z, _⟩ <;> omega
      exact (modes_iff h3 hm).mp hp
    | cons x r =>
      rw [pset_snoc, mem_nx_rest ok] at hp ⊢
      rcases hp with ⟨e, he, q1, q2, q3⟩ | hp
      · exact .inl ⟨e, he, q1, q2, (modes_iff h2 (ok.ok e he).m).mp q3⟩
      · rw [pset_snoc, mem_nx_rest ok] at hp ⊢
        rcases hp with ⟨e, he, q1, q2, q3⟩ | hp
        · exact .inr (.inl ⟨e, he, q1, q2, (modes_iff h1 (ok.ok e he).m).mp q3⟩)
        · have := up_rest ok ((pk_pset ok).up _ hp)
          simp at this
  exact fun p => ⟨half h1 h2 h3 p, half h1.symm h2.symm h3.symm p⟩
abbrev Sg := List Nat ⊕ (List Bool × List Bool × List Bool × Nat × Nat)
def sgOf (T : Tab) (w : List Nat) : List Place → Sg := fun _ => .inl w
noncomputable def sg (T : Tab) (w : List Nat) : Sg := match w.reverse with
  | c :: b :: u => .inr (modesOf T (pset T u.reverse), modesOf T (pset T (u.reverse ++ [b])), modesOf T (pset T w), b, c)
  | _ => .inl w
theorem sg_inj (ok : T.Ok) {w w' : List Nat} (h : sg T w = sg T w') : pset T w = pset T w' := by
  unfold sg at h
  have e1 : w = w.reverse.reverse := by simp
  have e2 : w' = w'.reverse.reverse := by simp
  revert h e1 e2
  generalize w.reverse = v
  generalize w'.reverse = v'
  intro h e1 e2
  match v, v' with
  | c :: b :: u, c' :: b' :: u' =>
    simp at h
    obtain ⟨h1, h2, h3, rfl, rfl⟩ := h
    have f1 : w = u.reverse ++ [b] ++ [c] := by rw [e1]; simp
    have f2 : w' = u'.reverse ++ [b] ++ [c] := by rw [e2]; simp
    rw [f1, f2] at h3 ⊢
    exact pset_eq ok h1 h2 h3
  | c :: b :: u, [] => simp at h
  | c :: b :: u, [x] => simp at h
  | [], c :: b :: u => simp at h
  | [x], c :: b :: u => simp at h
  | [], [] => rw [e1, e2]
  | [], [x] => simp at h; rw [h]
  | [x], [] => simp at h; rw [h]
  | [x], [y] => simp at h; rw [h]
def sgs (T : Tab) (L : List Nat) : List Sg := ([] :: L.map fun c => [c]).map .inl ++ (bvs T.k).flatMap fun a => (bvs T.k).flatMap fun b => (bvs T.k).flatMap fun c => L.flatMap fun x => L.map fun y => .inr (a, b, c, x, y)
theorem flat_len {α β : Type} (f : α → List β) (n : Nat) : ∀ xs : List α, (∀ x ∈ xs, (f x).length = n) → (xs.flatMap f).length = xs.length * n
  | [], _ => by simp
  | x :: xs, h => by rw [List.flatMap_cons, List.length_append, h x (by simp), flat_len f n xs fun y hy => h y (by simp [hy])]; simp [Nat.succ_mul]; omega
theorem sgs_len (ok : T.Ok) {L : List Nat} (hL : L.length ≤ 5) : (sgs T L).length ≤ 13000 := by
  have k3 := ok.k3
  have e : (bvs T.k).length ≤ 8 := by rw [bvs_len]; exact Nat.le_trans (Nat.pow_le_pow_right (by decide) k3) (by decide)
  unfold sgs
  rw [List.length_append, flat_len _ ((bvs T.k).length * ((bvs T.k).length * (L.length * L.length)))]
  · have a1 : L.length * L.length ≤ 25 := Nat.mul_le_mul hL hL
    have a2 : (bvs T.k).length * (L.length * L.length) ≤ 8 * 25 := Nat.mul_le_mul e a1
    have a3 : (bvs T.k).length * ((bvs T.k).length * (L.length * L.length)) ≤ 8 * (8 * 25) := Nat.mul_le_mul e a2
    have a4 : (bvs T.k).length * ((bvs T.k).length * ((bvs T.k).length * (L.length * L.length))) ≤ 8 * (8 * (8 * 25)) := Nat.mul_le_mul e a3
    simp; omega
  · intro a _
    rw [flat_len _ ((bvs T.k).length * (L.length * L.length))]
    intro b _
    rw [flat_len _ (L.length * L.length)]
    intro c _
    rw [flat_len _ L.length]
    intro x _
    simp
theorem mem_sgs {L : List Nat} {w : List Nat} (hw : ∀ c ∈ w, c ∈ L) : sg T w ∈ sgs T L := by
  have e1 : w = w.reverse.reverse := by simp
  unfold sg sgs
  have hm : ∀ s, modesOf T s ∈ bvs T.k := fun s => by
    have := mem_bvs (modesOf T s)
    rwa [show (modesOf T s).length = T.k by simp [modesOf]] at this
  revert e1
  generalize w.reverse = v
  intro e1
  match v with
  | [] => simp at e1; subst e1; simp
  | [x] => simp at e1; subst e1; have := hw x (by simp); simp [this]
  | c :: b :: u =>
    have hc : c ∈ L := hw c (by rw [e1]; simp)
    have hb : b ∈ L := hw b (by rw [e1]; simp)
    refine List.mem_append_right _ ?_
    exact List.mem_flatMap.mpr ⟨_, hm _, List.mem_flatMap.mpr ⟨_, hm _, List.mem_flatMap.mpr ⟨_, hm _, List.mem_flatMap.mpr ⟨b, hb, List.mem_map.mpr ⟨c, hc, rfl⟩⟩⟩⟩⟩
theorem few_sets (ok : T.Ok) {L : List Nat} (hL : L.length ≤ 5) {seen : List (List Place)} (nd : seen.Nodup) (h : ∀ s ∈ seen, ∃ u, s = pset T u ∧ ∀ c ∈ u, c ∈ L) : seen.length ≤ 13000 := by
  have hch : ∀ s, ∃ u, s ∈ seen → s = pset T u ∧ ∀ c ∈ u, c ∈ L := fun s => by
    by_cases hs : s ∈ seen
    · obtain ⟨u, hu⟩ := h s hs; exact ⟨u, fun _ => hu⟩
    · exact ⟨[], fun z => absurd z hs⟩
  have n2 : (seen.map fun s => sg T (hch s).choose).Nodup := by
    refine nodup_map_on (fun a ha b hb e => ?_) nd
    have h1 := (hch a).choose_spec ha
    have h2 := (hch b).choose_spec hb
    rw [h1.1, h2.1]
    exact sg_inj ok e
  have := len_le_of_subset n2 (ys := sgs T L) fun v hv => by
    obtain ⟨s, hs, rfl⟩ := List.mem_map.mp hv
    exact mem_sgs ((hch s).choose_spec hs).2
  rw [List.length_map] at this
  exact Nat.le_trans this (sgs_len ok hL)
theorem unw_short (ok : T.Ok) {L : List Nat} (hL : L.length ≤ 5) {t : List Nat} (ht : ∀ c ∈ t, c ∈ L) (hn : ¬ Can T t) (hm : ∀ t', (∀ c ∈ t', c ∈ L) → ¬ Can T t' → t.length ≤ t'.length) : t.length < 13000 := by
  have key : ∀ i j, i < j → j ≤ t.length → pset T (t.take i) ≠ pset T (t.take j) := by
    intro i j hij hj e
    have e2 : pset T (t.take i ++ t.drop j) = pset T t := by
      conv => rhs; rw [← List.take_append_drop j t]
      simp only [pset, List.foldl_append] at e ⊢
      rw [e]
    have : ¬ Can T (t.take i ++ t.drop j) := by rw [can_iff ok] at hn ⊢; rw [e2]; exact hn
    have := hm _ (fun c hc => ?_) this
    · simp at this; omega
    · rcases List.mem_append.mp hc with z | z
      · exact ht c (List.mem_of_mem_take z)
      · exact ht c (List.mem_of_mem_drop z)
  have nd : ((List.range (t.length + 1)).map fun i => pset T (t.take i)).Nodup := by
    refine nodup_map_on (fun a ha b hb e => ?_) List.nodup_range
    have ha := List.mem_range.mp ha
    have hb := List.mem_range.mp hb
    rcases Nat.lt_trichotomy a b with z | z | z
    · exact absurd e (key a b z (by omega))
    · exact z
    · exact absurd e.symm (key b a z (by omega))
  have := few_sets ok hL nd fun s hs => by
    obtain ⟨i, _, rfl⟩ := List.mem_map.mp hs
    exact ⟨t.take i, rfl, fun c hc => ht c (List.mem_of_mem_take hc)⟩
  simp at this; omega
end
end Dcl
end
section
set_option linter.all false
set_option maxRecDepth 100000
set_option maxHeartbeats 1000000
/-! write -/
namespace Dcl
open Dc Bf
open L2 (atI ixN)
abbrev Wr := List (List Nat)
def cellLt (a b : List Nat) : Prop := ltNs a b = true
theorem ltNs_irr : ∀ a, ltNs a a = false
  | [] => rfl
  | a :: as => by simp [ltNs, ltNs_irr as]
theorem ltNs_tr : ∀ {a b c}, ltNs a b = true → ltNs b c = true → ltNs a c = true
  | [], [], _, h, _ => by simp [ltNs] at h
  | [], b :: bs, [], _, h => by simp [ltNs] at h
  | [], b :: bs, c :: cs, _, _ => rfl
  | a :: as, [], _, h, _ => by simp [ltNs] at h
  | a :: as, b :: bs, [], _, h => by simp [ltNs] at h
  | a :: as, b :: bs, c :: cs, h1, h2 => by
    simp only [ltNs] at h1 h2 ⊢
    by_cases x : a < b
    · by_cases y : b < c
      · simp [show a < c by omega]
      · by_cases z : c < b
        · simp [y, z] at h2
        · have : b = c := by omega
          subst this; simp [x]
    · by_cases x2 : b < a
      · simp [x, x2] at h1
      · have : a = b := by omega
        subst this
        simp at h1
        by_cases y : a < c
        · simp [y]
        · by_cases z : c < a
          · simp [y, z] at h2
          · have : a = c := by omega
            subst this
            simp at h2 ⊢
            exact ltNs_tr h1 h2
theorem ltNs_tri : ∀ a b, ltNs a b = true ∨ a = b ∨ ltNs b a = true
  | [], [] => .inr (.inl rfl)
  | [], b :: bs => .inl rfl
  | a :: as, [] => .inr (.inr rfl)
  | a :: as, b :: bs => by
    simp only [ltNs]
    by_cases x : a < b
    · exact .inl (by simp [x])
    · by_cases y : b < a
      · exact .inr (.inr (by simp [y]))
      · have : a = b := by omega
        subst this
        rcases ltNs_tri as bs with h | rfl | h
        · exact .inl (by simp [h])
        · exact .inr (.inl rfl)
        · exact .inr (.inr (by simp [h]))
theorem ordCell : Ord cellLt := ⟨fun a h => (by unfold cellLt at h; rw [ltNs_irr] at h; exact Bool.noConfusion h), fun h1 h2 => ltNs_tr h1 h2, fun a b => ltNs_tri a b⟩
/-- shorter, or first at the same length -/
def vlt (a b : Wr) : Prop := a.length < b.length ∨ (a.length = b.length ∧ wlt cellLt a b)
def vle (a b : Wr) : Prop := a = b ∨ vlt a b
theorem vlt_irr (a : Wr) : ¬ vlt a a := by rintro (h | ⟨_, h⟩); omega; exact wlt_irr ordCell a h
theorem vlt_tr {a b c : Wr} (h1 : vlt a b) (h2 : vlt b c) : vlt a c := by
  rcases h1 with h1 | ⟨e1, h1⟩ <;> rcases h2 with h2 | ⟨e2, h2⟩
  · exact .inl (by omega)
  · exact .inl (by omega)
  · exact .inl (by omega)
  · exact .inr ⟨by omega, wlt_tr ordCell h1 h2⟩
theorem vlt_tri (a b : Wr) : vlt a b ∨ a = b ∨ vlt b a := by
  rcases Nat.lt_trichotomy a.length b.length with h | h | h
  · exact .inl (.inl h)
  · rcases wlt_tri ordCell h with z | z | z
    · exact .inl (.inr ⟨h, z⟩)
    · exact .inr (.inl z)
    · exact .inr (.inr (.inr ⟨h.symm, z⟩))
  · exact .inr (.inr (.inl h))
theorem vle_refl (a : Wr) : vle a a := .inl rfl
theorem vle_tr {a b c : Wr} (h1 : vle a b) (h2 : vle b c) : vle a c := by
  rcases h1 with rfl | h1
  · exact h2
  · rcases h2 with rfl | h2
    · exact .inr h1
    · exact .inr (vlt_tr h1 h2)
theorem vle_of_not {a b : Wr} (h : ¬ vlt a b) : vle b a := by
  rcases vlt_tri a b with z | z | z
  · exact absurd z h
  · exact .inl z.symm
  · exact .inr z
theorem vle_not {a b : Wr} (h : vle a b) : ¬ vlt b a := by
  intro z; rcases h with rfl | h
  · exact vlt_irr _ z
  · exact vlt_irr _ (vlt_tr h z)
theorem vle_len {a b : Wr} (h : vle a b) : a.length ≤ b.length := by
  rcases h with rfl | h | h <;> omega
theorem vle_anti {a b : Wr} (h1 : vle a b) (h2 : vle b a) : a = b := by
  rcases h1 with h | h
  · exact h
  · exact absurd h (vle_not h2)
theorem vle_app {a b : Wr} (c : Wr) (h : vle a b) : vle (a ++ c) (b ++ c) := by
  rcases h with rfl | h | ⟨e, h⟩
  · exact .inl rfl
  · exact .inr (.inl (by simp; omega))
  · exact .inr (.inr ⟨by simp [e], wlt_app _ _ h⟩)
theorem ltDs_str : ∀ {a b : Wr}, a.length = b.length → (ltDs (a.map D.str) (b.map D.str) = true ↔ wlt cellLt a b)
  | [], [], _ => by simp [ltDs, wlt]
  | [], _ :: _, e => by simp at e
  | _ :: _, [], e => by simp at e
  | x :: a, y :: b, e => by
    simp only [List.map_cons, ltDs, wlt]
    by_cases z : x = y
    · subst z; simp only [D.beq_self, if_true]; rw [ltDs_str (by simpa using e)]
      constructor
      · exact fun h => .inr ⟨trivial, h⟩
      · rintro (h | ⟨_, h⟩)
        · exact absurd h (ordCell.irr x)
        · exact h
    · have : D.beq (D.str x) (D.str y) = false := by rw [beq_eq]; simpa using z
      rw [this]
      simp only [Bool.false_eq_true, if_false, ltD]
      constructor
      · exact fun h => .inl h
      · rintro (h | ⟨h, _⟩)
        · exact h
        · exact absurd h z
def encV (w : Wr) : D := .tup [.int w.length, .tup (w.map D.str)]
theorem encV_inj {a b : Wr} (e : encV a = encV b) : a = b := by simp [encV] at e; exact map_str_inj e.2
theorem encV_cls (w : Wr) : cls (encV w) = 4 := by
  have : (w.map D.str).all isS = true := by simp [isS]
  simp [encV, cls, isI, isS, is3, is4, this]
noncomputable instance (a b : Wr) : Decidable (vlt a b) := Classical.propDecidable _
theorem lt_encV {a b : Wr} : ltD (encV a) (encV b) = decide (vlt a b) := by
  rw [Bool.eq_iff_iff, decide_eq_true_iff]
  simp only [encV, ltD, ltDs]
  by_cases e : a.length = b.length
  · have : D.beq (.int (a.length : Int)) (.int (b.length : Int)) = true := by rw [e, D.beq_self]
    rw [this]
    simp only [if_true]
    by_cases e2 : a = b
    · subst e2; simp only [D.beq_self, if_true]; simp [vlt_irr]
    · have : D.beq (.tup (a.map D.str)) (.tup (b.map D.str)) = false := by rw [beq_eq]; simp; exact fun z => e2 (map_str_inj z)
      rw [this]
      simp only [Bool.false_eq_true, if_false]
      rw [ltDs_str e]
      constructor
      · exact fun h => .inr ⟨e, h⟩
      · rintro (h | ⟨_, h⟩)
        · omega
        · exact h
  · have : D.beq (.int (a.length : Int)) (.int (b.length : Int)) = false := by rw [beq_eq]; simp; omega
    rw [this]
    simp only [Bool.false_eq_true, if_false, ltD]
    constructor
    · exact fun h => .inl (by simp at h; omega)
    · rintro (h | ⟨h, _⟩)
      · simp; omega
      · omega
/-! ### runs to a place in the text -/
def Reads (T : Tab) (w : Wr) (t : List Nat) : Prop := ∃ es m, Run T 0 es m ∧ txt es = t ∧ wri es = w
inductive To (T : Tab) (t : List Nat) : Nat → Nat × Nat → Wr → Prop
  | zero : To T t 0 (0, 0) []
  | step {i p m : Nat} {w : Wr} {e : Ent} : To T t i (p, m) w → e ∈ T.es → e.m = m → e.t.isPrefixOf (t.drop p) = true → To T t (i + 1) (p + e.t.length, e.n) (w ++ e.cs)
section
variable {T : Tab} {t : List Nat}
theorem Run.snoc {m m' : Nat} {es : List Ent} {e : Ent} (h : Run T m es m') (he : e ∈ T.es) (hm : e.m = m') : Run T m (es ++ [e]) e.n := by
  induction h with
  | nil => exact .cons he hm .nil
  | cons h1 h0 h2 ih => exact .cons h1 h0 (ih hm)
theorem Run.unsnoc : ∀ {es : List Ent} {m m' : Nat} {e : Ent}, Run T m (es ++ [e]) m' → Run T m es e.m ∧ e ∈ T.es ∧ m' = e.n
  | [], _, _, _, .cons he hm .nil => ⟨hm ▸ .nil, he, rfl⟩
  | _ :: es, _, _, _, .cons he hm h => let ⟨a, b, c⟩ := Run.unsnoc (es := es) h; ⟨.cons he hm a, b, c⟩
theorem txt_app {a b : List Ent} : txt (a ++ b) = txt a ++ txt b := by simp [txt]
theorem wri_app {a b : List Ent} : wri (a ++ b) = wri a ++ wri b := by simp [wri]
theorem To.run {i : Nat} {k : Nat × Nat} {w : Wr} (h : To T t i k w) : k.1 ≤ t.length ∧ ∃ es, Run T 0 es k.2 ∧ txt es = t.take k.1 ∧ wri es = w ∧ es.length = i := by
  induction h with
  | zero => exact ⟨Nat.zero_le _, [], .nil, rfl, rfl, rfl⟩
  | @step i p m w e _ he hm hp ih =>
    obtain ⟨h1, es, h2, h3, h4, h5⟩ := ih
    rw [List.isPrefixOf_iff_prefix] at hp
    obtain ⟨r, hr⟩ := hp
    have hl : p + e.t.length ≤ t.length := by have := congrArg List.length hr; simp at this; omega
    refine ⟨hl, es ++ [e], h2.snoc he hm, ?_, by rw [wri_app, h4]; simp [wri], by simp [h5]⟩
    rw [txt_app, h3]
    show t.take p ++ txt [e] = t.take (p + e.t.length)
    rw [List.take_add, ← hr]
    simp [txt]
theorem To.of {es : List Ent} {m : Nat} (h : Run T 0 es m) {r : List Nat} (hr : t = txt es ++ r) : To T t es.length ((txt es).length, m) (wri es) := by
  have key : ∀ (n : Nat) (es : List Ent) (m : Nat), es.length = n → Run T 0 es m → ∀ {r : List Nat}, t = txt es ++ r → To T t es.length ((txt es).length, m) (wri es) := by
    intro n
    induction n with
    | zero =>
      intro es m hn h r ht
      have : es = [] := List.eq_nil_of_length_eq_zero hn
      subst this; cases h; exact .zero
    | succ n ih =>
      intro es m hn h r ht
      obtain ⟨es', e, rfl⟩ : ∃ es' e, es = es' ++ [e] := by
        rcases List.eq_nil_or_concat es with z | ⟨a, b, z⟩
        · subst z; simp at hn
        · exact ⟨a, b, by rw [z]; simp⟩
      obtain ⟨h1, h2, rfl⟩ := h.unsnoc
      have := ih es' e.m (by simpa using hn) h1 (r := e.t ++ r) (by rw [ht, txt_app]; simp [txt])
      have st := To.step this h2 rfl (by rw [ht, txt_app, List.isPrefixOf_iff_prefix]; simp [txt])
      rw [txt_app, wri_app]
      simpa [txt, wri] using st
  exact key _ es m rfl h hr
theorem reads_iff {w : Wr} : Reads T w t ↔ ∃ i m, To T t i (t.length, m) w := by
  constructor
  · rintro ⟨es, m, h1, h2, h3⟩
    have := To.of (t := t) h1 (r := []) (by simp [h2])
    rw [h2, h3] at this
    exact ⟨_, m, this⟩
  · rintro ⟨i, m, h⟩
    obtain ⟨_, es, h1, h2, h3, _⟩ := h.run
    exact ⟨es, m, h1, by simpa using h2, h3⟩
theorem To.long (ok : T.Ok) {i : Nat} {k : Nat × Nat} {w : Wr} (h : To T t i k w) : i ≤ w.length := by
  induction h with
  | zero => exact Nat.le_refl _
  | @step i p m w e _ he _ _ ih =>
    have := (ok.ok e he).c0
    have : 0 < e.cs.length := by cases h : e.cs with | nil => contradiction | cons => simp
    simp; omega
theorem To.mode (ok : T.Ok) {i : Nat} {k : Nat × Nat} {w : Wr} (h : To T t i k w) : k.2 < T.k := by
  cases h with
  | zero => exact ok.k1
  | step _ he _ _ => exact (ok.ok _ he).n
end
end Dcl
end
section
local macro_rules | `(tactic| simp! [$ts,*]) => `(tactic| simp (config := {failIfUnchanged := false}) only [Dc.wr_ok, Dc.wr_bind, Dc.wr_if, Dc.asB_bl, Dc.asI_int, Dc.wo_some, Dc.sk_nx, Dc.sk_rt, Dc.sk_ct, Dc.sk_bk, Dc.go_nx, Dc.go_ct, Dc.go_rt, Dc.we_var_s, Dc.we_var_0, Dc.we_c, Dc.we_nil, Dc.we_yes, Dc.we_cons, Dc.we_bin, Dc.we_tup, Dc.we_lst, Dc.we_blt, Dc.we_call, Dc.we_callT, Dc.town_s, Dc.we_test, Dc.we_and, Dc.we_or, Dc.we_not, Dc.we_andV, Dc.we_orV, Dc.we_notV, Dc.we_ifx, Dc.we_chain, Dc.we_isi, Dc.we_meth, Dc.we_sl, Dc.we_nopart, Dc.we_part, Dc.we_iter, Dc.we_range, Dc.we_enum, Dc.we_dict1, Dc.we_dict0, Dc.we_lenset, Dc.we_sortedset, Dc.we_sortkey, Dc.we_lc, Dc.we_lc2, Dc.we_dc, Dc.wp_next, Dc.wp_break, Dc.wp_cont, Dc.wp_retN, Dc.finP_rt, Dc.finP_nx, Dc.may_P, Dc.may_T, Dc.lock_none, Dc.lock_some, Dc.put_one, Dc.put_many, Dc.putAll_nil, Dc.putAll_cons, Dc.set_s, Dc.set_0, Dc.wipe_nil, Dc.wipe_cons, Dc.le_int, Dc.ge_int, Dc.gt_int, Dc.lt_int, Dc.add_int, Dc.sub_int, Dc.eq_str, Dc.ne_str, Dc.eq_int, Dc.ne_int, Dc.len_tup, Dc.len_fro, Dc.ix_tup, Dc.ix_0, Dc.ix_1, Dc.ix_2, Dc.ix_3, Int.cast_ofNat_Int, Int.reduceEq, Int.reduceLE, Int.reduceLT, Int.reduceAdd, Int.reduceSub, Int.reduceNeg, decide_true, decide_false,  Dc.get_len, Dc.get_len0, Dc.get_cons2, Dc.get_cons3, Dc.set_cons2, Dc.set_cons3, Dc.get_map0, Dc.get_mapk, Dc.set_len, Dc.set_len0, List.append_assoc, List.length_append, List.cons_append, List.nil_append, List.length_cons, List.length_nil, if_true, if_false, Bool.false_eq_true, true_and, and_true, false_and, and_false, Bool.not_false, Bool.not_true, Bool.true_and, Bool.false_and, Bool.and_true, Bool.and_false, Nat.reduceAdd, Nat.reduceSub, List.reduceReplicate, List.map_cons, List.map_nil, Dc.startE, Dc.isiD, Dc.it_tup, Dc.it_fro, Dc.it_str, Dc.it_ref, Dc.kit_ii, Dc.kit_ib, Dc.kit_ss, Dc.kit_tt, Dc.pack_bl, Dc.pack_int, Dc.pack_str, Dc.pack_non, Dc.items_tup, Dc.items_str, Nat.add_assoc, Dc.join_ref, Dc.len_ref, Dc.tup_ref, Dc.all_ref, Dc.any_ref, Dc.all_of, Dc.any_of, Dc.app_ref, Dc.ext_ref, Dc.ext_tup, Dc.pop_ref, Dc.ix_ref, Dc.ixL_int, Dc.ty_list, Dc.ty_dict, Dc.ty_str, Dc.in_ref, Dc.notin_eq, Dc.in_tup, Dc.add_ref, Dc.isnot_n, Dc.is_n, Dc.nx_nx, Dc.fw_nil, Dc.fw_cons, Dc.wo_if, Dc.ix_str, Dc.sl_str, Dc.sl_tup, Dc.starts_s, Dc.cut_1, Dc.cut_map, Dc.sorted_ref, Dc.list_ref, Dc.ne_ref, Dc.map_nil_iff, Dc.plain_nil, Nat.add_sub_cancel, List.dropLast_concat, List.length_map, List.map_append, List.getElem?_cons_zero, List.getElem?_cons_succ, Bool.or_true, Bool.true_or, Bool.or_false, Bool.false_or, Nat.zero_le, Nat.le_refl, Dc.le_len_add, $ts,*])
local macro_rules | `(tactic| simp_all! [$ts,*]) => `(tactic| (simp! [$ts,*]; repeat ((first | with_reducible refine Dc.wp_sq ?_ | with_reducible refine Dc.wp_if ?_ | with_reducible refine Dc.wp_ret ?_ | with_reducible refine Dc.wp_asg ?_ | with_reducible refine Dc.wp_expr ?_ | with_reducible refine Dc.wp_par ?_ | with_reducible refine Dc.wp_par3 ?_ | with_reducible refine Dc.wp_put ?_ | with_reducible refine Dc.wp_aug ?_); simp! [$ts,*])))
local macro_rules | `(tactic| dsimp! [$ts,*]) => `(tactic| simp_all! [Dcl.tw_len, Dcl.get_tw, Dcl.get_tw0, Dcl.set_tw, Dcl.set_tw0, Dcl.range_len, Int.toNat_natCast, $ts,*])
set_option linter.all false
set_option maxRecDepth 100000
set_option maxHeartbeats 1000000
/-! write says the first of the shortest -/
namespace Dcl
open Dc Bf
open L2 (atI ixN)
abbrev Best := List ((Nat × Nat) × Wr)
def encK (k : Nat × Nat) : D := .tup [.int k.1, .int k.2]
theorem encK_inj {a b : Nat × Nat} (e : encK a = encK b) : a = b := by obtain ⟨a1, a2⟩ := a; obtain ⟨b1, b2⟩ := b; simp [encK] at e; ext <;> simp <;> omega
theorem key_encK (k : Nat × Nat) : isKey (encK k) = true := by simp [isKey, encK, plain_cons, plain_int, plain_nil]
def encB (b : Best) : List (D × D) := b.map fun p => (encK p.1, encV p.2)
section
variable {T : Tab} {t : List Nat}
structure BI (T : Tab) (t : List Nat) (b : Best) : Prop where
  nd : (b.map (·.1)).Nodup
  snd : ∀ k w, look b k = some w → ∃ i, To T t i k w
  l3 : ∀ k w, look b k = some w → w.length ≤ 3 * b.length
def Bd (T : Tab) (t : List Nat) (i : Nat) (b : Best) : Prop := ∀ j k w, j ≤ i → To T t j k w → ∃ w', look b k = some w' ∧ vle w' w
def Fits (T : Tab) (t : List Nat) (k : Nat × Nat) (e : Ent) : Prop := e ∈ T.es ∧ e.m = k.2 ∧ e.t.isPrefixOf (t.drop k.1) = true
def ClosedB (T : Tab) (t : List Nat) (b0 b : Best) : Prop := ∀ k w e, look b0 k = some w → Fits T t k e → ∃ w', look b (k.1 + e.t.length, e.n) = some w' ∧ vle w' (w ++ e.cs)
def Mono (b0 b : Best) : Prop := ∀ k w, look b0 k = some w → ∃ w', look b k = some w' ∧ vle w' w
theorem BI.len (ok : T.Ok) {b : Best} (h : BI T t b) (ht : t.length ≤ 20) : b.length ≤ 63 := by
  have h1 : (b.map (·.1)).length ≤ ((List.range (t.length + 1)).flatMap fun p => (List.range T.k).map fun m => (p, m)).length := by
    refine len_le_of_subset h.nd fun k hk => ?_
    obtain ⟨⟨k', w⟩, hm, rfl⟩ := List.mem_map.mp hk
    obtain ⟨i, z⟩ := h.snd _ _ (mem_look h.nd hm)
    refine List.mem_flatMap.mpr ⟨k'.1, List.mem_range.mpr ?_, List.mem_map.mpr ⟨k'.2, List.mem_range.mpr (z.mode ok), rfl⟩⟩
    have := z.run.1
    show k'.1 < t.length + 1
    omega
  have h2 : ∀ n, ((List.range n).flatMap fun p => (List.range T.k).map fun m => (p, m)).length = n * T.k := by
    intro n; induction n with
    | zero => simp
    | succ n ih => rw [List.range_succ, List.flatMap_append, List.length_append, ih]; simp; rw [Nat.succ_mul]
  rw [h2, List.length_map] at h1
  have := ok.k3
  calc b.length ≤ (t.length + 1) * T.k := h1
    _ ≤ 21 * 3 := Nat.mul_le_mul (by omega) this
    _ = 63 := rfl
/-- within a round -/
structure RI (T : Tab) (t : List Nat) (b0 : Best) (i : Nat) (done : Nat × Nat → Ent → Prop) (b : Best) (ch : Bool) : Prop where
  bi : BI T t b
  mo : Mono b0 b
  same : ch = false → b = b0
  long : ch = true → i + 1 ≤ 3 * b.length
  dn : ∀ k w e, look b0 k = some w → Fits T t k e → done k e → ∃ w', look b (k.1 + e.t.length, e.n) = some w' ∧ vle w' (w ++ e.cs)
theorem RI.skip {b0 b : Best} {i : Nat} {done done' : Nat × Nat → Ent → Prop} {ch : Bool} (R : RI T t b0 i done b ch) (hd : ∀ k e, done' k e → Fits T t k e → done k e) : RI T t b0 i done' b ch :=
  ⟨R.bi, R.mo, R.same, R.long, fun k w e h1 h2 h3 => R.dn k w e h1 h2 (hd k e h3 h2)⟩
theorem RI.keep {b0 b : Best} {i : Nat} {done done' : Nat × Nat → Ent → Prop} {ch : Bool} {k : Nat × Nat} {e : Ent} {w1 w2 : Wr} (R : RI T t b0 i done b ch) (h1 : look b k = some w1) (h2 : look b (k.1 + e.t.length, e.n) = some w2) (h3 : ¬ vlt (w1 ++ e.cs) w2) (hd : ∀ k' e', done' k' e' → done k' e' ∨ (k' = k ∧ e' = e)) : RI T t b0 i done' b ch := by
  refine ⟨R.bi, R.mo, R.same, R.long, fun k' w e' a1 a2 a3 => ?_⟩
  rcases hd k' e' a3 with z | ⟨rfl, rfl⟩
  · exact R.dn k' w e' a1 a2 z
  · obtain ⟨w', q1, q2⟩ := R.mo k' w a1
    rw [h1] at q1; cases q1
    exact ⟨w2, h2, vle_tr (vle_of_not h3) (vle_app _ q2)⟩
theorem RI.put (ok : T.Ok) {b0 b : Best} {i : Nat} {done done' : Nat × Nat → Ent → Prop} {ch : Bool} {k : Nat × Nat} {e : Ent} {w1 : Wr} (R : RI T t b0 i done b ch) (hB : Bd T t i b0) (h1 : look b k = some w1) (hf : Fits T t k e) (h3 : ∀ w2, look b (k.1 + e.t.length, e.n) = some w2 → vlt (w1 ++ e.cs) w2) (hd : ∀ k' e', done' k' e' → done k' e' ∨ (k' = k ∧ e' = e)) :
    RI T t b0 i done' (aput b (k.1 + e.t.length, e.n) (w1 ++ e.cs)) true := by
  obtain ⟨he, hm, hp⟩ := hf
  obtain ⟨j, hj⟩ := R.bi.snd k w1 h1
  have hto : To T t (j + 1) (k.1 + e.t.length, e.n) (w1 ++ e.cs) := .step (m := k.2) hj he hm hp
  have c3 := (ok.ok e he).c3
  have mono : ∀ k' w', look b k' = some w' → ∃ w'', look (aput b (k.1 + e.t.length, e.n) (w1 ++ e.cs)) k' = some w'' ∧ vle w'' w' := fun k' w' hk => by
    rw [look_aput]
    by_cases z : (k.1 + e.t.length, e.n) = k'
    · rw [if_pos z]; exact ⟨_, rfl, .inr (h3 w' (by rw [z]; exact hk))⟩
    · rw [if_neg z]; exact ⟨w', hk, vle_refl _⟩
  have hlen : (w1 ++ e.cs).length ≤ 3 * (aput b (k.1 + e.t.length, e.n) (w1 ++ e.cs)).length := by
    rw [aput_len]; split
    · rename_i z
      cases hq : look b (k.1 + e.t.length, e.n) with
      | none => rw [look_none] at hq; exact absurd z hq
      | some w2 => have := vle_len (.inr (h3 w2 hq)); have := R.bi.l3 _ _ hq; omega
    · have := R.bi.l3 _ _ h1; simp; omega
  refine ⟨⟨aput_nodup R.bi.nd, fun k' w' hk => ?_, fun k' w' hk => ?_⟩, fun k' w' hk => ?_, by simp, fun _ => ?_, fun k' w e' a1 a2 a3 => ?_⟩
  · rw [look_aput] at hk; split at hk
    · rename_i z; cases hk; rw [← z]; exact ⟨_, hto⟩
    · exact R.bi.snd _ _ hk
  · rw [look_aput] at hk; split at hk
    · rename_i z; cases hk; exact hlen
    · have := R.bi.l3 _ _ hk; rw [aput_len]; split <;> omega
  · obtain ⟨w2, q1, q2⟩ := R.mo _ _ hk
    obtain ⟨w3, q3, q4⟩ := mono _ _ q1
    exact ⟨w3, q3, vle_tr q4 q2⟩
  · have : i + 1 ≤ j + 1 := by
      rcases Nat.lt_or_ge i (j + 1) with z | z
      · omega
      · obtain ⟨w', q1, q2⟩ := hB (j + 1) _ _ z hto
        obtain ⟨w2, q3, q4⟩ := R.mo _ _ q1
        exact absurd (h3 w2 q3) (vle_not (vle_tr q4 q2))
    have := hto.long ok
    omega
  · rcases hd k' e' a3 with z | ⟨rfl, rfl⟩
    · obtain ⟨w2, q1, q2⟩ := R.dn k' w e' a1 a2 z
      obtain ⟨w3, q3, q4⟩ := mono _ _ q1
      exact ⟨w3, q3, vle_tr q4 q2⟩
    · obtain ⟨w', q1, q2⟩ := R.mo k' w a1
      rw [h1] at q1; cases q1
      exact ⟨_, by rw [look_aput, if_pos rfl], vle_app _ q2⟩
theorem Bd.next {b0 b : Best} {i : Nat} {done : Nat × Nat → Ent → Prop} {ch : Bool} (hB : Bd T t i b0) (R : RI T t b0 i done b ch) (hd : ∀ k e, k ∈ b0.map (·.1) → e ∈ T.es → done k e) : Bd T t (i + 1) b := by
  intro j k w hj h
  rcases Nat.lt_or_ge i j with z | z
  · cases h with
    | zero => omega
    | @step j' p m w' e h1 he hm hp =>
      obtain ⟨w2, q1, q2⟩ := hB j' (p, m) w' (by omega) h1
      obtain ⟨w3, q3, q4⟩ := R.dn (p, m) w2 e q1 ⟨he, hm, hp⟩ (hd _ _ (List.mem_map.mpr ⟨_, look_some_mem q1, rfl⟩) he)
      exact ⟨w3, q3, vle_tr q4 (vle_app _ q2)⟩
  · obtain ⟨w2, q1, q2⟩ := hB j k w z h
    obtain ⟨w3, q3, q4⟩ := R.mo _ _ q1
    exact ⟨w3, q3, vle_tr q4 q2⟩
theorem all_runs {b : Best} (hB : Bd T t 0 b) (hc : ClosedB T t b b) : ∀ {j k w}, To T t j k w → ∃ w', look b k = some w' ∧ vle w' w := by
  intro j k w h
  induction h with
  | zero => exact hB 0 _ _ (Nat.le_refl _) .zero
  | @step i p m w e h1 he hm hp ih =>
    obtain ⟨w2, q1, q2⟩ := ih
    obtain ⟨w3, q3, q4⟩ := hc (p, m) w2 e q1 ⟨he, hm, hp⟩
    exact ⟨w3, q3, vle_tr q4 (vle_app _ q2)⟩
theorem starts_at {a b : List Nat} {p : Nat} {h : Hh} (hp : p ≤ a.length) : mStarts (.str a) [.str b, .int p] h = .ok (.bl (b.isPrefixOf (a.drop p))) h := by
  unfold mStarts; dsimp only; rw [if_pos ⟨by omega, by omega⟩]; rfl
theorem ek (p m : Nat) : D.tup [.int p, .int m] = encK (p, m) := rfl
theorem ek2 (p q m : Nat) : D.tup [.int ((p : Int) + (q : Int)), .int m] = encK (p + q, m) := by simp [encK]
theorem ev (w c : Wr) : D.tup [.int ((w.length : Int) + (c.length : Int)), .tup (w.map D.str ++ c.map D.str)] = encV (w ++ c) := by simp [encV]
theorem put_encV {i j : Nat} {w : Wr} {r : Ev} : Tg.put (.many [i, j]) (encV w) r = some ((r.set i (some (.int w.length))).set j (some (.tup (w.map D.str)))) := rfl
theorem put_encK {i j : Nat} {k : Nat × Nat} {r : Ev} : Tg.put (.many [i, j]) (encK k) r = some ((r.set i (some (.int k.1))).set j (some (.int k.2))) := rfl
theorem lt_V {a b : Wr} {h : Hh} : opLtA (encV a) (encV b) h = .ok (.bl (decide (vlt a b))) h := by
  unfold opLtA; rw [encV_cls, encV_cls, if_pos ⟨by decide, rfl⟩, lt_encV]
theorem dgetB {b : Best} {k : Nat × Nat} : dget (encB b) (encK k) = (look b k).map encV := dget_al fun _ _ => encK_inj
theorem dputB {b : Best} {k : Nat × Nat} {w : Wr} : dput (encB b) (encK k) (encV w) = encB (aput b k w) := dput_al fun _ _ => encK_inj
theorem lenB {b : Best} : (encB b).length = b.length := by simp [encB]
theorem keysB {b : Best} : (encB b).map (·.1) = (b.map (·.1)).map encK := by simp [encB]
theorem min_ref {j : Nat} {h : Hh} : fMin [.ref j] h = (match h[j]? with | some (.lst (x :: xs)) => if okSort (x :: xs) = true then .ok (minL x xs) h else .bad | _ => .bad) := by
  unfold fMin listOf; dsimp only; cases h[j]? with
  | none => rfl
  | some o => cases o with
    | dct => rfl
    | lst xs => cases xs <;> rfl
theorem minV (w : Wr) : ∀ ws : List Wr, ∃ w', minL (encV w) (ws.map encV) = encV w' ∧ (w' = w ∨ w' ∈ ws) ∧ ∀ v, (v = w ∨ v ∈ ws) → vle w' v := by
  have key : ∀ (ws : List Wr) (w : Wr), ∃ w', minL (encV w) (ws.map encV) = encV w' ∧ (w' = w ∨ w' ∈ ws) ∧ ∀ v, (v = w ∨ v ∈ ws) → vle w' v := by
    intro ws
    induction ws with
    | nil => intro w; exact ⟨w, rfl, .inl rfl, fun v hv => by simp at hv; rw [hv]; exact vle_refl _⟩
    | cons u ws ih =>
      intro w
      have e : minL (encV w) ((u :: ws).map encV) = minL (if ltD (encV u) (encV w) = true then encV u else encV w) (ws.map encV) := rfl
      rw [e, lt_encV]
      by_cases hu : vlt u w
      · rw [if_pos (by simpa using hu)]
        obtain ⟨w', q1, q2, q3⟩ := ih u
        refine ⟨w', q1, ?_, fun v hv => ?_⟩
        · rcases q2 with rfl | z
          · right; simp
          · right; simp [z]
        · rcases hv with rfl | hv
          · exact vle_tr (q3 u (.inl rfl)) (.inr hu)
          · rcases List.mem_cons.mp hv with rfl | z
            · exact q3 _ (.inl rfl)
            · exact q3 _ (.inr z)
      · rw [if_neg (by simpa using hu)]
        obtain ⟨w', q1, q2, q3⟩ := ih w
        refine ⟨w', q1, ?_, fun v hv => ?_⟩
        · rcases q2 with rfl | z
          · left; rfl
          · right; simp [z]
        · rcases hv with rfl | hv
          · exact q3 _ (.inl rfl)
          · rcases List.mem_cons.mp hv with rfl | z
            · exact vle_tr (q3 w (.inl rfl)) (vle_of_not hu)
            · exact q3 _ (.inr z)
  exact fun ws => key ws w
/-- what write says -/
def WriteSays (T : Tab) (t : List Nat) (h : Hh) (res : Rs D) : Prop :=
  (res = .ok .non h ∧ ∀ w, ¬ Reads T w t) ∨ ∃ w, res = .ok (.tup (w.map D.str)) h ∧ Reads T w t ∧ ∀ w', Reads T w' t → vle w w'
theorem write_ok (ok : T.Ok) {h : Hh} (hl : t.length ≤ 20) (ht : LettersOk t) : WriteSays T t h (m_write [T.d, .str t] h) := by
  have ll : t.length ≤ lim := by unfold lim; omega
  refine runP_q (Q := WriteSays T t h) ?_
  unfold b_write
  simp_all! [need_table_ok ok, need_text_ok hl ht]
  have e0 : D.tup [D.int 0, D.int 0] = encK (0, 0) := rfl
  have e1 : D.tup [D.int 0, D.tup []] = encV [] := rfl
  simp_all! [e0, e1, key_encK]
  refine wp_while (fun n r hh => ∃ (i : Nat) (b : Best) (ch : Bool) (G : Hh) (x4 x5 x6 x7 x8 x9 x10 x11 x12 x13 x14 : Option D), r = [some T.d, some (.str t), some (.ref h.length), some (.bl ch), x4, x5, x6, x7, x8, x9, x10, x11, x12, x13, x14] ∧ hh = h ++ (.dct (encB b) :: G) ∧
      BI T t b ∧ Bd T t i b ∧ (ch = false → ClosedB T t b b) ∧ (ch = true → i ≤ 189) ∧ n = 200 - i)
    (fun r hh => ∃ (b : Best) (G : Hh) (x3 x4 x5 x6 x7 x8 x9 x10 x11 x12 x13 x14 : Option D), r = [some T.d, some (.str t), some (.ref h.length), x3, x4, x5, x6, x7, x8, x9, x10, x11, x12, x13, x14] ∧ hh = h ++ (.dct (encB b) :: G) ∧ BI T t b ∧ ∀ {j k w}, To T t j k w → ∃ w', look b k = some w' ∧ vle w' w)
    (fun _ _ => False) 200 (by decide) ?_ ?_ (fun _ _ z => z.elim) ?_
  · refine ⟨0, [((0, 0), [])], true, [], _, _, _, _, _, _, _, _, _, _, _, rfl, rfl, ⟨by simp, ?_, ?_⟩, ?_, by simp, by simp, rfl⟩
    · intro k w hk; rw [look_cons] at hk; split at hk
      · rename_i z; cases hk; rw [← z]; exact ⟨0, .zero⟩
      · simp [look_nil] at hk
    · intro k w hk; rw [look_cons] at hk; split at hk
      · cases hk; simp
      · simp [look_nil] at hk
    · intro j k w hj h1
      have : j = 0 := by omega
      subst this
      cases h1
      exact ⟨[], by rw [look_cons, if_pos rfl], vle_refl _⟩
  · rintro n r hh ⟨i, b0, ch, G, x4, x5, x6, x7, x8, x9, x10, x11, x12, x13, x14, rfl, rfl, bi, bd, hc, hi, rfl⟩
    have bl := bi.len ok hl
    cases ch with
    | false =>
      simp_all! []
      exact ⟨b0, G, _, _, _, _, _, _, _, _, _, _, _, _, rfl, rfl, bi, fun h => all_runs (fun j k w hj => bd j k w (by omega)) (hc rfl) h⟩
    | true =>
      have hi := hi rfl
      simp_all! []
      refine wp_forE (b0.map (·.1)) encK (fun pre r hh => ∃ (b : Best) (ch : Bool) (G : Hh) (x4 x5 x6 x7 x8 x9 x10 x11 x12 x13 x14 : Option D), r = [some T.d, some (.str t), some (.ref h.length), some (.bl ch), x4, x5, x6, x7, x8, x9, x10, x11, x12, x13, x14] ∧ hh = h ++ (.dct (encB b) :: G) ∧ RI T t b0 i (fun k _ => k ∈ pre) b ch) (fun _ _ => False) ?_ (fun _ _ z => z.elim)
      simp_all! [keysB]
      refine ⟨⟨b0, false, _, _, _, _, _, _, _, _, _, _, _, _, rfl, rfl, ⟨bi, fun k w hk => ⟨w, hk, vle_refl _⟩, fun _ => rfl, by simp, by simp⟩⟩, ?_, ?_⟩
      · rintro pre ⟨p, m⟩ post r hh ep ⟨b, ch, G, x4, x5, x6, x7, x8, x9, x10, x11, x12, x13, x14, rfl, rfl, ri⟩
        simp_all! [put_encK]
        have hk0 : (p, m) ∈ b0.map (·.1) := by rw [ep]; simp
        obtain ⟨w0, hw0⟩ : ∃ w0, look b0 (p, m) = some w0 := by
          cases hq : look b0 (p, m) with
          | none => rw [look_none] at hq; exact absurd hk0 hq
          | some w0 => exact ⟨w0, rfl⟩
        have hpl : p ≤ t.length := (bi.snd _ _ hw0).choose_spec.run.1
        refine wp_forE T.es Ent.d (fun es r hh => ∃ (b : Best) (ch : Bool) (G : Hh) (x6 x7 x8 x9 x10 x11 x12 x13 x14 : Option D), r = [some T.d, some (.str t), some (.ref h.length), some (.bl ch), some (.int p), some (.int m), x6, x7, x8, x9, x10, x11, x12, x13, x14] ∧ hh = h ++ (.dct (encB b) :: G) ∧ RI T t b0 i (fun k e => k ∈ pre ∨ (k = (p, m) ∧ e ∈ es)) b ch) (fun _ _ => False) ?_ (fun _ _ z => z.elim)
        simp_all! [Tab.d]
        refine ⟨⟨b, ch, _, _, _, _, _, _, _, _, _, _, rfl, rfl, ri.skip fun k e hd _ => by simpa using hd⟩, ?_, ?_⟩
        · rintro es e post r hh ee ⟨b, ch, G, x6, x7, x8, x9, x10, x11, x12, x13, x14, rfl, rfl, ri⟩
          have he : e ∈ T.es := by rw [ee]; simp
          have eo := ok.ok e he
          have := eo.t3
          have := eo.c3
          have bl' := ri.bi.len ok hl
          obtain ⟨w1, hw1, _⟩ := ri.mo _ _ hw0
          have w1l := ri.bi.l3 _ _ hw1
          simp_all! [Ent.d]
          by_cases em : e.m = m
          · by_cases ep : e.t.isPrefixOf (t.drop p) = true
            · have hf : Fits T t (p, m) e := ⟨he, em, ep⟩
              have hd : ∀ k' e', (k' ∈ pre ∨ (k' = (p, m) ∧ e' ∈ es ++ [e])) → (k' ∈ pre ∨ (k' = (p, m) ∧ e' ∈ es)) ∨ (k' = (p, m) ∧ e' = e) := by
                rintro k' e' (z | ⟨z, z2⟩)
                · exact .inl (.inl z)
                · rcases List.mem_append.mp z2 with z2 | z2
                  · exact .inl (.inr ⟨z, z2⟩)
                  · exact .inr ⟨z, by simpa using z2⟩
              simp_all! [em, starts_at hpl, ep, ek, ek2, ev, key_encK, dgetB, hw1, Option.map_some, put_encV, add_tup (show (w1.map D.str).length + (e.cs.map D.str).length ≤ lim by simp; unfold lim; omega), len_str (show e.t.length ≤ lim by unfold lim; omega), lt_V]
              have q1 : ∀ n, (h.length == h.length + (n + 1)) = false := fun n => by simp
              cases hq : look b (p + e.t.length, e.n) with
              | none =>
                simp_all! [Option.map_none, Option.isSome_none, put_ref, q1, Nat.le_refl, key_encK, lenB, show b.length < lim by unfold lim; omega, dputB]
                exact ⟨_, true, _, _, _, _, _, _, _, _, _, _, rfl, rfl, ri.put ok bd hw1 hf (fun w2 h2 => by rw [hq] at h2; cases h2) hd⟩
              | some w2 =>
                simp_all! [Option.map_some, Option.isSome_some, lt_V]
                split
                · rename_i hv
                  have hv : vlt (w1 ++ e.cs) w2 := by simpa using hv
                  simp_all! [put_ref, q1, Nat.le_refl, key_encK, lenB, show b.length < lim by unfold lim; omega, dputB]
                  exact ⟨_, true, _, _, _, _, _, _, _, _, _, _, rfl, rfl, ri.put ok bd hw1 hf (fun w3 h3 => by rw [hq] at h3; cases h3; exact hv) hd⟩
                · rename_i hv
                  have hv : ¬ vlt (w1 ++ e.cs) w2 := by simpa using hv
                  exact ⟨b, ch, _, _, _, _, _, _, _, _, _, _, rfl, rfl, ri.keep hw1 hq hv hd⟩
            · have ep' : e.t.isPrefixOf (t.drop p) = false := Bool.eq_false_iff.mpr ep
              simp_all! [em, starts_at hpl, ep']
              refine ⟨b, ch, _, _, _, _, _, _, _, _, _, _, rfl, rfl, ri.skip ?_⟩
              rintro k' e' (z | ⟨rfl, z2⟩) hf
              · exact .inl z
              · rcases List.mem_append.mp z2 with z2 | z2
                · exact .inr ⟨rfl, z2⟩
                · simp at z2; subst z2; exact absurd hf.2.2 ep
          · rw [if_neg (by simp; omega)]
            refine ⟨b, ch, _, _, _, _, _, _, _, _, _, _, rfl, rfl, ri.skip ?_⟩
            rintro k' e' (z | ⟨rfl, z2⟩) hf
            · exact .inl z
            · rcases List.mem_append.mp z2 with z2 | z2
              · exact .inr ⟨rfl, z2⟩
              · simp at z2; subst z2; exact absurd hf.2.1 em
        · rintro r hh ⟨b, ch, G, x6, x7, x8, x9, x10, x11, x12, x13, x14, rfl, rfl, ri⟩
          simp_all! []
          refine ⟨b, ch, _, _, _, _, _, _, _, _, _, _, _, _, rfl, rfl, ri.skip fun k e hd hf => ?_⟩
          rcases List.mem_append.mp hd with z | z
          · exact .inl z
          · exact .inr ⟨by simpa using z, hf.1⟩
      · rintro r hh ⟨b, ch, G, x4, x5, x6, x7, x8, x9, x10, x11, x12, x13, x14, rfl, rfl, ri⟩
        simp_all! []
        have bl' := ri.bi.len ok hl
        refine ⟨200 - (i + 1), by omega, i + 1, b, ch, _, _, _, _, _, _, _, _, _, _, _, _, rfl, rfl, ri.bi, bd.next ri fun k e hk he => hk, fun hc => ?_, fun hc => ?_, rfl⟩
        · have := ri.same hc
          subst this
          exact fun k w e h1 h2 => ri.dn k w e h1 h2 (List.mem_map.mpr ⟨_, look_some_mem h1, rfl⟩)
        · have := ri.long hc; omega
  · rintro r hh ⟨b, G, x3, x4, x5, x6, x7, x8, x9, x10, x11, x12, x13, x14, rfl, rfl, bi, hr⟩
    have bl := bi.len ok hl
    simp_all! []
    refine ⟨by simp [lenB]; omega, ?_⟩
    rw [show (encB b).map (·.1) = b.map fun p => encK p.1 by simp [encB]]
    refine lcL_pure b (fun p => encK p.1) (fun p => decide (p.1.1 = t.length)) (fun p => encV p.2) (fun p hp => ?_) ?_
    · have hlk := mem_look bi.nd hp
      have i0 : opIx (encK p.1) (.int 0) (h ++ (.dct (encB b) :: G)) = .ok (.int p.1.1) (h ++ (.dct (encB b) :: G)) := rfl
      simp_all! [i0, len_str ll, key_encK, dgetB, hlk, Option.map_some]
      constructor
      · rw [Bool.eq_iff_iff]; simp; omega
      · intro _; trivial
    · generalize hes : b.filter (fun p => decide (p.1.1 = t.length)) = es
      have memE : ∀ p, p ∈ es ↔ p ∈ b ∧ p.1.1 = t.length := fun p => by rw [← hes, List.mem_filter]; simp
      have pl : D.plainNs 8 (es.map fun p => encV p.2) = true := plain_map (fun p => by simp [encV, plain_tup, plain_cons, plain_int, plain_nil, plain_strs]) es
      simp_all! [pl]
      cases es with
      | nil =>
        simp_all! []
        refine .inl ⟨rfl, fun w hw => ?_⟩
        obtain ⟨i, m, hto⟩ := reads_iff.mp hw
        obtain ⟨w', q1, _⟩ := hr hto
        have := (memE ((t.length, m), w')).mpr ⟨look_some_mem q1, rfl⟩
        cases this
      | cons p ps =>
        obtain ⟨w, hw1, hw2, hw3⟩ := minV p.2 (ps.map (·.2))
        have okS : okSort (encV p.2 :: ps.map fun p => encV p.2) = true := okSort_cls' (n := 4) (by decide) (by
          intro x hx; rcases List.mem_cons.mp hx with rfl | hx
          · exact encV_cls _
          · obtain ⟨q, _, rfl⟩ := List.mem_map.mp hx; exact encV_cls _)
        rw [List.map_map] at hw1
        have i1 : ∀ g : Hh, opIx (encV w) (.int 1) g = .ok (.tup (w.map D.str)) g := fun g => rfl
        have hw1' : minL (encV p.2) (ps.map fun p => encV p.2) = encV w := hw1
        simp_all! [show (p :: ps = []) = False by simp, min_ref, okS, hw1', i1]
        rw [pack_tup (refless_strs _)]
        obtain ⟨q, hq, rfl⟩ : ∃ q ∈ p :: ps, q.2 = w := by
          rcases hw2 with z | z
          · exact ⟨p, by simp, z.symm⟩
          · obtain ⟨q, hq, e⟩ := List.mem_map.mp z; exact ⟨q, by simp [hq], e⟩
        obtain ⟨hqb, hq1⟩ := (memE q).mp hq
        refine .inr ⟨q.2, rfl, ?_, fun w' hw' => ?_⟩
        · obtain ⟨i, hto⟩ := bi.snd _ _ (mem_look bi.nd hqb)
          exact reads_iff.mpr ⟨i, q.1.2, by rw [← hq1]; exact hto⟩
        · obtain ⟨i, m, hto⟩ := reads_iff.mp hw'
          obtain ⟨w2, q1, q2⟩ := hr hto
          have := (memE ((t.length, m), w2)).mpr ⟨look_some_mem q1, rfl⟩
          refine vle_tr (hw3 w2 ?_) q2
          rcases List.mem_cons.mp this with z | z
          · left; rw [← z]
          · right; exact List.mem_map.mpr ⟨_, z, rfl⟩
end
end Dcl
end
section
local macro_rules | `(tactic| simp! [$ts,*]) => `(tactic| simp (config := {failIfUnchanged := false}) only [Dc.wr_ok, Dc.wr_bind, Dc.wr_if, Dc.asB_bl, Dc.asI_int, Dc.wo_some, Dc.sk_nx, Dc.sk_rt, Dc.sk_ct, Dc.sk_bk, Dc.go_nx, Dc.go_ct, Dc.go_rt, Dc.we_var_s, Dc.we_var_0, Dc.we_c, Dc.we_nil, Dc.we_yes, Dc.we_cons, Dc.we_bin, Dc.we_tup, Dc.we_lst, Dc.we_blt, Dc.we_call, Dc.we_callT, Dc.town_s, Dc.we_test, Dc.we_and, Dc.we_or, Dc.we_not, Dc.we_andV, Dc.we_orV, Dc.we_notV, Dc.we_ifx, Dc.we_chain, Dc.we_isi, Dc.we_meth, Dc.we_sl, Dc.we_nopart, Dc.we_part, Dc.we_iter, Dc.we_range, Dc.we_enum, Dc.we_dict1, Dc.we_dict0, Dc.we_lenset, Dc.we_sortedset, Dc.we_sortkey, Dc.we_lc, Dc.we_lc2, Dc.we_dc, Dc.wp_next, Dc.wp_break, Dc.wp_cont, Dc.wp_retN, Dc.finP_rt, Dc.finP_nx, Dc.may_P, Dc.may_T, Dc.lock_none, Dc.lock_some, Dc.put_one, Dc.put_many, Dc.putAll_nil, Dc.putAll_cons, Dc.set_s, Dc.set_0, Dc.wipe_nil, Dc.wipe_cons, Dc.le_int, Dc.ge_int, Dc.gt_int, Dc.lt_int, Dc.add_int, Dc.sub_int, Dc.eq_str, Dc.ne_str, Dc.eq_int, Dc.ne_int, Dc.len_tup, Dc.len_fro, Dc.ix_tup, Dc.ix_0, Dc.ix_1, Dc.ix_2, Dc.ix_3, Int.cast_ofNat_Int, Int.reduceEq, Int.reduceLE, Int.reduceLT, Int.reduceAdd, Int.reduceSub, Int.reduceNeg, decide_true, decide_false,  Dc.get_len, Dc.get_len0, Dc.get_cons2, Dc.get_cons3, Dc.set_cons2, Dc.set_cons3, Dc.get_map0, Dc.get_mapk, Dc.set_len, Dc.set_len0, List.append_assoc, List.length_append, List.cons_append, List.nil_append, List.length_cons, List.length_nil, if_true, if_false, Bool.false_eq_true, true_and, and_true, false_and, and_false, Bool.not_false, Bool.not_true, Bool.true_and, Bool.false_and, Bool.and_true, Bool.and_false, Nat.reduceAdd, Nat.reduceSub, List.reduceReplicate, List.map_cons, List.map_nil, Dc.startE, Dc.isiD, Dc.it_tup, Dc.it_fro, Dc.it_str, Dc.it_ref, Dc.kit_ii, Dc.kit_ib, Dc.kit_ss, Dc.kit_tt, Dc.pack_bl, Dc.pack_int, Dc.pack_str, Dc.pack_non, Dc.items_tup, Dc.items_str, Nat.add_assoc, Dc.join_ref, Dc.len_ref, Dc.tup_ref, Dc.all_ref, Dc.any_ref, Dc.all_of, Dc.any_of, Dc.app_ref, Dc.ext_ref, Dc.ext_tup, Dc.pop_ref, Dc.ix_ref, Dc.ixL_int, Dc.ty_list, Dc.ty_dict, Dc.ty_str, Dc.in_ref, Dc.notin_eq, Dc.in_tup, Dc.add_ref, Dc.isnot_n, Dc.is_n, Dc.nx_nx, Dc.fw_nil, Dc.fw_cons, Dc.wo_if, Dc.ix_str, Dc.sl_str, Dc.sl_tup, Dc.starts_s, Dc.cut_1, Dc.cut_map, Dc.sorted_ref, Dc.list_ref, Dc.ne_ref, Dc.map_nil_iff, Dc.plain_nil, Nat.add_sub_cancel, List.dropLast_concat, List.length_map, List.map_append, List.getElem?_cons_zero, List.getElem?_cons_succ, Bool.or_true, Bool.true_or, Bool.or_false, Bool.false_or, Nat.zero_le, Nat.le_refl, Dc.le_len_add, $ts,*])
local macro_rules | `(tactic| simp_all! [$ts,*]) => `(tactic| (simp! [$ts,*]; repeat ((first | with_reducible refine Dc.wp_sq ?_ | with_reducible refine Dc.wp_if ?_ | with_reducible refine Dc.wp_ret ?_ | with_reducible refine Dc.wp_asg ?_ | with_reducible refine Dc.wp_expr ?_ | with_reducible refine Dc.wp_par ?_ | with_reducible refine Dc.wp_par3 ?_ | with_reducible refine Dc.wp_put ?_ | with_reducible refine Dc.wp_aug ?_); simp! [$ts,*])))
local macro_rules | `(tactic| dsimp! [$ts,*]) => `(tactic| simp_all! [Dcl.tw_len, Dcl.get_tw, Dcl.get_tw0, Dcl.set_tw, Dcl.set_tw0, Dcl.range_len, Int.toNat_natCast, $ts,*])
set_option linter.all false
set_option maxRecDepth 100000
set_option maxHeartbeats 1000000
/-! _law_can, _law_texts_of -/
namespace Dcl
open Dc Bf
open L2 (atI ixN)
section
variable {T : Tab} {t : List Nat}
/-- where an entry leads -/
def keySucc (T : Tab) (t : List Nat) (k : Nat × Nat) : List (Nat × Nat) := (T.es.filter fun e => decide (e.m = k.2) && e.t.isPrefixOf (t.drop k.1)).map fun e => (k.1 + e.t.length, e.n)
theorem rc_to {k : Nat × Nat} (h : Rc (keySucc T t) (0, 0) k) : ∃ i w, To T t i k w := by
  induction h with
  | st => exact ⟨0, [], .zero⟩
  | @step p q _ hq ih =>
    obtain ⟨i, w, h1⟩ := ih
    obtain ⟨e, he, rfl⟩ := List.mem_map.mp hq
    obtain ⟨h2, h3⟩ := List.mem_filter.mp he
    rw [Bool.and_eq_true, decide_eq_true_iff] at h3
    exact ⟨_, _, .step (m := p.2) h1 h2 h3.1 h3.2⟩
theorem to_rc {i : Nat} {k : Nat × Nat} {w : Wr} (h : To T t i k w) : Rc (keySucc T t) (0, 0) k := by
  induction h with
  | zero => exact .st
  | @step i p m w e _ he hm hp ih => exact .step ih (List.mem_map.mpr ⟨e, List.mem_filter.mpr ⟨he, by rw [Bool.and_eq_true, decide_eq_true_iff]; exact ⟨hm, hp⟩⟩, rfl⟩)
theorem can_rc : Can T t ↔ ∃ m, Rc (keySucc T t) (0, 0) (t.length, m) := by
  constructor
  · rintro ⟨es, m, h1, h2⟩
    have := to_rc (To.of (t := t) h1 (r := []) (by simp [h2]))
    rw [h2] at this; exact ⟨m, this⟩
  · rintro ⟨m, h⟩
    obtain ⟨i, w, h⟩ := rc_to h
    obtain ⟨_, es, h1, h2, _⟩ := h.run
    exact ⟨es, m, h1, by simpa using h2⟩
theorem rc_univ (ok : T.Ok) {k : Nat × Nat} (h : Rc (keySucc T t) (0, 0) k) : k.1 ≤ t.length ∧ k.2 < T.k := by
  obtain ⟨i, w, h⟩ := rc_to h; exact ⟨h.run.1, h.mode ok⟩
theorem keys_len (ok : T.Ok) {fd : List (Nat × Nat)} (nd : fd.Nodup) (h : ∀ k ∈ fd, k.1 ≤ t.length ∧ k.2 < T.k) : fd.length ≤ (t.length + 1) * T.k := by
  have h2 : ∀ n, ((List.range n).flatMap fun p => (List.range T.k).map fun m => (p, m)).length = n * T.k := by
    intro n; induction n with
    | zero => simp
    | succ n ih => rw [List.range_succ, List.flatMap_append, List.length_append, ih]; simp; rw [Nat.succ_mul]
  rw [← h2]
  refine len_le_of_subset nd fun k hk => ?_
  have := h k hk
  exact List.mem_flatMap.mpr ⟨k.1, List.mem_range.mpr (by omega), List.mem_map.mpr ⟨k.2, List.mem_range.mpr this.2, rfl⟩⟩
theorem plain_encK (n : Nat) (k : Nat × Nat) : D.plainN (n + 1) (encK k) = true := by simp [encK, plain_tup, plain_cons, plain_int, plain_nil]
theorem plain_encKs (ks : List (Nat × Nat)) : D.plainNs 8 (ks.map encK) = true := plain_map (plain_encK 7) ks
theorem cut_from {α : Type} {xs : List α} {p : Nat} (hp : p ≤ xs.length) : cutL xs (some (p : Int)) none = xs.drop p := by
  unfold cutL
  simp only [HT.sIx]
  rw [if_neg (by omega), Int.toNat_natCast, Nat.min_eq_left hp]
  rw [List.take_of_length_le]; simp
noncomputable instance (T : Tab) (t : List Nat) : Decidable (Can T t) := Classical.propDecidable _
theorem can_ok (ok : T.Ok) {h : Hh} (hl : t.length ≤ 20000) : m__law_can [T.d, .str t] h = .ok (.bl (decide (Can T t))) h := by
  have ll : t.length ≤ lim := by unfold lim; omega
  have k3 := ok.k3
  have e10 := ok.e10
  have ub : ∀ {fd : List (Nat × Nat)}, fd.Nodup → (∀ k ∈ fd, Rc (keySucc T t) (0, 0) k) → fd.length ≤ (t.length + 1) * 3 := fun nd sub =>
    Nat.le_trans (keys_len ok nd fun k hk => rc_univ ok (sub k hk)) (Nat.mul_le_mul_left _ k3)
  refine runP_wp ?_
  unfold b__law_can
  simp_all! []
  have e0 : D.tup [D.int 0, D.int 0] = encK (0, 0) := rfl
  rw [e0]
  refine wp_while (fun n r hh => ∃ (fd lf : List (Nat × Nat)) (x4 x5 x6 x7 x8 : Option D) (G : Hh), r = [some T.d, some (.str t), some (.ref h.length), some (.ref (h.length + 1)), x4, x5, x6, x7, x8] ∧ hh = h ++ (.lst (fd.map encK) :: .lst (lf.map encK) :: G) ∧ DF (keySucc T t) (0, 0) fd lf ∧ n = ((t.length + 1) * 3 - fd.length) * 11 + lf.length ∧ n ≤ 800000)
    (fun r hh => ∃ (fd : List (Nat × Nat)) (x4 x5 x6 x7 x8 : Option D) (G : Hh), r = [some T.d, some (.str t), some (.ref h.length), some (.ref (h.length + 1)), x4, x5, x6, x7, x8] ∧ hh = h ++ (.lst (fd.map encK) :: G) ∧ DF (keySucc T t) (0, 0) fd []) (fun _ _ => False) ((t.length + 1) * 3 * 11 + 1) (by omega)
    ⟨[], [(0, 0)], none, none, none, none, none, [], rfl, rfl, .start, by simp, by omega⟩ ?_ (fun _ _ z => z.elim) ?_
  · rintro n r hh ⟨fd, lf, x4, x5, x6, x7, x8, G, rfl, rfl, df, hn, hn2⟩
    simp_all! [plain_encKs]
    split
    · rename_i hne
      obtain ⟨lf', p, rfl⟩ : ∃ lf' p, lf = lf' ++ [p] := by
        rcases List.eq_nil_or_concat lf with z | ⟨a, b, z⟩
        · rw [z] at hne; simp at hne
        · exact ⟨a, b, by rw [z]; simp⟩
      have bd := ub df.nd df.sf
      simp only [List.length_append, List.length_cons, List.length_nil] at hn
      by_cases hp : p ∈ fd
      · simp_all! [plain_encKs, plain_encK 7, any_enc (fun _ _ => encK_inj), hp]
        exact ⟨_, by omega, fd, lf', some (encK p), x5, x6, x7, x8, _, rfl, rfl, df.old hp, rfl, by omega⟩
      · have df' := df.new hp
        have bd' := ub df'.nd df'.sf
        have pu := rc_univ ok (df.sl p (by simp))
        simp only [List.length_append, List.length_cons, List.length_nil] at bd'
        simp_all! [plain_encKs, plain_encK 7, any_enc (fun _ _ => encK_inj), hp, show fd.length < lim by unfold lim; omega]
        refine wp_forE T.es Ent.d (fun es r hh => ∃ (x5 x6 x7 x8 : Option D) (G : Hh), r = [some T.d, some (.str t), some (.ref h.length), some (.ref (h.length + 1)), some (encK p), x5, x6, x7, x8] ∧ hh = h ++ (.lst ((fd ++ [p]).map encK) :: .lst ((lf' ++ (es.filter fun e => decide (e.m = p.2) && e.t.isPrefixOf (t.drop p.1)).map fun e => (p.1 + e.t.length, e.n)).map encK) :: G)) (fun _ _ => False) ?_ (fun _ _ z => z.elim)
        simp_all! [Tab.d]
        refine ⟨⟨_, _, _, _, G ++ [Ob.lst []], rfl, by simp⟩, ?_, ?_⟩
        · rintro es e post r hh ee ⟨x5, x6, x7, x8, G, rfl, rfl⟩
          have he : e ∈ T.es := by rw [ee]; simp
          have t3 := (ok.ok e he).t3
          have esl : es.length ≤ 10 := by have := congrArg List.length ee; simp at this; omega
          have fl := List.length_filter_le (fun e => decide (e.m = p.2) && e.t.isPrefixOf (t.drop p.1)) es
          have i0 : ∀ g : Hh, opIx (encK p) (.int 0) g = .ok (.int p.1) g := fun g => rfl
          have i1 : ∀ g : Hh, opIx (encK p) (.int 1) g = .ok (.int p.2) g := fun g => rfl
          simp_all! [Ent.d, i0, i1]
          by_cases em : e.m = p.2
          · by_cases ep : e.t.isPrefixOf (t.drop p.1) = true
            · simp_all! [em, ll, i0, i1, cut_from pu.1, ep, len_str (show e.t.length ≤ lim by unfold lim; omega), show lf'.length + (es.filter fun e => decide (e.m = p.2) && e.t.isPrefixOf (t.drop p.1)).length < lim by unfold lim; omega, ek2]
              exact ⟨_, _, _, _, G, rfl, by simp [List.filter_append, em, ep]⟩
            · have ep' : e.t.isPrefixOf (t.drop p.1) = false := Bool.eq_false_iff.mpr ep
              simp_all! [em, ll, cut_from pu.1, ep']
              exact ⟨_, _, _, _, G, rfl, by simp [List.filter_append, em, ep']⟩
          · rw [if_neg (by simp; omega)]
            exact ⟨_, _, _, _, G, rfl, by simp [List.filter_append, em]⟩
        · rintro r hh ⟨x5, x6, x7, x8, G, rfl, rfl⟩
          have fl := List.length_filter_le (fun e => decide (e.m = p.2) && e.t.isPrefixOf (t.drop p.1)) T.es
          have sl : (keySucc T t p).length ≤ 10 := by unfold keySucc; rw [List.length_map]; omega
          simp_all! []
          refine ⟨((t.length + 1) * 3 - (fd ++ [p]).length) * 11 + (lf' ++ keySucc T t p).length, ?_, fd ++ [p], lf' ++ keySucc T t p, _, _, _, _, _, G, rfl, by simp [keySucc], df', rfl, ?_⟩
          · simp only [List.length_append, List.length_cons, List.length_nil]; omega
          · simp only [List.length_append, List.length_cons, List.length_nil]; omega
    · rename_i hne
      have : lf = [] := by simpa using hne
      subst this
      exact ⟨fd, x4, x5, x6, x7, x8, _, rfl, rfl, df⟩
  · rintro r hh ⟨fd, x4, x5, x6, x7, x8, G, rfl, rfl, df⟩
    have bd := ub df.nd df.sf
    simp_all! []
    refine ⟨by omega, lcL_map fd encK (fun k => .bl (decide (k.1 = t.length))) (fun k hk => ?_) ?_⟩
    · have i0 : ∀ g : Hh, opIx (encK k) (.int 0) g = .ok (.int k.1) g := fun g => rfl
      simp_all! [i0, len_str ll]
      congr 1; rw [Bool.eq_iff_iff]; simp; omega
    · simp_all! []
      congr 2
      rw [Bool.eq_iff_iff, List.any_eq_true, decide_eq_true_iff, can_rc]
      constructor
      · rintro ⟨k, hk, h0⟩
        have h0 : k.1 = t.length := by simpa using h0
        exact ⟨k.2, by rw [← h0]; exact df.done.mp hk⟩
      · rintro ⟨m, hm⟩
        exact ⟨(t.length, m), df.done.mpr hm, by simp⟩
/-! ### all texts up to a length -/
def lvlW (A : List Nat) : Nat → List (List Nat)
  | 0 => [[]]
  | k + 1 => (lvlW A k).flatMap fun w => A.map fun a => w ++ [a]
def allW (A : List Nat) (n : Nat) : List (List Nat) := (List.range (n + 1)).flatMap (lvlW A)
theorem lvlW_len (A : List Nat) : ∀ k, (lvlW A k).length = A.length ^ k
  | 0 => rfl
  | k + 1 => by rw [lvlW, flat_len _ A.length _ (by simp), lvlW_len A k]; rfl
theorem mem_lvlW {A : List Nat} : ∀ {k : Nat} {w : List Nat}, w ∈ lvlW A k ↔ w.length = k ∧ ∀ c ∈ w, c ∈ A
  | 0, w => by simp [lvlW]; rintro rfl; simp
  | k + 1, w => by
    simp only [lvlW, List.mem_flatMap, List.mem_map]
    constructor
    · rintro ⟨u, hu, a, ha, rfl⟩
      obtain ⟨h1, h2⟩ := mem_lvlW.mp hu
      exact ⟨by simp [h1], fun c hc => by rcases List.mem_append.mp hc with z | z; exact h2 c z; simp at z; rw [z]; exact ha⟩
    · rintro ⟨h1, h2⟩
      rcases List.eq_nil_or_concat w with z | ⟨u, a, z⟩
      · rw [z] at h1; simp at h1
      · rw [List.concat_eq_append] at z; subst z
        exact ⟨u, mem_lvlW.mpr ⟨by simpa using h1, fun c hc => h2 c (by simp [hc])⟩, a, h2 a (by simp), rfl⟩
theorem mem_allW {A : List Nat} {n : Nat} {w : List Nat} : w ∈ allW A n ↔ w.length ≤ n ∧ ∀ c ∈ w, c ∈ A := by
  simp only [allW, List.mem_flatMap, List.mem_range, mem_lvlW]
  constructor
  · rintro ⟨k, h1, h2, h3⟩; exact ⟨by omega, h3⟩
  · rintro ⟨h1, h2⟩; exact ⟨w.length, by omega, rfl, h2⟩
theorem lvlW_sorted {A : List Nat} (hA : A.Pairwise (· < ·)) : ∀ k, (lvlW A k).Pairwise (wlt fun a b : Nat => a < b)
  | 0 => by simp [lvlW]
  | k + 1 => by
    have h1 := lvlW_sorted hA k
    rw [lvlW]
    generalize lvlW A k = ws at h1
    induction ws with
    | nil => simp
    | cons w ws ih =>
      rw [List.pairwise_cons] at h1
      rw [List.flatMap_cons, List.pairwise_append]
      refine ⟨?_, ih h1.2, ?_⟩
      · rw [List.pairwise_map]; exact hA.imp fun {a b} h => wlt_pre _ (show wlt _ [a] [b] from Or.inl h)
      · intro u hu v hv
        obtain ⟨a, _, rfl⟩ := List.mem_map.mp hu
        obtain ⟨w', hw', hv⟩ := List.mem_flatMap.mp hv
        obtain ⟨b, _, rfl⟩ := List.mem_map.mp hv
        exact wlt_app _ _ (h1.1 w' hw')
/-- shorter ones first, in order -/
def sll (u v : List Nat) : Prop := u.length < v.length ∨ (u.length = v.length ∧ wlt (fun a b : Nat => a < b) u v)
theorem allW_sorted {A : List Nat} (hA : A.Pairwise (· < ·)) (n : Nat) : (allW A n).Pairwise sll := by
  unfold allW
  induction n with
  | zero => simp [lvlW]
  | succ n ih =>
    rw [List.range_succ, List.flatMap_append, List.pairwise_append]
    refine ⟨ih, ?_, ?_⟩
    · simp only [List.flatMap_cons, List.flatMap_nil, List.append_nil]
      refine List.Pairwise.imp_of_mem (fun {a b} ha hb h => .inr ⟨?_, h⟩) (lvlW_sorted hA (n + 1))
      rw [(mem_lvlW.mp ha).1, (mem_lvlW.mp hb).1]
    · intro u hu v hv
      obtain ⟨k, hk, hu⟩ := List.mem_flatMap.mp hu
      simp only [List.flatMap_cons, List.flatMap_nil, List.append_nil] at hv
      have h1 := (mem_lvlW.mp hu).1
      have h2 := (mem_lvlW.mp hv).1
      have := List.mem_range.mp hk
      exact .inl (by omega)
theorem allW_succ {A : List Nat} {n : Nat} : allW A (n + 1) = allW A n ++ lvlW A (n + 1) := by simp [allW, List.range_succ]
theorem texts_ok {L : List Nat} {n : Nat} {h : Hh} (hl : L.length ≤ 5) (hn : n ≤ 100) (hb : ∀ k, k ≤ n → (lvlW (srt L) k).length ≤ 100000 ∧ (allW (srt L) k).length ≤ 100000) : m__law_texts_of [.str L, .int n] h = .ok (.ref h.length) (h ++ [.lst ((allW (srt L) n).map D.str)]) := by
  have ll : L.length ≤ lim := by unfold lim; omega
  have sl : (srt L).length ≤ 5 := by have := (isort_perm (le := fun a b : Nat => decide (a ≤ b)) L).length_eq; unfold srt; omega
  refine runP_wp ?_
  unfold b__law_texts_of
  simp_all! []
  refine wp_for (fun pre r hh => ∃ (j : Nat) (x4 x5 x6 x7 : Option D) (G : Hh), r = [some (.str L), some (.int n), some (.ref h.length), some (.ref (h.length + (j + 1))), x4, x5, x6, x7] ∧ hh = h ++ (.lst ((allW (srt L) pre.length).map D.str) :: G) ∧ G[j]? = some (.lst ((lvlW (srt L) pre.length).map D.str))) (fun _ _ => False) ?_ (fun _ _ z => z.elim)
  dsimp! []
  refine ⟨⟨by omega, by omega⟩, ⟨0, _, _, _, _, _, rfl, rfl, rfl⟩, ?_, ?_⟩
  · rintro pre d post r hh e ⟨j, x4, x5, x6, x7, G, rfl, rfl, hG⟩
    have pl : pre.length < n := by have := congrArg List.length e; simp [range_len] at this; omega
    have gl : j < G.length := (List.getElem?_eq_some_iff.mp hG).1
    have hG' : ∀ X : Hh, (G ++ X)[j]? = some (.lst ((lvlW (srt L) pre.length).map D.str)) := fun X => by rw [List.getElem?_append_left gl]; exact hG
    obtain ⟨b1, b2⟩ := hb (pre.length + 1) (by omega)
    obtain ⟨b3, b4⟩ := hb pre.length (by omega)
    simp_all! []
    refine wp_forE (lvlW (srt L) pre.length) D.str (fun ws r hh => ∃ (x4 x6 x7 : Option D) (M : Hh), r = [some (.str L), some (.int n), some (.ref h.length), some (.ref (h.length + (j + 1))), x4, some (.ref (h.length + (G.length + 1))), x6, x7] ∧ hh = h ++ (.lst ((allW (srt L) pre.length).map D.str) :: (G ++ (.lst ((ws.flatMap fun w => (srt L).map fun a => w ++ [a]).map D.str) :: M)))) (fun _ _ => False) ?_ (fun _ _ z => z.elim)
    simp_all! [hG']
    refine ⟨⟨_, _, _, _, rfl, rfl⟩, ?_, ?_⟩
    · rintro ws w post r hh ew ⟨x4, x6, x7, M, rfl, rfl⟩
      have wm : w ∈ lvlW (srt L) pre.length := by rw [ew]; simp
      have wl := (mem_lvlW.mp wm).1
      have q1 : (G.length + 1 == j + 1) = false := by simp; omega
      have wsl : (ws.flatMap fun w => (srt L).map fun a => w ++ [a]).length + (srt L).length ≤ 100000 := by
        refine Nat.le_trans ?_ b1
        rw [lvlW, ew, List.flatMap_append, List.length_append, List.flatMap_cons, List.length_append]
        simp
      simp_all! [sorted_str ll]
      refine ⟨by omega, lcL_map (srt L) (fun c => D.str [c]) (fun a => D.str (w ++ [a])) (fun a ha => ?_) ?_⟩
      · simp_all! [add_str (show w.length + [a].length ≤ lim by simp; unfold lim; omega)]
      · simp_all! [add_beq, q1, show (ws.flatMap fun w => (srt L).map fun a => w ++ [a]).length + (srt L).length ≤ lim by unfold lim; omega]
        exact ⟨_, _, _, _, rfl, by simp; rfl⟩
    · rintro r hh ⟨x4, x6, x7, M, rfl, rfl⟩
      rw [show ((lvlW (srt L) pre.length).flatMap fun w => (srt L).map fun a => w ++ [a]) = lvlW (srt L) (pre.length + 1) from rfl]
      simp_all! [show (allW (srt L) pre.length).length + (lvlW (srt L) (pre.length + 1)).length ≤ lim by unfold lim; omega]
      exact ⟨G.length, _, _, _, _, _, rfl, by rw [allW_succ]; simp; rfl, by simp⟩
  · rintro r hh ⟨j, x4, x5, x6, x7, G, rfl, rfl, hG⟩
    simp_all! []
    exact pack_lst (by omega) (by simp) (refless_strs _)
end
end Dcl
end
section
set_option linter.all false
set_option maxRecDepth 100000
set_option maxHeartbeats 2000000
/-! what laws share -/
namespace Dcl
open Dc Bf
open L2 (atI ixN)
theorem wle_anti {α : Type} {lt : α → α → Prop} (O : Ord lt) {u v : List α} (h1 : wle lt u v) (h2 : wle lt v u) : u = v := by
  rcases h1 with h | h
  · exact h
  · rcases h2 with h' | h'
    · exact h'.symm
    · exact absurd (wlt_tr O h h') (wlt_irr O u)
/-- what is said at one heap is said at each -/
theorem unw_at {T : Tab} (ok : T.Ok) {L : List Nat} (hL : L ≠ []) (nd : L.Nodup) (l5 : L.length ≤ 5) (hl : LettersOk L) {d : D} (e : m_unwritable [T.d, .str L] [] = .ok d []) (h : Hh) : m_unwritable [T.d, .str L] h = .ok d h := by
  rcases unw_ok ok (h := []) hL nd l5 hl with ⟨a1, a2⟩ | ⟨t, a1, a2, a3, a4⟩ <;> rcases unw_ok ok (h := h) hL nd l5 hl with ⟨b1, b2⟩ | ⟨t', b1, b2, b3, b4⟩
  · rw [a1] at e; cases e; exact b1
  · exact absurd (a2 t' b2) b3
  · exact absurd (b2 t a2) a3
  · rw [a1] at e; cases e
    have : t = t' := by
      rcases a4 t' b2 b3 with x | ⟨x, y⟩ <;> rcases b4 t a2 a3 with x' | ⟨x', y'⟩
      · omega
      · omega
      · omega
      · exact wle_anti ordNat y y'
    rw [this]; exact b1
theorem write_at {T : Tab} (ok : T.Ok) {t : List Nat} (hl : t.length ≤ 20) (ht : LettersOk t) {d : D} (e : m_write [T.d, .str t] [] = .ok d []) (h : Hh) : m_write [T.d, .str t] h = .ok d h := by
  rcases write_ok ok (h := []) hl ht with ⟨a1, a2⟩ | ⟨w, a1, a2, a3⟩ <;> rcases write_ok ok (h := h) hl ht with ⟨b1, b2⟩ | ⟨w', b1, b2, b3⟩
  · rw [a1] at e; cases e; exact b1
  · exact absurd b2 (a2 w')
  · exact absurd a2 (b2 w)
  · rw [a1] at e; cases e
    rw [vle_anti (a3 w' b2) (b3 w a2)]; exact b1
instance (t : List Nat) : Decidable (LettersOk t) := inferInstanceAs (Decidable (_ = true))
theorem ne_same {d : D} {h : Hh} (p : D.plainN 8 d = true) : opNe d d h = .ok (.bl false) h := by rw [ne_plain p p]; simp
theorem eq_same {d : D} {h : Hh} (p : D.plainN 8 d = true) : opEq d d h = .ok (.bl true) h := by rw [eq_plain p p]; simp
/-- checked by looking at all of it -/
def okB (T : Tab) : Bool := decide (1 ≤ T.k) && decide (T.k ≤ 3) && decide (T.es ≠ []) && decide (T.es.length ≤ 10) && decide T.es.Nodup && T.es.all fun e => decide (e.m < T.k) && decide (e.n < T.k) && decide (e.t.length ≤ 3) && e.t.all (fun c => decide (97 ≤ c) && decide (c ≤ 101)) && decide (e.cs ≠ []) && decide (e.cs.length ≤ 3) && e.cs.all cellB
theorem okB_ok {T : Tab} (h : okB T = true) : T.Ok := by
  simp only [okB, Bool.and_eq_true, decide_eq_true_eq, List.all_eq_true] at h
  obtain ⟨⟨⟨⟨⟨h1, h2⟩, h3⟩, h4⟩, h5⟩, h6⟩ := h
  refine ⟨h1, h2, h3, h4, h5, fun e he => ?_⟩
  obtain ⟨⟨⟨⟨⟨⟨q1, q2⟩, q3⟩, q4⟩, q5⟩, q6⟩, q7⟩ := h6 e he
  exact ⟨q1, q2, q3, q4, q5, q6, fun c hc => by have := q7 c hc; unfold cellB at this; simpa using this⟩
theorem run_letters {T : Tab} (ab : ∀ e ∈ T.es, ∀ c ∈ e.t, c = 97 ∨ c = 98) {es : List Ent} {m m' : Nat} (h : Run T m es m') : ∀ c ∈ txt es, c = 97 ∨ c = 98 := by
  induction h with
  | nil => simp [txt]
  | @cons m0 e es m he _ _ ih =>
    intro c hc
    have : txt (e :: es) = e.t ++ txt es := rfl
    rw [this] at hc
    rcases List.mem_append.mp hc with z | z
    · exact ab e he c z
    · exact ih c z
theorem cell_sets : ∀ cs ∈ cellSets, ∀ c ∈ cs, IsCell c ∧ c ≠ [53] ∧ c ≠ [53, 54] := by decide +kernel
theorem town_new {a b : Int} {h L : Hh} (ha : 0 ≤ a) (hb : 0 ≤ b) : TownAt (h ++ (.lst [.int a, .int b] :: L)) h.length a b := ⟨by simp, ha, hb⟩
theorem tw_new {a b : Int} {x : Ob} {h L : Hh} : tw (h ++ (x :: L)) h.length a b = h ++ (.lst [.int a, .int b] :: L) := by unfold tw; rw [set_len0]; rfl
theorem RT.okT {most : Nat} {T : Tab} {cells : List (List Nat)} (R : RT most T cells) (hm : most ≤ 10) : T.Ok := by
  have km := R.k
  have tl := R.le
  refine ⟨by omega, by omega, R.e0, by omega, R.nd, fun e he => ?_⟩
  have q := R.ok e he
  refine ⟨q.m, q.n, q.t3, fun c hc => ?_, q.c0, q.c3, fun c hc => (cell_sets cells R.cs c (q.cc c hc)).1⟩
  rcases q.tl c hc with rfl | rfl <;> omega
theorem RT.ab {most : Nat} {T : Tab} {cells : List (List Nat)} (R : RT most T cells) : ∀ e ∈ T.es, ∀ c ∈ e.t, c = 97 ∨ c = 98 := fun e he => (R.ok e he).tl
theorem can_nil {T : Tab} : Can T [] := ⟨[], 0, .nil, rfl⟩
theorem reads_can {T : Tab} {t : List Nat} : Can T t ↔ ∃ w, Reads T w t := by
  constructor
  · rintro ⟨es, m, h1, h2⟩; exact ⟨wri es, es, m, h1, h2, rfl⟩
  · rintro ⟨w, es, m, h1, h2, _⟩; exact ⟨es, m, h1, h2⟩
end Dcl
end
section
local macro_rules | `(tactic| simp! [$ts,*]) => `(tactic| simp (config := {failIfUnchanged := false}) only [Dc.wr_ok, Dc.wr_bind, Dc.wr_if, Dc.asB_bl, Dc.asI_int, Dc.wo_some, Dc.sk_nx, Dc.sk_rt, Dc.sk_ct, Dc.sk_bk, Dc.go_nx, Dc.go_ct, Dc.go_rt, Dc.we_var_s, Dc.we_var_0, Dc.we_c, Dc.we_nil, Dc.we_yes, Dc.we_cons, Dc.we_bin, Dc.we_tup, Dc.we_lst, Dc.we_blt, Dc.we_call, Dc.we_callT, Dc.town_s, Dc.we_test, Dc.we_and, Dc.we_or, Dc.we_not, Dc.we_andV, Dc.we_orV, Dc.we_notV, Dc.we_ifx, Dc.we_chain, Dc.we_isi, Dc.we_meth, Dc.we_sl, Dc.we_nopart, Dc.we_part, Dc.we_iter, Dc.we_range, Dc.we_enum, Dc.we_dict1, Dc.we_dict0, Dc.we_lenset, Dc.we_sortedset, Dc.we_sortkey, Dc.we_lc, Dc.we_lc2, Dc.we_dc, Dc.wp_next, Dc.wp_break, Dc.wp_cont, Dc.wp_retN, Dc.finP_rt, Dc.finP_nx, Dc.may_P, Dc.may_T, Dc.lock_none, Dc.lock_some, Dc.put_one, Dc.put_many, Dc.putAll_nil, Dc.putAll_cons, Dc.set_s, Dc.set_0, Dc.wipe_nil, Dc.wipe_cons, Dc.le_int, Dc.ge_int, Dc.gt_int, Dc.lt_int, Dc.add_int, Dc.sub_int, Dc.eq_str, Dc.ne_str, Dc.eq_int, Dc.ne_int, Dc.len_tup, Dc.len_fro, Dc.ix_tup, Dc.ix_0, Dc.ix_1, Dc.ix_2, Dc.ix_3, Int.cast_ofNat_Int, Int.reduceEq, Int.reduceLE, Int.reduceLT, Int.reduceAdd, Int.reduceSub, Int.reduceNeg, decide_true, decide_false,  Dc.get_len, Dc.get_len0, Dc.get_cons2, Dc.get_cons3, Dc.set_cons2, Dc.set_cons3, Dc.get_map0, Dc.get_mapk, Dc.set_len, Dc.set_len0, List.append_assoc, List.length_append, List.cons_append, List.nil_append, List.length_cons, List.length_nil, if_true, if_false, Bool.false_eq_true, true_and, and_true, false_and, and_false, Bool.not_false, Bool.not_true, Bool.true_and, Bool.false_and, Bool.and_true, Bool.and_false, Nat.reduceAdd, Nat.reduceSub, List.reduceReplicate, List.map_cons, List.map_nil, Dc.startE, Dc.isiD, Dc.it_tup, Dc.it_fro, Dc.it_str, Dc.it_ref, Dc.kit_ii, Dc.kit_ib, Dc.kit_ss, Dc.kit_tt, Dc.pack_bl, Dc.pack_int, Dc.pack_str, Dc.pack_non, Dc.items_tup, Dc.items_str, Nat.add_assoc, Dc.join_ref, Dc.len_ref, Dc.tup_ref, Dc.all_ref, Dc.any_ref, Dc.all_of, Dc.any_of, Dc.app_ref, Dc.ext_ref, Dc.ext_tup, Dc.pop_ref, Dc.ix_ref, Dc.ixL_int, Dc.ty_list, Dc.ty_dict, Dc.ty_str, Dc.in_ref, Dc.notin_eq, Dc.in_tup, Dc.add_ref, Dc.isnot_n, Dc.is_n, Dc.nx_nx, Dc.fw_nil, Dc.fw_cons, Dc.wo_if, Dc.ix_str, Dc.sl_str, Dc.sl_tup, Dc.starts_s, Dc.cut_1, Dc.cut_map, Dc.sorted_ref, Dc.list_ref, Dc.ne_ref, Dc.map_nil_iff, Dc.plain_nil, Nat.add_sub_cancel, List.dropLast_concat, List.length_map, List.map_append, List.getElem?_cons_zero, List.getElem?_cons_succ, Bool.or_true, Bool.true_or, Bool.or_false, Bool.false_or, Nat.zero_le, Nat.le_refl, Dc.le_len_add, $ts,*])
local macro_rules | `(tactic| simp_all! [$ts,*]) => `(tactic| (simp! [$ts,*]; repeat ((first | with_reducible refine Dc.wp_sq ?_ | with_reducible refine Dc.wp_if ?_ | with_reducible refine Dc.wp_ret ?_ | with_reducible refine Dc.wp_asg ?_ | with_reducible refine Dc.wp_expr ?_ | with_reducible refine Dc.wp_par ?_ | with_reducible refine Dc.wp_par3 ?_ | with_reducible refine Dc.wp_put ?_ | with_reducible refine Dc.wp_aug ?_); simp! [$ts,*])))
local macro_rules | `(tactic| dsimp! [$ts,*]) => `(tactic| simp_all! [Dcl.tw_len, Dcl.get_tw, Dcl.get_tw0, Dcl.set_tw, Dcl.set_tw0, Dcl.range_len, Int.toNat_natCast, $ts,*])
set_option linter.all false
set_option maxRecDepth 100000
set_option maxHeartbeats 2000000
/-! law k05 -/
namespace Dcl
open Dc Bf
open L2 (atI ixN)
structure LOK (L : List Nat) : Prop where
  ne : L ≠ []
  nd : L.Nodup
  l3 : L.length ≤ 3
  ok : LettersOk L
def letterSets : List (List Nat) := [[97], [97, 98], [98, 97], [98], [99], [99, 97], [98, 99, 97]]
theorem lok_sets : ∀ L ∈ letterSets, LOK L := by
  intro L hL
  simp [letterSets] at hL
  rcases hL with rfl | rfl | rfl | rfl | rfl | rfl | rfl <;> exact ⟨by decide, by decide, by decide, by decide⟩
def many (L : List Nat) : Nat := if L.length < 3 then 5 else 3
theorem srt_len (L : List Nat) : (srt L).length = L.length := (isort_perm (le := fun a b : Nat => decide (a ≤ b)) L).length_eq
theorem allW_len (A : List Nat) : ∀ n, (allW A n).length = ((List.range (n + 1)).map fun k => A.length ^ k).sum
  | 0 => by simp [allW, lvlW]
  | n + 1 => by rw [allW_succ, List.length_append, allW_len A n, lvlW_len, List.range_succ (n := n + 1), List.map_append, List.sum_append]; simp
theorem many_ok {L : List Nat} (hL : LOK L) : ∀ k, k ≤ many L → (lvlW (srt L) k).length ≤ 100000 ∧ (allW (srt L) k).length ≤ 100000 := by
  intro k hk
  rw [lvlW_len, allW_len, srt_len]
  have l3 := hL.l3
  have l0 : 0 < L.length := by cases h : L with | nil => exact absurd h hL.ne | cons => simp
  have k5 : k ≤ 5 := by unfold many at hk; split at hk <;> omega
  have : L.length = 1 ∨ L.length = 2 ∨ L.length = 3 := by omega
  have kk : k = 0 ∨ k = 1 ∨ k = 2 ∨ k = 3 ∨ k = 4 ∨ k = 5 := by omega
  rcases this with h | h | h <;> rw [h] <;> rcases kk with rfl | rfl | rfl | rfl | rfl | rfl <;> decide
def encO : Option (List Nat) → D
  | none => .non
  | some t => .str t
theorem texts_many {L : List Nat} (hL : LOK L) {h : Hh} : m__law_texts_of [.str L, .int (many L : Nat)] h = .ok (.ref h.length) (h ++ [.lst ((allW (srt L) (many L)).map D.str)]) :=
  texts_ok (by have := hL.l3; omega) (by unfold many; split <;> omega) (many_ok hL)
theorem cut_last {α : Type} {xs : List α} {x : α} : cutL (xs ++ [x]) none (some (-1)) = xs := by
  have e : HT.sIx (xs ++ [x]).length (xs ++ [x]).length (some (-1)) = xs.length := by
    show (if (-1 : Int) < 0 then ((-1 : Int) + ((xs ++ [x]).length : Int)).toNat else min ((-1 : Int)).toNat (xs ++ [x]).length) = _
    rw [if_pos (by decide), List.length_append]; simp; omega
  unfold cutL; rw [e]; simp [HT.sIx]
structure T05 (T : Tab) : Prop where
  ok : T.Ok
  ab : ∀ e ∈ T.es, ∀ c ∈ e.t, c = 97 ∨ c = 98
theorem T05.e {T : Tab} (F : T05 T) {h : Hh} : m_unwritable [T.d, .str [101]] h = .ok (.str [101]) h := by
  have nc : ¬ Can T [101] := by
    rintro ⟨es, m, h1, h2⟩
    have := run_letters F.ab h1 101 (by rw [h2]; simp)
    omega
  rcases unw_ok F.ok (L := [101]) (h := h) (by simp) (by decide) (by decide) (by decide) with ⟨a1, a2⟩ | ⟨t, a1, a2, a3, a4⟩
  · exact absurd (a2 [101] (by simp)) nc
  · have : t = [101] := by
      cases t with
      | nil => exact absurd can_nil a3
      | cons c t =>
        cases t with
        | nil => have := a2 c (by simp); simp at this; rw [this]
        | cons d t => rcases a4 [101] (by simp) nc with z | ⟨z, _⟩ <;> simp at z
    rw [this] at a1; exact a1
theorem law_any (ns : List Int) (h : Hh) : m_law_k05 [.fro (ns.map D.int)] h = .ok (.bl true) h := by
  refine runP_wp ?_
  unfold b_law_k05
  dsimp! []
  refine table_wr (most := 8) (town_new (a := 0) (b := 0) (L := []) (by decide) (by decide)) (by decide) (by decide) fun T cells a b R ha hb => ?_
  rw [tw_new]
  have okT := R.okT (by decide)
  have k12 := R.k
  simp! [Tab.d]
  refine wp_sq ?_
  refine wp_cut (fun r hh => ∃ (a b : Int) (T2 : Tab) (L : Hh) (x4 x11 x12 : Option D), r = [some (D.fro (ns.map D.int)), some (D.ref h.length), some (D.int T2.k), some (D.tup (T2.es.map Ent.d)), x4, none, none, none, none, none, none, x11, x12, none] ∧ hh = h ++ (.lst [.int a, .int b] :: L) ∧ 0 ≤ a ∧ 0 ≤ b ∧ T05 T2) ?_ ?_
  · refine wp_if ?_
    dsimp! []
    refine draw_wr (town_new (L := []) ha hb) (by decide) (by decide) fun n a b n0 n1 ha hb => ?_
    rw [tw_new]
    dsimp! []
    split
    · dsimp! []
      refine ⟨by decide, lcL_cons ?_⟩
      dsimp! []
      refine draw_wr (town_new ha hb) (by omega) (by omega) fun m1 a b m10 m11 ha hb => ?_
      rw [tw_new]
      refine draw_wr (town_new ha hb) (by omega) (by omega) fun m2 a b m20 m21 ha hb => ?_
      rw [tw_new]
      refine lcL_cons ?_
      dsimp! []
      refine draw_wr (town_new ha hb) (by omega) (by omega) fun m3 a b m30 m31 ha hb => ?_
      rw [tw_new]
      refine draw_wr (town_new ha hb) (by omega) (by omega) fun m4 a b m40 m41 ha hb => ?_
      rw [tw_new]
      refine lcL_nil ?_
      obtain ⟨m1, rfl⟩ : ∃ k : Nat, m1 = k := ⟨m1.toNat, by omega⟩
      obtain ⟨m2, rfl⟩ : ∃ k : Nat, m2 = k := ⟨m2.toNat, by omega⟩
      obtain ⟨m3, rfl⟩ : ∃ k : Nat, m3 = k := ⟨m3.toNat, by omega⟩
      obtain ⟨m4, rfl⟩ : ∃ k : Nat, m4 = k := ⟨m4.toNat, by omega⟩
      have em : [D.tup [.int m1, .str [97], .tup [.str [54]], .int m2], D.tup [.int m3, .str [98], .tup [.str [54]], .int m4]] = [(⟨m1, [97], [[54]], m2⟩ : Ent), ⟨m3, [98], [[54]], m4⟩].map Ent.d := rfl
      rw [em]
      generalize hmore : [(⟨m1, [97], [[54]], m2⟩ : Ent), ⟨m3, [98], [[54]], m4⟩] = more
      have mnd : more.Nodup := by rw [← hmore]; simp
      have ml : more.length = 2 := by rw [← hmore]; rfl
      have mok : ∀ e ∈ more, e.Ok T.k ∧ ∀ c ∈ e.t, c = 97 ∨ c = 98 := by
        intro e he
        rw [← hmore] at he
        simp at he
        rcases he with rfl | rfl
        · exact ⟨⟨by show m1 < T.k; omega, by show m2 < T.k; omega, by simp, by simp, by simp, by simp, by intro c hc; simp at hc; rw [hc]; decide⟩, by simp⟩
        · exact ⟨⟨by show m3 < T.k; omega, by show m4 < T.k; omega, by simp, by simp, by simp, by simp, by intro c hc; simp at hc; rw [hc]; decide⟩, by simp⟩
      dsimp! []
      refine ⟨by omega, lcL_pure more Ent.d (fun e => decide (e ∉ T.es)) Ent.d (fun e he => ?_) ?_⟩
      · dsimp! [plain_ent 6, plain_ents8, any_ent]
        simp
      have fl := List.length_filter_le (fun e => decide (e ∉ T.es)) more
      have tl := R.le
      dsimp! []
      rw [add_tup (by rw [List.length_map, List.length_map]; unfold lim; omega)]
      dsimp! []
      refine ⟨a, b, ⟨T.k, T.es ++ more.filter fun e => decide (e ∉ T.es)⟩, _, _, _, _, (by simp only [List.map_append]; rfl), rfl, ha, hb, ⟨⟨okT.k1, okT.k3, by simp [okT.e0], ?_, ?_, fun e he => ?_⟩, fun e he => ?_⟩⟩
      · rw [List.length_append]; omega
      · rw [List.nodup_append]
        refine ⟨R.nd, mnd.filter _, fun x hx y hy => ?_⟩
        rintro rfl
        have := (List.mem_filter.mp hy).2
        simp at this; exact this hx
      · rcases List.mem_append.mp he with z | z
        · exact okT.ok e z
        · exact (mok e (List.mem_filter.mp z).1).1
      · rcases List.mem_append.mp he with z | z
        · exact R.ab e z
        · exact (mok e (List.mem_filter.mp z).1).2
    · dsimp! []
      exact ⟨a, b, T, _, _, _, _, rfl, rfl, ha, hb, okT, R.ab⟩
  · clear R okT k12
    rintro r hh ⟨a, b, T, L, x4, x11, x12, rfl, rfl, ha, hb, F⟩
    have ok := F.ok
    have eT : D.tup [.int T.k, .tup (T.es.map Ent.d)] = T.d := rfl
    dsimp! [eT]
    refine wp_for (fun pre r hh => ∃ (a b : Int) (L : Hh) (x6 x7 x8 x9 x10 : Option D), r = [some (D.fro (ns.map D.int)), some (D.ref h.length), some (D.int T.k), some (D.tup (T.es.map Ent.d)), x4, some T.d, x6, x7, x8, x9, x10, x11, x12, none] ∧ hh = h ++ (.lst [.int a, .int b] :: L) ∧ 0 ≤ a ∧ 0 ≤ b) (fun _ _ => False) ?_ (fun _ _ z => z.elim)
    dsimp! []
    refine pick_lst (town_new ha hb) (xs := [.str [98], .str [99], .str [99, 97], .str [98, 99, 97]]) (by simp) (by omega) (by simp) (by simp) (by simp [okT, refless]) fun x a b hx ha hb => ?_
    rw [tw_new]
    dsimp! []
    refine ⟨⟨a, b, _, _, _, _, _, _, rfl, rfl, ha, hb⟩, ?_, ?_⟩
    · rintro pre d post r hh e ⟨a, b, M, x6, x7, x8, x9, x10, rfl, rfl, ha, hb⟩
      obtain ⟨L, rfl, hL⟩ : ∃ L, d = .str L ∧ L ∈ letterSets := by
        have : d ∈ [D.str [97], .str [97, 98], .str [98, 97], x] := by rw [e]; simp
        simp at this hx
        simp only [letterSets]
        rcases this with rfl | rfl | rfl | rfl
        · exact ⟨_, rfl, by simp⟩
        · exact ⟨_, rfl, by simp⟩
        · exact ⟨_, rfl, by simp⟩
        · rcases hx with rfl | rfl | rfl | rfl <;> exact ⟨_, rfl, by simp⟩
      have lk := lok_sets L hL
      have l3 := lk.l3
      have ll : L.length ≤ lim := by unfold lim; omega
      obtain ⟨told, ht, hspec⟩ : ∃ told : Option (List Nat), (∀ g : Hh, m_unwritable [T.d, .str L] g = .ok (encO told) g) ∧ ((told = none ∧ ∀ t, (∀ c ∈ t, c ∈ L) → Can T t) ∨ ∃ t, told = some t ∧ (∀ c ∈ t, c ∈ L) ∧ ¬ Can T t ∧ (∀ t', (∀ c ∈ t', c ∈ L) → ¬ Can T t' → t.length < t'.length ∨ (t.length = t'.length ∧ wle (fun a b : Nat => a < b) t t')) ∧ t.length < 13000) := by
        rcases unw_ok ok (h := []) lk.ne lk.nd (by omega) lk.ok with ⟨a1, a2⟩ | ⟨t, a1, a2, a3, a4⟩
        · exact ⟨none, fun g => unw_at ok lk.ne lk.nd (by omega) lk.ok a1 g, .inl ⟨rfl, a2⟩⟩
        · refine ⟨some t, fun g => unw_at ok lk.ne lk.nd (by omega) lk.ok a1 g, .inr ⟨t, rfl, a2, a3, a4, unw_short ok (by omega) a2 a3 fun t' h1 h2 => ?_⟩⟩
          rcases a4 t' h1 h2 with z | ⟨z, _⟩ <;> omega
      dsimp! [ht]
      refine wp_forE (allW (srt L) (many L)) D.str (fun us r hh => ∃ (N : Hh) (x9 : Option D), r = [some (D.fro (ns.map D.int)), some (D.ref h.length), some (D.int T.k), some (D.tup (T.es.map Ent.d)), x4, some T.d, some (.str L), some (encO told), some (encO (us.find? fun t => decide (¬ Can T t))), x9, x10, x11, x12, none] ∧ hh = h ++ (.lst [.int a, .int b] :: N)) (fun _ _ => False) ?_ (fun _ _ z => z.elim)
      have e5 : ∀ (g : Hh) (x9 x10 : Option D) (K : D → Hh → Prop), WE (xIf (xTest (xBin opLtA (xBlt fLen (xCons (xVar 6) xNil)) (xC (D.int 3)))) (xC (D.int 5)) (xC (D.int 3))) [some (D.fro (ns.map D.int)), some (D.ref h.length), some (D.int T.k), some (D.tup (T.es.map Ent.d)), x4, some T.d, some (.str L), some (encO told), some D.non, x9, x10, x11, x12, none] g K = K (.int (many L : Nat)) g := by
        intro g x9 x10 K
        simp! [len_str ll]
        unfold many
        by_cases h3 : L.length < 3
        · rw [if_pos (by simp; omega), if_pos h3]; rfl
        · rw [if_neg (by simp; omega), if_neg h3]; rfl
      simp only [we_iter, we_call, we_cons, we_var_s, we_var_0, we_nil, e5]
      dsimp! [texts_many lk]
      have memA : ∀ u, u ∈ allW (srt L) (many L) ↔ u.length ≤ many L ∧ ∀ c ∈ u, c ∈ L := fun u => by rw [mem_allW]; simp only [srt, mem_isort]
      have m5 : many L ≤ 5 ∧ 3 ≤ many L := by unfold many; split <;> omega
      refine ⟨⟨_, _, rfl, rfl⟩, ?_, ?_⟩
      · rintro us u post r hh eu ⟨N, x9, rfl, rfl⟩
        have hu := (memA u).mp (by rw [eu]; simp)
        cases hd : us.find? (fun t => decide (¬ Can T t)) with
        | some v =>
          have e1 : (us ++ [u]).find? (fun t => decide (¬ Can T t)) = some v := by rw [List.find?_append, hd]; rfl
          rw [e1]
          dsimp! [encO, show (D.str v = .non) = False by simp]
          exact ⟨_, _, rfl, rfl⟩
        | none =>
          dsimp! [encO, can_ok ok (t := u) (by omega)]
          by_cases hc : Can T u
          · have e1 : (us ++ [u]).find? (fun t => decide (¬ Can T t)) = none := by rw [List.find?_append, hd]; simp [hc]
            rw [e1]
            dsimp! [hc]
            exact ⟨_, _, rfl, rfl⟩
          · have e1 : (us ++ [u]).find? (fun t => decide (¬ Can T t)) = some u := by rw [List.find?_append, hd]; simp [hc]
            rw [e1]
            dsimp! [hc]
            exact ⟨_, _, rfl, rfl⟩
      · rintro r hh ⟨N, x9, rfl, rfl⟩
        cases hd : (allW (srt L) (many L)).find? (fun t => decide (¬ Can T t)) with
        | some u =>
          have : told = some u := by
            obtain ⟨h1, as, bs, h2, h3⟩ := List.find?_eq_some_iff_append.mp hd
            have hu := (memA u).mp (by rw [h2]; simp)
            have h1 : ¬ Can T u := by simpa using h1
            rcases hspec with ⟨_, q⟩ | ⟨t, rfl, q1, q2, q3, _⟩
            · exact absurd (q u hu.2) h1
            · congr 1
              have tle : t.length ≤ many L := by rcases q3 u hu.2 h1 with z | ⟨z, _⟩ <;> omega
              have tm := (memA t).mpr ⟨tle, q1⟩
              rw [h2] at tm
              rcases List.mem_append.mp tm with z | z
              · have := h3 t z; simp at this; exact absurd this q2
              · rcases List.mem_cons.mp z with z | z
                · exact z
                · have srtd := allW_sorted (srt_lt lk.nd) (many L)
                  rw [h2, List.pairwise_append] at srtd
                  have := (List.pairwise_cons.mp srtd.2.1).1 t z
                  rcases this with w | ⟨w, w2⟩ <;> rcases q3 u hu.2 h1 with y | ⟨y, y2⟩
                  · omega
                  · omega
                  · omega
                  · rcases y2 with rfl | y2
                    · rfl
                    · exact absurd (wlt_tr ordNat w2 y2) (wlt_irr ordNat u)
          subst this
          dsimp! [encO, show (D.str u = .non) = False by simp]
          exact ⟨a, b, _, _, _, _, _, _, rfl, rfl, ha, hb⟩
        | none =>
          have allc : ∀ u, u.length ≤ many L → (∀ c ∈ u, c ∈ L) → Can T u := fun u h1 h2 => by
            have := List.find?_eq_none.mp hd u ((memA u).mpr ⟨h1, h2⟩)
            simpa using this
          have rnd : ∀ (x7 : Option D) (q : SM) (K : Out → Prop), (∀ (a b : Int) (cs : List Nat) (N : Hh), 0 ≤ a → 0 ≤ b → cs.length ≤ 20 → (∀ c ∈ cs, c ∈ L) → WP q [some (D.fro (ns.map D.int)), some (D.ref h.length), some (D.int T.k), some (D.tup (T.es.map Ent.d)), x4, some T.d, some (.str L), x7, some D.non, x9, some (.str cs), x11, x12, none] (h ++ (.lst [.int a, .int b] :: N)) K) →
              WP (bSeq (bAsg (xMeth Ty.str mJoin (xC (D.str [])) (xCons (xLc (flP h) [13] (xRange1 (xCallT (flP h) m__law_draw (xCons (xVar 0) (xCons (xVar 1) (xCons (xC (D.int 21)) xNil))))) (Tg.one 13) (fun F' => xYes) fun F' => xCallT F' m__law_pick (xCons (xVar 0) (xCons (xVar 1) (xCons (xVar 6) xNil)))) xNil)) (Tg.one 10)) q)
                [some (D.fro (ns.map D.int)), some (D.ref h.length), some (D.int T.k), some (D.tup (T.es.map Ent.d)), x4, some T.d, some (.str L), x7, some D.non, x9, x10, x11, x12, none] (h ++ (.lst [.int a, .int b] :: N)) K := by
            intro x7 q K hq
            dsimp! []
            refine draw_wr (town_new ha hb) (by decide) (by decide) fun n a b n0 n1 ha hb => ?_
            rw [tw_new]
            obtain ⟨n, rfl⟩ : ∃ k : Nat, n = k := ⟨n.toNat, by omega⟩
            dsimp! []
            refine ⟨⟨by omega, by omega⟩, by omega, lcL_rnd (P := fun y => ∃ c, y = .str [c] ∧ c ∈ L) (town_new ha hb) (fun d a' b' hd ha hb => ?_) fun ys a2 b2 ha2 hb2 hys hP => ?_⟩
            · rw [tw_new]
              dsimp! []
              refine pick_str (town_new ha hb) lk.ne ll fun c a2 b2 hc ha2 hb2 => ?_
              exact ⟨a2, b2, ha2, hb2, by rw [tw_new, tw_new], c, rfl, hc⟩
            obtain ⟨cs, rfl, hcs⟩ := chars_of hP
            rw [List.length_map, range_len] at hys
            rw [tw_new]
            dsimp! [joinOf_chars (show cs.length ≤ lim by unfold lim; omega)]
            exact hq a2 b2 cs _ ha2 hb2 (by omega) hcs
          rcases hspec with ⟨rfl, q⟩ | ⟨t, rfl, q1, q2, q3, q4⟩
          · simp! [encO]
            refine wp_sq (wp_if ?_)
            simp! []
            refine wp_sq (wp_if ?_)
            simp! []
            refine wp_sq (wp_if ?_)
            simp! []
            refine rnd _ _ _ fun a b cs N ha hb hcl hcs => ?_
            have cc := q cs hcs
            have lo : LettersOk cs := by
              unfold LettersOk; rw [List.all_eq_true]; intro c hc
              exact List.all_eq_true.mp lk.ok c (hcs c hc)
            obtain ⟨w, hw⟩ : ∃ w : Wr, ∀ g, m_write [T.d, .str cs] g = .ok (.tup (w.map D.str)) g := by
              rcases write_ok ok (h := []) hcl lo with ⟨a1, a2⟩ | ⟨w, a1, _, _⟩
              · obtain ⟨w, hw⟩ := reads_can.mp cc; exact absurd hw (a2 w)
              · exact ⟨w, fun g => write_at ok hcl lo a1 g⟩
            dsimp! [hw, can_ok ok (t := cs) (by omega), cc, show (D.tup (w.map D.str) = .non) = False by simp]
            exact ⟨a, b, _, _, _, _, _, _, rfl, rfl, ha, hb⟩
          · have tl : many L < t.length := by
              rcases Nat.lt_or_ge (many L) t.length with z | z
              · exact z
              · exact absurd (allc t z q1) q2
            obtain ⟨t', c, rfl⟩ : ∃ t' c, t = t' ++ [c] := by
              rcases List.eq_nil_or_concat t with z | ⟨u, c, z⟩
              · rw [z] at tl; simp at tl
              · exact ⟨u, c, by rw [z]; simp⟩
            have ct' : Can T t' := by
              refine Classical.byContradiction fun z => ?_
              rcases q3 t' (fun c hc => q1 c (by simp [hc])) z with y | ⟨y, _⟩ <;> simp at y <;> omega
            have tl2 : (t' ++ [c]).length ≤ lim := by unfold lim; omega
            have tl3 : ¬ (((t'.length + 1 : Nat) : Int) < 4) := by simp at tl; omega
            have tl4 : t'.length ≤ 20000 := by simp at q4; omega
            have tl5 : t'.length + 1 ≤ lim := by simpa using tl2
            simp! [encO]
            refine wp_sq (wp_if ?_)
            simp! []
            refine wp_sq (wp_if ?_)
            simp! [len_str tl2, tl3, can_ok ok (t := t' ++ [c]) (by omega), q2, show (D.str (t' ++ [c]) = .non) = False by simp]
            refine wp_sq (wp_if ?_)
            simp! [tl5, cut_last, can_ok ok tl4, ct', show (D.str (t' ++ [c]) = .non) = False by simp]
            refine rnd _ _ _ fun a b cs N ha hb hcl hcs => ?_
            dsimp! [show (D.str (t' ++ [c]) = .non) = False by simp]
            exact ⟨a, b, _, _, _, _, _, _, rfl, rfl, ha, hb⟩
    · rintro r hh ⟨a, b, M, x6, x7, x8, x9, x10, rfl, rfl, ha, hb⟩
      dsimp! [F.e]
theorem law_true (ns : List Int) (hl : ns.length ≤ 63) : m_law_k05 [.fro (ns.map D.int)] [] = .ok (.bl true) [] := law_any ns []
end Dcl
end
section
set_option Elab.async false
set_option linter.all false
set_option maxRecDepth 100000
set_option maxHeartbeats 4000000
namespace Dcl
open PySem PySem.Spec PyProof.Rows L2 Dc
def top (i : Nat) : Stmt := PySem.Challenge.pw_dotcells_k05_whole_unwritable.main.body.getD i (.Pass ⟨0, 0, 0, 0⟩)
abbrev s__law_draw : Stmt := top 24
abbrev s__law_pick : Stmt := top 25
abbrev s__law_entry : Stmt := top 26
abbrev s__law_table : Stmt := top 27
abbrev s__law_texts_of : Stmt := top 29
abbrev s_is_count : Stmt := top 9
abbrev s_are_letters : Stmt := top 11
abbrev s_is_cell : Stmt := top 10
abbrev s_are_cells : Stmt := top 12
abbrev s_is_entry : Stmt := top 13
abbrev s_is_table : Stmt := top 14
abbrev s_need_table : Stmt := top 15
abbrev s_spread : Stmt := top 20
abbrev s_lettered : Stmt := top 21
abbrev s_unwritable : Stmt := top 22
abbrev s__law_can : Stmt := top 30
abbrev s_need_text : Stmt := top 16
abbrev s_write : Stmt := top 18
abbrev s_law : Stmt := top 31
abbrev FnD (K : PySem.W.Frag) (x : Str) (st : Stmt) (f : Addr) (fd : FuncData) : Prop := FunD K x x (defArgs st) (defBody st) (defScope st) [] [] f fd
structure HdK (K : PySem.W.Frag) (mg : Str → Option Value) where
  a__law_draw : Addr
  fd__law_draw : FuncData
  F__law_draw : FnD K "_law_draw" s__law_draw a__law_draw fd__law_draw
  g__law_draw : mg "_law_draw" = some (.ref a__law_draw)
  a__law_pick : Addr
  fd__law_pick : FuncData
  F__law_pick : FnD K "_law_pick" s__law_pick a__law_pick fd__law_pick
  g__law_pick : mg "_law_pick" = some (.ref a__law_pick)
  a__law_entry : Addr
  fd__law_entry : FuncData
  F__law_entry : FnD K "_law_entry" s__law_entry a__law_entry fd__law_entry
  g__law_entry : mg "_law_entry" = some (.ref a__law_entry)
  a__law_table : Addr
  fd__law_table : FuncData
  F__law_table : FnD K "_law_table" s__law_table a__law_table fd__law_table
  g__law_table : mg "_law_table" = some (.ref a__law_table)
  a__law_texts_of : Addr
  fd__law_texts_of : FuncData
  F__law_texts_of : FnD K "_law_texts_of" s__law_texts_of a__law_texts_of fd__law_texts_of
  g__law_texts_of : mg "_law_texts_of" = some (.ref a__law_texts_of)
  a_is_count : Addr
  fd_is_count : FuncData
  F_is_count : FnD K "is_count" s_is_count a_is_count fd_is_count
  g_is_count : mg "is_count" = some (.ref a_is_count)
  a_are_letters : Addr
  fd_are_letters : FuncData
  F_are_letters : FnD K "are_letters" s_are_letters a_are_letters fd_are_letters
  g_are_letters : mg "are_letters" = some (.ref a_are_letters)
  a_is_cell : Addr
  fd_is_cell : FuncData
  F_is_cell : FnD K "is_cell" s_is_cell a_is_cell fd_is_cell
  g_is_cell : mg "is_cell" = some (.ref a_is_cell)
  a_are_cells : Addr
  fd_are_cells : FuncData
  F_are_cells : FnD K "are_cells" s_are_cells a_are_cells fd_are_cells
  g_are_cells : mg "are_cells" = some (.ref a_are_cells)
  a_is_entry : Addr
  fd_is_entry : FuncData
  F_is_entry : FnD K "is_entry" s_is_entry a_is_entry fd_is_entry
  g_is_entry : mg "is_entry" = some (.ref a_is_entry)
  a_is_table : Addr
  fd_is_table : FuncData
  F_is_table : FnD K "is_table" s_is_table a_is_table fd_is_table
  g_is_table : mg "is_table" = some (.ref a_is_table)
  a_need_table : Addr
  fd_need_table : FuncData
  F_need_table : FnD K "need_table" s_need_table a_need_table fd_need_table
  g_need_table : mg "need_table" = some (.ref a_need_table)
  a_spread : Addr
  fd_spread : FuncData
  F_spread : FnD K "spread" s_spread a_spread fd_spread
  g_spread : mg "spread" = some (.ref a_spread)
  a_lettered : Addr
  fd_lettered : FuncData
  F_lettered : FnD K "lettered" s_lettered a_lettered fd_lettered
  g_lettered : mg "lettered" = some (.ref a_lettered)
  a_unwritable : Addr
  fd_unwritable : FuncData
  F_unwritable : FnD K "unwritable" s_unwritable a_unwritable fd_unwritable
  g_unwritable : mg "unwritable" = some (.ref a_unwritable)
  a__law_can : Addr
  fd__law_can : FuncData
  F__law_can : FnD K "_law_can" s__law_can a__law_can fd__law_can
  g__law_can : mg "_law_can" = some (.ref a__law_can)
  a_need_text : Addr
  fd_need_text : FuncData
  F_need_text : FnD K "need_text" s_need_text a_need_text fd_need_text
  g_need_text : mg "need_text" = some (.ref a_need_text)
  a_write : Addr
  fd_write : FuncData
  F_write : FnD K "write" s_write a_write fd_write
  g_write : mg "write" = some (.ref a_write)
  a_law : Addr
  fd_law : FuncData
  F_law : FnD K "law" s_law a_law fd_law
  g_law : mg "law" = some (.ref a_law)
  n_len : mg "len" = none
  n_range : mg "range" = none
  n_sorted : mg "sorted" = none
  n_set : mg "set" = none
  n_list : mg "list" = none
  n_tuple : mg "tuple" = none
  n_min : mg "min" = none
  n_sum : mg "sum" = none
  n_any : mg "any" = none
  n_all : mg "all" = none
  n_enumerate : mg "enumerate" = none
  n_isinstance : mg "isinstance" = none
  n_str : mg "str" = none
  n_int : mg "int" = none
  n_bool : mg "bool" = none
  n_dict : mg "dict" = none
  n_max : mg "max" = none
  c_DOTS : ∃ t, mg "DOTS" = some (.str "123456" t)
  c_LETTERS : ∃ t, mg "LETTERS" = some (.str "abcde" t)
  c_MOST : ∃ t, mg "MOST" = some (.int 20 t)
section
variable {P : Program} {w : World} {K : PySem.W.Frag} {mg : Str → Option Value} {base : Heap} {Ex : Nat → Value}
def N__law_draw : List Str := ["script", "town", "many", "one", "at", "mixed"]
theorem sc__law_draw : FnScope ["script", "town", "many", "one", "at", "mixed"] ["script", "town", "many"] (defScope s__law_draw) := ⟨rfl, rfl, rfl, by decide +kernel, rfl, by decide +kernel, by decide +kernel⟩
theorem bn__law_draw (hd : HdK K mg) : Binds K hd.fd__law_draw ["script", "town", "many"] [] := hd.F__law_draw.bindsN fun _ _ _ _ _ _ us hl => match us, hl with | [_, _, _], _ => rfl
theorem ok__law_draw (hd : HdK K mg) : FnOk P w K mg base CX0 1 hd.a__law_draw hd.fd__law_draw ["script", "town", "many"] (Dc.FnT P w K ["script", "town", "many"].length m__law_draw Ex) := by
  refine fun_town (N := N__law_draw) hd.F__law_draw sc__law_draw fun cdv A outer s H E hr F => ?_
  have hu : (cxOf CX0 P w K mg base N__law_draw "_law_draw" (defScope s__law_draw) hd.a__law_draw cdv A outer s H E).nox.A.units + 65 < cLine := by have := hr.un; show (A.deeper _).units + 65 < cLine; omega
  have hv : (cxOf CX0 P w K mg base N__law_draw "_law_draw" (defScope s__law_draw) hd.a__law_draw cdv A outer s H E).nox.A.units + 64 < cLine := by omega
  have nd : N__law_draw.Nodup := sc__law_draw.nd
  have po := @PassesOwn.never (model P w) (A.deeper (envOfC "_law_draw" (defScope s__law_draw) s.heap.objs.size hd.a__law_draw cdv)) (envOfC "_law_draw" (defScope s__law_draw) s.heap.objs.size hd.a__law_draw cdv)
  exact (dss_cons (ds_if (dt_cmp op_gt bs_gt (de_ix (by exact hu) (de_var 1) de_int) de_int (by rfl)) (dss_cons (ds_set (i := 3) (by exact nd) (de_op op_mod bs_mod (de_ix (by exact hu) (de_var 1) de_int) (de_var 2)))
  (dss_cons (ds_put (by exact hu) (de_op op_fdiv bs_div (de_ix (by exact hu) (de_var 1) de_int) (de_var 2)) (de_var 1) de_int)
  (dss_one (ds_ret (de_var 3))))) dss_nil)
  (dss_cons (ds_set (i := 4) (by exact nd) (de_ix (by exact hu) (de_var 1) de_int))
  (dss_cons (ds_aug (by exact hu) (de_var 1) de_int de_int)
  (dss_cons (ds_if (dt_cmp (op_eqD (by exact hv)) bs_eq (de_var 0) (de_lst da_nil) (by rfl)) (dss_one (ds_ret (de_op op_mod bs_mod (de_var 4) (de_var 2)))) dss_nil)
  (dss_cons (ds_if (DW.dt (dw_and (dt_cmp (or_lt (by exact hu)) bs_abs (de_var 4) (de_blt cr_len hd.n_len boot_len (da_cons (de_var 0) da_nil)) (by rfl)) (dw_and1 (dt_cmp op_ge bs_ge (de_ix (by exact hu) (de_var 0) (de_var 4)) (de_op op_pow bs_pow de_int de_int) (by rfl))))) (dss_cons (ds_put (by exact hu) (de_op op_mod bs_mod (de_op op_fdiv bs_div (de_ix (by exact hu) (de_var 0) (de_var 4)) (de_var 2)) (de_op or_mul bs_abs (de_op op_pow bs_pow de_int de_int) (de_op op_pow bs_pow de_int de_int))) (de_var 1) de_int)
  (dss_one (ds_ret (de_op op_mod bs_mod (de_ix (by exact hu) (de_var 0) (de_var 4)) (de_var 2))))) dss_nil)
  (dss_cons (ds_set (i := 5) (by exact nd) (de_op op_mod bs_mod (de_op or_add bs_add (de_op or_add bs_add (de_op or_mul bs_abs (de_ix (by exact hu) (de_var 0) (de_op op_mod bs_mod (de_var 4) (de_blt cr_len hd.n_len boot_len (da_cons (de_var 0) da_nil)))) de_int) (de_op or_mul bs_abs de_int (de_var 4))) de_int) de_int))
  (dss_one (ds_ret (de_op op_mod bs_mod (de_op op_mod bs_mod (de_op op_mod bs_mod (de_op op_pow bs_pow (de_var 5) de_int) de_int) de_int) (de_var 2))))))))))
def N__law_pick : List Str := ["script", "town", "some"]
theorem sc__law_pick : FnScope ["script", "town", "some"] ["script", "town", "some"] (defScope s__law_pick) := ⟨rfl, rfl, rfl, by decide +kernel, rfl, by decide +kernel, by decide +kernel⟩
theorem bn__law_pick (hd : HdK K mg) : Binds K hd.fd__law_pick ["script", "town", "some"] [] := hd.F__law_pick.bindsN fun _ _ _ _ _ _ us hl => match us, hl with | [_, _, _], _ => rfl
theorem ok__law_pick (hd : HdK K mg) : FnOk P w K mg base CX0 2 hd.a__law_pick hd.fd__law_pick ["script", "town", "some"] (Dc.FnT P w K ["script", "town", "some"].length m__law_pick Ex) := by
  refine fun_town (N := N__law_pick) hd.F__law_pick sc__law_pick fun cdv A outer s H E hr F => ?_
  have hu : (cxOf CX0 P w K mg base N__law_pick "_law_pick" (defScope s__law_pick) hd.a__law_pick cdv A outer s H E).nox.A.units + 65 < cLine := by have := hr.un; show (A.deeper _).units + 65 < cLine; omega
  have hv : (cxOf CX0 P w K mg base N__law_pick "_law_pick" (defScope s__law_pick) hd.a__law_pick cdv A outer s H E).nox.A.units + 64 < cLine := by omega
  have nd : N__law_pick.Nodup := sc__law_pick.nd
  have po := @PassesOwn.never (model P w) (A.deeper (envOfC "_law_pick" (defScope s__law_pick) s.heap.objs.size hd.a__law_pick cdv)) (envOfC "_law_pick" (defScope s__law_pick) s.heap.objs.size hd.a__law_pick cdv)
  exact (dss_one (ds_ret (de_ix (by exact hu) (de_var 2) (de_callT (ok__law_draw (Ex := Ex) hd) (by exact hr.mono (by decide)) hd.g__law_draw hd.F__law_draw.kp (bn__law_draw hd) (da_cons (de_var 0) (da_cons (de_var 1) (da_cons (de_blt cr_len hd.n_len boot_len (da_cons (de_var 2) da_nil)) da_nil)))))))
def N__law_entry : List Str := ["script", "town", "modes", "cells", "text", "own", "k"]
theorem sc__law_entry : FnScope ["script", "town", "modes", "cells", "text", "own", "k"] ["script", "town", "modes", "cells"] (defScope s__law_entry) := ⟨rfl, rfl, rfl, by decide +kernel, rfl, by decide +kernel, by decide +kernel⟩
theorem bk__law_entry_1 : BlkOk N__law_entry (defScope s__law_entry) ⟨.function, [(".0", .local), ("k", .local), ("_law_pick", .globalImplicit), ("script", .free), ("town", .free)], false, false, []⟩ [("k", 6)] := ⟨rfl, by decide +kernel, by decide +kernel, by decide +kernel, by decide +kernel⟩
theorem bk__law_entry_2 : BlkOk N__law_entry (defScope s__law_entry) ⟨.function, [(".0", .local), ("k", .local), ("_law_pick", .globalImplicit), ("cells", .free), ("script", .free), ("town", .free)], false, false, []⟩ [("k", 6)] := ⟨rfl, by decide +kernel, by decide +kernel, by decide +kernel, by decide +kernel⟩
theorem bn__law_entry (hd : HdK K mg) : Binds K hd.fd__law_entry ["script", "town", "modes", "cells"] [] := hd.F__law_entry.bindsN fun _ _ _ _ _ _ us hl => match us, hl with | [_, _, _, _], _ => rfl
theorem ok__law_entry (hd : HdK K mg) : FnOk P w K mg base CX0 3 hd.a__law_entry hd.fd__law_entry ["script", "town", "modes", "cells"] (Dc.FnT P w K ["script", "town", "modes", "cells"].length m__law_entry Ex) := by
  refine fun_town (N := N__law_entry) hd.F__law_entry sc__law_entry fun cdv A outer s H E hr F => ?_
  have hu : (cxOf CX0 P w K mg base N__law_entry "_law_entry" (defScope s__law_entry) hd.a__law_entry cdv A outer s H E).nox.A.units + 65 < cLine := by have := hr.un; show (A.deeper _).units + 65 < cLine; omega
  have hv : (cxOf CX0 P w K mg base N__law_entry "_law_entry" (defScope s__law_entry) hd.a__law_entry cdv A outer s H E).nox.A.units + 64 < cLine := by omega
  have nd : N__law_entry.Nodup := sc__law_entry.nd
  have po := @PassesOwn.never (model P w) (A.deeper (envOfC "_law_entry" (defScope s__law_entry) s.heap.objs.size hd.a__law_entry cdv)) (envOfC "_law_entry" (defScope s__law_entry) s.heap.objs.size hd.a__law_entry cdv)
  exact (dss_cons (ds_set (i := 4) (by exact nd) (de_meth (T := .str) PySem.F.plainAttrs_str PySem.F.slot_str_join PySem.F.type_str_join mt_joinm de_str (da_cons (de_lc (own := [("k", 6)]) rfl (by exact nd) (di_range1 hd.n_range (de_callT (ok__law_pick (Ex := Ex) hd) (by exact hr.mono (by decide)) hd.g__law_pick hd.F__law_pick.kp (bn__law_pick hd) (da_cons (de_var 0) (da_cons (de_var 1) (da_cons (de_lst (da_cons de_int (da_cons de_int (da_cons de_int (da_cons de_int (da_cons de_int da_nil)))))) da_nil))))) bk__law_entry_1 (by decide) (fun _ _ _ _ _ => (dg_one 6 (by exact nd))) (fun _ _ _ _ _ F' => dts_nil) (fun _ _ _ _ _ F' => (de_callT (ok__law_pick (Ex := Ex) hd) (by exact hr.mono (by decide)) hd.g__law_pick hd.F__law_pick.kp (bn__law_pick hd) (da_cons (de_var 0) (da_cons (de_var 1) (da_cons de_str da_nil)))))) da_nil)))
  (dss_cons (ds_set (i := 5) (by exact nd) (de_bty crd_tup hd.n_tuple boot_tuple (da_cons (de_lc (own := [("k", 6)]) rfl (by exact nd) (di_range1 hd.n_range (de_callT (ok__law_pick (Ex := Ex) hd) (by exact hr.mono (by decide)) hd.g__law_pick hd.F__law_pick.kp (bn__law_pick hd) (da_cons (de_var 0) (da_cons (de_var 1) (da_cons (de_lst (da_cons de_int (da_cons de_int (da_cons de_int (da_cons de_int (da_cons de_int da_nil)))))) da_nil))))) bk__law_entry_2 (by decide) (fun _ _ _ _ _ => (dg_one 6 (by exact nd))) (fun _ _ _ _ _ F' => dts_nil) (fun _ _ _ _ _ F' => (de_callT (ok__law_pick (Ex := Ex) hd) (by exact hr.mono (by decide)) hd.g__law_pick hd.F__law_pick.kp (bn__law_pick hd) (da_cons (de_var 0) (da_cons (de_var 1) (da_cons (de_var 3) da_nil)))))) da_nil)))
  (dss_one (ds_ret (de_tup (da_cons (de_callT (ok__law_draw (Ex := Ex) hd) (by exact hr.mono (by decide)) hd.g__law_draw hd.F__law_draw.kp (bn__law_draw hd) (da_cons (de_var 0) (da_cons (de_var 1) (da_cons (de_var 2) da_nil)))) (da_cons (de_var 4) (da_cons (de_var 5) (da_cons (de_callT (ok__law_draw (Ex := Ex) hd) (by exact hr.mono (by decide)) hd.g__law_draw hd.F__law_draw.kp (bn__law_draw hd) (da_cons (de_var 0) (da_cons (de_var 1) (da_cons (de_var 2) da_nil)))) da_nil)))))))))
def N__law_table : List Str := ["script", "town", "most", "cells", "modes", "entries", "k", "entry"]
theorem sc__law_table : FnScope ["script", "town", "most", "cells", "modes", "entries", "k", "entry"] ["script", "town", "most"] (defScope s__law_table) := ⟨rfl, rfl, rfl, by decide +kernel, rfl, by decide +kernel, by decide +kernel⟩
theorem bn__law_table (hd : HdK K mg) : Binds K hd.fd__law_table ["script", "town", "most"] [] := hd.F__law_table.bindsN fun _ _ _ _ _ _ us hl => match us, hl with | [_, _, _], _ => rfl
theorem ok__law_table (hd : HdK K mg) : FnOk P w K mg base CX0 4 hd.a__law_table hd.fd__law_table ["script", "town", "most"] (Dc.FnT P w K ["script", "town", "most"].length m__law_table Ex) := by
  refine fun_town (N := N__law_table) hd.F__law_table sc__law_table fun cdv A outer s H E hr F => ?_
  have hu : (cxOf CX0 P w K mg base N__law_table "_law_table" (defScope s__law_table) hd.a__law_table cdv A outer s H E).nox.A.units + 65 < cLine := by have := hr.un; show (A.deeper _).units + 65 < cLine; omega
  have hv : (cxOf CX0 P w K mg base N__law_table "_law_table" (defScope s__law_table) hd.a__law_table cdv A outer s H E).nox.A.units + 64 < cLine := by omega
  have nd : N__law_table.Nodup := sc__law_table.nd
  have po := @PassesOwn.never (model P w) (A.deeper (envOfC "_law_table" (defScope s__law_table) s.heap.objs.size hd.a__law_table cdv)) (envOfC "_law_table" (defScope s__law_table) s.heap.objs.size hd.a__law_table cdv)
  exact (dss_cons (ds_set (i := 3) (by exact nd) (de_callT (ok__law_pick (Ex := Ex) hd) (by exact hr.mono (by decide)) hd.g__law_pick hd.F__law_pick.kp (bn__law_pick hd) (da_cons (de_var 0) (da_cons (de_var 1) (da_cons (de_lst (da_cons (de_lst (da_cons de_str (da_cons de_str da_nil))) (da_cons (de_lst (da_cons de_str (da_cons de_str da_nil))) (da_cons (de_lst (da_cons de_str (da_cons de_str (da_cons de_str da_nil)))) (da_cons (de_lst (da_cons de_str (da_cons de_str (da_cons de_str da_nil)))) da_nil))))) da_nil)))))
  (dss_cons (ds_par (i := 4) (j := 5) rfl (by exact nd) (de_callT (ok__law_pick (Ex := Ex) hd) (by exact hr.mono (by decide)) hd.g__law_pick hd.F__law_pick.kp (bn__law_pick hd) (da_cons (de_var 0) (da_cons (de_var 1) (da_cons (de_lst (da_cons de_int (da_cons de_int (da_cons de_int da_nil)))) da_nil)))) (de_lst da_nil))
  (dss_cons (ds_for (by exact po) rfl (di_range1 hd.n_range (de_op or_add bs_add de_int (de_callT (ok__law_draw (Ex := Ex) hd) (by exact hr.mono (by decide)) hd.g__law_draw hd.F__law_draw.kp (bn__law_draw hd) (da_cons (de_var 0) (da_cons (de_var 1) (da_cons (de_var 2) da_nil)))))) (dg_one 6 (by exact nd)) (fun F1 => (dss_cons (ds_set (i := 7) (by exact nd) (de_callT (ok__law_entry (Ex := Ex) hd) (by exact hr.mono (by decide)) hd.g__law_entry hd.F__law_entry.kp (bn__law_entry hd) (da_cons (de_var 0) (da_cons (de_var 1) (da_cons (de_var 4) (da_cons (de_var 3) da_nil))))))
  (dss_one (ds_if (dt_cmp (or_notin (by exact hu)) bs_abs (de_var 7) (de_var 5) (by rfl)) (dss_one (ds_expr (de_meth (T := .list) PySem.F.plainAttrs_list PySem.F.slot_list_append PySem.F.type_list_append mt_app (de_var 5) (da_cons (de_var 7) da_nil)))) dss_nil)))))
  (dss_one (ds_ret (de_tup (da_cons (de_var 4) (da_cons (de_bty crd_tup hd.n_tuple boot_tuple (da_cons (de_var 5) da_nil)) da_nil))))))))
def N__law_texts_of : List Str := ["letters", "most", "found", "newest", "k", "longer", "one", "letter"]
theorem sc__law_texts_of : FnScope ["letters", "most", "found", "newest", "k", "longer", "one", "letter"] ["letters", "most"] (defScope s__law_texts_of) := ⟨rfl, rfl, rfl, by decide +kernel, rfl, by decide +kernel, by decide +kernel⟩
theorem bk__law_texts_of_1 : BlkOk N__law_texts_of (defScope s__law_texts_of) ⟨.function, [(".0", .local), ("letter", .local), ("one", .free)], false, false, []⟩ [("letter", 7)] := ⟨rfl, by decide +kernel, by decide +kernel, by decide +kernel, by decide +kernel⟩
theorem bn__law_texts_of (hd : HdK K mg) : Binds K hd.fd__law_texts_of ["letters", "most"] [] := hd.F__law_texts_of.bindsN fun _ _ _ _ _ _ us hl => match us, hl with | [_, _], _ => rfl
theorem ok__law_texts_of (hd : HdK K mg) : FnOk P w K mg base CX0 1 hd.a__law_texts_of hd.fd__law_texts_of ["letters", "most"] (Dc.FnP P w K ["letters", "most"].length m__law_texts_of Ex) := by
  refine fun_pure (N := N__law_texts_of) hd.F__law_texts_of sc__law_texts_of fun cdv A outer s H E hr F => ?_
  have hu : (cxOf CX0 P w K mg base N__law_texts_of "_law_texts_of" (defScope s__law_texts_of) hd.a__law_texts_of cdv A outer s H E).nox.A.units + 65 < cLine := by have := hr.un; show (A.deeper _).units + 65 < cLine; omega
  have hv : (cxOf CX0 P w K mg base N__law_texts_of "_law_texts_of" (defScope s__law_texts_of) hd.a__law_texts_of cdv A outer s H E).nox.A.units + 64 < cLine := by omega
  have nd : N__law_texts_of.Nodup := sc__law_texts_of.nd
  have po := @PassesOwn.never (model P w) (A.deeper (envOfC "_law_texts_of" (defScope s__law_texts_of) s.heap.objs.size hd.a__law_texts_of cdv)) (envOfC "_law_texts_of" (defScope s__law_texts_of) s.heap.objs.size hd.a__law_texts_of cdv)
  exact (dss_cons (ds_par (i := 2) (j := 3) rfl (by exact nd) (de_lst (da_cons de_str da_nil)) (de_lst (da_cons de_str da_nil)))
  (dss_cons (ds_for (by exact po) rfl (di_range1 hd.n_range (de_var 1)) (dg_one 4 (by exact nd)) (fun F1 => (dss_cons (ds_set (i := 5) (by exact nd) (de_lst da_nil))
  (dss_cons (ds_for (by exact po) rfl (di_any (de_var 3)) (dg_one 6 (by exact nd)) (fun F2 => (dss_one (ds_expr (de_meth (T := .list) PySem.F.plainAttrs_list PySem.F.slot_list_extend PySem.F.type_list_extend mt_ext (de_var 5) (da_cons (de_lc (own := [("letter", 7)]) rfl (by exact nd) (di_any (de_blt (crd_sortedA rfl (by exact hu)) hd.n_sorted boot_sorted (da_cons (de_var 0) da_nil))) bk__law_texts_of_1 (by decide) (fun _ _ _ _ _ => (dg_one 7 (by exact nd))) (fun _ _ _ _ _ F' => dts_nil) (fun _ _ _ _ _ F' => (de_op or_add bs_add (de_var 6) (de_var 7)))) da_nil))))))
  (dss_cons (ds_expr (de_meth (T := .list) PySem.F.plainAttrs_list PySem.F.slot_list_extend PySem.F.type_list_extend mt_ext (de_var 2) (da_cons (de_var 5) da_nil)))
  (dss_one (ds_set (i := 3) (by exact nd) (de_var 5))))))))
  (dss_one (ds_ret (de_var 2)))))
def N_is_count : List Str := ["value", "least", "most"]
theorem sc_is_count : FnScope ["value", "least", "most"] ["value", "least", "most"] (defScope s_is_count) := ⟨rfl, rfl, rfl, by decide +kernel, rfl, by decide +kernel, by decide +kernel⟩
theorem bn_is_count (hd : HdK K mg) : Binds K hd.fd_is_count ["value", "least", "most"] [] := hd.F_is_count.bindsN fun _ _ _ _ _ _ us hl => match us, hl with | [_, _, _], _ => rfl
theorem ok_is_count (hd : HdK K mg) : FnOk P w K mg base CX0 1 hd.a_is_count hd.fd_is_count ["value", "least", "most"] (Dc.FnP P w K ["value", "least", "most"].length m_is_count Ex) := by
  refine fun_pure (N := N_is_count) hd.F_is_count sc_is_count fun cdv A outer s H E hr F => ?_
  have hu : (cxOf CX0 P w K mg base N_is_count "is_count" (defScope s_is_count) hd.a_is_count cdv A outer s H E).nox.A.units + 65 < cLine := by have := hr.un; show (A.deeper _).units + 65 < cLine; omega
  have hv : (cxOf CX0 P w K mg base N_is_count "is_count" (defScope s_is_count) hd.a_is_count cdv A outer s H E).nox.A.units + 64 < cLine := by omega
  have nd : N_is_count.Nodup := sc_is_count.nd
  have po := @PassesOwn.never (model P w) (A.deeper (envOfC "is_count" (defScope s_is_count) s.heap.objs.size hd.a_is_count cdv)) (envOfC "is_count" (defScope s_is_count) s.heap.objs.size hd.a_is_count cdv)
  exact (dss_one (ds_ret (de_and (de_isi (T := "int") hd.n_isinstance hd.n_int boot_int (de_var 0)) (de_and (de_not (de_isi (T := "bool") hd.n_isinstance hd.n_bool boot_bool (de_var 0))) (de_one (de_chain op_le bs_le op_le bs_le (de_var 1) (de_var 0) (de_var 2)))))))
def N_are_letters : List Str := ["value", "most", "letter"]
theorem sc_are_letters : FnScope ["value", "most", "letter"] ["value", "most"] (defScope s_are_letters) := ⟨rfl, rfl, rfl, by decide +kernel, rfl, by decide +kernel, by decide +kernel⟩
theorem bk_are_letters_1 : BlkOk N_are_letters (defScope s_are_letters) ⟨.function, [(".0", .local), ("letter", .local), ("LETTERS", .globalImplicit)], false, false, []⟩ [("letter", 2)] := ⟨rfl, by decide +kernel, by decide +kernel, by decide +kernel, by decide +kernel⟩
theorem bn_are_letters (hd : HdK K mg) : Binds K hd.fd_are_letters ["value", "most"] [] := hd.F_are_letters.bindsN fun _ _ _ _ _ _ us hl => match us, hl with | [_, _], _ => rfl
theorem ok_are_letters (hd : HdK K mg) : FnOk P w K mg base CX0 1 hd.a_are_letters hd.fd_are_letters ["value", "most"] (Dc.FnP P w K ["value", "most"].length m_are_letters Ex) := by
  refine fun_pure (N := N_are_letters) hd.F_are_letters sc_are_letters fun cdv A outer s H E hr F => ?_
  have hu : (cxOf CX0 P w K mg base N_are_letters "are_letters" (defScope s_are_letters) hd.a_are_letters cdv A outer s H E).nox.A.units + 65 < cLine := by have := hr.un; show (A.deeper _).units + 65 < cLine; omega
  have hv : (cxOf CX0 P w K mg base N_are_letters "are_letters" (defScope s_are_letters) hd.a_are_letters cdv A outer s H E).nox.A.units + 64 < cLine := by omega
  have nd : N_are_letters.Nodup := sc_are_letters.nd
  have po := @PassesOwn.never (model P w) (A.deeper (envOfC "are_letters" (defScope s_are_letters) s.heap.objs.size hd.a_are_letters cdv)) (envOfC "are_letters" (defScope s_are_letters) s.heap.objs.size hd.a_are_letters cdv)
  exact (dss_one (ds_ret (de_and (de_isi (T := "str") hd.n_isinstance hd.n_str boot_str (de_var 0)) (de_and (de_cmp op_le bs_le (de_blt cr_len hd.n_len boot_len (da_cons (de_var 0) da_nil)) (de_var 1) (by rfl)) (de_one (de_blt (crd_all rfl) hd.n_all boot_all (da_cons (de_lc (own := [("letter", 2)]) rfl (by exact nd) (di_any (de_var 0)) bk_are_letters_1 (by decide) (fun _ _ _ _ _ => (dg_one 2 (by exact nd))) (fun _ _ _ _ _ F' => dts_nil) (fun _ _ _ _ _ F' => (de_cmp (or_in (by exact hu)) bs_abs (de_var 2) (de_gstr hd.c_LETTERS.choose_spec) (by rfl)))) da_nil)))))))
def N_is_cell : List Str := ["value", "dot"]
theorem sc_is_cell : FnScope ["value", "dot"] ["value"] (defScope s_is_cell) := ⟨rfl, rfl, rfl, by decide +kernel, rfl, by decide +kernel, by decide +kernel⟩
theorem bk_is_cell_1 : BlkOk N_is_cell (defScope s_is_cell) ⟨.function, [(".0", .local), ("dot", .local), ("value", .free)], false, false, []⟩ [("dot", 1)] := ⟨rfl, by decide +kernel, by decide +kernel, by decide +kernel, by decide +kernel⟩
theorem bn_is_cell (hd : HdK K mg) : Binds K hd.fd_is_cell ["value"] [] := hd.F_is_cell.bindsN fun _ _ _ _ _ _ us hl => match us, hl with | [_], _ => rfl
theorem bi_is_cell (hd : HdK K mg) (s : Shared) (u : Value) : BindsTo s hd.fd_is_cell ⟨[u], []⟩ [("value", u)] := FunD.bindsA (ps := ["value"]) hd.F_is_cell (fun _ _ _ _ _ _ us hl => match us, hl with | [_], _ => rfl) s [u] rfl
theorem ok_is_cell (hd : HdK K mg) : FnOk P w K mg base CX0 1 hd.a_is_cell hd.fd_is_cell ["value"] (Dc.FnP P w K ["value"].length m_is_cell Ex) := by
  refine fun_pure (N := N_is_cell) hd.F_is_cell sc_is_cell fun cdv A outer s H E hr F => ?_
  have hu : (cxOf CX0 P w K mg base N_is_cell "is_cell" (defScope s_is_cell) hd.a_is_cell cdv A outer s H E).nox.A.units + 65 < cLine := by have := hr.un; show (A.deeper _).units + 65 < cLine; omega
  have hv : (cxOf CX0 P w K mg base N_is_cell "is_cell" (defScope s_is_cell) hd.a_is_cell cdv A outer s H E).nox.A.units + 64 < cLine := by omega
  have nd : N_is_cell.Nodup := sc_is_cell.nd
  have po := @PassesOwn.never (model P w) (A.deeper (envOfC "is_cell" (defScope s_is_cell) s.heap.objs.size hd.a_is_cell cdv)) (envOfC "is_cell" (defScope s_is_cell) s.heap.objs.size hd.a_is_cell cdv)
  exact (dss_one (ds_ret (de_and (de_isi (T := "str") hd.n_isinstance hd.n_str boot_str (de_var 0)) (de_one (de_cmp (op_eqD (by exact hv)) bs_eq (de_meth (T := .str) PySem.F.plainAttrs_str PySem.F.slot_str_join PySem.F.type_str_join mt_joinm de_str (da_cons (de_lc (own := [("dot", 1)]) rfl (by exact nd) (di_any (de_gstr hd.c_DOTS.choose_spec)) bk_is_cell_1 (by decide) (fun _ _ _ _ _ => (dg_one 1 (by exact nd))) (fun _ _ _ _ _ F' => (dts_one (dt_cmp (or_in (by exact hu)) bs_abs (de_var 1) (de_var 0) (by rfl)))) (fun _ _ _ _ _ F' => (de_var 1))) da_nil)) (de_var 0) (by rfl))))))
def N_are_cells : List Str := ["value", "least", "most", "cell"]
theorem sc_are_cells : FnScope ["value", "least", "most", "cell"] ["value", "least", "most"] (defScope s_are_cells) := ⟨rfl, rfl, rfl, by decide +kernel, rfl, by decide +kernel, by decide +kernel⟩
theorem bk_are_cells_1 : BlkOk N_are_cells (defScope s_are_cells) ⟨.function, [(".0", .local), ("cell", .local), ("is_cell", .globalImplicit)], false, false, []⟩ [("cell", 3)] := ⟨rfl, by decide +kernel, by decide +kernel, by decide +kernel, by decide +kernel⟩
theorem bn_are_cells (hd : HdK K mg) : Binds K hd.fd_are_cells ["value", "least", "most"] [] := hd.F_are_cells.bindsN fun _ _ _ _ _ _ us hl => match us, hl with | [_, _, _], _ => rfl
theorem ok_are_cells (hd : HdK K mg) : FnOk P w K mg base CX0 2 hd.a_are_cells hd.fd_are_cells ["value", "least", "most"] (Dc.FnP P w K ["value", "least", "most"].length m_are_cells Ex) := by
  refine fun_pure (N := N_are_cells) hd.F_are_cells sc_are_cells fun cdv A outer s H E hr F => ?_
  have hu : (cxOf CX0 P w K mg base N_are_cells "are_cells" (defScope s_are_cells) hd.a_are_cells cdv A outer s H E).nox.A.units + 65 < cLine := by have := hr.un; show (A.deeper _).units + 65 < cLine; omega
  have hv : (cxOf CX0 P w K mg base N_are_cells "are_cells" (defScope s_are_cells) hd.a_are_cells cdv A outer s H E).nox.A.units + 64 < cLine := by omega
  have nd : N_are_cells.Nodup := sc_are_cells.nd
  have po := @PassesOwn.never (model P w) (A.deeper (envOfC "are_cells" (defScope s_are_cells) s.heap.objs.size hd.a_are_cells cdv)) (envOfC "are_cells" (defScope s_are_cells) s.heap.objs.size hd.a_are_cells cdv)
  exact (dss_one (ds_ret (de_and (de_isi (T := "tuple") hd.n_isinstance hd.n_tuple boot_tuple (de_var 0)) (de_and (de_chain op_le bs_le op_le bs_le (de_var 1) (de_blt cr_len hd.n_len boot_len (da_cons (de_var 0) da_nil)) (de_var 2)) (de_one (de_blt (crd_all rfl) hd.n_all boot_all (da_cons (de_lc (own := [("cell", 3)]) rfl (by exact nd) (di_any (de_var 0)) bk_are_cells_1 (by decide) (fun _ _ _ _ _ => (dg_one 3 (by exact nd))) (fun _ _ _ _ _ F' => dts_nil) (fun _ _ _ _ _ F' => (de_call (ok_is_cell (Ex := Ex) hd) (by exact hr.mono (by decide)) hd.g_is_cell hd.F_is_cell.kp (bn_is_cell hd) (da_cons (de_var 3) da_nil)))) da_nil)))))))
def N_is_entry : List Str := ["value", "modes"]
theorem sc_is_entry : FnScope ["value", "modes"] ["value", "modes"] (defScope s_is_entry) := ⟨rfl, rfl, rfl, by decide +kernel, rfl, by decide +kernel, by decide +kernel⟩
theorem bn_is_entry (hd : HdK K mg) : Binds K hd.fd_is_entry ["value", "modes"] [] := hd.F_is_entry.bindsN fun _ _ _ _ _ _ us hl => match us, hl with | [_, _], _ => rfl
theorem ok_is_entry (hd : HdK K mg) : FnOk P w K mg base CX0 3 hd.a_is_entry hd.fd_is_entry ["value", "modes"] (Dc.FnP P w K ["value", "modes"].length m_is_entry Ex) := by
  refine fun_pure (N := N_is_entry) hd.F_is_entry sc_is_entry fun cdv A outer s H E hr F => ?_
  have hu : (cxOf CX0 P w K mg base N_is_entry "is_entry" (defScope s_is_entry) hd.a_is_entry cdv A outer s H E).nox.A.units + 65 < cLine := by have := hr.un; show (A.deeper _).units + 65 < cLine; omega
  have hv : (cxOf CX0 P w K mg base N_is_entry "is_entry" (defScope s_is_entry) hd.a_is_entry cdv A outer s H E).nox.A.units + 64 < cLine := by omega
  have nd : N_is_entry.Nodup := sc_is_entry.nd
  have po := @PassesOwn.never (model P w) (A.deeper (envOfC "is_entry" (defScope s_is_entry) s.heap.objs.size hd.a_is_entry cdv)) (envOfC "is_entry" (defScope s_is_entry) s.heap.objs.size hd.a_is_entry cdv)
  exact (dss_cons (ds_if (DW.dt (dw_or (dt_not (dt_val (de_isi (T := "tuple") hd.n_isinstance hd.n_tuple boot_tuple (de_var 0)))) (dw_or (dt_cmp (op_neD (by exact hv)) bs_ne (de_blt cr_len hd.n_len boot_len (da_cons (de_var 0) da_nil)) de_int (by rfl)) (dw_or1 (dt_not (dt_val (de_call (ok_is_count (Ex := Ex) hd) (by exact hr.mono (by decide)) hd.g_is_count hd.F_is_count.kp (bn_is_count hd) (da_cons (de_ix (by exact hu) (de_var 0) de_int) (da_cons de_int (da_cons (de_op op_sub bs_sub (de_var 1) de_int) da_nil)))))))))) (dss_one (ds_ret de_bl)) dss_nil)
  (dss_one (ds_ret (de_and (de_call (ok_are_letters (Ex := Ex) hd) (by exact hr.mono (by decide)) hd.g_are_letters hd.F_are_letters.kp (bn_are_letters hd) (da_cons (de_ix (by exact hu) (de_var 0) de_int) (da_cons de_int da_nil))) (de_and (de_call (ok_are_cells (Ex := Ex) hd) (by exact hr.mono (by decide)) hd.g_are_cells hd.F_are_cells.kp (bn_are_cells hd) (da_cons (de_ix (by exact hu) (de_var 0) de_int) (da_cons de_int (da_cons de_int da_nil)))) (de_one (de_call (ok_is_count (Ex := Ex) hd) (by exact hr.mono (by decide)) hd.g_is_count hd.F_is_count.kp (bn_is_count hd) (da_cons (de_ix (by exact hu) (de_var 0) de_int) (da_cons de_int (da_cons (de_op op_sub bs_sub (de_var 1) de_int) da_nil))))))))))
def N_is_table : List Str := ["value", "modes", "entries", "entry"]
theorem sc_is_table : FnScope ["value", "modes", "entries", "entry"] ["value"] (defScope s_is_table) := ⟨rfl, rfl, rfl, by decide +kernel, rfl, by decide +kernel, by decide +kernel⟩
theorem bk_is_table_1 : BlkOk N_is_table (defScope s_is_table) ⟨.function, [(".0", .local), ("entry", .local), ("is_entry", .globalImplicit), ("modes", .free)], false, false, []⟩ [("entry", 3)] := ⟨rfl, by decide +kernel, by decide +kernel, by decide +kernel, by decide +kernel⟩
theorem bn_is_table (hd : HdK K mg) : Binds K hd.fd_is_table ["value"] [] := hd.F_is_table.bindsN fun _ _ _ _ _ _ us hl => match us, hl with | [_], _ => rfl
theorem bi_is_table (hd : HdK K mg) (s : Shared) (u : Value) : BindsTo s hd.fd_is_table ⟨[u], []⟩ [("value", u)] := FunD.bindsA (ps := ["value"]) hd.F_is_table (fun _ _ _ _ _ _ us hl => match us, hl with | [_], _ => rfl) s [u] rfl
theorem ok_is_table (hd : HdK K mg) : FnOk P w K mg base CX0 4 hd.a_is_table hd.fd_is_table ["value"] (Dc.FnP P w K ["value"].length m_is_table Ex) := by
  refine fun_pure (N := N_is_table) hd.F_is_table sc_is_table fun cdv A outer s H E hr F => ?_
  have hu : (cxOf CX0 P w K mg base N_is_table "is_table" (defScope s_is_table) hd.a_is_table cdv A outer s H E).nox.A.units + 65 < cLine := by have := hr.un; show (A.deeper _).units + 65 < cLine; omega
  have hv : (cxOf CX0 P w K mg base N_is_table "is_table" (defScope s_is_table) hd.a_is_table cdv A outer s H E).nox.A.units + 64 < cLine := by omega
  have nd : N_is_table.Nodup := sc_is_table.nd
  have po := @PassesOwn.never (model P w) (A.deeper (envOfC "is_table" (defScope s_is_table) s.heap.objs.size hd.a_is_table cdv)) (envOfC "is_table" (defScope s_is_table) s.heap.objs.size hd.a_is_table cdv)
  exact (dss_cons (ds_if (DW.dt (dw_or (dt_not (dt_val (de_isi (T := "tuple") hd.n_isinstance hd.n_tuple boot_tuple (de_var 0)))) (dw_or (dt_cmp (op_neD (by exact hv)) bs_ne (de_blt cr_len hd.n_len boot_len (da_cons (de_var 0) da_nil)) de_int (by rfl)) (dw_or1 (dt_not (dt_val (de_call (ok_is_count (Ex := Ex) hd) (by exact hr.mono (by decide)) hd.g_is_count hd.F_is_count.kp (bn_is_count hd) (da_cons (de_ix (by exact hu) (de_var 0) de_int) (da_cons de_int (da_cons de_int da_nil)))))))))) (dss_one (ds_ret de_bl)) dss_nil)
  (dss_cons (ds_asg (de_var 0) (dg_many rfl (dgs_cons 1 (by exact nd) (dgs_cons 2 (by exact nd) dgs_nil))))
  (dss_cons (ds_if (DW.dt (dw_or (dt_not (dt_val (de_isi (T := "tuple") hd.n_isinstance hd.n_tuple boot_tuple (de_var 2)))) (dw_or1 (dt_not (dt_chain op_le bs_le op_le bs_le de_int (de_blt cr_len hd.n_len boot_len (da_cons (de_var 2) da_nil)) de_int))))) (dss_one (ds_ret de_bl)) dss_nil)
  (dss_one (ds_ret (de_and (de_blt (crd_all rfl) hd.n_all boot_all (da_cons (de_lc (own := [("entry", 3)]) rfl (by exact nd) (di_any (de_var 2)) bk_is_table_1 (by decide) (fun _ _ _ _ _ => (dg_one 3 (by exact nd))) (fun _ _ _ _ _ F' => dts_nil) (fun _ _ _ _ _ F' => (de_call (ok_is_entry (Ex := Ex) hd) (by exact hr.mono (by decide)) hd.g_is_entry hd.F_is_entry.kp (bn_is_entry hd) (da_cons (de_var 3) (da_cons (de_var 1) da_nil))))) da_nil)) (de_one (de_cmp (op_eqD (by exact hv)) bs_eq (de_lenSet rfl (by have := hu; omega) hd.n_len hd.n_set (de_var 2)) (de_blt cr_len hd.n_len boot_len (da_cons (de_var 2) da_nil)) (by rfl)))))))))
def N_need_table : List Str := ["value"]
theorem sc_need_table : FnScope ["value"] ["value"] (defScope s_need_table) := ⟨rfl, rfl, rfl, by decide +kernel, rfl, by decide +kernel, by decide +kernel⟩
theorem bn_need_table (hd : HdK K mg) : Binds K hd.fd_need_table ["value"] [] := hd.F_need_table.bindsN fun _ _ _ _ _ _ us hl => match us, hl with | [_], _ => rfl
theorem bi_need_table (hd : HdK K mg) (s : Shared) (u : Value) : BindsTo s hd.fd_need_table ⟨[u], []⟩ [("value", u)] := FunD.bindsA (ps := ["value"]) hd.F_need_table (fun _ _ _ _ _ _ us hl => match us, hl with | [_], _ => rfl) s [u] rfl
theorem ok_need_table (hd : HdK K mg) : FnOk P w K mg base CX0 5 hd.a_need_table hd.fd_need_table ["value"] (Dc.FnP P w K ["value"].length m_need_table Ex) := by
  refine fun_pure (N := N_need_table) hd.F_need_table sc_need_table fun cdv A outer s H E hr F => ?_
  have hu : (cxOf CX0 P w K mg base N_need_table "need_table" (defScope s_need_table) hd.a_need_table cdv A outer s H E).nox.A.units + 65 < cLine := by have := hr.un; show (A.deeper _).units + 65 < cLine; omega
  have hv : (cxOf CX0 P w K mg base N_need_table "need_table" (defScope s_need_table) hd.a_need_table cdv A outer s H E).nox.A.units + 64 < cLine := by omega
  have nd : N_need_table.Nodup := sc_need_table.nd
  have po := @PassesOwn.never (model P w) (A.deeper (envOfC "need_table" (defScope s_need_table) s.heap.objs.size hd.a_need_table cdv)) (envOfC "need_table" (defScope s_need_table) s.heap.objs.size hd.a_need_table cdv)
  exact (dss_one (ds_if (dt_not (dt_val (de_call (ok_is_table (Ex := Ex) hd) (by exact hr.mono (by decide)) hd.g_is_table hd.F_is_table.kp (bn_is_table hd) (da_cons (de_var 0) da_nil)))) (dss_one ds_never) dss_nil))
def N_spread : List Str := ["table", "places", "found", "left", "place", "entry"]
theorem sc_spread : FnScope ["table", "places", "found", "left", "place", "entry"] ["table", "places"] (defScope s_spread) := ⟨rfl, rfl, rfl, by decide +kernel, rfl, by decide +kernel, by decide +kernel⟩
theorem bk_spread_1 : BlkOk N_spread (defScope s_spread) ⟨.function, [(".0", .local), ("entry", .local), ("place", .free)], false, false, []⟩ [("entry", 5)] := ⟨rfl, by decide +kernel, by decide +kernel, by decide +kernel, by decide +kernel⟩
theorem bn_spread (hd : HdK K mg) : Binds K hd.fd_spread ["table", "places"] [] := hd.F_spread.bindsN fun _ _ _ _ _ _ us hl => match us, hl with | [_, _], _ => rfl
theorem ok_spread (hd : HdK K mg) : FnOk P w K mg base CX0 1 hd.a_spread hd.fd_spread ["table", "places"] (Dc.FnP P w K ["table", "places"].length m_spread Ex) := by
  refine fun_pure (N := N_spread) hd.F_spread sc_spread fun cdv A outer s H E hr F => ?_
  have hu : (cxOf CX0 P w K mg base N_spread "spread" (defScope s_spread) hd.a_spread cdv A outer s H E).nox.A.units + 65 < cLine := by have := hr.un; show (A.deeper _).units + 65 < cLine; omega
  have hv : (cxOf CX0 P w K mg base N_spread "spread" (defScope s_spread) hd.a_spread cdv A outer s H E).nox.A.units + 64 < cLine := by omega
  have nd : N_spread.Nodup := sc_spread.nd
  have po := @PassesOwn.never (model P w) (A.deeper (envOfC "spread" (defScope s_spread) s.heap.objs.size hd.a_spread cdv)) (envOfC "spread" (defScope s_spread) s.heap.objs.size hd.a_spread cdv)
  exact (dss_cons (ds_par (i := 2) (j := 3) rfl (by exact nd) (de_lst da_nil) (de_bty (crd_listA rfl) hd.n_list boot_list (da_cons (de_var 1) da_nil)))
  (dss_cons (ds_while (by exact po) (dt_cmp (op_neD (by exact hv)) bs_ne (de_var 3) (de_lst da_nil) (by rfl)) (dss_cons (ds_set (i := 4) (by exact nd) (de_meth0 (T := .list) PySem.F.plainAttrs_list PySem.F.slot_list_pop PySem.F.type_list_pop mt_popm (de_var 3)))
  (dss_one (ds_if (dt_cmp (or_notin (by exact hu)) bs_abs (de_var 4) (de_var 2) (by rfl)) (dss_cons (ds_expr (de_meth (T := .list) PySem.F.plainAttrs_list PySem.F.slot_list_append PySem.F.type_list_append mt_app (de_var 2) (da_cons (de_var 4) da_nil)))
  (dss_one (ds_if (dt_cmp (op_eqD (by exact hv)) bs_eq (de_ix (by exact hu) (de_var 4) de_int) de_str (by rfl)) (dss_one (ds_expr (de_meth (T := .list) PySem.F.plainAttrs_list PySem.F.slot_list_extend PySem.F.type_list_extend mt_ext (de_var 3) (da_cons (de_lc (own := [("entry", 5)]) rfl (by exact nd) (di_any (de_ix (by exact hu) (de_var 0) de_int)) bk_spread_1 (by decide) (fun _ _ _ _ _ => (dg_one 5 (by exact nd))) (fun _ _ _ _ _ F' => (dts_one (DW.dt (dw_and (dt_cmp (op_eqD (by exact hv)) bs_eq (de_ix (by exact hu) (de_var 5) de_int) (de_ix (by exact hu) (de_var 4) de_int) (by rfl)) (dw_and1 (dt_cmp (op_eqD (by exact hv)) bs_eq (de_ix (by exact hu) (de_var 5) de_int) de_str (by rfl))))))) (fun _ _ _ _ _ F' => (de_tup (da_cons (de_ix (by exact hu) (de_var 5) de_int) (da_cons de_str da_nil))))) da_nil)))) dss_nil))) dss_nil))))
  (dss_one (ds_ret (de_bty crd_tup hd.n_tuple boot_tuple (da_cons (de_blt (crd_sortedA rfl (by exact hu)) hd.n_sorted boot_sorted (da_cons (de_var 2) da_nil)) da_nil))))))
def N_lettered : List Str := ["table", "places", "letter", "found", "mode", "rest", "own", "text", "cells", "later"]
theorem sc_lettered : FnScope ["table", "places", "letter", "found", "mode", "rest", "own", "text", "cells", "later"] ["table", "places", "letter"] (defScope s_lettered) := ⟨rfl, rfl, rfl, by decide +kernel, rfl, by decide +kernel, by decide +kernel⟩
theorem bn_lettered (hd : HdK K mg) : Binds K hd.fd_lettered ["table", "places", "letter"] [] := hd.F_lettered.bindsN fun _ _ _ _ _ _ us hl => match us, hl with | [_, _, _], _ => rfl
theorem ok_lettered (hd : HdK K mg) : FnOk P w K mg base CX0 2 hd.a_lettered hd.fd_lettered ["table", "places", "letter"] (Dc.FnP P w K ["table", "places", "letter"].length m_lettered Ex) := by
  refine fun_pure (N := N_lettered) hd.F_lettered sc_lettered fun cdv A outer s H E hr F => ?_
  have hu : (cxOf CX0 P w K mg base N_lettered "lettered" (defScope s_lettered) hd.a_lettered cdv A outer s H E).nox.A.units + 65 < cLine := by have := hr.un; show (A.deeper _).units + 65 < cLine; omega
  have hv : (cxOf CX0 P w K mg base N_lettered "lettered" (defScope s_lettered) hd.a_lettered cdv A outer s H E).nox.A.units + 64 < cLine := by omega
  have nd : N_lettered.Nodup := sc_lettered.nd
  have po := @PassesOwn.never (model P w) (A.deeper (envOfC "lettered" (defScope s_lettered) s.heap.objs.size hd.a_lettered cdv)) (envOfC "lettered" (defScope s_lettered) s.heap.objs.size hd.a_lettered cdv)
  exact (dss_cons (ds_set (i := 3) (by exact nd) (de_lst da_nil))
  (dss_cons (ds_for (by exact po) rfl (di_any (de_var 1)) (dg_many rfl (dgs_cons 4 (by exact nd) (dgs_cons 5 (by exact nd) dgs_nil))) (fun F1 => (dss_cons (ds_if (dt_cmp (op_neD (by exact hv)) bs_ne (de_var 5) de_str (by rfl)) (dss_cons (ds_if (dt_cmp (op_eqD (by exact hv)) bs_eq (de_ix (by exact hu) (de_var 5) de_int) (de_var 2) (by rfl)) (dss_one (ds_expr (de_meth (T := .list) PySem.F.plainAttrs_list PySem.F.slot_list_append PySem.F.type_list_append mt_app (de_var 3) (da_cons (de_tup (da_cons (de_var 4) (da_cons (de_slice (de_var 5) (do_some de_int) do_none) da_nil))) da_nil)))) dss_nil)
  (dss_one ds_continue)) dss_nil)
  (dss_one (ds_for (by exact po) rfl (di_any (de_ix (by exact hu) (de_var 0) de_int)) (dg_many rfl (dgs_cons 6 (by exact nd) (dgs_cons 7 (by exact nd) (dgs_cons 8 (by exact nd) (dgs_cons 9 (by exact nd) dgs_nil))))) (fun F2 => (dss_one (ds_if (DW.dt (dw_and (dt_cmp (op_eqD (by exact hv)) bs_eq (de_var 6) (de_var 4) (by rfl)) (dw_and1 (dt_val (de_meth (T := .str) PySem.F.plainAttrs_str PySem.F.slot_str_startswith PySem.F.type_str_startswith mt_starts (de_var 7) (da_cons (de_var 2) da_nil)))))) (dss_one (ds_expr (de_meth (T := .list) PySem.F.plainAttrs_list PySem.F.slot_list_append PySem.F.type_list_append mt_app (de_var 3) (da_cons (de_tup (da_cons (de_var 9) (da_cons (de_slice (de_var 7) (do_some de_int) do_none) da_nil))) da_nil)))) dss_nil))))))))
  (dss_one (ds_ret (de_call (ok_spread (Ex := Ex) hd) (by exact hr.mono (by decide)) hd.g_spread hd.F_spread.kp (bn_spread hd) (da_cons (de_var 0) (da_cons (de_var 3) da_nil)))))))
def N_unwritable : List Str := ["table", "letters", "start", "seen", "level", "later", "places", "text", "letter", "reached", "mode", "rest"]
theorem sc_unwritable : FnScope ["table", "letters", "start", "seen", "level", "later", "places", "text", "letter", "reached", "mode", "rest"] ["table", "letters"] (defScope s_unwritable) := ⟨rfl, rfl, rfl, by decide +kernel, rfl, by decide +kernel, by decide +kernel⟩
theorem bk_unwritable_1 : BlkOk N_unwritable (defScope s_unwritable) ⟨.function, [(".0", .local), ("mode", .local), ("rest", .local)], false, false, []⟩ [("mode", 10), ("rest", 11)] := ⟨rfl, by decide +kernel, by decide +kernel, by decide +kernel, by decide +kernel⟩
theorem bn_unwritable (hd : HdK K mg) : Binds K hd.fd_unwritable ["table", "letters"] [] := hd.F_unwritable.bindsN fun _ _ _ _ _ _ us hl => match us, hl with | [_, _], _ => rfl
theorem ok_unwritable (hd : HdK K mg) : FnOk P w K mg base CX0 6 hd.a_unwritable hd.fd_unwritable ["table", "letters"] (Dc.FnP P w K ["table", "letters"].length m_unwritable Ex) := by
  refine fun_pure (N := N_unwritable) hd.F_unwritable sc_unwritable fun cdv A outer s H E hr F => ?_
  have hu : (cxOf CX0 P w K mg base N_unwritable "unwritable" (defScope s_unwritable) hd.a_unwritable cdv A outer s H E).nox.A.units + 65 < cLine := by have := hr.un; show (A.deeper _).units + 65 < cLine; omega
  have hv : (cxOf CX0 P w K mg base N_unwritable "unwritable" (defScope s_unwritable) hd.a_unwritable cdv A outer s H E).nox.A.units + 64 < cLine := by omega
  have nd : N_unwritable.Nodup := sc_unwritable.nd
  have po := @PassesOwn.never (model P w) (A.deeper (envOfC "unwritable" (defScope s_unwritable) s.heap.objs.size hd.a_unwritable cdv)) (envOfC "unwritable" (defScope s_unwritable) s.heap.objs.size hd.a_unwritable cdv)
  exact (dss_cons (ds_expr (de_call (ok_need_table (Ex := Ex) hd) (by exact hr.mono (by decide)) hd.g_need_table hd.F_need_table.kp (bn_need_table hd) (da_cons (de_var 0) da_nil)))
  (dss_cons (ds_if (DW.dt (dw_or (dt_not (dt_val (de_call (ok_are_letters (Ex := Ex) hd) (by exact hr.mono (by decide)) hd.g_are_letters hd.F_are_letters.kp (bn_are_letters hd) (da_cons (de_var 1) (da_cons de_int da_nil))))) (dw_or (dt_cmp (op_eqD (by exact hv)) bs_eq (de_var 1) de_str (by rfl)) (dw_or1 (dt_cmp (op_neD (by exact hv)) bs_ne (de_lenSet rfl (by have := hu; omega) hd.n_len hd.n_set (de_var 1)) (de_blt cr_len hd.n_len boot_len (da_cons (de_var 1) da_nil)) (by rfl)))))) (dss_one ds_never) dss_nil)
  (dss_cons (ds_set (i := 2) (by exact nd) (de_call (ok_spread (Ex := Ex) hd) (by exact hr.mono (by decide)) hd.g_spread hd.F_spread.kp (bn_spread hd) (da_cons (de_var 0) (da_cons (de_lst (da_cons (de_tup (da_cons de_int (da_cons de_str da_nil))) da_nil)) da_nil))))
  (dss_cons (ds_par (i := 3) (j := 4) rfl (by exact nd) (de_dict1 (by exact hu) (de_var 2) de_bl) (de_lst (da_cons (de_tup (da_cons (de_var 2) (da_cons de_str da_nil))) da_nil)))
  (dss_cons (ds_while (by exact po) (dt_cmp (op_neD (by exact hv)) bs_ne (de_var 4) (de_lst da_nil) (by rfl)) (dss_cons (ds_set (i := 5) (by exact nd) (de_lst da_nil))
  (dss_cons (ds_for (by exact po) rfl (di_any (de_var 4)) (dg_many rfl (dgs_cons 6 (by exact nd) (dgs_cons 7 (by exact nd) dgs_nil))) (fun F1 => (dss_cons (ds_if (dt_not (dt_val (de_blt (crd_any rfl) hd.n_any boot_any (da_cons (de_lc (own := [("mode", 10), ("rest", 11)]) rfl (by exact nd) (di_any (de_var 6)) bk_unwritable_1 (by decide) (fun _ _ _ _ _ => (dg_many rfl (dgs_cons 10 (by exact nd) (dgs_cons 11 (by exact nd) dgs_nil)))) (fun _ _ _ _ _ F' => dts_nil) (fun _ _ _ _ _ F' => (de_cmp (op_eqD (by exact hv)) bs_eq (de_var 11) de_str (by rfl)))) da_nil)))) (dss_one (ds_ret (de_var 7))) dss_nil)
  (dss_one (ds_for (by exact po) rfl (di_any (de_blt (crd_sortedA rfl (by exact hu)) hd.n_sorted boot_sorted (da_cons (de_var 1) da_nil))) (dg_one 8 (by exact nd)) (fun F2 => (dss_cons (ds_set (i := 9) (by exact nd) (de_call (ok_lettered (Ex := Ex) hd) (by exact hr.mono (by decide)) hd.g_lettered hd.F_lettered.kp (bn_lettered hd) (da_cons (de_var 0) (da_cons (de_var 6) (da_cons (de_var 8) da_nil)))))
  (dss_one (ds_if (dt_cmp (or_notin (by exact hu)) bs_abs (de_var 9) (de_var 3) (by rfl)) (dss_cons (ds_put (by exact hu) de_bl (de_var 3) (de_var 9))
  (dss_one (ds_expr (de_meth (T := .list) PySem.F.plainAttrs_list PySem.F.slot_list_append PySem.F.type_list_append mt_app (de_var 5) (da_cons (de_tup (da_cons (de_var 9) (da_cons (de_op or_add bs_add (de_var 7) (de_var 8)) da_nil))) da_nil))))) dss_nil)))))))))
  (dss_one (ds_set (i := 4) (by exact nd) (de_var 5))))))
  (dss_one (ds_ret de_non)))))))
def N__law_can : List Str := ["table", "text", "seen", "left", "key", "own", "part", "cells", "later"]
theorem sc__law_can : FnScope ["table", "text", "seen", "left", "key", "own", "part", "cells", "later"] ["table", "text"] (defScope s__law_can) := ⟨rfl, rfl, rfl, by decide +kernel, rfl, by decide +kernel, by decide +kernel⟩
theorem bk__law_can_1 : BlkOk N__law_can (defScope s__law_can) ⟨.function, [(".0", .local), ("key", .local), ("len", .globalImplicit), ("text", .free)], false, false, []⟩ [("key", 4)] := ⟨rfl, by decide +kernel, by decide +kernel, by decide +kernel, by decide +kernel⟩
theorem bn__law_can (hd : HdK K mg) : Binds K hd.fd__law_can ["table", "text"] [] := hd.F__law_can.bindsN fun _ _ _ _ _ _ us hl => match us, hl with | [_, _], _ => rfl
theorem ok__law_can (hd : HdK K mg) : FnOk P w K mg base CX0 1 hd.a__law_can hd.fd__law_can ["table", "text"] (Dc.FnP P w K ["table", "text"].length m__law_can Ex) := by
  refine fun_pure (N := N__law_can) hd.F__law_can sc__law_can fun cdv A outer s H E hr F => ?_
  have hu : (cxOf CX0 P w K mg base N__law_can "_law_can" (defScope s__law_can) hd.a__law_can cdv A outer s H E).nox.A.units + 65 < cLine := by have := hr.un; show (A.deeper _).units + 65 < cLine; omega
  have hv : (cxOf CX0 P w K mg base N__law_can "_law_can" (defScope s__law_can) hd.a__law_can cdv A outer s H E).nox.A.units + 64 < cLine := by omega
  have nd : N__law_can.Nodup := sc__law_can.nd
  have po := @PassesOwn.never (model P w) (A.deeper (envOfC "_law_can" (defScope s__law_can) s.heap.objs.size hd.a__law_can cdv)) (envOfC "_law_can" (defScope s__law_can) s.heap.objs.size hd.a__law_can cdv)
  exact (dss_cons (ds_par (i := 2) (j := 3) rfl (by exact nd) (de_lst da_nil) (de_lst (da_cons (de_tup (da_cons de_int (da_cons de_int da_nil))) da_nil)))
  (dss_cons (ds_while (by exact po) (dt_cmp (op_neD (by exact hv)) bs_ne (de_var 3) (de_lst da_nil) (by rfl)) (dss_cons (ds_set (i := 4) (by exact nd) (de_meth0 (T := .list) PySem.F.plainAttrs_list PySem.F.slot_list_pop PySem.F.type_list_pop mt_popm (de_var 3)))
  (dss_one (ds_if (dt_cmp (or_notin (by exact hu)) bs_abs (de_var 4) (de_var 2) (by rfl)) (dss_cons (ds_expr (de_meth (T := .list) PySem.F.plainAttrs_list PySem.F.slot_list_append PySem.F.type_list_append mt_app (de_var 2) (da_cons (de_var 4) da_nil)))
  (dss_one (ds_for (by exact po) rfl (di_any (de_ix (by exact hu) (de_var 0) de_int)) (dg_many rfl (dgs_cons 5 (by exact nd) (dgs_cons 6 (by exact nd) (dgs_cons 7 (by exact nd) (dgs_cons 8 (by exact nd) dgs_nil))))) (fun F1 => (dss_one (ds_if (DW.dt (dw_and (dt_cmp (op_eqD (by exact hv)) bs_eq (de_var 5) (de_ix (by exact hu) (de_var 4) de_int) (by rfl)) (dw_and1 (dt_val (de_meth (T := .str) PySem.F.plainAttrs_str PySem.F.slot_str_startswith PySem.F.type_str_startswith mt_starts (de_slice (de_var 1) (do_some (de_ix (by exact hu) (de_var 4) de_int)) do_none) (da_cons (de_var 6) da_nil)))))) (dss_one (ds_expr (de_meth (T := .list) PySem.F.plainAttrs_list PySem.F.slot_list_append PySem.F.type_list_append mt_app (de_var 3) (da_cons (de_tup (da_cons (de_op or_add bs_add (de_ix (by exact hu) (de_var 4) de_int) (de_blt cr_len hd.n_len boot_len (da_cons (de_var 6) da_nil))) (da_cons (de_var 8) da_nil))) da_nil)))) dss_nil)))))) dss_nil))))
  (dss_one (ds_ret (de_blt (crd_any rfl) hd.n_any boot_any (da_cons (de_lc (own := [("key", 4)]) rfl (by exact nd) (di_any (de_var 2)) bk__law_can_1 (by decide) (fun _ _ _ _ _ => (dg_one 4 (by exact nd))) (fun _ _ _ _ _ F' => dts_nil) (fun _ _ _ _ _ F' => (de_cmp (op_eqD (by exact hv)) bs_eq (de_ix (by exact hu) (de_var 4) de_int) (de_blt cr_len hd.n_len boot_len (da_cons (de_var 1) da_nil)) (by rfl)))) da_nil))))))
def N_need_text : List Str := ["value"]
theorem sc_need_text : FnScope ["value"] ["value"] (defScope s_need_text) := ⟨rfl, rfl, rfl, by decide +kernel, rfl, by decide +kernel, by decide +kernel⟩
theorem bn_need_text (hd : HdK K mg) : Binds K hd.fd_need_text ["value"] [] := hd.F_need_text.bindsN fun _ _ _ _ _ _ us hl => match us, hl with | [_], _ => rfl
theorem bi_need_text (hd : HdK K mg) (s : Shared) (u : Value) : BindsTo s hd.fd_need_text ⟨[u], []⟩ [("value", u)] := FunD.bindsA (ps := ["value"]) hd.F_need_text (fun _ _ _ _ _ _ us hl => match us, hl with | [_], _ => rfl) s [u] rfl
theorem ok_need_text (hd : HdK K mg) : FnOk P w K mg base CX0 2 hd.a_need_text hd.fd_need_text ["value"] (Dc.FnP P w K ["value"].length m_need_text Ex) := by
  refine fun_pure (N := N_need_text) hd.F_need_text sc_need_text fun cdv A outer s H E hr F => ?_
  have hu : (cxOf CX0 P w K mg base N_need_text "need_text" (defScope s_need_text) hd.a_need_text cdv A outer s H E).nox.A.units + 65 < cLine := by have := hr.un; show (A.deeper _).units + 65 < cLine; omega
  have hv : (cxOf CX0 P w K mg base N_need_text "need_text" (defScope s_need_text) hd.a_need_text cdv A outer s H E).nox.A.units + 64 < cLine := by omega
  have nd : N_need_text.Nodup := sc_need_text.nd
  have po := @PassesOwn.never (model P w) (A.deeper (envOfC "need_text" (defScope s_need_text) s.heap.objs.size hd.a_need_text cdv)) (envOfC "need_text" (defScope s_need_text) s.heap.objs.size hd.a_need_text cdv)
  exact (dss_one (ds_if (dt_not (dt_val (de_call (ok_are_letters (Ex := Ex) hd) (by exact hr.mono (by decide)) hd.g_are_letters hd.F_are_letters.kp (bn_are_letters hd) (da_cons (de_var 0) (da_cons (de_gint hd.c_MOST.choose_spec) da_nil))))) (dss_one ds_never) dss_nil))
def N_write : List Str := ["table", "text", "best", "changed", "place", "mode", "own", "part", "cells", "behind", "many", "writing", "new", "key", "ends"]
theorem sc_write : FnScope ["table", "text", "best", "changed", "place", "mode", "own", "part", "cells", "behind", "many", "writing", "new", "key", "ends"] ["table", "text"] (defScope s_write) := ⟨rfl, rfl, rfl, by decide +kernel, rfl, by decide +kernel, by decide +kernel⟩
theorem bk_write_1 : BlkOk N_write (defScope s_write) ⟨.function, [(".0", .local), ("key", .local), ("len", .globalImplicit), ("best", .free), ("text", .free)], false, false, []⟩ [("key", 13)] := ⟨rfl, by decide +kernel, by decide +kernel, by decide +kernel, by decide +kernel⟩
theorem bn_write (hd : HdK K mg) : Binds K hd.fd_write ["table", "text"] [] := hd.F_write.bindsN fun _ _ _ _ _ _ us hl => match us, hl with | [_, _], _ => rfl
theorem ok_write (hd : HdK K mg) : FnOk P w K mg base CX0 6 hd.a_write hd.fd_write ["table", "text"] (Dc.FnP P w K ["table", "text"].length m_write Ex) := by
  refine fun_pure (N := N_write) hd.F_write sc_write fun cdv A outer s H E hr F => ?_
  have hu : (cxOf CX0 P w K mg base N_write "write" (defScope s_write) hd.a_write cdv A outer s H E).nox.A.units + 65 < cLine := by have := hr.un; show (A.deeper _).units + 65 < cLine; omega
  have hv : (cxOf CX0 P w K mg base N_write "write" (defScope s_write) hd.a_write cdv A outer s H E).nox.A.units + 64 < cLine := by omega
  have nd : N_write.Nodup := sc_write.nd
  have po := @PassesOwn.never (model P w) (A.deeper (envOfC "write" (defScope s_write) s.heap.objs.size hd.a_write cdv)) (envOfC "write" (defScope s_write) s.heap.objs.size hd.a_write cdv)
  exact (dss_cons (ds_expr (de_call (ok_need_table (Ex := Ex) hd) (by exact hr.mono (by decide)) hd.g_need_table hd.F_need_table.kp (bn_need_table hd) (da_cons (de_var 0) da_nil)))
  (dss_cons (ds_expr (de_call (ok_need_text (Ex := Ex) hd) (by exact hr.mono (by decide)) hd.g_need_text hd.F_need_text.kp (bn_need_text hd) (da_cons (de_var 1) da_nil)))
  (dss_cons (ds_asg (de_tup (da_cons (de_dict1 (by exact hu) (de_tup (da_cons de_int (da_cons de_int da_nil))) (de_tup (da_cons de_int (da_cons (de_tup da_nil) da_nil)))) (da_cons de_bl da_nil))) (dg_many rfl (dgs_cons 2 (by exact nd) (dgs_cons 3 (by exact nd) dgs_nil))))
  (dss_cons (ds_while (by exact po) (dt_val (de_var 3)) (dss_cons (ds_set (i := 3) (by exact nd) de_bl)
  (dss_one (ds_for (by exact po) rfl (di_any (de_bty (crd_listA rfl) hd.n_list boot_list (da_cons (de_var 2) da_nil))) (dg_many rfl (dgs_cons 4 (by exact nd) (dgs_cons 5 (by exact nd) dgs_nil))) (fun F1 => (dss_one (ds_for (by exact po) rfl (di_any (de_ix (by exact hu) (de_var 0) de_int)) (dg_many rfl (dgs_cons 6 (by exact nd) (dgs_cons 7 (by exact nd) (dgs_cons 8 (by exact nd) (dgs_cons 9 (by exact nd) dgs_nil))))) (fun F2 => (dss_one (ds_if (DW.dt (dw_and (dt_cmp (op_eqD (by exact hv)) bs_eq (de_var 6) (de_var 5) (by rfl)) (dw_and1 (dt_val (de_meth (T := .str) PySem.F.plainAttrs_str PySem.F.slot_str_startswith PySem.F.type_str_startswith mt_starts (de_var 1) (da_cons (de_var 7) (da_cons (de_var 4) da_nil))))))) (dss_cons (ds_asg (de_ix (by exact hu) (de_var 2) (de_tup (da_cons (de_var 4) (da_cons (de_var 5) da_nil)))) (dg_many rfl (dgs_cons 10 (by exact nd) (dgs_cons 11 (by exact nd) dgs_nil))))
  (dss_cons (ds_par (i := 12) (j := 13) rfl (by exact nd) (de_tup (da_cons (de_op or_add bs_add (de_var 10) (de_blt cr_len hd.n_len boot_len (da_cons (de_var 8) da_nil))) (da_cons (de_op or_add bs_add (de_var 11) (de_var 8)) da_nil))) (de_tup (da_cons (de_op or_add bs_add (de_var 4) (de_blt cr_len hd.n_len boot_len (da_cons (de_var 7) da_nil))) (da_cons (de_var 9) da_nil))))
  (dss_one (ds_if (DW.dt (dw_or (dt_cmp (or_notin (by exact hu)) bs_abs (de_var 13) (de_var 2) (by rfl)) (dw_or1 (dt_cmp (or_lt (by exact hu)) bs_abs (de_var 12) (de_ix (by exact hu) (de_var 2) (de_var 13)) (by rfl))))) (dss_cons (ds_put (by exact hu) (de_var 12) (de_var 2) (de_var 13))
  (dss_one (ds_set (i := 3) (by exact nd) de_bl))) dss_nil)))) dss_nil))))))))))
  (dss_cons (ds_setLc (own := [("key", 13)]) rfl (by exact nd) (di_any (de_var 2)) bk_write_1 (by decide) (fun _ _ _ _ _ => (dg_one 13 (by exact nd))) (fun _ _ _ _ _ F' => (dts_one (dt_cmp (op_eqD (by exact hv)) bs_eq (de_ix (by exact hu) (de_var 13) de_int) (de_blt cr_len hd.n_len boot_len (da_cons (de_var 1) da_nil)) (by rfl)))) (fun _ _ _ _ _ F' => (de_ix (by exact hu) (de_var 2) (de_var 13))))
  (dss_one (ds_ret (de_if (dt_cmp (op_neD (by exact hv)) bs_ne (de_var 14) (de_lst da_nil) (by rfl)) (de_ix (by exact hu) (de_blt (crd_min rfl (by exact hu)) hd.n_min boot_min (da_cons (de_var 14) da_nil)) de_int) de_non))))))))
def N_law : List Str := ["script", "town", "modes", "entries", "more", "table", "letters", "told", "due", "text", "long", "letter", "entry", "k"]
theorem sc_law : FnScope ["script", "town", "modes", "entries", "more", "table", "letters", "told", "due", "text", "long", "letter", "entry", "k"] ["script"] (defScope s_law) := ⟨rfl, rfl, rfl, by decide +kernel, rfl, by decide +kernel, by decide +kernel⟩
theorem bk_law_1 : BlkOk N_law (defScope s_law) ⟨.function, [(".0", .local), ("letter", .local), ("_law_draw", .globalImplicit), ("modes", .free), ("script", .free), ("town", .free)], false, false, []⟩ [("letter", 11)] := ⟨rfl, by decide +kernel, by decide +kernel, by decide +kernel, by decide +kernel⟩
theorem bk_law_2 : BlkOk N_law (defScope s_law) ⟨.function, [(".0", .local), ("entry", .local), ("entries", .free)], false, false, []⟩ [("entry", 12)] := ⟨rfl, by decide +kernel, by decide +kernel, by decide +kernel, by decide +kernel⟩
theorem bk_law_3 : BlkOk N_law (defScope s_law) ⟨.function, [(".0", .local), ("k", .local), ("_law_pick", .globalImplicit), ("letters", .free), ("script", .free), ("town", .free)], false, false, []⟩ [("k", 13)] := ⟨rfl, by decide +kernel, by decide +kernel, by decide +kernel, by decide +kernel⟩
theorem bn_law (hd : HdK K mg) : Binds K hd.fd_law ["script"] [] := hd.F_law.bindsN fun _ _ _ _ _ _ us hl => match us, hl with | [_], _ => rfl
theorem bi_law (hd : HdK K mg) (s : Shared) (u : Value) : BindsTo s hd.fd_law ⟨[u], []⟩ [("script", u)] := FunD.bindsA (ps := ["script"]) hd.F_law (fun _ _ _ _ _ _ us hl => match us, hl with | [_], _ => rfl) s [u] rfl
theorem ok_law (hd : HdK K mg) : FnOk P w K mg base CX0 7 hd.a_law hd.fd_law ["script"] (Dc.FnP P w K ["script"].length m_law_k05 Ex) := by
  refine fun_pure (N := N_law) hd.F_law sc_law fun cdv A outer s H E hr F => ?_
  have hu : (cxOf CX0 P w K mg base N_law "law" (defScope s_law) hd.a_law cdv A outer s H E).nox.A.units + 65 < cLine := by have := hr.un; show (A.deeper _).units + 65 < cLine; omega
  have hv : (cxOf CX0 P w K mg base N_law "law" (defScope s_law) hd.a_law cdv A outer s H E).nox.A.units + 64 < cLine := by omega
  have nd : N_law.Nodup := sc_law.nd
  have po := @PassesOwn.never (model P w) (A.deeper (envOfC "law" (defScope s_law) s.heap.objs.size hd.a_law cdv)) (envOfC "law" (defScope s_law) s.heap.objs.size hd.a_law cdv)
  exact (dss_cons (ds_set (i := 1) (by exact nd) (de_lst (da_cons de_int (da_cons de_int da_nil))))
  (dss_cons (ds_asg (de_callT (ok__law_table (Ex := Ex) hd) (by exact hr.mono (by decide)) hd.g__law_table hd.F__law_table.kp (bn__law_table hd) (da_cons (de_var 0) (da_cons (de_var 1) (da_cons de_int da_nil)))) (dg_many rfl (dgs_cons 2 (by exact nd) (dgs_cons 3 (by exact nd) dgs_nil))))
  (dss_cons (ds_if (dt_cmp (op_eqD (by exact hv)) bs_eq (de_callT (ok__law_draw (Ex := Ex) hd) (by exact hr.mono (by decide)) hd.g__law_draw hd.F__law_draw.kp (bn__law_draw hd) (da_cons (de_var 0) (da_cons (de_var 1) (da_cons de_int da_nil)))) de_int (by rfl)) (dss_cons (ds_setLc (own := [("letter", 11)]) rfl (by exact nd) (di_any de_str) bk_law_1 (by decide) (fun _ _ _ _ _ => (dg_one 11 (by exact nd))) (fun _ _ _ _ _ F' => dts_nil) (fun _ _ _ _ _ F' => (de_tup (da_cons (de_callT (ok__law_draw (Ex := Ex) hd) (by exact hr.mono (by decide)) hd.g__law_draw hd.F__law_draw.kp (bn__law_draw hd) (da_cons (de_var 0) (da_cons (de_var 1) (da_cons (de_var 2) da_nil)))) (da_cons (de_var 11) (da_cons (de_tup (da_cons de_str da_nil)) (da_cons (de_callT (ok__law_draw (Ex := Ex) hd) (by exact hr.mono (by decide)) hd.g__law_draw hd.F__law_draw.kp (bn__law_draw hd) (da_cons (de_var 0) (da_cons (de_var 1) (da_cons (de_var 2) da_nil)))) da_nil)))))))
  (dss_one (ds_set (i := 3) (by exact nd) (de_op or_add bs_add (de_var 3) (de_bty crd_tup hd.n_tuple boot_tuple (da_cons (de_lc (own := [("entry", 12)]) rfl (by exact nd) (di_any (de_var 4)) bk_law_2 (by decide) (fun _ _ _ _ _ => (dg_one 12 (by exact nd))) (fun _ _ _ _ _ F' => (dts_one (dt_cmp (or_notin (by exact hu)) bs_abs (de_var 12) (de_var 3) (by rfl)))) (fun _ _ _ _ _ F' => (de_var 12))) da_nil)))))) dss_nil)
  (dss_cons (ds_set (i := 5) (by exact nd) (de_tup (da_cons (de_var 2) (da_cons (de_var 3) da_nil))))
  (dss_cons (ds_for (by exact po) rfl (di_any (de_tup (da_cons de_str (da_cons de_str (da_cons de_str (da_cons (de_callT (ok__law_pick (Ex := Ex) hd) (by exact hr.mono (by decide)) hd.g__law_pick hd.F__law_pick.kp (bn__law_pick hd) (da_cons (de_var 0) (da_cons (de_var 1) (da_cons (de_lst (da_cons de_str (da_cons de_str (da_cons de_str (da_cons de_str da_nil))))) da_nil)))) da_nil)))))) (dg_one 6 (by exact nd)) (fun F1 => (dss_cons (ds_par (i := 7) (j := 8) rfl (by exact nd) (de_call (ok_unwritable (Ex := Ex) hd) (by exact hr.mono (by decide)) hd.g_unwritable hd.F_unwritable.kp (bn_unwritable hd) (da_cons (de_var 5) (da_cons (de_var 6) da_nil))) de_non)
  (dss_cons (ds_for (by exact po) rfl (di_any (de_call (ok__law_texts_of (Ex := Ex) hd) (by exact hr.mono (by decide)) hd.g__law_texts_of hd.F__law_texts_of.kp (bn__law_texts_of hd) (da_cons (de_var 6) (da_cons (de_if (dt_cmp (or_lt (by exact hu)) bs_abs (de_blt cr_len hd.n_len boot_len (da_cons (de_var 6) da_nil)) de_int (by rfl)) de_int de_int) da_nil)))) (dg_one 9 (by exact nd)) (fun F2 => (dss_one (ds_if (DW.dt (dw_and (dt_cmp or_is bs_is (de_var 8) de_non (by rfl)) (dw_and1 (dt_not (dt_val (de_call (ok__law_can (Ex := Ex) hd) (by exact hr.mono (by decide)) hd.g__law_can hd.F__law_can.kp (bn__law_can hd) (da_cons (de_var 5) (da_cons (de_var 9) da_nil)))))))) (dss_one (ds_set (i := 8) (by exact nd) (de_var 9))) dss_nil))))
  (dss_cons (ds_if (dt_cmp or_isnot bs_isnot (de_var 8) de_non (by rfl)) (dss_cons (ds_if (dt_cmp (op_neD (by exact hv)) bs_ne (de_var 7) (de_var 8) (by rfl)) (dss_one (ds_ret de_bl)) dss_nil)
  (dss_one ds_continue)) dss_nil)
  (dss_cons (ds_if (DW.dt (dw_and (dt_cmp or_isnot bs_isnot (de_var 7) de_non (by rfl)) (dw_and1 (DW.dt (dw_or (dt_cmp (or_lt (by exact hu)) bs_abs (de_blt cr_len hd.n_len boot_len (da_cons (de_var 7) da_nil)) de_int (by rfl)) (dw_or1 (dt_val (de_call (ok__law_can (Ex := Ex) hd) (by exact hr.mono (by decide)) hd.g__law_can hd.F__law_can.kp (bn__law_can hd) (da_cons (de_var 5) (da_cons (de_var 7) da_nil)))))))))) (dss_one (ds_ret de_bl)) dss_nil)
  (dss_cons (ds_if (DW.dt (dw_and (dt_cmp or_isnot bs_isnot (de_var 7) de_non (by rfl)) (dw_and1 (dt_not (dt_val (de_call (ok__law_can (Ex := Ex) hd) (by exact hr.mono (by decide)) hd.g__law_can hd.F__law_can.kp (bn__law_can hd) (da_cons (de_var 5) (da_cons (de_slice (de_var 7) do_none (do_some de_negc)) da_nil)))))))) (dss_one (ds_ret de_bl)) dss_nil)
  (dss_cons (ds_set (i := 10) (by exact nd) (de_meth (T := .str) PySem.F.plainAttrs_str PySem.F.slot_str_join PySem.F.type_str_join mt_joinm de_str (da_cons (de_lc (own := [("k", 13)]) rfl (by exact nd) (di_range1 hd.n_range (de_callT (ok__law_draw (Ex := Ex) hd) (by exact hr.mono (by decide)) hd.g__law_draw hd.F__law_draw.kp (bn__law_draw hd) (da_cons (de_var 0) (da_cons (de_var 1) (da_cons de_int da_nil))))) bk_law_3 (by decide) (fun _ _ _ _ _ => (dg_one 13 (by exact nd))) (fun _ _ _ _ _ F' => dts_nil) (fun _ _ _ _ _ F' => (de_callT (ok__law_pick (Ex := Ex) hd) (by exact hr.mono (by decide)) hd.g__law_pick hd.F__law_pick.kp (bn__law_pick hd) (da_cons (de_var 0) (da_cons (de_var 1) (da_cons (de_var 6) da_nil)))))) da_nil)))
  (dss_one (ds_if (DW.dt (dw_and (dt_cmp or_is bs_is (de_var 7) de_non (by rfl)) (dw_and1 (DW.dt (dw_or (dt_cmp or_is bs_is (de_call (ok_write (Ex := Ex) hd) (by exact hr.mono (by decide)) hd.g_write hd.F_write.kp (bn_write hd) (da_cons (de_var 5) (da_cons (de_var 10) da_nil))) de_non (by rfl)) (dw_or1 (dt_not (dt_val (de_call (ok__law_can (Ex := Ex) hd) (by exact hr.mono (by decide)) hd.g__law_can hd.F__law_can.kp (bn__law_can hd) (da_cons (de_var 5) (da_cons (de_var 10) da_nil))))))))))) (dss_one (ds_ret de_bl)) dss_nil))))))))))
  (dss_one (ds_ret (de_cmp (op_eqD (by exact hv)) bs_eq (de_call (ok_unwritable (Ex := Ex) hd) (by exact hr.mono (by decide)) hd.g_unwritable hd.F_unwritable.kp (bn_unwritable hd) (da_cons (de_var 5) (da_cons de_str da_nil))) de_str (by rfl)))))))))
end
end Dcl
end
section
set_option Elab.async false
set_option linter.all false
set_option maxRecDepth 100000
set_option maxHeartbeats 0
namespace Dcl
open PySem PySem.Spec PyProof.Rows L2 Dc
def d__law_draw : He.DefD := ⟨("_law_draw", none), "_law_draw", "_law_draw", defArgs s__law_draw, defBody s__law_draw, defScope s__law_draw, [], []⟩
def d__law_pick : He.DefD := ⟨("_law_pick", none), "_law_pick", "_law_pick", defArgs s__law_pick, defBody s__law_pick, defScope s__law_pick, [], []⟩
def d__law_entry : He.DefD := ⟨("_law_entry", none), "_law_entry", "_law_entry", defArgs s__law_entry, defBody s__law_entry, defScope s__law_entry, [], []⟩
def d__law_table : He.DefD := ⟨("_law_table", none), "_law_table", "_law_table", defArgs s__law_table, defBody s__law_table, defScope s__law_table, [], []⟩
def d__law_texts_of : He.DefD := ⟨("_law_texts_of", none), "_law_texts_of", "_law_texts_of", defArgs s__law_texts_of, defBody s__law_texts_of, defScope s__law_texts_of, [], []⟩
def d_is_count : He.DefD := ⟨("is_count", none), "is_count", "is_count", defArgs s_is_count, defBody s_is_count, defScope s_is_count, [], []⟩
def d_are_letters : He.DefD := ⟨("are_letters", none), "are_letters", "are_letters", defArgs s_are_letters, defBody s_are_letters, defScope s_are_letters, [], []⟩
def d_is_cell : He.DefD := ⟨("is_cell", none), "is_cell", "is_cell", defArgs s_is_cell, defBody s_is_cell, defScope s_is_cell, [], []⟩
def d_are_cells : He.DefD := ⟨("are_cells", none), "are_cells", "are_cells", defArgs s_are_cells, defBody s_are_cells, defScope s_are_cells, [], []⟩
def d_is_entry : He.DefD := ⟨("is_entry", none), "is_entry", "is_entry", defArgs s_is_entry, defBody s_is_entry, defScope s_is_entry, [], []⟩
def d_is_table : He.DefD := ⟨("is_table", none), "is_table", "is_table", defArgs s_is_table, defBody s_is_table, defScope s_is_table, [], []⟩
def d_need_table : He.DefD := ⟨("need_table", none), "need_table", "need_table", defArgs s_need_table, defBody s_need_table, defScope s_need_table, [], []⟩
def d_spread : He.DefD := ⟨("spread", none), "spread", "spread", defArgs s_spread, defBody s_spread, defScope s_spread, [], []⟩
def d_lettered : He.DefD := ⟨("lettered", none), "lettered", "lettered", defArgs s_lettered, defBody s_lettered, defScope s_lettered, [], []⟩
def d_unwritable : He.DefD := ⟨("unwritable", none), "unwritable", "unwritable", defArgs s_unwritable, defBody s_unwritable, defScope s_unwritable, [], []⟩
def d__law_can : He.DefD := ⟨("_law_can", none), "_law_can", "_law_can", defArgs s__law_can, defBody s__law_can, defScope s__law_can, [], []⟩
def d_need_text : He.DefD := ⟨("need_text", none), "need_text", "need_text", defArgs s_need_text, defBody s_need_text, defScope s_need_text, [], []⟩
def d_write : He.DefD := ⟨("write", none), "write", "write", defArgs s_write, defBody s_write, defScope s_write, [], []⟩
def d_law : He.DefD := ⟨("law", none), "law", "law", defArgs s_law, defBody s_law, defScope s_law, [], []⟩
def fn : List He.DefD := [d__law_draw, d__law_pick, d__law_entry, d__law_table, d__law_texts_of, d_is_count, d_are_letters, d_is_cell, d_are_cells, d_is_entry, d_is_table, d_need_table, d_spread, d_lettered, d_unwritable, d__law_can, d_need_text, d_write, d_law]
def fa : List He.Fa := [.glo "_law_draw", .glo "_law_pick", .glo "_law_entry", .glo "_law_table", .glo "_law_texts_of", .glo "is_count", .glo "are_letters", .glo "is_cell", .glo "are_cells", .glo "is_entry", .glo "is_table", .glo "need_table", .glo "spread", .glo "lettered", .glo "unwritable", .glo "_law_can", .glo "need_text", .glo "write", .glo "law", .free "len", .free "range", .free "sorted", .free "set", .free "list", .free "tuple", .free "min", .free "sum", .free "any", .free "all", .free "enumerate", .free "isinstance", .free "str", .free "int", .free "bool", .free "dict", .free "max", .str "DOTS" "123456", .str "LETTERS" "abcde", .int "MOST" 20]
def tabs (K : PySem.W.Frag) : Bool := true
def loose0 : List PySem.Str := ["is_count", "is_cell", "are_letters", "are_cells", "is_entry", "is_table", "need_table", "need_text", "write", "spread", "lettered", "unwritable"]
def loose1 : List PySem.Str := ["_law_draw", "_law_pick", "_law_entry", "_law_table", "_law_cells", "_law_texts_of", "_law_can", "CellError", "InvalidTable", "InvalidText", "InvalidLetters", "DOTS"]
def loose2 : List PySem.Str := ["LETTERS", "MOST"]
def looseL : List PySem.Str := loose0 ++ loose1 ++ loose2
abbrev R : PySem.W.OpenRow := PySem.W.OpenLaw.row PySem.Challenge.rw_dotcells_k05_whole_unwritable
def obK (K : PySem.W.Frag) : Bool × He.AlD := (tabs K, He.obsD fa fn K)
def obG (g : Addr → Option Obj) : Bool × He.AlD := obK (He.frG g (He.asD g 4))
def hk : PySem.W.Hook where
  α := Bool × He.AlD
  obs := fun s => obG s.heap.get?
  val := fun _ => (true, He.valD fn)
  says := fun _ h => ∃ K : PySem.W.Frag, K.In h ∧ tabs K = true ∧ He.SaysD fa fn K
  of := fun _ _ e => ⟨_, He.frG_in, congrArg Prod.fst e, congrArg Prod.snd e⟩
  keeps := fun _ _ _ ⟨K, hK, c⟩ k => ⟨K, PySem.W.Frag.In.keeps hK k, c⟩
def ob (s : PySem.W.SharedT) : Bool × He.AlD := obG (HandSHeadRun.getT s)
theorem ob_eq (s : PySem.W.SharedT) : ob s = hk.obs s.abs := by
  have e : HandSHeadRun.getT s = s.abs.heap.get? := funext (HandSHeadRun.getT_eq s)
  show obG _ = obG _
  rw [e]
theorem run (w : World) : HandSHeadRun.RunEq R (PySem.W.view R.prog [31]) hk ob 4000 looseL w := by
  intro os
  kernel_rfl
theorem hdk {K : PySem.W.Frag} {h : Heap} {mg : Str → Option Value} (X : K.In h) (G : h.Ns mainGlobals mg) (ct : tabs K = true) (c : He.SaysD fa fn K) : Nonempty (HdK K mg) := by
  obtain ⟨fd0, F0⟩ := c.def_ 0 (d := d__law_draw) rfl
  obtain ⟨fd1, F1⟩ := c.def_ 1 (d := d__law_pick) rfl
  obtain ⟨fd2, F2⟩ := c.def_ 2 (d := d__law_entry) rfl
  obtain ⟨fd3, F3⟩ := c.def_ 3 (d := d__law_table) rfl
  obtain ⟨fd4, F4⟩ := c.def_ 4 (d := d__law_texts_of) rfl
  obtain ⟨fd5, F5⟩ := c.def_ 5 (d := d_is_count) rfl
  obtain ⟨fd6, F6⟩ := c.def_ 6 (d := d_are_letters) rfl
  obtain ⟨fd7, F7⟩ := c.def_ 7 (d := d_is_cell) rfl
  obtain ⟨fd8, F8⟩ := c.def_ 8 (d := d_are_cells) rfl
  obtain ⟨fd9, F9⟩ := c.def_ 9 (d := d_is_entry) rfl
  obtain ⟨fd10, F10⟩ := c.def_ 10 (d := d_is_table) rfl
  obtain ⟨fd11, F11⟩ := c.def_ 11 (d := d_need_table) rfl
  obtain ⟨fd12, F12⟩ := c.def_ 12 (d := d_spread) rfl
  obtain ⟨fd13, F13⟩ := c.def_ 13 (d := d_lettered) rfl
  obtain ⟨fd14, F14⟩ := c.def_ 14 (d := d_unwritable) rfl
  obtain ⟨fd15, F15⟩ := c.def_ 15 (d := d__law_can) rfl
  obtain ⟨fd16, F16⟩ := c.def_ 16 (d := d_need_text) rfl
  obtain ⟨fd17, F17⟩ := c.def_ 17 (d := d_write) rfl
  obtain ⟨fd18, F18⟩ := c.def_ 18 (d := d_law) rfl
  exact ⟨⟨_, fd0, F0, He.glo_ok X G (c.fact 0 (f := .glo "_law_draw") rfl),
    _, fd1, F1, He.glo_ok X G (c.fact 1 (f := .glo "_law_pick") rfl),
    _, fd2, F2, He.glo_ok X G (c.fact 2 (f := .glo "_law_entry") rfl),
    _, fd3, F3, He.glo_ok X G (c.fact 3 (f := .glo "_law_table") rfl),
    _, fd4, F4, He.glo_ok X G (c.fact 4 (f := .glo "_law_texts_of") rfl),
    _, fd5, F5, He.glo_ok X G (c.fact 5 (f := .glo "is_count") rfl),
    _, fd6, F6, He.glo_ok X G (c.fact 6 (f := .glo "are_letters") rfl),
    _, fd7, F7, He.glo_ok X G (c.fact 7 (f := .glo "is_cell") rfl),
    _, fd8, F8, He.glo_ok X G (c.fact 8 (f := .glo "are_cells") rfl),
    _, fd9, F9, He.glo_ok X G (c.fact 9 (f := .glo "is_entry") rfl),
    _, fd10, F10, He.glo_ok X G (c.fact 10 (f := .glo "is_table") rfl),
    _, fd11, F11, He.glo_ok X G (c.fact 11 (f := .glo "need_table") rfl),
    _, fd12, F12, He.glo_ok X G (c.fact 12 (f := .glo "spread") rfl),
    _, fd13, F13, He.glo_ok X G (c.fact 13 (f := .glo "lettered") rfl),
    _, fd14, F14, He.glo_ok X G (c.fact 14 (f := .glo "unwritable") rfl),
    _, fd15, F15, He.glo_ok X G (c.fact 15 (f := .glo "_law_can") rfl),
    _, fd16, F16, He.glo_ok X G (c.fact 16 (f := .glo "need_text") rfl),
    _, fd17, F17, He.glo_ok X G (c.fact 17 (f := .glo "write") rfl),
    _, fd18, F18, He.glo_ok X G (c.fact 18 (f := .glo "law") rfl),
    He.free_ok X G (c.fact 19 (f := .free "len") rfl),
    He.free_ok X G (c.fact 20 (f := .free "range") rfl),
    He.free_ok X G (c.fact 21 (f := .free "sorted") rfl),
    He.free_ok X G (c.fact 22 (f := .free "set") rfl),
    He.free_ok X G (c.fact 23 (f := .free "list") rfl),
    He.free_ok X G (c.fact 24 (f := .free "tuple") rfl),
    He.free_ok X G (c.fact 25 (f := .free "min") rfl),
    He.free_ok X G (c.fact 26 (f := .free "sum") rfl),
    He.free_ok X G (c.fact 27 (f := .free "any") rfl),
    He.free_ok X G (c.fact 28 (f := .free "all") rfl),
    He.free_ok X G (c.fact 29 (f := .free "enumerate") rfl),
    He.free_ok X G (c.fact 30 (f := .free "isinstance") rfl),
    He.free_ok X G (c.fact 31 (f := .free "str") rfl),
    He.free_ok X G (c.fact 32 (f := .free "int") rfl),
    He.free_ok X G (c.fact 33 (f := .free "bool") rfl),
    He.free_ok X G (c.fact 34 (f := .free "dict") rfl),
    He.free_ok X G (c.fact 35 (f := .free "max") rfl),
    He.str_ok X G (c.fact 36 (f := .str "DOTS" "123456") rfl),
    He.str_ok X G (c.fact 37 (f := .str "LETTERS" "abcde") rfl),
    He.int_ok X G (c.fact 38 (f := .int "MOST" 20) rfl)⟩⟩
end Dcl
end
section
set_option Elab.async false
set_option linter.all false
set_option maxRecDepth 100000
set_option maxHeartbeats 0
namespace Dcl
open PySem PySem.Spec PyProof.Rows L2 Dc
theorem reps_ints {K : PySem.W.Frag} {B : List Addr} {H : Hp} : ∀ ns : List Int, Reps K B H (ns.map D.int) (ns.map V.int)
  | [] => .nil
  | n :: ns => .cons (.int n) (reps_ints ns)
theorem law_sp {P : Program} {w : World} {K : PySem.W.Frag} {Ex : Nat → Value} {H : Hp} {a : Addr} {ns : List Int} (hl : ns.length ≤ 63) (hO : Only H) (hS : SqL K H a (ns.map V.int)) : Dc.FnP P w K ["script"].length m_law_k05 Ex [.ref a] H (fun v _ => v = .bl true) fun _ _ _ => False := by
  have fr : FrL K H a (ns.map V.int) := by
    rcases hS with (hS | ⟨o, hS⟩) | hS
    · rcases hO a with z | ⟨o, xs, z⟩
      · rw [z] at hS; cases hS
      · rw [z] at hS; cases hS
    · exact .inl ⟨o, hS⟩
    · exact .inr hS
  refine ⟨[], [.fro (ns.map D.int)], [], .cons (.fro fr (reps_ints ns)) .nil, ⟨List.nodup_nil, rfl, fun i o a e => by simp at e⟩, rfl, ?_⟩
  rw [law_true ns hl]
  intro B' v H' _ _ r
  cases r
  rfl
end Dcl
open PySem PySem.W PySem.Calls PyProof.Rows
theorem PySem.Challenge.cw_dotcells_k05_whole_unwritable_holds : PySem.Challenge.rw_dotcells_k05_whole_unwritable.Holds := by
  w_on; o_law
  refine HandSHeadRun.head_any (r := OpenLaw.row PySem.Challenge.rw_dotcells_k05_whole_unwritable) (q := view (OpenLaw.row PySem.Challenge.rw_dotcells_k05_whole_unwritable).prog [31]) (H := Dcl.hk) (ob := Dcl.ob) (M := 4000) (loose := Dcl.looseL) (d := HandSHeadRun.topDef (OpenLaw.row PySem.Challenge.rw_dotcells_k05_whole_unwritable).prog 31) (kwd := []) Dcl.ob_eq
    (by kernel_rfl) (fun s => by kernel_rfl) Dcl.run (by kernel_rfl) (by kernel_rfl) (by kernel_rfl) (by rfl) (by first | assumption | decide +kernel) (by decide +kernel) ⟨rfl, rfl, rfl, rfl, rfl, by decide +kernel⟩ ?hw ?hc
  case hw => w_witness2
  case hc =>
    refine L2.walk_ofE (l := PySem.Challenge.rw_dotcells_k05_whole_unwritable) (n := 63) (k := 7) (x := "script") (CX := L2.CX0) rfl (by decide) (by kernel_rfl) ⟨rfl, by decide, by decide⟩ ?F (fun _ _ _ _ z => z)
    intro w mg fa h Y G hmg0
    obtain ⟨K, KX, ct, c⟩ := Y
    have hmg : mg ("law" : PySem.Str) = some (.ref fa) := by
      have e : (HandSHeadRun.topDef (OpenLaw.row PySem.Challenge.rw_dotcells_k05_whole_unwritable).prog 31).name = ("law" : PySem.Str) := by kernel_rfl
      rw [← e]
      exact hmg0
    obtain ⟨hd⟩ := Dcl.hdk KX G ct c
    have e := hmg.symm.trans hd.g_law
    cases e
    exact ⟨K, hd.fd_law, _, KX, fun s u => Dcl.bi_law hd s u, fun H a ns hl hO hS => Dcl.law_sp (Ex := fun _ => .none) hl hO hS, fun base _ _ => Dcl.ok_law hd⟩
end
