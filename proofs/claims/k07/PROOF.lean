import PyProof.Rows.All
import Wide.All
import OpenK.AllK
import Wide.FinOn
import HandS.ForMost
import HandS.ForExc
import HandS.IsInst
import HandS.TupAny
import HandS.TupMul
import KE.GoesNew
import KE.GoesMore
import HandS.RevRange
import HandS.Rev
import HandS.TryMany
import HandS.ExcIs
import HandS.Style
import HandS.Defaults
import HandS.Head0
import HandS.Head1
import HandS.Head2
import HandS.HeadEnd
import HandS.HeadHook1
import HandS.HeadHook2
import HandS.Iter
import KE.KRevIter
import HandS.DictComp
import HandS.SortInts
import HandS.Small
import PySem.Challenge.RW_carriedbreaks_k07_the_most_asks
import KE.KStateDown
set_option Elab.async false
set_option linter.all false
set_option maxRecDepth 100000
set_option maxHeartbeats 0
/-! The pure layer: data, pure states, the relation with the layer's heap. -/
namespace Pl
open PySem L2
/-- pure data -/
inductive D where
  | non | bl (b : Bool) | int (i : Int) | str (x : Str) | ty (n : String)
  /-- a def or a class of the text, by its name -/
  | fn (x : String)
  | tup (ds : List D) | lst (ds : List D)
  /-- a list that may be read alone (the script) -/
  | lck (ds : List D)
  | dct (kvs : List (Key × D))
  /-- an object of the store -/
  | obj (i : Nat)
  deriving Inhabited
/-- what a name or a field holds: data, or a list or dict of its own -/
inductive Slot where
  | dat (d : D)
  | own (d : D)
  /-- the exception that an except suite holds: its class, its field -/
  | exn (c : String) (f : Option (Str × D))
  deriving Inhabited
/-- the exception that is held: where it stands, its class, its own dict -/
structure Xc where
  a : Addr
  cls : Value
  d : Option Addr
/-- an object of the store: a list, or an instance with its fields -/
inductive SO where
  | lst (ds : List D)
  | ins (c : String) (fs : List (Str × Slot))
  deriving Inhabited
structure Stt where
  r : List (Option Slot)
  S : List SO
/-- an exception: its class, its field -/
structure Ex where
  c : String
  f : Option (Str × D) := none
/-- the text's own things: where a def or a class stands -/
abbrev At := String → Addr
inductive Owner where
  | slot (i : Nat) | obj (i : Nat) | dic (i : Nat) | fld (i : Nat) (f : Str)
  deriving DecidableEq
/-- the ghost: what is held for others, what is frozen, who owns what, where the store's objects stand -/
structure G where
  P : Hp
  F : Hp
  o : Addr → Option Owner
  m : List Addr
section
variable (K : PySem.W.Frag) (at_ : At) (F : Hp) (m : List Addr)
mutual
def Rep : D → V → Prop
  | .non, v => v = .non
  | .bl b, v => v = .bl b
  | .int i, v => v = .int i
  | .str x, v => v = .str x
  | .ty n, v => v = .ty n
  | .fn x, v => v = .ref (at_ x)
  | .tup ds, v => ∃ a vs, v = .ref a ∧ SqT K F a vs ∧ Reps ds vs
  | .lst ds, v => ∃ a vs, v = .ref a ∧ F a = some (.lst vs) ∧ Reps ds vs
  | .lck ds, v => ∃ a vs, v = .ref a ∧ SqL K F a vs ∧ Reps ds vs
  | .dct kvs, v => ∃ a ws, v = .ref a ∧ F a = some (.dK ws) ∧ RepKV kvs ws
  | .obj i, v => ∃ a, m[i]? = some a ∧ v = .ref a
def Reps : List D → List V → Prop
  | [], vs => vs = []
  | d :: ds, vs => ∃ v r, vs = v :: r ∧ Rep d v ∧ Reps ds r
def RepKV : List (Key × D) → List (Key × V) → Prop
  | [], ws => ws = []
  | p :: kvs, ws => ∃ v r, ws = (p.1, v) :: r ∧ Rep p.2 v ∧ RepKV kvs r
end
/-- what a list or dict of its own holds -/
def Cont (H : Hp) (a : Addr) : D → Prop
  | .lst ds => ∃ vs, H a = some (.lst vs) ∧ Reps K at_ F m ds vs
  | .dct kvs => ∃ ws, H a = some (.dK ws) ∧ RepKV K at_ F m kvs ws
  | _ => False
end
section
variable (K : PySem.W.Frag) (at_ : At) (xa : Option Xc)
def SlotRep (g : G) (w : Owner) (H : Hp) : Slot → V → Prop
  | .dat d, v => Rep K at_ g.F g.m d v
  | .own d, v => ∃ a, v = .ref a ∧ g.o a = some w ∧ Cont K at_ g.F g.m H a d
  | .exn c f, v => ∃ i x, w = .slot i ∧ xa = some x ∧ v = .ref x.a ∧ x.cls = .ref (at_ c) ∧ match f with
    | none => x.d = none
    | some p => ∃ d u, x.d = some d ∧ g.F d = some (.xd [(p.1, u)]) ∧ Rep K at_ g.F g.m p.2 u
def FldsRep (g : G) (i : Nat) (H : Hp) : List (Str × Slot) → List (Str × V) → Prop
  | [], fs => fs = []
  | p :: ps, fs => ∃ v r, fs = (p.1, v) :: r ∧ SlotRep K at_ xa g (.fld i p.1) H p.2 v ∧ FldsRep g i H ps r
def ObjRep (g : G) (i : Nat) (H : Hp) : SO → Prop
  | .lst ds => ∃ a vs, g.m[i]? = some a ∧ g.o a = some (.obj i) ∧ H a = some (.lst vs) ∧ Reps K at_ g.F g.m ds vs
  | .ins c fs => ∃ a dx vs, g.m[i]? = some a ∧ g.o a = some (.obj i) ∧ H a = some (.ins (at_ c) dx vs) ∧ FldsRep K at_ xa g i H fs vs
structure Rel (g : G) (st : Stt) (σ : St) (H : Hp) : Prop where
  pro : ∀ a o, g.P a = some o → H a = some o ∧ g.F a = none ∧ g.o a = none
  sub : ∀ a o, g.F a = some o → H a = some o ∧ g.o a = none
  own : ∀ a w, g.o a = some w → ∃ o, H a = some o
  slot : ∀ i s, st.r[i]? = some (some s) → ∃ v, σ[i]? = some (some v) ∧ SlotRep K at_ xa g (.slot i) H s v
  store : ∀ i o, st.S[i]? = some o → ObjRep K at_ xa g i H o
  len : st.S.length = g.m.length
/-- the ghost later on -/
structure G.le (g g' : G) : Prop where
  P : g'.P = g.P
  F : ∀ a o, g.F a = some o → g'.F a = some o
  m : ∃ l, g'.m = g.m ++ l
end
theorem G.le.refl (g : G) : g.le g := ⟨rfl, fun _ _ h => h, [], by simp⟩
theorem G.le.trans {a b c : G} (h : a.le b) (k : b.le c) : a.le c := ⟨k.P.trans h.P, fun x o e => k.F x o (h.F x o e), by
  obtain ⟨l, e⟩ := h.m
  obtain ⟨l', e'⟩ := k.m
  exact ⟨l ++ l', by rw [e', e, List.append_assoc]⟩⟩
theorem G.le.get {g g' : G} (h : g.le g') {i : Nat} {a : Addr} (e : g.m[i]? = some a) : g'.m[i]? = some a := by
  obtain ⟨l, q⟩ := h.m
  rw [q, List.getElem?_append_left (List.getElem?_eq_some_iff.mp e).1]
  exact e
section
variable {K : PySem.W.Frag} {at_ : At} {F F' : Hp} {m m' : List Addr}
theorem SqT.le {a : Addr} {xs : List V} (h : SqT K F a xs) (k : ∀ a o, F a = some o → F' a = some o) : SqT K F' a xs := by
  rcases h with (h | ⟨o, h⟩) | h
  · exact .inl (.inl (k _ _ h))
  · exact .inl (.inr ⟨o, k _ _ h⟩)
  · exact .inr h
theorem SqL.le {a : Addr} {xs : List V} (h : SqL K F a xs) (k : ∀ a o, F a = some o → F' a = some o) : SqL K F' a xs := by
  rcases h with (h | ⟨o, h⟩) | h
  · exact .inl (.inl (k _ _ h))
  · exact .inl (.inr ⟨o, k _ _ h⟩)
  · exact .inr h
mutual
theorem Rep.le (k : ∀ a o, F a = some o → F' a = some o) (km : ∀ (i : Nat) (a : Addr), m[i]? = some a → m'[i]? = some a) : ∀ (d : D) (v : V), Rep K at_ F m d v → Rep K at_ F' m' d v
  | .non, _, h => by unfold Rep at h ⊢; exact h
  | .bl _, _, h => by unfold Rep at h ⊢; exact h
  | .int _, _, h => by unfold Rep at h ⊢; exact h
  | .str _, _, h => by unfold Rep at h ⊢; exact h
  | .ty _, _, h => by unfold Rep at h ⊢; exact h
  | .fn _, _, h => by unfold Rep at h ⊢; exact h
  | .tup ds, _, h => by
    unfold Rep at h ⊢
    obtain ⟨a, vs, e, q, r⟩ := h
    exact ⟨a, vs, e, SqT.le q k, Reps.le k km ds vs r⟩
  | .lst ds, _, h => by
    unfold Rep at h ⊢
    obtain ⟨a, vs, e, q, r⟩ := h
    exact ⟨a, vs, e, k _ _ q, Reps.le k km ds vs r⟩
  | .lck ds, _, h => by
    unfold Rep at h ⊢
    obtain ⟨a, vs, e, q, r⟩ := h
    exact ⟨a, vs, e, SqL.le q k, Reps.le k km ds vs r⟩
  | .dct ds, _, h => by
    unfold Rep at h ⊢
    obtain ⟨a, vs, e, q, r⟩ := h
    exact ⟨a, vs, e, k _ _ q, RepKV.le k km ds vs r⟩
  | .obj i, _, h => by
    unfold Rep at h ⊢
    obtain ⟨a, e, q⟩ := h
    exact ⟨a, km _ _ e, q⟩
theorem Reps.le (k : ∀ a o, F a = some o → F' a = some o) (km : ∀ (i : Nat) (a : Addr), m[i]? = some a → m'[i]? = some a) : ∀ (ds : List D) (vs : List V), Reps K at_ F m ds vs → Reps K at_ F' m' ds vs
  | [], _, h => by unfold Reps at h ⊢; exact h
  | d :: ds, _, h => by
    unfold Reps at h ⊢
    obtain ⟨v, r, e, q, z⟩ := h
    exact ⟨v, r, e, Rep.le k km d v q, Reps.le k km ds r z⟩
theorem RepKV.le (k : ∀ a o, F a = some o → F' a = some o) (km : ∀ (i : Nat) (a : Addr), m[i]? = some a → m'[i]? = some a) : ∀ (ds : List (Key × D)) (vs : List (Key × V)), RepKV K at_ F m ds vs → RepKV K at_ F' m' ds vs
  | [], _, h => by unfold RepKV at h ⊢; exact h
  | p :: ds, _, h => by
    unfold RepKV at h ⊢
    obtain ⟨v, r, e, q, z⟩ := h
    exact ⟨v, r, e, Rep.le k km p.2 v q, RepKV.le k km ds r z⟩
end
theorem Rep.leG {g g' : G} (h : g.le g') {d : D} {v : V} (r : Rep K at_ g.F g.m d v) : Rep K at_ g'.F g'.m d v := Rep.le h.F (fun _ _ e => h.get e) d v r
theorem Reps.leG {g g' : G} (h : g.le g') {d : List D} {v : List V} (r : Reps K at_ g.F g.m d v) : Reps K at_ g'.F g'.m d v := Reps.le h.F (fun _ _ e => h.get e) d v r
theorem RepKV.leG {g g' : G} (h : g.le g') {d : List (Key × D)} {v : List (Key × V)} (r : RepKV K at_ g.F g.m d v) : RepKV K at_ g'.F g'.m d v := RepKV.le h.F (fun _ _ e => h.get e) d v r
theorem Cont.le {H H' : Hp} {a : Addr} (k : ∀ a o, F a = some o → F' a = some o) (km : ∀ (i : Nat) (a : Addr), m[i]? = some a → m'[i]? = some a) (hH : H' a = H a) : ∀ {d : D}, Cont K at_ F m H a d → Cont K at_ F' m' H' a d
  | .lst ds, h => by
    obtain ⟨vs, e, r⟩ := h
    exact ⟨vs, by rw [hH]; exact e, Reps.le k km _ _ r⟩
  | .dct ds, h => by
    obtain ⟨vs, e, r⟩ := h
    exact ⟨vs, by rw [hH]; exact e, RepKV.le k km _ _ r⟩
end
/-! ### lengths, places -/
section
variable {K : PySem.W.Frag} {at_ : At} {F : Hp} {m : List Addr}
theorem Reps.length : ∀ {ds : List D} {vs : List V}, Reps K at_ F m ds vs → vs.length = ds.length
  | [], _, h => by unfold Reps at h; subst h; rfl
  | d :: ds, _, h => by
    unfold Reps at h
    obtain ⟨v, r, e, q, z⟩ := h
    subst e
    simp [Reps.length z]
theorem Reps.nil : Reps K at_ F m [] [] := by unfold Reps; rfl
theorem Reps.cons {d : D} {ds : List D} {v : V} {vs : List V} (h : Rep K at_ F m d v) (t : Reps K at_ F m ds vs) : Reps K at_ F m (d :: ds) (v :: vs) := by unfold Reps; exact ⟨v, vs, rfl, h, t⟩
theorem Reps.uncons {d : D} {ds : List D} {vs : List V} (h : Reps K at_ F m (d :: ds) vs) : ∃ v r, vs = v :: r ∧ Rep K at_ F m d v ∧ Reps K at_ F m ds r := by unfold Reps at h; exact h
theorem Reps.unnil {vs : List V} (h : Reps K at_ F m [] vs) : vs = [] := by unfold Reps at h; exact h
theorem Reps.append : ∀ {ds es : List D} {vs ws : List V}, Reps K at_ F m ds vs → Reps K at_ F m es ws → Reps K at_ F m (ds ++ es) (vs ++ ws)
  | [], _, _, _, h, k => by rw [h.unnil]; exact k
  | d :: ds, _, _, _, h, k => by
    obtain ⟨v, r, e, q, z⟩ := h.uncons
    subst e
    exact Reps.cons q (Reps.append z k)
theorem Reps.get : ∀ {ds : List D} {vs : List V} {i : Nat} {d : D}, Reps K at_ F m ds vs → ds[i]? = some d → ∃ v, vs[i]? = some v ∧ Rep K at_ F m d v
  | [], _, _, _, _, e => by simp at e
  | x :: ds, _, 0, _, h, e => by
    obtain ⟨v, r, e', q, z⟩ := h.uncons
    subst e'
    simp at e
    subst e
    exact ⟨v, rfl, q⟩
  | x :: ds, _, i + 1, _, h, e => by
    obtain ⟨v, r, e', q, z⟩ := h.uncons
    subst e'
    obtain ⟨w, e1, q1⟩ := Reps.get (i := i) z (by simpa using e)
    exact ⟨w, by simpa using e1, q1⟩
theorem Reps.take : ∀ {ds : List D} {vs : List V} (n : Nat), Reps K at_ F m ds vs → Reps K at_ F m (ds.take n) (vs.take n)
  | _, _, 0, _ => by simpa using Reps.nil
  | [], _, n + 1, h => by rw [h.unnil]; simpa using Reps.nil
  | d :: ds, _, n + 1, h => by
    obtain ⟨v, r, e, q, z⟩ := h.uncons
    subst e
    simpa using Reps.cons q (Reps.take n z)
theorem Reps.drop : ∀ {ds : List D} {vs : List V} (n : Nat), Reps K at_ F m ds vs → Reps K at_ F m (ds.drop n) (vs.drop n)
  | _, _, 0, h => by simpa using h
  | [], _, n + 1, h => by rw [h.unnil]; simpa using Reps.nil
  | d :: ds, _, n + 1, h => by
    obtain ⟨v, r, e, q, z⟩ := h.uncons
    subst e
    simpa using Reps.drop n z
theorem Reps.set : ∀ {ds : List D} {vs : List V} (i : Nat) {d : D} {v : V}, Reps K at_ F m ds vs → Rep K at_ F m d v → Reps K at_ F m (ds.set i d) (vs.set i v)
  | [], _, _, _, _, h, _ => by rw [h.unnil]; simpa using Reps.nil
  | x :: ds, _, 0, _, _, h, k => by
    obtain ⟨v, r, e, q, z⟩ := h.uncons
    subst e
    simpa using Reps.cons k z
  | x :: ds, _, i + 1, _, _, h, k => by
    obtain ⟨v, r, e, q, z⟩ := h.uncons
    subst e
    simpa using Reps.cons q (Reps.set i z k)
theorem Reps.reverse {ds : List D} {vs : List V} (h : Reps K at_ F m ds vs) : Reps K at_ F m ds.reverse vs.reverse := by
  induction ds generalizing vs with
  | nil => rw [h.unnil]; simpa using Reps.nil
  | cons d ds ih =>
    obtain ⟨v, r, e, q, z⟩ := h.uncons
    subst e
    simpa using Reps.append (ih z) (Reps.cons q Reps.nil)
theorem Reps.dropLast {ds : List D} {vs : List V} (h : Reps K at_ F m ds vs) : Reps K at_ F m ds.dropLast vs.dropLast := by
  rw [List.dropLast_eq_take, List.dropLast_eq_take, h.length]; exact h.take _
theorem Reps.rep {ds : List D} {vs : List V} (h : Reps K at_ F m ds vs) : ∀ k : Nat, Reps K at_ F m (List.replicate k ds).flatten (List.replicate k vs).flatten
  | 0 => by simpa using Reps.nil
  | k + 1 => by rw [List.replicate_succ, List.replicate_succ, List.flatten_cons, List.flatten_cons]; exact Reps.append h (Reps.rep h k)
theorem Reps.ints : ∀ {ns : List Int}, Reps K at_ F m (ns.map D.int) (ns.map V.int)
  | [] => Reps.nil
  | n :: ns => Reps.cons (by unfold Rep; rfl) Reps.ints
end
end Pl
/-! The pure layer: readings by pure functions. -/
namespace Pl
open PySem L2
inductive Res (α : Type) where
  | ok (a : α) (st : Stt) | exc (e : Ex) (st : Stt) | bad
def Res.bind {α β : Type} (r : Res α) (k : α → Stt → Res β) : Res β := match r with
  | .ok a st => k a st
  | .exc e st => .exc e st
  | .bad => .bad
@[simp] theorem Res.bind_ok {α β : Type} {a : α} {st : Stt} {k : α → Stt → Res β} : (Res.ok a st).bind k = k a st := rfl
@[simp] theorem Res.bind_exc {α β : Type} {e : Ex} {st : Stt} {k : α → Stt → Res β} : (Res.exc e st : Res α).bind k = .exc e st := rfl
@[simp] theorem Res.bind_bad {α β : Type} {k : α → Stt → Res β} : (Res.bad : Res α).bind k = .bad := rfl
def lift {α : Type} (o : Option α) (st : Stt) : Res α := match o with
  | some a => .ok a st
  | none => .bad
@[simp] theorem lift_some {α : Type} {a : α} {st : Stt} : lift (some a) st = .ok a st := rfl
@[simp] theorem lift_none {α : Type} {st : Stt} : lift (none : Option α) st = .bad := rfl
abbrev Ev := Stt → Res D
abbrev Bv := Stt → Res Bool
abbrev Av := Stt → Res (List D)
inductive Fl where
  | nx (st : Stt) | rt (s : Slot) (st : Stt) | bk (st : Stt) | ct (st : Stt) | exc (e : Ex) (st : Stt) | bad
abbrev Cv := Stt → Fl
def Res.fl {α : Type} (r : Res α) (k : α → Stt → Fl) : Fl := match r with
  | .ok a st => k a st
  | .exc e st => .exc e st
  | .bad => .bad
@[simp] theorem Res.fl_ok {α : Type} {a : α} {st : Stt} {k : α → Stt → Fl} : (Res.ok a st).fl k = k a st := rfl
@[simp] theorem Res.fl_exc {α : Type} {e : Ex} {st : Stt} {k : α → Stt → Fl} : (Res.exc e st : Res α).fl k = .exc e st := rfl
@[simp] theorem Res.fl_bad {α : Type} {k : α → Stt → Fl} : (Res.bad : Res α).fl k = .bad := rfl
def isSlot : Owner → Bool
  | .slot _ => true
  | _ => false
section
variable (K : PySem.W.Frag) (at_ : At) (xa : Option Xc) (W : WX)
def ExOk (g : G) (e : Ex) (σ : St) (H : Hp) : Prop := match e.f with
  | none => W (.ref (at_ e.c)) none σ H
  | some (f, x) => ∀ d v, g.F d = some (.xd [(f, v)]) → Rep K at_ g.F g.m x v → W (.ref (at_ e.c)) (some d) σ H
/-- a list or dict that is nobody's yet -/
def Tmp (g : G) (a : Addr) (d : D) (H : Hp) : Prop := Cont K at_ g.F g.m H a d ∧ g.F a = none ∧ g.P a = none ∧ ∀ w, g.o a = some w → isSlot w = true
def Aft {α : Type} (g : G) (σ : St) (P : G → Hp → α → Stt → Prop) : Res α → Prop
  | .ok a st => ∀ g' H', g.le g' → Rel K at_ xa g' st σ H' → P g' H' a st
  | .exc e st => ∀ g' H', g.le g' → Rel K at_ xa g' st σ H' → ExOk K at_ W g' e σ H'
  | .bad => False
abbrev PoE (Q : VK) : G → Hp → D → Stt → Prop := fun g' H' d _ => ∀ v, Rep K at_ g'.F g'.m d v → Q v H'
/-- of something new that is nobody's -/
abbrev PoO (Q : VK) : G → Hp → D → Stt → Prop := fun g' H' d _ => ∀ a, Cont K at_ g'.F g'.m H' a d → g'.F a = none → g'.P a = none → g'.o a = none → Q (.ref a) H'
abbrev PoB (Q : Bool → Hp → Prop) : G → Hp → Bool → Stt → Prop := fun _ H' b _ => Q b H'
abbrev PoA (Q : List V → Hp → Prop) : G → Hp → List D → Stt → Prop := fun g' H' ds _ => ∀ vs, Reps K at_ g'.F g'.m ds vs → Q vs H'
def AftC (g : G) (T : Ends) : Fl → Prop
  | .nx st => ∀ g' σ' H', g.le g' → Rel K at_ xa g' st σ' H' → T.nx σ' H'
  | .rt (.dat d) st => ∀ g' σ' v H', g.le g' → Rel K at_ xa g' st σ' H' → Rep K at_ g'.F g'.m d v → T.rt v H'
  | .rt (.own d) st => ∀ g' σ' a H', g.le g' → Rel K at_ xa g' st σ' H' → Tmp K at_ g' a d H' → T.rt (.ref a) H'
  | .rt (.exn _ _) _ => False
  | .bk st => ∀ g' σ' H', g.le g' → Rel K at_ xa g' st σ' H' → T.bk σ' H'
  | .ct st => ∀ g' σ' H', g.le g' → Rel K at_ xa g' st σ' H' → T.ct σ' H'
  | .exc e st => ∀ g' σ' H', g.le g' → Rel K at_ xa g' st σ' H' → ExOk K at_ W g' e σ' H'
  | .bad => False
def qE (f : Ev) : TE := fun σ H Q => ∃ g st, Rel K at_ xa g st σ H ∧ Aft K at_ xa W g σ (PoE K at_ Q) (f st)
def qO (f : Ev) : TE := fun σ H Q => ∃ g st, Rel K at_ xa g st σ H ∧ Aft K at_ xa W g σ (PoO K at_ Q) (f st)
def qB (f : Bv) : TT := fun σ H Q => ∃ g st, Rel K at_ xa g st σ H ∧ Aft K at_ xa W g σ (PoB Q) (f st)
def qA (f : Av) : TA := fun σ H Q => ∃ g st, Rel K at_ xa g st σ H ∧ Aft K at_ xa W g σ (PoA K at_ Q) (f st)
def qC (f : Cv) : TS := fun T σ H => ∃ g st, Rel K at_ xa g st σ H ∧ AftC K at_ xa W g T (f st)
end
section
variable {K : PySem.W.Frag} {at_ : At} {xa : Option Xc} {W : WX} {g g' : G} {σ : St} {H : Hp}
theorem Aft.le {α : Type} {P : G → Hp → α → Stt → Prop} (h : g.le g') : ∀ {r : Res α}, Aft K at_ xa W g σ P r → Aft K at_ xa W g' σ P r
  | .ok _ _, k => fun g'' H' l => k g'' H' (h.trans l)
  | .exc _ _, k => fun g'' H' l => k g'' H' (h.trans l)
theorem Aft.bind {α β : Type} {P : G → Hp → α → Stt → Prop} {P' : G → Hp → β → Stt → Prop} {ra : Res α} {k : α → Stt → Res β} (h : Aft K at_ xa W g σ P' (ra.bind k))
    (go : ∀ g' H' a st', g.le g' → Rel K at_ xa g' st' σ H' → Aft K at_ xa W g' σ P' (k a st') → P g' H' a st') : Aft K at_ xa W g σ P ra := by
  cases ra with
  | ok a st => exact fun g' H' l R => go g' H' a st l R (Aft.le (r := k a st) l h)
  | exc e st => exact h
  | bad => exact h
theorem Aft.ok {α : Type} {P : G → Hp → α → Stt → Prop} {a : α} {st : Stt} (h : Aft K at_ xa W g σ P (.ok a st)) (R : Rel K at_ xa g st σ H) : P g H a st := h g H (G.le.refl g) R
theorem Aft.lift {α : Type} {P : G → Hp → α → Stt → Prop} {o : Option α} {st : Stt} (h : Aft K at_ xa W g σ P (lift o st)) : ∃ a, o = some a ∧ Aft K at_ xa W g σ P (.ok a st) := by
  cases o with
  | none => exact h.elim
  | some a => exact ⟨a, rfl, h⟩
theorem AftC.le {T : Ends} (h : g.le g') : ∀ {r : Fl}, AftC K at_ xa W g T r → AftC K at_ xa W g' T r
  | .nx _, k => fun g'' s H' l => k g'' s H' (h.trans l)
  | .rt (.dat _) _, k => fun g'' s v H' l => k g'' s v H' (h.trans l)
  | .rt (.own _) _, k => fun g'' s v H' l => k g'' s v H' (h.trans l)
  | .rt (.exn _ _) _, k => k.elim
  | .bk _, k => fun g'' s H' l => k g'' s H' (h.trans l)
  | .ct _, k => fun g'' s H' l => k g'' s H' (h.trans l)
  | .exc _ _, k => fun g'' s H' l => k g'' s H' (h.trans l)
theorem AftC.fl {α : Type} {P : G → Hp → α → Stt → Prop} {T : Ends} {ra : Res α} {k : α → Stt → Fl} (h : AftC K at_ xa W g T (ra.fl k))
    (go : ∀ g' H' a st', g.le g' → Rel K at_ xa g' st' σ H' → AftC K at_ xa W g' T (k a st') → P g' H' a st') : Aft K at_ xa W g σ P ra := by
  cases ra with
  | ok a st => exact fun g' H' l R => go g' H' a st l R (AftC.le (r := k a st) l h)
  | exc e st => exact fun g' H' l R => h g' σ H' l R
  | bad => exact h
end
/-! ### the relation through changes -/
section
variable {K : PySem.W.Frag} {at_ : At} {xa : Option Xc} {g g' : G} {st : Stt} {σ : St} {H H' : Hp}
theorem SlotRep.to {w : Owner} {s : Slot} {v : V} (hF : ∀ a o, g.F a = some o → g'.F a = some o) (hm : ∀ (i : Nat) (a : Addr), g.m[i]? = some a → g'.m[i]? = some a) (ho : ∀ a, g.o a = some w → g'.o a = some w ∧ H' a = H a)
    (h : SlotRep K at_ xa g w H s v) : SlotRep K at_ xa g' w H' s v := by
  cases s with
  | dat d => exact Rep.le hF hm d v h
  | own d =>
    obtain ⟨a, e, o, c⟩ := h
    exact ⟨a, e, (ho a o).1, Cont.le hF hm (ho a o).2 c⟩
  | exn c f =>
    obtain ⟨i, x, e1, e2, e3, e4, e5⟩ := h
    refine ⟨i, x, e1, e2, e3, e4, ?_⟩
    cases f with
    | none => exact e5
    | some p =>
      obtain ⟨d, u, z1, z2, z3⟩ := e5
      exact ⟨d, u, z1, hF _ _ z2, Rep.le hF hm _ _ z3⟩
theorem FldsRep.to {i : Nat} (hF : ∀ a o, g.F a = some o → g'.F a = some o) (hm : ∀ (i : Nat) (a : Addr), g.m[i]? = some a → g'.m[i]? = some a) (ho : ∀ a f, g.o a = some (.fld i f) → g'.o a = some (.fld i f) ∧ H' a = H a) :
    ∀ {fs : List (Str × Slot)} {vs : List (Str × V)}, FldsRep K at_ xa g i H fs vs → FldsRep K at_ xa g' i H' fs vs
  | [], _, h => h
  | p :: fs, _, h => by
    obtain ⟨v, r, e, q, z⟩ := h
    exact ⟨v, r, e, q.to hF hm (fun a => ho a p.1), FldsRep.to hF hm ho z⟩
theorem ObjRep.to {i : Nat} {o : SO} (hF : ∀ a o, g.F a = some o → g'.F a = some o) (hm : ∀ (i : Nat) (a : Addr), g.m[i]? = some a → g'.m[i]? = some a)
    (ho : ∀ a w, isSlot w = false → g.o a = some w → g'.o a = some w ∧ H' a = H a) (h : ObjRep K at_ xa g i H o) : ObjRep K at_ xa g' i H' o := by
  cases o with
  | lst ds =>
    obtain ⟨a, vs, e, o, c, r⟩ := h
    obtain ⟨z1, z2⟩ := ho a _ rfl o
    exact ⟨a, vs, hm _ _ e, z1, z2.trans c, Reps.le hF hm _ _ r⟩
  | ins c fs =>
    obtain ⟨a, dx, vs, e, o, c, r⟩ := h
    obtain ⟨z1, z2⟩ := ho a _ rfl o
    exact ⟨a, dx, vs, hm _ _ e, z1, z2.trans c, r.to hF hm fun a f => ho a _ rfl⟩
/-- all that stood stands, more may be frozen (new things alone) -/
theorem Rel.step (h : Rel K at_ xa g st σ H) (le : g.le g') (ho : g'.o = g.o) (hm : g'.m = g.m) (keep : ∀ a o, H a = some o → H' a = some o) (hF : ∀ a o, g'.F a = some o → g.F a = some o ∨ (H a = none ∧ H' a = some o)) : Rel K at_ xa g' st σ H' := by
  have keepO : ∀ a w, g.o a = some w → H' a = H a := fun a w e => by
    obtain ⟨o, q⟩ := h.own a w e
    rw [q]; exact keep _ _ q
  refine ⟨fun a o e => ?_, fun a o e => ?_, fun a w e => ?_, fun i s e => ?_, fun i o e => ?_, by rw [hm]; exact h.len⟩
  · rw [le.P] at e
    obtain ⟨h1, h2, h3⟩ := h.pro a o e
    refine ⟨keep _ _ h1, ?_, by rw [ho]; exact h3⟩
    cases q : g'.F a with
    | none => rfl
    | some u =>
      rcases hF a u q with z | z
      · rw [h2] at z; cases z
      · rw [h1] at z; cases z.1
  · rcases hF a o e with z | z
    · obtain ⟨h1, h2⟩ := h.sub a o z
      exact ⟨keep _ _ h1, by rw [ho]; exact h2⟩
    · refine ⟨z.2, ?_⟩
      rw [ho]
      cases q : g.o a with
      | none => rfl
      | some w =>
        obtain ⟨u, q'⟩ := h.own a w q
        rw [z.1] at q'; cases q'
  · rw [ho] at e
    obtain ⟨o, q⟩ := h.own a w e
    exact ⟨o, keep _ _ q⟩
  · obtain ⟨v, e1, e2⟩ := h.slot i s e
    exact ⟨v, e1, e2.to le.F (fun _ _ e => le.get e) fun a e => ⟨by rw [ho]; exact e, keepO _ _ e⟩⟩
  · exact (h.store i o e).to le.F (fun _ _ e => le.get e) fun a w _ e => ⟨by rw [ho]; exact e, keepO _ _ e⟩
/-- something new, frozen -/
abbrev G.ice (g : G) (p : Addr) (o : HO) : G := { g with F := upd g.F p o }
theorem G.ice_le {p : Addr} {o : HO} (hp : g.F p = none) : g.le (g.ice p o) := ⟨rfl, fun a u e => by
  show upd g.F p o a = some u
  rw [upd_ne (ne_of_none e hp)]; exact e, [], by simp⟩
theorem Rel.fnone (h : Rel K at_ xa g st σ H) {p : Addr} (hp : H p = none) : g.F p = none := by
  cases q : g.F p with
  | none => rfl
  | some u => rw [(h.sub p u q).1] at hp; cases hp
theorem Rel.pnone (h : Rel K at_ xa g st σ H) {p : Addr} (hp : H p = none) : g.P p = none := by
  cases q : g.P p with
  | none => rfl
  | some u => rw [(h.pro p u q).1] at hp; cases hp
theorem Rel.onone (h : Rel K at_ xa g st σ H) {p : Addr} (hp : H p = none) : g.o p = none := by
  cases q : g.o p with
  | none => rfl
  | some w =>
    obtain ⟨u, q'⟩ := h.own p w q
    rw [q'] at hp; cases hp
theorem Rel.ice (h : Rel K at_ xa g st σ H) {p : Addr} (hp : H p = none) (o : HO) : Rel K at_ xa (g.ice p o) st σ (upd H p o) := by
  refine h.step (G.ice_le (h.fnone hp)) rfl rfl (fun a u e => by rw [upd_ne (ne_of_none e hp)]; exact e) fun a u e => ?_
  by_cases ha : a = p
  · subst ha
    have e' : upd g.F a o a = some u := e
    rw [upd_same] at e'
    exact .inr ⟨hp, by rw [upd_same]; exact e'⟩
  · have e' : upd g.F p o a = some u := e
    rw [upd_ne ha] at e'
    exact .inl e'
/-- something new, nobody's -/
theorem Rel.new (h : Rel K at_ xa g st σ H) {p : Addr} (hp : H p = none) (o : HO) : Rel K at_ xa g st σ (upd H p o) :=
  h.step (G.le.refl g) rfl rfl (fun a u e => by rw [upd_ne (ne_of_none e hp)]; exact e) fun a u e => .inl e
/-- what was nobody's is frozen -/
theorem Rel.freeze (h : Rel K at_ xa g st σ H) {p : Addr} {o : HO} (hp : H p = some o) (hP : g.P p = none) (ho : g.o p = none) (hF : g.F p = none) : g.le (g.ice p o) ∧ Rel K at_ xa (g.ice p o) st σ H := by
  have le : g.le (g.ice p o) := G.ice_le hF
  refine ⟨le, fun a u e => ?_, fun a u e => ?_, h.own, fun i s e => ?_, fun i u e => ?_, h.len⟩
  · obtain ⟨h1, h2, h3⟩ := h.pro a u e
    refine ⟨h1, ?_, h3⟩
    have ha : a ≠ p := fun z => by subst z; rw [hP] at e; cases e
    show upd g.F p o a = none
    rw [upd_ne ha]; exact h2
  · have e' : upd g.F p o a = some u := e
    by_cases ha : a = p
    · subst ha
      rw [upd_same] at e'
      cases e'
      exact ⟨hp, ho⟩
    · rw [upd_ne ha] at e'
      exact h.sub a u e'
  · obtain ⟨v, e1, e2⟩ := h.slot i s e
    exact ⟨v, e1, e2.to le.F (fun _ _ e => le.get e) fun a e => ⟨e, rfl⟩⟩
  · exact (h.store i u e).to le.F (fun _ _ e => le.get e) fun a w _ e => ⟨e, rfl⟩
theorem Cont.rep {F : Hp} {m : List Addr} {a : Addr} {d : D} {o : HO} (h : Cont K at_ F m H a d) (e : H a = some o) (hF : F a = none) : Rep K at_ (upd F a o) m d (.ref a) := by
  have k : ∀ b u, F b = some u → upd F a o b = some u := fun b u q => by rw [upd_ne (ne_of_none q hF)]; exact q
  cases d with
  | lst ds =>
    obtain ⟨vs, q, r⟩ := h
    rw [e] at q; cases q
    unfold Rep
    exact ⟨a, vs, rfl, upd_same, Reps.le k (fun _ _ e => e) _ _ r⟩
  | dct ds =>
    obtain ⟨vs, q, r⟩ := h
    rw [e] at q; cases q
    unfold Rep
    exact ⟨a, vs, rfl, upd_same, RepKV.le k (fun _ _ e => e) _ _ r⟩
  | _ => exact h.elim
theorem Cont.there {F : Hp} {m : List Addr} {a : Addr} {d : D} (h : Cont K at_ F m H a d) : ∃ o, H a = some o := by
  cases d with
  | lst ds => obtain ⟨vs, q, r⟩ := h; exact ⟨_, q⟩
  | dct ds => obtain ⟨vs, q, r⟩ := h; exact ⟨_, q⟩
  | _ => exact h.elim
/-- a slot stored: data -/
def setR (st : Stt) (i : Nat) (s : Slot) : Stt := { st with r := st.r.set i (some s) }
theorem Rel.setDat (h : Rel K at_ xa g st σ H) {i : Nat} {d : D} {v : V} (hi : i < σ.length) (r : Rep K at_ g.F g.m d v) : Rel K at_ xa g (setR st i (.dat d)) (σ.set i (some v)) H := by
  refine ⟨h.pro, h.sub, h.own, fun j s e => ?_, h.store, h.len⟩
  have e' : (st.r.set i (some (.dat d)))[j]? = some (some s) := e
  by_cases hj : i = j
  · subst hj
    by_cases hl : i < st.r.length
    · rw [List.getElem?_set_self hl] at e'
      cases e'
      exact ⟨v, by rw [List.getElem?_set_self hi], r⟩
    · rw [List.getElem?_eq_none (by simpa using hl)] at e'; cases e'
  · rw [List.getElem?_set_ne hj] at e'
    obtain ⟨u, e1, e2⟩ := h.slot j s e'
    exact ⟨u, by rw [List.getElem?_set_ne hj]; exact e1, e2⟩
/-- a slot stored: its own -/
abbrev G.give (g : G) (a : Addr) (w : Owner) : G := { g with o := fun b => if b = a then some w else g.o b }
theorem Rel.setOwn (h : Rel K at_ xa g st σ H) {i : Nat} {d : D} {a : Addr} (hi : i < σ.length) (c : Cont K at_ g.F g.m H a d) (hF : g.F a = none) (hP : g.P a = none) (ho : g.o a = none) :
    g.le (g.give a (.slot i)) ∧ Rel K at_ xa (g.give a (.slot i)) (setR st i (.own d)) (σ.set i (some (.ref a))) H := by
  have le : g.le (g.give a (.slot i)) := ⟨rfl, fun _ _ e => e, [], by simp⟩
  have og : ∀ b w, g.o b = some w → (g.give a (.slot i)).o b = some w := fun b w e => by
    have : b ≠ a := fun z => by subst z; rw [ho] at e; cases e
    show (if b = a then _ else _) = _
    rw [if_neg this]; exact e
  refine ⟨le, fun b u e => ?_, fun b u e => ?_, fun b w e => ?_, fun j s e => ?_, fun j u e => (h.store j u e).to le.F (fun _ _ e => le.get e) fun b w _ e => ⟨og b w e, rfl⟩, h.len⟩
  · obtain ⟨h1, h2, h3⟩ := h.pro b u e
    refine ⟨h1, h2, ?_⟩
    have : b ≠ a := fun z => by subst z; rw [hP] at e; cases e
    show (if b = a then _ else _) = _
    rw [if_neg this]; exact h3
  · obtain ⟨h1, h2⟩ := h.sub b u e
    refine ⟨h1, ?_⟩
    have : b ≠ a := fun z => by subst z; rw [hF] at e; cases e
    show (if b = a then _ else _) = _
    rw [if_neg this]; exact h2
  · by_cases hb : b = a
    · subst hb; exact c.there
    · have e' : (if b = a then some (Owner.slot i) else g.o b) = some w := e
      rw [if_neg hb] at e'
      exact h.own b w e'
  · have e' : (st.r.set i (some (.own d)))[j]? = some (some s) := e
    by_cases hj : i = j
    · subst hj
      by_cases hl : i < st.r.length
      · rw [List.getElem?_set_self hl] at e'
        cases e'
        exact ⟨.ref a, by rw [List.getElem?_set_self hi], a, rfl, if_pos rfl, c⟩
      · rw [List.getElem?_eq_none (by simpa using hl)] at e'; cases e'
    · rw [List.getElem?_set_ne hj] at e'
      obtain ⟨u, e1, e2⟩ := h.slot j s e'
      exact ⟨u, by rw [List.getElem?_set_ne hj]; exact e1, e2.to le.F (fun _ _ e => le.get e) fun b e => ⟨og b _ e, rfl⟩⟩
/-- a slot's own list or dict is changed -/
theorem Rel.change (h : Rel K at_ xa g st σ H) {i : Nat} {d d' : D} {a : Addr} {o : HO} (hs : st.r[i]? = some (some (.own d))) (hv : σ[i]? = some (some (.ref a))) (ha : g.o a = some (.slot i))
    (c : Cont K at_ g.F g.m (upd H a o) a d') : Rel K at_ xa g (setR st i (.own d')) σ (upd H a o) := by
  have hF : g.F a = none := by
    cases q : g.F a with
    | none => rfl
    | some u => rw [(h.sub a u q).2] at ha; cases ha
  refine ⟨fun b u e => ?_, fun b u e => ?_, fun b w e => ?_, fun j s e => ?_, fun j u e => (h.store j u e).to (fun _ _ e => e) (fun _ _ e => e) fun b w hw e => ⟨e, ?_⟩, h.len⟩
  · obtain ⟨h1, h2, h3⟩ := h.pro b u e
    have : b ≠ a := fun z => by subst z; rw [ha] at h3; cases h3
    exact ⟨by rw [upd_ne this]; exact h1, h2, h3⟩
  · obtain ⟨h1, h2⟩ := h.sub b u e
    have : b ≠ a := fun z => by subst z; rw [hF] at e; cases e
    exact ⟨by rw [upd_ne this]; exact h1, h2⟩
  · by_cases hb : b = a
    · subst hb; exact ⟨o, upd_same⟩
    · obtain ⟨u, q⟩ := h.own b w e
      exact ⟨u, by rw [upd_ne hb]; exact q⟩
  · have e' : (st.r.set i (some (.own d')))[j]? = some (some s) := e
    by_cases hj : i = j
    · subst hj
      have hl : i < st.r.length := (List.getElem?_eq_some_iff.mp hs).1
      rw [List.getElem?_set_self hl] at e'
      cases e'
      exact ⟨.ref a, hv, a, rfl, ha, c⟩
    · rw [List.getElem?_set_ne hj] at e'
      obtain ⟨u, e1, e2⟩ := h.slot j s e'
      refine ⟨u, e1, e2.to (fun _ _ e => e) (fun _ _ e => e) fun b e => ⟨e, ?_⟩⟩
      have : b ≠ a := fun z => by subst z; rw [ha] at e; cases e; exact hj rfl
      rw [upd_ne this]
  · have : b ≠ a := fun z => by subst z; rw [ha] at e; cases e; cases hw
    rw [upd_ne this]
/-- a slot's own is frozen where it stands -/
theorem Rel.freezeSlot (h : Rel K at_ xa g st σ H) {i : Nat} {d : D} (hs : st.r[i]? = some (some (.own d))) :
    ∃ g' a, σ[i]? = some (some (.ref a)) ∧ g.le g' ∧ Rel K at_ xa g' (setR st i (.dat d)) σ H ∧ Rep K at_ g'.F g'.m d (.ref a) := by
  obtain ⟨v, e1, a, e2, ha, c⟩ := h.slot i _ hs
  subst e2
  obtain ⟨o, e⟩ := c.there
  have hF : g.F a = none := by
    cases q : g.F a with
    | none => rfl
    | some u => rw [(h.sub a u q).2] at ha; cases ha
  have hP : g.P a = none := by
    cases q : g.P a with
    | none => rfl
    | some u => rw [(h.pro a u q).2.2] at ha; cases ha
  have le0 : ∀ b u, g.F b = some u → upd g.F a o b = some u := fun b u q => by rw [upd_ne (ne_of_none q hF)]; exact q
  have le : g.le { g with F := upd g.F a o, o := fun b => if b = a then none else g.o b } := ⟨rfl, le0, [], by simp⟩
  have og : ∀ b w, g.o b = some w → w ≠ .slot i → (if b = a then none else g.o b) = some w := fun b w q hw => by
    have : b ≠ a := fun z => by subst z; rw [ha] at q; cases q; exact hw rfl
    rw [if_neg this]; exact q
  have rp := c.rep e hF
  refine ⟨_, a, e1, le, ⟨fun b u q => ?_, fun b u q => ?_, fun b w q => ?_, fun j s q => ?_, fun j u q => (h.store j u q).to le.F (fun _ _ e => le.get e) fun b w hw q => ⟨og b w q (fun z => by rw [z] at hw; cases hw), rfl⟩, h.len⟩, rp⟩
  · obtain ⟨h1, h2, h3⟩ := h.pro b u q
    have : b ≠ a := fun z => by subst z; rw [hP] at q; cases q
    exact ⟨h1, by show upd g.F a o b = none; rw [upd_ne this]; exact h2, by show (if b = a then none else g.o b) = none; rw [if_neg this]; exact h3⟩
  · have q' : upd g.F a o b = some u := q
    by_cases hb : b = a
    · subst hb
      rw [upd_same] at q'; cases q'
      exact ⟨e, if_pos rfl⟩
    · rw [upd_ne hb] at q'
      obtain ⟨h1, h2⟩ := h.sub b u q'
      exact ⟨h1, by show (if b = a then none else g.o b) = none; rw [if_neg hb]; exact h2⟩
  · have q' : (if b = a then none else g.o b) = some w := q
    by_cases hb : b = a
    · rw [if_pos hb] at q'; cases q'
    · rw [if_neg hb] at q'; exact h.own b w q'
  · have q' : (st.r.set i (some (.dat d)))[j]? = some (some s) := q
    by_cases hj : i = j
    · subst hj
      have hl : i < st.r.length := (List.getElem?_eq_some_iff.mp hs).1
      rw [List.getElem?_set_self hl] at q'
      cases q'
      exact ⟨.ref a, e1, rp⟩
    · rw [List.getElem?_set_ne hj] at q'
      obtain ⟨u, z1, z2⟩ := h.slot j s q'
      exact ⟨u, z1, z2.to le.F (fun _ _ e => le.get e) fun b e => ⟨og b _ e fun z => hj (by cases z; rfl), rfl⟩⟩
/-- the slots forgotten (for a call, at a return) -/
abbrev G.bare (g : G) : G := { g with o := fun a => match g.o a with | some w => if isSlot w = true then none else some w | none => none }
theorem bare_some {a : Addr} {w : Owner} (h : isSlot w = false) (e : g.o a = some w) : g.bare.o a = some w := by
  show (match g.o a with | some w => if isSlot w = true then none else some w | none => none) = _
  rw [e]
  show (if isSlot w = true then none else some w) = some w
  rw [h]; rfl
theorem of_bare {a : Addr} {w : Owner} (e : g.bare.o a = some w) : g.o a = some w ∧ isSlot w = false := by
  have e' : (match g.o a with | some w => if isSlot w = true then none else some w | none => none) = some w := e
  cases q : g.o a with
  | none => rw [q] at e'; cases e'
  | some u =>
    rw [q] at e'
    have e2 : (if isSlot u = true then none else some u) = some w := e'
    cases z : isSlot u with
    | true => rw [z] at e2; cases e2
    | false => rw [z] at e2; cases e2; exact ⟨rfl, z⟩
theorem bare_none {a : Addr} (e : g.o a = none) : g.bare.o a = none := by
  cases q : g.bare.o a with
  | none => rfl
  | some w => rw [(of_bare q).1] at e; cases e
theorem bare_slot {a : Addr} {w : Owner} (e : g.o a = some w) (h : isSlot w = true) : g.bare.o a = none := by
  cases q : g.bare.o a with
  | none => rfl
  | some u =>
    obtain ⟨z1, z2⟩ := of_bare q
    rw [e] at z1; cases z1
    rw [h] at z2; cases z2
theorem Rel.bare (h : Rel K at_ xa g st σ H) : Rel K at_ xa g.bare ⟨[], st.S⟩ [] H :=
  ⟨fun a o e => let ⟨h1, h2, h3⟩ := h.pro a o e; ⟨h1, h2, bare_none h3⟩, fun a o e => let ⟨h1, h2⟩ := h.sub a o e; ⟨h1, bare_none h2⟩, fun a w e => h.own a w (of_bare e).1, fun i s e => by simp at e,
    fun i o e => ObjRep.to (g := g) (H := H) (fun _ _ e => e) (fun _ _ e => e) (fun a w hw e => ⟨bare_some hw e, rfl⟩) (h.store i o e), h.len⟩
/-- for a call: the slots' own things are held -/
abbrev G.enter (g : G) (H : Hp) : G := { g.bare with P := fun a => match g.o a with | some w => if isSlot w = true then H a else none | none => g.P a }
theorem enter_slot {a : Addr} {w : Owner} (e : g.o a = some w) (h : isSlot w = true) : (g.enter H).P a = H a := by
  show (match g.o a with | some w => if isSlot w = true then H a else none | none => g.P a) = _
  rw [e]
  show (if isSlot w = true then H a else none) = H a
  rw [h]; rfl
theorem enter_none {a : Addr} (e : g.o a = none) : (g.enter H).P a = g.P a := by
  show (match g.o a with | some w => if isSlot w = true then H a else none | none => g.P a) = _
  rw [e]
theorem of_enter {a : Addr} {o : HO} (e : (g.enter H).P a = some o) : (∃ w, g.o a = some w ∧ isSlot w = true ∧ H a = some o) ∨ (g.o a = none ∧ g.P a = some o) := by
  cases q : g.o a with
  | none => rw [enter_none q] at e; exact .inr ⟨rfl, e⟩
  | some w =>
    cases z : isSlot w with
    | true => rw [enter_slot q z] at e; exact .inl ⟨w, rfl, z, e⟩
    | false =>
      have e' : (match g.o a with | some w => if isSlot w = true then H a else none | none => g.P a) = some o := e
      rw [q] at e'
      have e2 : (if isSlot w = true then H a else none) = some o := e'
      rw [z] at e2; cases e2
theorem Rel.enter (h : Rel K at_ xa g st σ H) : Rel K at_ xa (g.enter H) ⟨[], st.S⟩ [] H := by
  have b := h.bare
  refine ⟨fun a o e => ?_, b.sub, b.own, fun i s e => by simp at e, fun i o e => ObjRep.to (g := g.bare) (H := H) (fun _ _ e => e) (fun _ _ e => e) (fun a w _ e => ⟨e, rfl⟩) (b.store i o e), h.len⟩
  rcases of_enter e with ⟨w, q, z, e1⟩ | ⟨q, e1⟩
  · refine ⟨e1, ?_, bare_slot q z⟩
    cases y : g.F a with
    | none => rfl
    | some u => rw [(h.sub a u y).2] at q; cases q
  · obtain ⟨h1, h2, h3⟩ := h.pro a o e1
    exact ⟨h1, h2, bare_none h3⟩
/-- behind it -/
def G.back (g g' : G) : G := { P := g.P, F := g'.F, o := fun a => match g.o a with | some w => if isSlot w = true then some w else g'.o a | none => g'.o a, m := g'.m }
theorem Rel.back {S' : List SO} (h : Rel K at_ xa g st σ H) (le : (g.enter H).le g') (k : Rel K at_ xa g' ⟨[], S'⟩ [] H') : g.le (g.back g') ∧ Rel K at_ xa (g.back g') ⟨st.r, S'⟩ σ H' := by
  have le' : g.le (g.back g') := ⟨rfl, le.F, le.m⟩
  have bs : ∀ a w, g.o a = some w → isSlot w = true → (g.back g').o a = some w ∧ H' a = H a := fun a w e z => by
    refine ⟨?_, ?_⟩
    · show (match g.o a with | some w => if isSlot w = true then some w else g'.o a | none => g'.o a) = _
      rw [e]
      show (if isSlot w = true then some w else g'.o a) = some w
      rw [z]; rfl
    · obtain ⟨o, q⟩ := h.own a w e
      have : g'.P a = some o := by rw [le.P, enter_slot e z]; exact q
      rw [(k.pro a o this).1, q]
  have bn : ∀ a, (∀ w, g.o a = some w → isSlot w = false) → (g.back g').o a = g'.o a := fun a z => by
    show (match g.o a with | some w => if isSlot w = true then some w else g'.o a | none => g'.o a) = _
    cases q : g.o a with
    | none => rfl
    | some w =>
      show (if isSlot w = true then some w else g'.o a) = g'.o a
      rw [z w q]; rfl
  have nos : ∀ a w, g.o a = some w → isSlot w = true → ∃ o, g'.P a = some o := fun a w e z => by
    obtain ⟨o, q⟩ := h.own a w e
    exact ⟨o, by rw [le.P, enter_slot e z]; exact q⟩
  refine ⟨le', fun a o e => ?_, fun a o e => ?_, fun a w e => ?_, fun i s e => ?_, fun i o e => ?_, k.len⟩
  · have e' : g.P a = some o := e
    have on := (h.pro a o e').2.2
    have : g'.P a = some o := by rw [le.P, enter_none on]; exact e'
    obtain ⟨h1, h2, h3⟩ := k.pro a o this
    exact ⟨h1, h2, by rw [bn a fun w q => by rw [on] at q; cases q]; exact h3⟩
  · have e' : g'.F a = some o := e
    obtain ⟨h1, h2⟩ := k.sub a o e'
    refine ⟨h1, ?_⟩
    rw [bn a fun w q => ?_]
    · exact h2
    · cases z : isSlot w with
      | false => rfl
      | true =>
        obtain ⟨u, y⟩ := nos a w q z
        rw [(k.pro a u y).2.1] at e'; cases e'
  · cases q : g.o a with
    | none =>
      rw [bn a fun w q' => by rw [q] at q'; cases q'] at e
      exact k.own a w e
    | some u =>
      cases z : isSlot u with
      | true =>
        obtain ⟨o, y⟩ := h.own a u q
        exact ⟨o, by rw [(bs a u q z).2]; exact y⟩
      | false =>
        rw [bn a fun w q' => by rw [q] at q'; cases q'; exact z] at e
        exact k.own a w e
  · obtain ⟨v, e1, e2⟩ := h.slot i s e
    exact ⟨v, e1, e2.to le'.F (fun _ _ e => le'.get e) fun a e => bs a _ e rfl⟩
  · refine ObjRep.to (g := g') (H := H') (fun _ _ e => e) (fun _ _ e => e) (fun a w hw e => ⟨?_, rfl⟩) (k.store i o e)
    rw [bn a fun u q => ?_]
    · exact e
    · cases z : isSlot u with
      | false => rfl
      | true =>
        obtain ⟨x, y⟩ := nos a u q z
        rw [(k.pro a x y).2.2] at e; cases e
end
end Pl
/-! The pure layer: rules for expressions and tests. -/
namespace Pl
open PySem L2
/-! ### data as PyData -/
mutual
def toPy : D → Option PyData
  | .non => some .none
  | .bl b => some (.bool b)
  | .int i => some (.int i)
  | .str x => some (.str x)
  | .tup ds => (toPys ds).map .tuple
  | .lst ds => (toPys ds).map .list
  | .lck ds => (toPys ds).map .list
  | _ => none
def toPys : List D → Option (List PyData)
  | [] => some []
  | d :: ds => match toPy d, toPys ds with
    | some p, some ps => some (p :: ps)
    | _, _ => none
end
section
variable {K : PySem.W.Frag} {at_ : At} {F H : Hp} {m : List Addr}
mutual
theorem Rep.dp (k : ∀ a o, F a = some o → H a = some o) : ∀ (d : D) (v : V) (p : PyData), Rep K at_ F m d v → toPy d = some p → Dp K H v p
  | .non, _, _, h, e => by unfold Rep at h; unfold toPy at e; subst h; cases e; exact .non
  | .bl b, _, _, h, e => by unfold Rep at h; unfold toPy at e; subst h; cases e; exact .bl b
  | .int i, _, _, h, e => by unfold Rep at h; unfold toPy at e; subst h; cases e; exact .int i
  | .str i, _, _, h, e => by unfold Rep at h; unfold toPy at e; subst h; cases e; exact .str i
  | .ty _, _, _, h, e => by unfold toPy at e; cases e
  | .fn _, _, _, h, e => by unfold toPy at e; cases e
  | .obj _, _, _, h, e => by unfold toPy at e; cases e
  | .dct _, _, _, h, e => by unfold toPy at e; cases e
  | .tup ds, _, _, h, e => by
    unfold Rep at h; unfold toPy at e
    obtain ⟨a, vs, rfl, q, r⟩ := h
    cases z : toPys ds with
    | none => rw [z] at e; cases e
    | some ps => rw [z] at e; cases e; exact .tup (SqT.le q k) (Reps.dp k ds vs ps r z)
  | .lst ds, _, _, h, e => by
    unfold Rep at h; unfold toPy at e
    obtain ⟨a, vs, rfl, q, r⟩ := h
    cases z : toPys ds with
    | none => rw [z] at e; cases e
    | some ps => rw [z] at e; cases e; exact .lst (SqL.of (k _ _ q)) (Reps.dp k ds vs ps r z)
  | .lck ds, _, _, h, e => by
    unfold Rep at h; unfold toPy at e
    obtain ⟨a, vs, rfl, q, r⟩ := h
    cases z : toPys ds with
    | none => rw [z] at e; cases e
    | some ps => rw [z] at e; cases e; exact .lst (SqL.le q k) (Reps.dp k ds vs ps r z)
theorem Reps.dp (k : ∀ a o, F a = some o → H a = some o) : ∀ (ds : List D) (vs : List V) (ps : List PyData), Reps K at_ F m ds vs → toPys ds = some ps → DpAll K H vs ps
  | [], _, _, h, e => by rw [h.unnil]; unfold toPys at e; cases e; exact .nil
  | d :: ds, _, _, h, e => by
    obtain ⟨v, r, rfl, q, z⟩ := h.uncons
    unfold toPys at e
    cases z1 : toPy d with
    | none => rw [z1] at e; cases e
    | some p =>
      cases z2 : toPys ds with
      | none => rw [z1, z2] at e; cases e
      | some ps' => rw [z1, z2] at e; cases e; exact .cons (Rep.dp k d v p q z1) (Reps.dp k ds r ps' z z2)
end
end
/-! ### operations on values -/
section
variable (K : PySem.W.Frag) (at_ : At) (xa : Option Xc)
abbrev Kont (g : G) (st : Stt) (σ : St) (Q : VK) (d : D) : Prop := ∀ g' v H', g.le g' → Rel K at_ xa g' st σ H' → Rep K at_ g'.F g'.m d v → Q v H'
abbrev KontO (g : G) (st : Stt) (σ : St) (Q : VK) (d : D) : Prop := ∀ g' a H', g.le g' → Rel K at_ xa g' st σ H' → Cont K at_ g'.F g'.m H' a d → g'.F a = none → g'.P a = none → g'.o a = none → Q (.ref a) H'
def VOp1 (r : V → Hp → VK → Prop) (k : List SO → D → Option D) : Prop := ∀ g st σ H x dx d Q, Rel K at_ xa g st σ H → Rep K at_ g.F g.m dx x → k st.S dx = some d → Kont K at_ xa g st σ Q d → r x H Q
def VOp2 (r : R2) (k : List SO → D → D → Option D) : Prop := ∀ g st σ H x y dx dy d Q, Rel K at_ xa g st σ H → Rep K at_ g.F g.m dx x → Rep K at_ g.F g.m dy y → k st.S dx dy = some d → Kont K at_ xa g st σ Q d → r x y H Q
def VOp2O (r : R2) (k : List SO → D → D → Option D) : Prop := ∀ g st σ H x y dx dy d Q, Rel K at_ xa g st σ H → Rep K at_ g.F g.m dx x → Rep K at_ g.F g.m dy y → k st.S dx dy = some d → KontO K at_ xa g st σ Q d → r x y H Q
def VOpN (r : List V → Hp → VK → Prop) (k : List SO → List D → Option D) : Prop := ∀ g st σ H xs ds d Q, Rel K at_ xa g st σ H → Reps K at_ g.F g.m ds xs → k st.S ds = some d → Kont K at_ xa g st σ Q d → r xs H Q
def VOpNO (r : List V → Hp → VK → Prop) (k : List SO → List D → Option D) : Prop := ∀ g st σ H xs ds d Q, Rel K at_ xa g st σ H → Reps K at_ g.F g.m ds xs → k st.S ds = some d → KontO K at_ xa g st σ Q d → r xs H Q
end
def eC (d : D) : Ev := fun st => .ok d st
def eVar (i : Nat) : Ev := fun st => match st.r[i]? with
  | some (some (.dat d)) => .ok d st
  | some (some (.own d)) => .ok d (setR st i (.dat d))
  | _ => .bad
def eOp1 (k : List SO → D → Option D) (fa : Ev) : Ev := fun st => (fa st).bind fun x st1 => lift (k st1.S x) st1
def eOp2 (k : List SO → D → D → Option D) (fa fb : Ev) : Ev := fun st => (fa st).bind fun x st1 => (fb st1).bind fun y st2 => lift (k st2.S x y) st2
def aNil : Av := fun st => .ok [] st
def aCons (fa : Ev) (fr : Av) : Av := fun st => (fa st).bind fun x st1 => (fr st1).bind fun xs st2 => .ok (x :: xs) st2
def eOpN (k : List SO → List D → Option D) (fa : Av) : Ev := fun st => (fa st).bind fun xs st1 => lift (k st1.S xs) st1
def eIf (fc : Bv) (fa fb : Ev) : Ev := fun st => (fc st).bind fun b st1 => if b then fa st1 else fb st1
section
variable {X : Cx} {at_ : At} {xa : Option Xc} {W : WX} {e a b c : Expr} {es : List Expr} {fa fb fc : Ev} {fr : Av}
theorem pe_imp {t t' : TE} (h : PE X e t) (k : ∀ σ H Q, t' σ H Q → t σ H Q) : PE X e t' := ⟨fun pins s σ H Q I hw => h.run pins s σ H Q I (k σ H Q hw)⟩
theorem pt_imp {t t' : TT} (h : PT X e t) (k : ∀ σ H Q, t' σ H Q → t σ H Q) : PT X e t' := ⟨fun pins s σ H Q I hw => h.run pins s σ H Q I (k σ H Q hw)⟩
theorem pw_imp {t t' : TT} (h : PW X e t) (k : ∀ σ H Q, t' σ H Q → t σ H Q) : PW X e t' := ⟨fun wh pins s σ H Q I hw => h.run wh pins s σ H Q I (k σ H Q hw)⟩
theorem pa_imp {t t' : TA} (h : PA X es t) (k : ∀ σ H Q, t' σ H Q → t σ H Q) : PA X es t' := ⟨fun pos pins s σ H Q I hw => h.run pos pins s σ H Q I (k σ H Q hw)⟩
theorem ps_imp {st : Stmt} {t t' : TS} (h : PS X st t) (k : ∀ D σ H, t' D σ H → t D σ H) : PS X st t' := ⟨fun pins s σ H D I hw => h.run pins s σ H D I (k D σ H hw)⟩
theorem pss_imp {st : List Stmt} {t t' : TS} (h : PSs X st t) (k : ∀ D σ H, t' D σ H → t D σ H) : PSs X st t' := ⟨fun pins s σ H D I hw => h.run pins s σ H D I (k D σ H hw)⟩
theorem de_var {i : Nat} (h : PE X e (tVar i)) : PE X e (qE X.K at_ xa W (eVar i)) := by
  refine pe_imp h fun σ H Q hq => ?_
  obtain ⟨g, st, R, h⟩ := hq
  unfold eVar at h
  split at h
  · rename_i d hd
    obtain ⟨v, e1, e2⟩ := R.slot i _ hd
    exact ⟨v, e1, h.ok R v e2⟩
  · rename_i d hd
    obtain ⟨g', a, e1, le, R', rp⟩ := R.freezeSlot hd
    exact ⟨_, e1, h g' H le R' _ rp⟩
  · exact h.elim
theorem de_C {d : D} {v : V} (h : PE X e (tC v)) (r : ∀ F m, Rep X.K at_ F m d v) : PE X e (qE X.K at_ xa W (eC d)) := by
  refine pe_imp h fun σ H Q hq => ?_
  obtain ⟨g, st, R, h⟩ := hq
  exact Aft.ok (a := d) h R v (r _ _)
theorem de_int {i : Int} {j pos} : PE X (.Constant (.int i) j pos) (qE X.K at_ xa W (eC (.int i))) := de_C pe_int fun _ _ => by unfold Rep; rfl
theorem de_str {i : Str} {j pos} : PE X (.Constant (.str i) j pos) (qE X.K at_ xa W (eC (.str i))) := de_C pe_str fun _ _ => by unfold Rep; rfl
theorem de_bl {i : Bool} {j pos} : PE X (.Constant (.bool i) j pos) (qE X.K at_ xa W (eC (.bl i))) := de_C pe_bl fun _ _ => by unfold Rep; rfl
theorem de_non {j pos} : PE X (.Constant .none j pos) (qE X.K at_ xa W (eC .non)) := de_C pe_non fun _ _ => by unfold Rep; rfl
theorem of_eOp2 {r : R2} {k : List SO → D → D → Option D} (hr : VOp2 X.K at_ xa r k) {σ : St} {H : Hp} {Q : VK} (h : qE X.K at_ xa W (eOp2 k fa fb) σ H Q) : tOp r (qE X.K at_ xa W fa) (qE X.K at_ xa W fb) σ H Q := by
  obtain ⟨g, st, R, h⟩ := h
  refine ⟨g, st, R, h.bind fun g1 H1 x st1 le1 R1 h1 v rv => ⟨g1, st1, R1, h1.bind fun g2 H2 y st2 le2 R2 h2 u ru => ?_⟩⟩
  obtain ⟨d, e, h3⟩ := h2.lift
  exact hr g2 st2 σ H2 v u x y d Q R2 (Rep.leG le2 rv) ru e fun g' w H' le' R' rw => h3 g' H' le' R' w rw
theorem of_eOp2O {r : R2} {k : List SO → D → D → Option D} (hr : VOp2O X.K at_ xa r k) {σ : St} {H : Hp} {Q : VK} (h : qO X.K at_ xa W (eOp2 k fa fb) σ H Q) : tOp r (qE X.K at_ xa W fa) (qE X.K at_ xa W fb) σ H Q := by
  obtain ⟨g, st, R, h⟩ := h
  refine ⟨g, st, R, h.bind fun g1 H1 x st1 le1 R1 h1 v rv => ⟨g1, st1, R1, h1.bind fun g2 H2 y st2 le2 R2 h2 u ru => ?_⟩⟩
  obtain ⟨d, e, h3⟩ := h2.lift
  exact hr g2 st2 σ H2 v u x y d Q R2 (Rep.leG le2 rv) ru e fun g' w H' le' R' c1 c2 c3 c4 => h3 g' H' le' R' w c1 c2 c3 c4
theorem of_eOp1 {r : V → Hp → VK → Prop} {k : List SO → D → Option D} (hr : VOp1 X.K at_ xa r k) {σ : St} {H : Hp} {Q : VK} (h : qE X.K at_ xa W (eOp1 k fa) σ H Q) : tUn r (qE X.K at_ xa W fa) σ H Q := by
  obtain ⟨g, st, R, h⟩ := h
  refine ⟨g, st, R, h.bind fun g1 H1 x st1 le1 R1 h1 v rv => ?_⟩
  obtain ⟨d, e, h3⟩ := h1.lift
  exact hr g1 st1 σ H1 v x d Q R1 rv e fun g' w H' le' R' rw => h3 g' H' le' R' w rw
/-- a binary operator -/
theorem de_bin {op : Operator} {pos : Pos} {r : R2} {k : List SO → D → D → Option D} (ho : OpR X (binaryOp op) r) (hr : VOp2 X.K at_ xa r k) (ha : PE X a (qE X.K at_ xa W fa)) (hb : PE X b (qE X.K at_ xa W fb)) :
    PE X (.BinOp a op b pos) (qE X.K at_ xa W (eOp2 k fa fb)) := pe_imp (pe_op ho ha hb) fun _ _ _ => of_eOp2 hr
theorem do_bin {op : Operator} {pos : Pos} {r : R2} {k : List SO → D → D → Option D} (ho : OpR X (binaryOp op) r) (hr : VOp2O X.K at_ xa r k) (ha : PE X a (qE X.K at_ xa W fa)) (hb : PE X b (qE X.K at_ xa W fb)) :
    PE X (.BinOp a op b pos) (qO X.K at_ xa W (eOp2 k fa fb)) := pe_imp (pe_op ho ha hb) fun _ _ _ => of_eOp2O hr
theorem de_un {op : UnaryOp} {pos : Pos} {r : V → Hp → VK → Prop} {k : List SO → D → Option D} (ho : UnR X (unaryOp op) r) (hr : VOp1 X.K at_ xa r k) (ha : PE X a (qE X.K at_ xa W fa)) :
    PE X (.UnaryOp op a pos) (qE X.K at_ xa W (eOp1 k fa)) := pe_imp (pe_un ho ha) fun _ _ _ => of_eOp1 hr
theorem de_cmp {op : CmpOp} {pos : Pos} {r : R2} {k : List SO → D → D → Option D} (ho : OpR X (compareOp op) r) (hr : VOp2 X.K at_ xa r k) (ha : PE X a (qE X.K at_ xa W fa)) (hb : PE X b (qE X.K at_ xa W fb)) (hm : behindInMarks op b = false) :
    PE X (.Compare a [op] [b] pos) (qE X.K at_ xa W (eOp2 k fa fb)) := pe_imp (pe_cmpR ho ha hb hm) fun _ _ _ => of_eOp2 hr
/-- something own is frozen -/
theorem de_frz (h : PE X e (qO X.K at_ xa W fa)) : PE X e (qE X.K at_ xa W fa) := by
  refine pe_imp h fun σ H Q hq => ?_
  obtain ⟨g, st, R, h⟩ := hq
  refine ⟨g, st, R, ?_⟩
  cases q : fa st with
  | bad => rw [q] at h; exact h.elim
  | exc x st' => rw [q] at h; exact h
  | ok d st' =>
    rw [q] at h
    intro g' H' le R' a c hF hP ho
    obtain ⟨o, eo⟩ := c.there
    obtain ⟨le2, R2⟩ := R'.freeze eo hP ho hF
    exact h _ H' (le.trans le2) R2 _ (c.rep eo hF)
/-! ### argument lists -/
theorem da_nil : PA X [] (qA X.K at_ xa W aNil) := pa_imp pa_nil fun σ H Q ⟨g, st, R, h⟩ => Aft.ok (a := []) h R [] Reps.nil
theorem da_cons (ha : PE X e (qE X.K at_ xa W fa)) (hr : PA X es (qA X.K at_ xa W fr)) (hs : starEach (e :: es) X.env = (false, eval e X.env) :: starEach es X.env := by rfl) : PA X (e :: es) (qA X.K at_ xa W (aCons fa fr)) := by
  refine pa_imp (pa_cons ha hr hs) fun σ H Q hq => ?_
  obtain ⟨g, st, R, h⟩ := hq
  refine ⟨g, st, R, h.bind fun g1 H1 x st1 le1 R1 h1 v rv => ⟨g1, st1, R1, h1.bind fun g2 H2 y st2 le2 R2 h2 u ru => ?_⟩⟩
  exact h2.ok R2 _ (Reps.cons (Rep.leG le2 rv) ru)
theorem of_eOpN {r : List V → Hp → VK → Prop} {k : List SO → List D → Option D} (hr : VOpN X.K at_ xa r k) {σ : St} {H : Hp} {Q : VK} (h : qE X.K at_ xa W (eOpN k fr) σ H Q) : tCB r (qA X.K at_ xa W fr) σ H Q := by
  obtain ⟨g, st, R, h⟩ := h
  refine ⟨g, st, R, h.bind fun g1 H1 x st1 le1 R1 h1 v rv => ?_⟩
  obtain ⟨d, e, h3⟩ := h1.lift
  exact hr g1 st1 σ H1 v x d Q R1 rv e fun g' w H' le' R' rw => h3 g' H' le' R' w rw
theorem of_eOpNO {r : List V → Hp → VK → Prop} {k : List SO → List D → Option D} (hr : VOpNO X.K at_ xa r k) {σ : St} {H : Hp} {Q : VK} (h : qO X.K at_ xa W (eOpN k fr) σ H Q) : tCB r (qA X.K at_ xa W fr) σ H Q := by
  obtain ⟨g, st, R, h⟩ := h
  refine ⟨g, st, R, h.bind fun g1 H1 x st1 le1 R1 h1 v rv => ?_⟩
  obtain ⟨d, e, h3⟩ := h1.lift
  exact hr g1 st1 σ H1 v x d Q R1 rv e fun g' w H' le' R' c1 c2 c3 c4 => h3 g' H' le' R' w c1 c2 c3 c4
section
variable {x : Str} {id T : String} {p pos : Pos} {r : List V → Hp → VK → Prop} {k : List SO → List D → Option D}
/-- a built-in's call -/
theorem de_callB (hc : CallR X (.builtin id) r) (hr : VOpN X.K at_ xa r k) (hg : Gl X x) (hm : X.mg x = none) (hv : bootBuiltins x = some (.builtin id)) (ha : PA X (e :: es) (qA X.K at_ xa W fr)) (hn : x ≠ "__name__" := by decide) (hdb : (x == ("__debug__" : Str)) = false := by decide)
    (he : starEach (e :: es) X.env = (false, eval e X.env) :: starEach es X.env := by rfl) (hpl : (backTo pos (starEach es X.env)).any (·.1) = false := by rfl) : PE X (.Call (.Name x p) (e :: es) [] pos) (qE X.K at_ xa W (eOpN k fr)) :=
  pe_imp (pe_callB hc hg hm hv ha hn hdb he hpl) fun _ _ _ => of_eOpN hr
theorem do_callB (hc : CallR X (.builtin id) r) (hr : VOpNO X.K at_ xa r k) (hg : Gl X x) (hm : X.mg x = none) (hv : bootBuiltins x = some (.builtin id)) (ha : PA X (e :: es) (qA X.K at_ xa W fr)) (hn : x ≠ "__name__" := by decide) (hdb : (x == ("__debug__" : Str)) = false := by decide)
    (he : starEach (e :: es) X.env = (false, eval e X.env) :: starEach es X.env := by rfl) (hpl : (backTo pos (starEach es X.env)).any (·.1) = false := by rfl) : PE X (.Call (.Name x p) (e :: es) [] pos) (qO X.K at_ xa W (eOpN k fr)) :=
  pe_imp (pe_callB hc hg hm hv ha hn hdb he hpl) fun _ _ _ => of_eOpNO hr
theorem de_callTy (hc : CallR X (.type T) r) (hr : VOpN X.K at_ xa r k) (hg : Gl X x) (hm : X.mg x = none) (hv : bootBuiltins x = some (.type T)) (ha : PA X (e :: es) (qA X.K at_ xa W fr)) (hn : x ≠ "__name__" := by decide) (hdb : (x == ("__debug__" : Str)) = false := by decide)
    (he : starEach (e :: es) X.env = (false, eval e X.env) :: starEach es X.env := by rfl) (hpl : (backTo pos (starEach es X.env)).any (·.1) = false := by rfl) : PE X (.Call (.Name x p) (e :: es) [] pos) (qE X.K at_ xa W (eOpN k fr)) :=
  pe_imp (pe_callTy hc hg hm hv ha hn hdb he hpl) fun _ _ _ => of_eOpN hr
theorem do_callTy (hc : CallR X (.type T) r) (hr : VOpNO X.K at_ xa r k) (hg : Gl X x) (hm : X.mg x = none) (hv : bootBuiltins x = some (.type T)) (ha : PA X (e :: es) (qA X.K at_ xa W fr)) (hn : x ≠ "__name__" := by decide) (hdb : (x == ("__debug__" : Str)) = false := by decide)
    (he : starEach (e :: es) X.env = (false, eval e X.env) :: starEach es X.env := by rfl) (hpl : (backTo pos (starEach es X.env)).any (·.1) = false := by rfl) : PE X (.Call (.Name x p) (e :: es) [] pos) (qO X.K at_ xa W (eOpN k fr)) :=
  pe_imp (pe_callTy hc hg hm hv ha hn hdb he hpl) fun _ _ _ => of_eOpNO hr
end
/-! ### displays -/
def kTup : List SO → List D → Option D := fun _ ds => if ds.length ≤ 1000000 then some (.tup ds) else none
def kLst : List SO → List D → Option D := fun _ ds => if ds.length ≤ 1000000 then some (.lst ds) else none
theorem le_line {n : Nat} (h : n ≤ 1000000) : n ≤ sizeLine := by rw [PySem.sizeLine_eq]; omega
theorem Rel.iceTup {K : PySem.W.Frag} {g : G} {st : Stt} {σ : St} {H : Hp} (R : Rel K at_ xa g st σ H) {ds : List D} {vs : List V} (rs : Reps K at_ g.F g.m ds vs) {Q : VK} (k : Kont K at_ xa g st σ Q (.tup ds)) : ∀ p, H p = none → Q (.ref p) (upd H p (.tup vs)) := fun p hp => by
  have le : g.le (g.ice p (.tup vs)) := G.ice_le (R.fnone hp)
  refine k (g.ice p (.tup vs)) (.ref p) _ le (R.ice hp _) ?_
  unfold Rep
  exact ⟨p, vs, rfl, SqT.of upd_same, Reps.leG le rs⟩
theorem Rel.newLst {K : PySem.W.Frag} {g : G} {st : Stt} {σ : St} {H : Hp} (R : Rel K at_ xa g st σ H) {ds : List D} {vs : List V} (rs : Reps K at_ g.F g.m ds vs) {Q : VK} (k : KontO K at_ xa g st σ Q (.lst ds)) : ∀ p, H p = none → Q (.ref p) (upd H p (.lst vs)) := fun p hp =>
  k g p _ (G.le.refl g) (R.new hp _) ⟨vs, upd_same, rs⟩ (R.fnone hp) (R.pnone hp) (R.onone hp)
theorem de_tup {x1} {pos : Pos} (h : PA X es (qA X.K at_ xa W fr)) : PE X (.Tuple es x1 pos) (qE X.K at_ xa W (eOpN kTup fr)) := by
  refine pe_imp (pe_tup h) fun σ H Q hq => ?_
  obtain ⟨g, st, R, h⟩ := hq
  refine ⟨g, st, R, h.bind fun g1 H1 x st1 le1 R1 h1 v rv => ?_⟩
  obtain ⟨d, e, h3⟩ := h1.lift
  unfold kTup at e
  split at e
  · rename_i hl
    cases e
    exact ⟨by rw [rv.length]; exact le_line hl, R1.iceTup rv fun g' w H' le' R' rw => h3 g' H' le' R' w rw⟩
  · cases e
theorem do_lst {pos : Pos} (h : PA X es (qA X.K at_ xa W fr)) : PE X (.List es pos) (qO X.K at_ xa W (eOpN kLst fr)) := by
  refine pe_imp (pe_lst h) fun σ H Q hq => ?_
  obtain ⟨g, st, R, h⟩ := hq
  refine ⟨g, st, R, h.bind fun g1 H1 x st1 le1 R1 h1 v rv => ?_⟩
  obtain ⟨d, e, h3⟩ := h1.lift
  unfold kLst at e
  split at e
  · rename_i hl
    cases e
    exact ⟨by rw [rv.length]; exact le_line hl, R1.newLst rv fun g' w H' le' R' c1 c2 c3 c4 => h3 g' H' le' R' w c1 c2 c3 c4⟩
  · cases e
/-! ### tests -/
/-- of a value that is a bool -/
def bOf (fa : Ev) : Bv := fun st => (fa st).bind fun d st1 => match d with
  | .bl b => .ok b st1
  | _ => .bad
def bAnd (fa fb : Bv) : Bv := fun st => (fa st).bind fun b st1 => if b then fb st1 else .ok false st1
def bOr (fa fb : Bv) : Bv := fun st => (fa st).bind fun b st1 => if b then .ok true st1 else fb st1
def bNot (fa : Bv) : Bv := fun st => (fa st).bind fun b st1 => .ok (!b) st1
theorem of_bOf {σ : St} {H : Hp} {Q : Bool → Hp → Prop} (h : qB X.K at_ xa W (bOf fa) σ H Q) : qE X.K at_ xa W fa σ H fun x H' => ∃ k, x = .bl k ∧ Q k H' := by
  obtain ⟨g, st, R, h⟩ := h
  refine ⟨g, st, R, h.bind fun g1 H1 x st1 le1 R1 h1 v rv => ?_⟩
  cases x with
  | bl b => unfold Rep at rv; exact ⟨b, rv, h1.ok R1⟩
  | _ => exact h1.elim
theorem dt_cmp {op : CmpOp} {pos : Pos} {r : R2} {k : List SO → D → D → Option D} (ho : OpR X (compareOp op) r) (hr : VOp2 X.K at_ xa r k) (ha : PE X a (qE X.K at_ xa W fa)) (hb : PE X b (qE X.K at_ xa W fb)) (hm : behindInMarks op b = false) :
    PT X (.Compare a [op] [b] pos) (qB X.K at_ xa W (bOf (eOp2 k fa fb))) := pt_imp (pt_cmpR ho ha hb hm) fun σ H Q h => of_eOp2 hr (of_bOf h)
theorem dt_val (h : PE X e (qE X.K at_ xa W fa)) (he : ∀ whole, isTrue e X.env whole = (do let v ← whole; standAt e.pos; holding [v] (truthy v)) := by intro _; rfl) : PT X e (qB X.K at_ xa W (bOf fa)) :=
  pt_imp (pt_val h he) fun σ H Q h => of_bOf h
theorem dt_not {f : Bv} {pos : Pos} (h : PT X a (qB X.K at_ xa W f)) : PT X (.UnaryOp .Not a pos) (qB X.K at_ xa W (bNot f)) := by
  refine pt_imp (pt_not h) fun σ H Q hq => ?_
  obtain ⟨g, st, R, h⟩ := hq
  exact ⟨g, st, R, h.bind fun g1 H1 x st1 le1 R1 h1 => h1.ok R1⟩
variable {f f' : Bv} {rest : List Expr} {pos : Pos}
theorem dw_and1 (h : PT X a (qB X.K at_ xa W f)) : PW X (.BoolOp .And [a] pos) (qB X.K at_ xa W f) := pw_and1 h
theorem dw_or1 (h : PT X a (qB X.K at_ xa W f)) : PW X (.BoolOp .Or [a] pos) (qB X.K at_ xa W f) := pw_or1 h
theorem of_bAnd {σ : St} {H : Hp} {Q : Bool → Hp → Prop} (h : qB X.K at_ xa W (bAnd f f') σ H Q) : tAnd (qB X.K at_ xa W f) (qB X.K at_ xa W f') σ H Q := by
  obtain ⟨g, st, R, h⟩ := h
  refine ⟨g, st, R, h.bind fun g1 H1 x st1 le1 R1 h1 => ?_⟩
  cases x with
  | true => exact iteT ⟨g1, st1, R1, h1⟩
  | false => exact iteF (h1.ok R1)
theorem of_bOr {σ : St} {H : Hp} {Q : Bool → Hp → Prop} (h : qB X.K at_ xa W (bOr f f') σ H Q) : tOr (qB X.K at_ xa W f) (qB X.K at_ xa W f') σ H Q := by
  obtain ⟨g, st, R, h⟩ := h
  refine ⟨g, st, R, h.bind fun g1 H1 x st1 le1 R1 h1 => ?_⟩
  cases x with
  | false => exact iteF ⟨g1, st1, R1, h1⟩
  | true => exact iteT (h1.ok R1)
theorem dw_and (ha : PT X a (qB X.K at_ xa W f)) (hb : PW X (.BoolOp .And (b :: rest) pos) (qB X.K at_ xa W f')) : PW X (.BoolOp .And (a :: b :: rest) pos) (qB X.K at_ xa W (bAnd f f')) :=
  pw_imp (pw_and ha hb) fun _ _ _ => of_bAnd
theorem dw_or (ha : PT X a (qB X.K at_ xa W f)) (hb : PW X (.BoolOp .Or (b :: rest) pos) (qB X.K at_ xa W f')) : PW X (.BoolOp .Or (a :: b :: rest) pos) (qB X.K at_ xa W (bOr f f')) :=
  pw_imp (pw_or ha hb) fun _ _ _ => of_bOr
/-! ### and, or, not, if as values -/
def eAnd (fa fb : Ev) : Ev := fun st => (fa st).bind fun d st1 => match d with
  | .bl true => fb st1
  | .bl false => .ok (.bl false) st1
  | _ => .bad
def eOr (fa fb : Ev) : Ev := fun st => (fa st).bind fun d st1 => match d with
  | .bl true => .ok (.bl true) st1
  | .bl false => fb st1
  | _ => .bad
def kNot : List SO → D → Option D := fun _ d => match d with
  | .bl b => some (.bl (!b))
  | _ => none
theorem de_one {op} (h : PE X a (qE X.K at_ xa W fa)) : PE X (.BoolOp op [a] pos) (qE X.K at_ xa W fa) := pe_one h
theorem repbl {K : PySem.W.Frag} {F : Hp} {m : List Addr} {b : Bool} : Rep K at_ F m (.bl b) (.bl b) := by unfold Rep; rfl
theorem repint {K : PySem.W.Frag} {F : Hp} {m : List Addr} {b : Int} : Rep K at_ F m (.int b) (.int b) := by unfold Rep; rfl
theorem repstr {K : PySem.W.Frag} {F : Hp} {m : List Addr} {b : Str} : Rep K at_ F m (.str b) (.str b) := by unfold Rep; rfl
theorem repnon {K : PySem.W.Frag} {F : Hp} {m : List Addr} : Rep K at_ F m .non .non := by unfold Rep; rfl
theorem de_and (ha : PE X a (qE X.K at_ xa W fa)) (hb : PE X (.BoolOp .And (b :: rest) pos) (qE X.K at_ xa W fb)) : PE X (.BoolOp .And (a :: b :: rest) pos) (qE X.K at_ xa W (eAnd fa fb)) := by
  refine pe_imp (pe_and ha hb) fun σ H Q hq => ?_
  obtain ⟨g, st, R, h⟩ := hq
  refine ⟨g, st, R, h.bind fun g1 H1 x st1 le1 R1 h1 v rv => ?_⟩
  cases x with
  | bl b =>
    unfold Rep at rv
    cases b with
    | true => exact ⟨true, rv, iteT ⟨g1, st1, R1, h1⟩⟩
    | false => exact ⟨false, rv, iteF (Aft.ok (a := D.bl false) h1 R1 _ repbl)⟩
  | _ => exact h1.elim
theorem de_or (ha : PE X a (qE X.K at_ xa W fa)) (hb : PE X (.BoolOp .Or (b :: rest) pos) (qE X.K at_ xa W fb)) : PE X (.BoolOp .Or (a :: b :: rest) pos) (qE X.K at_ xa W (eOr fa fb)) := by
  refine pe_imp (pe_or ha hb) fun σ H Q hq => ?_
  obtain ⟨g, st, R, h⟩ := hq
  refine ⟨g, st, R, h.bind fun g1 H1 x st1 le1 R1 h1 v rv => ?_⟩
  cases x with
  | bl b =>
    unfold Rep at rv
    cases b with
    | false => exact ⟨false, rv, iteF ⟨g1, st1, R1, h1⟩⟩
    | true => exact ⟨true, rv, iteT (Aft.ok (a := D.bl true) h1 R1 _ repbl)⟩
  | _ => exact h1.elim
theorem de_not (ha : PE X a (qE X.K at_ xa W fa)) : PE X (.UnaryOp .Not a pos) (qE X.K at_ xa W (eOp1 kNot fa)) := by
  refine pe_imp (pe_not ha) fun σ H Q hq => ?_
  obtain ⟨g, st, R, h⟩ := hq
  refine ⟨g, st, R, h.bind fun g1 H1 x st1 le1 R1 h1 v rv => ?_⟩
  obtain ⟨d, e, h3⟩ := h1.lift
  cases x with
  | bl b =>
    unfold Rep at rv
    cases e
    exact ⟨b, rv, h3.ok R1 _ repbl⟩
  | _ => cases e
theorem de_if {c : Expr} (hc : PT X c (qB X.K at_ xa W f)) (ha : PE X a (qE X.K at_ xa W fa)) (hb : PE X b (qE X.K at_ xa W fb)) : PE X (.IfExp c a b pos) (qE X.K at_ xa W (eIf f fa fb)) := by
  refine pe_imp (pe_ifExp hc ha hb) fun σ H Q hq => ?_
  obtain ⟨g, st, R, h⟩ := hq
  refine ⟨g, st, R, h.bind fun g1 H1 x st1 le1 R1 h1 => ?_⟩
  cases x with
  | true => exact iteT ⟨g1, st1, R1, by simpa using h1⟩
  | false => exact iteF ⟨g1, st1, R1, by simpa using h1⟩
theorem do_if {c : Expr} (hc : PT X c (qB X.K at_ xa W f)) (ha : PE X a (qO X.K at_ xa W fa)) (hb : PE X b (qO X.K at_ xa W fb)) : PE X (.IfExp c a b pos) (qO X.K at_ xa W (eIf f fa fb)) := by
  refine pe_imp (pe_ifExp hc ha hb) fun σ H Q hq => ?_
  obtain ⟨g, st, R, h⟩ := hq
  refine ⟨g, st, R, h.bind fun g1 H1 x st1 le1 R1 h1 => ?_⟩
  cases x with
  | true => exact iteT ⟨g1, st1, R1, by simpa using h1⟩
  | false => exact iteF ⟨g1, st1, R1, by simpa using h1⟩
end
end Pl
/-! The pure layer: the operations. -/
namespace Pl
open PySem L2
/-! ### scalars -/
def scD : D → Option V
  | .non => some .non
  | .bl b => some (.bl b)
  | .int i => some (.int i)
  | .str x => some (.str x)
  | _ => none
def dsV : V → Option D
  | .non => some .non
  | .bl b => some (.bl b)
  | .int i => some (.int i)
  | .str x => some (.str x)
  | _ => none
section
variable {K : PySem.W.Frag} {at_ : At} {xa : Option Xc} {F : Hp} {m : List Addr}
theorem Rep.sc {d : D} {v u : V} (h : Rep K at_ F m d v) (e : scD d = some u) : v = u := by
  cases d with
  | non => unfold Rep at h; cases e; exact h
  | bl _ => unfold Rep at h; cases e; exact h
  | int _ => unfold Rep at h; cases e; exact h
  | str _ => unfold Rep at h; cases e; exact h
  | _ => cases e
theorem Rep.i {i : Int} {v : V} (h : Rep K at_ F m (.int i) v) : v = .int i := by unfold Rep at h; exact h
theorem Rep.s {i : Str} {v : V} (h : Rep K at_ F m (.str i) v) : v = .str i := by unfold Rep at h; exact h
theorem Rep.b {i : Bool} {v : V} (h : Rep K at_ F m (.bl i) v) : v = .bl i := by unfold Rep at h; exact h
theorem Rep.n {v : V} (h : Rep K at_ F m .non v) : v = .non := by unfold Rep at h; exact h
theorem Rep.y {n : String} {v : V} (h : Rep K at_ F m (.ty n) v) : v = .ty n := by unfold Rep at h; exact h
theorem Rep.t {ds : List D} {v : V} (h : Rep K at_ F m (.tup ds) v) : ∃ a vs, v = .ref a ∧ SqT K F a vs ∧ Reps K at_ F m ds vs := by unfold Rep at h; exact h
theorem Rep.l {ds : List D} {v : V} (h : Rep K at_ F m (.lst ds) v) : ∃ a vs, v = .ref a ∧ F a = some (.lst vs) ∧ Reps K at_ F m ds vs := by unfold Rep at h; exact h
theorem Rep.k {ds : List D} {v : V} (h : Rep K at_ F m (.lck ds) v) : ∃ a vs, v = .ref a ∧ SqL K F a vs ∧ Reps K at_ F m ds vs := by unfold Rep at h; exact h
theorem Rep.o {i : Nat} {v : V} (h : Rep K at_ F m (.obj i) v) : ∃ a, m[i]? = some a ∧ v = .ref a := by unfold Rep at h; exact h
theorem Rep.d {kvs : List (Key × D)} {v : V} (h : Rep K at_ F m (.dct kvs) v) : ∃ a ws, v = .ref a ∧ F a = some (.dK ws) ∧ RepKV K at_ F m kvs ws := by unfold Rep at h; exact h
end
def line : Nat := 1000000
/-! ### equality -/
def pyEq (x y : D) : Option Bool := match toPy x, toPy y with
  | some p, some q => if SeqAt.shaped p = true ∧ SeqAt.shaped q = true then some (PyData.eqv p q) else none
  | _, _ => none
def dEq (x y : D) : Option Bool := match scD x, scD y with
  | some u, some v => if scal u v = true then some (decide (u = v)) else pyEq x y
  | _, _ => pyEq x y
def kEq : List SO → D → D → Option D := fun _ x y => (dEq x y).map .bl
def kNe : List SO → D → D → Option D := fun _ x y => (dEq x y).map fun b => .bl (!b)
@[simp] theorem kEq_str {S : List SO} {a b : Str} : kEq S (.str a) (.str b) = some (.bl (decide (a = b))) := by simp [kEq, dEq, scD, scal]
@[simp] theorem kEq_int {S : List SO} {a b : Int} : kEq S (.int a) (.int b) = some (.bl (decide (a = b))) := by simp [kEq, dEq, scD, scal]
@[simp] theorem kNe_str {S : List SO} {a b : Str} : kNe S (.str a) (.str b) = some (.bl (!decide (a = b))) := by simp [kNe, dEq, scD, scal]
@[simp] theorem kNe_int {S : List SO} {a b : Int} : kNe S (.int a) (.int b) = some (.bl (!decide (a = b))) := by simp [kNe, dEq, scD, scal]
/-! ### arithmetic -/
def kAdd : List SO → D → D → Option D := fun _ x y => match x, y with
  | .int i, .int j => some (.int (i + j))
  | .str a, .str b => if a.length + b.length ≤ line then some (.str (a ++ b)) else none
  | .tup a, .tup b => if a.length + b.length ≤ line then some (.tup (a ++ b)) else none
  | _, _ => none
def kSub : List SO → D → D → Option D := fun _ x y => match x, y with
  | .int i, .int j => some (.int (i - j))
  | _, _ => none
instance {i j : Int} : Decidable (CMul i j) := by unfold CMul; exact inferInstance
instance {i j : Int} : Decidable (CDiv i j) := by unfold CDiv; exact inferInstance
instance {i j : Int} : Decidable (CPow i j) := by unfold CPow; exact inferInstance
def mulS (x : Str) (n : Int) : Str := ⟨(List.replicate n.toNat x.cps.toList).flatten.toArray⟩
def kMul : List SO → D → D → Option D := fun _ x y => match x, y with
  | .int i, .int j => if CMul i j then some (.int (i * j)) else none
  | .str a, .int j => if -line ≤ j ∧ j ≤ line ∧ a.length * j.toNat ≤ line then some (.str (mulS a j)) else none
  | .tup a, .int j => if a ≠ [] ∧ 2 ≤ j ∧ j ≤ 1000 ∧ a.length ≤ 1000 then some (.tup (List.replicate j.toNat a).flatten) else none
  | _, _ => none
def kFdiv : List SO → D → D → Option D := fun _ x y => match x, y with
  | .int i, .int j => if CDiv i j then some (.int (i / j)) else none
  | _, _ => none
def kMod : List SO → D → D → Option D := fun _ x y => match x, y with
  | .int i, .int j => if 0 < j then some (.int (i % j)) else none
  | _, _ => none
def kPow : List SO → D → D → Option D := fun _ x y => match x, y with
  | .int i, .int j => if CPow i j then some (.int (i ^ j.toNat)) else none
  | _, _ => none
def kShl : List SO → D → D → Option D := fun _ x y => match x, y with
  | .int i, .int j => if CPow i j then some (.int (i * 2 ^ j.toNat)) else none
  | _, _ => none
def kShr : List SO → D → D → Option D := fun _ x y => match x, y with
  | .int i, .int j => if 0 ≤ j then some (.int (i / 2 ^ j.toNat)) else none
  | _, _ => none
def kXor : List SO → D → D → Option D := fun _ x y => match x, y with
  | .int i, .int j => some (.int (Builtin.bitXor i j))
  | _, _ => none
def kNeg : List SO → D → Option D := fun _ x => match x with
  | .int i => some (.int (-i))
  | _ => none
def kLt : List SO → D → D → Option D := fun _ x y => match x, y with
  | .int i, .int j => some (.bl (decide (i < j)))
  | _, _ => none
def kLe : List SO → D → D → Option D := fun _ x y => match x, y with
  | .int i, .int j => some (.bl (decide (i ≤ j)))
  | _, _ => none
def kGt : List SO → D → D → Option D := fun _ x y => match x, y with
  | .int i, .int j => some (.bl (decide (j < i)))
  | _, _ => none
def kGe : List SO → D → D → Option D := fun _ x y => match x, y with
  | .int i, .int j => some (.bl (decide (j ≤ i)))
  | _, _ => none
def isNon : D → Bool
  | .non => true
  | _ => false
def kIsN : List SO → D → D → Option D := fun _ x y => match y with
  | .non => some (.bl (isNon x))
  | _ => none
def kNotN : List SO → D → D → Option D := fun _ x y => match y with
  | .non => some (.bl (!isNon x))
  | _ => none
def scDs : List D → Option (List V)
  | [] => some []
  | d :: ds => match scD d, scDs ds with
    | some v, some vs => some (v :: vs)
    | _, _ => none
def dIn (x y : D) : Option Bool := match y with
  | .str z => match x with
    | .str a => if a.cps.size = 1 then some (decide (a.cps.toList.getD 0 0 ∈ z.cps.toList)) else none
    | _ => none
  | .tup ds => match scD x, scDs ds with
    | some v, some vs => some (inV v vs)
    | _, _ => none
  | .lst ds => match scD x, scDs ds with
    | some v, some vs => some (inV v vs)
    | _, _ => none
  | _ => none
def kIn : List SO → D → D → Option D := fun _ x y => (dIn x y).map .bl
def kNotIn : List SO → D → D → Option D := fun _ x y => (dIn x y).map fun b => .bl (!b)
/-! ### items, slices -/
def kIx : List SO → D → D → Option D := fun S x y => match y with
  | .int i => match x with
    | .str z => if z.length ≤ line then (atI z.cps.toList i).map fun c => .str ⟨#[c]⟩ else none
    | .tup ds => atI ds i
    | .lst ds => atI ds i
    | .lck ds => atI ds i
    | .obj j => match S[j]? with
      | some (.lst ds) => atI ds i
      | _ => none
    | _ => none
  | _ => none
def cutD (ds : List D) (lo hi : Option Int) : List D := (ds.drop (HT.sIx ds.length 0 lo)).take (HT.sIx ds.length ds.length hi - HT.sIx ds.length 0 lo)
def kSl : D → Option Int → Option Int → Option D := fun x lo hi => match x with
  | .str z => if z.length ≤ line then some (.str (cutS z lo hi)) else none
  | .tup ds => some (.tup (cutD ds lo hi))
  | _ => none
def kSlL : D → Option Int → Option Int → Option D := fun x lo hi => match x with
  | .lst ds => some (.lst (cutD ds lo hi))
  | _ => none
/-! ### built-ins -/
def kLen : List SO → List D → Option D := fun S xs => match xs with
  | [.str z] => if z.length ≤ line then some (.int z.length) else none
  | [.tup ds] => some (.int ds.length)
  | [.lst ds] => some (.int ds.length)
  | [.lck ds] => some (.int ds.length)
  | [.obj j] => match S[j]? with
    | some (.lst ds) => some (.int ds.length)
    | _ => none
  | _ => none
def kAbs : List SO → List D → Option D := fun _ xs => match xs with
  | [.int i] => some (.int (if i < 0 then -i else i))
  | _ => none
def kInt : List SO → List D → Option D := fun _ xs => match xs with
  | [.int i] => some (.int i)
  | [.bl b] => some (.int (if b then 1 else 0))
  | [.str a] => match PySem.intText? a with
    | some n => if a.length ≤ 640 then some (.int n) else none
    | none => none
  | _ => none
def kStr : List SO → List D → Option D := fun _ xs => match xs with
  | [.int i] => if i.natAbs.log2 < 1920 then some (.str (Str.ofString (toString i))) else none
  | _ => none
def kList : List SO → List D → Option D := fun _ xs => match xs with
  | [.tup ds] => some (.lst ds)
  | [.lst ds] => some (.lst ds)
  | [.lck ds] => some (.lst ds)
  | _ => none
def kTuple : List SO → List D → Option D := fun _ xs => match xs with
  | [.tup ds] => some (.tup ds)
  | [.lst ds] => some (.tup ds)
  | [.lck ds] => some (.tup ds)
  | _ => none
def kMin2 : List SO → List D → Option D := fun _ xs => match xs with
  | [.int i, .int j] => some (.int (if j < i then j else i))
  | _ => none
def kMax2 : List SO → List D → Option D := fun _ xs => match xs with
  | [.int i, .int j] => some (.int (if j > i then j else i))
  | _ => none
def tyD : D → Option String
  | .non => some "NoneType"
  | .bl _ => some "bool"
  | .int _ => some "int"
  | .str _ => some "str"
  | .tup _ => some "tuple"
  | .lst _ => some "list"
  | _ => none
def kIsi : List SO → List D → Option D := fun _ xs => match xs with
  | [x, .ty n] => match tyD x with
    | some t => (kitB t n).map .bl
    | none => none
  | _ => none
def strsD : List D → Option (List Str)
  | [] => some []
  | .str x :: ds => (strsD ds).map (x :: ·)
  | _ => none
def kJoin : D → List D → Option D := fun x xs => match x, xs with
  | .str a, [.lst ds] => match strsD ds with
    | some ys => if (ys.map (·.length)).sum + ys.length * a.length ≤ line then some (.str (Txt.join a ys)) else none
    | none => none
  | .str a, [.tup ds] => match strsD ds with
    | some ys => if (ys.map (·.length)).sum + ys.length * a.length ≤ line then some (.str (Txt.join a ys)) else none
    | none => none
  | _, _ => none
theorem line_le {n : Nat} (h : n ≤ line) : n ≤ sizeLine := le_line h
section
variable {K : PySem.W.Frag} {at_ : At} {xa : Option Xc}
theorem v_add : VOp2 K at_ xa (fun x y H Q => (rI0 fun i j => .int (i + j)) x y H Q ∨ (∃ i j, x = .str i ∧ y = .str j ∧ i.length + j.length ≤ sizeLine ∧ Q (.str (i ++ j)) H) ∨ rCatA K x y H Q) kAdd := by
  intro g st σ H x y dx dy d Q R rx ry e k
  unfold kAdd at e
  split at e
  · cases e; exact .inl ⟨_, _, rx.i, ry.i, k g _ H (G.le.refl g) R repint⟩
  · split at e
    · rename_i h
      cases e; exact .inr (.inl ⟨_, _, rx.s, ry.s, line_le h, k g _ H (G.le.refl g) R repstr⟩)
    · cases e
  · split at e
    · rename_i as bs h
      cases e
      obtain ⟨a, vs, rfl, q1, r1⟩ := rx.t
      obtain ⟨b, ws, rfl, q2, r2⟩ := ry.t
      have s1 := SqT.le q1 fun a o z => (R.sub a o z).1
      have s2 := SqT.le q2 fun a o z => (R.sub a o z).1
      refine .inr (.inr ⟨a, b, vs, ws, rfl, rfl, s1, s2, by rw [r1.length, r2.length]; exact line_le h, fun z => ?_, fun _ z => ?_, fun _ _ => R.iceTup (r1.append r2) k⟩)
      · have : as = [] := by
          have := r1.length
          rw [z] at this; exact List.eq_nil_of_length_eq_zero this.symm
        subst this
        refine k g _ H (G.le.refl g) R ?_
        unfold Rep
        exact ⟨b, ws, rfl, q2, by simpa using r2⟩
      · have : bs = [] := by
          have := r2.length
          rw [z] at this; exact List.eq_nil_of_length_eq_zero this.symm
        subst this
        refine k g _ H (G.le.refl g) R ?_
        unfold Rep
        exact ⟨a, vs, rfl, q1, by simpa using r1⟩
    · cases e
  · cases e
theorem v_int {C : Int → Int → Prop} {f : Int → Int → Int} {k : List SO → D → D → Option D} (hk : ∀ S x y d, k S x y = some d → ∃ i j, x = .int i ∧ y = .int j ∧ C i j ∧ d = .int (f i j)) : VOp2 K at_ xa (rI C fun i j => .int (f i j)) k := by
  intro g st σ H x y dx dy d Q R rx ry e k
  obtain ⟨i, j, rfl, rfl, c, rfl⟩ := hk _ _ _ _ e
  exact ⟨i, j, rx.i, ry.i, c, k g _ H (G.le.refl g) R repint⟩
theorem v_int0 {f : Int → Int → Int} {k : List SO → D → D → Option D} (hk : ∀ S x y d, k S x y = some d → ∃ i j, x = .int i ∧ y = .int j ∧ d = .int (f i j)) : VOp2 K at_ xa (rI0 fun i j => .int (f i j)) k := by
  intro g st σ H x y dx dy d Q R rx ry e k
  obtain ⟨i, j, rfl, rfl, rfl⟩ := hk _ _ _ _ e
  exact ⟨i, j, rx.i, ry.i, k g _ H (G.le.refl g) R repint⟩
theorem v_intB {f : Int → Int → Bool} {k : List SO → D → D → Option D} (hk : ∀ S x y d, k S x y = some d → ∃ i j, x = .int i ∧ y = .int j ∧ d = .bl (f i j)) : VOp2 K at_ xa (rI0 fun i j => .bl (f i j)) k := by
  intro g st σ H x y dx dy d Q R rx ry e k
  obtain ⟨i, j, rfl, rfl, rfl⟩ := hk _ _ _ _ e
  exact ⟨i, j, rx.i, ry.i, k g _ H (G.le.refl g) R repbl⟩
theorem v_sub : VOp2 K at_ xa (rI0 fun i j => .int (i - j)) kSub := v_int0 fun S x y d e => by
  unfold kSub at e; split at e <;> cases e; exact ⟨_, _, rfl, rfl, rfl⟩
theorem v_xor : VOp2 K at_ xa (rI0 fun i j => .int (Builtin.bitXor i j)) kXor := v_int0 fun S x y d e => by
  unfold kXor at e; split at e <;> cases e; exact ⟨_, _, rfl, rfl, rfl⟩
theorem v_fdiv : VOp2 K at_ xa (rI CDiv fun i j => .int (i / j)) kFdiv := v_int fun S x y d e => by
  unfold kFdiv at e; split at e
  · split at e
    · rename_i c; cases e; exact ⟨_, _, rfl, rfl, c, rfl⟩
    · cases e
  · cases e
theorem v_mod : VOp2 K at_ xa (rI (fun _ j => 0 < j) fun i j => .int (i % j)) kMod := v_int fun S x y d e => by
  unfold kMod at e; split at e
  · split at e
    · rename_i c; cases e; exact ⟨_, _, rfl, rfl, c, rfl⟩
    · cases e
  · cases e
theorem v_pow : VOp2 K at_ xa (rI CPow fun i j => .int (i ^ j.toNat)) kPow := v_int fun S x y d e => by
  unfold kPow at e; split at e
  · split at e
    · rename_i c; cases e; exact ⟨_, _, rfl, rfl, c, rfl⟩
    · cases e
  · cases e
theorem v_shl : VOp2 K at_ xa (rI CPow fun i j => .int (i * 2 ^ j.toNat)) kShl := v_int fun S x y d e => by
  unfold kShl at e; split at e
  · split at e
    · rename_i c; cases e; exact ⟨_, _, rfl, rfl, c, rfl⟩
    · cases e
  · cases e
theorem v_shr : VOp2 K at_ xa (rI (fun _ j => 0 ≤ j) fun i j => .int (i / 2 ^ j.toNat)) kShr := v_int fun S x y d e => by
  unfold kShr at e; split at e
  · split at e
    · rename_i c; cases e; exact ⟨_, _, rfl, rfl, c, rfl⟩
    · cases e
  · cases e
theorem v_lt : VOp2 K at_ xa (rI0 fun i j => .bl (decide (i < j))) kLt := v_intB fun S x y d e => by
  unfold kLt at e; split at e <;> cases e; exact ⟨_, _, rfl, rfl, rfl⟩
theorem v_le : VOp2 K at_ xa (rI0 fun i j => .bl (decide (i ≤ j))) kLe := v_intB fun S x y d e => by
  unfold kLe at e; split at e <;> cases e; exact ⟨_, _, rfl, rfl, rfl⟩
theorem v_gt : VOp2 K at_ xa (rI0 fun i j => .bl (decide (j < i))) kGt := v_intB fun S x y d e => by
  unfold kGt at e; split at e <;> cases e; exact ⟨_, _, rfl, rfl, rfl⟩
theorem v_ge : VOp2 K at_ xa (rI0 fun i j => .bl (decide (j ≤ i))) kGe := v_intB fun S x y d e => by
  unfold kGe at e; split at e <;> cases e; exact ⟨_, _, rfl, rfl, rfl⟩
theorem v_neg : VOp1 K at_ xa (rU fun i => .int (-i)) kNeg := by
  intro g st σ H x dx d Q R rx e k
  unfold kNeg at e; split at e
  · cases e; exact ⟨_, rx.i, k g _ H (G.le.refl g) R repint⟩
  · cases e
/-- '..' * n -/
def rRepS : R2 := fun x y H Q => ∃ a j, x = .str a ∧ y = .int j ∧ -line ≤ j ∧ j ≤ line ∧ a.length * j.toNat ≤ line ∧ Q (.str (mulS a j)) H
theorem rep_arr (x : Array Nat) : ∀ (n : Nat), (List.foldl (fun x1 x2 => x1 ++ x2) #[] (List.replicate n x)) = (List.replicate n x.toList).flatten.toArray := by
  have : ∀ (l : List (Array Nat)) (acc : Array Nat), List.foldl (fun x1 x2 => x1 ++ x2) acc l = acc ++ ((l.map Array.toList).flatten).toArray := by
    intro l
    induction l with
    | nil => intro acc; simp
    | cons a l ih => intro acc; rw [List.foldl_cons, ih, Array.append_assoc]; congr 1; apply Array.toList_inj.mp; simp
  intro n
  rw [this]; simp
theorem mulS_eq (a : Str) (j : Int) : Txt.mul a j = mulS a j := by
  unfold Txt.mul mulS
  split
  · rename_i h
    have : j.toNat = 0 := by omega
    rw [this]; rfl
  · split
    · rename_i h1 h
      rcases Bool.or_eq_true_iff.mp h with z | z
      · have : j = 1 := by simpa using z
        subst this
        obtain ⟨x⟩ := a
        simp
      · have : a.length = 0 := by simpa using z
        obtain ⟨⟨l⟩⟩ := a
        have hl : l = [] := List.eq_nil_of_length_eq_zero this
        subst hl
        simp
    · rw [rep_arr]
theorem op_mulS {X : Cx} : OpR X (binaryOp .Mult) rRepS := by
  intro pins s σ H x y v u Q I rx ry h
  obtain ⟨a, j, rfl, rfl, h1, h2, h3, q⟩ := h
  obtain ⟨t, rfl⟩ := rx
  obtain ⟨t', rfl⟩ := ry
  unfold line at h1 h2 h3
  have hz : sizeLine = 16777216 := PySem.sizeLine_eq
  refine SB.mul ⟨?_, fun hn _ => ?_, fun hn _ => ?_⟩ fun t' k => ⟨.str (Txt.mul a j), H, I.tok _, ⟨_, rfl⟩, by rw [mulS_eq]; exact q⟩
  · simp only [Bool.or_eq_false_iff, decide_eq_false_iff_not]; omega
  · have hj : 1 ≤ j := by omega
    have hal : a.length ≤ 1000000 := by
      have : 1 ≤ j.toNat := by omega
      exact Nat.le_trans (by simpa using Nat.mul_le_mul_left a.length this) h3
    have : (1000000 : Int) ≤ (2 ^ 63 - 1) / j := by
      rw [Int.le_ediv_iff_mul_le (by omega)]
      have : (1000000 : Int) * j ≤ 1000000 * 1000000 := Int.mul_le_mul_of_nonneg_left h2 (by omega)
      omega
    omega
  · have : ¬ (a.length * j.toNat > sizeLine) := by omega
    first | exact decide_eq_false this | (unfold tooLong; exact decide_eq_false this) | (simp [tooLong]; omega)
theorem v_mul : VOp2 K at_ xa (fun x y H Q => (rI CMul fun i j => .int (i * j)) x y H Q ∨ rRepS x y H Q ∨ rRepT K x y H Q) kMul := by
  intro g st σ H x y dx dy d Q R rx ry e k
  unfold kMul at e
  split at e
  · split at e
    · rename_i c
      cases e; exact .inl ⟨_, _, rx.i, ry.i, c, k g _ H (G.le.refl g) R repint⟩
    · cases e
  · split at e
    · rename_i c
      cases e; exact .inr (.inl ⟨_, _, rx.s, ry.i, c.1, c.2.1, c.2.2, k g _ H (G.le.refl g) R repstr⟩)
    · cases e
  · split at e
    · rename_i as j c
      cases e
      obtain ⟨a, vs, rfl, q1, r1⟩ := rx.t
      refine .inr (.inr ⟨a, j, vs, rfl, ry.i, SqT.le q1 fun a o z => (R.sub a o z).1, fun z => c.1 ?_, c.2.1, c.2.2.1, by rw [r1.length]; exact c.2.2.2, R.iceTup (r1.rep _) k⟩)
      have := r1.length
      rw [z] at this; exact List.eq_nil_of_length_eq_zero this.symm
    · cases e
  · cases e
theorem v_eqs {k : List SO → D → D → Option D} {ng : Bool → Bool} (hk : ∀ S x y, k S x y = (dEq x y).map fun b => .bl (ng b)) :
    VOp2 K at_ xa (fun x y H Q => (scal x y = true ∧ Q (.bl (ng (decide (x = y)))) H) ∨ (∃ d e, Dp K H x d ∧ Dp K H y e ∧ SeqAt.shaped d = true ∧ SeqAt.shaped e = true ∧ Q (.bl (ng (PyData.eqv d e))) H)) k := by
  intro g st σ H x y dx dy d Q R rx ry e k
  rw [hk] at e
  cases z : dEq dx dy with
  | none => rw [z] at e; cases e
  | some b =>
    rw [z] at e
    cases e
    have py : pyEq dx dy = some b → ∃ d e, Dp K H x d ∧ Dp K H y e ∧ SeqAt.shaped d = true ∧ SeqAt.shaped e = true ∧ Q (.bl (ng (PyData.eqv d e))) H := fun h => by
      unfold pyEq at h
      split at h
      · rename_i p q hp hq
        split at h
        · rename_i hc
          cases h
          exact ⟨p, q, Rep.dp (fun a o z => (R.sub a o z).1) _ _ _ rx hp, Rep.dp (fun a o z => (R.sub a o z).1) _ _ _ ry hq, hc.1, hc.2, k g _ H (G.le.refl g) R repbl⟩
        · cases h
      · cases h
    unfold dEq at z
    split at z
    · rename_i u v hu hv
      split at z
      · rename_i hs
        cases z
        rw [rx.sc hu, ry.sc hv]
        exact .inl ⟨hs, k g _ H (G.le.refl g) R repbl⟩
      · exact .inr (py z)
    · exact .inr (py z)
theorem v_eq : VOp2 K at_ xa (fun x y H Q => rEq x y H Q ∨ rEqD K x y H Q) kEq := v_eqs (ng := fun b => b) fun _ _ _ => rfl
theorem v_ne : VOp2 K at_ xa (fun x y H Q => rNe x y H Q ∨ rNeD K x y H Q) kNe := v_eqs (ng := fun b => !b) fun _ _ _ => rfl
theorem Rep.isNon {F : Hp} {m : List Addr} {d : D} {x : V} (rx : Rep K at_ F m d x) : decide (x = .non) = isNon d := by
  cases d with
  | non => rw [rx.n]; rfl
  | bl _ => rw [rx.b]; rfl
  | int _ => rw [rx.i]; rfl
  | str _ => rw [rx.s]; rfl
  | ty _ => rw [rx.y]; rfl
  | fn _ => unfold Rep at rx; rw [rx]; rfl
  | tup _ => obtain ⟨a, vs, rfl, _⟩ := rx.t; rfl
  | lst _ => obtain ⟨a, vs, rfl, _⟩ := rx.l; rfl
  | lck _ => obtain ⟨a, vs, rfl, _⟩ := rx.k; rfl
  | dct _ => obtain ⟨a, vs, rfl, _⟩ := rx.d; rfl
  | obj _ => obtain ⟨a, _, rfl⟩ := rx.o; rfl
theorem v_isN : VOp2 K at_ xa (fun x y H Q => y = .non ∧ Q (.bl (decide (x = .non))) H) kIsN := by
  intro g st σ H x y dx dy d Q R rx ry e k
  unfold kIsN at e
  split at e
  · cases e
    refine ⟨ry.n, ?_⟩
    rw [rx.isNon]
    exact k g _ H (G.le.refl g) R repbl
  · cases e
theorem v_notN : VOp2 K at_ xa (fun x y H Q => y = .non ∧ Q (.bl (!decide (x = .non))) H) kNotN := by
  intro g st σ H x y dx dy d Q R rx ry e k
  unfold kNotN at e
  split at e
  · cases e
    refine ⟨ry.n, ?_⟩
    rw [rx.isNon]
    exact k g _ H (G.le.refl g) R repbl
  · cases e
theorem scD_flat {d : D} {v : V} (h : scD d = some v) : flatV v = true := by
  cases d <;> cases h <;> rfl
theorem Reps.scs {F : Hp} {m : List Addr} : ∀ {ds : List D} {vs us : List V}, Reps K at_ F m ds vs → scDs ds = some us → vs = us ∧ us.all flatV = true
  | [], _, _, h, e => by rw [h.unnil]; unfold scDs at e; cases e; exact ⟨rfl, rfl⟩
  | d :: ds, _, _, h, e => by
    obtain ⟨v, r, rfl, q, z⟩ := h.uncons
    unfold scDs at e
    cases z1 : scD d with
    | none => rw [z1] at e; cases e
    | some p =>
      cases z2 : scDs ds with
      | none => rw [z1, z2] at e; cases e
      | some ps =>
        rw [z1, z2] at e; cases e
        obtain ⟨e1, e2⟩ := Reps.scs z z2
        rw [q.sc z1, e1]
        exact ⟨rfl, by rw [List.all_cons, scD_flat z1, e2]; rfl⟩
theorem v_ins {k : List SO → D → D → Option D} {neg : Bool} (hk : ∀ S x y, k S x y = (dIn x y).map fun b => .bl (if neg then !b else b)) :
    VOp2 K at_ xa (fun x y H Q => (∃ (c : Nat) (z : Str), x = .str ⟨#[c]⟩ ∧ y = .str z ∧ Q (.bl (if neg then !decide (c ∈ z.cps.toList) else decide (c ∈ z.cps.toList))) H) ∨ rIn K neg x y H Q) k := by
  intro g st σ H x y dx dy d Q R rx ry e k
  rw [hk] at e
  cases z : dIn dx dy with
  | none => rw [z] at e; cases e
  | some b =>
    rw [z] at e
    cases e
    unfold dIn at z
    split at z
    · split at z
      · rename_i a
        split at z
        · rename_i hc
          cases z
          obtain ⟨⟨l⟩⟩ := a
          match l, hc with
          | [c], _ =>
            exact .inl ⟨c, _, rx.s, ry.s, k g _ H (G.le.refl g) R repbl⟩
        · cases z
      · cases z
    · split at z
      · rename_i v vs h1 h2
        cases z
        obtain ⟨p, ws, rfl, q, r⟩ := ry.t
        obtain ⟨e1, e2⟩ := r.scs h2
        subst e1
        rw [rx.sc h1]
        exact .inr ⟨p, _, rfl, .inr (SqT.le q fun a o z => (R.sub a o z).1), scD_flat h1, e2, k g _ H (G.le.refl g) R repbl⟩
      · cases z
    · split at z
      · rename_i v vs h1 h2
        cases z
        obtain ⟨p, ws, rfl, q, r⟩ := ry.l
        obtain ⟨e1, e2⟩ := r.scs h2
        subst e1
        rw [rx.sc h1]
        exact .inr ⟨p, _, rfl, .inl (SqL.of (R.sub _ _ q).1), scD_flat h1, e2, k g _ H (G.le.refl g) R repbl⟩
      · cases z
    · cases z
def rIn1 (neg : Bool) : R2 := fun x y H Q => ∃ (c : Nat) (z : Str), x = .str ⟨#[c]⟩ ∧ y = .str z ∧ Q (.bl (if neg then !decide (c ∈ z.cps.toList) else decide (c ∈ z.cps.toList))) H
theorem op_in1 {X : Cx} : OpR X (compareOp .In) (rIn1 false) := op_in_sign
theorem op_notIn1 {X : Cx} : OpR X (compareOp .NotIn) (rIn1 true) := by
  intro pins s σ H x y v u Q I rx ry h
  obtain ⟨c, z, rfl, rfl, q⟩ := h
  obtain ⟨t, rfl⟩ := rx
  obtain ⟨t', rfl⟩ := ry
  exact PyProof.Rows.notIn_str (fin_bl I q (by have := (PySem.StrLaws.found_one z c); simp only [if_true]; rw [← this]))
theorem v_in : VOp2 K at_ xa (fun x y H Q => rIn1 false x y H Q ∨ rIn K false x y H Q) kIn := v_ins (neg := false) fun _ _ _ => rfl
theorem v_notIn : VOp2 K at_ xa (fun x y H Q => rIn1 true x y H Q ∨ rIn K true x y H Q) kNotIn := v_ins (neg := true) fun _ _ _ => rfl
end
end Pl
/-! The pure layer: items, slices, built-ins. -/
namespace Pl
open PySem L2
section
variable {K : PySem.W.Frag} {at_ : At} {xa : Option Xc}
theorem atI_rep {F : Hp} {m : List Addr} {ds : List D} {vs : List V} {i : Int} {d : D} (r : Reps K at_ F m ds vs) (e : atI ds i = some d) : ∃ v, atI vs i = some v ∧ Rep K at_ F m d v := by
  unfold atI at e ⊢
  rw [r.length]
  cases z : ixN ds.length i with
  | none => rw [z] at e; cases e
  | some j =>
    rw [z] at e
    obtain ⟨v, e1, e2⟩ := r.get (i := j) (d := d) (by simpa using e)
    exact ⟨v, by simpa using e1, e2⟩
theorem v_ix : VOp2 K at_ xa (rIx K) kIx := by
  intro g st σ H x y dx dy d Q R rx ry e k
  unfold kIx at e
  split at e
  · split at e
    · split at e
      · rename_i z hz
        rw [rx.s, ry.i]
        cases q : atI z.cps.toList ‹Int› with
        | none => rw [q] at e; cases e
        | some c => rw [q] at e; cases e; exact .inr (.inr ⟨_, _, c, rfl, rfl, line_le hz, q, k g _ H (G.le.refl g) R repstr⟩)
      · cases e
    · obtain ⟨a, vs, rfl, q, r⟩ := rx.t
      obtain ⟨v, e1, e2⟩ := atI_rep r e
      exact .inr (.inl ⟨a, vs, _, v, rfl, ry.i, SqT.le q fun a o z => (R.sub a o z).1, e1, k g _ H (G.le.refl g) R e2⟩)
    · obtain ⟨a, vs, rfl, q, r⟩ := rx.l
      obtain ⟨v, e1, e2⟩ := atI_rep r e
      exact .inl ⟨a, vs, _, v, rfl, ry.i, SqL.of (R.sub _ _ q).1, e1, k g _ H (G.le.refl g) R e2⟩
    · obtain ⟨a, vs, rfl, q, r⟩ := rx.k
      obtain ⟨v, e1, e2⟩ := atI_rep r e
      exact .inl ⟨a, vs, _, v, rfl, ry.i, SqL.le q fun a o z => (R.sub a o z).1, e1, k g _ H (G.le.refl g) R e2⟩
    · obtain ⟨a, ha, rfl⟩ := rx.o
      split at e
      · rename_i ds hs
        obtain ⟨a', vs, h1, h2, h3, r⟩ := R.store _ _ hs
        rw [ha] at h1; cases h1
        obtain ⟨v, e1, e2⟩ := atI_rep r e
        exact .inl ⟨a, vs, _, v, rfl, ry.i, SqL.of h3, e1, k g _ H (G.le.refl g) R e2⟩
      · cases e
    · cases e
  · cases e
end
/-! ### slices -/
/-- a slice's part -/
abbrev Ov := Stt → Res (Option Int)
def oNo : Ov := fun st => .ok none st
def oOf (fa : Ev) : Ov := fun st => (fa st).bind fun d st1 => match d with
  | .int i => .ok (some i) st1
  | _ => .bad
def eSl (k : D → Option Int → Option Int → Option D) (fa : Ev) (fl fh : Ov) : Ev := fun st => (fa st).bind fun x st1 => (fl st1).bind fun lo st2 => (fh st2).bind fun hi st3 => lift (k x lo hi) st3
section
variable {X : Cx} {at_ : At} {xa : Option Xc} {W : WX} {e a b : Expr} {fa fb : Ev} {fl fh : Ov} {lo hi : Option Expr} {pos p2 : Pos}
abbrev PoP (Q : Option Int → Hp → Prop) : G → Hp → Option Int → Stt → Prop := fun _ H' o _ => Q o H'
def qP (K : PySem.W.Frag) (at_ : At) (xa : Option Xc) (W : WX) (f : Ov) : TO := fun σ H Q => ∃ g st, Rel K at_ xa g st σ H ∧ Aft K at_ xa W g σ (PoP Q) (f st)
theorem po_imp {t t' : TO} {o : Option Expr} (h : PO X o t) (k : ∀ σ H Q, t' σ H Q → t σ H Q) : PO X o t' := ⟨fun pins s σ H Q I hw => h.run pins s σ H Q I (k σ H Q hw)⟩
theorem dp_none : PO X none (qP X.K at_ xa W oNo) := po_imp po_none fun σ H Q ⟨g, st, R, h⟩ => Aft.ok (a := none) h R
theorem dp_some (h : PE X e (qE X.K at_ xa W fa)) : PO X (some e) (qP X.K at_ xa W (oOf fa)) := by
  refine po_imp (po_some h) fun σ H Q hq => ?_
  obtain ⟨g, st, R, h⟩ := hq
  refine ⟨g, st, R, h.bind fun g1 H1 x st1 le1 R1 h1 v rv => ?_⟩
  cases x with
  | int i => exact ⟨i, rv.i, h1.ok R1⟩
  | _ => exact h1.elim
theorem Reps.cutD {K : PySem.W.Frag} {F : Hp} {m : List Addr} {ds : List D} {vs : List V} (r : Reps K at_ F m ds vs) (lo hi : Option Int) : Reps K at_ F m (cutD ds lo hi) (cutV vs lo hi) := by
  unfold Pl.cutD cutV
  rw [r.length]
  exact (r.drop _).take _
theorem de_slice (ha : PE X a (qE X.K at_ xa W fa)) (hl : PO X lo (qP X.K at_ xa W fl)) (hh : PO X hi (qP X.K at_ xa W fh)) : PE X (.Subscript a (.Slice lo hi none p2) pos) (qE X.K at_ xa W (eSl kSl fa fl fh)) := by
  refine pe_imp (pe_slice (sl_str.or sl_tupA) ha hl hh) fun σ H Q hq => ?_
  obtain ⟨g, st, R, h⟩ := hq
  refine ⟨g, st, R, h.bind fun g1 H1 x st1 le1 R1 h1 v rv => ⟨g1, st1, R1, h1.bind fun g2 H2 l st2 le2 R2 h2 => ⟨g2, st2, R2, h2.bind fun g3 H3 u st3 le3 R3 h3 => ?_⟩⟩⟩
  obtain ⟨d, e, h4⟩ := h3.lift
  have rv := Rep.leG (le2.trans le3) rv
  unfold kSl at e
  split at e
  · split at e
    · rename_i hz
      cases e
      exact .inl ⟨_, rv.s, line_le hz, h4.ok R3 _ repstr⟩
    · cases e
  · cases e
    obtain ⟨a, vs, rfl, q, r⟩ := rv.t
    have c := r.cutD l u
    refine .inr ⟨a, vs, rfl, SqT.le q fun a o z => (R3.sub a o z).1, fun hw => ?_, fun _ => R3.iceTup c fun g' w H' le' R' rw => h4 g' H' le' R' w rw⟩
    refine h4.ok R3 _ ?_
    unfold Rep
    have : cutV vs l u = vs := by
      unfold cutV
      rw [hw.1, hw.2]; simp
    rw [this] at c
    exact ⟨a, vs, rfl, q, c⟩
  · cases e
theorem do_slice (ha : PE X a (qE X.K at_ xa W fa)) (hl : PO X lo (qP X.K at_ xa W fl)) (hh : PO X hi (qP X.K at_ xa W fh)) : PE X (.Subscript a (.Slice lo hi none p2) pos) (qO X.K at_ xa W (eSl kSlL fa fl fh)) := by
  refine pe_imp (pe_slice sl_list ha hl hh) fun σ H Q hq => ?_
  obtain ⟨g, st, R, h⟩ := hq
  refine ⟨g, st, R, h.bind fun g1 H1 x st1 le1 R1 h1 v rv => ⟨g1, st1, R1, h1.bind fun g2 H2 l st2 le2 R2 h2 => ⟨g2, st2, R2, h2.bind fun g3 H3 u st3 le3 R3 h3 => ?_⟩⟩⟩
  obtain ⟨d, e, h4⟩ := h3.lift
  have rv := Rep.leG (le2.trans le3) rv
  unfold kSlL at e
  split at e
  · cases e
    obtain ⟨a, vs, rfl, q, r⟩ := rv.l
    exact ⟨a, vs, rfl, SqL.of (R3.sub _ _ q).1, R3.newLst (r.cutD l u) fun g' w H' le' R' c1 c2 c3 c4 => h4 g' H' le' R' w c1 c2 c3 c4⟩
  · cases e
theorem de_ix (ha : PE X a (qE X.K at_ xa W fa)) (hb : PE X b (qE X.K at_ xa W fb)) (hs : PlainIx b) : PE X (.Subscript a b pos) (qE X.K at_ xa W (eOp2 kIx fa fb)) := pe_imp (pe_ix ix_seq ha hb hs) fun _ _ _ => of_eOp2 v_ix
end
section
variable {K : PySem.W.Frag} {at_ : At} {xa : Option Xc}
theorem Reps.one {F : Hp} {m : List Addr} {d : D} {vs : List V} (h : Reps K at_ F m [d] vs) : ∃ v, vs = [v] ∧ Rep K at_ F m d v := by
  obtain ⟨v, r, rfl, q, z⟩ := h.uncons
  rw [z.unnil]
  exact ⟨v, rfl, q⟩
theorem Reps.two {F : Hp} {m : List Addr} {d e : D} {vs : List V} (h : Reps K at_ F m [d, e] vs) : ∃ v w, vs = [v, w] ∧ Rep K at_ F m d v ∧ Rep K at_ F m e w := by
  obtain ⟨v, r, rfl, q, z⟩ := h.uncons
  obtain ⟨w, rfl, q'⟩ := z.one
  exact ⟨v, w, rfl, q, q'⟩
theorem v_len : VOpN K at_ xa (fun xs H Q => ∃ x n, xs = [x] ∧ LenV K x H n ∧ Q (.int n) H) kLen := by
  intro g st σ H xs ds d Q R rs e k
  unfold kLen at e
  split at e
  · split at e
    · rename_i z hz
      cases e
      obtain ⟨v, rfl, q⟩ := rs.one
      exact ⟨_, _, rfl, by rw [q.s]; exact ⟨line_le hz, rfl⟩, k g _ H (G.le.refl g) R repint⟩
    · cases e
  · cases e
    obtain ⟨v, rfl, q⟩ := rs.one
    obtain ⟨a, vs, rfl, q, r⟩ := q.t
    exact ⟨_, vs.length, rfl, .inr ⟨vs, SqT.le q fun a o z => (R.sub a o z).1, rfl⟩, k g _ H (G.le.refl g) R (by rw [r.length]; exact repint)⟩
  · cases e
    obtain ⟨v, rfl, q⟩ := rs.one
    obtain ⟨a, vs, rfl, q, r⟩ := q.l
    exact ⟨_, vs.length, rfl, .inl ⟨vs, SqL.of (R.sub _ _ q).1, rfl⟩, k g _ H (G.le.refl g) R (by rw [r.length]; exact repint)⟩
  · cases e
    obtain ⟨v, rfl, q⟩ := rs.one
    obtain ⟨a, vs, rfl, q, r⟩ := q.k
    exact ⟨_, vs.length, rfl, .inl ⟨vs, SqL.le q fun a o z => (R.sub a o z).1, rfl⟩, k g _ H (G.le.refl g) R (by rw [r.length]; exact repint)⟩
  · obtain ⟨v, rfl, q⟩ := rs.one
    obtain ⟨a, ha, rfl⟩ := q.o
    split at e
    · rename_i ds hs
      cases e
      obtain ⟨a', vs, h1, h2, h3, r⟩ := R.store _ _ hs
      rw [ha] at h1; cases h1
      exact ⟨_, vs.length, rfl, .inl ⟨vs, SqL.of h3, rfl⟩, k g _ H (G.le.refl g) R (by rw [r.length]; exact repint)⟩
    · cases e
  · cases e
theorem v_abs : VOpN K at_ xa (fun xs H Q => ∃ i, xs = [.int i] ∧ Q (.int (if i < 0 then -i else i)) H) kAbs := by
  intro g st σ H xs ds d Q R rs e k
  unfold kAbs at e
  split at e
  · cases e
    obtain ⟨v, rfl, q⟩ := rs.one
    exact ⟨_, by rw [q.i], k g _ H (G.le.refl g) R repint⟩
  · cases e
theorem v_int1 : VOpN K at_ xa (fun xs H Q => ((∃ i, xs = [.int i] ∧ Q (.int i) H) ∨ ∃ k, xs = [.bl k] ∧ Q (.int (if k then 1 else 0)) H) ∨ (∃ a n, xs = [.str a] ∧ PySem.intText? a = some n ∧ a.length ≤ 640 ∧ Q (.int n) H)) kInt := by
  intro g st σ H xs ds d Q R rs e k
  unfold kInt at e
  split at e
  · cases e
    obtain ⟨v, rfl, q⟩ := rs.one
    exact .inl (.inl ⟨_, by rw [q.i], k g _ H (G.le.refl g) R repint⟩)
  · cases e
    obtain ⟨v, rfl, q⟩ := rs.one
    exact .inl (.inr ⟨_, by rw [q.b], k g _ H (G.le.refl g) R repint⟩)
  · obtain ⟨v, rfl, q⟩ := rs.one
    split at e
    · split at e
      · rename_i n hn hl
        cases e
        exact .inr ⟨_, n, by rw [q.s], hn, hl, k g _ H (G.le.refl g) R repint⟩
      · cases e
    · cases e
  · cases e
theorem v_str : VOpN K at_ xa (fun xs H Q => ∃ i : Int, xs = [.int i] ∧ i.natAbs.log2 < 1920 ∧ Q (.str (Str.ofString (toString i))) H) kStr := by
  intro g st σ H xs ds d Q R rs e k
  unfold kStr at e
  split at e
  · split at e
    · rename_i c
      cases e
      obtain ⟨v, rfl, q⟩ := rs.one
      exact ⟨_, by rw [q.i], c, k g _ H (G.le.refl g) R repstr⟩
    · cases e
  · cases e
theorem v_min2 : VOpN K at_ xa (fun xs H Q => ∃ i j, xs = [.int i, .int j] ∧ Q (.int (if j < i then j else i)) H) kMin2 := by
  intro g st σ H xs ds d Q R rs e k
  unfold kMin2 at e
  split at e
  · cases e
    obtain ⟨v, w, rfl, q, q'⟩ := rs.two
    exact ⟨_, _, by rw [q.i, q'.i], k g _ H (G.le.refl g) R repint⟩
  · cases e
theorem v_max2 : VOpN K at_ xa (fun xs H Q => ∃ i j, xs = [.int i, .int j] ∧ Q (.int (if j > i then j else i)) H) kMax2 := by
  intro g st σ H xs ds d Q R rs e k
  unfold kMax2 at e
  split at e
  · cases e
    obtain ⟨v, w, rfl, q, q'⟩ := rs.two
    exact ⟨_, _, by rw [q.i, q'.i], k g _ H (G.le.refl g) R repint⟩
  · cases e
theorem v_list : VOpNO K at_ xa (fun xs H Q => ∃ p ys, xs = [.ref p] ∧ (SqL K H p ys ∨ SqT K H p ys) ∧ ∀ l, H l = none → Q (.ref l) (upd H l (.lst ys))) kList := by
  intro g st σ H xs ds d Q R rs e k
  unfold kList at e
  split at e
  · cases e
    obtain ⟨v, rfl, q⟩ := rs.one
    obtain ⟨a, vs, rfl, q, r⟩ := q.t
    exact ⟨_, vs, rfl, .inr (SqT.le q fun a o z => (R.sub a o z).1), R.newLst r k⟩
  · cases e
    obtain ⟨v, rfl, q⟩ := rs.one
    obtain ⟨a, vs, rfl, q, r⟩ := q.l
    exact ⟨_, vs, rfl, .inl (SqL.of (R.sub _ _ q).1), R.newLst r k⟩
  · cases e
    obtain ⟨v, rfl, q⟩ := rs.one
    obtain ⟨a, vs, rfl, q, r⟩ := q.k
    exact ⟨_, vs, rfl, .inl (SqL.le q fun a o z => (R.sub a o z).1), R.newLst r k⟩
  · cases e
theorem v_tuple : VOpN K at_ xa (fun xs H Q => ∃ p ys, xs = [.ref p] ∧ ((SqL K H p ys ∧ ∀ l, H l = none → Q (.ref l) (upd H l (.tup ys))) ∨ (SqT K H p ys ∧ Q (.ref p) H))) kTuple := by
  intro g st σ H xs ds d Q R rs e k
  unfold kTuple at e
  split at e
  · cases e
    obtain ⟨v, rfl, q⟩ := rs.one
    have q0 := q
    obtain ⟨a, vs, rfl, q, r⟩ := q.t
    exact ⟨_, vs, rfl, .inr ⟨SqT.le q fun a o z => (R.sub a o z).1, k g _ H (G.le.refl g) R q0⟩⟩
  · cases e
    obtain ⟨v, rfl, q⟩ := rs.one
    obtain ⟨a, vs, rfl, q, r⟩ := q.l
    exact ⟨_, vs, rfl, .inl ⟨SqL.of (R.sub _ _ q).1, R.iceTup r k⟩⟩
  · cases e
    obtain ⟨v, rfl, q⟩ := rs.one
    obtain ⟨a, vs, rfl, q, r⟩ := q.k
    exact ⟨_, vs, rfl, .inl ⟨SqL.le q fun a o z => (R.sub a o z).1, R.iceTup r k⟩⟩
  · cases e
theorem sqT_ty {H : Hp} {a : Addr} {vs : List V} (h : SqT K H a vs) : TyX K H (.ref a) (.type "tuple") := by
  rcases h with (h | ⟨o, h⟩) | ⟨o, its, n, h1, h2, _⟩
  · exact .base (.tup h)
  · exact .fTuple h
  · exact .kTuple h1 h2
theorem v_isi : VOpN K at_ xa (rIsi K) kIsi := by
  intro g st σ H xs ds d Q R rs e k
  unfold kIsi at e
  split at e
  · rename_i x n
    obtain ⟨v, w, rfl, q, q'⟩ := rs.two
    rw [q'.y]
    have go : ∀ t, tyD x = some t → TyX K H v (.type t) := fun t ht => by
      cases x with
      | non => cases ht; rw [q.n]; exact .base .non
      | bl b => cases ht; rw [q.b]; exact .base (.bl b)
      | int b => cases ht; rw [q.i]; exact .base (.int b)
      | str b => cases ht; rw [q.s]; exact .base (.str b)
      | tup ds =>
        cases ht
        obtain ⟨a, vs, rfl, q, r⟩ := q.t
        exact sqT_ty (SqT.le q fun a o z => (R.sub a o z).1)
      | lst ds =>
        cases ht
        obtain ⟨a, vs, rfl, q, r⟩ := q.l
        exact .base (.lst (R.sub _ _ q).1)
      | _ => cases ht
    cases ht : tyD x with
    | none => rw [ht] at e; cases e
    | some t =>
      rw [ht] at e
      dsimp only at e
      cases hk : kitB t n with
      | none => rw [hk] at e; cases e
      | some b => rw [hk] at e; cases e; exact ⟨v, _, _, _, b, rfl, .ty n, go t ht, kit_ty hk, k g _ H (G.le.refl g) R repbl⟩
  · cases e
theorem Reps.strs {F : Hp} {m : List Addr} : ∀ {ds : List D} {vs : List V} {ys : List Str}, Reps K at_ F m ds vs → strsD ds = some ys → vs = ys.map V.str
  | [], _, _, h, e => by rw [h.unnil]; unfold strsD at e; cases e; rfl
  | d :: ds, _, _, h, e => by
    obtain ⟨v, r, rfl, q, z⟩ := h.uncons
    cases d with
    | str x =>
      unfold strsD at e
      cases z1 : strsD ds with
      | none => rw [z1] at e; cases e
      | some p => rw [z1] at e; cases e; rw [q.s, Reps.strs z z1]; rfl
    | _ => unfold strsD at e; cases e
end
/-! ### methods of built-in types -/
def joinD (a : Str) (ds : List D) : Option D := match strsD ds with
  | some ys => if (ys.map (·.length)).sum + ys.length * a.length ≤ line then some (.str (Txt.join a ys)) else none
  | none => none
def mJoin : Str → List D → Option D := fun a xs => match xs with
  | [.lst ds] => joinD a ds
  | [.tup ds] => joinD a ds
  | _ => none
def eMtS (k : Str → List D → Option D) (fa : Ev) (fr : Av) : Ev := fun st => (fa st).bind fun x st1 => match x with
  | .str z => (fr st1).bind fun xs st2 => lift (k z xs) st2
  | _ => .bad
/-- o.m(..), o a text -/
def VMtS (K : PySem.W.Frag) (at_ : At) (xa : Option Xc) (r : V → List V → Hp → VK → Prop) (k : Str → List D → Option D) : Prop := ∀ g st σ H xs z ds d Q, Rel K at_ xa g st σ H → Reps K at_ g.F g.m ds xs → k z ds = some d → Kont K at_ xa g st σ Q d → r (.str z) xs H Q
section
variable {X : Cx} {at_ : At} {xa : Option Xc} {W : WX} {e o : Expr} {es : List Expr} {fa : Ev} {fr : Av} {cpos apos : Pos} {id : String} {name : Str} {r : V → List V → Hp → VK → Prop} {k : Str → List D → Option D}
theorem joinD_ok {a : Str} {ds : List D} {d : D} (e : joinD a ds = some d) : ∃ ys, strsD ds = some ys ∧ (ys.map (·.length)).sum + ys.length * a.length ≤ 16777216 ∧ d = .str (Txt.join a ys) := by
  unfold joinD at e
  split at e
  · rename_i ys hy
    split at e
    · rename_i hl
      cases e
      exact ⟨ys, hy, by unfold line at hl; omega, rfl⟩
    · cases e
  · cases e
theorem v_join {K : PySem.W.Frag} : VMtS K at_ xa (fun x xs H Q => ∃ a p, ∃ ys : List Str, x = .str a ∧ xs = [.ref p] ∧ (SqL K H p (ys.map V.str) ∨ SqT K H p (ys.map V.str)) ∧
    (ys.map (·.length)).sum + ys.length * a.length ≤ 16777216 ∧ Q (.str (Txt.join a ys)) H) mJoin := by
  intro g st σ H xs z ds d Q R rs e k
  unfold mJoin at e
  split at e
  · obtain ⟨ys, hy, hl, rfl⟩ := joinD_ok e
    obtain ⟨v, rfl, q⟩ := rs.one
    obtain ⟨a, vs, rfl, q, r⟩ := q.l
    have := r.strs hy
    subst this
    exact ⟨z, a, ys, rfl, rfl, .inl (SqL.of (R.sub _ _ q).1), hl, k g _ H (G.le.refl g) R repstr⟩
  · obtain ⟨ys, hy, hl, rfl⟩ := joinD_ok e
    obtain ⟨v, rfl, q⟩ := rs.one
    obtain ⟨a, vs, rfl, q, r⟩ := q.t
    have := r.strs hy
    subst this
    exact ⟨z, a, ys, rfl, rfl, .inr (SqT.le q fun a o z => (R.sub a o z).1), hl, k g _ H (G.le.refl g) R repstr⟩
  · cases e
theorem de_mtS (slot : PySem.Slot "str" name id) (hty : typeOf (.builtin id) = pure (.type "method_descriptor")) (hm : MtR X id r) (hr : VMtS X.K at_ xa r k) (ho : PE X o (qE X.K at_ xa W fa)) (ha : PA X (e :: es) (qA X.K at_ xa W fr))
    (hbase : attributeBase o name X.env (eval o X.env) = eval o X.env := by rfl)
    (hfew : ((backTo cpos (starEach (e :: es) X.env)).all (fun x => !x.1) && (backToKw cpos (keywordEach [] X.env)).all (fun x => x.1.isSome)
      && decide ((e :: es).length + ([] : List Keyword).length + (if ([] : List Keyword).isEmpty then 0 else 1) < 30)) = true := by rfl)
    (hline : (apos.endLine == cpos.line) = true := by rfl) (hs : starEach (e :: es) X.env = (false, eval e X.env) :: starEach es X.env := by rfl) (hplain : (backTo cpos (starEach es X.env)).any (·.1) = false := by rfl) :
    PE X (.Call (.Attribute o name apos) (e :: es) [] cpos) (qE X.K at_ xa W (eMtS k fa fr)) := by
  refine pe_imp (pe_bm PySem.F.plainAttrs_str slot hty hm ho ha hbase hfew hline hs hplain) fun σ H Q hq => ?_
  obtain ⟨g, st, R, h⟩ := hq
  refine ⟨g, st, R, h.bind fun g1 H1 x st1 le1 R1 h1 v rv => ?_⟩
  cases x with
  | str z =>
    rw [rv.s]
    refine ⟨rfl, g1, st1, R1, h1.bind fun g2 H2 y st2 le2 R2 h2 u ru => ?_⟩
    obtain ⟨d, e, h3⟩ := h2.lift
    exact hr g2 st2 σ H2 u z y d Q R2 ru e fun g' w H' le' R' rw => h3 g' H' le' R' w rw
  | _ => exact h1.elim
end
end Pl
/-! The pure layer: statements, loops, comprehensions. -/
namespace Pl
open PySem L2
/-! ### statements -/
def sNx : Cv := fun st => .nx st
def sSeq (s t : Cv) : Cv := fun st => match s st with
  | .nx st1 => t st1
  | x => x
def sExpr (fa : Ev) : Cv := fun st => (fa st).fl fun _ st1 => .nx st1
def sRet (fa : Ev) : Cv := fun st => (fa st).fl fun d st1 => .rt (.dat d) st1
def sRetO (fa : Ev) : Cv := fun st => (fa st).fl fun d st1 => .rt (.own d) st1
def sRetN : Cv := fun st => .rt (.dat .non) st
def sRetV (i : Nat) : Cv := fun st => match st.r[i]? with
  | some (some (.own d)) => .rt (.own d) st
  | _ => .bad
def sSet (i : Nat) (fa : Ev) : Cv := fun st => (fa st).fl fun d st1 => .nx (setR st1 i (.dat d))
def sSetO (i : Nat) (fa : Ev) : Cv := fun st => (fa st).fl fun d st1 => .nx (setR st1 i (.own d))
def sIf (fc : Bv) (s t : Cv) : Cv := fun st => (fc st).fl fun b st1 => if b then s st1 else t st1
def sBk : Cv := fun st => .bk st
def sCt : Cv := fun st => .ct st
section
variable {X : Cx} {at_ : At} {xa : Option Xc} {W : WX} {e a b c : Expr} {fa fb : Ev} {f g' : Cv} {pos : Pos}
theorem dss_nil : PSs X [] (qC X.K at_ xa W sNx) := pss_imp pss_nil fun D σ H ⟨g, st, R, h⟩ => h g σ H (G.le.refl g) R
theorem of_sSeq {T : Ends} {σ : St} {H : Hp} (h : qC X.K at_ xa W (sSeq f g') T σ H) : tSeq (qC X.K at_ xa W f) (qC X.K at_ xa W g') T σ H := by
  obtain ⟨g, st, R, h⟩ := h
  refine ⟨g, st, R, ?_⟩
  unfold sSeq at h
  cases q : f st with
  | nx st1 =>
    rw [q] at h
    exact fun g1 σ1 H1 le R1 => ⟨g1, st1, R1, AftC.le le h⟩
  | rt s st1 =>
    rw [q] at h
    cases s <;> exact h
  | bk st1 => rw [q] at h; exact h
  | ct st1 => rw [q] at h; exact h
  | exc x st1 => rw [q] at h; exact h
  | bad => rw [q] at h; exact h
theorem dss_cons {st : Stmt} {rest : List Stmt} (h1 : PS X st (qC X.K at_ xa W f)) (h2 : PSs X rest (qC X.K at_ xa W g')) : PSs X (st :: rest) (qC X.K at_ xa W (sSeq f g')) := pss_imp (pss_cons h1 h2) fun _ _ _ => of_sSeq
theorem dss_one {st : Stmt} (h1 : PS X st (qC X.K at_ xa W f)) : PSs X [st] (qC X.K at_ xa W f) := pss_one h1
theorem ds_pass : PS X (.Pass pos) (qC X.K at_ xa W sNx) := ps_imp ps_pass fun D σ H ⟨g, st, R, h⟩ => h g σ H (G.le.refl g) R
theorem ds_break : PS X (.Break pos) (qC X.K at_ xa W sBk) := ps_imp ps_break fun D σ H ⟨g, st, R, h⟩ => h g σ H (G.le.refl g) R
theorem ds_cont : PS X (.Continue pos) (qC X.K at_ xa W sCt) := ps_imp ps_continue fun D σ H ⟨g, st, R, h⟩ => h g σ H (G.le.refl g) R
theorem ds_expr (he : PE X e (qE X.K at_ xa W fa)) (hs : swapsWith e none pos.line X.env = pure false := by rfl) : PS X (.Expr e pos) (qC X.K at_ xa W (sExpr fa)) := by
  refine ps_imp (ps_expr he hs) fun T σ H hq => ?_
  obtain ⟨g, st, R, h⟩ := hq
  exact ⟨g, st, R, h.fl fun g1 H1 x st1 le1 R1 h1 v rv => h1 g1 σ H1 (G.le.refl g1) R1⟩
theorem ds_ret (he : PE X e (qE X.K at_ xa W fa)) : PS X (.Return (some e) pos) (qC X.K at_ xa W (sRet fa)) := by
  refine ps_imp (ps_ret he) fun T σ H hq => ?_
  obtain ⟨g, st, R, h⟩ := hq
  exact ⟨g, st, R, h.fl fun g1 H1 x st1 le1 R1 h1 v rv => h1 g1 σ v H1 (G.le.refl g1) R1 rv⟩
theorem ds_retO (he : PE X e (qO X.K at_ xa W fa)) : PS X (.Return (some e) pos) (qC X.K at_ xa W (sRetO fa)) := by
  refine ps_imp (ps_ret he) fun T σ H hq => ?_
  obtain ⟨g, st, R, h⟩ := hq
  exact ⟨g, st, R, h.fl fun g1 H1 x st1 le1 R1 h1 a c hF hP ho => h1 g1 σ a H1 (G.le.refl g1) R1 ⟨c, hF, hP, fun w e => by rw [ho] at e; cases e⟩⟩
theorem ds_retV {i : Nat} (he : PE X e (tVar i)) : PS X (.Return (some e) pos) (qC X.K at_ xa W (sRetV i)) := by
  refine ps_imp (ps_ret he) fun T σ H hq => ?_
  obtain ⟨g, st, R, h⟩ := hq
  unfold sRetV at h
  split at h
  · rename_i d hd
    obtain ⟨v, e1, a, rfl, ho, c⟩ := R.slot i _ hd
    refine ⟨_, e1, h g σ a H (G.le.refl g) R ⟨c, ?_, ?_, fun w e => by rw [ho] at e; cases e; rfl⟩⟩
    · cases q : g.F a with
      | none => rfl
      | some u => rw [(R.sub a u q).2] at ho; cases ho
    · cases q : g.P a with
      | none => rfl
      | some u => rw [(R.pro a u q).2.2] at ho; cases ho
  · exact h.elim
theorem ds_retN : PS X (.Return none pos) (qC X.K at_ xa W sRetN) := ps_imp ps_retN fun T σ H ⟨g, st, R, h⟩ => h g σ .non H (G.le.refl g) R repnon
theorem Inv.lenσ {pins : List (Addr × Obj)} {σ : St} {H : Hp} {s : Shared} (I : Inv X pins σ H s) {i : Nat} {x : Str} (hi : X.N[i]? = some x) : i < σ.length := by
  rw [I.len]; exact (List.getElem?_eq_some_iff.mp hi).1
theorem ps_imp' {st : Stmt} {t t' : TS} (h : PS X st t) (k : ∀ D σ H, σ.length = X.N.length → t' D σ H → t D σ H) : PS X st t' := ⟨fun pins s σ H D I hw => h.run pins s σ H D I (k D σ H I.len hw)⟩
theorem ds_set {i : Nat} {x : Str} {pos' : Pos} (hN : X.N.Nodup) (hi : X.N[i]? = some x) (hx : Loc X.env.scope x) (he : PE X e (qE X.K at_ xa W fa)) (hs : swapsWith e (some (.Name x pos')) pos.line X.env = pure false := by rfl) (hf : X.fn x = true ∨ X.env.scope.names.lookup x = some .local := by first | exact .inl rfl | exact .inr rfl | assumption) :
    PS X (.Assign [.Name x pos'] e pos) (qC X.K at_ xa W (sSet i fa)) := by
  refine ps_imp' (ps_set hN hi hx he hs hf) fun T σ H hl hq => ?_
  have hi' : i < σ.length := by rw [hl]; exact (List.getElem?_eq_some_iff.mp hi).1
  obtain ⟨g, st, R, h⟩ := hq
  exact ⟨g, st, R, h.fl fun g1 H1 x st1 le1 R1 h1 v rv => h1 g1 _ H1 (G.le.refl g1) (R1.setDat hi' rv)⟩
theorem ds_setO {i : Nat} {x : Str} {pos' : Pos} (hN : X.N.Nodup) (hi : X.N[i]? = some x) (hx : Loc X.env.scope x) (he : PE X e (qO X.K at_ xa W fa)) (hs : swapsWith e (some (.Name x pos')) pos.line X.env = pure false := by rfl) (hf : X.fn x = true ∨ X.env.scope.names.lookup x = some .local := by first | exact .inl rfl | exact .inr rfl | assumption) :
    PS X (.Assign [.Name x pos'] e pos) (qC X.K at_ xa W (sSetO i fa)) := by
  refine ps_imp' (ps_set hN hi hx he hs hf) fun T σ H hl hq => ?_
  have hi' : i < σ.length := by rw [hl]; exact (List.getElem?_eq_some_iff.mp hi).1
  obtain ⟨g, st, R, h⟩ := hq
  refine ⟨g, st, R, h.fl fun g1 H1 x st1 le1 R1 h1 a c hF hP ho => ?_⟩
  obtain ⟨le2, R2⟩ := R1.setOwn hi' c hF hP ho
  exact h1 _ _ H1 le2 R2
theorem ds_if {c : Expr} {a b : List Stmt} {fc : Bv} (hc : PT X c (qB X.K at_ xa W fc)) (ha : PSs X a (qC X.K at_ xa W f)) (hb : PSs X b (qC X.K at_ xa W g')) : PS X (.If c a b pos) (qC X.K at_ xa W (sIf fc f g')) := by
  refine ps_imp (ps_if hc ha hb) fun T σ H hq => ?_
  obtain ⟨g, st, R, h⟩ := hq
  refine ⟨g, st, R, h.fl fun g1 H1 x st1 le1 R1 h1 => ?_⟩
  cases x with
  | true => exact iteT ⟨g1, st1, R1, by simpa using h1⟩
  | false => exact iteF ⟨g1, st1, R1, by simpa using h1⟩
/-- x op= e -/
def sAug (i : Nat) (k : List SO → D → D → Option D) (fa : Ev) : Cv := fun st => match st.r[i]? with
  | some (some (.dat d)) => (fa st).fl fun y st1 => match k st1.S d y with
    | some z => .nx (setR st1 i (.dat z))
    | none => .bad
  | _ => .bad
theorem ds_aug {i : Nat} {x : Str} {op : Operator} {pos' : Pos} {r : R2} {k : List SO → D → D → Option D} (hN : X.N.Nodup) (hi : X.N[i]? = some x) (hx : Loc X.env.scope x) (he : PE X e (qE X.K at_ xa W fa)) (ho : PIp X op r) (hr : VOp2 X.K at_ xa r k) (hf : X.fn x = true ∨ X.env.scope.names.lookup x = some .local := by first | exact .inl rfl | exact .inr rfl | assumption) :
    PS X (.AugAssign (.Name x pos') op e pos) (qC X.K at_ xa W (sAug i k fa)) := by
  refine ps_imp' (ps_aug hN hi hx he ho hf) fun T σ H hl hq => ?_
  have hi' : i < σ.length := by rw [hl]; exact (List.getElem?_eq_some_iff.mp hi).1
  obtain ⟨g, st, R, h⟩ := hq
  unfold sAug at h
  split at h
  · rename_i d hd
    obtain ⟨v, e1, rv⟩ := R.slot i _ hd
    refine ⟨v, e1, g, st, R, h.fl fun g1 H1 y st1 le1 R1 h1 u ru => ?_⟩
    cases q : k st1.S d y with
    | none => rw [q] at h1; exact h1.elim
    | some z =>
      rw [q] at h1
      exact hr g1 st1 σ H1 v u d y z _ R1 (Rep.leG le1 rv) ru q fun g2 w H2 le2 R2 rw => h1 g2 _ H2 le2 (R2.setDat hi' rw)
  · exact h.elim
end
/-! ### targets -/
/-- the names of a target, nested as it is -/
inductive Tg where
  | n (i : Nat)
  | t (ts : List Tg)
mutual
def setT : Tg → D → Stt → Option Stt
  | .n i, d, st => some (setR st i (.dat d))
  | .t ts, .tup ds, st => setTs ts ds st
  | .t _, _, _ => none
def setTs : List Tg → List D → Stt → Option Stt
  | [], [], st => some st
  | t :: ts, d :: ds, st => match setT t d st with
    | some st1 => setTs ts ds st1
    | none => none
  | _, _, _ => none
end
mutual
def Tg.all : Tg → List Nat
  | .n i => [i]
  | .t ts => Tg.alls ts
def Tg.alls : List Tg → List Nat
  | [] => []
  | x :: ts => Tg.all x ++ Tg.alls ts
end
section
variable (K : PySem.W.Frag) (at_ : At) (xa : Option Xc)
def qG (t : Tg) : TG := fun v σ H Q => ∃ g st d, Rel K at_ xa g st σ H ∧ Rep K at_ g.F g.m d v ∧ ∃ st', setT t d st = some st' ∧
  ∀ g' σ' H', g.le g' → Rel K at_ xa g' st' σ' H' → σ'.length = σ.length → (∀ vs, (∀ i ∈ t.all, i ∈ vs) → wipe σ' vs = wipe σ vs) → Q σ' H'
def qGs (ts : List Tg) : TGs := fun vs σ H Q => ∃ g st ds, Rel K at_ xa g st σ H ∧ Reps K at_ g.F g.m ds vs ∧ ∃ st', setTs ts ds st = some st' ∧
  ∀ g' σ' H', g.le g' → Rel K at_ xa g' st' σ' H' → σ'.length = σ.length → (∀ vs, (∀ i ∈ Tg.alls ts, i ∈ vs) → wipe σ' vs = wipe σ vs) → Q σ' H'
end
section
variable {X : Cx} {at_ : At} {xa : Option Xc}
theorem wipe_set {σ : St} {i : Nat} {v : Option V} : ∀ {vs : List Nat}, i ∈ vs → wipe (σ.set i v) vs = wipe σ vs
  | [], h => by simp at h
  | j :: vs, h => by
    unfold wipe
    by_cases hj : i ∈ vs
    · rw [wipe_set hj]
    · have e : i = j := by
        rcases List.mem_cons.mp h with z | z
        · exact z
        · exact absurd z hj
      subst e
      have : ∀ ws : List Nat, i ∉ ws → wipe (σ.set i v) ws = (wipe σ ws).set i v := by
        intro ws
        induction ws with
        | nil => intro _; rfl
        | cons k ws ih =>
          intro hn
          unfold wipe
          rw [ih (fun z => hn (List.mem_cons_of_mem _ z)), List.set_comm _ _ (fun z => hn (by rw [z]; exact List.mem_cons_self))]
      rw [this vs hj, List.set_set]
theorem pg_imp {t : Expr} {k k' : TG} (h : PG X t k) (z : ∀ v σ H Q, σ.length = X.N.length → k' v σ H Q → k v σ H Q) : PG X t k' := ⟨fun pins s σ H v u Q I r hw => h.run pins s σ H v u Q I r (z v σ H Q I.len hw)⟩
theorem pgs_imp {t : List Expr} {k k' : TGs} (h : PGs X t k) (z : ∀ v σ H Q, k' v σ H Q → k v σ H Q) : PGs X t k' := ⟨fun pins s σ H v u Q I r hw => h.run pins s σ H v u Q I r (z v σ H Q hw)⟩
theorem dg_name {i : Nat} {x : Str} {pos : Pos} (hN : X.N.Nodup) (hi : X.N[i]? = some x) (hx : Loc X.env.scope x) (hf : X.fn x = true ∨ X.env.scope.names.lookup x = some .local := by first | exact .inl rfl | exact .inr rfl | assumption) : PG X (.Name x pos) (qG X.K at_ xa (.n i)) := by
  refine pg_imp (pg_name hN hi hx hf) fun v σ H Q hl hq => ?_
  have hi' : i < σ.length := by rw [hl]; exact (List.getElem?_eq_some_iff.mp hi).1
  obtain ⟨g, st, d, R, r, st', e, k⟩ := hq
  unfold setT at e
  cases e
  exact k g _ H (G.le.refl g) (R.setDat hi' r) (by simp) fun vs hv => wipe_set (hv i (by unfold Tg.all; simp))
theorem dgs_nil : PGs X [] (qGs X.K at_ xa []) := by
  refine pgs_imp pgs_nil fun v σ H Q hq => ?_
  obtain ⟨g, st, d, R, r, st', e, k⟩ := hq
  cases d with
  | nil => unfold setTs at e; cases e; exact ⟨r.unnil, k g σ H (G.le.refl g) R rfl fun _ _ => rfl⟩
  | cons _ _ => unfold setTs at e; cases e
theorem dgs_cons {e : Expr} {es : List Expr} {t : Tg} {ts : List Tg} (h1 : PG X e (qG X.K at_ xa t)) (h2 : PGs X es (qGs X.K at_ xa ts))
    (hs : (assignEach (e :: es) X.env).map (·.2) = assign e X.env :: (assignEach es X.env).map (·.2) := by rfl) : PGs X (e :: es) (qGs X.K at_ xa (t :: ts)) := by
  refine pgs_imp (pgs_cons h1 h2 hs) fun v σ H Q hq => ?_
  obtain ⟨g, st, ds, R, r, st', e, k⟩ := hq
  cases ds with
  | nil => unfold setTs at e; cases e
  | cons d ds =>
    obtain ⟨x, vs, rfl, r1, r2⟩ := r.uncons
    unfold setTs at e
    cases q : setT t d st with
    | none => rw [q] at e; cases e
    | some st1 =>
      rw [q] at e
      refine ⟨x, vs, rfl, g, st, d, R, r1, st1, q, fun g1 σ1 H1 le1 R1 l1 w1 => ⟨g1, st1, ds, R1, Reps.leG le1 r2, st', e, fun g2 σ2 H2 le2 R2 l2 w2 => k g2 σ2 H2 (le1.trans le2) R2 (l2.trans l1) fun us hu => ?_⟩⟩
      rw [w2 us fun i hi => hu i (by unfold Tg.alls; exact List.mem_append_right _ hi), w1 us fun i hi => hu i (by unfold Tg.alls; exact List.mem_append_left _ hi)]
theorem setTs_len : ∀ {ts : List Tg} {ds : List D} {st st' : Stt}, setTs ts ds st = some st' → ds.length = ts.length
  | [], [], _, _, _ => rfl
  | [], _ :: _, _, _, e => by unfold setTs at e; cases e
  | _ :: _, [], _, _, e => by unfold setTs at e; cases e
  | t :: ts, d :: ds, st, st', e => by
    unfold setTs at e
    cases q : setT t d st with
    | none => rw [q] at e; cases e
    | some st1 => rw [q] at e; simp [setTs_len e]
theorem dg_tup {es : List Expr} {k : Nat} {pos : Pos} {ts : List Tg} (hc : X.calm = true) (h : PGs X es (qGs X.K at_ xa ts)) (hn : (assignEach es X.env).length = ts.length := by rfl) (hst : (assignEach es X.env).findIdx? (·.1) = none := by rfl) :
    PG X (.Tuple es k pos) (qG X.K at_ xa (.t ts)) := by
  refine pg_imp (pg_tup (n := ts.length) hc h hn hst) fun v σ H Q hl hq => ?_
  obtain ⟨g, st, d, R, r, st', e, k⟩ := hq
  cases d with
  | tup ds =>
    unfold setT at e
    obtain ⟨a, vs, rfl, q, r2⟩ := r.t
    exact ⟨a, vs, rfl, SqT.le q fun a o z => (R.sub a o z).1, by rw [r2.length]; exact setTs_len e, g, st, ds, R, r2, st', e, fun g' σ' H' le R' l w => k g' σ' H' le R' l fun us hu => w us (by unfold Tg.all at hu; exact hu)⟩
  | _ => unfold setT at e; cases e
/-- a, b = e -/
def sUnp (t : Tg) (fa : Ev) : Cv := fun st => (fa st).fl fun d st1 => match setT t d st1 with
  | some st2 => .nx st2
  | none => .bad
theorem ds_asg {W : WX} {e tg : Expr} {fa : Ev} {t : Tg} {pos : Pos} (he : PE X e (qE X.K at_ xa W fa)) (hg : PG X tg (qG X.K at_ xa t)) (hs : swapsWithSole [tg] e pos.line X.env = pure false := by rfl) (hw : swappedStores [tg] e X.env = pure none := by rfl) (h1 : (assignEach [tg] X.env).map (·.2) = [assign tg X.env] := by rfl) :
    PS X (.Assign [tg] e pos) (qC X.K at_ xa W (sUnp t fa)) := by
  refine ps_imp (ps_asg he hg hs hw h1) fun T σ H hq => ?_
  obtain ⟨g, st, R, h⟩ := hq
  refine ⟨g, st, R, h.fl fun g1 H1 x st1 le1 R1 h1 v rv => ?_⟩
  cases q : setT t x st1 with
  | none => rw [q] at h1; exact h1.elim
  | some st2 =>
    rw [q] at h1
    exact ⟨g1, st1, x, R1, rv, st2, q, fun g2 σ2 H2 le2 R2 _ _ => h1 g2 σ2 H2 le2 R2⟩
end
end Pl
/-! The pure layer: what a name holds changed in place; loops. -/
namespace Pl
open PySem L2
section
variable {K : PySem.W.Frag} {at_ : At} {xa : Option Xc} {g g' : G} {st : Stt} {σ : St} {H H' : Hp}
/-- an object of the store is changed -/
theorem Rel.changeObj (h : Rel K at_ xa g st σ H) {n : Nat} {ds ds' : List D} {a : Addr} {vs : List V} (hs : st.S[n]? = some (.lst ds)) (hm : g.m[n]? = some a) (ha : g.o a = some (.obj n)) (r : Reps K at_ g.F g.m ds' vs) :
    Rel K at_ xa g { st with S := st.S.set n (.lst ds') } σ (upd H a (.lst vs)) := by
  have hF : g.F a = none := by
    cases q : g.F a with
    | none => rfl
    | some u => rw [(h.sub a u q).2] at ha; cases ha
  refine ⟨fun b u e => ?_, fun b u e => ?_, fun b w e => ?_, fun j s e => ?_, fun j u e => ?_, by simpa using h.len⟩
  · obtain ⟨h1, h2, h3⟩ := h.pro b u e
    have : b ≠ a := fun z => by subst z; rw [ha] at h3; cases h3
    exact ⟨by rw [upd_ne this]; exact h1, h2, h3⟩
  · obtain ⟨h1, h2⟩ := h.sub b u e
    have : b ≠ a := fun z => by subst z; rw [hF] at e; cases e
    exact ⟨by rw [upd_ne this]; exact h1, h2⟩
  · by_cases hb : b = a
    · subst hb; exact ⟨_, upd_same⟩
    · obtain ⟨u, q⟩ := h.own b w e
      exact ⟨u, by rw [upd_ne hb]; exact q⟩
  · obtain ⟨u, e1, e2⟩ := h.slot j s e
    refine ⟨u, e1, e2.to (fun _ _ e => e) (fun _ _ e => e) fun b e => ⟨e, ?_⟩⟩
    have : b ≠ a := fun z => by subst z; rw [ha] at e; cases e
    rw [upd_ne this]
  · have e' : (st.S.set n (.lst ds'))[j]? = some u := e
    by_cases hj : n = j
    · subst hj
      have hl : n < st.S.length := (List.getElem?_eq_some_iff.mp hs).1
      rw [List.getElem?_set_self hl] at e'
      cases e'
      exact ⟨a, vs, hm, ha, upd_same, r⟩
    · rw [List.getElem?_set_ne hj] at e'
      have z := h.store j u e'
      cases u with
      | lst es =>
        obtain ⟨b, ws, q1, q2, q3, q4⟩ := z
        have : b ≠ a := fun z => by subst z; rw [ha] at q2; cases q2; exact hj rfl
        exact ⟨b, ws, q1, q2, by rw [upd_ne this]; exact q3, q4⟩
      | ins c fs =>
        obtain ⟨b, dx, ws, q1, q2, q3, q4⟩ := z
        have : b ≠ a := fun z => by subst z; rw [ha] at q2; cases q2; exact hj rfl
        exact ⟨b, dx, ws, q1, q2, by rw [upd_ne this]; exact q3, q4.to (fun _ _ e => e) (fun _ _ e => e) fun b' f e => ⟨e, by
          have : b' ≠ a := fun z => by subst z; rw [ha] at e; cases e
          rw [upd_ne this]⟩⟩
theorem G.give_le {a : Addr} {w : Owner} : g.le (g.give a w) := ⟨rfl, fun _ _ e => e, [], by simp⟩
/-- a new object of the store, out of a list that is nobody's -/
theorem Rel.newObj (h : Rel K at_ xa g st σ H) {ds : List D} {a : Addr} (c : Cont K at_ g.F g.m H a (.lst ds)) (hF : g.F a = none) (hP : g.P a = none) (ho : g.o a = none) :
    ∃ g', g.le g' ∧ Rel K at_ xa g' { st with S := st.S ++ [.lst ds] } σ H ∧ Rep K at_ g'.F g'.m (.obj st.S.length) (.ref a) := by
  have le : g.le { g.give a (.obj st.S.length) with m := g.m ++ [a] } := ⟨rfl, fun _ _ e => e, [a], rfl⟩
  have og : ∀ b w, g.o b = some w → (g.give a (.obj st.S.length)).o b = some w := fun b w e => by
    have : b ≠ a := fun z => by subst z; rw [ho] at e; cases e
    show (if b = a then _ else _) = _
    rw [if_neg this]; exact e
  refine ⟨{ g.give a (.obj st.S.length) with m := g.m ++ [a] }, le, ⟨fun b u e => ?_, fun b u e => ?_, fun b w e => ?_, fun j s e => ?_, fun j u e => ?_, by simp [h.len]⟩, ?_⟩
  · obtain ⟨h1, h2, h3⟩ := h.pro b u e
    refine ⟨h1, h2, ?_⟩
    have : b ≠ a := fun z => by subst z; rw [hP] at e; cases e
    show (if b = a then _ else _) = _
    rw [if_neg this]; exact h3
  · obtain ⟨h1, h2⟩ := h.sub b u e
    refine ⟨h1, ?_⟩
    have : b ≠ a := fun z => by subst z; rw [hF] at e; cases e
    show (if b = a then _ else _) = _
    rw [if_neg this]; exact h2
  · by_cases hb : b = a
    · subst hb; exact c.there
    · have e' : (if b = a then some (Owner.obj st.S.length) else g.o b) = some w := e
      rw [if_neg hb] at e'
      exact h.own b w e'
  · obtain ⟨u, e1, e2⟩ := h.slot j s e
    exact ⟨u, e1, e2.to le.F (fun _ _ e => le.get e) fun b e => ⟨og b _ e, rfl⟩⟩
  · have e' : (st.S ++ [.lst ds])[j]? = some u := e
    by_cases hj : j < st.S.length
    · rw [List.getElem?_append_left hj] at e'
      exact (h.store j u e').to le.F (fun _ _ e => le.get e) fun b w _ e => ⟨og b w e, rfl⟩
    · rw [List.getElem?_append_right (by omega)] at e'
      have hj' : j = st.S.length := by
        have := (List.getElem?_eq_some_iff.mp e').1
        simp at this; omega
      subst hj'
      simp at e'
      subst e'
      obtain ⟨vs, q, r⟩ := c
      exact ⟨a, vs, by show (g.m ++ [a])[st.S.length]? = some a; rw [h.len]; simp, if_pos rfl, q, Reps.leG le r⟩
  · unfold Rep
    exact ⟨a, by show (g.m ++ [a])[st.S.length]? = some a; rw [h.len]; simp, rfl⟩
theorem Rel.slotOwn (h : Rel K at_ xa g st σ H) {i : Nat} {d : D} (hs : st.r[i]? = some (some (.own d))) : ∃ a, σ[i]? = some (some (.ref a)) ∧ g.o a = some (.slot i) ∧ Cont K at_ g.F g.m H a d := by
  obtain ⟨v, e1, a, rfl, ho, c⟩ := h.slot i _ hs
  exact ⟨a, e1, ho, c⟩
end
/-- x = [..], a list that others change: an object of the store -/
def sSetN (i : Nat) (fa : Ev) : Cv := fun st => (fa st).fl fun d st1 => match d with
  | .lst ds => .nx (setR { st1 with S := st1.S ++ [.lst ds] } i (.dat (.obj st1.S.length)))
  | _ => .bad
/-- x.append(e) -/
def eApp (i : Nat) (fa : Ev) : Ev := fun st => match st.r[i]? with
  | some (some (.own (.lst _))) => (fa st).bind fun d st1 => match st1.r[i]? with
    | some (some (.own (.lst ds))) => if ds.length < line then .ok .non (setR st1 i (.own (.lst (ds ++ [d])))) else .bad
    | _ => .bad
  | _ => .bad
/-- x.extend(ys) -/
def eExt (i : Nat) (fa : Ev) : Ev := fun st => match st.r[i]? with
  | some (some (.own (.lst _))) => (fa st).bind fun d st1 => match d with
    | .lst es => match st1.r[i]? with
      | some (some (.own (.lst ds))) => if ds.length + es.length ≤ line then .ok .non (setR st1 i (.own (.lst (ds ++ es)))) else .bad
      | _ => .bad
    | _ => .bad
  | _ => .bad
/-- x.pop() -/
def ePop (i : Nat) : Ev := fun st => match st.r[i]? with
  | some (some (.own (.lst ds))) => match ds[ds.length - 1]? with
    | some d => .ok d (setR st i (.own (.lst ds.dropLast)))
    | none => .bad
  | _ => .bad
/-- len(x), x a list or dict of its own or data -/
def eLen (i : Nat) : Ev := fun st => match st.r[i]? with
  | some (some (.own (.lst ds))) => .ok (.int ds.length) st
  | some (some (.dat d)) => lift (kLen st.S [d]) st
  | _ => .bad
/-- x[e] -/
def eIx (i : Nat) (fb : Ev) : Ev := fun st => match st.r[i]? with
  | some (some (.own (.lst _))) => (fb st).bind fun y st1 => match st1.r[i]? with
    | some (some (.own (.lst ds))) => match y with
      | .int z => lift (atI ds z) st1
      | _ => .bad
    | _ => .bad
  | some (some (.dat d)) => (fb st).bind fun y st1 => lift (kIx st1.S d y) st1
  | _ => .bad
/-- x[i] = e -/
def sSetIx (i : Nat) (fi fe : Ev) : Cv := fun st => (fe st).fl fun d st1 => match st1.r[i]? with
  | some (some (.own (.lst _))) => (fi st1).fl fun y st2 => match y with
    | .int z => match st2.r[i]? with
      | some (some (.own (.lst ds))) => match ixN ds.length z with
        | some j => .nx (setR st2 i (.own (.lst (ds.set j d))))
        | none => .bad
      | _ => .bad
    | _ => .bad
  | some (some (.dat (.obj n))) => (fi st1).fl fun y st2 => match y with
    | .int z => match st2.S[n]? with
      | some (.lst ds) => match ixN ds.length z with
        | some j => .nx { st2 with S := st2.S.set n (.lst (ds.set j d)) }
        | none => .bad
      | _ => .bad
    | _ => .bad
  | _ => .bad
section
variable {X : Cx} {at_ : At} {xa : Option Xc} {W : WX} {e a b c : Expr} {fa fb fi fe : Ev} {pos : Pos}
theorem ds_setN {i : Nat} {x : Str} {pos' : Pos} (hN : X.N.Nodup) (hi : X.N[i]? = some x) (hx : Loc X.env.scope x) (he : PE X e (qO X.K at_ xa W fa)) (hs : swapsWith e (some (.Name x pos')) pos.line X.env = pure false := by rfl) (hf : X.fn x = true ∨ X.env.scope.names.lookup x = some .local := by first | exact .inl rfl | exact .inr rfl | assumption) :
    PS X (.Assign [.Name x pos'] e pos) (qC X.K at_ xa W (sSetN i fa)) := by
  refine ps_imp' (ps_set hN hi hx he hs hf) fun T σ H hl hq => ?_
  have hi' : i < σ.length := by rw [hl]; exact (List.getElem?_eq_some_iff.mp hi).1
  obtain ⟨g, st, R, h⟩ := hq
  refine ⟨g, st, R, AftC.fl h fun g1 H1 x st1 le1 R1 h1 a c hF hP ho => ?_⟩
  cases x with
  | lst ds =>
    obtain ⟨g2, le2, R2, rp⟩ := R1.newObj c hF hP ho
    exact h1 g2 _ H1 le2 (R2.setDat hi' rp)
  | _ => exact h1.elim
theorem tyL {K : PySem.W.Frag} {a : Addr} {xs : List V} {H : Hp} (h : H a = some (.lst xs)) : tyV K "list" (.ref a) H := .inl ⟨rfl, xs, SqL.of h⟩
theorem de_app {i : Nat} {o : Expr} {apos : Pos} (ho : PE X o (tVar i)) (ha : PE X e (qE X.K at_ xa W fa))
    (hbase : attributeBase o "append" X.env (eval o X.env) = eval o X.env := by rfl)
    (hfew : ((backTo pos (starEach [e] X.env)).all (fun x => !x.1) && (backToKw pos (keywordEach [] X.env)).all (fun x => x.1.isSome)
      && decide (([e] : List Expr).length + ([] : List Keyword).length + (if ([] : List Keyword).isEmpty then 0 else 1) < 30)) = true := by rfl)
    (hline : (apos.endLine == pos.line) = true := by rfl) (hs : starEach [e] X.env = (false, eval e X.env) :: starEach [] X.env := by rfl) (hplain : (backTo pos (starEach [] X.env)).any (·.1) = false := by rfl) :
    PE X (.Call (.Attribute o "append" apos) [e] [] pos) (qE X.K at_ xa W (eApp i fa)) := by
  refine pe_imp (pe_bm PySem.F.plainAttrs_list PySem.F.slot_list_append PySem.F.type_list_append mt_append ho (pa_cons ha pa_nil hs) hbase hfew hline hs hplain) fun σ H Q hq => ?_
  obtain ⟨g, st, R, h⟩ := hq
  unfold eApp at h
  split at h
  · rename_i ds0 h0
    obtain ⟨a, e1, ho, vs, hv, r⟩ := R.slotOwn h0
    refine ⟨_, e1, tyL hv, g, st, R, h.bind fun g1 H1 d st1 le1 R1 h1 v rv => ?_⟩
    split at h1
    · rename_i ds h2
      split at h1
      · rename_i hz
        obtain ⟨a', e1', ho', vs', hv', r'⟩ := R1.slotOwn h2
        rw [e1] at e1'; cases e1'
        refine ⟨a, vs', v, rfl, rfl, hv', by rw [r'.length]; exact Nat.lt_of_lt_of_le hz (by unfold line; rw [PySem.sizeLine_eq]; omega), ?_⟩
        exact h1 g1 _ (G.le.refl g1) (R1.change h2 e1 ho' ⟨_, upd_same, r'.append (Reps.cons rv Reps.nil)⟩) _ repnon
      · exact h1.elim
    · exact h1.elim
  · exact h.elim
theorem de_pop {i : Nat} {o : Expr} {apos : Pos} (ho : PE X o (tVar i))
    (hbase : attributeBase o "pop" X.env (eval o X.env) = eval o X.env := by rfl) (hline : (apos.endLine == pos.line) = true := by rfl) :
    PE X (.Call (.Attribute o "pop" apos) [] [] pos) (qE X.K at_ xa W (ePop i)) := by
  refine pe_imp (pe_bm0 PySem.F.plainAttrs_list PySem.F.slot_list_pop PySem.F.type_list_pop mt_pop ho hbase hline) fun σ H Q hq => ?_
  obtain ⟨g, st, R, h⟩ := hq
  unfold ePop at h
  split at h
  · rename_i ds h0
    split at h
    · rename_i d hd
      obtain ⟨a, e1, ho, vs, hv, r⟩ := R.slotOwn h0
      obtain ⟨v, e2, rv⟩ := r.get hd
      refine ⟨_, e1, tyL hv, a, vs, v, rfl, rfl, hv, by rw [r.length]; exact e2, ?_⟩
      exact h g _ (G.le.refl g) (R.change h0 e1 ho ⟨_, upd_same, r.dropLast⟩) _ rv
    · exact h.elim
  · exact h.elim
theorem de_len {i : Nat} {o : Expr} {p : Pos} (ho : PE X o (tVar i)) (hg : Gl X "len") (hm : X.mg "len" = none) (he : starEach [o] X.env = (false, eval o X.env) :: starEach [] X.env := by rfl) (hpl : (backTo pos (starEach [] X.env)).any (·.1) = false := by rfl) :
    PE X (.Call (.Name "len" p) [o] [] pos) (qE X.K at_ xa W (eLen i)) := by
  refine pe_imp (pe_callB call_len hg hm boot_len (pa_cons ho pa_nil he) (by decide) (by decide) he hpl) fun σ H Q hq => ?_
  obtain ⟨g, st, R, h⟩ := hq
  unfold eLen at h
  split at h
  · rename_i ds h0
    obtain ⟨a, e1, ho, vs, hv, r⟩ := R.slotOwn h0
    exact ⟨_, e1, _, vs.length, rfl, .inl ⟨vs, SqL.of hv, rfl⟩, Aft.ok (a := D.int (ds.length : Int)) h R _ (by rw [r.length]; exact repint)⟩
  · rename_i d h0
    obtain ⟨v, e1, rv⟩ := R.slot i _ h0
    obtain ⟨x, e, h1⟩ := h.lift
    exact ⟨v, e1, v_len g st σ H [v] [d] x Q R (Reps.cons rv Reps.nil) e fun g' w H' le' R' rw => h1 g' H' le' R' w rw⟩
  · exact h.elim
theorem de_ixV {i : Nat} {o : Expr} (ho : PE X o (tVar i)) (hb : PE X b (qE X.K at_ xa W fb)) (hs : PlainIx b) : PE X (.Subscript o b pos) (qE X.K at_ xa W (eIx i fb)) := by
  refine pe_imp (pe_ix ix_seq ho hb hs) fun σ H Q hq => ?_
  obtain ⟨g, st, R, h⟩ := hq
  unfold eIx at h
  split at h
  · rename_i ds0 h0
    obtain ⟨a, e1, ho, vs, hv, r⟩ := R.slotOwn h0
    refine ⟨_, e1, g, st, R, h.bind fun g1 H1 d st1 le1 R1 h1 v rv => ?_⟩
    split at h1
    · rename_i ds h2
      obtain ⟨a', e1', ho', vs', hv', r'⟩ := R1.slotOwn h2
      rw [e1] at e1'; cases e1'
      split at h1
      · obtain ⟨x, e, h3⟩ := h1.lift
        obtain ⟨u, e3, ru⟩ := atI_rep r' e
        exact .inl ⟨a, vs', _, u, rfl, rv.i, SqL.of hv', e3, h3.ok R1 _ ru⟩
      · exact h1.elim
    · exact h1.elim
  · rename_i d h0
    obtain ⟨v, e1, rv⟩ := R.slot i _ h0
    refine ⟨v, e1, g, st, R, h.bind fun g1 H1 y st1 le1 R1 h1 u ru => ?_⟩
    obtain ⟨x, e, h2⟩ := h1.lift
    exact v_ix g1 st1 σ H1 v u d y x Q R1 (Rep.leG le1 rv) ru e fun g' w H' le' R' rw => h2 g' H' le' R' w rw
  · exact h.elim
theorem ds_setIx {i : Nat} {o j : Expr} {p : Pos} (ho : PE X o (tVar i)) (hj : PE X j (qE X.K at_ xa W fi)) (he : PE X e (qE X.K at_ xa W fe)) (hg : PG X (.Subscript o j p) (gSub (tVar i) (qE X.K at_ xa W fi) rSetL))
    (hs : swapsWithSole [.Subscript o j p] e pos.line X.env = pure false := by rfl) (hw : swappedStores [.Subscript o j p] e X.env = pure none := by rfl) (h1 : (assignEach [.Subscript o j p] X.env).map (·.2) = [assign (.Subscript o j p) X.env] := by rfl) :
    PS X (.Assign [.Subscript o j p] e pos) (qC X.K at_ xa W (sSetIx i fi fe)) := by
  refine ps_imp (ps_asg he hg hs hw h1) fun T σ H hq => ?_
  obtain ⟨g, st, R, h⟩ := hq
  refine ⟨g, st, R, AftC.fl h fun g1 H1 d st1 le1 R1 h1 v rv => ?_⟩
  split at h1
  · rename_i ds0 h0
    obtain ⟨a, e1, ho, vs, hv, r⟩ := R1.slotOwn h0
    refine ⟨_, e1, g1, st1, R1, AftC.fl h1 fun g2 H2 y st2 le2 R2 h2 u ru => ?_⟩
    split at h2
    · split at h2
      · rename_i ds h3
        obtain ⟨a', e1', ho', vs', hv', r'⟩ := R2.slotOwn h3
        rw [e1] at e1'; cases e1'
        split at h2
        · rename_i k hk
          refine ⟨a, vs', _, k, rfl, ru.i, hv', by rw [r'.length]; exact hk, ?_⟩
          exact h2 g2 σ _ (G.le.refl g2) (R2.change h3 e1 ho' ⟨_, upd_same, r'.set k (Rep.leG le2 rv)⟩)
        · exact h2.elim
      · exact h2.elim
    · exact h2.elim
  · rename_i n h0
    obtain ⟨w, e1, rw⟩ := R1.slot i _ h0
    obtain ⟨a, hm, rfl⟩ := Rep.o (K := X.K) (at_ := at_) (F := g1.F) (m := g1.m) rw
    refine ⟨_, e1, g1, st1, R1, AftC.fl h1 fun g2 H2 y st2 le2 R2 h2 u ru => ?_⟩
    split at h2
    · split at h2
      · rename_i ds h3
        obtain ⟨a', vs', q1, q2, q3, q4⟩ := R2.store _ _ h3
        rw [le2.get hm] at q1; cases q1
        split at h2
        · rename_i k hk
          refine ⟨a, vs', _, k, rfl, ru.i, q3, by rw [q4.length]; exact hk, ?_⟩
          exact h2 g2 σ _ (G.le.refl g2) (R2.changeObj h3 (le2.get hm) q2 (q4.set k (Rep.leG le2 rv)))
        · exact h2.elim
      · exact h2.elim
    · exact h2.elim
  · exact h1.elim
end
/-! ### what is walked -/
section
variable (K : PySem.W.Frag) (at_ : At) (xa : Option Xc)
def Walks (g0 : G) (items : List D) (J : It) : Prop := ∀ g st σ H, g0.le g → Rel K at_ xa g st σ H → J.stop items.length H ∧
  ∀ i d, items[i]? = some d → J.go i H ∧ ∀ x H', J.yld i H x H' → ∃ g', g.le g' ∧ Rel K at_ xa g' st σ H' ∧ Rep K at_ g'.F g'.m d x
/-- what a loop walks; WALKS: under any wish, with the slots and what is held as they are -/
def WalksP (F : Hp) (m : List Addr) (items : List D) (J : It) : Prop := ∀ g st σ H (xb : Option Xc), (∀ a o, F a = some o → g.F a = some o) → (∀ (i : Nat) (a : Addr), m[i]? = some a → g.m[i]? = some a) → Rel K at_ xb g st σ H → J.stop items.length H ∧
  ∀ i d, items[i]? = some d → J.go i H ∧ ∀ x H', J.yld i H x H' → ∃ g', g.le g' ∧ Rel K at_ xb g' st σ H' ∧ Rep K at_ g'.F g'.m d x
variable (W : WX)
abbrev PoI (R : It → Hp → Prop) : G → Hp → List D → Stt → Prop := fun g' H' items _ => ∀ J, WalksP K at_ g'.F g'.m items J → R J H'
def qI (f : Av) : TI := fun σ H R => ∃ g st, Rel K at_ xa g st σ H ∧ Aft K at_ xa W g σ (PoI K at_ R) (f st)
end
def forGo (t : Tg) (body : Cv) : List D → Cv
  | [], st => .nx st
  | d :: ds, st => match setT t d st with
    | none => .bad
    | some st1 => match body st1 with
      | .nx st2 => forGo t body ds st2
      | .ct st2 => forGo t body ds st2
      | .bk st2 => .nx st2
      | x => x
def sFor (fi : Av) (t : Tg) (body : Cv) : Cv := fun st => (fi st).fl fun ds st1 => forGo t body ds st1
section
variable {X : Cx} {at_ : At} {xa : Option Xc} {W : WX} {iter tg : Expr} {body : List Stmt} {fi : Av} {t : Tg} {fb : Cv} {pos : Pos}
theorem ds_for (hp : PassesOwn (model X.prog X.w) X.A X.env X.xe) (hc : X.calm = true) (hi : PI X tg iter (qI X.K at_ xa W fi)) (hg : PG X tg (qG X.K at_ xa t)) (hb : PSs X body (qC X.K at_ xa W fb))
    (hs : ∀ x, foldedSetIterable iter X.env x = pure x := by intro _; rfl) : PS X (.For tg iter body [] pos) (qC X.K at_ xa W (sFor fi t fb)) := by
  refine ps_imp (ps_for hp hc hi hg hb hs) fun T σ H hq => ?_
  obtain ⟨g, st, R, h⟩ := hq
  refine ⟨g, st, R, AftC.fl h fun g1 H1 items st1 le1 R1 h1 J wk => ?_⟩
  refine ⟨fun i m σ' H' => i + m = items.length ∧ ∃ g2 st2, g1.le g2 ∧ Rel X.K at_ xa g2 st2 σ' H' ∧ AftC X.K at_ xa W g2 T (forGo t fb (items.drop i) st2), ⟨items.length, by simp, g1, st1, G.le.refl g1, R1, by simpa using h1⟩, ?_⟩
  rintro i m σ2 H2 ⟨em, g2, st2, le2, R2, h2⟩
  obtain ⟨wstop, wgo⟩ := wk g2 st2 σ2 H2 xa le2.F (fun _ _ e => le2.get e) R2
  by_cases hlt : i < items.length
  · have hd : items[i]? = some items[i] := by simp [hlt]
    rw [List.drop_eq_getElem_cons hlt] at h2
    obtain ⟨w1, w2⟩ := wgo i _ hd
    refine .inr ⟨w1, fun σ' H' => ∃ g2 st2, g1.le g2 ∧ Rel X.K at_ xa g2 st2 σ' H' ∧ AftC X.K at_ xa W g2 T (forGo t fb (items.drop (i + 1)) st2), fun σ' H' z => ⟨m - 1, by omega, by omega, z⟩, fun x H3 y => ?_⟩
    obtain ⟨g3, le3, R3, r3⟩ := w2 x H3 y
    unfold forGo at h2
    cases q : setT t items[i] st2 with
    | none => rw [q] at h2; exact h2.elim
    | some st3 =>
      rw [q] at h2
      dsimp only at h2
      refine ⟨g3, st2, _, R3, r3, st3, q, fun g4 σ4 H4 le4 R4 _ _ => ⟨g4, st3, R4, ?_⟩⟩
      have h2 := AftC.le (le3.trans le4) h2
      have l14 : g1.le g4 := le2.trans (le3.trans le4)
      cases q2 : fb st3 with
      | nx st5 => rw [q2] at h2; exact fun g5 σ5 H5 le5 R5 => ⟨g5, st5, l14.trans le5, R5, AftC.le le5 h2⟩
      | ct st5 => rw [q2] at h2; exact fun g5 σ5 H5 le5 R5 => ⟨g5, st5, l14.trans le5, R5, AftC.le le5 h2⟩
      | bk st5 => rw [q2] at h2; exact h2
      | rt s st5 => rw [q2] at h2; cases s <;> exact h2
      | exc e st5 => rw [q2] at h2; exact h2
      | bad => rw [q2] at h2; exact h2
  · have ei : i = items.length := by omega
    subst ei
    rw [List.drop_length] at h2
    exact .inl ⟨wstop, h2 g2 σ2 H2 (G.le.refl g2) R2⟩
end
/-! ### while -/
def runW (fc : Bv) (body : Cv) : Nat → Cv
  | 0, _ => .bad
  | n + 1, st => (fc st).fl fun b st1 => if b then match body st1 with
      | .nx st2 => runW fc body n st2
      | .ct st2 => runW fc body n st2
      | .bk st2 => .nx st2
      | x => x
    else .nx st1
theorem runW_succ {fc : Bv} {body : Cv} : ∀ {n : Nat} {st : Stt}, runW fc body n st ≠ .bad → runW fc body (n + 1) st = runW fc body n st
  | 0, st, h => absurd rfl h
  | n + 1, st, h => by
    unfold runW at h ⊢
    cases q : fc st with
    | ok b st1 =>
      rw [q] at h
      simp only [Res.fl_ok] at h ⊢
      cases b with
      | false => rfl
      | true =>
        simp only [if_true] at h ⊢
        cases q2 : body st1 with
        | nx st2 => rw [q2] at h; exact runW_succ h
        | ct st2 => rw [q2] at h; exact runW_succ h
        | bk st2 => rfl
        | rt s st2 => rfl
        | exc e st2 => rfl
        | bad => rfl
    | exc e st1 => rfl
    | bad => rfl
theorem runW_le {fc : Bv} {body : Cv} {n m : Nat} {st : Stt} (h : runW fc body n st ≠ .bad) (l : n ≤ m) : runW fc body m st = runW fc body n st := by
  induction l with
  | refl => rfl
  | step _ ih => rw [runW_succ (by rw [ih]; exact h), ih]
open Classical in
noncomputable def sWhile (fc : Bv) (body : Cv) : Cv := fun st => if h : ∃ n, runW fc body n st ≠ .bad then runW fc body (choose h) st else .bad
theorem sWhile_of {fc : Bv} {body : Cv} {n : Nat} {st : Stt} (h : runW fc body n st ≠ .bad) : sWhile fc body st = runW fc body n st := by
  unfold sWhile
  have hx : ∃ n, runW fc body n st ≠ .bad := ⟨n, h⟩
  rw [dif_pos hx]
  have hc := Classical.choose_spec hx
  rcases Nat.le_total n (Classical.choose hx) with l | l
  · exact runW_le h l
  · exact (runW_le hc l).symm
theorem sWhile_run {fc : Bv} {body : Cv} {st : Stt} (h : sWhile fc body st ≠ .bad) : ∃ n, runW fc body n st = sWhile fc body st := by
  unfold sWhile at h ⊢
  split at h
  · rename_i hx
    rw [dif_pos hx]
    exact ⟨_, rfl⟩
  · exact absurd rfl h
/-- one turn -/
theorem sWhile_eq (fc : Bv) (body : Cv) (st : Stt) : sWhile fc body st = (fc st).fl fun b st1 => if b then match body st1 with
      | .nx st2 => sWhile fc body st2
      | .ct st2 => sWhile fc body st2
      | .bk st2 => .nx st2
      | x => x
    else .nx st1 := by
  by_cases hb : sWhile fc body st = .bad
  · rw [hb]
    cases q : fc st with
    | ok b st1 =>
      simp only [Res.fl_ok]
      have all : ∀ n, runW fc body (n + 1) st = .bad := fun n => by
        cases z : runW fc body (n + 1) st with
        | bad => rfl
        | _ => have := sWhile_of (fc := fc) (body := body) (n := n + 1) (st := st) (by rw [z]; exact fun h => nomatch h); rw [hb, z] at this; cases this
      have a0 := all 0
      unfold runW at a0
      rw [q] at a0
      simp only [Res.fl_ok] at a0
      cases b with
      | false => simp at a0
      | true =>
        simp only [if_true] at a0 ⊢
        have go : ∀ st2, (body st1 = .nx st2 ∨ body st1 = .ct st2) → Fl.bad = sWhile fc body st2 := fun st2 h2 => by
          cases z : sWhile fc body st2 with
          | bad => rfl
          | _ =>
            obtain ⟨n, hn⟩ := sWhile_run (fc := fc) (body := body) (st := st2) (by rw [z]; exact fun h => nomatch h)
            have := all n
            unfold runW at this
            rw [q] at this
            simp only [Res.fl_ok, if_true] at this
            rcases h2 with h2 | h2
            · rw [h2] at this; dsimp only at this; rw [hn, z] at this; cases this
            · rw [h2] at this; dsimp only at this; rw [hn, z] at this; cases this
        cases q2 : body st1 with
        | nx st2 => exact go st2 (.inl q2)
        | ct st2 => exact go st2 (.inr q2)
        | bk st2 => rw [q2] at a0; cases a0
        | rt s st2 => rw [q2] at a0; cases a0
        | exc e st2 => rw [q2] at a0; cases a0
        | bad => rfl
    | exc e st1 =>
      have : runW fc body 1 st = .exc e st1 := by unfold runW; rw [q]; rfl
      have z := sWhile_of (fc := fc) (body := body) (n := 1) (st := st) (by rw [this]; exact fun h => nomatch h)
      rw [hb, this] at z; cases z
    | bad => rfl
  · obtain ⟨n, hn⟩ := sWhile_run hb
    cases n with
    | zero => rw [← hn] at hb; exact absurd rfl hb
    | succ n =>
      have hn0 := hn
      rw [← hn]
      unfold runW
      rw [← hn] at hb
      unfold runW at hb
      cases q : fc st with
      | ok b st1 =>
        rw [q] at hb
        simp only [Res.fl_ok] at hb ⊢
        cases b with
        | false => rfl
        | true =>
          simp only [if_true] at hb ⊢
          cases q2 : body st1 with
          | nx st2 => rw [q2] at hb; exact (sWhile_of hb).symm
          | ct st2 => rw [q2] at hb; exact (sWhile_of hb).symm
          | bk st2 => rfl
          | rt s st2 => rfl
          | exc e st2 => rfl
          | bad => rfl
      | exc e st1 => rfl
      | bad => rfl
section
variable {X : Cx} {at_ : At} {xa : Option Xc} {W : WX} {c : Expr} {body : List Stmt} {fc : Bv} {fb : Cv} {pos : Pos}
theorem ds_while (hp : PassesOwn (model X.prog X.w) X.A X.env X.xe) (hc : PT X c (qB X.K at_ xa W fc)) (hb : PSs X body (qC X.K at_ xa W fb)) : PS X (.While c body [] pos) (qC X.K at_ xa W (sWhile fc fb)) := by
  refine ps_imp (ps_while hp hc hb) fun T σ H hq => ?_
  obtain ⟨g, st, R, h⟩ := hq
  have nb : sWhile fc fb st ≠ .bad := fun z => by rw [z] at h; exact h
  obtain ⟨n, hn⟩ := sWhile_run nb
  rw [← hn] at h
  refine ⟨fun m σ' H' => ∃ g2 st2, g.le g2 ∧ Rel X.K at_ xa g2 st2 σ' H' ∧ AftC X.K at_ xa W g2 T (runW fc fb m st2), ⟨n, g, st, G.le.refl g, R, h⟩, ?_⟩
  rintro m σ2 H2 ⟨g2, st2, le2, R2, h2⟩
  cases m with
  | zero => exact h2.elim
  | succ m =>
    unfold runW at h2
    refine ⟨g2, st2, R2, AftC.fl h2 fun g3 H3 b st3 le3 R3 h3 => ?_⟩
    cases b with
    | false => exact iteF (by simpa using h3 g3 σ2 H3 (G.le.refl g3) R3)
    | true =>
      refine iteT ⟨fun σ' H' => ∃ m', m' < m + 1 ∧ ∃ g2 st2, g.le g2 ∧ Rel X.K at_ xa g2 st2 σ' H' ∧ AftC X.K at_ xa W g2 T (runW fc fb m' st2), fun _ _ z => z, g3, st3, R3, ?_⟩
      simp only [if_true] at h3
      have l3 : g.le g3 := le2.trans le3
      cases q2 : fb st3 with
      | nx st5 => rw [q2] at h3; exact fun g5 σ5 H5 le5 R5 => ⟨m, Nat.lt_succ_self m, g5, st5, l3.trans le5, R5, AftC.le le5 h3⟩
      | ct st5 => rw [q2] at h3; exact fun g5 σ5 H5 le5 R5 => ⟨m, Nat.lt_succ_self m, g5, st5, l3.trans le5, R5, AftC.le le5 h3⟩
      | bk st5 => rw [q2] at h3; exact h3
      | rt s st5 => rw [q2] at h3; cases s <;> exact h3
      | exc e st5 => rw [q2] at h3; exact h3
      | bad => rw [q2] at h3; exact h3
end
end Pl
/-! The pure layer: what is walked; comprehensions. -/
namespace Pl
open PySem L2
/-! ### zip of two texts -/
def ItzS (x y : Str) : It := ⟨fun i _ => i < min x.cps.size y.cps.size, fun i H v H' => ∃ T c d, v = .ref T ∧ H T = none ∧ H' = upd H T (.tup [.str ⟨#[c]⟩, .str ⟨#[d]⟩]) ∧ x.cps[i]? = some c ∧ y.cps[i]? = some d, fun i _ => i = min x.cps.size y.cps.size⟩
def zipSt (z TI TO i1 i2 : Addr) (x y : Str) (t u : Tok) : Nat → Heap → Prop := fun i h => IsZip h z TI TO .none ∧ IsTupOf2 h TI (.ref i1) (.ref i2) ∧ (∃ a1 a2, IsTupOf2 h TO a1 a2) ∧ h.IsStrIter i1 (strIterType x) x t i ∧ h.IsStrIter i2 (strIterType y) y u i
theorem turn_zipS {P : Program} {w : World} {K : PySem.W.Frag} {elts : List Expr} {kk : Nat} {tpos : Pos} {z TI TO i1 i2 : Addr} {x y : Str} {t u : Tok} (S : ZipSep2 z TI TO i1 i2 [i1] [i2]) :
    Turn P w K (.Tuple elts kk tpos) (ItzS x y) [z, TI, TO, i1, i2] z (zipSt z TI TO i1 i2 x y t u) where
  mem := by simp
  obj := fun i h st c hc => by
    obtain ⟨hz, hTI, ⟨a, b, hTO⟩, ⟨o1, e1, _, d1⟩, ⟨o2, e2, _, d2⟩⟩ := st
    have e' : c = z ∨ c = TI ∨ c = TO ∨ c = i1 ∨ c = i2 := by simpa using hc
    rcases e' with q | q | q | q | q
    · rw [q]; exact ⟨_, hz, fun v q => nomatch q⟩
    · rw [q]; exact ⟨_, hTI, fun v q => nomatch q⟩
    · rw [q]; exact ⟨_, hTO, fun v q => nomatch q⟩
    · rw [q]; exact ⟨o1, e1, fun v q => by rw [d1] at q; cases q⟩
    · rw [q]; exact ⟨o2, e2, fun v q => by rw [d2] at q; cases q⟩
  keep := fun i h h' st k => by
    obtain ⟨hz, hTI, ⟨a, b, hTO⟩, h1, h2⟩ := st
    exact ⟨k z (by simp) _ hz, k TI (by simp) _ hTI, ⟨a, b, k TO (by simp) _ hTO⟩, (let ⟨o, e, r⟩ := h1; ⟨o, k i1 (by simp) o e, r⟩), (let ⟨o, e, r⟩ := h2; ⟨o, k i2 (by simp) o e, r⟩)⟩
  item := by
    intro X hP hw hK hc i pins s σ H E I hf st hg
    subst hP hw hK
    have hh : X.A.in1.handled = none := I.ok.hd hc
    have W := GoesN.zip2 (prog := X.prog) (w := X.w) (A := X.A) (elts := elts) (x1 := kk) (pos := tpos) S (Draws.text hh i1 x t) (Draws.text hh i2 y u)
    refine W.goes i s _ E hg st fun v h' tk hy st' k htk => ?_
    obtain ⟨T, v1, v2, rfl, hT, ⟨c, t1, hc1, rfl⟩, ⟨d, t2, hd1, rfl⟩, hI⟩ := hy
    obtain ⟨oT, hoT, hcT, nT, hdT⟩ := hI
    have new : ObjOk X.prog X.w (upd H T (.tup [.str ⟨#[c]⟩, .str ⟨#[d]⟩])) h' T (.tup [.str ⟨#[c]⟩, .str ⟨#[d]⟩]) :=
      ⟨by show 2 ≤ sizeLine; decide, _, .cons ⟨_, rfl⟩ (.cons ⟨_, rfl⟩ .nil), oT, hoT, hcT, nT, hdT⟩
    have I1 := I.turnedNew (t' := tk) (ch := [z, TI, TO, i1, i2]) (fun c o hb q => k c o (fun hm => hb (by
      have hm' : c = z ∨ c = TO ∨ c = i1 ∨ c = i2 := by simpa using hm
      rcases hm' with q | q | q | q <;> simp [q])) q) hf hT new
    refine ⟨.ref T, _, I1, rfl, ⟨T, c, d, rfl, I.hok.fresh hT, rfl, hc1, hd1⟩, st', fun c hcm => ?_⟩
    have hlt : c < s.heap.objs.size := by
      obtain ⟨hz, hTI, ⟨a, b, hTO⟩, ⟨o1, e1, _⟩, ⟨o2, e2, _⟩⟩ := st
      have e' : c = z ∨ c = TI ∨ c = TO ∨ c = i1 ∨ c = i2 := by simpa using hcm
      rcases e' with q | q | q | q | q
      · rw [q]; exact Heap.lt_size hz
      · rw [q]; exact Heap.lt_size hTI
      · rw [q]; exact Heap.lt_size hTO
      · rw [q]; exact Heap.lt_size e1
      · rw [q]; exact Heap.lt_size e2
    rw [upd_ne (Nat.ne_of_lt (Nat.lt_of_lt_of_le hlt hT))]
    exact (hf c hcm).1
  done := by
    intro X hP hw hK hc i pins s σ H E I hf st hg
    subst hP hw hK
    have hh : X.A.in1.handled = none := I.ok.hd hc
    have W := GoesN.zip2 (prog := X.prog) (w := X.w) (A := X.A) (elts := elts) (x1 := kk) (pos := tpos) S (Draws.text hh i1 x t) (Draws.text hh i2 y u)
    have hg' : i = min x.cps.size y.cps.size := hg
    subst hg'
    refine W.stops s _ E st fun h' tk k htk => I.turnedL (t' := tk) (ch := [z, TI, TO, i1, i2]) (fun c o hb q => k c o (fun hm => hb (by
      have hm' : c = z ∨ c = TO ∨ c = i1 ∨ c = i2 := by simpa using hm
      rcases hm' with q | q | q | q <;> simp [q])) q) hf
  self := fun A i s Q E st h => wpAny_pyIter_zip st.1 h
def iZipS (ta : TA) : TI := fun σ H R => ta σ H fun vs H1 => ∃ x y, vs = [.str x, .str y] ∧ R (ItzS x y) H1
theorem pi_zipS {X : Cx} {e e2 : Expr} {ta : TA} {p pos tpos : Pos} {elts : List Expr} {kk : Nat} (hg : Gl X "zip") (hm : X.mg "zip" = none) (ha : PA X [e, e2] ta)
    (hs : starEach [e, e2] X.env = (false, eval e X.env) :: starEach [e2] X.env := by rfl) (hpl : (backTo pos (starEach [e2] X.env)).any (·.1) = false := by rfl) :
    PI X (.Tuple elts kk tpos) (.Call (.Name "zip" p) [e, e2] [] pos) (iZipS ta) := by
  refine ⟨fun pins s σ H R I h => ?_⟩
  refine PyProof.Rows.Call_ (ld_blt I hg hm PyProof.Rows.boot_zip (PyProof.Rows.callWith_type1 (thn (ha.run pos pins s σ H _ I h) fun us s1 ⟨vs, H1, I1, r1, q1⟩ => ?_) hs hpl))
  obtain ⟨x, y, ex, q⟩ := q1
  subst ex
  obtain ⟨u1, u2, rfl, ⟨t, rfl⟩, ⟨u, rfl⟩⟩ := Vals.two r1
  refine zip_begins2 (begins_text x t) (begins_text y u) trivial trivial fun h' hz hTI hTO h1 h2 hsz hk => wpAny_pyIter_zip hz ?_
  have I2 : Inv X pins σ H1 { s1 with heap := h' } := I1.kept (t' := s1.toks) hk
  have nofp : ∀ c ∈ ([] : List Addr), c < s1.heap.objs.size := fun c hc => by simp at hc
  refine ⟨s1.heap.objs.size + 4, [s1.heap.objs.size + 4, s1.heap.objs.size + 2, s1.heap.objs.size + 3, s1.heap.objs.size, s1.heap.objs.size + 1], _, _, H1, rfl, I2, turn_zipS (t := t) (u := u) (zip_sep2 nofp nofp), ⟨hz, hTI, ⟨_, _, hTO⟩, ⟨_, h1, rfl, rfl⟩, ⟨_, h2, rfl, rfl⟩⟩, fun c hcm => ?_, q⟩
  have e' : c = s1.heap.objs.size + 4 ∨ c = s1.heap.objs.size + 2 ∨ c = s1.heap.objs.size + 3 ∨ c = s1.heap.objs.size ∨ c = s1.heap.objs.size + 1 := by simpa using hcm
  have hle : s1.heap.objs.size ≤ c := by
    rcases e' with z | z | z | z | z
    · rw [z]; exact Nat.le_add_right _ _
    · rw [z]; exact Nat.le_add_right _ _
    · rw [z]; exact Nat.le_add_right _ _
    · rw [z]; exact Nat.le_refl _
    · rw [z]; exact Nat.le_add_right _ _
  exact I1.fpOk hle (I1.hok.fresh hle)
end Pl
/-! The pure layer: what is walked (by data); comprehensions. -/
namespace Pl
open PySem L2
def signsD (z : Str) : List D := z.cps.toList.map fun c => .str ⟨#[c]⟩
def itemsD : D → Option (List D)
  | .lst ds => some ds
  | .lck ds => some ds
  | .tup ds => some ds
  | .str z => some (signsD z)
  | _ => none
def rangeD (lo : Int) (n : Nat) : List D := (List.range n).map fun (k : Nat) => .int (lo + (k : Int))
def rangeC (lo c : Int) (n : Nat) : List D := (List.range n).map fun (k : Nat) => .int (lo + (k : Int) * c)
def aSeq (fa : Ev) : Av := fun st => (fa st).bind fun d st1 => lift (itemsD d) st1
def okR (j : Int) : Bool := decide (-(2 ^ 62) ≤ j ∧ j < 2 ^ 62)
def rng1 : List D → Option (List D)
  | [.int j] => if okR j then some (rangeD 0 j.toNat) else none
  | _ => none
def rng2 : List D → Option (List D)
  | [.int i, .int j] => if okR i ∧ okR j then some (rangeD i (j - i).toNat) else none
  | _ => none
def rng3 : List D → Option (List D)
  | [.int i, .int j, .int c] => if c ≠ 0 ∧ c.natAbs < 1073741824 ∧ Builtin.Range.small i j c = true then some (rangeC i c (Builtin.Range.rangeSize i j c).toNat) else none
  | _ => none
def pairsD (xs ys : List D) : List D := (xs.zip ys).map fun p => .tup [p.1, p.2]
def lstD : D → Option (List D)
  | .lst ds => some ds
  | .lck ds => some ds
  | _ => none
def enumD : List D → Option (List D)
  | [d] => (lstD d).map fun ds => pairsD (rangeD 0 ds.length) ds
  | _ => none
def zipD : List D → Option (List D)
  | [.str x, .str y] => some (pairsD (signsD x) (signsD y))
  | [x, y] => match lstD x, lstD y with
    | some ds, some es => some (pairsD ds es)
    | _, _ => none
  | _ => none
def revD : D → Option (List D)
  | .lst ds => some ds.reverse
  | .lck ds => some ds.reverse
  | .tup ds => some ds.reverse
  | _ => none
def aOn (k : List D → Option (List D)) (fr : Av) : Av := fun st => (fr st).bind fun ds st1 => lift (k ds) st1
def aOn1 (k : D → Option (List D)) (fa : Ev) : Av := fun st => (fa st).bind fun d st1 => lift (k d) st1
section
variable {K : PySem.W.Frag} {at_ : At} {F : Hp} {m : List Addr}
theorem walk_seqL {a : Addr} {vs : List V} {ds : List D} (q : SqL K F a vs) (r : Reps K at_ F m ds vs) : WalksP K at_ F m ds (Itl K a) := by
  intro g st σ H xb hF hm R
  have q' : SqL K H a vs := SqL.le q fun b o e => (R.sub b o (hF b o e)).1
  refine ⟨⟨vs, q', by rw [r.length]; exact Nat.le_refl _⟩, fun i d hd => ?_⟩
  obtain ⟨v, e1, e2⟩ := r.get hd
  refine ⟨⟨vs, v, q', e1⟩, fun x H' y => ?_⟩
  obtain ⟨rfl, y⟩ := y
  have := y vs q'
  rw [e1] at this; cases this
  exact ⟨g, G.le.refl g, R, Rep.le hF hm _ _ e2⟩
theorem walk_seqT {a : Addr} {vs : List V} {ds : List D} (q : SqT K F a vs) (r : Reps K at_ F m ds vs) : WalksP K at_ F m ds (Itt K a) := by
  intro g st σ H xb hF hm R
  have q' : SqT K H a vs := SqT.le q fun b o e => (R.sub b o (hF b o e)).1
  refine ⟨⟨vs, q', by rw [r.length]; exact Nat.le_refl _⟩, fun i d hd => ?_⟩
  obtain ⟨v, e1, e2⟩ := r.get hd
  refine ⟨⟨vs, v, q', e1⟩, fun x H' y => ?_⟩
  obtain ⟨rfl, y⟩ := y
  have := y vs q'
  rw [e1] at this; cases this
  exact ⟨g, G.le.refl g, R, Rep.le hF hm _ _ e2⟩
theorem signsD_get {z : Str} {i : Nat} {d : D} (h : (signsD z)[i]? = some d) : ∃ c, z.cps[i]? = some c ∧ d = .str ⟨#[c]⟩ := by
  unfold signsD at h
  rw [List.getElem?_map] at h
  cases q : z.cps.toList[i]? with
  | none => rw [q] at h; cases h
  | some c => rw [q] at h; cases h; exact ⟨c, by simpa using q, rfl⟩
theorem walk_str (z : Str) : WalksP K at_ F m (signsD z) (Its z) := by
  intro g st σ H xb hF hm R
  refine ⟨by show z.cps.size ≤ (signsD z).length; simp [signsD], fun i d hd => ?_⟩
  obtain ⟨c, hc, rfl⟩ := signsD_get hd
  refine ⟨by show i < z.cps.size; exact (Array.getElem?_eq_some_iff.mp hc).1, fun x H' y => ?_⟩
  obtain ⟨rfl, c', hc', rfl⟩ := y
  rw [hc] at hc'; cases hc'
  exact ⟨g, G.le.refl g, R, repstr⟩
theorem walk_rng (lo : Int) (n : Nat) : WalksP K at_ F m (rangeD lo n) (Itr lo n) := by
  intro g st σ H xb hF hm R
  refine ⟨by show n ≤ (rangeD lo n).length; simp [rangeD], fun i d hd => ?_⟩
  unfold rangeD at hd
  rw [List.getElem?_map] at hd
  have hi : i < n := by
    cases q : (List.range n)[i]? with
    | none => rw [q] at hd; cases hd
    | some k => have := (List.getElem?_eq_some_iff.mp q).1; simpa using this
  have hk : (List.range n)[i]? = some i := by simp [hi]
  rw [hk] at hd
  cases hd
  refine ⟨hi, fun x H' y => ?_⟩
  obtain ⟨rfl, rfl⟩ := y
  exact ⟨g, G.le.refl g, R, repint⟩
theorem walk_rngC (lo c : Int) (n : Nat) : WalksP K at_ F m (rangeC lo c n) (Itc lo c n) := by
  intro g st σ H xb hF hm R
  refine ⟨by show n ≤ (rangeC lo c n).length; simp [rangeC], fun i d hd => ?_⟩
  unfold rangeC at hd
  rw [List.getElem?_map] at hd
  have hi : i < n := by
    cases q : (List.range n)[i]? with
    | none => rw [q] at hd; cases hd
    | some k => have := (List.getElem?_eq_some_iff.mp q).1; simpa using this
  have hk : (List.range n)[i]? = some i := by simp [hi]
  rw [hk] at hd
  cases hd
  refine ⟨hi, fun x H' y => ?_⟩
  obtain ⟨rfl, rfl⟩ := y
  exact ⟨g, G.le.refl g, R, repint⟩
theorem pairsD_get {xs ys : List D} {i : Nat} {d : D} (h : (pairsD xs ys)[i]? = some d) : ∃ x y, xs[i]? = some x ∧ ys[i]? = some y ∧ d = .tup [x, y] := by
  unfold pairsD at h
  rw [List.getElem?_map] at h
  cases q : (xs.zip ys)[i]? with
  | none => rw [q] at h; cases h
  | some p =>
    rw [q] at h; cases h
    rw [List.getElem?_zip_eq_some] at q
    exact ⟨p.1, p.2, q.1, q.2, rfl⟩
theorem icePair {xb : Option Xc} {g : G} {st : Stt} {σ : St} {H : Hp} (R : Rel K at_ xb g st σ H) {T : Addr} {x y : V} {d e : D} (hT : H T = none) (rx : Rep K at_ g.F g.m d x) (ry : Rep K at_ g.F g.m e y) :
    ∃ g', g.le g' ∧ Rel K at_ xb g' st σ (upd H T (.tup [x, y])) ∧ Rep K at_ g'.F g'.m (.tup [d, e]) (.ref T) := by
  have le : g.le (g.ice T (.tup [x, y])) := G.ice_le (R.fnone hT)
  refine ⟨_, le, R.ice hT _, ?_⟩
  unfold Rep
  exact ⟨T, _, rfl, SqT.of upd_same, Reps.leG le (Reps.cons rx (Reps.cons ry Reps.nil))⟩
theorem walk_zip {a b : Addr} {vs ws : List V} {ds es : List D} (q : SqL K F a vs) (r : Reps K at_ F m ds vs) (q2 : SqL K F b ws) (r2 : Reps K at_ F m es ws) : WalksP K at_ F m (pairsD ds es) (Itz K a b) := by
  intro g st σ H xb hF hm R
  have q' : SqL K H a vs := SqL.le q fun b o e => (R.sub b o (hF b o e)).1
  have q2' : SqL K H b ws := SqL.le q2 fun b o e => (R.sub b o (hF b o e)).1
  refine ⟨⟨vs, ws, q', q2', ?_⟩, fun i d hd => ?_⟩
  · have : (pairsD ds es).length = min ds.length es.length := by simp [pairsD]
    rw [this, r.length, r2.length]; omega
  obtain ⟨x, y, hx, hy, rfl⟩ := pairsD_get hd
  obtain ⟨v, e1, e2⟩ := r.get hx
  obtain ⟨w, f1, f2⟩ := r2.get hy
  refine ⟨⟨vs, ws, v, w, q', q2', e1, f1⟩, fun u H' yy => ?_⟩
  obtain ⟨T, x', y', rfl, hT, rfl, z1, z2⟩ := yy
  have := z1 vs q'; rw [e1] at this; cases this
  have := z2 ws q2'; rw [f1] at this; cases this
  exact icePair R hT (Rep.le hF hm _ _ e2) (Rep.le hF hm _ _ f2)
theorem walk_enum {a : Addr} {vs : List V} {ds : List D} (q : SqL K F a vs) (r : Reps K at_ F m ds vs) : WalksP K at_ F m (pairsD (rangeD 0 ds.length) ds) (Ite K a) := by
  intro g st σ H xb hF hm R
  have q' : SqL K H a vs := SqL.le q fun b o e => (R.sub b o (hF b o e)).1
  refine ⟨⟨vs, q', ?_⟩, fun i d hd => ?_⟩
  · have : (pairsD (rangeD 0 ds.length) ds).length = ds.length := by simp [pairsD, rangeD]
    rw [this, r.length]; exact Nat.le_refl _
  obtain ⟨x, y, hx, hy, rfl⟩ := pairsD_get hd
  obtain ⟨w, f1, f2⟩ := r.get hy
  refine ⟨⟨vs, w, q', f1⟩, fun u H' yy => ?_⟩
  obtain ⟨T, y', rfl, hT, rfl, z2⟩ := yy
  have := z2 vs q'; rw [f1] at this; cases this
  have hx' : x = .int (i : Nat) := by
    unfold rangeD at hx
    rw [List.getElem?_map] at hx
    have hi : i < ds.length := (List.getElem?_eq_some_iff.mp hy).1
    rw [show (List.range ds.length)[i]? = some i by simp [hi]] at hx
    cases hx; simp
  subst hx'
  exact icePair R hT repint (Rep.le hF hm _ _ f2)
theorem walk_zipS (x y : Str) : WalksP K at_ F m (pairsD (signsD x) (signsD y)) (ItzS x y) := by
  intro g st σ H xb hF hm R
  refine ⟨by show (pairsD (signsD x) (signsD y)).length = min x.cps.size y.cps.size; simp [pairsD, signsD], fun i d hd => ?_⟩
  obtain ⟨dx, dy, hx, hy, rfl⟩ := pairsD_get hd
  obtain ⟨c, hc, rfl⟩ := signsD_get hx
  obtain ⟨c2, hc2, rfl⟩ := signsD_get hy
  refine ⟨by
    have h1 := (Array.getElem?_eq_some_iff.mp hc).1
    have h2 := (Array.getElem?_eq_some_iff.mp hc2).1
    show i < min x.cps.size y.cps.size
    omega, fun u H' yy => ?_⟩
  obtain ⟨T, d1, d2, rfl, hT, rfl, z1, z2⟩ := yy
  rw [hc] at z1; cases z1
  rw [hc2] at z2; cases z2
  exact icePair R hT repstr repstr
theorem rev_get {α : Type} {xs : List α} {i : Nat} {x : α} (h : xs.reverse[i]? = some x) : i < xs.length ∧ xs[xs.length - 1 - i]? = some x := by
  have hi : i < xs.length := by
    have := (List.getElem?_eq_some_iff.mp h).1
    simpa using this
  rw [List.getElem?_reverse hi] at h
  exact ⟨hi, h⟩
theorem walk_revL {a : Addr} {vs : List V} {ds : List D} (q : SqL K F a vs) (r : Reps K at_ F m ds vs) : WalksP K at_ F m ds.reverse (Itv K a vs.length) := by
  intro g st σ H xb hF hm R
  have q' : SqL K H a vs := SqL.le q fun b o e => (R.sub b o (hF b o e)).1
  refine ⟨by show vs.length ≤ ds.reverse.length; rw [r.length]; simp, fun i d hd => ?_⟩
  obtain ⟨hi, hd⟩ := rev_get hd
  obtain ⟨v, e1, e2⟩ := r.get hd
  rw [← r.length] at e1 hi
  refine ⟨⟨hi, vs, v, q', e1⟩, fun x H' y => ?_⟩
  obtain ⟨rfl, y⟩ := y
  have := y vs q'
  rw [e1] at this; cases this
  exact ⟨g, G.le.refl g, R, Rep.le hF hm _ _ e2⟩
end
section
variable {X : Cx} {at_ : At} {xa : Option Xc} {W : WX} {tg e a b c : Expr} {es : List Expr} {fa : Ev} {fr : Av} {p pos : Pos}
theorem pi_imp {w w' : TI} (h : PI X tg e w) (k : ∀ σ H R, w' σ H R → w σ H R) : PI X tg e w' := ⟨fun pins s σ H R I hw => h.run pins s σ H R I (k σ H R hw)⟩
theorem pi_or {w w' : TI} (h : PI X tg e w) (h' : PI X tg e w') : PI X tg e (fun σ H R => w σ H R ∨ w' σ H R) := ⟨fun pins s σ H R I hw => hw.elim (h.run pins s σ H R I) (h'.run pins s σ H R I)⟩
theorem di_seq (he : PE X e (qE X.K at_ xa W fa)) : PI X tg e (qI X.K at_ xa W (aSeq fa)) := by
  refine pi_imp (pi_or (pi_list he) (pi_or (pi_tup he) (pi_str he))) fun σ H R hq => ?_
  obtain ⟨g, st, Rl, h⟩ := hq
  cases q : fa st with
  | bad => unfold aSeq at h; rw [q] at h; exact h.elim
  | exc x st1 => exact .inl ⟨g, st, Rl, by rw [q]; unfold aSeq at h; rw [q] at h; exact h⟩
  | ok d st1 =>
    have h0 : Aft X.K at_ xa W g σ (PoI X.K at_ R) (lift (itemsD d) st1) := by unfold aSeq at h; rw [q] at h; exact h
    obtain ⟨items, e, h1⟩ := h0.lift
    cases d with
    | lst ds =>
      cases e
      refine .inl ⟨g, st, Rl, ?_⟩
      rw [q]
      intro g' H' le R' v rv
      obtain ⟨a, vs, rfl, q1, r⟩ := rv.l
      exact ⟨a, rfl, ⟨vs, SqL.of (R'.sub _ _ q1).1⟩, h1 g' H' le R' _ (walk_seqL (SqL.of q1) r)⟩
    | lck ds =>
      cases e
      refine .inl ⟨g, st, Rl, ?_⟩
      rw [q]
      intro g' H' le R' v rv
      obtain ⟨a, vs, rfl, q1, r⟩ := rv.k
      exact ⟨a, rfl, ⟨vs, SqL.le q1 fun a o z => (R'.sub a o z).1⟩, h1 g' H' le R' _ (walk_seqL q1 r)⟩
    | tup ds =>
      cases e
      refine .inr (.inl ⟨g, st, Rl, ?_⟩)
      rw [q]
      intro g' H' le R' v rv
      obtain ⟨a, vs, rfl, q1, r⟩ := rv.t
      exact ⟨a, rfl, ⟨vs, SqT.le q1 fun a o z => (R'.sub a o z).1⟩, h1 g' H' le R' _ (walk_seqT q1 r)⟩
    | str z =>
      cases e
      refine .inr (.inr ⟨g, st, Rl, ?_⟩)
      rw [q]
      intro g' H' le R' v rv
      exact ⟨z, rv.s, h1 g' H' le R' _ (walk_str z)⟩
    | _ => cases e
theorem okR_of {j : Int} (h : okR j = true) : -(2 ^ 62) ≤ j ∧ j < 2 ^ 62 := of_decide_eq_true h
theorem di_range1 (hg : Gl X "range") (hm : X.mg "range" = none) (ha : PA X [a] (qA X.K at_ xa W fr)) (hs : starEach [a] X.env = [(false, eval a X.env)] := by rfl) : PI X tg (.Call (.Name "range" p) [a] [] pos) (qI X.K at_ xa W (aOn rng1 fr)) := by
  refine pi_imp (pi_range1 hg hm ha hs) fun σ H R hq => ?_
  obtain ⟨g, st, Rl, h⟩ := hq
  refine ⟨g, st, Rl, h.bind fun g1 H1 ds st1 le1 R1 h1 vs rs => ?_⟩
  obtain ⟨items, e, h2⟩ := h1.lift
  unfold rng1 at e
  split at e
  · split at e
    · rename_i j hj
      cases e
      obtain ⟨v, rfl, q⟩ := rs.one
      obtain ⟨o1, o2⟩ := okR_of hj
      exact ⟨_, by rw [q.i], o1, o2, h2.ok R1 _ (walk_rng 0 _)⟩
    · cases e
  · cases e
theorem di_range2 (hg : Gl X "range") (hm : X.mg "range" = none) (ha : PA X [a, b] (qA X.K at_ xa W fr)) (hs : starEach [a, b] X.env = [(false, eval a X.env), (false, eval b X.env)] := by rfl) (hs2 : starEach [b] X.env = [(false, eval b X.env)] := by rfl) :
    PI X tg (.Call (.Name "range" p) [a, b] [] pos) (qI X.K at_ xa W (aOn rng2 fr)) := by
  refine pi_imp (pi_range2 hg hm ha hs hs2) fun σ H R hq => ?_
  obtain ⟨g, st, Rl, h⟩ := hq
  refine ⟨g, st, Rl, h.bind fun g1 H1 ds st1 le1 R1 h1 vs rs => ?_⟩
  obtain ⟨items, e, h2⟩ := h1.lift
  unfold rng2 at e
  split at e
  · split at e
    · rename_i i j hj
      cases e
      obtain ⟨v, w, rfl, q, q'⟩ := rs.two
      obtain ⟨o1, o2⟩ := okR_of hj.1
      obtain ⟨o3, o4⟩ := okR_of hj.2
      exact ⟨i, j, by rw [q.i, q'.i], ⟨o1, o2, o3, o4⟩, h2.ok R1 _ (walk_rng i _)⟩
    · cases e
  · cases e
theorem lstD_rep {K : PySem.W.Frag} {F : Hp} {m : List Addr} {d : D} {ds : List D} {v : V} (h : lstD d = some ds) (r : Rep K at_ F m d v) : ∃ a vs, v = .ref a ∧ SqL K F a vs ∧ Reps K at_ F m ds vs := by
  cases d with
  | lst es => cases h; obtain ⟨a, vs, rfl, q, r⟩ := r.l; exact ⟨a, vs, rfl, SqL.of q, r⟩
  | lck es => cases h; exact r.k
  | _ => cases h
theorem di_enum {elts : List Expr} {kk : Nat} {tpos : Pos} (hg : Gl X "enumerate") (hm : X.mg "enumerate" = none) (ha : PA X [e] (qA X.K at_ xa W fr)) (hs : starEach [e] X.env = [(false, eval e X.env)] := by rfl) :
    PI X (.Tuple elts kk tpos) (.Call (.Name "enumerate" p) [e] [] pos) (qI X.K at_ xa W (aOn enumD fr)) := by
  refine pi_imp (pi_enum hg hm ha hs) fun σ H R hq => ?_
  obtain ⟨g, st, Rl, h⟩ := hq
  refine ⟨g, st, Rl, h.bind fun g1 H1 ds st1 le1 R1 h1 vs rs => ?_⟩
  obtain ⟨items, e, h2⟩ := h1.lift
  unfold enumD at e
  split at e
  · rename_i d
    cases z : lstD d with
    | none => rw [z] at e; cases e
    | some xs =>
      rw [z] at e; cases e
      obtain ⟨v, rfl, q⟩ := rs.one
      obtain ⟨a, vs, rfl, q1, r⟩ := lstD_rep z q
      exact ⟨a, vs, rfl, SqL.le q1 fun a o z => (R1.sub a o z).1, h2.ok R1 _ (walk_enum q1 r)⟩
  · cases e
theorem di_zip {e2 : Expr} {elts : List Expr} {kk : Nat} {tpos : Pos} (hg : Gl X "zip") (hm : X.mg "zip" = none) (ha : PA X [e, e2] (qA X.K at_ xa W fr)) (hs : starEach [e, e2] X.env = (false, eval e X.env) :: starEach [e2] X.env := by rfl) (hpl : (backTo pos (starEach [e2] X.env)).any (·.1) = false := by rfl) :
    PI X (.Tuple elts kk tpos) (.Call (.Name "zip" p) [e, e2] [] pos) (qI X.K at_ xa W (aOn zipD fr)) := by
  refine pi_imp (pi_or (pi_zip hg hm ha hs hpl) (pi_zipS hg hm ha hs hpl)) fun σ H R hq => ?_
  obtain ⟨g, st, Rl, h⟩ := hq
  cases q : fr st with
  | bad => unfold aOn at h; rw [q] at h; exact h.elim
  | exc x st1 => exact .inl ⟨g, st, Rl, by rw [q]; unfold aOn at h; rw [q] at h; exact h⟩
  | ok xs st1 =>
    have h0 : Aft X.K at_ xa W g σ (PoI X.K at_ R) (lift (zipD xs) st1) := by unfold aOn at h; rw [q] at h; exact h
    obtain ⟨items, e, h1⟩ := h0.lift
    unfold zipD at e
    split at e
    · cases e
      refine .inr ⟨g, st, Rl, ?_⟩
      rw [q]
      intro g' H' le R' vs rs
      obtain ⟨v, w, rfl, q1, q2⟩ := rs.two
      exact ⟨_, _, by rw [q1.s, q2.s], h1 g' H' le R' _ (walk_zipS _ _)⟩
    · split at e
      · rename_i ds es z1 z2
        cases e
        refine .inl ⟨g, st, Rl, ?_⟩
        rw [q]
        intro g' H' le R' vs rs
        obtain ⟨v, w, rfl, q1, q2⟩ := rs.two
        obtain ⟨a, vs, rfl, s1, r1⟩ := lstD_rep z1 q1
        obtain ⟨b, ws, rfl, s2, r2⟩ := lstD_rep z2 q2
        exact ⟨a, b, vs, ws, rfl, SqL.le s1 fun a o z => (R'.sub a o z).1, SqL.le s2 fun a o z => (R'.sub a o z).1, h1 g' H' le R' _ (walk_zip s1 r1 s2 r2)⟩
      · cases e
    · cases e
end
/-! ### comprehensions -/
def wipeR (r : List (Option Slot)) : List Nat → List (Option Slot)
  | [] => r
  | v :: vs => (wipeR r vs).set v none
def backR (r0 r : List (Option Slot)) : List Nat → List (Option Slot)
  | [] => r
  | v :: vs => (backR r0 r vs).set v (match r0[v]? with
    | some (some (.dat d)) => some (.dat d)
    | _ => none)
def Res.noEx {α : Type} : Res α → Res α
  | .exc _ _ => .bad
  | r => r
def wipeS (st : Stt) (vs : List Nat) : Stt := { st with r := wipeR st.r vs }
def compGo (t : Tg) (ft : Bv) (fe : Ev) (vs : List Nat) : List D → List D → Stt → Res (List D)
  | [], acc, st => .ok acc st
  | d :: ds, acc, st => match setT t d st with
    | none => .bad
    | some st1 => match ft st1 with
      | .ok true st2 => match fe st2 with
        | .ok x st3 => if acc.length < line then compGo t ft fe vs ds (acc ++ [x]) (wipeS st3 vs) else .bad
        | _ => .bad
      | .ok false st2 => compGo t ft fe vs ds acc (wipeS st2 vs)
      | _ => .bad
def bYes : Bv := fun st => .ok true st
def eComp (fi : Av) (t : Tg) (ft : Bv) (fe : Ev) (vs : List Nat) : Ev := fun st => (fi st).bind fun ds st1 => (compGo t ft fe vs ds [] (wipeS st1 vs)).bind fun xs st2 => .ok (.lst xs) { st2 with r := backR st1.r st2.r vs }
abbrev W0 : WX := fun _ _ _ _ => False
section
variable {K : PySem.W.Frag} {at_ : At} {xa : Option Xc} {W : WX} {g g' : G} {st : Stt} {σ : St} {H H' : Hp}
theorem Aft.noEx {α : Type} {P : G → Hp → α → Stt → Prop} {r : Res α} (h : Aft K at_ xa W g σ P r.noEx) : Aft K at_ xa W0 g σ P r := by
  cases r with
  | ok a st => exact h
  | exc e st => exact h.elim
  | bad => exact h.elim
theorem wipeR_some {r : List (Option Slot)} {i : Nat} {s : Slot} : ∀ {vs : List Nat}, (wipeR r vs)[i]? = some (some s) → r[i]? = some (some s) ∧ i ∉ vs
  | [], h => ⟨h, by simp⟩
  | v :: vs, h => by
    unfold wipeR at h
    by_cases hi : v = i
    · subst hi
      by_cases hv : v < (wipeR r vs).length
      · rw [List.getElem?_set_self hv] at h; cases h
      · rw [List.getElem?_eq_none (by simpa using hv)] at h; cases h
    · rw [List.getElem?_set_ne hi] at h
      obtain ⟨h1, h2⟩ := wipeR_some h
      exact ⟨h1, by simp only [List.mem_cons, not_or]; exact ⟨fun e => hi e.symm, h2⟩⟩
theorem wipe_out' {σ : St} {i : Nat} : ∀ {vs : List Nat}, i ∉ vs → (wipe σ vs)[i]? = σ[i]?
  | [], _ => rfl
  | v :: vs, h => by
    simp only [List.mem_cons, not_or] at h
    unfold wipe
    rw [List.getElem?_set_ne (fun e => h.1 e.symm)]
    exact wipe_out' h.2
theorem wipe_wipe {σ : St} {vs : List Nat} : L2.wipe (L2.wipe σ vs) vs = L2.wipe σ vs := by
  have : ∀ ws : List Nat, (∀ i ∈ ws, i ∈ vs) → L2.wipe (L2.wipe σ vs) ws = L2.wipe σ vs := by
    intro ws
    induction ws with
    | nil => intro _; rfl
    | cons w ws ih =>
      intro h
      show (L2.wipe (L2.wipe σ vs) ws).set w none = L2.wipe σ vs
      rw [show wipe (wipe σ vs) ws = wipe σ vs from ih fun i hi => h i (List.mem_cons_of_mem _ hi)]
      apply List.ext_getElem?
      intro j
      by_cases hj : w = j
      · subst hj
        have hm : w ∈ vs := h w List.mem_cons_self
        by_cases hl : w < (wipe σ vs).length
        · rw [List.getElem?_set_self hl]
          cases q : (wipe σ vs)[w]? with
          | none => rw [List.getElem?_eq_none_iff] at q; omega
          | some o =>
            cases o with
            | none => rfl
            | some x => exact absurd hm (wipe_some q).2
        · rw [List.getElem?_eq_none (by simpa using hl), List.getElem?_eq_none (by simpa using hl)]
      · rw [List.getElem?_set_ne hj]
  exact this vs fun _ h => h
theorem Rel.wipe (h : Rel K at_ xa g st σ H) (vs : List Nat) : Rel K at_ xa g { st with r := wipeR st.r vs } (wipe σ vs) H := by
  refine ⟨h.pro, h.sub, h.own, fun i s e => ?_, h.store, h.len⟩
  obtain ⟨h1, h2⟩ := wipeR_some (show (wipeR st.r vs)[i]? = some (some s) from e)
  obtain ⟨v, e1, e2⟩ := h.slot i s h1
  exact ⟨v, by rw [wipe_out' h2]; exact e1, e2⟩
theorem backR_some {r0 r : List (Option Slot)} {i : Nat} {s : Slot} : ∀ {vs : List Nat}, (backR r0 r vs)[i]? = some (some s) → (i ∈ vs ∧ ∃ d, s = .dat d ∧ r0[i]? = some (some (.dat d))) ∨ (i ∉ vs ∧ r[i]? = some (some s))
  | [], h => .inr ⟨by simp, h⟩
  | v :: vs, h => by
    unfold backR at h
    by_cases hi : v = i
    · subst hi
      refine .inl ⟨List.mem_cons_self, ?_⟩
      by_cases hv : v < (backR r0 r vs).length
      · rw [List.getElem?_set_self hv] at h
        have h' := Option.some.inj h
        split at h'
        · rename_i d hd
          cases h'
          exact ⟨d, rfl, hd⟩
        · cases h'
      · rw [List.getElem?_eq_none (by simpa using hv)] at h; cases h
    · rw [List.getElem?_set_ne hi] at h
      rcases backR_some h with ⟨m, z⟩ | ⟨m, z⟩
      · exact .inl ⟨List.mem_cons_of_mem _ m, z⟩
      · exact .inr ⟨by simp only [List.mem_cons, not_or]; exact ⟨fun e => hi e.symm, m⟩, z⟩
theorem Rel.unwipe {st0 : Stt} {H0 : Hp} {vs : List Nat} (h0 : Rel K at_ xa g st0 σ H0) (le : g.le g') (h : Rel K at_ xa g' st (L2.wipe σ vs) H) : Rel K at_ xa g' { st with r := backR st0.r st.r vs } σ H := by
  refine ⟨h.pro, h.sub, h.own, fun i s e => ?_, h.store, h.len⟩
  rcases backR_some (show (backR st0.r st.r vs)[i]? = some (some s) from e) with ⟨m, d, rfl, z⟩ | ⟨m, z⟩
  · obtain ⟨v, e1, e2⟩ := h0.slot i _ z
    exact ⟨v, e1, Rep.leG le e2⟩
  · obtain ⟨v, e1, e2⟩ := h.slot i s z
    exact ⟨v, by rw [wipe_out' m] at e1; exact e1, e2⟩
/-- the list that is being made is held -/
abbrev G.hold (g : G) (p : Addr) (o : HO) : G := { g with P := upd g.P p o }
theorem Rel.hold (h : Rel K at_ xa g st σ H) {p : Addr} {o : HO} (hp : H p = some o) (hF : g.F p = none) (ho : g.o p = none) : Rel K at_ xa (g.hold p o) st σ H := by
  refine ⟨fun a u e => ?_, h.sub, h.own, fun i s e => ?_, fun i u e => ObjRep.to (g := g) (H := H) (fun _ _ e => e) (fun _ _ e => e) (fun a w _ e => ⟨e, rfl⟩) (h.store i u e), h.len⟩
  · have e' : upd g.P p o a = some u := e
    by_cases ha : a = p
    · subst ha
      rw [upd_same] at e'; cases e'
      exact ⟨hp, hF, ho⟩
    · rw [upd_ne ha] at e'
      exact h.pro a u e'
  · obtain ⟨v, e1, e2⟩ := h.slot i s e
    exact ⟨v, e1, SlotRep.to (g := g) (H := H) (fun _ _ e => e) (fun _ _ e => e) (fun a e => ⟨e, rfl⟩) e2⟩
abbrev G.unhold (g : G) (P : Hp) : G := { g with P := P }
/-- .. no longer: p is changed -/
theorem Rel.unhold {P : Hp} {p : Addr} {o u : HO} (h : Rel K at_ xa g st σ H) (hP : g.P = upd P p o) (hp : P p = none) : Rel K at_ xa (g.unhold P) st σ (upd H p u) ∧ (g.unhold P).F p = none ∧ (g.unhold P).o p = none ∧ H p = some o := by
  have e0 : g.P p = some o := by rw [hP, upd_same]
  obtain ⟨z1, z2, z3⟩ := h.pro p o e0
  have own : ∀ a w, g.o a = some w → upd H p u a = H a := fun a w e => by
    have : a ≠ p := fun q => by subst q; rw [z3] at e; cases e
    rw [upd_ne this]
  refine ⟨⟨fun a v e => ?_, fun a v e => ?_, fun a w e => ?_, fun i s e => ?_, fun i v e => ObjRep.to (g := g) (H := H) (fun _ _ e => e) (fun _ _ e => e) (fun a w _ e => ⟨e, own a w e⟩) (h.store i v e), h.len⟩, z2, z3, z1⟩
  · have ha : a ≠ p := fun q => by subst q; rw [show P a = some v from e] at hp; cases hp
    have : g.P a = some v := by rw [hP, upd_ne ha]; exact e
    obtain ⟨y1, y2, y3⟩ := h.pro a v this
    exact ⟨by rw [upd_ne ha]; exact y1, y2, y3⟩
  · obtain ⟨y1, y2⟩ := h.sub a v e
    have ha : a ≠ p := fun q => by subst q; rw [show g.F a = some v from e] at z2; cases z2
    exact ⟨by rw [upd_ne ha]; exact y1, y2⟩
  · obtain ⟨v, y⟩ := h.own a w e
    exact ⟨v, by rw [own a w e]; exact y⟩
  · obtain ⟨v, e1, e2⟩ := h.slot i s e
    exact ⟨v, e1, SlotRep.to (g := g) (H := H) (fun _ _ e => e) (fun _ _ e => e) (fun a e => ⟨e, own a _ e⟩) e2⟩
end
section
variable {X : Cx} {at_ : At} {xa : Option Xc} {W : WX} {elt tg iter : Expr} {ifs : List Expr} {scope : Scope} {own : List (Str × Nat)} {fi : Av} {t : Tg} {ft : Bv} {fe : Ev} {pos : Pos}
/-- what the comprehension's reading comes to -/
theorem of_eComp {vs : List Nat} {σ : St} {H : Hp} {Q : VK} (hv : ∀ i ∈ t.all, i ∈ vs) (h : qO X.K at_ xa W (eComp fi t ft fe vs) σ H Q) :
    tLc (qI X.K at_ xa W fi) (qG X.K at_ xa t) (qB X.K at_ xa W0 ft) (qE X.K at_ xa W0 fe) vs σ H Q := by
  obtain ⟨g, st, R, h⟩ := h
  refine ⟨g, st, R, h.bind fun g1 H1 items st1 le1 R1 h1 J wk D hD => ?_⟩
  have F1 := R1.fnone hD
  have P1 := R1.pnone hD
  have o1 := R1.onone hD
  let fin : List Pl.D → Stt → Res Pl.D := fun xs st3 => .ok (.lst xs) { st3 with r := backR st1.r st3.r vs }
  let N : Nat → Hp → Prop := fun i H' => ∃ g2 st2 acc vs', g1.le g2 ∧ Rel X.K at_ xa g2 st2 (wipe σ vs) H' ∧ H' D = some (.lst vs') ∧ Reps X.K at_ g2.F g2.m acc vs' ∧ g2.F D = none ∧ g2.o D = none ∧ g2.P D = none ∧
    Aft X.K at_ xa W g2 σ (PoO X.K at_ Q) ((compGo t ft fe vs (items.drop i) acc st2).bind fin)
  refine ⟨fun i m H' => i + m = items.length ∧ N i H', ⟨items.length, by simp, g1, wipeS st1 vs, [], [], G.le.refl g1, (R1.new hD _).wipe vs, upd_same, Reps.nil, F1, o1, P1, h1⟩, ?_⟩
  rintro i m H2 ⟨em, g2, st2, acc, vs', le2, R2, hv2, ra, F2, o2, P2, h2⟩
  by_cases hlt : i < items.length
  · have hd : items[i]? = some items[i] := by simp [hlt]
    rw [List.drop_eq_getElem_cons hlt] at h2
    have Rh := R2.hold hv2 F2 o2
    obtain ⟨_, wgo⟩ := wk (g2.hold D (.lst vs')) st2 (wipe σ vs) H2 xa le2.F (fun _ _ e => le2.get e) Rh
    obtain ⟨w1, w2⟩ := wgo i _ hd
    refine .inr ⟨w1, N (i + 1), fun H' z => ⟨m - 1, by omega, by omega, z⟩, fun x H3 y => ?_⟩
    obtain ⟨g3, le3, R3, r3⟩ := w2 x H3 y
    unfold compGo at h2
    cases q : setT t items[i] st2 with
    | none => rw [q] at h2; exact h2.elim
    | some st3 =>
      rw [q] at h2
      dsimp only at h2
      refine ⟨g3, st2, _, R3, r3, st3, q, fun g4 σ4 H4 le4 R4 _ wp => ?_⟩
      have ew : wipe σ4 vs = wipe σ vs := (wp vs hv).trans wipe_wipe
      refine ⟨ew, g4, st3, R4, ?_⟩
      cases q2 : ft st3 with
      | bad => rw [q2] at h2; exact h2.elim
      | exc e st5 => rw [q2] at h2; exact h2.elim
      | ok b st5 =>
        rw [q2] at h2
        intro g5 H5 le5 R5
        have eP : g5.P = upd g2.P D (.lst vs') := ((le3.trans le4).trans le5).P
        have l25F : ∀ a o, g2.F a = some o → g5.F a = some o := ((le3.trans le4).trans le5).F
        have l25m := ((le3.trans le4).trans le5).m
        cases b with
        | false =>
          refine iteF ?_
          obtain ⟨Ru, z1, z2, z3⟩ := (R5.wipe vs).unhold (u := .lst vs') eP P2
          have eH : upd H5 D (.lst vs') = H5 := by
            funext a
            by_cases ha : a = D
            · subst ha; rw [upd_same, z3]
            · rw [upd_ne ha]
          rw [eH, ew] at Ru
          have lu : g2.le (g5.unhold g2.P) := ⟨rfl, l25F, l25m⟩
          exact ⟨g5.unhold g2.P, wipeS st5 vs, acc, vs', le2.trans lu, Ru, z3, Reps.leG lu ra, z1, z2, P2, Aft.le lu h2⟩
        | true =>
          refine iteT ⟨g5, st5, R5, ?_⟩
          dsimp only at h2
          cases q3 : fe st5 with
          | bad => rw [q3] at h2; exact h2.elim
          | exc e st6 => rw [q3] at h2; exact h2.elim
          | ok z st6 =>
            rw [q3] at h2
            intro g6 H6 le6 R6 w rw
            have eP6 : g6.P = upd g2.P D (.lst vs') := le6.P.trans eP
            dsimp only at h2
            split at h2
            · rename_i hl
              obtain ⟨Ru, z1, z2, z3⟩ := (R6.wipe vs).unhold (u := .lst (vs' ++ [w])) eP6 P2
              rw [ew] at Ru
              have lu : g2.le (g6.unhold g2.P) := ⟨rfl, fun a o e => le6.F _ _ (l25F _ _ e), by
                obtain ⟨l1, e1⟩ := l25m
                obtain ⟨l2, e2⟩ := le6.m
                exact ⟨l1 ++ l2, by show g6.m = _; rw [e2, e1, List.append_assoc]⟩⟩
              refine ⟨vs', z3, by rw [ra.length]; exact Nat.lt_of_lt_of_le hl (by unfold line; rw [PySem.sizeLine_eq]; omega), ?_⟩
              exact ⟨g6.unhold g2.P, wipeS st6 vs, acc ++ [z], vs' ++ [w], le2.trans lu, Ru, upd_same, (Reps.leG lu ra).append (Reps.cons rw Reps.nil), z1, z2, P2, Aft.le lu h2⟩
            · exact h2.elim
  · have ei : i = items.length := by omega
    subst ei
    rw [List.drop_length] at h2
    obtain ⟨wstop, _⟩ := wk g2 st2 (wipe σ vs) H2 xa le2.F (fun _ _ e => le2.get e) R2
    have Rb := R1.unwipe le2 R2
    exact .inl ⟨wstop, h2 g2 H2 (G.le.refl g2) Rb D ⟨vs', hv2, ra⟩ F2 P2 o2⟩
variable {r : TE}
theorem dts_nil : PTs X [] (qB X.K at_ xa W bYes) := ⟨fun pins s σ H Q I hq => by
  obtain ⟨g, st, R, h⟩ := hq
  exact pts_nil.run pins s σ H Q I (Aft.ok (a := true) h R)⟩
theorem dts_one {c : Expr} {f : Bv} (h : PT X c (qB X.K at_ xa W f)) : PTs X [c] (qB X.K at_ xa W f) := pts_one h
theorem do_lc (hc : X.calm = true) (hN : X.N.Nodup) (hi : PI X tg iter (qI X.K at_ xa W fi)) (ok : BlkOk X.N X.env.scope scope own) (hv : ∀ i ∈ t.all, i ∈ own.map (·.2))
    (hg : ∀ (s : Shared) (H : Hp) (C : Addr) (cl : List (Str × Addr)) (fp : List Addr), PG (X.blk s H scope (compEnvC scope cl C X.env) fp) tg (qG X.K at_ xa t)) (ht : ∀ (s : Shared) (H : Hp) (C : Addr) (cl : List (Str × Addr)) (fp : List Addr), PTs (X.blk s H scope (compEnvC scope cl C X.env) fp) ifs (qB X.K at_ xa W0 ft))
    (he : ∀ (s : Shared) (H : Hp) (C : Addr) (cl : List (Str × Addr)) (fp : List Addr), PE (X.blk s H scope (compEnvC scope cl C X.env) fp) elt (qE X.K at_ xa W0 fe)) (hs : ∀ x, foldedSetIterable iter X.env x = pure x := by intro _; rfl) :
    PE X (.ListComp elt [⟨tg, iter, ifs, 0⟩] scope pos) (qO X.K at_ xa W (eComp fi t ft fe (own.map (·.2)))) := pe_imp (pe_lc hc hN hi ok hg ht he hs) fun _ _ _ => of_eComp hv
/-- name = [..]: kept as its own (o), as data (d), or in the store (n) -/
theorem ds_setLc {i : Nat} {y : Str} {py spos : Pos} {f : Ev → Cv} (hf : ∀ fa T σ H, i < σ.length → qC X.K at_ xa W (f fa) T σ H → qO X.K at_ xa W fa σ H fun x H1 => gName i x σ H1 T.nx)
    (hc : X.calm = true) (hN : X.N.Nodup) (hy : X.N[i]? = some y) (hyl : X.env.scope.names.lookup y = some .local)
    (hsw : swapsWith (.ListComp elt [⟨tg, iter, ifs, 0⟩] scope pos) (some (.Name y py)) spos.line X.env = pure true) (hi : PI X tg iter (qI X.K at_ xa W fi)) (ok : BlkOk X.N X.env.scope scope own) (hv : ∀ i ∈ t.all, i ∈ own.map (·.2))
    (hg : ∀ (s : Shared) (H : Hp) (C : Addr) (cl : List (Str × Addr)) (fp : List Addr), PG (X.blk s H scope (compEnvC scope cl C X.env) fp) tg (qG X.K at_ xa t)) (ht : ∀ (s : Shared) (H : Hp) (C : Addr) (cl : List (Str × Addr)) (fp : List Addr), PTs (X.blk s H scope (compEnvC scope cl C X.env) fp) ifs (qB X.K at_ xa W0 ft))
    (he : ∀ (s : Shared) (H : Hp) (C : Addr) (cl : List (Str × Addr)) (fp : List Addr), PE (X.blk s H scope (compEnvC scope cl C X.env) fp) elt (qE X.K at_ xa W0 fe)) (hs : ∀ x, foldedSetIterable iter X.env x = pure x := by intro _; rfl) :
    PS X (.Assign [.Name y py] (.ListComp elt [⟨tg, iter, ifs, 0⟩] scope pos) spos) (qC X.K at_ xa W (f (eComp fi t ft fe (own.map (·.2))))) := by
  refine ps_imp' (ps_setLc hc hN hy hyl hsw hi ok hg ht he hs) fun T σ H hl hq => ?_
  have hi' : i < σ.length := by rw [hl]; exact (List.getElem?_eq_some_iff.mp hy).1
  exact of_eComp hv (hf _ T σ H hi' hq)
theorem lc_own {i : Nat} : ∀ fa T σ H, i < σ.length → qC X.K at_ xa W (sSetO i fa) T σ H → qO X.K at_ xa W fa σ H fun x H1 => gName i x σ H1 T.nx := fun fa T σ H hi' hq => by
  obtain ⟨g, st, R, h⟩ := hq
  refine ⟨g, st, R, AftC.fl h fun g1 H1 x st1 le1 R1 h1 a c hF hP ho => ?_⟩
  obtain ⟨le2, R2⟩ := R1.setOwn hi' c hF hP ho
  exact h1 _ _ H1 le2 R2
theorem lc_dat {i : Nat} : ∀ fa T σ H, i < σ.length → qC X.K at_ xa W (sSet i fa) T σ H → qO X.K at_ xa W fa σ H fun x H1 => gName i x σ H1 T.nx := fun fa T σ H hi' hq => by
  obtain ⟨g, st, R, h⟩ := hq
  refine ⟨g, st, R, AftC.fl h fun g1 H1 x st1 le1 R1 h1 a c hF hP ho => ?_⟩
  obtain ⟨o, eo⟩ := c.there
  obtain ⟨le2, R2⟩ := R1.freeze eo hP ho hF
  exact h1 _ _ H1 le2 (R2.setDat hi' (c.rep eo hF))
end
end Pl
/-! The pure layer: defs and their calls; raise, try. -/
namespace Pl
open PySem L2
inductive FRes where
  | ok (s : Slot) (S : List SO) | exc (e : Ex) (S : List SO) | bad
/-- a def as a function of its arguments and the store -/
abbrev Fn := List D → List SO → FRes
section
variable (K : PySem.W.Frag) (at_ : At)
def AftF (g : G) (Q : VK) (E : XK) : FRes → Prop
  | .ok (.dat d) S => ∀ g' v H', g.le g' → Rel K at_ none g' ⟨[], S⟩ [] H' → Rep K at_ g'.F g'.m d v → Q v H'
  | .ok (.own d) S => ∀ g' a H', g.le g' → Rel K at_ none g' ⟨[], S⟩ [] H' → Cont K at_ g'.F g'.m H' a d → g'.F a = none → g'.P a = none → g'.o a = none → Q (.ref a) H'
  | .ok (.exn _ _) _ => False
  | .exc e S => ∀ g' H', g.le g' → Rel K at_ none g' ⟨[], S⟩ [] H' → ExOk K at_ (fun c d _ H => E c d H) g' e [] H'
  | .bad => False
/-- the promise -/
def spF (f : Fn) : Sp := fun vs H Q E => ∃ g S ds, Rel K at_ none g ⟨[], S⟩ [] H ∧ Reps K at_ g.F g.m ds vs ∧ AftF K at_ g Q E (f ds S)
end
def initR (N : Nat) (ds : List D) : List (Option Slot) := ds.map (fun d => some (.dat d)) ++ List.replicate (N - ds.length) none
/-- a body as a function: n parameters, N names -/
def fnOf (n N : Nat) (body : Cv) : Fn := fun ds S => if ds.length = n then match body ⟨initR N ds, S⟩ with
    | .nx st => .ok (.dat .non) st.S
    | .rt s st => .ok s st.S
    | .exc e st => .exc e st.S
    | _ => .bad
  else .bad
theorem fnOf_len {n N : Nat} {body : Cv} {ds : List D} {S : List SO} (h : fnOf n N body ds S ≠ .bad) : ds.length = n := by
  unfold fnOf at h
  split at h
  · assumption
  · exact absurd rfl h
section
variable {K : PySem.W.Frag} {at_ : At} {g : G} {S : List SO} {H : Hp}
theorem Rel.init {N : List Str} {ds : List D} {vs : List V} (R : Rel K at_ none g ⟨[], S⟩ [] H) (r : Reps K at_ g.F g.m ds vs) : Rel K at_ none g ⟨initR N.length ds, S⟩ (L2.start N vs) H := by
  refine ⟨R.pro, R.sub, R.own, fun i s e => ?_, R.store, R.len⟩
  have e' : (initR N.length ds)[i]? = some (some s) := e
  unfold initR at e'
  by_cases hi : i < ds.length
  · rw [List.getElem?_append_left (by simpa using hi)] at e'
    rw [List.getElem?_map] at e'
    have hd : ds[i]? = some ds[i] := by simp [hi]
    rw [hd] at e'
    cases e'
    obtain ⟨v, e1, e2⟩ := r.get hd
    refine ⟨v, ?_, e2⟩
    unfold L2.start
    rw [List.getElem?_append_left (by rw [List.length_map, r.length]; exact hi), List.getElem?_map, e1]
    rfl
  · rw [List.getElem?_append_right (by simpa using hi)] at e'
    have := List.mem_of_getElem? e'
    rw [List.mem_replicate] at this
    cases this.2
theorem Tmp.bare {a : Addr} {d : D} (t : Tmp K at_ g a d H) : Cont K at_ g.bare.F g.bare.m H a d ∧ g.bare.F a = none ∧ g.bare.P a = none ∧ g.bare.o a = none := by
  obtain ⟨c, hF, hP, ho⟩ := t
  refine ⟨c, hF, hP, ?_⟩
  cases q : g.o a with
  | none => exact bare_none q
  | some w => exact bare_slot q (ho w q)
theorem G.le_bare {g' : G} (h : g.le g') : g.le g'.bare := ⟨h.P, h.F, h.m⟩
/-- a body's reading, from the promise's -/
theorem body_of {n : Nat} {N : List Str} {body : Cv} {vs : List V} {Q : VK} {E : XK} (h : spF K at_ (fnOf n N.length body) vs H Q E) :
    qC K at_ none (fun c d _ H => E c d H) body { nx := fun _ H' => Q .non H', rt := Q } (L2.start N vs) H := by
  obtain ⟨g, S, ds, R, r, h⟩ := h
  refine ⟨g, _, R.init r, ?_⟩
  have hn : ds.length = n := fnOf_len (body := body) (S := S) (N := N.length) fun z => by rw [z] at h; exact h
  unfold fnOf at h
  rw [if_pos hn] at h
  cases q : body ⟨initR N.length ds, S⟩ with
  | nx st => rw [q] at h; exact fun g' σ' H' le R' => h g'.bare _ H' (G.le_bare le) R'.bare repnon
  | rt s st =>
    rw [q] at h
    cases s with
    | dat d => exact fun g' σ' v H' le R' rv => h g'.bare v H' (G.le_bare le) R'.bare rv
    | own d =>
      intro g' σ' a H' le R' t
      obtain ⟨t1, t2, t3, t4⟩ := t.bare
      exact h g'.bare a H' (G.le_bare le) R'.bare t1 t2 t3 t4
    | exn c f => exact h
  | bk st => rw [q] at h; exact h.elim
  | ct st => rw [q] at h; exact h.elim
  | exc e st => rw [q] at h; exact fun g' σ' H' le R' => h g'.bare H' (G.le_bare le) R'.bare
  | bad => rw [q] at h; exact h
end
/-- THE RULE for a def -/
theorem ok_fn {P : Program} {w : World} {K : PySem.W.Frag} {mg : Str → Option Value} {base : Heap} {at_ : At} {x qual : Str} {st : Stmt} {f : Addr} {fd : FuncData} {N ps : List Str} {k : Nat} {body : Cv} (F : Fun K x qual st f fd) (S : FnScope N ps (defScope st))
    (hb : ∀ (cdv : Value) (A : Around) (outer : List Env) (s : Shared) (H : Hp) (E : XK), Room k (A.deeper (PyProof.Rows.envOfC qual (defScope st) s.heap.objs.size f cdv)) →
      PSs (cxOf (L2.CX P w) P w K mg base N qual (defScope st) f cdv A outer s H E) (defBody st) (qC K at_ none (fun c d _ H => E c d H) body)) :
    FnOk P w K mg base (L2.CX P w) (k + 1) f fd ps (spF K at_ (fnOf ps.length N.length body)) := by
  refine F.okX S (fun vs H Q E h => ?_) (fun cdv A outer s H vs Q E hr h => ⟨_, hb cdv A outer s H E hr, body_of h⟩)
  obtain ⟨g, S, ds, R, r, h⟩ := h
  rw [r.length]
  exact fnOf_len (body := body) (S := S) (N := N.length) fun z => by rw [z] at h; exact h
/-- a call that hands back data -/
def eCall (f : Fn) (fr : Av) : Ev := fun st => (fr st).bind fun ds st1 => match f ds st1.S with
  | .ok (.dat d) S => .ok d { st1 with S := S }
  | .exc e S => .exc e { st1 with S := S }
  | _ => .bad
/-- .. a list or dict of its own -/
def eCallO (f : Fn) (fr : Av) : Ev := fun st => (fr st).bind fun ds st1 => match f ds st1.S with
  | .ok (.own d) S => .ok d { st1 with S := S }
  | .exc e S => .exc e { st1 with S := S }
  | _ => .bad
section
variable {X : Cx} {at_ : At} {W : WX} {k : Nat} {f : Addr} {fd : FuncData} {ps : List Str} {fn : Fn} {x : Str} {p pos : Pos} {e : Expr} {es : List Expr} {fr : Av}
theorem ExOk.of {K : PySem.W.Frag} {g g' : G} {e : Ex} {σ : St} {H : Hp} {W : WX} (h : ExOk K at_ W g e σ H) (hF : g'.F = g.F) (hm : g'.m = g.m) : ExOk K at_ (fun c d _ H => WE W σ c d H) g' e [] H := by
  unfold ExOk at h ⊢
  split
  · rename_i z; rw [z] at h; exact h
  · rename_i f x z
    rw [z] at h
    intro d v h1 h2
    rw [hF] at h1
    rw [hF, hm] at h2
    exact h d v h1 h2
theorem call_ok {σ : St} {H : Hp} {g : G} {st : Stt} {ds : List D} {vs : List V} {Q : VK} (R : Rel X.K at_ none g st σ H) (r : Reps X.K at_ g.F g.m ds vs)
    (h : Aft X.K at_ none W g σ (PoE X.K at_ Q) (match fn ds st.S with
      | .ok (.dat d) S => .ok d { st with S := S }
      | .exc e S => .exc e { st with S := S }
      | _ => .bad)) : spF X.K at_ fn vs H Q (WE W σ) := by
  refine ⟨g.enter H, st.S, ds, R.enter, r, ?_⟩
  cases q : fn ds st.S with
  | ok s S =>
    rw [q] at h
    cases s with
    | dat d =>
      intro g' v H' le R' rv
      obtain ⟨le2, R2⟩ := R.back le R'
      exact h _ H' le2 R2 v rv
    | own d => exact h.elim
    | exn c f => exact h.elim
  | exc e S =>
    rw [q] at h
    intro g' H' le R'
    obtain ⟨le2, R2⟩ := R.back le R'
    exact (h _ H' le2 R2).of rfl rfl
  | bad => rw [q] at h; exact h.elim
theorem call_okO {σ : St} {H : Hp} {g : G} {st : Stt} {ds : List D} {vs : List V} {Q : VK} (R : Rel X.K at_ none g st σ H) (r : Reps X.K at_ g.F g.m ds vs)
    (h : Aft X.K at_ none W g σ (PoO X.K at_ Q) (match fn ds st.S with
      | .ok (.own d) S => .ok d { st with S := S }
      | .exc e S => .exc e { st with S := S }
      | _ => .bad)) : spF X.K at_ fn vs H Q (WE W σ) := by
  refine ⟨g.enter H, st.S, ds, R.enter, r, ?_⟩
  cases q : fn ds st.S with
  | ok s S =>
    rw [q] at h
    cases s with
    | own d =>
      intro g' a H' le R' c1 c2 c3 c4
      obtain ⟨le2, R2⟩ := R.back le R'
      have nslot : ∀ w, g.o a = some w → isSlot w = false := fun w e => by
        cases z : isSlot w with
        | false => rfl
        | true =>
          obtain ⟨u, hu⟩ := R.own a w e
          rw [le.P, enter_slot e z, hu] at c3; cases c3
      have ho : (g.back g').o a = none := by
        show (match g.o a with | some w => if isSlot w = true then some w else g'.o a | none => g'.o a) = none
        cases e : g.o a with
        | none => exact c4
        | some w =>
          show (if isSlot w = true then some w else g'.o a) = none
          rw [nslot w e]; exact c4
      have hP : (g.back g').P a = none := by
        cases e : g.o a with
        | none => have := c3; rw [le.P, enter_none e] at this; exact this
        | some w =>
          cases z : g.P a with
          | none => exact z
          | some u => rw [(R.pro a u z).2.2] at e; cases e
      exact h _ H' le2 R2 a c1 c2 hP ho
    | dat d => exact h.elim
    | exn c f => exact h.elim
  | exc e S =>
    rw [q] at h
    intro g' H' le R'
    obtain ⟨le2, R2⟩ := R.back le R'
    exact (h _ H' le2 R2).of rfl rfl
  | bad => rw [q] at h; exact h.elim
theorem de_call (F : FnOk X.prog X.w X.K X.mg X.base (L2.CX X.prog X.w) k f fd ps (spF X.K at_ fn)) (hr : Room k X.A) (tk : Takes X W) (hg : Gl X x) (hm : X.mg x = some (.ref f)) (hk : PySem.W.keepIn X.K (.ref f) = true) (hb : Binds X.K fd ps []) (ha : PA X (e :: es) (qA X.K at_ none W fr))
    (hdb : (x == ("__debug__" : Str)) = false := by decide) (he : starEach (e :: es) X.env = (false, eval e X.env) :: starEach es X.env := by rfl) (hpl : (backTo pos (starEach es X.env)).any (·.1) = false := by rfl) :
    PE X (.Call (.Name x p) (e :: es) [] pos) (qE X.K at_ none W (eCall fn fr)) := by
  refine pe_imp (pe_callS F hr hg hm hk hb (fun σ => passAt tk σ) ha hdb he hpl) fun σ H Q hq => ?_
  obtain ⟨g, st, R, h⟩ := hq
  exact ⟨g, st, R, h.bind fun g1 H1 ds st1 le1 R1 h1 vs rs => call_ok R1 rs h1⟩
theorem do_call (F : FnOk X.prog X.w X.K X.mg X.base (L2.CX X.prog X.w) k f fd ps (spF X.K at_ fn)) (hr : Room k X.A) (tk : Takes X W) (hg : Gl X x) (hm : X.mg x = some (.ref f)) (hk : PySem.W.keepIn X.K (.ref f) = true) (hb : Binds X.K fd ps []) (ha : PA X (e :: es) (qA X.K at_ none W fr))
    (hdb : (x == ("__debug__" : Str)) = false := by decide) (he : starEach (e :: es) X.env = (false, eval e X.env) :: starEach es X.env := by rfl) (hpl : (backTo pos (starEach es X.env)).any (·.1) = false := by rfl) :
    PE X (.Call (.Name x p) (e :: es) [] pos) (qO X.K at_ none W (eCallO fn fr)) := by
  refine pe_imp (pe_callS F hr hg hm hk hb (fun σ => passAt tk σ) ha hdb he hpl) fun σ H Q hq => ?_
  obtain ⟨g, st, R, h⟩ := hq
  exact ⟨g, st, R, h.bind fun g1 H1 ds st1 le1 R1 h1 vs rs => call_okO R1 rs h1⟩
end
/-- the promise at another function that it agrees with where that one is not bad -/
theorem spF_of {K : PySem.W.Frag} {at_ : At} {f f' : Fn} (h : ∀ ds S, f' ds S ≠ .bad → f ds S = f' ds S) {vs : List V} {H : Hp} {Q : VK} {E : XK} (hs : spF K at_ f' vs H Q E) : spF K at_ f vs H Q E := by
  obtain ⟨g, S, ds, R, r, a⟩ := hs
  refine ⟨g, S, ds, R, r, ?_⟩
  rw [h ds S fun z => by rw [z] at a; exact a]
  exact a
/-! ### raise -/
def sRaise (c : String) : Cv := fun st => .exc ⟨c, none⟩ st
theorem ds_raise {X : Cx} {at_ : At} {xa : Option Xc} {W : WX} {c : String} {x m : Str} {j : Nat} {p p2 pos pos2 : Pos} {B newId initId : String} {bmB : List Value} (hc : X.calm = true) (tk : Takes X W) (F : ExcBaseFacts B newId initId bmB) (q : PySem.W.excIn X.K (at_ c) bmB newId = true) (gC : X.mg x = some (.ref (at_ c)))
    (kC : PySem.W.keepIn X.K (.ref (at_ c)) = true) (r : Raises X (.ref (at_ c))) (hg : Gl X x) (hdb : (x == ("__debug__" : Str)) = false := by decide) :
    PS X (.Raise (some (.Call (.Name x p) [.Constant (.str m) j p2] [] pos)) none pos2) (qC X.K at_ xa W (sRaise c)) := by
  refine ps_imp (ps_raise hc tk (pmk_own F q gC kC r hg hdb)) fun T σ H hq => ?_
  obtain ⟨g, st, R, h⟩ := hq
  exact h g σ H (G.le.refl g) R
end Pl
/-! The pure layer: further rules; a def by its datum; the law's end. -/
namespace Pl
open PySem L2
def kRev : List SO → D → Option D := fun _ x => match x with
  | .lst ds => some (.lst ds.reverse)
  | .lck ds => some (.lst ds.reverse)
  | _ => none
section
variable {X : Cx} {at_ : At} {xa : Option Xc} {W : WX} {e a b c : Expr} {fa fb fc : Ev} {pos : Pos}
theorem do_revL {k : Nat} {p1 p2 p3 : Pos} (he : PE X e (qE X.K at_ xa W fa)) : PE X (.Subscript e (.Slice none none (some (.UnaryOp .USub (.Constant (.int 1) k p1) p2)) p3) pos) (qO X.K at_ xa W (eOp1 kRev fa)) := by
  refine pe_imp (pe_revL he) fun σ H Q hq => ?_
  obtain ⟨g, st, R, h⟩ := hq
  refine ⟨g, st, R, h.bind fun g1 H1 x st1 le1 R1 h1 v rv => ?_⟩
  obtain ⟨d, e, h2⟩ := h1.lift
  unfold kRev at e
  split at e
  · cases e
    obtain ⟨a, vs, rfl, q, r⟩ := rv.l
    exact ⟨a, vs, rfl, SqL.of (R1.sub _ _ q).1, R1.newLst r.reverse fun g' w H' le' R' c1 c2 c3 c4 => h2 g' H' le' R' w c1 c2 c3 c4⟩
  · cases e
    obtain ⟨a, vs, rfl, q, r⟩ := rv.k
    exact ⟨a, vs, rfl, SqL.le q fun a o z => (R1.sub a o z).1, R1.newLst r.reverse fun g' w H' le' R' c1 c2 c3 c4 => h2 g' H' le' R' w c1 c2 c3 c4⟩
  · cases e
/-- a < b < c -/
def eChain (k k' : List SO → D → D → Option D) (fa fb fc : Ev) : Ev := fun st => (fa st).bind fun x st1 => (fb st1).bind fun y st2 => match k st2.S x y with
  | some (.bl true) => (fc st2).bind fun z st3 => lift (k' st3.S y z) st3
  | some (.bl false) => .ok (.bl false) st2
  | _ => .bad
theorem of_eChain {r r' : R2} {k k' : List SO → D → D → Option D} (hr : VOp2 X.K at_ xa r k) (hr' : VOp2 X.K at_ xa r' k') {σ : St} {H : Hp} {Q : VK} (h : qE X.K at_ xa W (eChain k k' fa fb fc) σ H Q) :
    tChain r r' (qE X.K at_ xa W fa) (qE X.K at_ xa W fb) (qE X.K at_ xa W fc) σ H Q := by
  obtain ⟨g, st, R, h⟩ := h
  refine ⟨g, st, R, h.bind fun g1 H1 x st1 le1 R1 h1 v rv => ⟨g1, st1, R1, h1.bind fun g2 H2 y st2 le2 R2 h2 u ru => ?_⟩⟩
  have rv2 := Rep.leG le2 rv
  split at h2
  · rename_i hk
    refine hr g2 st2 σ H2 v u x y _ _ R2 rv2 ru hk fun g3 w H3 le3 R3 rw3 => ⟨true, rw3.b, iteT ⟨g3, st2, R3, (Aft.le le3 h2).bind fun g4 H4 z st4 le4 R4 h4 t rt => ?_⟩⟩
    obtain ⟨d, e, h5⟩ := h4.lift
    exact hr' g4 st4 σ H4 u t y z d Q R4 (Rep.leG (le3.trans le4) ru) rt e fun g' w H' le' R' rw => h5 g' H' le' R' w rw
  · rename_i hk
    exact hr g2 st2 σ H2 v u x y _ _ R2 rv2 ru hk fun g3 w H3 le3 R3 rw3 => ⟨false, rw3.b, iteF (Aft.ok (a := D.bl false) (Aft.le le3 h2) R3 _ repbl)⟩
  · exact h2.elim
theorem de_chain {op op' : CmpOp} {r r' : R2} {k k' : List SO → D → D → Option D} (ho : OpR X (compareOp op) r) (hr : VOp2 X.K at_ xa r k) (ho' : OpR X (compareOp op') r') (hr' : VOp2 X.K at_ xa r' k') (ha : PE X a (qE X.K at_ xa W fa)) (hb : PE X b (qE X.K at_ xa W fb)) (hc : PE X c (qE X.K at_ xa W fc))
    (hm : lastMarks [op, op'] [b, c] = false := by with_unfolding_all rfl) : PE X (.Compare a [op, op'] [b, c] pos) (qE X.K at_ xa W (eChain k k' fa fb fc)) := pe_imp (pe_chain ho ho' ha hb hc hm) fun _ _ _ => of_eChain hr hr'
theorem dt_chain {op op' : CmpOp} {r r' : R2} {k k' : List SO → D → D → Option D} (ho : OpR X (compareOp op) r) (hr : VOp2 X.K at_ xa r k) (ho' : OpR X (compareOp op') r') (hr' : VOp2 X.K at_ xa r' k') (ha : PE X a (qE X.K at_ xa W fa)) (hb : PE X b (qE X.K at_ xa W fb)) (hc : PE X c (qE X.K at_ xa W fc))
    (hm : lastMarks [op, op'] [b, c] = false := by with_unfolding_all rfl) : PT X (.Compare a [op, op'] [b, c] pos) (qB X.K at_ xa W (bOf (eChain k k' fa fb fc))) := pt_imp (pt_chain ho ho' ha hb hc hm) fun _ _ _ h => of_eChain hr hr' (of_bOf h)
/-- a built-in type as a value -/
theorem de_ty {x : Str} {n : String} (hg : Gl X x) (hm : X.mg x = none) (hv : bootBuiltins x = some (.type n)) (hn : x ≠ "__name__" := by decide) (hd : (x == ("__debug__" : Str)) = false := by decide) : PE X (.Name x pos) (qE X.K at_ xa W (eC (.ty n))) :=
  de_C (pe_bltn hg hm hv (show RelV (.ty n) (.type n) from rfl) hn hd) fun _ _ => by unfold Rep; rfl
end
/-- THE RULE for a def, by its datum -/
theorem ok_def {P : Program} {w : World} {K : PySem.W.Frag} {mg : Str → Option Value} {base : Heap} {at_ : At} {x qual : Str} {pa : Arguments} {bo : List Stmt} {sc : Scope} {dvs : List V} {kws : List (Str × V)} {f : Addr} {fd : FuncData} {N ps : List Str} {k : Nat} {body : Cv} (F : FunD K x qual pa bo sc dvs kws f fd) (S : FnScope N ps sc)
    (hb : ∀ (cdv : Value) (A : Around) (outer : List Env) (s : Shared) (H : Hp) (E : XK), Room k (A.deeper (PyProof.Rows.envOfC qual sc s.heap.objs.size f cdv)) →
      PSs (cxOf (L2.CX P w) P w K mg base N qual sc f cdv A outer s H E) bo (qC K at_ none (fun c d _ H => E c d H) body)) :
    FnOk P w K mg base (L2.CX P w) (k + 1) f fd ps (spF K at_ (fnOf ps.length N.length body)) := by
  refine F.ok S (fun vs H Q E h => ?_) (fun cdv A outer s H vs Q E hr h => ⟨_, hb cdv A outer s H E hr, body_of h⟩)
  obtain ⟨g, S, ds, R, r, h⟩ := h
  rw [r.length]
  exact fnOf_len (body := body) (S := S) (N := N.length) fun z => by rw [z] at h; exact h
/-- a law's promise -/
def spLaw (K : PySem.W.Frag) : Sp := fun vs H Q _ => ∃ (a : Addr) (ns : List Int), vs = [.ref a] ∧ SqL K H a (ns.map V.int) ∧ ns.length ≤ 63 ∧ ∀ H', Q (.bl true) H'
theorem law_end {K : PySem.W.Frag} {at_ : At} {f : Fn} (h : ∀ ns : List Int, ns.length ≤ 63 → ∃ S, f [.lck (ns.map D.int)] [] = .ok (.dat (.bl true)) S) {vs : List V} {H : Hp} {Q : VK} {E : XK} (hs : spLaw K vs H Q E) : spF K at_ f vs H Q E := by
  obtain ⟨a, ns, rfl, hS, hl, k⟩ := hs
  obtain ⟨S, e⟩ := h ns hl
  have R : Rel K at_ none ⟨fun _ => none, H, fun _ => none, []⟩ ⟨[], []⟩ [] H := ⟨(fun a o z => nomatch z), (fun a o z => ⟨z, rfl⟩), (fun a w z => nomatch z), (fun i s z => by simp at z), (fun i o z => by simp at z), rfl⟩
  refine ⟨_, [], [.lck (ns.map D.int)], R, Reps.cons (by unfold Rep; exact ⟨a, _, rfl, hS, Reps.ints⟩) Reps.nil, ?_⟩
  rw [e]
  exact fun g' v H' le R' rv => by rw [rv.b]; exact k H'
theorem cx_none {P : Program} {w : World} {H : Hp} {s : Shared} {e : Value} {s' : Shared} (h : L2.CX P w [] H s (fun _ _ _ => False) e s') : False := by
  obtain ⟨_, _, _, _, _, _, _, _, _, _, _, _, z⟩ := h
  exact z
/-- .. from which nothing leaves -/
theorem to_none {P : Program} {w : World} {K : PySem.W.Frag} {mg : Str → Option Value} {base : Heap} {k : Nat} {f : Addr} {fd : FuncData} {ps : List Str} {sp : Sp} (F : FnOk P w K mg base (L2.CX P w) k f fd ps sp) : FnOk P w K mg base CX0 k f fd ps (fun vs H Q _ => sp vs H Q fun _ _ _ => False) := by
  refine ⟨fun vs H Q E h => F.len _ _ _ _ h, fun A outer s H args us vs Q E hr he hb hv hs => ?_⟩
  refine codeAny_mono (F.run A outer s H args us vs Q _ hr he hb hv hs) fun r s' hq => ?_
  cases r with
  | ok fl => cases fl <;> exact hq
  | error e =>
    obtain ⟨_, _, _, _, _, _, _, _, _, _, _, _, z⟩ := (show L2.CX P w outer H s (fun _ _ _ => False) e s' from hq)
    exact z.elim
/-! ### calls by keywords alone -/
def pick {α : Type} (z : α) (perm : List Nat) (l : List α) : List α := perm.map fun i => l.getD i z
structure KBi (K : PySem.W.Frag) (fd : FuncData) (ps ks : List Str) (perm : List Nat) : Prop where
  to : ∀ (s : Shared) (ws : List Value), ws.length = ks.length → BindsTo s fd ⟨[], ks.zip ws⟩ (ps.zip (pick Value.none perm ws))
  ok : ∀ i ∈ perm, i < ks.length
theorem pick_vals {zs : List V} {ws : List Value} (r : Vals zs ws) : ∀ {perm : List Nat}, (∀ i ∈ perm, i < zs.length) → Vals (pick V.non perm zs) (pick Value.none perm ws)
  | [], _ => .nil
  | i :: perm, h => by
    have hi : i < zs.length := h i List.mem_cons_self
    obtain ⟨u, e, q⟩ := r.get (i := i) (x := zs[i]) (by simp [hi])
    have e1 : zs.getD i V.non = zs[i] := by simp [List.getD, hi]
    have e2 : ws.getD i Value.none = u := by simp [List.getD, e]
    refine .cons (by show RelV (zs.getD i V.non) (ws.getD i Value.none); rw [e1, e2]; exact q) (pick_vals r fun j hj => h j (List.mem_cons_of_mem _ hj))
theorem pick_reps {K : PySem.W.Frag} {at_ : At} {F : Hp} {m : List Addr} {ds : List D} {zs : List V} (r : Reps K at_ F m ds zs) : ∀ {perm : List Nat}, (∀ i ∈ perm, i < zs.length) → Reps K at_ F m (pick D.non perm ds) (pick V.non perm zs)
  | [], _ => Reps.nil
  | i :: perm, h => by
    have hi : i < ds.length := by rw [← r.length]; exact h i List.mem_cons_self
    obtain ⟨u, e, q⟩ := r.get (i := i) (d := ds[i]) (by simp [hi])
    have e1 : ds.getD i D.non = ds[i] := by simp [List.getD, hi]
    have e2 : zs.getD i V.non = u := by simp [List.getD, e]
    exact Reps.cons (by show Rep K at_ F m (ds.getD i D.non) (zs.getD i V.non); rw [e1, e2]; exact q) (pick_reps r fun j hj => h j (List.mem_cons_of_mem _ hj))
def qK (K : PySem.W.Frag) (at_ : At) (W : WX) (f : Av) : TA := qA K at_ none W f
section
variable {X : Cx} {at_ : At} {W : WX} {e : Expr} {kws : List Keyword} {fa : Ev} {fr : Av} {nm : Option Str} {kpos : Pos}
theorem pk_imp {t t' : TA} (h : PK X kws t) (k : ∀ σ H Q, t' σ H Q → t σ H Q) : PK X kws t' := ⟨fun pos pins s σ H Q I hw => h.run pos pins s σ H Q I (k σ H Q hw)⟩
theorem dk_nil : PK X [] (qA X.K at_ none W aNil) := pk_imp pk_nil fun σ H Q ⟨g, st, R, h⟩ => Aft.ok (a := []) h R [] Reps.nil
theorem dk_cons (ha : PE X e (qE X.K at_ none W fa)) (hr : PK X kws (qA X.K at_ none W fr)) : PK X (⟨nm, e, kpos⟩ :: kws) (qA X.K at_ none W (aCons fa fr)) := by
  refine pk_imp (pk_cons ha hr) fun σ H Q hq => ?_
  obtain ⟨g, st, R, h⟩ := hq
  refine ⟨g, st, R, h.bind fun g1 H1 x st1 le1 R1 h1 v rv => ⟨g1, st1, R1, h1.bind fun g2 H2 y st2 le2 R2 h2 u ru => ?_⟩⟩
  exact h2.ok R2 _ (Reps.cons (Rep.leG le2 rv) ru)
variable {k n : Nat} {f : Addr} {fd : FuncData} {ps ks : List Str} {fn : Fn} {x : Str} {p pos : Pos} {perm : List Nat}
def eCallK (n : Nat) (fn : Fn) (perm : List Nat) (fr : Av) : Ev := fun st => (fr st).bind fun ds st1 => if ds.length = n then match fn (pick D.non perm ds) st1.S with
  | .ok (.dat d) S => .ok d { st1 with S := S }
  | .exc e S => .exc e { st1 with S := S }
  | _ => .bad else .bad
theorem de_callK (F : FnOk X.prog X.w X.K X.mg X.base (L2.CX X.prog X.w) k f fd ps (spF X.K at_ fn)) (hr : Room k X.A) (tk : Takes X W) (hg : Gl X x) (hm : X.mg x = some (.ref f)) (hk : PySem.W.keepIn X.K (.ref f) = true) (hb : KBi X.K fd ps ks perm) (hn : ks.length = n)
    (ha : PK X kws (qA X.K at_ none W fr)) (hall : (backToKw pos (keywordEach kws X.env)).all (·.1.isSome) = true := by rfl) (hks : (backToKw pos (keywordEach kws X.env)).filterMap (·.1) = ks := by rfl) (hdb : (x == ("__debug__" : Str)) = false := by decide)
    (hpl : ((backTo pos (starEach [] X.env)).any (·.1) || (backToKw pos (keywordEach kws X.env)).any (·.1.isNone)) = false := by rfl) :
    PE X (.Call (.Name x p) [] kws pos) (qE X.K at_ none W (eCallK n fn perm fr)) := by
  refine ⟨fun pins s σ H Q I hq => ?_⟩
  obtain ⟨g, st, R, h⟩ := hq
  refine wpAny_Call_Name_kw (ld_glob I hg hm ?_ hdb)
  refine PySem.W.callWith_KW0 (h₀ := X.base) I.ok.mod.kin hk hall ?_ hpl
  refine thn (ha.run pos pins s σ H (fun zs H' => ∃ g1 st1 ds, Rel X.K at_ none g1 st1 σ H' ∧ Reps X.K at_ g1.F g1.m ds zs ∧ ds.length = n ∧ Aft X.K at_ none W g1 σ (PoE X.K at_ Q) (match fn (pick D.non perm ds) st1.S with
      | .ok (.dat d) S => .ok d { st1 with S := S }
      | .exc e S => .exc e { st1 with S := S }
      | _ => .bad)) I ⟨g, st, R, h.bind fun g1 H1 ds st1 le1 R1 h1 vs rs => ?_⟩) fun us s1 ⟨zs, H1, I1, rz, g1, st1, ds, R1, rs, hl, h1⟩ => ⟨I1.kIn, ?_⟩
  · split at h1
    · rename_i hl
      exact ⟨g1, st1, ds, R1, rs, hl, h1⟩
    · exact h1.elim
  · rw [hks]
    have hz : zs.length = ks.length := by rw [rs.length, hl, hn]
    have hu : us.length = ks.length := by rw [← rz.length, hz]
    have ip : ∀ i ∈ perm, i < zs.length := fun i hi => by rw [hz]; exact hb.ok i hi
    have sp := call_ok (fn := fn) R1 (pick_reps rs ip) h1
    refine wpAny_call (codeAny_mono (F.run X.A X.stack s1 H1 ⟨[], ks.zip us⟩ (pick Value.none perm us) (pick V.non perm zs) Q (WE W σ) hr I1.env0 (hb.to s1 us hu) (pick_vals rz ip) sp) fun r s' hq => ?_)
    cases r with
    | error e => exact passAt tk σ pins H1 s1 e s' I1 hq
    | ok fl =>
      cases fl with
      | ret u => exact I1.after hq
      | next => exact False.elim hq
      | brk => exact False.elim hq
      | cont => exact False.elim hq
end
theorem FunD.kbi {K : PySem.W.Frag} {x qual : Str} {pa : Arguments} {bo : List Stmt} {sc : Scope} {f : Addr} {fd : FuncData} {ps ks : List Str} {perm : List Nat} (F : FunD K x qual pa bo sc [] [] f fd) (hp : ∀ i ∈ perm, i < ks.length)
    (h : ∀ (kV doc pm : Value) (an : Option Addr) (cdv ct : Value) (us : List Value), us.length = ks.length → bindArgs (PySem.W.fnOf x qual pa bo sc .none kV doc pm an cdv ct) ⟨[], ks.zip us⟩ = pure (ps.zip (pick Value.none perm us))) : KBi K fd ps ks perm := by
  obtain ⟨oc, od, dV, kV, doc, pm, an, cdv, ct, osl, rfl, lk, hcd, hD, hK⟩ := F.ex
  rcases hD with ⟨_, rfl⟩ | ⟨e, _⟩
  · exact ⟨fun s ws hl => .of_eq (h kV doc pm an cdv ct ws hl), hp⟩
  · exact absurd rfl e
/-! ### lists joined, repeated; += -/
def kCat : List SO → D → D → Option D := fun _ x y => match x, y with
  | .lst a, .lst b => if a.length + b.length ≤ line then some (.lst (a ++ b)) else none
  | _, _ => none
def kRep : List SO → D → D → Option D := fun _ x y => match x, y with
  | .lst a, .int k => if -line ≤ k ∧ k ≤ line ∧ a.length * k.toNat ≤ line then some (.lst (List.replicate k.toNat a).flatten) else none
  | _, _ => none
def kAddI : List SO → D → D → Option D := fun _ x y => match x, y with
  | .int i, .int j => some (.int (i + j))
  | _, _ => none
section
variable {K : PySem.W.Frag} {at_ : At} {xa : Option Xc}
theorem v_cat : VOp2O K at_ xa rCat kCat := by
  intro g st σ H x y dx dy d Q R rx ry e k
  unfold kCat at e
  split at e
  · split at e
    · rename_i h
      cases e
      obtain ⟨a, vs, rfl, q1, r1⟩ := rx.l
      obtain ⟨b, ws, rfl, q2, r2⟩ := ry.l
      exact ⟨a, b, vs, ws, rfl, rfl, (R.sub _ _ q1).1, (R.sub _ _ q2).1, by rw [r1.length, r2.length]; exact line_le h, R.newLst (r1.append r2) k⟩
    · cases e
  · cases e
theorem v_rep : VOp2O K at_ xa rRep kRep := by
  intro g st σ H x y dx dy d Q R rx ry e k
  unfold kRep at e
  split at e
  · split at e
    · rename_i h
      cases e
      obtain ⟨a, vs, rfl, q1, r1⟩ := rx.l
      obtain ⟨h1, h2, h3⟩ := h
      have hl : (line : Int) = 1000000 := rfl
      exact ⟨a, _, vs, rfl, ry.i, (R.sub _ _ q1).1, by omega, by omega, by rw [r1.length]; exact line_le h3, R.newLst (r1.rep _) k⟩
    · cases e
  · cases e
theorem v_ipadd : VOp2 K at_ xa (ipI fun i j => i + j) kAddI := by
  intro g st σ H x y dx dy d Q R rx ry e k
  unfold kAddI at e
  split at e
  · cases e; exact ⟨_, _, rx.i, ry.i, k g _ H (G.le.refl g) R repint⟩
  · cases e
theorem v_ipsub : VOp2 K at_ xa (ipI fun i j => i - j) kSub := by
  intro g st σ H x y dx dy d Q R rx ry e k
  unfold kSub at e
  split at e
  · cases e; exact ⟨_, _, rx.i, ry.i, k g _ H (G.le.refl g) R repint⟩
  · cases e
end
/-! ### how a law's defs stand -/
abbrev atK (K : PySem.W.Frag) : At := fun s => He.ga K (Str.ofString s)
structure Ok (P : Program) (w : World) (K : PySem.W.Frag) (mg : Str → Option Value) (base : Heap) (k : Nat) (x : String) (ps : List Str) (f : Fn) (fd : FuncData) : Prop where
  fn : FnOk P w K mg base (L2.CX P w) k (atK K x) fd ps (spF K (atK K) f)
  b : Binds K fd ps []
  g : mg (Str.ofString x) = some (.ref (atK K x))
  kp : PySem.W.keepIn K (.ref (atK K x)) = true
theorem law_ok {P : Program} {w : World} {K : PySem.W.Frag} {mg : Str → Option Value} {base : Heap} {k : Nat} {x : String} {f : Fn} {fd : FuncData} (O : Ok P w K mg base k x ["script"] f fd) (law : ∀ ns : List Int, ns.length ≤ 63 → ∃ S, f [.lck (ns.map D.int)] [] = .ok (.dat (.bl true)) S) :
    FnOk P w K mg base CX0 k (atK K x) fd ["script"] (spLaw K) := (to_none O.fn).imp fun vs H Q E h => law_end law h
end Pl
/-! The pure layer: try; what is caught. -/
namespace Pl
open PySem L2
theorem look_mem {β : Type} {c : String} {b : β} : ∀ {cs : List (String × β)}, cs.lookup c = some b → (c, b) ∈ cs
  | [], h => by cases h
  | (x, y) :: cs, h => by
    rw [List.lookup_cons] at h
    cases q : c == x with
    | true =>
      rw [q] at h
      cases h
      have := eq_of_beq q
      subst this
      exact List.mem_cons_self
    | false => rw [q] at h; exact List.mem_cons_of_mem _ (look_mem h)
def hush : Fl → Fl
  | .exc _ _ => .bad
  | x => x
theorem AftC.hush {K : PySem.W.Frag} {at_ : At} {xa : Option Xc} {W W' : WX} {g : G} {T : Ends} : ∀ {r : Fl}, AftC K at_ xa W g T (hush r) → AftC K at_ xa W' g T r
  | .nx _, h => h
  | .rt (.dat _) _, h => h
  | .rt (.own _) _, h => h
  | .rt (.exn _ _) _, h => h
  | .bk _, h => h
  | .ct _, h => h
  | .exc _ _, h => h.elim
  | .bad, h => h.elim
/-- try .. except x: cs tells of each class whether the clause takes it -/
def sTry (cs : List (String × Bool)) (fb fs : Cv) : Cv := fun st => match fb st with
  | .exc e st1 => match cs.lookup e.c with
    | some true => hush (fs st1)
    | some false => .exc e st1
    | none => .bad
  | x => x
/-- a state without what is held -/
def bareX (st : Stt) : Stt := { st with r := st.r.map fun o => match o with
  | some (.exn _ _) => none
  | o => o }
def clrS (i : Nat) (st : Stt) : Stt := { st with r := st.r.set i none }
def fixX (i : Nat) : Fl → Fl
  | .nx st => .nx (clrS i (bareX st))
  | .rt s st => .rt s (bareX st)
  | .bk st => .bk (clrS i (bareX st))
  | .ct st => .ct (clrS i (bareX st))
  | _ => .bad
/-- try .. except x as n: slot i is n's -/
def sTryAs (i : Nat) (cs : List (String × Bool)) (fb fs : Cv) : Cv := fun st => match fb st with
  | .exc e st1 => match cs.lookup e.c with
    | some true => fixX i (fs (setR st1 i (.exn e.c e.f)))
    | some false => .exc e st1
    | none => .bad
  | x => x
section
variable {K : PySem.W.Frag} {at_ : At} {g : G} {st : Stt} {σ : St} {H : Hp} {x : Xc}
theorem SlotRep.up {w : Owner} {s : Slot} {v : V} (h : SlotRep K at_ none g w H s v) : SlotRep K at_ (some x) g w H s v := by
  cases s with
  | dat d => exact h
  | own d => exact h
  | exn c f => obtain ⟨i, y, e1, e2, _⟩ := h; cases e2
theorem FldsRep.up {i : Nat} : ∀ {fs : List (Str × Slot)} {vs : List (Str × V)}, FldsRep K at_ none g i H fs vs → FldsRep K at_ (some x) g i H fs vs
  | [], _, h => h
  | p :: fs, _, h => by
    obtain ⟨v, r, e, q, z⟩ := h
    exact ⟨v, r, e, q.up, FldsRep.up z⟩
theorem FldsRep.down {i : Nat} : ∀ {fs : List (Str × Slot)} {vs : List (Str × V)}, FldsRep K at_ (some x) g i H fs vs → FldsRep K at_ none g i H fs vs
  | [], _, h => h
  | p :: fs, _, h => by
    obtain ⟨v, r, e, q, z⟩ := h
    refine ⟨v, r, e, ?_, FldsRep.down z⟩
    obtain ⟨f, s⟩ := p
    cases s with
    | dat d => exact q
    | own d => exact q
    | exn c u => obtain ⟨j, y, e1, _⟩ := q; cases e1
theorem ObjRep.up {i : Nat} {o : SO} (h : ObjRep K at_ none g i H o) : ObjRep K at_ (some x) g i H o := by
  cases o with
  | lst ds => exact h
  | ins c fs => obtain ⟨a, dx, vs, z1, z2, z3, z4⟩ := h; exact ⟨a, dx, vs, z1, z2, z3, z4.up⟩
theorem ObjRep.down {i : Nat} {o : SO} (h : ObjRep K at_ (some x) g i H o) : ObjRep K at_ none g i H o := by
  cases o with
  | lst ds => exact h
  | ins c fs => obtain ⟨a, dx, vs, z1, z2, z3, z4⟩ := h; exact ⟨a, dx, vs, z1, z2, z3, z4.down⟩
theorem Rel.holdX (h : Rel K at_ none g st σ H) {i : Nat} (hi : i < σ.length) {c : String} {f : Option (Str × D)} (hc : x.cls = .ref (at_ c)) (hf : match f with
    | none => x.d = none
    | some p => ∃ d u, x.d = some d ∧ g.F d = some (.xd [(p.1, u)]) ∧ Rep K at_ g.F g.m p.2 u) : Rel K at_ (some x) g (setR st i (.exn c f)) (σ.set i (some (.ref x.a))) H := by
  refine ⟨h.pro, h.sub, h.own, fun j s e => ?_, fun j o e => (h.store j o e).up, h.len⟩
  have e' : (st.r.set i (some (.exn c f)))[j]? = some (some s) := e
  by_cases hj : i = j
  · subst hj
    by_cases hl : i < st.r.length
    · rw [List.getElem?_set_self hl] at e'
      cases e'
      exact ⟨_, by rw [List.getElem?_set_self hi], i, x, rfl, rfl, rfl, hc, hf⟩
    · rw [List.getElem?_eq_none (by simpa using hl)] at e'; cases e'
  · rw [List.getElem?_set_ne hj] at e'
    obtain ⟨v, e1, e2⟩ := h.slot j s e'
    exact ⟨v, by rw [List.getElem?_set_ne hj]; exact e1, e2.up⟩
theorem Rel.drop (h : Rel K at_ (some x) g st σ H) : Rel K at_ none g (bareX st) σ H := by
  refine ⟨h.pro, h.sub, h.own, fun j s e => ?_, fun j o e => (h.store j o e).down, h.len⟩
  have e' : (st.r.map fun o => match o with | some (.exn _ _) => none | o => o)[j]? = some (some s) := e
  rw [List.getElem?_map] at e'
  cases q : st.r[j]? with
  | none => rw [q] at e'; cases e'
  | some o =>
    rw [q] at e'
    cases o with
    | none => cases e'
    | some t =>
      cases t with
      | dat d => cases e'; exact h.slot j _ q
      | own d => cases e'; exact h.slot j _ q
      | exn c f => cases e'
theorem Rel.clr (h : Rel K at_ none g st σ H) {i : Nat} : Rel K at_ none g (clrS i st) (σ.set i none) H := by
  refine ⟨h.pro, h.sub, h.own, fun j s e => ?_, h.store, h.len⟩
  have e' : (st.r.set i none)[j]? = some (some s) := e
  by_cases hj : i = j
  · subst hj
    by_cases hl : i < st.r.length
    · rw [List.getElem?_set_self hl] at e'; cases e'
    · rw [List.getElem?_eq_none (by simpa using hl)] at e'; cases e'
  · rw [List.getElem?_set_ne hj] at e'
    obtain ⟨v, e1, e2⟩ := h.slot j s e'
    exact ⟨v, by rw [List.getElem?_set_ne hj]; exact e1, e2⟩
abbrev endsAs (i : Nat) (D : Ends) : Ends := { nx := fun σ' H' => D.nx (σ'.set i none) H', rt := D.rt, bk := fun σ' H' => D.bk (σ'.set i none) H', ct := fun σ' H' => D.ct (σ'.set i none) H' }
theorem AftC.fix {W W' : WX} {i : Nat} {D : Ends} : ∀ {r : Fl}, AftC K at_ none W g D (fixX i r) → AftC K at_ (some x) W' g (endsAs i D) r
  | .nx _, h => fun g' σ' H' le R => h g' _ H' le R.drop.clr
  | .rt (.dat _) _, h => fun g' σ' v H' le R r => h g' σ' v H' le R.drop r
  | .rt (.own _) _, h => fun g' σ' v H' le R r => h g' σ' v H' le R.drop r
  | .rt (.exn _ _) _, h => h
  | .bk _, h => fun g' σ' H' le R => h g' _ H' le R.drop.clr
  | .ct _, h => fun g' σ' H' le R => h g' _ H' le R.drop.clr
  | .exc _ _, h => h.elim
  | .bad, h => h.elim
end
section
variable {X : Cx} {at_ : At} {xa : Option Xc} {W : WX} {x n : Str} {c : Value} {cs : List (String × Bool)} {fb fs : Cv} {body suite : List Stmt} {b₀ : Stmt} {np pos pos' : Pos} {i : Nat}
theorem ds_try (hc : Names X x c) (tk : Takes X W) (hx : ∀ q ∈ cs, PySem.W.exmOne X.K (.ref (at_ q.1)) c = some q.2)
    (hb : ∀ (W' : WX) (pn : List (Addr × Obj)) (xe : Value → Shared → Prop), Takes (X.tr pn xe) W' → PassesOwn (model X.prog X.w) X.A X.env xe → PSs (X.tr pn xe) body (qC X.K at_ xa W' fb))
    (hsu : ∀ (a : Addr) (oe : Obj) (cls : Value) (d : Option Addr) (pn : List (Addr × Obj)), Zc cls d oe → (∃ vs, oe.data = .fields vs) → PSs (X.suite a ((a, oe) :: pn)) (b₀ :: suite) (qC X.K at_ xa W0 fs))
    (hs : X.stack = X.env :: X.outer := by rfl) (hf : X.env.frame = some X.env.locals := by rfl) :
    PS X (.Try body [.ExceptHandler (some (.Name x np)) none (b₀ :: suite) pos'] [] [] pos) (qC X.K at_ xa W (sTry cs fb fs)) := by
  refine ps_imp (ps_try_only hs hf hc tk (tb := fun W' => qC X.K at_ xa W' fb) (ts := fun _ _ _ => qC X.K at_ xa W0 fs) hb hsu) fun D σ H hq => ?_
  obtain ⟨g, st, R, h⟩ := hq
  refine ⟨g, st, R, ?_⟩
  unfold sTry at h
  cases q : fb st with
  | nx st1 => rw [q] at h; exact h
  | rt s st1 => rw [q] at h; cases s <;> exact h
  | bk st1 => rw [q] at h; exact h
  | ct st1 => rw [q] at h; exact h
  | bad => rw [q] at h; exact h
  | exc e st1 =>
    rw [q] at h
    dsimp only at h
    intro g' σ' H' le R'
    cases l : cs.lookup e.c with
    | none => rw [l] at h; exact h.elim
    | some b =>
      rw [l] at h
      have e1 := hx _ (look_mem l)
      cases b with
      | true =>
        have go : ∀ d, wOnly X.K c (fun _ _ _ => qC X.K at_ xa W0 fs) W D (.ref (at_ e.c)) d σ' H' := fun d => ⟨true, e1, fun _ a ha => ⟨g', st1, R', AftC.le le (AftC.hush h)⟩, (fun z => nomatch z)⟩
        unfold ExOk
        split
        · exact go none
        · exact fun d v _ _ => go (some d)
      | false =>
        have k := h g' σ' H' le R'
        unfold ExOk at k ⊢
        split
        · rename_i z; rw [z] at k; exact ⟨false, e1, (fun z => nomatch z), fun _ => k⟩
        · rename_i f y z; rw [z] at k; exact fun d v k1 k2 => ⟨false, e1, (fun z => nomatch z), fun _ => k d v k1 k2⟩
theorem takes_len {X : Cx} {W' : WX} (t : Takes X W') : Takes X (fun cls d σ H => σ.length = X.N.length → W' cls d σ H) := fun u s' ⟨a, B, sI, pins, σ, H, cls, d, e, I, nb, up, sky, na, os, ag, w⟩ =>
  t u s' ⟨a, B, sI, pins, σ, H, cls, d, e, I, nb, up, sky, na, os, ag, w I.len⟩
theorem ds_tryAs (hN : X.N.Nodup) (hi : X.N[i]? = some n) (hln : X.env.kindOf n = some .local) (hc : Names X x c) (tk : Takes X W) (hx : ∀ q ∈ cs, PySem.W.exmOne X.K (.ref (at_ q.1)) c = some q.2)
    (hb : ∀ (W' : WX) (pn : List (Addr × Obj)) (xe : Value → Shared → Prop), Takes (X.tr pn xe) W' → PassesOwn (model X.prog X.w) X.A X.env xe → PSs (X.tr pn xe) body (qC X.K at_ none W' fb))
    (hsu : ∀ (a : Addr) (oe : Obj) (cls : Value) (d : Option Addr) (pn : List (Addr × Obj)), Zc cls d oe → (∃ vs, oe.data = .fields vs) → PSs (X.suite a ((a, oe) :: pn)) (b₀ :: suite) (qC X.K at_ (some ⟨a, cls, d⟩) W0 fs))
    (hs : X.stack = X.env :: X.outer := by rfl) (hf : X.env.frame = some X.env.locals := by rfl) :
    PS X (.Try body [.ExceptHandler (some (.Name x np)) (some n) (b₀ :: suite) pos'] [] [] pos) (qC X.K at_ none W (sTryAs i cs fb fs)) := by
  have hiN : i < X.N.length := (List.getElem?_eq_some_iff.mp hi).1
  refine ps_imp' (ps_imp (ps_try_as hs hf hN hi hln hc tk (tb := fun W' => qC X.K at_ none (fun cls d σ H => σ.length = X.N.length → W' cls d σ H) fb) (ts := fun a cls d => qC X.K at_ (some ⟨a, cls, d⟩) W0 fs) (fun W' pn xe t1 t2 => hb _ pn xe (takes_len t1) t2) hsu) fun D σ H h => h) fun D σ H hl hq => ?_
  obtain ⟨g, st, R, h⟩ := hq
  refine ⟨g, st, R, ?_⟩
  unfold sTryAs at h
  cases q : fb st with
  | nx st1 => rw [q] at h; exact h
  | rt s st1 => rw [q] at h; cases s <;> exact h
  | bk st1 => rw [q] at h; exact h
  | ct st1 => rw [q] at h; exact h
  | bad => rw [q] at h; exact h
  | exc e st1 =>
    rw [q] at h
    dsimp only at h
    intro g' σ' H' le R'
    cases l : cs.lookup e.c with
    | none => rw [l] at h; exact h.elim
    | some b =>
      rw [l] at h
      have e1 := hx _ (look_mem l)
      cases b with
      | true =>
        have go : ∀ (d : Option Addr), (∀ a : Addr, Rel X.K at_ (some ⟨a, .ref (at_ e.c), d⟩) g' (setR st1 i (.exn e.c e.f)) (σ'.set i (some (.ref a))) H') →
            wAs X.K c i (fun a cls d => qC X.K at_ (some ⟨a, cls, d⟩) W0 fs) W D (.ref (at_ e.c)) d σ' H' := fun d hr =>
          ⟨true, e1, fun _ a ha => ⟨g', _, hr a, AftC.fix (AftC.le le h)⟩, (fun z => nomatch z)⟩
        unfold ExOk
        split
        · rename_i z
          intro hl
          exact go none fun a => R'.holdX (by rw [hl]; exact hiN) rfl (by rw [z])
        · rename_i f y z
          intro d v k1 k2 hl
          exact go (some d) fun a => R'.holdX (by rw [hl]; exact hiN) rfl (by rw [z]; exact ⟨d, v, rfl, k1, k2⟩)
      | false =>
        have k := h g' σ' H' le R'
        unfold ExOk at k ⊢
        split
        · rename_i z; rw [z] at k; exact fun _ => ⟨false, e1, (fun z => nomatch z), fun _ => k⟩
        · rename_i f y z; rw [z] at k; exact fun d v k1 k2 _ => ⟨false, e1, (fun z => nomatch z), fun _ => k d v k1 k2⟩
/-- isinstance(n, c), n what the suite holds -/
def eIsE (i : Nat) (cs : List (String × Bool)) : Ev := fun st => match st.r[i]? with
  | some (some (.exn c none)) => lift ((cs.lookup c).map D.bl) st
  | _ => .bad
theorem de_isE {a : Addr} {oe : Obj} {cls : Value} {d : Option Addr} {pn : List (Addr × Obj)} {C : Str} {vC : V} {p p1 p2 : Pos} (hz : Zc cls d oe) (hfl : ∃ vs, oe.data = .fields vs) (hv : PE (X.suite a ((a, oe) :: pn)) (.Name n p1) (tVar i))
    (hC : PE (X.suite a ((a, oe) :: pn)) (.Name C p2) (tC vC)) (hvC : ∀ u, RelV vC u → u = c) (hx : ∀ q ∈ cs, ExcC X.K (at_ q.1) ∧ PySem.W.kitOne X.K (.ref (at_ q.1)) c = some q.2) (hg : Gl X "isinstance") (hm : X.mg "isinstance" = none) (hbt : bootBuiltins "isinstance" = some (.builtin "isinstance") := by decide +kernel) :
    PE (X.suite a ((a, oe) :: pn)) (.Call (.Name "isinstance" p) [.Name n p1, .Name C p2] [] pos) (qE X.K at_ (some ⟨a, cls, d⟩) W (eIsE i cs)) := by
  refine ⟨fun pins s σ H Q I hq => ?_⟩
  obtain ⟨g, st, R, h⟩ := hq
  unfold eIsE at h
  split at h
  · rename_i cn hst
    obtain ⟨v, e1, j, y, _, e2, rfl, e3, e4⟩ := R.slot i _ hst
    cases e2
    dsimp only at e3 e4
    subst e3 e4
    obtain ⟨db, e5, h⟩ := h.lift
    cases l : cs.lookup cn with
    | none => rw [l] at e5; cases e5
    | some b =>
      rw [l] at e5
      cases e5
      obtain ⟨k1, k2⟩ := hx _ (look_mem l)
      refine (pe_callB (call_isE k1 hz hfl) hg hm hbt (pa_cons hv (pa_cons hC pa_nil))).run pins s σ H Q I ?_
      exact ⟨_, e1, vC, c, b, rfl, hvC, k2, h g H (G.le.refl g) R (.bl b) (by unfold Rep; rfl)⟩
  · exact h.elim
end
end Pl
/-! The pure layer: several except clauses, some with names; range of three; all; whole numbers of the module. -/
namespace Pl
open PySem PySem.Spec PyProof.Rows L2
abbrev ClT := Value × Option Nat × (Addr → Value → Option Addr → TS)
def endO : Option Nat → Ends → Ends
  | none, D => D
  | some i, D => endsAs i D
def setO : Option Nat → Addr → L2.St → L2.St
  | none, _, σ => σ
  | some i, a, σ => σ.set i (some (.ref a))
/-- the wishes of clauses of which some have names -/
def wMix (K : PySem.W.Frag) (Wo : WX) (D : Ends) : List ClT → WX
  | [] => Wo
  | (c, i, ts) :: r => fun cls d σ H => ∃ b, PySem.W.exmOne K cls c = some b ∧ (b = true → ∀ a, H a = none → ts a cls d (endO i D) (setO i a σ) H) ∧ (b = false → wMix K Wo D r cls d σ H)
inductive HdsX (X : Cx) : List ExceptHandler → List ClT → Prop
  | nil : HdsX X [] []
  | cons {x : Str} {n : Option Str} {i : Option Nat} {c : Value} {ts : Addr → Value → Option Addr → TS} {b₀ : Stmt} {suite : List Stmt} {np pos' : Pos} {hds : List ExceptHandler} {l : List ClT} (hc : Names X x c)
      (hn : (n = none ∧ i = none) ∨ ∃ y j, n = some y ∧ i = some j ∧ X.N[j]? = some y ∧ X.env.kindOf y = some .local)
      (hsu : ∀ (a : Addr) (oe : Obj) (cls : Value) (d : Option Addr) (pn : List (Addr × Obj)), Zc cls d oe → (∃ vs, oe.data = .fields vs) → PSs (X.suite a ((a, oe) :: pn)) (b₀ :: suite) (ts a cls d)) (r : HdsX X hds l) :
      HdsX X (.ExceptHandler (some (.Name x np)) n (b₀ :: suite) pos' :: hds) ((c, i, ts) :: l)
section
variable {X : Cx} {body : List Stmt} {h₀ : ExceptHandler} {hds : List ExceptHandler} {l : List ClT} {pos : Pos} {tb : WX → TS} {Wo : WX}
theorem ps_try_mix (hs : X.stack = X.env :: X.outer) (hf : X.env.frame = some X.env.locals) (hN : X.N.Nodup) (tk : Takes X Wo) (hb : ∀ (W : WX) (pn : List (Addr × Obj)) (xe : Value → Shared → Prop), Takes (X.tr pn xe) W → PassesOwn (model X.prog X.w) X.A X.env xe → PSs (X.tr pn xe) body (tb W))
    (hh : HdsX X (h₀ :: hds) l) : PS X (.Try body (h₀ :: hds) [] [] pos) (fun D σ H => tb (wMix X.K Wo D l) D σ H) := by
  refine ⟨fun pins s σ H D I hq => ?_⟩
  have ok := I.ok
  have frames : X.A.frames = some (X.env :: X.outer) := ok.frames.trans (by rw [hs])
  let catchE : Value → Shared → Prop := fun e s₁ => wpAny (model X.prog X.w) X.A (noteFrame e X.env) (fun _ s₂ => wpAny (model X.prog X.w) X.A (setFlight e none) (fun _ s₃ => wpAny (model X.prog X.w) X.A (handleBy e X.env (h₀ :: hds)) (SP X pins D) X.xe s₃) X.xe s₂) X.xe s₁
  have caught : Takes (X.tr (X.pn ++ pins) catchE) (wMix X.K Wo D l) := by
    rintro u s' ⟨a, B, sI, pins', σ', H', cls, d, rfl, J', nb, up, sky, na, os, ag, w⟩
    have J : Inv X pins σ' H' sI := J'.ofTry ok
    have sky2 : Sky B (X.env :: X.outer) a (Zc cls d) X.env.locals s'.heap := (show X.stack = _ from hs) ▸ sky
    show wpAny (model X.prog X.w) X.A (noteFrame (.ref a) X.env) _ _ _
    refine Sky.land Zc.steady frames hf sky2 fun hp3 fl3 up3 => ?_
    have J3 : Inv X pins σ' H' { s' with heap := hp3 } := J.landed nb fl3.1 (up.trans up3) os ag
    obtain ⟨oe3, vs3, he3, hz3, hd3⟩ := fl3.there
    have off : a ∉ frs (X.env :: X.outer) := fun hm => by
      obtain ⟨_, o', e', hnf⟩ := fl3.2.2.1.mem hm
      rw [he3] at e'
      cases e'
      exact hnf _ hd3
    have offL : a ≠ X.env.locals := fun z => off (List.mem_filterMap.mpr ⟨X.env, List.mem_cons_self, hf.trans (by rw [z])⟩)
    have offF : a ∉ X.fs := fun hm => by
      obtain ⟨e, he, q⟩ := List.mem_filterMap.mp hm
      exact off (List.mem_filterMap.mpr ⟨e, List.mem_cons_of_mem _ he, q⟩)
    have S3 := J3.suite he3 hd3 na offL offF
    have go : ∀ {hds' : List ExceptHandler} {l' : List ClT}, HdsX X hds' l' → wMix X.K Wo D l' cls d σ' H' → wpAny (model X.prog X.w) X.A (handleBy (.ref a) X.env hds') (SP X pins D) X.xe { s' with heap := hp3 } := by
      intro hds' l' hk
      induction hk with
      | nil =>
        intro w
        refine wpAny_handleBy_nil ?_
        obtain ⟨k1, k2, k3, oe, vs, T, oT, ts', he, hz, hd, h1, hr⟩ := id fl3
        unfold PySem.passOn
        refine wpAny_bind (wpAny_field he hd h1 ?_)
        rw [if_neg (show ¬ ((Value.ref T == Value.none) = true) from by simp), hf]
        have fin : wpAny (model X.prog X.w) X.A (setFlight (.ref a) (some X.env.locals)) (fun _ s4 => wpAny (model X.prog X.w) X.A (throw (.ref a) : Sem Flow) (SP X pins D) X.xe s4) X.xe { s' with heap := hp3 } :=
          HandSPX.setFlight_upZ fl3 fun h4 hh4 up4 => wpAny_throw (tk _ _ ⟨a, B, sI, pins, σ', H', cls, d, rfl, J, nb, (up.trans up3).trans up4, .inr (.inr (by rw [hs]; exact hh4)), na, os, ag, w⟩)
        first | exact wpAny_bind (wpAny_pure (wpAny_bind fin)) | exact wpAny_bind fin
      | @cons x n i c ts b₀ suite np pos' hds2 l2 hc hn hsu r ih =>
        rintro ⟨b, hb1, hyes, hno⟩
        refine wpAny_handleBy_cons (codeAny_handlers_test ?_) (by intro q; cases q)
        have LT : PySem.W.Looks (model X.prog X.w) hp3 (typeOf (.ref a)) cls := fun A Q E s k q => wpAny_typeOf_ref (k _ _ he3) (by rw [hz3.1]; exact q)
        have LM := PySem.W.exm_one (M := model X.prog X.w) (J3.kIn) LT hb1
        have asks : ∀ {Q : Value → Shared → Prop} {E : Value → Shared → Prop}, Q c { s' with heap := hp3 } → wpAny (model X.prog X.w) (X.A.mark (some (.ref a))) (eval (.Name x np) X.env) Q E { s' with heap := hp3 } := by
          intro Q E q
          rcases hc with ⟨hg, hdbg, hm | ⟨hm, hv, hnn⟩⟩
          · exact ld_glob (X := X.suite a ((a, oe3) :: (X.pn ++ pins))) S3 hg hm q hdbg
          · exact ld_blt (X := X.suite a ((a, oe3) :: (X.pn ++ pins))) S3 hg hm hv q hnn hdbg
        refine asks (LM.here ?_)
        cases b with
        | false => exact ih (hno rfl)
        | true =>
          have w5 := hyes rfl a na
          rcases hn with ⟨rfl, rfl⟩ | ⟨y, j, rfl, rfl, hi, hln⟩
          · refine codeAny_handlers_suite (HandSPX.lands_againZ fl3 fun h4 fl4 up4 => ?_)
            have J4 : Inv X pins σ' H' { s' with heap := h4 } := J.landed nb fl4.1 ((up.trans up3).trans up4) os ag
            obtain ⟨oe4, vs4, he4, hz4, hd4⟩ := fl4.there
            refine wpAny_mono ((hsu a oe4 cls d (X.pn ++ pins) hz4 ⟨_, hd4⟩).run [] _ _ H' _ (J4.suite he4 hd4 na offL offF) w5) (fun f s6 hsp => ?_) (fun _ _ z => False.elim z)
            cases f with
            | ret u => obtain ⟨v6, σ6, H6, S6, r6, q6⟩ := hsp; exact ⟨_, _, _, S6.unsuite ok, r6, q6⟩
            | _ => obtain ⟨σ6, H6, S6, q6⟩ := hsp; exact ⟨_, _, S6.unsuite ok, q6⟩
          · refine codeAny_handlers_suite_as (HandSPX.lands_againZ fl3 fun h4 fl4 up4 => ?_)
            have J4 : Inv X pins σ' H' { s' with heap := h4 } := J.landed nb fl4.1 ((up.trans up3).trans up4) os ag
            obtain ⟨oe4, vs4, he4, hz4, hd4⟩ := fl4.there
            refine store_ok (X := X.suite a ((a, oe4) :: (X.pn ++ pins))) (v := .ref a) (J4.suite he4 hd4 na offL offF) hN hi (.inl hln) rfl (fun s5 S5 => ?_) (.inr hln)
            refine wpAny_mono ((hsu a oe4 cls d (X.pn ++ pins) hz4 ⟨_, hd4⟩).run [] s5 _ H' _ S5 w5) (fun f s6 hsp => ?_) (fun _ _ z => False.elim z)
            have leave : ∀ {σ6 : L2.St} {H6 : Hp} {Q : Shared → Prop}, Inv (X.suite a ((a, oe4) :: (X.pn ++ pins))) [] σ6 H6 s6 → (∀ s7, Inv X pins (σ6.set j none) H6 s7 → Q s7) →
                wpAny (model X.prog X.w) X.A (do bindName X.env y .none; unbindBehindTheSuite X.env y pos') (fun _ s7 => Q s7) X.xe s6 := fun S6 hq => gone_ok (S6.unsuite ok) hN hi hln hq
            cases f with
            | ret u => obtain ⟨v6, σ6, H6, S6, r6, q6⟩ := hsp; exact leave S6 fun s7 J7 => ⟨_, _, _, J7, r6, q6⟩
            | _ => obtain ⟨σ6, H6, S6, q6⟩ := hsp; exact leave S6 fun s7 J7 => ⟨_, _, J7, q6⟩
    exact go hh w
  refine wpAny_Try_except (wpAny_mono ((hb _ (X.pn ++ pins) catchE caught PassesOwn.looking).run [] s σ H D (I.toTry _) hq) (fun f s1 hsp => ?_) (fun e s1 he => he))
  cases f with
  | next => obtain ⟨σ', H', J', q⟩ := hsp; exact wpAny_execs_nil ⟨σ', H', J'.ofTry ok, q⟩
  | ret u => obtain ⟨v, σ', H', J', r, q⟩ := hsp; exact ⟨v, σ', H', J'.ofTry ok, r, q⟩
  | _ => obtain ⟨σ', H', J', q⟩ := hsp; exact ⟨σ', H', J'.ofTry ok, q⟩
end
/-- a clause: its class, its name's slot, which classes it takes, its suite -/
structure ClD where
  c : Value
  i : Option Nat
  cs : List (String × Bool)
  f : Cv
def capX : Option Nat → Cv → Ex → Stt → Fl
  | none, fs, _, st1 => hush (fs st1)
  | some i, fs, e, st1 => fixX i (fs (setR st1 i (.exn e.c e.f)))
def goX (e : Ex) (st1 : Stt) : List (Option Nat × List (String × Bool) × Cv) → Fl
  | [] => .exc e st1
  | (i, cs, fs) :: r => match cs.lookup e.c with
    | some true => capX i fs e st1
    | some false => goX e st1 r
    | none => .bad
def sTryX (l : List (Option Nat × List (String × Bool) × Cv)) (fb : Cv) : Cv := fun st => match fb st with
  | .exc e st1 => goX e st1 l
  | x => x
def xaO : Option Nat → Addr → Value → Option Addr → Option Xc
  | none, _, _, _ => none
  | some _, a, cls, d => some ⟨a, cls, d⟩
abbrev ClD.cl (K : PySem.W.Frag) (at_ : At) (q : ClD) : ClT := (q.c, q.i, fun a cls d => qC K at_ (xaO q.i a cls d) W0 q.f)
abbrev ClD.p (q : ClD) : Option Nat × List (String × Bool) × Cv := (q.i, q.cs, q.f)
section
variable {X : Cx} {at_ : At} {W : WX} {fb : Cv} {body : List Stmt} {h₀ : ExceptHandler} {hds : List ExceptHandler} {pos : Pos} {l : List ClD}
theorem wMix_of {D : Ends} {e : Ex} {d : Option Addr} {g g' : G} {st1 : Stt} {σ' : L2.St} {H' : Hp} (le : g.le g') (R' : Rel X.K at_ none g' st1 σ' H') (hd : match e.f with
    | none => d = none
    | some p => ∃ b u, d = some b ∧ g'.F b = some (.xd [(p.1, u)]) ∧ Rep X.K at_ g'.F g'.m p.2 u) (ho : AftC X.K at_ none W g D (.exc e st1) → W (.ref (at_ e.c)) d σ' H') :
    ∀ l : List ClD, (∀ q ∈ l, ∀ z ∈ q.cs, PySem.W.exmOne X.K (.ref (at_ z.1)) q.c = some z.2) → (∀ q ∈ l, ∀ i, q.i = some i → i < σ'.length) → AftC X.K at_ none W g D (goX e st1 (l.map ClD.p)) → wMix X.K W D (l.map (ClD.cl X.K at_)) (.ref (at_ e.c)) d σ' H'
  | [], _, _, h => ho h
  | ⟨c, i, cs, f⟩ :: l, hx, hi, h => by
    have h1 : AftC X.K at_ none W g D (match cs.lookup e.c with
      | some true => capX i f e st1
      | some false => goX e st1 (l.map ClD.p)
      | none => .bad) := h
    cases q : cs.lookup e.c with
    | none => rw [q] at h1; exact h1.elim
    | some b =>
      rw [q] at h1
      have e1 := hx _ List.mem_cons_self _ (look_mem q)
      cases b with
      | false => exact ⟨false, e1, (fun z => nomatch z), fun _ => wMix_of le R' hd ho l (fun y hy => hx y (List.mem_cons_of_mem _ hy)) (fun y hy => hi y (List.mem_cons_of_mem _ hy)) h1⟩
      | true =>
        refine ⟨true, e1, fun _ a ha => ?_, (fun z => nomatch z)⟩
        cases i with
        | none => exact ⟨g', st1, R', AftC.le le (AftC.hush h1)⟩
        | some i => exact ⟨g', _, R'.holdX (x := ⟨a, .ref (at_ e.c), d⟩) (hi _ List.mem_cons_self i rfl) rfl hd, AftC.fix (AftC.le le h1)⟩
theorem ds_tryX (hN : X.N.Nodup) (tk : Takes X W) (hx : ∀ q ∈ l, ∀ z ∈ q.cs, PySem.W.exmOne X.K (.ref (at_ z.1)) q.c = some z.2) (hi : ∀ q ∈ l, ∀ i, q.i = some i → i < X.N.length)
    (hb : ∀ (W' : WX) (pn : List (Addr × Obj)) (xe : Value → Shared → Prop), Takes (X.tr pn xe) W' → PassesOwn (model X.prog X.w) X.A X.env xe → PSs (X.tr pn xe) body (qC X.K at_ none W' fb))
    (hh : HdsX X (h₀ :: hds) (l.map (ClD.cl X.K at_))) (hs : X.stack = X.env :: X.outer := by rfl) (hf : X.env.frame = some X.env.locals := by rfl) :
    PS X (.Try body (h₀ :: hds) [] [] pos) (qC X.K at_ none W (sTryX (l.map ClD.p) fb)) := by
  refine ps_imp (ps_try_mix hs hf hN tk (tb := fun W' => qC X.K at_ none (fun cls d σ H => σ.length = X.N.length → W' cls d σ H) fb) (fun W' pn xe t1 t2 => hb _ pn xe (takes_len t1) t2) hh) fun D σ H hq => ?_
  obtain ⟨g, st, R, h⟩ := hq
  refine ⟨g, st, R, ?_⟩
  unfold sTryX at h
  cases q : fb st with
  | nx st1 => rw [q] at h; exact h
  | rt s st1 => rw [q] at h; cases s <;> exact h
  | bk st1 => rw [q] at h; exact h
  | ct st1 => rw [q] at h; exact h
  | bad => rw [q] at h; exact h
  | exc e st1 =>
    rw [q] at h
    dsimp only at h
    intro g' σ' H' le R'
    have ho : ∀ d, (match e.f with
        | none => d = none
        | some p => ∃ b u, d = some b ∧ g'.F b = some (.xd [(p.1, u)]) ∧ Rep X.K at_ g'.F g'.m p.2 u) → AftC X.K at_ none W g D (.exc e st1) → W (.ref (at_ e.c)) d σ' H' := fun d hd k => by
      have k1 := k g' σ' H' le R'
      unfold ExOk at k1
      split at k1
      · rename_i z; rw [z] at hd; subst hd; exact k1
      · rename_i f y z
        rw [z] at hd
        obtain ⟨b, u, rfl, z1, z2⟩ := hd
        exact k1 b u z1 z2
    unfold ExOk
    split
    · rename_i z
      exact fun hl => wMix_of le R' (by rw [z]) (ho none (by rw [z])) l hx (fun y hy i e => by rw [hl]; exact hi y hy i e) h
    · rename_i f y z
      exact fun d v k1 k2 hl => wMix_of le R' (by rw [z]; exact ⟨d, v, rfl, k1, k2⟩) (ho (some d) (by rw [z]; exact ⟨d, v, rfl, k1, k2⟩)) l hx (fun y hy i e => by rw [hl]; exact hi y hy i e) h
end
/-! ### whole numbers of the module -/
theorem de_cint {X : Cx} {at_ : At} {xa : Option Xc} {W : WX} {x : Str} {i : Int} {pos : Pos} (hg : Gl X x) (hm : ∃ t, X.mg x = some (.int i t)) (hd : (x == ("__debug__" : Str)) = false := by decide) : PE X (.Name x pos) (qE X.K at_ xa W (eC (.int i))) := by
  obtain ⟨t, hm⟩ := hm
  refine pe_imp (pe_glob hg hm (v := .int i) ⟨t, rfl⟩ hd) fun σ H Q hq => ?_
  obtain ⟨g, st, R, h⟩ := hq
  exact h g H (G.le.refl g) R (.int i) (by unfold Rep; rfl)
/-! ### all -/
section
def blsD : List D → Option (List Bool)
  | [] => some []
  | .bl b :: ds => (blsD ds).map (b :: ·)
  | _ => none
def kAll : List SO → List D → Option D := fun _ xs => match xs with
  | [d] => match lstD d with
    | some ds => (blsD ds).map fun bs => .bl (bs.all id)
    | none => none
  | _ => none
variable {K : PySem.W.Frag} {at_ : At} {xa : Option Xc}
theorem Reps.bls {F : Hp} {m : List Addr} : ∀ {ds : List D} {vs : List V} {bs : List Bool}, Reps K at_ F m ds vs → blsD ds = some bs → vs = bs.map V.bl
  | [], _, _, h, e => by rw [h.unnil]; unfold blsD at e; cases e; rfl
  | d :: ds, _, _, h, e => by
    obtain ⟨v, r, rfl, q, z⟩ := h.uncons
    cases d with
    | bl x =>
      unfold blsD at e
      cases z1 : blsD ds with
      | none => rw [z1] at e; cases e
      | some p =>
        rw [z1] at e; cases e
        have q' : v = .bl x := by unfold Rep at q; exact q
        rw [q', Reps.bls z z1]; rfl
    | _ => unfold blsD at e; cases e
theorem v_all : VOpN K at_ xa (rAll K) kAll := by
  intro g st σ H xs ds d Q R rs e k
  unfold kAll at e
  split at e
  · rename_i x
    obtain ⟨v, rfl, q⟩ := rs.one
    split at e
    · rename_i es hes
      cases z : blsD es with
      | none => rw [z] at e; cases e
      | some bs =>
        rw [z] at e
        cases e
        obtain ⟨a, vs, rfl, q1, q2⟩ := lstD_rep hes q
        have ev := Reps.bls q2 z
        subst ev
        exact ⟨a, bs, rfl, SqL.le q1 fun a o z => (R.sub a o z).1, k g _ H (G.le.refl g) R (by unfold Rep; rfl)⟩
    · cases e
  · cases e
end
section
variable {X : Cx} {at_ : At} {xa : Option Xc} {W : WX} {tg a b c : Expr} {fr : Av} {p pos : Pos}
theorem Reps.three {K : PySem.W.Frag} {at_ : At} {F : Hp} {m : List Addr} {x y z : D} {vs : List V} (r : Reps K at_ F m [x, y, z] vs) : ∃ u v w, vs = [u, v, w] ∧ Rep K at_ F m x u ∧ Rep K at_ F m y v ∧ Rep K at_ F m z w := by
  obtain ⟨u, r1, rfl, q1, z1⟩ := r.uncons
  obtain ⟨v, r2, rfl, q2, z2⟩ := z1.uncons
  obtain ⟨w, r3, rfl, q3, z3⟩ := z2.uncons
  rw [z3.unnil]
  exact ⟨u, v, w, rfl, q1, q2, q3⟩
theorem di_range3 (hg : Gl X "range") (hm : X.mg "range" = none) (ha : PA X [a, b, c] (qA X.K at_ xa W fr)) (hs : starEach [a, b, c] X.env = (false, eval a X.env) :: starEach [b, c] X.env := by rfl) (hpl : (backTo pos (starEach [b, c] X.env)).any (·.1) = false := by rfl) :
    PI X tg (.Call (.Name "range" p) [a, b, c] [] pos) (qI X.K at_ xa W (aOn rng3 fr)) := by
  refine pi_imp (pi_range3 hg hm ha hs hpl) fun σ H R hq => ?_
  obtain ⟨g, st, Rl, h⟩ := hq
  refine ⟨g, st, Rl, h.bind fun g1 H1 ds st1 le1 R1 h1 vs rs => ?_⟩
  obtain ⟨items, e, h2⟩ := h1.lift
  unfold rng3 at e
  split at e
  · split at e
    · rename_i i j k hj
      cases e
      obtain ⟨u, v, w, rfl, q, q', q''⟩ := rs.three
      refine ⟨i, j, k, (Builtin.Range.rangeSize i j k).toNat, by rw [q.i, q'.i, q''.i], ⟨hj.1, hj.2.1, hj.2.2, ?_⟩, h2.ok R1 _ (walk_rngC i k _)⟩
      have h0 : 0 ≤ Builtin.Range.rangeSize i j k := by
        unfold Builtin.Range.rangeSize
        split <;> split
        · have := Int.ediv_nonneg (show (0 : Int) ≤ j - i - 1 by omega) (show 0 ≤ k by omega); omega
        · omega
        · have := Int.ediv_nonneg (show (0 : Int) ≤ i - j - 1 by omega) (show 0 ≤ -k by omega); omega
        · omega
      omega
    · cases e
  · cases e
end
end Pl
/-! The pure layer: what the module's exception classes must say; a hook that reads it. -/
namespace Pl
open PySem PySem.Spec PyProof.Rows L2
def excCB (K : PySem.W.Frag) (D : Addr) : Bool := decide (PySem.W.findIn K (.ref D) "__getattribute__" = some (some (.builtin "BaseException.__getattribute__"))) && (decide (PySem.W.findIn K (.ref D) "__getattr__" = some none) && (decide (PySem.W.subIn K (.ref D) (.type "BaseException") = some true) &&
  (PySem.W.hasDictIn K D && (decide (PySem.W.findIn K (.ref D) "__class__" = some (some (.builtin "object.__class__"))) && (decide (PySem.W.specialIn K (.builtin "object.__class__") "__get__" = some (some (.builtin "getset_descriptor.__get__"))) &&
  (decide (PySem.W.takesIn K (.builtin "object.__class__") = some true) && decide (PySem.W.mroIn K D (.type "object") = some true)))))))
theorem excCB_ok {K : PySem.W.Frag} {D : Addr} (h : excCB K D = true) : ExcC K D := by
  obtain ⟨h1, h⟩ := He.ba h
  obtain ⟨h2, h⟩ := He.ba h
  obtain ⟨h3, h⟩ := He.ba h
  obtain ⟨h4, h⟩ := He.ba h
  obtain ⟨h5, h⟩ := He.ba h
  obtain ⟨h6, h⟩ := He.ba h
  obtain ⟨h7, h8⟩ := He.ba h
  exact ⟨of_decide_eq_true h1, of_decide_eq_true h2, of_decide_eq_true h3, h4, of_decide_eq_true h5, of_decide_eq_true h6, of_decide_eq_true h7, of_decide_eq_true h8⟩
/-- a class of the module's own, a built-in one -/
inductive CvN where
  | own (c : String) | ty (n : String)
def CvN.v (K : PySem.W.Frag) : CvN → Value
  | .own c => .ref (atK K c)
  | .ty n => .type n
inductive XF where
  | exc (c : String)
  | cls (c : String)
  | exm (y : CvN) (cs : List (String × Bool))
  | kit (y : CvN) (cs : List (String × Bool))
  | stup (c : String) (zs : List String)
/-- a tuple of texts that stands in the written part -/
def strsB : List Value → List String → Bool
  | [], [] => true
  | .str z _ :: vs, x :: xs => decide (z = Str.ofString x) && strsB vs xs
  | _, _ => false
def tupB (K : PySem.W.Frag) (a : Addr) (zs : List String) : Bool := match K.lookup a with
  | some o => decide (o.cls = .type "tuple") && match o.data with
    | .seq its _ => decide (its.size ≤ 1000) && strsB its.toList zs
    | _ => false
  | none => false
theorem strsB_ok : ∀ {vs : List Value} {zs : List String}, strsB vs zs = true → Vals (zs.map fun z => V.str (Str.ofString z)) vs
  | [], [], _ => .nil
  | [], _ :: _, h => by cases h
  | v :: vs, [], h => by cases v <;> cases h
  | v :: vs, x :: xs, h => by
    cases v with
    | str z t =>
      obtain ⟨h1, h2⟩ := He.ba h
      have e := of_decide_eq_true h1
      subst e
      exact .cons ⟨t, rfl⟩ (strsB_ok h2)
    | _ => cases h
theorem tupB_ok {K : PySem.W.Frag} {F : Hp} {a : Addr} {zs : List String} (h : tupB K a zs = true) : SqT K F a (zs.map fun z => V.str (Str.ofString z)) := by
  unfold tupB at h
  cases e : K.lookup a with
  | none => rw [e] at h; cases h
  | some o =>
    rw [e] at h
    obtain ⟨h1, h2⟩ := He.ba h
    cases e2 : o.data with
    | seq its n =>
      rw [e2] at h2
      obtain ⟨h3, h4⟩ := He.ba h2
      exact .inr ⟨o, its, n, e, of_decide_eq_true h1, e2, Nat.le_trans (of_decide_eq_true h3) (by rw [PySem.sizeLine_eq]; omega), strsB_ok h4⟩
    | _ => rw [e2] at h2; cases h2
def XF.ok (K : PySem.W.Frag) : XF → Bool
  | .exc c => (He.Fa.exc c).ok K
  | .cls c => (He.Fa.glo c).ok K
  | .stup c zs => tupB K (atK K c) zs
  | .exm y cs => cs.all fun q => decide (PySem.W.exmOne K (.ref (atK K q.1)) (y.v K) = some q.2)
  | .kit y cs => cs.all fun q => excCB K (atK K q.1) && decide (PySem.W.kitOne K (.ref (atK K q.1)) (y.v K) = some q.2)
theorem XF.exm_ok {K : PySem.W.Frag} {y : CvN} {cs : List (String × Bool)} (h : (XF.exm y cs).ok K = true) : ∀ q ∈ cs, PySem.W.exmOne K (.ref (atK K q.1)) (y.v K) = some q.2 := fun q hq =>
  of_decide_eq_true (List.all_eq_true.mp (show (cs.all fun q => decide (PySem.W.exmOne K (.ref (atK K q.1)) (y.v K) = some q.2)) = true from h) q hq)
theorem XF.kit_ok {K : PySem.W.Frag} {y : CvN} {cs : List (String × Bool)} (h : (XF.kit y cs).ok K = true) : ∀ q ∈ cs, ExcC K (atK K q.1) ∧ PySem.W.kitOne K (.ref (atK K q.1)) (y.v K) = some q.2 := fun q hq => by
  obtain ⟨h1, h2⟩ := He.ba (List.all_eq_true.mp (show (cs.all fun q => excCB K (atK K q.1) && decide (PySem.W.kitOne K (.ref (atK K q.1)) (y.v K) = some q.2)) = true from h) q hq)
  exact ⟨excCB_ok h1, of_decide_eq_true h2⟩
theorem XF.stup_ok {K : PySem.W.Frag} {c : String} {zs : List String} (h : (XF.stup c zs).ok K = true) : tupB K (atK K c) zs = true := h
/-- a module's tuple of texts, by its name -/
theorem de_ctup {X : Cx} {xa : Option Xc} {W : WX} {c : String} {zs : List String} {pos : Pos} (hg : Gl X (Str.ofString c)) (hm : X.mg (Str.ofString c) = some (.ref (atK X.K c)) ∧ tupB X.K (atK X.K c) zs = true) (hdb : (Str.ofString c == ("__debug__" : Str)) = false := by decide) :
    PE X (.Name (Str.ofString c) pos) (qE X.K (atK X.K) xa W (eC (.tup (zs.map fun z => .str (Str.ofString z))))) :=
  de_C (v := .ref (atK X.K c)) (pe_glob hg hm.1 (show RelV (.ref (atK X.K c)) (.ref (atK X.K c)) from rfl) hdb) fun F m => by
    unfold Rep
    refine ⟨_, _, rfl, tupB_ok hm.2, ?_⟩
    have : ∀ zs : List String, Reps X.K (atK X.K) F m (zs.map fun z => .str (Str.ofString z)) (zs.map fun z => V.str (Str.ofString z)) := by
      intro zs
      induction zs with
      | nil => exact Reps.nil
      | cons z zs ih => exact Reps.cons (by unfold Rep; rfl) ih
    exact this zs
/-- a class that is raised -/
structure ExD (K : PySem.W.Frag) (mg : Str → Option Value) (c : String) : Prop where
  q : PySem.W.excIn K (atK K c) He.veBase "ValueError.__new__" = true
  k : PySem.W.keepIn K (.ref (atK K c)) = true
  s : PySem.W.subIn K (.ref (atK K c)) (.type "BaseException") = some true
  t : PySem.W.typeIn K (.ref (atK K c)) = some (.type "type")
  g : mg (Str.ofString c) = some (.ref (atK K c))
theorem ExD.of {K : PySem.W.Frag} {mg : Str → Option Value} {c : String} (h : (XF.exc c).ok K = true) (g : mg (Str.ofString c) = some (.ref (atK K c))) : ExD K mg c := by
  obtain ⟨h1, h2, h3, h4⟩ := He.exc_ok (x := c) h
  exact ⟨h1, h2, h3, h4, g⟩
theorem ds_raiseD {X : Cx} {xa : Option Xc} {W : WX} {c : String} {m : Str} {j : Nat} {p p2 pos pos2 : Pos} (hc : X.calm = true) (tk : Takes X W) (D : ExD X.K X.mg c) (hg : Gl X (Str.ofString c)) (hdb : (Str.ofString c == ("__debug__" : Str)) = false := by decide) :
    PS X (.Raise (some (.Call (.Name (Str.ofString c) p) [.Constant (.str m) j p2] [] pos)) none pos2) (qC X.K (atK X.K) xa W (sRaise c)) :=
  ds_raise hc tk PySem.F.excBase_ValueError D.q D.g D.k (raises_own D.s D.t) hg hdb
theorem names_own {X : Cx} {c : String} (hg : Gl X (Str.ofString c)) (hm : X.mg (Str.ofString c) = some (.ref (atK X.K c))) (hdb : (Str.ofString c == ("__debug__" : Str)) = false := by decide) : Names X (Str.ofString c) ((CvN.own c).v X.K) := ⟨hg, hdb, .inl hm⟩
/-- isinstance(n, C) in a suite: C a class of the module's own, a built-in one -/
theorem de_isOwn {X : Cx} {W : WX} {cs : List (String × Bool)} {n : Str} {i : Nat} {pos : Pos} {c : String} {a : Addr} {oe : Obj} {cls : Value} {d : Option Addr} {pn : List (Addr × Obj)} {p p1 p2 : Pos} (hz : Zc cls d oe) (hfl : ∃ vs, oe.data = .fields vs) (hv : PE (X.suite a ((a, oe) :: pn)) (.Name n p1) (tVar i))
    (hx : ∀ q ∈ cs, ExcC X.K (atK X.K q.1) ∧ PySem.W.kitOne X.K (.ref (atK X.K q.1)) ((CvN.own c).v X.K) = some q.2) (hg : Gl X "isinstance") (hm : X.mg "isinstance" = none) (hgc : Gl X (Str.ofString c)) (hmc : X.mg (Str.ofString c) = some (.ref (atK X.K c))) (hdb : (Str.ofString c == ("__debug__" : Str)) = false := by decide) :
    PE (X.suite a ((a, oe) :: pn)) (.Call (.Name "isinstance" p) [.Name n p1, .Name (Str.ofString c) p2] [] pos) (qE X.K (atK X.K) (some ⟨a, cls, d⟩) W (eIsE i cs)) :=
  de_isE (vC := .ref (atK X.K c)) hz hfl hv (pe_glob (X := X.suite a ((a, oe) :: pn)) hgc hmc rfl hdb) (fun u r => r) hx hg hm
theorem de_isTy {X : Cx} {W : WX} {cs : List (String × Bool)} {n : Str} {i : Nat} {pos : Pos} {c : String} {a : Addr} {oe : Obj} {cls : Value} {d : Option Addr} {pn : List (Addr × Obj)} {p p1 p2 : Pos} (hz : Zc cls d oe) (hfl : ∃ vs, oe.data = .fields vs) (hv : PE (X.suite a ((a, oe) :: pn)) (.Name n p1) (tVar i))
    (hx : ∀ q ∈ cs, ExcC X.K (atK X.K q.1) ∧ PySem.W.kitOne X.K (.ref (atK X.K q.1)) ((CvN.ty c).v X.K) = some q.2) (hg : Gl X "isinstance") (hm : X.mg "isinstance" = none) (hgc : Gl X (Str.ofString c)) (hmc : X.mg (Str.ofString c) = none) (hb : bootBuiltins (Str.ofString c) = some (.type c)) (hn : Str.ofString c ≠ "__name__" := by decide)
    (hdb : (Str.ofString c == ("__debug__" : Str)) = false := by decide) :
    PE (X.suite a ((a, oe) :: pn)) (.Call (.Name "isinstance" p) [.Name n p1, .Name (Str.ofString c) p2] [] pos) (qE X.K (atK X.K) (some ⟨a, cls, d⟩) W (eIsE i cs)) :=
  de_isE (vC := .ty c) hz hfl hv (pe_bltn (X := X.suite a ((a, oe) :: pn)) hgc hmc hb rfl hn hdb) (fun u r => r) hx hg hm
/-! ### the hook -/
abbrev AlP : Type := Bool × He.AlD
def obsP (fa : List He.Fa) (fn : List He.DefD) (xf : List XF) (K : PySem.W.Frag) : AlP := (xf.all fun f => f.ok K, He.obsD fa fn K)
def SaysP (fa : List He.Fa) (fn : List He.DefD) (xf : List XF) (K : PySem.W.Frag) : Prop := (∀ f ∈ xf, f.ok K = true) ∧ He.SaysD fa fn K
def obsPG (n : Nat) (fa : List He.Fa) (fn : List He.DefD) (xf : List XF) (g : Addr → Option Obj) : AlP := obsP fa fn xf (He.frG g (He.asD g n))
def hookP (n : Nat) (fa : List He.Fa) (fn : List He.DefD) (xf : List XF) : PySem.W.Hook where
  α := AlP
  obs := fun s => obsPG n fa fn xf s.heap.get?
  val := fun _ => (true, He.valD fn)
  says := fun _ h => ∃ K : PySem.W.Frag, K.In h ∧ SaysP fa fn xf K
  of := fun _ _ e => ⟨_, He.frG_in, List.all_eq_true.mp (congrArg Prod.fst e), congrArg Prod.snd e⟩
  keeps := fun _ _ _ ⟨K, hK, c⟩ k => ⟨K, PySem.W.Frag.In.keeps hK k, c⟩
theorem obsPG_eq {n : Nat} {fa : List He.Fa} {fn : List He.DefD} {xf : List XF} {g : Addr → Option Obj} {s : Shared} (h : ∀ a, g a = s.heap.get? a) : obsPG n fa fn xf g = (hookP n fa fn xf).obs s := by
  have e : g = s.heap.get? := funext h
  rw [e] <;> rfl
theorem SaysP.x {fa : List He.Fa} {fn : List He.DefD} {xf : List XF} {K : PySem.W.Frag} (c : SaysP fa fn xf K) (i : Nat) {f : XF} (h : xf[i]? = some f := by rfl) : f.ok K = true := c.1 f (List.mem_of_getElem? h)
theorem all_nil {α : Type} {P : α → Prop} : ∀ q ∈ ([] : List α), P q := fun _ h => nomatch h
theorem all_cons {α : Type} {P : α → Prop} {a : α} {l : List α} (h : P a) (t : ∀ q ∈ l, P q) : ∀ q ∈ a :: l, P q := fun q hq => by
  rcases List.mem_cons.mp hq with rfl | hq
  · exact h
  · exact t q hq
theorem dss_bad {X : Cx} {at_ : At} {xa : Option Xc} {W : WX} {sts : List Stmt} : PSs X sts (qC X.K at_ xa W fun _ => .bad) := ⟨fun pins s σ H D I hw => by
  obtain ⟨g, st, R, h⟩ := hw
  exact h.elim⟩
end Pl
/-! The pure layer: sum of a list of whole numbers. -/
namespace Pl
open PySem L2
def intsD : List D → Option (List Int)
  | [] => some []
  | .int i :: ds => (intsD ds).map (i :: ·)
  | _ => none
def kSum : List SO → List D → Option D := fun _ xs => match xs with
  | [d] => match lstD d with
    | some ds => (intsD ds).map fun ns => .int ns.sum
    | none => none
  | _ => none
variable {K : PySem.W.Frag} {at_ : At} {xa : Option Xc}
theorem Reps.intsD {F : Hp} {m : List Addr} : ∀ {ds : List D} {vs : List V} {ns : List Int}, Reps K at_ F m ds vs → Pl.intsD ds = some ns → vs = ns.map V.int
  | [], _, _, h, e => by rw [h.unnil]; unfold Pl.intsD at e; cases e; rfl
  | d :: ds, _, _, h, e => by
    obtain ⟨v, r, rfl, q, z⟩ := h.uncons
    cases d with
    | int x =>
      unfold Pl.intsD at e
      cases z1 : Pl.intsD ds with
      | none => rw [z1] at e; cases e
      | some p => rw [z1] at e; cases e; rw [q.i, Reps.intsD z z1]; rfl
    | _ => unfold Pl.intsD at e; cases e
theorem v_sum : VOpN K at_ xa (rSum K) kSum := by
  intro g st σ H xs ds d Q R rs e k
  unfold kSum at e
  split at e
  · rename_i x
    obtain ⟨v, rfl, q⟩ := rs.one
    split at e
    · rename_i es hes
      cases z : Pl.intsD es with
      | none => rw [z] at e; cases e
      | some ns =>
        rw [z] at e
        cases e
        obtain ⟨a, vs, rfl, q1, q2⟩ := lstD_rep hes q
        have ev := Reps.intsD q2 z
        subst ev
        exact ⟨a, ns, rfl, SqL.le q1 fun a o z => (R.sub a o z).1, k g _ H (G.le.refl g) R repint⟩
    · cases e
  · cases e
end Pl
/-! zip of two reversed lists. -/
namespace Pl
open PySem L2
section
variable {prog : Program} {w : World} {A : Around} {E : Value → Shared → Prop} {s : Shared}
theorem nextOf_rev_item {it l : Addr} {i : Nat} {items : Array Value} {x : Value} {Q : Value → Shared → Prop} (hit : s.heap.IsRevIter it l (i : Int)) (hl : s.heap.IsList l items) (hx : items[i]? = some x)
    (hQ : ∀ h', h'.IsRevIter it l ((i : Int) - 1) → Heap.SameBut it s.heap h' → Q x { s with heap := h' }) : wpAny (model prog w) A (Builtin.SmallTypes.nextOf (.ref it)) Q E s := by
  obtain ⟨o, ho, hc, hd⟩ := id hit
  obtain ⟨ol, hol, _, nl, hdl⟩ := hl
  unfold Builtin.SmallTypes.nextOf
  refine wpAny_bind (wpAny_callSpecial?_slot (name := Str.ofString "__next__") hit.typeIs F.slot_lri_next
    (wpAny_call_entry F.slot_lri_next hit.typeIs F.entry_lri_next ?_ (F.args_lri_next_1 _)))
  unfold Builtin.«list_reverseiterator.__next__»
  refine wpAny_bind (wpAny_of_eq (a := (Value.ref it, [])) rfl ?_)
  try dsimp only
  refine wpAny_bind (wpAny_field ho hd (x := rawInt (i : Int)) rfl ?_)
  show wpAny _ _ (if (i : Int) < 0 then _ else _) _ _ s
  rw [if_neg (by omega)]
  show wpAny _ _ (field (.ref it) 0 >>= _) _ _ s
  refine wpAny_bind (wpAny_field ho hd (x := .ref l) rfl ?_)
  show wpAny _ _ (seqItems? (.ref l) >>= _) _ _ s
  refine wpAny_bind (wpAny_seqItems hol hdl ?_)
  simp only [Int.toNat_natCast, hx]
  refine wpAny_bind (wpAny_setField ho hd (by simp) ?_)
  first
  | refine wpAny_pure ⟨x, rfl, wpAny_pure (hQ _ ?_ (Heap.SameBut.update ..))⟩
  | refine wpAny_bind (wpAny_pure (wpAny_pure ⟨x, rfl, wpAny_pure (hQ _ ?_ (Heap.SameBut.update ..))⟩))
  exact ⟨_, Heap.get?_update_self _ ho (Obj.isFreed_of_fields (Obj.data_mapFields hd _)), (Obj.cls_mapFields ..).trans hc, by
    rw [Obj.data_mapFields hd]; simp⟩
theorem nextOf_rev_end {it l : Addr} {Q : Value → Shared → Prop} (hh : A.handled = none) (hit : s.heap.IsRevIter it l (-1))
    (hE : ∀ h' e, Heap.ExtBut it s.heap h' → (∃ o, h'.get? e = some o ∧ o.cls = .type "StopIteration") → E (.ref e) { s with heap := h' }) : wpAny (model prog w) A (Builtin.SmallTypes.nextOf (.ref it)) Q E s := by
  obtain ⟨o, ho, hc, hd⟩ := id hit
  unfold Builtin.SmallTypes.nextOf
  refine wpAny_bind (wpAny_callSpecial?_slot (name := Str.ofString "__next__") hit.typeIs F.slot_lri_next
    (wpAny_call_entry F.slot_lri_next hit.typeIs F.entry_lri_next ?_ (F.args_lri_next_1 _)))
  unfold Builtin.«list_reverseiterator.__next__»
  refine wpAny_bind (wpAny_of_eq (a := (Value.ref it, [])) rfl ?_)
  try dsimp only
  refine wpAny_bind (wpAny_field ho hd (x := rawInt (-1)) rfl ?_)
  show wpAny _ _ (if (-1 : Int) < 0 then _ else _) _ _ s
  rw [if_pos (by decide)]
  refine wpAny_bind (wpAny_rule ?_)
  first
  | show wpAny _ _ (newExc (.type "StopIteration") [] >>= _) _ _ _
  | (refine wpAny_bind ?_; show wpAny _ _ (newExc (.type "StopIteration") [] >>= _) _ _ _)
  refine wpAny_bind ?_
  simp only [newExc, newTuple]
  refine wpAny_bind (wpAny_newObj_type ?_ (by size_fits))
  refine wpAny_bind (m := firstArgMember _ _) (wpAny_of_eq (a := Value.none) (by first | rfl | (simp only [firstArgMember]; rfl)) ?_)
  refine wpAny_newObj_type ?_ (by size_fits)
  simp only [raiseNew]
  refine wpAny_bind (wpAny_handled ?_)
  first | rw [show A.in1.handled = none from hh] | rw [hh]
  refine wpAny_bind (wpAny_pure (wpAny_throw ?_))
  exact hE _ _ (((Heap.ExtBut.refl _ _).push _).push _) ⟨_, Heap.get?_push_size _ rfl, rfl⟩
theorem draws_rev (hh : A.handled = none) (it l : Addr) (hne : l ≠ it) (items : Array Value) :
    Draws prog w A it [it, l] items.size (fun i v => items[items.size - 1 - i]? = some v) (fun i h => i ≤ items.size ∧ h.IsRevIter it l ((items.size : Int) - 1 - (i : Int)) ∧ h.IsList l items) where
  live := fun _ _ st => let ⟨o, ho, _⟩ := st.2.1; ⟨o, ho⟩
  frame := fun _ _ _ st hk => ⟨st.1, st.2.1.at fun o e => hk it (by simp) o e, st.2.2.at fun o e => hk l (by simp) o e⟩
  item := fun i s Q E hi st hQ => by
    obtain ⟨h0, h1, h2⟩ := st
    have e : (items.size : Int) - 1 - (i : Int) = ((items.size - 1 - i : Nat) : Int) := by omega
    rw [e] at h1
    refine nextOf_rev_item h1 h2 (x := items[items.size - 1 - i]'(by omega)) (by simp [show items.size - 1 - i < items.size by omega]) fun h' hit' hs' => ?_
    refine hQ _ h' s.toks (by simp [show items.size - 1 - i < items.size by omega]) ⟨by omega, ?_, h2.extBut hs'.extBut hne⟩ hs'
    have e2 : (items.size : Int) - 1 - ((i + 1 : Nat) : Int) = ((items.size - 1 - i : Nat) : Int) - 1 := by omega
    rw [e2]
    exact hit'
  done := fun s Q E st hE => by
    obtain ⟨h0, h1, h2⟩ := st
    have e : (items.size : Int) - 1 - ((items.size : Nat) : Int) = -1 := by omega
    rw [e] at h1
    exact nextOf_rev_end hh h1 hE
end
/-! ### zip over iterators that stand -/
abbrev zsT (h : Heap) (i1 i2 : Addr) : Heap := h.push { cls := .type "tuple", data := .seq #[.ref i1, .ref i2] }
abbrev zsO (h : Heap) (i1 i2 : Addr) : Heap := (zsT h i1 i2).push { cls := .type "tuple", data := .seq #[.none, .none] }
abbrev zsZ (h : Heap) (i1 i2 : Addr) : Heap := (zsO h i1 i2).push { cls := .type "zip", data := .fields #[.none, .bool false, .bool false, .ref h.objs.size, .ref (zsT h i1 i2).objs.size] }
theorem meets_zipS {i1 i2 l1 l2 : Addr} {k1 k2 : Int} : Meets (Builtin.«zip.__new__» ⟨[.type "zip", .ref i1, .ref i2], []⟩) (fun _ R s => (s.heap.IsRevIter i1 l1 k1 ∧ s.heap.IsRevIter i2 l2 k2) ∧
      R (.ok (.ret (.ref (zsO s.heap i1 i2).objs.size))) { s with heap := zsZ s.heap i1 i2 }) :=
  .of_wp fun prog w A R s h => by
    obtain ⟨hp, g, d, tk, os⟩ := s; obtain ⟨⟨h1, h2⟩, h⟩ := h
    have hsub := sub_zip
    have q1 : ∀ {A' : Around} {E : Value → Shared → Prop} {Q : Value → Shared → Prop}, Q (.ref i1) ⟨hp, g, d, tk, os⟩ → wpAny (model prog w) A' (pyIter (.ref i1)) Q E ⟨hp, g, d, tk, os⟩ :=
      fun q => wpAny_pyIter_revIter (s := ⟨hp, g, d, tk, os⟩) h1 q
    have q2 : ∀ {A' : Around} {E : Value → Shared → Prop} {Q : Value → Shared → Prop}, Q (.ref i2) ⟨hp, g, d, tk, os⟩ → wpAny (model prog w) A' (pyIter (.ref i2)) Q E ⟨hp, g, d, tk, os⟩ :=
      fun q => wpAny_pyIter_revIter (s := ⟨hp, g, d, tk, os⟩) h2 q
    wp_walk using q1, q2
    exact ⟨_, rfl, h⟩
section
variable {prog : Program} {w : World} {A : Around} {E : Value → Shared → Prop} {s : Shared}
theorem zip_beginsS {i1 i2 l1 l2 : Addr} {k1 k2 : Int} {Q : Value → Shared → Prop} (h1 : s.heap.IsRevIter i1 l1 k1) (h2 : s.heap.IsRevIter i2 l2 k2)
    (h : ∀ h', IsZip h' (s.heap.objs.size + 2) s.heap.objs.size (s.heap.objs.size + 1) .none → IsTupOf2 h' s.heap.objs.size (.ref i1) (.ref i2) →
      IsTupOf2 h' (s.heap.objs.size + 1) .none .none → h'.objs.size = s.heap.objs.size + 3 →
      (∀ c o, s.heap.get? c = some o → h'.get? c = some o) → Q (.ref (s.heap.objs.size + 2)) { s with heap := h' }) :
    wpAny (model prog w) A (call (.type "zip") [.ref i1, .ref i2]) Q E s := by
  refine callType_new F.called_zip (by decide) (F.typeCall_zip_2 _ _) (F.newCall_zip_2 _ _) (fun obj => F.args_object_init_3 obj _ _) F.entry_zip_new
    meets_zipS ⟨⟨h1, h2⟩, ?_⟩
  have zT : (zsT s.heap i1 i2).objs.size = s.heap.objs.size + 1 := by rw [Heap.size_push]
  have zO : (zsO s.heap i1 i2).objs.size = s.heap.objs.size + 2 := by rw [Heap.size_push, zT]
  have zZ : (zsZ s.heap i1 i2).objs.size = s.heap.objs.size + 3 := by rw [Heap.size_push, zO]
  have gZ : (zsZ s.heap i1 i2).get? (zsO s.heap i1 i2).objs.size = some { cls := .type "zip", data := .fields #[.none, .bool false, .bool false, .ref s.heap.objs.size, .ref (zsT s.heap i1 i2).objs.size] } := Heap.get?_push_size _ rfl
  have gO : (zsZ s.heap i1 i2).get? (zsT s.heap i1 i2).objs.size = some { cls := .type "tuple", data := .seq #[.none, .none] } := Heap.get?_push_of_some _ (Heap.get?_push_size _ rfl)
  have gT : (zsZ s.heap i1 i2).get? s.heap.objs.size = some { cls := .type "tuple", data := .seq #[.ref i1, .ref i2] } := Heap.get?_push_of_some _ (Heap.get?_push_of_some _ (Heap.get?_push_size _ rfl))
  rw [zO, zT] at gZ
  rw [zT] at gO
  show _ ∧ _
  rw [zO]
  exact ⟨⟨_, gZ, rfl⟩, h _ gZ gT gO zZ fun c o e => Heap.get?_push_of_some _ (Heap.get?_push_of_some _ (Heap.get?_push_of_some _ e))⟩
end
/-- the lists at a and b from their ends on, the items in new pairs -/
def ItzR (K : PySem.W.Frag) (a b : Addr) (n m : Nat) : It :=
  ⟨fun i H => i < n ∧ i < m ∧ ∃ (xs ys : List V) (x y : V), SqL K H a xs ∧ SqL K H b ys ∧ xs.length = n ∧ ys.length = m ∧ xs[n - 1 - i]? = some x ∧ ys[m - 1 - i]? = some y,
    fun i H v H' => ∃ T x y, v = .ref T ∧ H T = none ∧ H' = upd H T (.tup [x, y]) ∧ (∀ xs, SqL K H a xs → xs[n - 1 - i]? = some x) ∧ ∀ ys, SqL K H b ys → ys[m - 1 - i]? = some y,
    fun i H => i = min n m ∧ ∃ xs ys : List V, SqL K H a xs ∧ SqL K H b ys ∧ xs.length = n ∧ ys.length = m⟩
theorem zr_sep {i1 i2 N a b : Nat} (h1 : i1 < i2) (h2 : i2 < N) (ha : a < i1) (hb : b < N) (hb1 : b ≠ i1) (hb2 : b ≠ i2) (ha2 : a ≠ i2) : ZipSep2 (N + 2) N (N + 1) i1 i2 [i1, a] [i2, b] := by
  have e : ∀ {x y : Nat}, x ≠ y → (show Addr from x) ≠ y := fun h => h
  have ni : ∀ {x y z : Addr}, x ≠ y → x ≠ z → x ∉ [y, z] := fun h k m => by
    rcases List.mem_cons.mp m with q | q
    · exact h q
    · exact k (List.mem_singleton.mp q)
  exact { TIz := e (by omega), TOz := e (by omega), TITO := e (by omega), TIi1 := e (by omega), mem1 := List.mem_cons_self .., zf1 := ni (e (by omega)) (e (by omega)), Tf1 := ni (e (by omega)) (e (by omega)),
          TIi2 := e (by omega), mem2 := List.mem_cons_self .., zf2 := ni (e (by omega)) (e (by omega)), Tf2 := ni (e (by omega)) (e (by omega)), sep1_2 := ni (e (by omega)) (e (Ne.symm hb1)), sep2_1 := ni (e (by omega)) (e (Ne.symm ha2)) }
theorem turn_zipR {P : Program} {w : World} {K : PySem.W.Frag} {elts : List Expr} {kk : Nat} {tpos : Pos} {a b z TI TO i1 i2 : Addr} {n m : Nat} (S : ZipSep2 z TI TO i1 i2 [i1, a] [i2, b]) (ha : a ≠ i1) (hb : b ≠ i2) :
    Turn P w K (.Tuple elts kk tpos) (ItzR K a b n m) [z, TI, TO, i1, i2] z (fun i h => IsZip h z TI TO .none ∧ IsTupOf2 h TI (.ref i1) (.ref i2) ∧ (∃ a1 a2, IsTupOf2 h TO a1 a2) ∧ (i ≤ n ∧ h.IsRevIter i1 a ((n : Int) - 1 - (i : Int))) ∧ (i ≤ m ∧ h.IsRevIter i2 b ((m : Int) - 1 - (i : Int)))) where
  mem := by simp
  obj := fun i h st c hc => by
    obtain ⟨hz, hTI, ⟨x, y, hTO⟩, ⟨_, o1, e1, _, d1⟩, ⟨_, o2, e2, _, d2⟩⟩ := st
    have e' : c = z ∨ c = TI ∨ c = TO ∨ c = i1 ∨ c = i2 := by simpa using hc
    rcases e' with q | q | q | q | q
    · rw [q]; exact ⟨_, hz, fun v q => nomatch q⟩
    · rw [q]; exact ⟨_, hTI, fun v q => nomatch q⟩
    · rw [q]; exact ⟨_, hTO, fun v q => nomatch q⟩
    · rw [q]; exact ⟨o1, e1, fun v q => by rw [d1] at q; cases q⟩
    · rw [q]; exact ⟨o2, e2, fun v q => by rw [d2] at q; cases q⟩
  keep := fun i h h' st k => by
    obtain ⟨hz, hTI, ⟨x, y, hTO⟩, ⟨q1, h1⟩, ⟨q2, h2⟩⟩ := st
    exact ⟨k z (by simp) _ hz, k TI (by simp) _ hTI, ⟨x, y, k TO (by simp) _ hTO⟩, ⟨q1, h1.at fun o q => k i1 (by simp) o q⟩, ⟨q2, h2.at fun o q => k i2 (by simp) o q⟩⟩
  item := by
    intro X hP hw hK hc i pins s σ H E I hf st hg
    subst hP hw hK
    obtain ⟨hz, hTI, ⟨x0, y0, hTO⟩, ⟨l1, h1⟩, ⟨l2, h2⟩⟩ := st
    obtain ⟨gi, gj, xs, ys, x, y, hqx, hqy, rfl, rfl, hx, hy⟩ := hg
    obtain ⟨its, rv, p, _⟩ := I.list hqx
    obtain ⟨its2, rv2, p2, _⟩ := I.list hqy
    have n1 := rv.length
    have n2 := rv2.length
    obtain ⟨u, hu, ru⟩ := rv.get hx
    obtain ⟨u2, hu2, ru2⟩ := rv2.get hy
    have hh : X.A.in1.handled = none := I.ok.hd hc
    have z1 : its.toArray.size = xs.length := by simp; omega
    have z2 : its2.toArray.size = ys.length := by simp; omega
    have W := GoesN.zip2 (prog := X.prog) (w := X.w) (A := X.A) (elts := elts) (x1 := kk) (pos := tpos) S (draws_rev hh i1 a ha its.toArray) (draws_rev hh i2 b hb its2.toArray)
    refine W.goes i s _ E (by rw [z1, z2]; omega) ⟨hz, hTI, ⟨x0, y0, hTO⟩, ⟨by rw [z1]; omega, by rw [z1]; exact h1, p.isList⟩, ⟨by rw [z2]; omega, by rw [z2]; exact h2, p2.isList⟩⟩ fun v h' tk hyy st' k htk => ?_
    obtain ⟨T, v1, v2, rfl, hT, hv1, hv2, hI⟩ := hyy
    obtain ⟨oT, hoT, hcT, nT, hdT⟩ := hI
    have ev1 : v1 = u := by
      have q : its.toArray[xs.length - 1 - i]? = some v1 := by rw [← z1]; exact hv1
      rw [List.getElem?_toArray, hu] at q
      exact (Option.some.inj q).symm
    have ev2 : v2 = u2 := by
      have q : its2.toArray[ys.length - 1 - i]? = some v2 := by rw [← z2]; exact hv2
      rw [List.getElem?_toArray, hu2] at q
      exact (Option.some.inj q).symm
    subst ev1
    subst ev2
    have new : ObjOk X.prog X.w (upd H T (.tup [x, y])) h' T (.tup [x, y]) :=
      ⟨by show 2 ≤ sizeLine; decide, _, .cons ru (.cons ru2 .nil), oT, hoT, hcT, nT, hdT⟩
    have I1 := I.turnedNew (t' := tk) (ch := [z, TI, TO, i1, i2]) (fun c o hb q => k c o (fun hm => hb (by
      have hm' : c = z ∨ c = TO ∨ c = i1 ∨ c = i2 := by simpa using hm
      rcases hm' with q | q | q | q <;> simp [q])) q) hf hT new
    refine ⟨.ref T, _, I1, rfl, ⟨T, x, y, rfl, I.hok.fresh hT, rfl, fun l hl => by rw [I.list_inj hl hqx]; exact hx, fun l hl => by rw [I.list_inj hl hqy]; exact hy⟩, ?_, fun c hcm => ?_⟩
    · obtain ⟨s1, s2, s3, ⟨_, s4, _⟩, ⟨_, s5, _⟩⟩ := st'
      rw [z1] at s4
      rw [z2] at s5
      exact ⟨s1, s2, s3, ⟨by omega, s4⟩, ⟨by omega, s5⟩⟩
    · have hlt : c < s.heap.objs.size := by
        obtain ⟨o1, e1, _⟩ := h1
        obtain ⟨o2, e2, _⟩ := h2
        have e' : c = z ∨ c = TI ∨ c = TO ∨ c = i1 ∨ c = i2 := by simpa using hcm
        rcases e' with q | q | q | q | q
        · rw [q]; exact Heap.lt_size hz
        · rw [q]; exact Heap.lt_size hTI
        · rw [q]; exact Heap.lt_size hTO
        · rw [q]; exact Heap.lt_size e1
        · rw [q]; exact Heap.lt_size e2
      rw [upd_ne (Nat.ne_of_lt (Nat.lt_of_lt_of_le hlt hT))]
      exact (hf c hcm).1
  done := by
    intro X hP hw hK hc i pins s σ H E I hf st hg
    subst hP hw hK
    obtain ⟨hz, hTI, ⟨x0, y0, hTO⟩, ⟨l1, h1⟩, ⟨l2, h2⟩⟩ := st
    obtain ⟨rfl, xs, ys, hqx, hqy, rfl, rfl⟩ := hg
    obtain ⟨its, rv, p, _⟩ := I.list hqx
    obtain ⟨its2, rv2, p2, _⟩ := I.list hqy
    have n1 := rv.length
    have n2 := rv2.length
    have hh : X.A.in1.handled = none := I.ok.hd hc
    have z1 : its.toArray.size = xs.length := by simp; omega
    have z2 : its2.toArray.size = ys.length := by simp; omega
    have W := GoesN.zip2 (prog := X.prog) (w := X.w) (A := X.A) (elts := elts) (x1 := kk) (pos := tpos) S (draws_rev hh i1 a ha its.toArray) (draws_rev hh i2 b hb its2.toArray)
    rw [z1, z2] at W
    refine W.stops s _ E ⟨hz, hTI, ⟨x0, y0, hTO⟩, ⟨l1, h1, p.isList⟩, ⟨l2, h2, p2.isList⟩⟩ fun h' tk k htk => I.turnedL (t' := tk) (ch := [z, TI, TO, i1, i2]) (fun c o hb q => k c o (fun hm => hb (by
      have hm' : c = z ∨ c = TO ∨ c = i1 ∨ c = i2 := by simpa using hm
      rcases hm' with q | q | q | q <;> simp [q])) q) hf
  self := fun A i s Q E st h => wpAny_pyIter_zip st.1 h
def iZipR (K : PySem.W.Frag) (t1 t2 : TE) : TI := fun σ H R => t1 σ H fun v H1 => ∃ a xs, v = .ref a ∧ SqL K H1 a xs ∧ t2 σ H1 fun u H2 => ∃ b ys, u = .ref b ∧ SqL K H2 b ys ∧ SqL K H2 a xs ∧ R (ItzR K a b xs.length ys.length) H2
theorem pe_revIt {X : Cx} {e : Expr} {t : TE} {p pos : Pos} {pins : List (Addr × Obj)} {σ : St} {H : Hp} {s : Shared} {Q : Value → Shared → Prop} (hg : Gl X "reversed") (hm : X.mg "reversed" = none) (he : PE X e t) (I : Inv X pins σ H s)
    {Q0 : VK} (h : t σ H Q0) (k : ∀ v H1, Q0 v H1 → ∃ a xs, v = .ref a ∧ SqL X.K H1 a xs ∧ ∀ s1, Inv X pins σ H1 s1 → a < s1.heap.objs.size → Q (.ref s1.heap.objs.size) { s1 with heap := s1.heap.push (revObj a ((xs.length : Int) - 1)) })
    (hs : starEach [e] X.env = [(false, eval e X.env)] := by rfl) : wpAny (model X.prog X.w) X.A (eval (.Call (.Name "reversed" p) [e] [] pos) X.env) Q X.xe s := by
  have hs' : starEach [e] X.env = (false, eval e X.env) :: starEach [] X.env := by rw [hs]; rfl
  refine PyProof.Rows.Call_ (ld_blt I hg hm PyProof.Rows.boot_reversed (PyProof.Rows.callWith_type1 ?_ hs' rfl))
  rw [hs]
  show wpAny _ _ (spliced [(false, eval e X.env)]) _ _ s
  refine Calls.spliced_cons (thn (he.run pins s σ H _ I h) fun u s1 ⟨v, H1, I1, r1, q0⟩ => Calls.spliced_nil ?_)
  obtain ⟨a, xs, ev, hq, q⟩ := k v H1 q0
  subst ev
  cases r1
  obtain ⟨its, rv, p', hz⟩ := I1.list hq
  have hl := rv.length
  refine call_reversed_list p'.isList ?_
  have e1 : ((its.toArray.size : Nat) : Int) - 1 = (xs.length : Int) - 1 := by simp only [List.size_toArray]; omega
  rw [e1]
  exact q s1 I1 p'.lt
theorem pi_zipR {X : Cx} {e e2 : Expr} {t1 t2 : TE} {p p1 p2 pos pos1 pos2 tpos : Pos} {elts : List Expr} {kk : Nat} (hg : Gl X "zip") (hm : X.mg "zip" = none) (hgr : Gl X "reversed") (hmr : X.mg "reversed" = none) (he : PE X e t1) (he2 : PE X e2 t2)
    (hs : starEach [.Call (.Name "reversed" p1) [e] [] pos1, .Call (.Name "reversed" p2) [e2] [] pos2] X.env = (false, eval (.Call (.Name "reversed" p1) [e] [] pos1) X.env) :: starEach [.Call (.Name "reversed" p2) [e2] [] pos2] X.env := by rfl)
    (hs2 : starEach [.Call (.Name "reversed" p2) [e2] [] pos2] X.env = [(false, eval (.Call (.Name "reversed" p2) [e2] [] pos2) X.env)] := by rfl)
    (hpl : (backTo pos (starEach [.Call (.Name "reversed" p2) [e2] [] pos2] X.env)).any (·.1) = false := by rfl) (hsa : starEach [e] X.env = [(false, eval e X.env)] := by rfl) (hsb : starEach [e2] X.env = [(false, eval e2 X.env)] := by rfl) :
    PI X (.Tuple elts kk tpos) (.Call (.Name "zip" p) [.Call (.Name "reversed" p1) [e] [] pos1, .Call (.Name "reversed" p2) [e2] [] pos2] [] pos) (iZipR X.K t1 t2) := by
  refine ⟨fun pins s σ H R I h => ?_⟩
  refine PyProof.Rows.Call_ (ld_blt I hg hm PyProof.Rows.boot_zip (PyProof.Rows.callWith_type1 ?_ hs hpl))
  rw [hs, hs2]
  show wpAny _ _ (spliced [(false, eval (.Call (.Name "reversed" p1) [e] [] pos1) X.env), (false, eval (.Call (.Name "reversed" p2) [e2] [] pos2) X.env)]) _ _ s
  refine Calls.spliced_cons (pe_revIt hgr hmr he I h (fun v H1 q1 => ?_) hsa)
  obtain ⟨a, xs, ev, hqa, q2⟩ := q1
  refine ⟨a, xs, ev, hqa, fun s1 I1 ha => ?_⟩
  have I1' : Inv X pins σ H1 { s1 with heap := s1.heap.push (revObj a ((xs.length : Int) - 1)) } := I1.kept (t' := s1.toks) fun c o e => Heap.get?_push_of_some _ e
  have g1 : (s1.heap.push (revObj a ((xs.length : Int) - 1))).get? s1.heap.objs.size = some (revObj a ((xs.length : Int) - 1)) := Heap.get?_push_size _ rfl
  have f1 : FpOk X pins H1 s1.heap.objs.size := I1.fpOk (Nat.le_refl _) (I1.hok.fresh (Nat.le_refl _))
  have I1p := I1'.pinned (fp := [s1.heap.objs.size]) (fun b hb => by rw [List.mem_singleton.mp hb]; exact f1) (fun b hb => by rw [List.mem_singleton.mp hb]; exact ⟨_, g1, fun v z => nomatch z⟩)
  refine Calls.spliced_cons (pe_revIt hgr hmr he2 I1p q2 (fun u H2 q3 => ?_) hsb)
  obtain ⟨b, ys, eu, hqb, hqa2, q⟩ := q3
  refine ⟨b, ys, eu, hqb, fun s2 I2 hb => Calls.spliced_nil ?_⟩
  have pin := I2.pin (s1.heap.objs.size, revObj a ((xs.length : Int) - 1)) (List.mem_append_right _ (List.mem_append_right _ (mem_pinsAt (List.mem_singleton.mpr rfl) g1)))
  have I2u : Inv X pins σ H2 s2 := I2.unpinned
  have lt1 : s1.heap.objs.size < s2.heap.objs.size := Heap.lt_size pin.1
  have g2 : (s2.heap.push (revObj b ((ys.length : Int) - 1))).get? s2.heap.objs.size = some (revObj b ((ys.length : Int) - 1)) := Heap.get?_push_size _ rfl
  have g1' : (s2.heap.push (revObj b ((ys.length : Int) - 1))).get? s1.heap.objs.size = some (revObj a ((xs.length : Int) - 1)) := Heap.get?_push_of_some _ pin.1
  have zsz : (s2.heap.push (revObj b ((ys.length : Int) - 1))).objs.size = s2.heap.objs.size + 1 := by rw [Heap.size_push]
  refine zip_beginsS (s := { s2 with heap := s2.heap.push (revObj b ((ys.length : Int) - 1)) }) ⟨_, g1', rfl, rfl⟩ ⟨_, g2, rfl, rfl⟩ fun h' hz hTI hTO hsz hk => wpAny_pyIter_zip hz ?_
  have I3 : Inv X pins σ H2 { s2 with heap := h' } := I2u.kept (t' := s2.toks) fun c o e => hk c o (Heap.get?_push_of_some _ e)
  have f2 : FpOk X pins H2 s1.heap.objs.size := ⟨pin.2.1, f1.2⟩
  have hbne : b ≠ s1.heap.objs.size := fun z => by
    obtain ⟨its, rv, p', _⟩ := I2u.list hqb
    have := I2u.hok
    subst z
    obtain ⟨o, q1, q2, _⟩ := p'.isList
    rw [pin.1] at q1
    cases q1
    exact absurd q2 (by simp [revObj])
  simp only [zsz] at hz hTI hTO hsz
  refine ⟨s2.heap.objs.size + 1 + 2, [s2.heap.objs.size + 1 + 2, s2.heap.objs.size + 1, s2.heap.objs.size + 1 + 1, s1.heap.objs.size, s2.heap.objs.size], _, _, H2, by show Value.ref ((s2.heap.push (revObj b ((ys.length : Int) - 1))).objs.size + 2) = _; rw [zsz], I3, turn_zipR (a := a) (b := b) (n := xs.length) (m := ys.length) (zr_sep (N := s2.heap.objs.size + 1) lt1 (Nat.lt_succ_self _) ha (Nat.lt_succ_of_lt hb) hbne (Nat.ne_of_lt hb) (Nat.ne_of_lt (Nat.lt_trans ha lt1))) (Nat.ne_of_lt ha) (Nat.ne_of_lt hb), ⟨by simpa only [zsz] using hz, hTI, ⟨_, _, hTO⟩, ⟨Nat.zero_le _, ?_⟩, ⟨Nat.zero_le _, ?_⟩⟩, fun c hcm => ?_, q⟩
  · have e0 : (xs.length : Int) - 1 - ((0 : Nat) : Int) = (xs.length : Int) - 1 := by omega
    rw [e0]
    exact ⟨_, hk _ _ g1', rfl, rfl⟩
  · have e0 : (ys.length : Int) - 1 - ((0 : Nat) : Int) = (ys.length : Int) - 1 := by omega
    rw [e0]
    exact ⟨_, hk _ _ g2, rfl, rfl⟩
  · have fr : ∀ c, s2.heap.objs.size ≤ c → FpOk X pins H2 c := fun c hle => I2u.fpOk hle (I2u.hok.fresh hle)
    have e' : c = s2.heap.objs.size + 1 + 2 ∨ c = s2.heap.objs.size + 1 ∨ c = s2.heap.objs.size + 1 + 1 ∨ c = s1.heap.objs.size ∨ c = s2.heap.objs.size := by simpa using hcm
    rcases e' with z | z | z | z | z
    · rw [z]; exact fr _ (by show s2.heap.objs.size ≤ s2.heap.objs.size + 3; omega)
    · rw [z]; exact fr _ (Nat.le_succ _)
    · rw [z]; exact fr _ (by show s2.heap.objs.size ≤ s2.heap.objs.size + 2; omega)
    · rw [z]; exact f2
    · rw [z]; exact fr _ (Nat.le_refl _)
/-! ### over the pure layer -/
def zipRB (ds : List D) (y : D) : Option (List D) := (lstD y).map fun es => pairsD ds.reverse es.reverse
def aZipR (fa fb : Ev) : Av := fun st => (fa st).bind fun x st1 => match lstD x with
  | some ds => (fb st1).bind fun y st2 => lift (zipRB ds y) st2
  | none => .bad
section
variable {K : PySem.W.Frag} {at_ : At} {F : Hp} {m : List Addr}
theorem walk_zipR {a b : Addr} {vs ws : List V} {ds es : List D} (q : SqL K F a vs) (r : Reps K at_ F m ds vs) (q2 : SqL K F b ws) (r2 : Reps K at_ F m es ws) : WalksP K at_ F m (pairsD ds.reverse es.reverse) (ItzR K a b vs.length ws.length) := by
  intro g st σ H xb hF hm R
  have q' : SqL K H a vs := SqL.le q fun b o e => (R.sub b o (hF b o e)).1
  have q2' : SqL K H b ws := SqL.le q2 fun b o e => (R.sub b o (hF b o e)).1
  refine ⟨⟨?_, vs, ws, q', q2', rfl, rfl⟩, fun i d hd => ?_⟩
  · simp [pairsD, r.length, r2.length]
  obtain ⟨x, y, hx, hy, rfl⟩ := pairsD_get hd
  obtain ⟨hi, hx⟩ := rev_get hx
  obtain ⟨hj, hy⟩ := rev_get hy
  obtain ⟨v, e1, e2⟩ := r.get hx
  obtain ⟨w, f1, f2⟩ := r2.get hy
  rw [← r.length] at e1 hi
  rw [← r2.length] at f1 hj
  refine ⟨⟨hi, hj, vs, ws, v, w, q', q2', rfl, rfl, e1, f1⟩, fun u H' yy => ?_⟩
  obtain ⟨T, x', y', rfl, hT, rfl, z1, z2⟩ := yy
  have := z1 vs q'; rw [e1] at this; cases this
  have := z2 ws q2'; rw [f1] at this; cases this
  exact icePair R hT (Rep.le hF hm _ _ e2) (Rep.le hF hm _ _ f2)
end
section
variable {X : Cx} {at_ : At} {xa : Option Xc} {W : WX} {e e2 : Expr} {fa fb : Ev} {p p1 p2 pos pos1 pos2 tpos : Pos} {elts : List Expr} {kk : Nat}
theorem di_zipR (hg : Gl X "zip") (hm : X.mg "zip" = none) (hgr : Gl X "reversed") (hmr : X.mg "reversed" = none) (he : PE X e (qE X.K at_ xa W fa)) (he2 : PE X e2 (qE X.K at_ xa W fb))
    (hs : starEach [.Call (.Name "reversed" p1) [e] [] pos1, .Call (.Name "reversed" p2) [e2] [] pos2] X.env = (false, eval (.Call (.Name "reversed" p1) [e] [] pos1) X.env) :: starEach [.Call (.Name "reversed" p2) [e2] [] pos2] X.env := by rfl)
    (hs2 : starEach [.Call (.Name "reversed" p2) [e2] [] pos2] X.env = [(false, eval (.Call (.Name "reversed" p2) [e2] [] pos2) X.env)] := by rfl)
    (hpl : (backTo pos (starEach [.Call (.Name "reversed" p2) [e2] [] pos2] X.env)).any (·.1) = false := by rfl) (hsa : starEach [e] X.env = [(false, eval e X.env)] := by rfl) (hsb : starEach [e2] X.env = [(false, eval e2 X.env)] := by rfl) :
    PI X (.Tuple elts kk tpos) (.Call (.Name "zip" p) [.Call (.Name "reversed" p1) [e] [] pos1, .Call (.Name "reversed" p2) [e2] [] pos2] [] pos) (qI X.K at_ xa W (aZipR fa fb)) := by
  refine pi_imp (pi_zipR hg hm hgr hmr he he2 hs hs2 hpl hsa hsb) fun σ H R hq => ?_
  obtain ⟨g, st, Rl, h⟩ := hq
  refine ⟨g, st, Rl, h.bind fun g1 H1 x st1 le1 R1 h1 v rv => ?_⟩
  cases z1 : lstD x with
  | none => rw [z1] at h1; exact h1.elim
  | some ds =>
    rw [z1] at h1
    obtain ⟨a, vs, rfl, s1, r1⟩ := lstD_rep z1 rv
    refine ⟨a, vs, rfl, SqL.le s1 fun a o z => (R1.sub a o z).1, g1, st1, R1, h1.bind fun g2 H2 y st2 le2 R2 h2 u ru => ?_⟩
    obtain ⟨items, e, h3⟩ := h2.lift
    unfold zipRB at e
    cases z2 : lstD y with
    | none => rw [z2] at e; cases e
    | some es =>
      rw [z2] at e
      cases e
      obtain ⟨b, ws, rfl, s2, r2⟩ := lstD_rep z2 ru
      have s1' : SqL X.K g2.F a vs := SqL.le s1 le2.F
      exact ⟨b, ws, rfl, SqL.le s2 fun a o z => (R2.sub a o z).1, SqL.le s1' fun a o z => (R2.sub a o z).1, h3.ok R2 _ (walk_zipR s1' (Reps.leG le2 r1) s2 r2)⟩
end
/-! ### a, b = c, d -/
def sPar (i j : Nat) (fr : Av) : Cv := fun st => (fr st).fl fun ds st1 => match ds with
  | [x, y] => .nx (setR (setR st1 i (.dat x)) j (.dat y))
  | _ => .bad
theorem ds_par {X : Cx} {at_ : At} {xa : Option Xc} {W : WX} {i j : Nat} {x y : Str} {a b : Expr} {fr : Av} {px py pt pos pt2 : Pos} {kt k2 : Nat} (tk : X.calm = true) (hN : X.N.Nodup) (hi : X.N[i]? = some x) (hj : X.N[j]? = some y) (hij : i ≠ j)
    (hx : X.env.scope.names.lookup x = some .local) (hy : X.env.scope.names.lookup y = some .local) (ha : PA X [a, b] (qA X.K at_ xa W fr))
    (hw : swappedStores [.Tuple [.Name x px, .Name y py] kt pt] (.Tuple [a, b] k2 pt2) X.env = pure (some [x, y]))
    (hs : swapsWithSole [.Tuple [.Name x px, .Name y py] kt pt] (.Tuple [a, b] k2 pt2) pos.line X.env = pure false := by rfl) :
    PS X (.Assign [.Tuple [.Name x px, .Name y py] kt pt] (.Tuple [a, b] k2 pt2) pos) (qC X.K at_ xa W (sPar i j fr)) := by
  refine ps_imp' (ps_par tk hN hi hj hij hx hy ha hw hs) fun T σ H hl hq => ?_
  have hi' : i < σ.length := by rw [hl]; exact (List.getElem?_eq_some_iff.mp hi).1
  have hj' : j < σ.length := by rw [hl]; exact (List.getElem?_eq_some_iff.mp hj).1
  obtain ⟨g, st, R, h⟩ := hq
  refine ⟨g, st, R, h.fl fun g1 H1 ds st1 le1 R1 h1 vs rs => ?_⟩
  split at h1
  · obtain ⟨v, w, rfl, q1, q2⟩ := rs.two
    exact ⟨v, w, rfl, h1 g1 _ H1 (G.le.refl g1) ((R1.setDat hi' q1).setDat (by simpa using hj') q2)⟩
  · exact h1.elim
end Pl
/-! Dicts; own lists looked at; keyword calls that hand back a list. -/
namespace Pl
open PySem L2
def keyD : D → Option Key
  | .int i => some (.inl i)
  | .str x => some (.inr x)
  | _ => none
section
variable {K : PySem.W.Frag} {at_ : At} {F : Hp} {m : List Addr}
theorem Rep.key {d : D} {v : V} {k : Key} (h : Rep K at_ F m d v) (e : keyD d = some k) : v = kV k := by
  cases d with
  | int i => cases e; exact h.i
  | str x => cases e; exact h.s
  | _ => cases e
theorem RepKV.nil : RepKV K at_ F m [] [] := by unfold RepKV; rfl
theorem RepKV.cons {p : Key × D} {kvs : List (Key × D)} {v : V} {ws : List (Key × V)} (h : Rep K at_ F m p.2 v) (t : RepKV K at_ F m kvs ws) : RepKV K at_ F m (p :: kvs) ((p.1, v) :: ws) := by unfold RepKV; exact ⟨v, ws, rfl, h, t⟩
theorem RepKV.uncons {p : Key × D} {kvs : List (Key × D)} {ws : List (Key × V)} (h : RepKV K at_ F m (p :: kvs) ws) : ∃ v r, ws = (p.1, v) :: r ∧ Rep K at_ F m p.2 v ∧ RepKV K at_ F m kvs r := by unfold RepKV at h; exact h
theorem RepKV.unnil {ws : List (Key × V)} (h : RepKV K at_ F m [] ws) : ws = [] := by unfold RepKV at h; exact h
theorem RepKV.length : ∀ {kvs : List (Key × D)} {ws : List (Key × V)}, RepKV K at_ F m kvs ws → ws.length = kvs.length
  | [], _, h => by rw [h.unnil]; rfl
  | p :: kvs, _, h => by
    obtain ⟨v, r, e, q, z⟩ := h.uncons
    subst e
    simp [RepKV.length z]
theorem RepKV.keys : ∀ {kvs : List (Key × D)} {ws : List (Key × V)}, RepKV K at_ F m kvs ws → ws.map (·.1) = kvs.map (·.1)
  | [], _, h => by rw [h.unnil]; rfl
  | p :: kvs, _, h => by
    obtain ⟨v, r, e, q, z⟩ := h.uncons
    subst e
    simp [RepKV.keys z]
theorem RepKV.append : ∀ {ds es : List (Key × D)} {vs ws : List (Key × V)}, RepKV K at_ F m ds vs → RepKV K at_ F m es ws → RepKV K at_ F m (ds ++ es) (vs ++ ws)
  | [], _, _, _, h, k => by rw [h.unnil]; exact k
  | d :: ds, _, _, _, h, k => by
    obtain ⟨v, r, e, q, z⟩ := h.uncons
    subst e
    exact RepKV.cons q (RepKV.append z k)
end
/-- in its place, or at the end -/
def putD (kvs : List (Key × D)) (k : Key) (d : D) : List (Key × D) := if (kvs.any fun kv => decide (kv.1 = k)) = true then kvs.map (fun kv => if kv.1 = k then (kv.1, d) else kv) else kvs ++ [(k, d)]
def valD (kvs : List (Key × D)) (k : Key) : Option D := (kvs.find? fun kv => decide (kv.1 = k)).map (·.2)
section
variable {K : PySem.W.Frag} {at_ : At} {F : Hp} {m : List Addr}
theorem RepKV.any {k : Key} : ∀ {kvs : List (Key × D)} {ws : List (Key × V)}, RepKV K at_ F m kvs ws → (ws.any fun kv => decide (kv.1 = k)) = (kvs.any fun kv => decide (kv.1 = k))
  | [], _, h => by rw [h.unnil]; rfl
  | p :: kvs, _, h => by
    obtain ⟨v, r, e, q, z⟩ := h.uncons
    subst e
    simp only [List.any_cons, RepKV.any z]
theorem RepKV.val {k : Key} : ∀ {kvs : List (Key × D)} {ws : List (Key × V)}, RepKV K at_ F m kvs ws → match valD kvs k with
    | some d => ∃ v, valV ws k = some v ∧ Rep K at_ F m d v
    | none => valV ws k = none
  | [], _, h => by rw [h.unnil]; rfl
  | p :: kvs, _, h => by
    obtain ⟨v, r, e, q, z⟩ := h.uncons
    subst e
    by_cases hk : p.1 = k
    · have e1 : valD (p :: kvs) k = some p.2 := by simp [valD, List.find?_cons, hk]
      rw [e1]
      exact ⟨v, valV_pos hk, q⟩
    · have e1 : valD (p :: kvs) k = valD kvs k := by simp [valD, List.find?_cons, hk]
      have e2 : valV ((p.1, v) :: r) k = valV r k := valV_neg hk
      rw [e1, e2]
      exact RepKV.val z
theorem RepKV.mapk {k : Key} {d : D} {u : V} (hd : Rep K at_ F m d u) : ∀ {kvs : List (Key × D)} {ws : List (Key × V)}, RepKV K at_ F m kvs ws → RepKV K at_ F m (kvs.map fun kv => if kv.1 = k then (kv.1, d) else kv) (ws.map fun kv => if kv.1 = k then (kv.1, u) else kv)
  | [], _, h => by rw [h.unnil]; exact RepKV.nil
  | p :: kvs, _, h => by
    obtain ⟨v, r, e, q, z⟩ := h.uncons
    subst e
    have t := RepKV.mapk (k := k) hd z
    by_cases hk : p.1 = k
    · simp only [List.map_cons, hk, if_true]
      rw [← hk] at t ⊢
      exact RepKV.cons (p := (p.1, d)) hd t
    · simp only [List.map_cons, hk, if_false]
      exact RepKV.cons q t
theorem RepKV.put {kvs : List (Key × D)} {ws : List (Key × V)} {k : Key} {d : D} {v : V} (h : RepKV K at_ F m kvs ws) (hd : Rep K at_ F m d v) : RepKV K at_ F m (putD kvs k d) (putK ws k v) := by
  unfold putD putK
  rw [h.any]
  split
  · exact RepKV.mapk hd h
  · exact RepKV.append h (RepKV.cons (p := (k, d)) hd RepKV.nil)
end
/-! ### sorted lists of ints are determined -/
def sortI (l : List Int) : List Int := l.mergeSort fun a b => decide (a ≤ b)
theorem sorted_unique : ∀ {a b : List Int}, a.Perm b → a.Pairwise (· ≤ ·) → b.Pairwise (· ≤ ·) → a = b
  | [], b, p, _, _ => by rw [List.nil_perm.mp p]
  | x :: a, [], p, _, _ => by have := p.length_eq; simp at this
  | x :: a, y :: b, p, h1, h2 => by
    have xy : x = y := by
      have m1 : x ∈ y :: b := p.mem_iff.mp List.mem_cons_self
      have m2 : y ∈ x :: a := p.mem_iff.mpr List.mem_cons_self
      have q1 : y ≤ x := by
        rcases List.mem_cons.mp m1 with e | e
        · omega
        · exact (List.pairwise_cons.mp h2).1 x e
      have q2 : x ≤ y := by
        rcases List.mem_cons.mp m2 with e | e
        · omega
        · exact (List.pairwise_cons.mp h1).1 y e
      omega
    subst xy
    rw [sorted_unique (List.perm_cons x |>.mp p) (List.pairwise_cons.mp h1).2 (List.pairwise_cons.mp h2).2]
theorem sortI_ok (l : List Int) : (sortI l).Perm l ∧ (sortI l).Pairwise (· ≤ ·) := by
  refine ⟨List.mergeSort_perm _ _, ?_⟩
  have h := List.pairwise_mergeSort (le := fun a b : Int => decide (a ≤ b)) (fun a b c => by simp; omega) (fun a b => by simp; omega) l
  exact h.imp fun {a b} h => by simpa using h
theorem sortI_unique {a l : List Int} (p : a.Perm l) (h : a.Pairwise (· ≤ ·)) : a = sortI l := sorted_unique (p.trans (sortI_ok l).1.symm) h (sortI_ok l).2
end Pl
namespace L2
open PySem PySem.Spec PyProof.Rows
section
variable {X : Cx}
/-- sorted(d) of a dict, all keys ints, any number of them -/
def rSortedDK : List V → Hp → VK → Prop := fun xs H Q => ∃ (a : Addr) (kvs : List (Key × V)) (ks : List Int), xs = [.ref a] ∧ Rd H a (.dK kvs) ∧ kvs.map (·.1) = ks.map Sum.inl ∧
    ∀ (ys : List Int) (p : Addr), ys.Perm ks → ys.Pairwise (· ≤ ·) → H p = none → Q (.ref p) (upd H p (.lst (ys.map V.int)))
theorem call_sortedDK (hcalm : X.calm = true) : CallR X (.builtin "sorted") rSortedDK := by
  intro pins s σ H xs us Q I r q
  obtain ⟨a, kvs, ks, ex, hd, hks, q⟩ := q
  subst ex
  obtain ⟨u, eu, rx⟩ := vals1 r
  subst eu
  cases rx
  obtain ⟨z, lo, vs, rel, dd⟩ := dk_rd I.hok hd
  obtain ⟨ep, hat⟩ := dd.dictAt
  have hkeys : vs.map (·.1) = ks.map Sum.inl := rel.keys.symm.trans hks
  have hl : vs.length = ks.length := by
    have e := congrArg List.length hkeys
    rw [List.length_map, List.length_map] at e
    exact e
  have h16 : vs.length ≤ sizeLine := by
    have e := congrArg List.length hks
    rw [List.length_map, List.length_map] at e
    omega
  refine Calls.call_function_entry PyProof.Rows.kind_sorted PyProof.Rows.plain_sorted PyProof.Rows.entry_sorted (PyProof.Rows.args_sorted1 _) ?_
  unfold Builtin.«sorted»
  refine wpAny_bind (m := checkCount "sorted" 1 1 _) (wpAny_pure ?_)
  refine wpAny_bind (PySem.W.kdu_collect (A := X.A.in1) (PySem.W.kdl_dict (knd := mixKind X.prog X.w) (kvs := vs) (ep := ep) lo) (I.ok.hd hcalm) hat h16 fun h' tk acc hk hacc => ?_)
  have hal : acc.toList.length = ks.length := by rw [Array.length_toList, hacc.1, hl]
  have hS : IntsAre acc.toList ks := ints_each hal fun j v e => by
    obtain ⟨k, x, e1, e2⟩ := hacc.2 j v (by rw [← Array.getElem?_toList]; exact e)
    have e3 : (vs.map (·.1))[j]? = some k := by rw [List.getElem?_map, e1]; rfl
    rw [hkeys, List.getElem?_map] at e3
    cases e4 : ks[j]? with
    | none => rw [e4] at e3; cases e3
    | some y =>
      rw [e4] at e3
      have e5 : Sum.inl y = k := Option.some.inj e3
      subst e5
      rcases keyIs_shape (show keyIs (Sum.inl y) v = true from e2) with ⟨i, t, ek, ev⟩ | ⟨z, t, ek, ev⟩
      · cases ek
        exact ⟨y, t, rfl, ev⟩
      · cases ek
  have I1 : Inv X pins σ H { s with heap := h', toks := tk } := I.kept hk
  have hz : acc.toList.length ≤ sizeLine := by rw [hal, ← hl]; exact h16
  refine wpAny_bind (wpAny_newList ?_ hz)
  have hoL : (h'.push (seqObj "list" acc.toList.toArray 0)).get? h'.objs.size = some (seqObj "list" acc.toList.toArray 0) := Heap.get?_push_size _ rfl
  show wpAny _ _ _ _ _ { s with heap := h'.push (seqObj "list" acc.toList.toArray 0), toks := tk }
  refine wpAny_bind (wpAny_holding (wpAny_call_entry PyProof.Rows.slot_list_sort ⟨_, hoL, rfl⟩ PyProof.Rows.entry_list_sort
    (SrtO.list_sort_ord (s := { s with heap := h'.push (seqObj "list" acc.toList.toArray 0), toks := tk }) SrtO.swo_int hoL hz (fun h2 => SrtO.ints_sortable hS h2) fun out h1 h2 => ⟨_, rfl, ?_⟩) (PyProof.Rows.args_list_sort _)))
  obtain ⟨k1, k2, k3⟩ := SrtO.ints_out hS h1 h2
  obtain ⟨e', he'⟩ := PyProof.Rows.sortedHeap_at (vs := acc.toList) (out := out.toArray) hoL
  have hlen : ((out.map SrtO.iv).map V.int).length ≤ sizeLine := by
    rw [List.length_map, k2.length_eq, ← hl]
    exact h16
  refine wpAny_pure ⟨_, rfl, .ref h'.objs.size, upd H h'.objs.size (.lst ((out.map SrtO.iv).map V.int)), I1.laid (t' := tk) (fun b u e => ?_) (Nat.le_refl _)
    (show ObjOk X.prog X.w _ _ _ (.lst ((out.map SrtO.iv).map V.int)) from ⟨hlen, out, e', vals_of_ints k1, he'⟩), rfl, q _ _ k2 k3 (I1.hok.fresh (Nat.le_refl _))⟩
  have hb : b < h'.objs.size := Heap.lt_size e
  rw [PyProof.Rows.sortedHeap_old (Nat.ne_of_lt hb) (by rw [size_push']; exact Nat.lt_succ_of_lt hb)]
  exact Heap.get?_push_of_some _ e
end
end L2
namespace Pl
open PySem L2
def intKeys : List (Key × D) → Option (List Int)
  | [] => some []
  | (.inl i, _) :: r => (intKeys r).map (i :: ·)
  | _ => none
theorem intKeys_eq : ∀ {kvs : List (Key × D)} {ks : List Int}, intKeys kvs = some ks → kvs.map (·.1) = ks.map Sum.inl
  | [], ks, h => by cases h; rfl
  | (.inl i, d) :: r, ks, h => by
    unfold intKeys at h
    cases z : intKeys r with
    | none => rw [z] at h; cases h
    | some l =>
      rw [z] at h; cases h
      simp [intKeys_eq z]
  | (.inr i, d) :: r, ks, h => by unfold intKeys at h; cases h
/-- sorted of a dict's int keys -/
def kSorted : List SO → List D → Option D := fun _ xs => match xs with
  | [.dct kvs] => (intKeys kvs).map fun ks => .lst ((sortI ks).map .int)
  | _ => none
section
variable {K : PySem.W.Frag} {at_ : At} {xa : Option Xc}
theorem v_sorted : VOpNO K at_ xa rSortedDK kSorted := by
  intro g st σ H xs ds d Q R rs e k
  unfold kSorted at e
  split at e
  · rename_i kvs
    obtain ⟨v, rfl, q⟩ := rs.one
    obtain ⟨a, ws, rfl, hF, rk⟩ := q.d
    cases z : intKeys kvs with
    | none => rw [z] at e; cases e
    | some ks =>
      rw [z] at e; cases e
      refine ⟨a, ws, ks, rfl, .inl (R.sub _ _ hF).1, by rw [rk.keys]; exact intKeys_eq z, fun ys p hp hs hn => ?_⟩
      rw [sortI_unique hp hs]
      exact R.newLst Reps.ints k p hn
  · cases e
end
/-! ### dict comprehensions -/
def dcGo (t : Tg) (ft : Bv) (fk fe : Ev) (vs : List Nat) : List D → List (Key × D) → Stt → Res (List (Key × D))
  | [], acc, st => .ok acc st
  | d :: ds, acc, st => match setT t d st with
    | none => .bad
    | some st1 => match ft st1 with
      | .ok true st2 => match fk st2 with
        | .ok y st3 => match fe st3 with
          | .ok x st4 => match keyD y with
            | some k => if acc.length < line then dcGo t ft fk fe vs ds (putD acc k x) (wipeS st4 vs) else .bad
            | none => .bad
          | _ => .bad
        | _ => .bad
      | .ok false st2 => dcGo t ft fk fe vs ds acc (wipeS st2 vs)
      | _ => .bad
def eDComp (fi : Av) (t : Tg) (ft : Bv) (fk fe : Ev) (vs : List Nat) : Ev := fun st => (fi st).bind fun ds st1 => (dcGo t ft fk fe vs ds [] (wipeS st1 vs)).bind fun xs st2 => .ok (.dct xs) { st2 with r := backR st1.r st2.r vs }
section
variable {X : Cx} {at_ : At} {xa : Option Xc} {W : WX} {kx vx tg iter : Expr} {ifs : List Expr} {scope : Scope} {own : List (Str × Nat)} {fi : Av} {t : Tg} {ft : Bv} {fk fe : Ev} {pos : Pos}
theorem of_eDComp {vs : List Nat} {σ : St} {H : Hp} {Q : VK} (hv : ∀ i ∈ t.all, i ∈ vs) (h : qO X.K at_ xa W (eDComp fi t ft fk fe vs) σ H Q) :
    tDc (qI X.K at_ xa W fi) (qG X.K at_ xa t) (qB X.K at_ xa W0 ft) (qE X.K at_ xa W0 fk) (qE X.K at_ xa W0 fe) vs σ H Q := by
  obtain ⟨g, st, R, h⟩ := h
  refine ⟨g, st, R, h.bind fun g1 H1 items st1 le1 R1 h1 J wk D hD => ?_⟩
  have F1 := R1.fnone hD
  have P1 := R1.pnone hD
  have o1 := R1.onone hD
  let fin : List (Key × Pl.D) → Stt → Res Pl.D := fun xs st3 => .ok (.dct xs) { st3 with r := backR st1.r st3.r vs }
  let N : Nat → Hp → Prop := fun i H' => ∃ g2 st2 acc vs', g1.le g2 ∧ Rel X.K at_ xa g2 st2 (wipe σ vs) H' ∧ H' D = some (.dK vs') ∧ RepKV X.K at_ g2.F g2.m acc vs' ∧ g2.F D = none ∧ g2.o D = none ∧ g2.P D = none ∧
    Aft X.K at_ xa W g2 σ (PoO X.K at_ Q) ((dcGo t ft fk fe vs (items.drop i) acc st2).bind fin)
  refine ⟨fun i m H' => i + m = items.length ∧ N i H', ⟨items.length, by simp, g1, wipeS st1 vs, [], [], G.le.refl g1, (R1.new hD _).wipe vs, upd_same, RepKV.nil, F1, o1, P1, h1⟩, ?_⟩
  rintro i m H2 ⟨em, g2, st2, acc, vs', le2, R2, hv2, ra, F2, o2, P2, h2⟩
  by_cases hlt : i < items.length
  · have hd : items[i]? = some items[i] := by simp [hlt]
    rw [List.drop_eq_getElem_cons hlt] at h2
    have Rh := R2.hold hv2 F2 o2
    obtain ⟨_, wgo⟩ := wk (g2.hold D (.dK vs')) st2 (wipe σ vs) H2 xa le2.F (fun _ _ e => le2.get e) Rh
    obtain ⟨w1, w2⟩ := wgo i _ hd
    refine .inr ⟨w1, N (i + 1), fun H' z => ⟨m - 1, by omega, by omega, z⟩, fun x H3 y => ?_⟩
    obtain ⟨g3, le3, R3, r3⟩ := w2 x H3 y
    unfold dcGo at h2
    cases q : setT t items[i] st2 with
    | none => rw [q] at h2; exact h2.elim
    | some st3 =>
      rw [q] at h2
      dsimp only at h2
      refine ⟨g3, st2, _, R3, r3, st3, q, fun g4 σ4 H4 le4 R4 _ wp => ?_⟩
      have ew : wipe σ4 vs = wipe σ vs := (wp vs hv).trans wipe_wipe
      refine ⟨ew, g4, st3, R4, ?_⟩
      cases q2 : ft st3 with
      | bad => rw [q2] at h2; exact h2.elim
      | exc e st5 => rw [q2] at h2; exact h2.elim
      | ok b st5 =>
        rw [q2] at h2
        intro g5 H5 le5 R5
        have eP : g5.P = upd g2.P D (.dK vs') := ((le3.trans le4).trans le5).P
        have l25F : ∀ a o, g2.F a = some o → g5.F a = some o := ((le3.trans le4).trans le5).F
        have l25m := ((le3.trans le4).trans le5).m
        cases b with
        | false =>
          refine iteF ?_
          obtain ⟨Ru, z1, z2, z3⟩ := (R5.wipe vs).unhold (u := .dK vs') eP P2
          have eH : upd H5 D (.dK vs') = H5 := by
            funext a
            by_cases ha : a = D
            · subst ha; rw [upd_same, z3]
            · rw [upd_ne ha]
          rw [eH, ew] at Ru
          have lu : g2.le (g5.unhold g2.P) := ⟨rfl, l25F, l25m⟩
          exact ⟨g5.unhold g2.P, wipeS st5 vs, acc, vs', le2.trans lu, Ru, z3, RepKV.leG lu ra, z1, z2, P2, Aft.le lu h2⟩
        | true =>
          refine iteT ⟨g5, st5, R5, ?_⟩
          dsimp only at h2
          cases q3 : fk st5 with
          | bad => rw [q3] at h2; exact h2.elim
          | exc e st6 => rw [q3] at h2; exact h2.elim
          | ok yk st6 =>
            rw [q3] at h2
            dsimp only at h2
            intro g6 H6 le6 R6 wk' rwk
            refine ⟨g6, st6, R6, ?_⟩
            cases q4 : fe st6 with
            | bad => rw [q4] at h2; exact h2.elim
            | exc e st7 => rw [q4] at h2; exact h2.elim
            | ok z st7 =>
              rw [q4] at h2
              dsimp only at h2
              intro g7 H7 le7 R7 w rw
              cases q5 : keyD yk with
              | none => rw [q5] at h2; exact h2.elim
              | some k =>
                rw [q5] at h2
                dsimp only at h2
                have eP7 : g7.P = upd g2.P D (.dK vs') := le7.P.trans (le6.P.trans eP)
                split at h2
                · rename_i hl
                  obtain ⟨Ru, z1, z2, z3⟩ := (R7.wipe vs).unhold (u := .dK (putK vs' k w)) eP7 P2
                  rw [ew] at Ru
                  have lu : g2.le (g7.unhold g2.P) := ⟨rfl, fun a o e => le7.F _ _ (le6.F _ _ (l25F _ _ e)), by
                    obtain ⟨l1, e1⟩ := l25m
                    obtain ⟨l2, e2⟩ := le6.m
                    obtain ⟨l3, e3⟩ := le7.m
                    exact ⟨l1 ++ (l2 ++ l3), by show g7.m = _; rw [e3, e2, e1, List.append_assoc, List.append_assoc]⟩⟩
                  refine ⟨vs', k, rwk.key q5, z3, by rw [ra.length]; exact Nat.lt_of_lt_of_le hl (by unfold line; rw [PySem.sizeLine_eq]; omega), ?_⟩
                  exact ⟨g7.unhold g2.P, wipeS st7 vs, putD acc k z, putK vs' k w, le2.trans lu, Ru, upd_same, (RepKV.leG lu ra).put rw, z1, z2, P2, Aft.le lu h2⟩
                · exact h2.elim
  · have ei : i = items.length := by omega
    subst ei
    rw [List.drop_length] at h2
    obtain ⟨wstop, _⟩ := wk g2 st2 (wipe σ vs) H2 xa le2.F (fun _ _ e => le2.get e) R2
    have Rb := R1.unwipe le2 R2
    exact .inl ⟨wstop, h2 g2 H2 (G.le.refl g2) Rb D ⟨vs', hv2, ra⟩ F2 P2 o2⟩
theorem do_dc (hc : X.calm = true) (hN : X.N.Nodup) (hi : PI X tg iter (qI X.K at_ xa W fi)) (ok : BlkOk X.N X.env.scope scope own) (hv : ∀ i ∈ t.all, i ∈ own.map (·.2))
    (hg : ∀ (s : Shared) (H : Hp) (C : Addr) (cl : List (Str × Addr)) (fp : List Addr), PG (X.blk s H scope (compEnvC scope cl C X.env) fp) tg (qG X.K at_ xa t)) (ht : ∀ (s : Shared) (H : Hp) (C : Addr) (cl : List (Str × Addr)) (fp : List Addr), PTs (X.blk s H scope (compEnvC scope cl C X.env) fp) ifs (qB X.K at_ xa W0 ft))
    (hk : ∀ (s : Shared) (H : Hp) (C : Addr) (cl : List (Str × Addr)) (fp : List Addr), PE (X.blk s H scope (compEnvC scope cl C X.env) fp) kx (qE X.K at_ xa W0 fk))
    (he : ∀ (s : Shared) (H : Hp) (C : Addr) (cl : List (Str × Addr)) (fp : List Addr), PE (X.blk s H scope (compEnvC scope cl C X.env) fp) vx (qE X.K at_ xa W0 fe)) (hs : ∀ x, foldedSetIterable iter X.env x = pure x := by intro _; rfl) :
    PE X (.DictComp kx vx [⟨tg, iter, ifs, 0⟩] scope pos) (qO X.K at_ xa W (eDComp fi t ft fk fe (own.map (·.2)))) := pe_imp (pe_dc hc hN hi ok hg ht hk he hs) fun _ _ _ => of_eDComp hv
end
end Pl
namespace Pl
open PySem L2
/-! ### dict displays -/
def pairsE : List (Ev × Ev) → Stt → Res (List (D × D))
  | [], st => .ok [] st
  | (fk, fv) :: r, st => match fk st with
    | .ok y st1 => match fv st1 with
      | .ok z st2 => match pairsE r st2 with
        | .ok l st3 => .ok ((y, z) :: l) st3
        | _ => .bad
      | _ => .bad
    | _ => .bad
def mergeD (acc : List (Key × D)) : List (D × D) → Option (List (Key × D))
  | [] => some acc
  | (y, z) :: r => match keyD y with
    | some k => mergeD (putD acc k z) r
    | none => none
def eDisp (l : List (Ev × Ev)) : Ev := fun st => match pairsE l st with
  | .ok ps st1 => if ps.length ≤ 15 then lift ((mergeD [] ps).map D.dct) st1 else .bad
  | _ => .bad
section
variable {K : PySem.W.Frag} {at_ : At} {xa : Option Xc} {W : WX}
inductive RepP (K : PySem.W.Frag) (at_ : At) (F : Hp) (m : List Addr) : List (D × D) → List (V × V) → Prop
  | nil : RepP K at_ F m [] []
  | cons {a b : D} {u v : V} {l : List (D × D)} {r : List (V × V)} : Rep K at_ F m a u → Rep K at_ F m b v → RepP K at_ F m l r → RepP K at_ F m ((a, b) :: l) ((u, v) :: r)
theorem pairs_ok {σ : St} : ∀ (l : List (Ev × Ev)) (g : G) (st : Stt) (H : Hp) (r : List (D × D)) (st' : Stt) (Q : List (V × V) → Hp → Prop), Rel K at_ xa g st σ H → pairsE l st = .ok r st' →
    (∀ g' H' ps, g.le g' → Rel K at_ xa g' st' σ H' → RepP K at_ g'.F g'.m r ps → Q ps H') → tPairs (l.map fun p => (qE K at_ xa W p.1, qE K at_ xa W p.2)) σ H Q
  | [], g, st, H, r, st', Q, R, e, k => by
    unfold pairsE at e
    cases e
    exact k g H [] (G.le.refl g) R .nil
  | (fk, fv) :: l, g, st, H, r, st', Q, R, e, k => by
    unfold pairsE at e
    cases q1 : fk st with
    | bad => rw [q1] at e; cases e
    | exc x s => rw [q1] at e; cases e
    | ok y st1 =>
      rw [q1] at e
      dsimp only at e
      cases q2 : fv st1 with
      | bad => rw [q2] at e; cases e
      | exc x s => rw [q2] at e; cases e
      | ok z st2 =>
        rw [q2] at e
        dsimp only at e
        cases q3 : pairsE l st2 with
        | bad => rw [q3] at e; cases e
        | exc x s => rw [q3] at e; cases e
        | ok rr st3 =>
          rw [q3] at e
          cases e
          refine ⟨g, st, R, ?_⟩
          show Aft K at_ xa W g σ _ (fk st)
          rw [q1]
          intro g1 H1 le1 R1 v1 r1
          refine ⟨g1, st1, R1, ?_⟩
          show Aft K at_ xa W g1 σ _ (fv st1)
          rw [q2]
          intro g2 H2 le2 R2 v2 r2
          exact pairs_ok l g2 st2 H2 rr _ _ R2 q3 fun g3 H3 ps le3 R3 rp => k g3 H3 _ ((le1.trans le2).trans le3) R3 (.cons (Rep.leG (le2.trans le3) r1) (Rep.leG le3 r2) rp)
theorem merge_rep {F : Hp} {m : List Addr} : ∀ (r : List (D × D)) (ps : List (V × V)) (acc kvs : List (Key × D)) (ws : List (Key × V)), RepP K at_ F m r ps → RepKV K at_ F m acc ws → mergeD acc r = some kvs →
    ∃ vs : List (Key × V), ps = vs.map (fun kv => (kV kv.1, kv.2)) ∧ vs.length = r.length ∧ RepKV K at_ F m kvs (mergeK ws vs)
  | [], _, acc, kvs, ws, h, ha, e => by
    cases h
    unfold mergeD at e
    cases e
    exact ⟨[], rfl, rfl, ha⟩
  | (y, z) :: r, _, acc, kvs, ws, h, ha, e => by
    cases h with
    | cons h1 h2 h3 =>
      rename_i u v ps
      unfold mergeD at e
      cases q : keyD y with
      | none => rw [q] at e; cases e
      | some k =>
        rw [q] at e
        obtain ⟨vs, e1, e2, e3⟩ := merge_rep r ps (putD acc k z) kvs (putK ws k v) h3 (ha.put h2) e
        exact ⟨(k, v) :: vs, by rw [List.map_cons, ← e1, h1.key q], by simp [e2], e3⟩
end
section
variable {X : Cx} {at_ : At} {xa : Option Xc} {W : WX} {pos : Pos}
/-- the pairs of a display -/
structure DPs (X : Cx) (at_ : At) (xa : Option Xc) (W : WX) (pos : Pos) (keys : List (Option Expr)) (values : List Expr) (l : List (Ev × Ev)) : Prop where
  h : PPs X pos keys values (l.map fun p => (qE X.K at_ xa W p.1, qE X.K at_ xa W p.2))
theorem dps_nil : DPs X at_ xa W pos [] [] [] := ⟨pps_nil⟩
theorem dps_cons {k v : Expr} {ks : List (Option Expr)} {vs : List Expr} {fk fv : Ev} {l : List (Ev × Ev)} (hk : PE X k (qE X.K at_ xa W fk)) (hv : PE X v (qE X.K at_ xa W fv)) (hr : DPs X at_ xa W pos ks vs l) :
    DPs X at_ xa W pos (some k :: ks) (v :: vs) ((fk, fv) :: l) := ⟨pps_cons hk hv hr.h⟩
theorem do_disp {keys : List (Option Expr)} {values : List Expr} {l : List (Ev × Ev)} (h : DPs X at_ xa W pos keys values l) (hall : keys.all (·.isSome) = true) (hl : keys.length = values.length) (h0 : keys ≠ []) (h15 : keys.length ≤ 15) :
    PE X (.Dict keys values pos) (qO X.K at_ xa W (eDisp l)) := by
  refine pe_imp (pe_disp h.h hall hl h0 h15) fun σ H Q hq => ?_
  obtain ⟨g, st, R, hq⟩ := hq
  intro p hp
  unfold eDisp at hq
  cases q : pairsE l st with
  | bad => rw [q] at hq; exact hq.elim
  | exc e s => rw [q] at hq; exact hq.elim
  | ok r st1 =>
    rw [q] at hq
    dsimp only at hq
    split at hq
    · rename_i hr
      obtain ⟨d, e, h1⟩ := hq.lift
      cases z : mergeD [] r with
      | none => rw [z] at e; cases e
      | some kvs =>
        rw [z] at e
        cases e
        have F1 := R.fnone hp
        have P1 := R.pnone hp
        have o1 := R.onone hp
        have R0 := (R.new hp (.dK [])).hold (o := .dK []) upd_same F1 o1
        refine pairs_ok l (g.hold p (.dK [])) st _ r st1 _ R0 q fun g' H' ps le R' rp => ?_
        have eP : g'.P = upd g.P p (.dK []) := le.P
        obtain ⟨vs, e1, e2, e3⟩ := merge_rep r ps [] kvs [] rp RepKV.nil z
        obtain ⟨Ru, z1, z2, z3⟩ := R'.unhold (u := .dK (mergeK [] vs)) eP P1
        have lu : g.le (g'.unhold g.P) := ⟨rfl, le.F, le.m⟩
        exact ⟨z3, vs, e1, by rw [e2]; exact hr, h1 _ _ lu Ru p ⟨mergeK [] vs, upd_same, e3⟩ z1 P1 z2⟩
    · exact hq.elim
end
end Pl
namespace Pl
open PySem L2
/-! ### d[k] = v of an own dict -/
def sDSet (i : Nat) (fi fe : Ev) : Cv := fun st => (fe st).fl fun d st1 => match st1.r[i]? with
  | some (some (.own (.dct _))) => (fi st1).fl fun y st2 => match keyD y with
    | some k => match st2.r[i]? with
      | some (some (.own (.dct kvs))) => if kvs.length < line then .nx (setR st2 i (.own (.dct (putD kvs k d)))) else .bad
      | _ => .bad
    | none => .bad
  | _ => .bad
section
variable {X : Cx} {at_ : At} {xa : Option Xc} {W : WX} {e a b c : Expr} {fa fb fi fe : Ev} {pos : Pos}
theorem Rel.slotOwnD {K : PySem.W.Frag} {g : G} {st : Stt} {σ : St} {H : Hp} (R : Rel K at_ xa g st σ H) {i : Nat} {kvs : List (Key × D)} (h : st.r[i]? = some (some (.own (.dct kvs)))) :
    ∃ a, σ[i]? = some (some (.ref a)) ∧ g.o a = some (.slot i) ∧ ∃ ws, H a = some (.dK ws) ∧ RepKV K at_ g.F g.m kvs ws := by
  obtain ⟨v, e1, a, e2, ho, c⟩ := R.slot i _ h
  subst e2
  exact ⟨a, e1, ho, c⟩
theorem ds_dset {i : Nat} {o j : Expr} {p : Pos} (hu : X.A.units + 64 < cLine) (ho : PE X o (tVar i)) (hj : PE X j (qE X.K at_ xa W fi)) (he : PE X e (qE X.K at_ xa W fe))
    (hs : swapsWith e (some (.Subscript o j p)) pos.line X.env = pure false := by rfl) : PS X (.Assign [.Subscript o j p] e pos) (qC X.K at_ xa W (sDSet i fi fe)) := by
  refine ps_imp (ps_dput (Nat.lt_of_le_of_lt (Nat.add_le_add_left (by decide) _) hu) ho hj he hs) fun T σ H hq => ?_
  obtain ⟨g, st, R, h⟩ := hq
  refine ⟨g, st, R, AftC.fl h fun g1 H1 d st1 le1 R1 h1 v rv => ?_⟩
  split at h1
  · rename_i ds0 h0
    obtain ⟨a, e1, ho, ws, hv, r⟩ := R1.slotOwnD h0
    refine ⟨_, e1, g1, st1, R1, AftC.fl h1 fun g2 H2 y st2 le2 R2 h2 u ru => ?_⟩
    split at h2
    · rename_i k hk
      split at h2
      · rename_i kvs h3
        obtain ⟨a', e1', ho', ws', hv', r'⟩ := R2.slotOwnD h3
        rw [e1] at e1'; cases e1'
        split at h2
        · rename_i hl
          refine ⟨a, upd H2 a (.dK (putK ws' k v)), rfl, ?_, ?_⟩
          · rw [ru.key hk]
            exact DPut.k hv' (by rw [r'.length]; exact Nat.lt_of_lt_of_le hl (by unfold line; rw [PySem.sizeLine_eq]; omega))
          · exact h2 g2 σ _ (G.le.refl g2) (R2.change h3 e1 ho' ⟨_, upd_same, r'.put (Rep.leG le2 rv)⟩)
        · exact h2.elim
      · exact h2.elim
    · exact h2.elim
  · exact h1.elim
end
end Pl
namespace Pl
open PySem L2
/-! ### own lists looked at, not handed on -/
def eCmpO (i : Nat) (ng : Bool → Bool) (fb : Ev) : Ev := fun st => match st.r[i]? with
  | some (some (.own (.lst _))) => (fb st).bind fun y st2 => match st2.r[i]? with
    | some (some (.own (.lst ds))) => lift ((pyEq (.lst ds) y).map fun b => .bl (ng b)) st2
    | _ => .bad
  | _ => .bad
def eIsO (i : Nat) (n : String) : Ev := fun st => match st.r[i]? with
  | some (some (.own (.lst _))) => lift ((kitB "list" n).map D.bl) st
  | _ => .bad
section
variable {X : Cx} {at_ : At} {xa : Option Xc} {W : WX} {e a b c : Expr} {fa fb fi fe : Ev} {pos : Pos}
theorem of_cmpO {i : Nat} {ng : Bool → Bool} {σ : St} {H : Hp} {Q : VK} (h : qE X.K at_ xa W (eCmpO i ng fb) σ H Q) :
    tOp (fun x y H Q => ∃ d e, Dp X.K H x d ∧ Dp X.K H y e ∧ SeqAt.shaped d = true ∧ SeqAt.shaped e = true ∧ Q (.bl (ng (PyData.eqv d e))) H) (tVar i) (qE X.K at_ xa W fb) σ H Q := by
  obtain ⟨g, st, R, h⟩ := h
  unfold eCmpO at h
  split at h
  · rename_i ds0 h0
    obtain ⟨a, e1, ho, vs, hv, r⟩ := R.slotOwn h0
    refine ⟨_, e1, g, st, R, h.bind fun g2 H2 y st2 le2 R2 h2 u ru => ?_⟩
    split at h2
    · rename_i ds h3
      obtain ⟨a', e1', ho', vs', hv', r'⟩ := R2.slotOwn h3
      rw [e1] at e1'; cases e1'
      obtain ⟨d, e, h4⟩ := h2.lift
      cases z : pyEq (.lst ds) y with
      | none => rw [z] at e; cases e
      | some b =>
        rw [z] at e
        cases e
        unfold pyEq at z
        split at z
        · rename_i p q hp hq
          split at z
          · rename_i hc
            cases z
            unfold toPy at hp
            cases z2 : toPys ds with
            | none => rw [z2] at hp; cases hp
            | some ps =>
              rw [z2] at hp
              cases hp
              exact ⟨_, q, .lst (SqL.of hv') (Reps.dp (fun a o z => (R2.sub a o z).1) ds vs' ps r' z2), Rep.dp (fun a o z => (R2.sub a o z).1) _ _ _ ru hq, hc.1, hc.2, h4 g2 _ (G.le.refl g2) R2 _ repbl⟩
          · cases z
        · cases z
    · exact h2.elim
  · exact h.elim
theorem de_neO {i : Nat} (hu : X.A.units + 64 < cLine) (ha : PE X a (tVar i)) (hb : PE X b (qE X.K at_ xa W fb)) (hm : behindInMarks .NotEq b = false) : PE X (.Compare a [.NotEq] [b] pos) (qE X.K at_ xa W (eCmpO i (fun b => !b) fb)) :=
  pe_imp (pe_cmpR (op_neD hu) ha hb hm) fun _ _ _ => of_cmpO
theorem de_eqO {i : Nat} (hu : X.A.units + 64 < cLine) (ha : PE X a (tVar i)) (hb : PE X b (qE X.K at_ xa W fb)) (hm : behindInMarks .Eq b = false) : PE X (.Compare a [.Eq] [b] pos) (qE X.K at_ xa W (eCmpO i (fun b => b) fb)) :=
  pe_imp (pe_cmpR (op_eqD hu) ha hb hm) fun _ _ _ => of_cmpO
theorem dt_neO {i : Nat} (hu : X.A.units + 64 < cLine) (ha : PE X a (tVar i)) (hb : PE X b (qE X.K at_ xa W fb)) (hm : behindInMarks .NotEq b = false) : PT X (.Compare a [.NotEq] [b] pos) (qB X.K at_ xa W (bOf (eCmpO i (fun b => !b) fb))) :=
  pt_imp (pt_cmpR (op_neD hu) ha hb hm) fun _ _ _ h => of_cmpO (of_bOf h)
theorem dt_eqO {i : Nat} (hu : X.A.units + 64 < cLine) (ha : PE X a (tVar i)) (hb : PE X b (qE X.K at_ xa W fb)) (hm : behindInMarks .Eq b = false) : PT X (.Compare a [.Eq] [b] pos) (qB X.K at_ xa W (bOf (eCmpO i (fun b => b) fb))) :=
  pt_imp (pt_cmpR (op_eqD hu) ha hb hm) fun _ _ _ h => of_cmpO (of_bOf h)
theorem de_isO {i : Nat} {n : String} {x y : Str} {p p2 p3 : Pos} (hg : Gl X "isinstance") (hm : X.mg "isinstance" = none) (ha : PE X (.Name x p2) (tVar i)) (hb : PE X (.Name y p3) (tC (.ty n)))
    (he : starEach [.Name x p2, .Name y p3] X.env = (false, eval (.Name x p2) X.env) :: starEach [.Name y p3] X.env := by rfl) (hpl : (backTo pos (starEach [.Name y p3] X.env)).any (·.1) = false := by rfl)
    (he2 : starEach [.Name y p3] X.env = (false, eval (.Name y p3) X.env) :: starEach [] X.env := by rfl) :
    PE X (.Call (.Name "isinstance" p) [.Name x p2, .Name y p3] [] pos) (qE X.K at_ xa W (eIsO i n)) := by
  refine pe_imp (pe_callB call_isi hg hm (by decide +kernel) (pa_cons ha (pa_cons hb pa_nil he2) he) (by decide) (by decide) he hpl) fun σ H Q hq => ?_
  obtain ⟨g, st, R, h⟩ := hq
  unfold eIsO at h
  split at h
  · rename_i ds0 h0
    obtain ⟨a, e1, ho, vs, hv, r⟩ := R.slotOwn h0
    obtain ⟨d, e, h4⟩ := h.lift
    cases hk : kitB "list" n with
    | none => rw [hk] at e; cases e
    | some b =>
      rw [hk] at e; cases e
      exact ⟨_, e1, _, _, _, _, b, rfl, .ty n, .base (.lst hv), kit_ty hk, h4 g _ (G.le.refl g) R _ repbl⟩
  · exact h.elim
end
end Pl
namespace Pl
open PySem L2
/-! ### a def called by keywords alone that hands back a list of its own -/
def eCallKO (n : Nat) (fn : Fn) (perm : List Nat) (fr : Av) : Ev := fun st => (fr st).bind fun ds st1 => if ds.length = n then match fn (pick D.non perm ds) st1.S with
  | .ok (.own d) S => .ok d { st1 with S := S }
  | .exc e S => .exc e { st1 with S := S }
  | _ => .bad else .bad
section
variable {X : Cx} {at_ : At} {W : WX} {kws : List Keyword} {fr : Av}
variable {k n : Nat} {f : Addr} {fd : FuncData} {ps ks : List Str} {fn : Fn} {x : Str} {p pos : Pos} {perm : List Nat}
theorem do_callK (F : FnOk X.prog X.w X.K X.mg X.base (L2.CX X.prog X.w) k f fd ps (spF X.K at_ fn)) (hr : Room k X.A) (tk : Takes X W) (hg : Gl X x) (hm : X.mg x = some (.ref f)) (hk : PySem.W.keepIn X.K (.ref f) = true) (hb : KBi X.K fd ps ks perm) (hn : ks.length = n)
    (ha : PK X kws (qA X.K at_ none W fr)) (hall : (backToKw pos (keywordEach kws X.env)).all (·.1.isSome) = true := by rfl) (hks : (backToKw pos (keywordEach kws X.env)).filterMap (·.1) = ks := by rfl) (hdb : (x == ("__debug__" : Str)) = false := by decide)
    (hpl : ((backTo pos (starEach [] X.env)).any (·.1) || (backToKw pos (keywordEach kws X.env)).any (·.1.isNone)) = false := by rfl) :
    PE X (.Call (.Name x p) [] kws pos) (qO X.K at_ none W (eCallKO n fn perm fr)) := by
  refine ⟨fun pins s σ H Q I hq => ?_⟩
  obtain ⟨g, st, R, h⟩ := hq
  refine wpAny_Call_Name_kw (ld_glob I hg hm ?_ hdb)
  refine PySem.W.callWith_KW0 (h₀ := X.base) I.ok.mod.kin hk hall ?_ hpl
  refine thn (ha.run pos pins s σ H (fun zs H' => ∃ g1 st1 ds, Rel X.K at_ none g1 st1 σ H' ∧ Reps X.K at_ g1.F g1.m ds zs ∧ ds.length = n ∧ Aft X.K at_ none W g1 σ (PoO X.K at_ Q) (match fn (pick D.non perm ds) st1.S with
      | .ok (.own d) S => .ok d { st1 with S := S }
      | .exc e S => .exc e { st1 with S := S }
      | _ => .bad)) I ⟨g, st, R, h.bind fun g1 H1 ds st1 le1 R1 h1 vs rs => ?_⟩) fun us s1 ⟨zs, H1, I1, rz, g1, st1, ds, R1, rs, hl, h1⟩ => ⟨I1.kIn, ?_⟩
  · split at h1
    · rename_i hl
      exact ⟨g1, st1, ds, R1, rs, hl, h1⟩
    · exact h1.elim
  · rw [hks]
    have hz : zs.length = ks.length := by rw [rs.length, hl, hn]
    have hu : us.length = ks.length := by rw [← rz.length, hz]
    have ip : ∀ i ∈ perm, i < zs.length := fun i hi => by rw [hz]; exact hb.ok i hi
    have sp := call_okO (fn := fn) R1 (pick_reps rs ip) h1
    refine wpAny_call (codeAny_mono (F.run X.A X.stack s1 H1 ⟨[], ks.zip us⟩ (pick Value.none perm us) (pick V.non perm zs) Q (WE W σ) hr I1.env0 (hb.to s1 us hu) (pick_vals rz ip) sp) fun r s' hq => ?_)
    cases r with
    | error e => exact passAt tk σ pins H1 s1 e s' I1 hq
    | ok fl =>
      cases fl with
      | ret u => exact I1.after hq
      | next => exact False.elim hq
      | brk => exact False.elim hq
      | cont => exact False.elim hq
end
end Pl
/-! extend; max of a list. -/
namespace Pl
open PySem L2
section
variable {X : Cx} {at_ : At} {xa : Option Xc} {W : WX} {e : Expr} {fa : Ev} {pos : Pos}
theorem de_ext {i : Nat} {o : Expr} {apos : Pos} (ho : PE X o (tVar i)) (ha : PE X e (qO X.K at_ xa W fa))
    (hbase : attributeBase o "extend" X.env (eval o X.env) = eval o X.env := by rfl)
    (hfew : ((backTo pos (starEach [e] X.env)).all (fun x => !x.1) && (backToKw pos (keywordEach [] X.env)).all (fun x => x.1.isSome)
      && decide (([e] : List Expr).length + ([] : List Keyword).length + (if ([] : List Keyword).isEmpty then 0 else 1) < 30)) = true := by rfl)
    (hline : (apos.endLine == pos.line) = true := by rfl) (hs : starEach [e] X.env = (false, eval e X.env) :: starEach [] X.env := by rfl) (hplain : (backTo pos (starEach [] X.env)).any (·.1) = false := by rfl) :
    PE X (.Call (.Attribute o "extend" apos) [e] [] pos) (qE X.K at_ xa W (eExt i fa)) := by
  refine pe_imp (pe_bm PySem.F.plainAttrs_list PySem.F.slot_list_extend PySem.F.type_list_extend mt_extend ho (pa_cons ha pa_nil hs) hbase hfew hline hs hplain) fun σ H Q hq => ?_
  obtain ⟨g, st, R, h⟩ := hq
  unfold eExt at h
  split at h
  · rename_i ds0 h0
    obtain ⟨a, e1, ho, vs, hv, r⟩ := R.slotOwn h0
    refine ⟨_, e1, tyL hv, g, st, R, h.bind fun g1 H1 d st1 le1 R1 h1 b c hF hP hob => ?_⟩
    split at h1
    · rename_i es
      split at h1
      · rename_i ds h2
        split at h1
        · rename_i hz
          obtain ⟨zs, hb, rz⟩ := c
          obtain ⟨a', e1', ho', vs', hv', r'⟩ := R1.slotOwn h2
          rw [e1] at e1'; cases e1'
          refine ⟨a, b, vs', zs, rfl, rfl, hv', hb, by rw [r'.length, rz.length]; exact Nat.le_trans hz (by unfold line; rw [PySem.sizeLine_eq]; omega), ?_⟩
          exact h1 g1 _ (G.le.refl g1) (R1.change h2 e1 ho' ⟨_, upd_same, r'.append rz⟩) _ repnon
        · exact h1.elim
      · exact h1.elim
    · exact h1.elim
  · exact h.elim
end
/-! ### max of a list of ints -/
def intsL : List D → Option (List Int)
  | [] => some []
  | .int i :: r => (intsL r).map (i :: ·)
  | _ => none
theorem intsL_eq : ∀ {ds : List D} {ns : List Int}, intsL ds = some ns → ds = ns.map D.int
  | [], ns, h => by cases h; rfl
  | .int i :: r, ns, h => by
    unfold intsL at h
    cases z : intsL r with
    | none => rw [z] at h; cases h
    | some l =>
      rw [z] at h; cases h
      simp [intsL_eq z]
  | .non :: r, ns, h => by unfold intsL at h; cases h
  | .bl _ :: r, ns, h => by unfold intsL at h; cases h
  | .str _ :: r, ns, h => by unfold intsL at h; cases h
  | .ty _ :: r, ns, h => by unfold intsL at h; cases h
  | .fn _ :: r, ns, h => by unfold intsL at h; cases h
  | .tup _ :: r, ns, h => by unfold intsL at h; cases h
  | .lst _ :: r, ns, h => by unfold intsL at h; cases h
  | .lck _ :: r, ns, h => by unfold intsL at h; cases h
  | .dct _ :: r, ns, h => by unfold intsL at h; cases h
  | .obj _ :: r, ns, h => by unfold intsL at h; cases h
def maxI : List Int → Int
  | [] => 0
  | [x] => x
  | x :: y :: r => if maxI (y :: r) > x then maxI (y :: r) else x
theorem maxI_ok : ∀ {ns : List Int}, 0 < ns.length → maxI ns ∈ ns ∧ ∀ y ∈ ns, y ≤ maxI ns
  | [], h => by simp at h
  | [x], _ => ⟨by simp [maxI], fun y hy => by rw [List.mem_singleton.mp hy]; simp [maxI]⟩
  | x :: z :: r, _ => by
    obtain ⟨h1, h2⟩ := @maxI_ok (z :: r) (by simp)
    unfold maxI
    split
    · rename_i hg
      refine ⟨List.mem_cons_of_mem _ h1, fun y hy => ?_⟩
      rcases List.mem_cons.mp hy with e | e
      · omega
      · exact h2 y e
    · rename_i hg
      refine ⟨List.mem_cons_self, fun y hy => ?_⟩
      rcases List.mem_cons.mp hy with e | e
      · omega
      · have := h2 y e; omega
def kMaxL : List SO → List D → Option D := fun _ xs => match xs with
  | [.lst ds] => match intsL ds with
    | some (i :: r) => some (.int (maxI (i :: r)))
    | _ => none
  | _ => none
section
variable {K : PySem.W.Frag} {at_ : At} {xa : Option Xc}
theorem v_maxL : VOpN K at_ xa (rMax K) kMaxL := by
  intro g st σ H xs ds d Q R rs e k
  unfold kMaxL at e
  split at e
  · rename_i l
    obtain ⟨v, rfl, q⟩ := rs.one
    obtain ⟨a, ws, rfl, hF, rr⟩ := q.l
    split at e
    · rename_i i r hi
      cases e
      have el := intsL_eq hi
      subst el
      have ew : ws = (i :: r).map V.int := by
        have : ∀ {ns : List Int} {ws : List V}, Reps K at_ g.F g.m (ns.map D.int) ws → ws = ns.map V.int := by
          intro ns
          induction ns with
          | nil => intro ws h; exact h.unnil
          | cons n ns ih =>
            intro ws h
            obtain ⟨v, r, e, q, z⟩ := h.uncons
            subst e
            rw [q.i, ih z]; rfl
        exact this rr
      subst ew
      refine ⟨a, i :: r, rfl, SqL.of (R.sub _ _ hF).1, by simp, fun m h1 h2 => ?_⟩
      have ⟨m1, m2⟩ := @maxI_ok (i :: r) (by simp)
      have em : m = maxI (i :: r) := by
        have a1 := m2 m h1
        have a2 := h2 _ m1
        omega
      rw [em]
      exact k g _ H (G.le.refl g) R repint
    · cases e
  · cases e
end
end Pl
/-! The pure layer: how its functions run, as rewriting without binders. -/
namespace Pl
open PySem L2
theorem nr {α : Sort _} {a b : α} (h : a = b) : a = b := h
/-! ### states -/
@[simp] theorem setR_r {r : List (Option Slot)} {S : List SO} {i : Nat} {s : Slot} : setR ⟨r, S⟩ i s = ⟨r.set i (some s), S⟩ := nr rfl
/-! ### expressions -/
@[simp] theorem r_eC {d : D} {st : Stt} : eC d st = .ok d st := nr rfl
def varA (i : Nat) (st : Stt) : Option (Option Slot) → Res D
  | some (some (.dat d)) => .ok d st
  | some (some (.own d)) => .ok d (setR st i (.dat d))
  | _ => .bad
@[simp] theorem r_eVar {i : Nat} {r : List (Option Slot)} {S : List SO} : eVar i ⟨r, S⟩ = varA i ⟨r, S⟩ (r[i]?) := nr rfl
@[simp] theorem r_varA1 {i : Nat} {st : Stt} {d : D} : varA i st (some (some (.dat d))) = .ok d st := nr rfl
@[simp] theorem r_varA2 {i : Nat} {st : Stt} {d : D} : varA i st (some (some (.own d))) = .ok d (setR st i (.dat d)) := nr rfl
def op1A (k : List SO → D → Option D) : Res D → Res D
  | .ok x st => lift (k st.S x) st
  | .exc e st => .exc e st
  | .bad => .bad
@[simp] theorem r_eOp1 {k : List SO → D → Option D} {f : Ev} {st : Stt} : eOp1 k f st = op1A k (f st) := by unfold eOp1; cases f st <;> rfl
@[simp] theorem r_op1A {k : List SO → D → Option D} {x : D} {r : List (Option Slot)} {S : List SO} : op1A k (.ok x ⟨r, S⟩) = lift (k S x) ⟨r, S⟩ := nr rfl
@[simp] theorem r_op1Ae {k : List SO → D → Option D} {e : Ex} {st : Stt} : op1A k (.exc e st) = .exc e st := nr rfl
def op2B (k : List SO → D → D → Option D) (x : D) : Res D → Res D
  | .ok y st => lift (k st.S x y) st
  | .exc e st => .exc e st
  | .bad => .bad
def op2A (k : List SO → D → D → Option D) (fb : Ev) : Res D → Res D
  | .ok x st => op2B k x (fb st)
  | .exc e st => .exc e st
  | .bad => .bad
@[simp] theorem r_eOp2 {k : List SO → D → D → Option D} {fa fb : Ev} {st : Stt} : eOp2 k fa fb st = op2A k fb (fa st) := by
  unfold eOp2 op2A
  cases fa st with
  | ok x st1 => show Res.bind (fb st1) _ = op2B k x (fb st1); cases fb st1 <;> rfl
  | exc e st1 => rfl
  | bad => rfl
@[simp] theorem r_op2A {k : List SO → D → D → Option D} {fb : Ev} {x : D} {st : Stt} : op2A k fb (.ok x st) = op2B k x (fb st) := nr rfl
@[simp] theorem r_op2Ae {k : List SO → D → D → Option D} {fb : Ev} {e : Ex} {st : Stt} : op2A k fb (.exc e st) = .exc e st := nr rfl
@[simp] theorem r_op2B {k : List SO → D → D → Option D} {x y : D} {r : List (Option Slot)} {S : List SO} : op2B k x (.ok y ⟨r, S⟩) = lift (k S x y) ⟨r, S⟩ := nr rfl
@[simp] theorem r_op2Be {k : List SO → D → D → Option D} {x : D} {e : Ex} {st : Stt} : op2B k x (.exc e st) = .exc e st := nr rfl
@[simp] theorem r_aNil {st : Stt} : aNil st = .ok [] st := nr rfl
def consB (x : D) : Res (List D) → Res (List D)
  | .ok xs st => .ok (x :: xs) st
  | .exc e st => .exc e st
  | .bad => .bad
def consA (fr : Av) : Res D → Res (List D)
  | .ok x st => consB x (fr st)
  | .exc e st => .exc e st
  | .bad => .bad
@[simp] theorem r_aCons {fa : Ev} {fr : Av} {st : Stt} : aCons fa fr st = consA fr (fa st) := by
  unfold aCons consA
  cases fa st with
  | ok x st1 => show Res.bind (fr st1) _ = consB x (fr st1); cases fr st1 <;> rfl
  | exc e st1 => rfl
  | bad => rfl
@[simp] theorem r_consA {fr : Av} {x : D} {st : Stt} : consA fr (.ok x st) = consB x (fr st) := nr rfl
@[simp] theorem r_consAe {fr : Av} {e : Ex} {st : Stt} : consA fr (.exc e st) = .exc e st := nr rfl
@[simp] theorem r_consB {x : D} {xs : List D} {st : Stt} : consB x (.ok xs st) = .ok (x :: xs) st := nr rfl
@[simp] theorem r_consBe {x : D} {e : Ex} {st : Stt} : consB x (.exc e st) = .exc e st := nr rfl
def opNA (k : List SO → List D → Option D) : Res (List D) → Res D
  | .ok xs st => lift (k st.S xs) st
  | .exc e st => .exc e st
  | .bad => .bad
@[simp] theorem r_eOpN {k : List SO → List D → Option D} {f : Av} {st : Stt} : eOpN k f st = opNA k (f st) := by unfold eOpN; cases f st <;> rfl
@[simp] theorem r_opNA {k : List SO → List D → Option D} {xs : List D} {r : List (Option Slot)} {S : List SO} : opNA k (.ok xs ⟨r, S⟩) = lift (k S xs) ⟨r, S⟩ := nr rfl
@[simp] theorem r_opNAe {k : List SO → List D → Option D} {e : Ex} {st : Stt} : opNA k (.exc e st) = .exc e st := nr rfl
def ifA {α : Type} (fa fb : Stt → Res α) : Res Bool → Res α
  | .ok b st => if b then fa st else fb st
  | .exc e st => .exc e st
  | .bad => .bad
@[simp] theorem r_eIf {fc : Bv} {fa fb : Ev} {st : Stt} : eIf fc fa fb st = ifA fa fb (fc st) := by unfold eIf; cases fc st <;> rfl
@[simp] theorem r_ifA1 {α : Type} {fa fb : Stt → Res α} {st : Stt} : ifA fa fb (.ok true st) = fa st := nr rfl
@[simp] theorem r_ifA2 {α : Type} {fa fb : Stt → Res α} {st : Stt} : ifA fa fb (.ok false st) = fb st := nr rfl
@[simp] theorem r_ifAe {α : Type} {fa fb : Stt → Res α} {e : Ex} {st : Stt} : ifA fa fb (.exc e st) = .exc e st := nr rfl
theorem r_ifA {α : Type} {fa fb : Stt → Res α} {b : Bool} {st : Stt} : ifA fa fb (.ok b st) = if b then fa st else fb st := rfl
def bOfA : Res D → Res Bool
  | .ok (.bl b) st => .ok b st
  | .exc e st => .exc e st
  | _ => .bad
@[simp] theorem r_bOf {f : Ev} {st : Stt} : bOf f st = bOfA (f st) := by
  unfold bOf bOfA
  cases f st with
  | ok d st1 => cases d <;> rfl
  | exc e st1 => rfl
  | bad => rfl
@[simp] theorem r_bOfA {b : Bool} {st : Stt} : bOfA (.ok (.bl b) st) = .ok b st := nr rfl
@[simp] theorem r_bOfAe {e : Ex} {st : Stt} : bOfA (.exc e st) = .exc e st := nr rfl
def bAndA (fb : Bv) : Res Bool → Res Bool
  | .ok b st => if b then fb st else .ok false st
  | .exc e st => .exc e st
  | .bad => .bad
def bOrA (fb : Bv) : Res Bool → Res Bool
  | .ok b st => if b then .ok true st else fb st
  | .exc e st => .exc e st
  | .bad => .bad
@[simp] theorem r_bAnd {fa fb : Bv} {st : Stt} : bAnd fa fb st = bAndA fb (fa st) := by unfold bAnd; cases fa st <;> rfl
@[simp] theorem r_bOr {fa fb : Bv} {st : Stt} : bOr fa fb st = bOrA fb (fa st) := by unfold bOr; cases fa st <;> rfl
@[simp] theorem r_bAndA1 {fb : Bv} {st : Stt} : bAndA fb (.ok true st) = fb st := nr rfl
@[simp] theorem r_bAndA2 {fb : Bv} {st : Stt} : bAndA fb (.ok false st) = .ok false st := nr rfl
theorem r_bAndA {fb : Bv} {b : Bool} {st : Stt} : bAndA fb (.ok b st) = if b then fb st else .ok false st := rfl
@[simp] theorem r_bOrA1 {fb : Bv} {st : Stt} : bOrA fb (.ok true st) = .ok true st := nr rfl
@[simp] theorem r_bOrA2 {fb : Bv} {st : Stt} : bOrA fb (.ok false st) = fb st := nr rfl
theorem r_bOrA {fb : Bv} {b : Bool} {st : Stt} : bOrA fb (.ok b st) = if b then .ok true st else fb st := rfl
@[simp] theorem r_bAndAe {fb : Bv} {e : Ex} {st : Stt} : bAndA fb (.exc e st) = .exc e st := nr rfl
@[simp] theorem r_bOrAe {fb : Bv} {e : Ex} {st : Stt} : bOrA fb (.exc e st) = .exc e st := nr rfl
def bNotA : Res Bool → Res Bool
  | .ok b st => .ok (!b) st
  | .exc e st => .exc e st
  | .bad => .bad
@[simp] theorem r_bNot {f : Bv} {st : Stt} : bNot f st = bNotA (f st) := by unfold bNot; cases f st <;> rfl
@[simp] theorem r_bNotA {b : Bool} {st : Stt} : bNotA (.ok b st) = .ok (!b) st := nr rfl
@[simp] theorem r_bNotAe {e : Ex} {st : Stt} : bNotA (.exc e st) = .exc e st := nr rfl
def eAndA (fb : Ev) : Res D → Res D
  | .ok (.bl true) st => fb st
  | .ok (.bl false) st => .ok (.bl false) st
  | .exc e st => .exc e st
  | _ => .bad
def eOrA (fb : Ev) : Res D → Res D
  | .ok (.bl true) st => .ok (.bl true) st
  | .ok (.bl false) st => fb st
  | .exc e st => .exc e st
  | _ => .bad
@[simp] theorem r_eAnd {fa fb : Ev} {st : Stt} : eAnd fa fb st = eAndA fb (fa st) := by
  unfold eAnd eAndA
  cases fa st with
  | ok d st1 => cases d with
    | bl b => cases b <;> rfl
    | _ => rfl
  | exc e st1 => rfl
  | bad => rfl
@[simp] theorem r_eOr {fa fb : Ev} {st : Stt} : eOr fa fb st = eOrA fb (fa st) := by
  unfold eOr eOrA
  cases fa st with
  | ok d st1 => cases d with
    | bl b => cases b <;> rfl
    | _ => rfl
  | exc e st1 => rfl
  | bad => rfl
@[simp] theorem r_eAndA1 {fb : Ev} {st : Stt} : eAndA fb (.ok (.bl true) st) = fb st := nr rfl
@[simp] theorem r_eAndA2 {fb : Ev} {st : Stt} : eAndA fb (.ok (.bl false) st) = .ok (.bl false) st := nr rfl
theorem r_eAndA {fb : Ev} {b : Bool} {st : Stt} : eAndA fb (.ok (.bl b) st) = if b then fb st else .ok (.bl false) st := by cases b <;> rfl
@[simp] theorem r_eOrA1 {fb : Ev} {st : Stt} : eOrA fb (.ok (.bl true) st) = .ok (.bl true) st := nr rfl
@[simp] theorem r_eOrA2 {fb : Ev} {st : Stt} : eOrA fb (.ok (.bl false) st) = fb st := nr rfl
theorem r_eOrA {fb : Ev} {b : Bool} {st : Stt} : eOrA fb (.ok (.bl b) st) = if b then .ok (.bl true) st else fb st := by cases b <;> rfl
@[simp] theorem r_eAndAe {fb : Ev} {e : Ex} {st : Stt} : eAndA fb (.exc e st) = .exc e st := nr rfl
@[simp] theorem r_eOrAe {fb : Ev} {e : Ex} {st : Stt} : eOrA fb (.exc e st) = .exc e st := nr rfl
def lenA (st : Stt) : Option (Option Slot) → Res D
  | some (some (.own (.lst ds))) => .ok (.int ds.length) st
  | some (some (.dat d)) => lift (kLen st.S [d]) st
  | _ => .bad
@[simp] theorem r_eLen {i : Nat} {r : List (Option Slot)} {S : List SO} : eLen i ⟨r, S⟩ = lenA ⟨r, S⟩ (r[i]?) := nr rfl
@[simp] theorem r_lenA1 {st : Stt} {ds : List D} : lenA st (some (some (.own (.lst ds)))) = .ok (.int ds.length) st := nr rfl
@[simp] theorem r_lenA2 {r : List (Option Slot)} {S : List SO} {d : D} : lenA ⟨r, S⟩ (some (some (.dat d))) = lift (kLen S [d]) ⟨r, S⟩ := nr rfl
def ixB (i : Nat) : Res D → Res D
  | .ok (.int z) st => match st.r[i]? with
    | some (some (.own (.lst ds))) => lift (atI ds z) st
    | _ => .bad
  | .exc e st => .exc e st
  | _ => .bad
def ixA (i : Nat) (fb : Ev) (st : Stt) : Option (Option Slot) → Res D
  | some (some (.own (.lst _))) => ixB i (fb st)
  | some (some (.dat d)) => op2B kIx d (fb st)
  | _ => .bad
@[simp] theorem r_eIx {i : Nat} {fb : Ev} {r : List (Option Slot)} {S : List SO} : eIx i fb ⟨r, S⟩ = ixA i fb ⟨r, S⟩ (r[i]?) := by
  unfold eIx ixA
  dsimp only
  cases r[i]? with
  | none => rfl
  | some o =>
    cases o with
    | none => rfl
    | some s =>
      cases s with
      | dat d => dsimp only; cases fb ⟨r, S⟩ <;> rfl
      | own d =>
        cases d with
        | lst ds =>
          dsimp only
          cases fb ⟨r, S⟩ with
          | ok y st1 =>
            obtain ⟨r1, S1⟩ := st1
            cases y with
            | int z => rfl
            | _ =>
              simp only [Res.bind_ok, ixB]
              split <;> rfl
          | exc e st1 => rfl
          | bad => rfl
        | _ => rfl
      | exn c f => rfl
@[simp] theorem r_ixA1 {i : Nat} {fb : Ev} {st : Stt} {ds : List D} : ixA i fb st (some (some (.own (.lst ds)))) = ixB i (fb st) := nr rfl
@[simp] theorem r_ixA2 {i : Nat} {fb : Ev} {st : Stt} {d : D} : ixA i fb st (some (some (.dat d))) = op2B kIx d (fb st) := nr rfl
def ixC (st : Stt) (z : Int) : Option (Option Slot) → Res D
  | some (some (.own (.lst ds))) => lift (atI ds z) st
  | _ => .bad
@[simp] theorem r_ixB {i : Nat} {z : Int} {r : List (Option Slot)} {S : List SO} : ixB i (.ok (.int z) ⟨r, S⟩) = ixC ⟨r, S⟩ z (r[i]?) := nr rfl
@[simp] theorem r_ixC {st : Stt} {z : Int} {ds : List D} : ixC st z (some (some (.own (.lst ds)))) = lift (atI ds z) st := nr rfl
def appB (i : Nat) (d : D) (st : Stt) : Option (Option Slot) → Res D
  | some (some (.own (.lst ds))) => if ds.length < line then .ok .non (setR st i (.own (.lst (ds ++ [d])))) else .bad
  | _ => .bad
def appA (i : Nat) : Res D → Res D
  | .ok d st => appB i d st (st.r[i]?)
  | .exc e st => .exc e st
  | .bad => .bad
def app0 (i : Nat) (fa : Ev) (st : Stt) : Option (Option Slot) → Res D
  | some (some (.own (.lst _))) => appA i (fa st)
  | _ => .bad
@[simp] theorem r_eApp {i : Nat} {fa : Ev} {r : List (Option Slot)} {S : List SO} : eApp i fa ⟨r, S⟩ = app0 i fa ⟨r, S⟩ (r[i]?) := by
  unfold eApp app0
  dsimp only
  rcases r[i]? with _ | _ | d | d | ⟨c, f⟩
  · rfl
  · rfl
  · rfl
  · cases d with
    | lst ds =>
      dsimp only
      cases fa ⟨r, S⟩ with
      | ok d st1 =>
        simp only [Res.bind_ok, appA]
        unfold appB
        rcases st1.r[i]? with _ | _ | _ | e | _ <;> first | rfl | (cases e <;> rfl)
      | exc e st1 => rfl
      | bad => rfl
    | _ => rfl
  · rfl
@[simp] theorem r_app0 {i : Nat} {fa : Ev} {st : Stt} {ds : List D} : app0 i fa st (some (some (.own (.lst ds)))) = appA i (fa st) := nr rfl
@[simp] theorem r_appA {i : Nat} {d : D} {r : List (Option Slot)} {S : List SO} : appA i (.ok d ⟨r, S⟩) = appB i d ⟨r, S⟩ (r[i]?) := nr rfl
@[simp] theorem r_appAe {i : Nat} {e : Ex} {st : Stt} : appA i (.exc e st) = .exc e st := nr rfl
@[simp] theorem r_appB {i : Nat} {d : D} {st : Stt} {ds : List D} : appB i d st (some (some (.own (.lst ds)))) = if ds.length < line then .ok .non (setR st i (.own (.lst (ds ++ [d])))) else .bad := nr rfl
def popA (i : Nat) (st : Stt) : Option (Option Slot) → Res D
  | some (some (.own (.lst ds))) => match ds[ds.length - 1]? with
    | some d => .ok d (setR st i (.own (.lst ds.dropLast)))
    | none => .bad
  | _ => .bad
@[simp] theorem r_ePop {i : Nat} {r : List (Option Slot)} {S : List SO} : ePop i ⟨r, S⟩ = popA i ⟨r, S⟩ (r[i]?) := nr rfl
@[simp] theorem r_popA {i : Nat} {st : Stt} {ds : List D} {d : D} : popA i st (some (some (.own (.lst (ds ++ [d]))))) = .ok d (setR st i (.own (.lst ds))) := by simp [popA]
/-! ### slices, methods, calls -/
@[simp] theorem r_oNo {st : Stt} : oNo st = .ok none st := nr rfl
def oOfA : Res D → Res (Option Int)
  | .ok (.int i) st => .ok (some i) st
  | .exc e st => .exc e st
  | _ => .bad
@[simp] theorem r_oOf {f : Ev} {st : Stt} : oOf f st = oOfA (f st) := by
  unfold oOf oOfA
  cases f st with
  | ok d st1 => cases d <;> rfl
  | exc e st1 => rfl
  | bad => rfl
@[simp] theorem r_oOfA {i : Int} {st : Stt} : oOfA (.ok (.int i) st) = .ok (some i) st := nr rfl
@[simp] theorem r_oOfAe {e : Ex} {st : Stt} : oOfA (.exc e st) = .exc e st := nr rfl
def slC (k : D → Option Int → Option Int → Option D) (x : D) (lo : Option Int) : Res (Option Int) → Res D
  | .ok hi st => lift (k x lo hi) st
  | .exc e st => .exc e st
  | .bad => .bad
def slB (k : D → Option Int → Option Int → Option D) (x : D) (fh : Ov) : Res (Option Int) → Res D
  | .ok lo st => slC k x lo (fh st)
  | .exc e st => .exc e st
  | .bad => .bad
def slA (k : D → Option Int → Option Int → Option D) (fl fh : Ov) : Res D → Res D
  | .ok x st => slB k x fh (fl st)
  | .exc e st => .exc e st
  | .bad => .bad
@[simp] theorem r_eSl {k : D → Option Int → Option Int → Option D} {fa : Ev} {fl fh : Ov} {st : Stt} : eSl k fa fl fh st = slA k fl fh (fa st) := by
  unfold eSl slA
  cases fa st with
  | ok x st1 =>
    show Res.bind (fl st1) _ = slB k x fh (fl st1)
    cases fl st1 with
    | ok lo st2 => show Res.bind (fh st2) _ = slC k x lo (fh st2); cases fh st2 <;> rfl
    | exc e st2 => rfl
    | bad => rfl
  | exc e st1 => rfl
  | bad => rfl
@[simp] theorem r_slA {k : D → Option Int → Option Int → Option D} {fl fh : Ov} {x : D} {st : Stt} : slA k fl fh (.ok x st) = slB k x fh (fl st) := nr rfl
@[simp] theorem r_slB {k : D → Option Int → Option Int → Option D} {fh : Ov} {x : D} {lo : Option Int} {st : Stt} : slB k x fh (.ok lo st) = slC k x lo (fh st) := nr rfl
@[simp] theorem r_slC {k : D → Option Int → Option Int → Option D} {x : D} {lo hi : Option Int} {st : Stt} : slC k x lo (.ok hi st) = lift (k x lo hi) st := nr rfl
@[simp] theorem r_slAe {k : D → Option Int → Option Int → Option D} {fl fh : Ov} {e : Ex} {st : Stt} : slA k fl fh (.exc e st) = .exc e st := nr rfl
def mtB (k : Str → List D → Option D) (z : Str) : Res (List D) → Res D
  | .ok xs st => lift (k z xs) st
  | .exc e st => .exc e st
  | .bad => .bad
def mtA (k : Str → List D → Option D) (fr : Av) : Res D → Res D
  | .ok (.str z) st => mtB k z (fr st)
  | .exc e st => .exc e st
  | _ => .bad
@[simp] theorem r_eMtS {k : Str → List D → Option D} {fa : Ev} {fr : Av} {st : Stt} : eMtS k fa fr st = mtA k fr (fa st) := by
  unfold eMtS mtA
  cases fa st with
  | ok x st1 =>
    cases x with
    | str z => show Res.bind (fr st1) _ = mtB k z (fr st1); cases fr st1 <;> rfl
    | _ => rfl
  | exc e st1 => rfl
  | bad => rfl
@[simp] theorem r_mtA {k : Str → List D → Option D} {fr : Av} {z : Str} {st : Stt} : mtA k fr (.ok (.str z) st) = mtB k z (fr st) := nr rfl
@[simp] theorem r_mtB {k : Str → List D → Option D} {z : Str} {xs : List D} {st : Stt} : mtB k z (.ok xs st) = lift (k z xs) st := nr rfl
@[simp] theorem r_mtBe {k : Str → List D → Option D} {z : Str} {e : Ex} {st : Stt} : mtB k z (.exc e st) = .exc e st := nr rfl
def callC (r : List (Option Slot)) : FRes → Res D
  | .ok (.dat d) S => .ok d ⟨r, S⟩
  | .exc e S => .exc e ⟨r, S⟩
  | _ => .bad
def callCO (r : List (Option Slot)) : FRes → Res D
  | .ok (.own d) S => .ok d ⟨r, S⟩
  | .exc e S => .exc e ⟨r, S⟩
  | _ => .bad
def callA (f : Fn) : Res (List D) → Res D
  | .ok ds st => callC st.r (f ds st.S)
  | .exc e st => .exc e st
  | .bad => .bad
def callAO (f : Fn) : Res (List D) → Res D
  | .ok ds st => callCO st.r (f ds st.S)
  | .exc e st => .exc e st
  | .bad => .bad
@[simp] theorem r_eCall {f : Fn} {fr : Av} {st : Stt} : eCall f fr st = callA f (fr st) := by
  unfold eCall callA
  cases fr st with
  | ok ds st1 => simp only [Res.bind_ok]; rcases f ds st1.S with ⟨_ | _ | _, _⟩ | _ | _ <;> rfl
  | exc e st1 => rfl
  | bad => rfl
@[simp] theorem r_eCallO {f : Fn} {fr : Av} {st : Stt} : eCallO f fr st = callAO f (fr st) := by
  unfold eCallO callAO
  cases fr st with
  | ok ds st1 => simp only [Res.bind_ok]; rcases f ds st1.S with ⟨_ | _ | _, _⟩ | _ | _ <;> rfl
  | exc e st1 => rfl
  | bad => rfl
@[simp] theorem r_callA {f : Fn} {ds : List D} {r : List (Option Slot)} {S : List SO} : callA f (.ok ds ⟨r, S⟩) = callC r (f ds S) := nr rfl
@[simp] theorem r_callAO {f : Fn} {ds : List D} {r : List (Option Slot)} {S : List SO} : callAO f (.ok ds ⟨r, S⟩) = callCO r (f ds S) := nr rfl
@[simp] theorem r_callC {r : List (Option Slot)} {d : D} {S : List SO} : callC r (.ok (.dat d) S) = .ok d ⟨r, S⟩ := nr rfl
@[simp] theorem r_callCe {r : List (Option Slot)} {e : Ex} {S : List SO} : callC r (.exc e S) = .exc e ⟨r, S⟩ := nr rfl
@[simp] theorem r_callCO {r : List (Option Slot)} {d : D} {S : List SO} : callCO r (.ok (.own d) S) = .ok d ⟨r, S⟩ := nr rfl
@[simp] theorem r_callCOe {r : List (Option Slot)} {e : Ex} {S : List SO} : callCO r (.exc e S) = .exc e ⟨r, S⟩ := nr rfl
def callKA (n : Nat) (f : Fn) (perm : List Nat) : Res (List D) → Res D
  | .ok ds st => if ds.length = n then callC st.r (f (pick D.non perm ds) st.S) else .bad
  | .exc e st => .exc e st
  | .bad => .bad
@[simp] theorem r_eCallK {n : Nat} {f : Fn} {perm : List Nat} {fr : Av} {st : Stt} : eCallK n f perm fr st = callKA n f perm (fr st) := by
  unfold eCallK callKA
  cases fr st with
  | ok ds st1 =>
    simp only [Res.bind_ok]
    split
    · rcases f (pick D.non perm ds) st1.S with ⟨_ | _ | _, _⟩ | _ | _ <;> rfl
    · rfl
  | exc e st1 => rfl
  | bad => rfl
@[simp] theorem r_callKA {n : Nat} {f : Fn} {perm : List Nat} {ds : List D} {r : List (Option Slot)} {S : List SO} : callKA n f perm (.ok ds ⟨r, S⟩) = if ds.length = n then callC r (f (pick D.non perm ds) S) else .bad := nr rfl
/-! ### statements -/
def seqA (t : Cv) : Fl → Fl
  | .nx st => t st
  | x => x
@[simp] theorem r_sSeq {s t : Cv} {st : Stt} : sSeq s t st = seqA t (s st) := by unfold sSeq seqA; cases s st <;> rfl
@[simp] theorem r_seqA1 {t : Cv} {st : Stt} : seqA t (.nx st) = t st := nr rfl
@[simp] theorem r_seqA2 {t : Cv} {st : Stt} {s : Slot} : seqA t (.rt s st) = .rt s st := nr rfl
@[simp] theorem r_seqA3 {t : Cv} {st : Stt} : seqA t (.bk st) = .bk st := nr rfl
@[simp] theorem r_seqA4 {t : Cv} {st : Stt} : seqA t (.ct st) = .ct st := nr rfl
@[simp] theorem r_seqA5 {t : Cv} {st : Stt} {e : Ex} : seqA t (.exc e st) = .exc e st := nr rfl
@[simp] theorem r_seqIf {t : Cv} {c : Prop} [Decidable c] {a b : Fl} : seqA t (if c then a else b) = if c then seqA t a else seqA t b := by split <;> rfl
@[simp] theorem r_sNx {st : Stt} : sNx st = .nx st := nr rfl
@[simp] theorem r_sBk {st : Stt} : sBk st = .bk st := nr rfl
@[simp] theorem r_sCt {st : Stt} : sCt st = .ct st := nr rfl
@[simp] theorem r_sRetN {st : Stt} : sRetN st = .rt (.dat .non) st := nr rfl
@[simp] theorem r_sRaise {c : String} {st : Stt} : sRaise c st = .exc ⟨c, none⟩ st := nr rfl
def setA (g : D → Slot) (i : Nat) : Res D → Fl
  | .ok d st => .nx (setR st i (g d))
  | .exc e st => .exc e st
  | .bad => .bad
@[simp] theorem r_sSet {i : Nat} {f : Ev} {st : Stt} : sSet i f st = setA .dat i (f st) := by unfold sSet; cases f st <;> rfl
@[simp] theorem r_sSetO {i : Nat} {f : Ev} {st : Stt} : sSetO i f st = setA .own i (f st) := by unfold sSetO; cases f st <;> rfl
@[simp] theorem r_setA {g : D → Slot} {i : Nat} {d : D} {st : Stt} : setA g i (.ok d st) = .nx (setR st i (g d)) := nr rfl
@[simp] theorem r_setAe {g : D → Slot} {i : Nat} {e : Ex} {st : Stt} : setA g i (.exc e st) = .exc e st := nr rfl
def retA (g : D → Slot) : Res D → Fl
  | .ok d st => .rt (g d) st
  | .exc e st => .exc e st
  | .bad => .bad
@[simp] theorem r_sRet {f : Ev} {st : Stt} : sRet f st = retA .dat (f st) := by unfold sRet; cases f st <;> rfl
@[simp] theorem r_sRetO {f : Ev} {st : Stt} : sRetO f st = retA .own (f st) := by unfold sRetO; cases f st <;> rfl
@[simp] theorem r_retA {g : D → Slot} {d : D} {st : Stt} : retA g (.ok d st) = .rt (g d) st := nr rfl
@[simp] theorem r_retAe {g : D → Slot} {e : Ex} {st : Stt} : retA g (.exc e st) = .exc e st := nr rfl
def retVA (st : Stt) : Option (Option Slot) → Fl
  | some (some (.own d)) => .rt (.own d) st
  | _ => .bad
@[simp] theorem r_sRetV {i : Nat} {r : List (Option Slot)} {S : List SO} : sRetV i ⟨r, S⟩ = retVA ⟨r, S⟩ (r[i]?) := nr rfl
@[simp] theorem r_retVA {st : Stt} {d : D} : retVA st (some (some (.own d))) = .rt (.own d) st := nr rfl
def exprA : Res D → Fl
  | .ok _ st => .nx st
  | .exc e st => .exc e st
  | .bad => .bad
@[simp] theorem r_sExpr {f : Ev} {st : Stt} : sExpr f st = exprA (f st) := by unfold sExpr; cases f st <;> rfl
@[simp] theorem r_exprA {d : D} {st : Stt} : exprA (.ok d st) = .nx st := nr rfl
@[simp] theorem r_exprAe {e : Ex} {st : Stt} : exprA (.exc e st) = .exc e st := nr rfl
def sIfA (s t : Cv) : Res Bool → Fl
  | .ok b st => if b then s st else t st
  | .exc e st => .exc e st
  | .bad => .bad
@[simp] theorem r_sIf {fc : Bv} {s t : Cv} {st : Stt} : sIf fc s t st = sIfA s t (fc st) := by unfold sIf; cases fc st <;> rfl
@[simp] theorem r_sIfA1 {s t : Cv} {st : Stt} : sIfA s t (.ok true st) = s st := nr rfl
@[simp] theorem r_sIfA2 {s t : Cv} {st : Stt} : sIfA s t (.ok false st) = t st := nr rfl
@[simp] theorem r_sIfAe {s t : Cv} {e : Ex} {st : Stt} : sIfA s t (.exc e st) = .exc e st := nr rfl
theorem r_sIfA {s t : Cv} {b : Bool} {st : Stt} : sIfA s t (.ok b st) = if b then s st else t st := rfl
def augB (i : Nat) (k : List SO → D → D → Option D) (d : D) : Res D → Fl
  | .ok y st => match k st.S d y with
    | some z => .nx (setR st i (.dat z))
    | none => .bad
  | .exc e st => .exc e st
  | .bad => .bad
def augA (i : Nat) (k : List SO → D → D → Option D) (f : Ev) (st : Stt) : Option (Option Slot) → Fl
  | some (some (.dat d)) => augB i k d (f st)
  | _ => .bad
@[simp] theorem r_sAug {i : Nat} {k : List SO → D → D → Option D} {f : Ev} {r : List (Option Slot)} {S : List SO} : sAug i k f ⟨r, S⟩ = augA i k f ⟨r, S⟩ (r[i]?) := by
  unfold sAug augA
  dsimp only
  rcases r[i]? with _ | _ | d | d | ⟨c, g⟩
  · rfl
  · rfl
  · dsimp only; cases f ⟨r, S⟩ <;> rfl
  · rfl
  · rfl
@[simp] theorem r_augA {i : Nat} {k : List SO → D → D → Option D} {f : Ev} {st : Stt} {d : D} : augA i k f st (some (some (.dat d))) = augB i k d (f st) := nr rfl
def nxA (i : Nat) (st : Stt) : Option D → Fl
  | some z => .nx (setR st i (.dat z))
  | none => .bad
@[simp] theorem r_augB {i : Nat} {k : List SO → D → D → Option D} {d y : D} {r : List (Option Slot)} {S : List SO} : augB i k d (.ok y ⟨r, S⟩) = nxA i ⟨r, S⟩ (k S d y) := by
  show (match k S d y with | some z => Fl.nx (setR ⟨r, S⟩ i (.dat z)) | none => .bad) = _
  unfold nxA
  cases k S d y <;> rfl
@[simp] theorem r_nxA {i : Nat} {st : Stt} {z : D} : nxA i st (some z) = .nx (setR st i (.dat z)) := nr rfl
@[simp] theorem r_setT1 {i : Nat} {d : D} {st : Stt} : setT (.n i) d st = some (setR st i (.dat d)) := by unfold setT; rfl
@[simp] theorem r_setT2 {ts : List Tg} {ds : List D} {st : Stt} : setT (.t ts) (.tup ds) st = setTs ts ds st := by rw [setT]
@[simp] theorem r_setTs1 {st : Stt} : setTs [] [] st = some st := by rw [setTs]
def setTsA (ts : List Tg) (ds : List D) : Option Stt → Option Stt
  | some st => setTs ts ds st
  | none => none
@[simp] theorem r_setTs2 {t : Tg} {ts : List Tg} {d : D} {ds : List D} {st : Stt} : setTs (t :: ts) (d :: ds) st = setTsA ts ds (setT t d st) := by rw [setTs]; cases setT t d st <;> rfl
@[simp] theorem r_setTsA {ts : List Tg} {ds : List D} {st : Stt} : setTsA ts ds (some st) = setTs ts ds st := nr rfl
def unpB : Option Stt → Fl
  | some st => .nx st
  | none => .bad
def unpA (t : Tg) : Res D → Fl
  | .ok d st => unpB (setT t d st)
  | .exc e st => .exc e st
  | .bad => .bad
@[simp] theorem r_sUnp {t : Tg} {f : Ev} {st : Stt} : sUnp t f st = unpA t (f st) := by
  unfold sUnp unpA
  cases f st with
  | ok d st1 => simp only [Res.fl_ok]; cases setT t d st1 <;> rfl
  | exc e st1 => rfl
  | bad => rfl
@[simp] theorem r_unpA {t : Tg} {d : D} {st : Stt} : unpA t (.ok d st) = unpB (setT t d st) := nr rfl
@[simp] theorem r_unpB {st : Stt} : unpB (some st) = .nx st := nr rfl
def setNA (i : Nat) : Res D → Fl
  | .ok (.lst ds) st => .nx (setR { st with S := st.S ++ [.lst ds] } i (.dat (.obj st.S.length)))
  | .exc e st => .exc e st
  | _ => .bad
@[simp] theorem r_sSetN {i : Nat} {f : Ev} {st : Stt} : sSetN i f st = setNA i (f st) := by
  unfold sSetN setNA
  cases f st with
  | ok d st1 => cases d <;> rfl
  | exc e st1 => rfl
  | bad => rfl
@[simp] theorem r_setNA {i : Nat} {ds : List D} {r : List (Option Slot)} {S : List SO} : setNA i (.ok (.lst ds) ⟨r, S⟩) = .nx ⟨r.set i (some (.dat (.obj S.length))), S ++ [.lst ds]⟩ := nr rfl
def sixC (i : Nat) (d : D) (z : Int) (st : Stt) (ds : List D) : Fl := match ixN ds.length z with
  | some j => .nx (setR st i (.own (.lst (ds.set j d))))
  | none => .bad
def sixO (n : Nat) (d : D) (z : Int) (st : Stt) (ds : List D) : Fl := match ixN ds.length z with
  | some j => .nx { st with S := st.S.set n (.lst (ds.set j d)) }
  | none => .bad
def sixB (i : Nat) (d : D) : Res D → Fl
  | .ok (.int z) st => match st.r[i]? with
    | some (some (.own (.lst ds))) => sixC i d z st ds
    | _ => .bad
  | .exc e st => .exc e st
  | _ => .bad
def sixBo (n : Nat) (d : D) : Res D → Fl
  | .ok (.int z) st => match st.S[n]? with
    | some (.lst ds) => sixO n d z st ds
    | _ => .bad
  | .exc e st => .exc e st
  | _ => .bad
def six1 (fi : Ev) (i : Nat) (d : D) (st : Stt) : Option (Option Slot) → Fl
  | some (some (.own (.lst _))) => sixB i d (fi st)
  | some (some (.dat (.obj n))) => sixBo n d (fi st)
  | _ => .bad
def sixA (fi : Ev) (i : Nat) : Res D → Fl
  | .ok d st => six1 fi i d st (st.r[i]?)
  | .exc e st => .exc e st
  | .bad => .bad
@[simp] theorem r_sSetIx {i : Nat} {fi fe : Ev} {st : Stt} : sSetIx i fi fe st = sixA fi i (fe st) := by
  unfold sSetIx sixA
  cases fe st with
  | ok d st1 =>
    simp only [Res.fl_ok]
    unfold six1
    rcases st1.r[i]? with _ | _ | x | x | ⟨c, g⟩
    · rfl
    · rfl
    · cases x with
      | obj n =>
        dsimp only
        cases fi st1 with
        | ok y st2 =>
          cases y with
          | int z => simp only [Res.fl_ok, sixBo]; rcases st2.S[n]? with _ | _ | _ <;> rfl
          | _ => rfl
        | exc e st2 => rfl
        | bad => rfl
      | _ => rfl
    · cases x with
      | lst ds =>
        dsimp only
        cases fi st1 with
        | ok y st2 =>
          cases y with
          | int z => simp only [Res.fl_ok, sixB]; rcases st2.r[i]? with _ | _ | _ | x | _ <;> first | rfl | (cases x <;> rfl)
          | _ => rfl
        | exc e st2 => rfl
        | bad => rfl
      | _ => rfl
    · rfl
  | exc e st1 => rfl
  | bad => rfl
@[simp] theorem r_sixA {fi : Ev} {i : Nat} {d : D} {r : List (Option Slot)} {S : List SO} : sixA fi i (.ok d ⟨r, S⟩) = six1 fi i d ⟨r, S⟩ (r[i]?) := nr rfl
@[simp] theorem r_six1a {fi : Ev} {i : Nat} {d : D} {st : Stt} {ds : List D} : six1 fi i d st (some (some (.own (.lst ds)))) = sixB i d (fi st) := nr rfl
@[simp] theorem r_six1b {fi : Ev} {i n : Nat} {d : D} {st : Stt} : six1 fi i d st (some (some (.dat (.obj n)))) = sixBo n d (fi st) := nr rfl
def sixB1 (i : Nat) (d : D) (z : Int) (st : Stt) : Option (Option Slot) → Fl
  | some (some (.own (.lst ds))) => sixC i d z st ds
  | _ => .bad
def sixB2 (n : Nat) (d : D) (z : Int) (st : Stt) : Option SO → Fl
  | some (.lst ds) => sixO n d z st ds
  | _ => .bad
@[simp] theorem r_sixB {i : Nat} {d : D} {z : Int} {r : List (Option Slot)} {S : List SO} : sixB i d (.ok (.int z) ⟨r, S⟩) = sixB1 i d z ⟨r, S⟩ (r[i]?) := nr rfl
@[simp] theorem r_sixBo {n : Nat} {d : D} {z : Int} {r : List (Option Slot)} {S : List SO} : sixBo n d (.ok (.int z) ⟨r, S⟩) = sixB2 n d z ⟨r, S⟩ (S[n]?) := nr rfl
@[simp] theorem r_sixB1 {i : Nat} {d : D} {z : Int} {st : Stt} {ds : List D} : sixB1 i d z st (some (some (.own (.lst ds)))) = sixC i d z st ds := nr rfl
@[simp] theorem r_sixB2 {n : Nat} {d : D} {z : Int} {st : Stt} {ds : List D} : sixB2 n d z st (some (.lst ds)) = sixO n d z st ds := nr rfl
/-! ### loops -/
def aSeqA : Res D → Res (List D)
  | .ok d st => lift (itemsD d) st
  | .exc e st => .exc e st
  | .bad => .bad
@[simp] theorem r_aSeq {f : Ev} {st : Stt} : aSeq f st = aSeqA (f st) := by unfold aSeq; cases f st <;> rfl
@[simp] theorem r_aSeqA {d : D} {st : Stt} : aSeqA (.ok d st) = lift (itemsD d) st := nr rfl
def aOnA (k : List D → Option (List D)) : Res (List D) → Res (List D)
  | .ok d st => lift (k d) st
  | .exc e st => .exc e st
  | .bad => .bad
@[simp] theorem r_aOn {k : List D → Option (List D)} {f : Av} {st : Stt} : aOn k f st = aOnA k (f st) := by unfold aOn; cases f st <;> rfl
@[simp] theorem r_aOnA {k : List D → Option (List D)} {d : List D} {st : Stt} : aOnA k (.ok d st) = lift (k d) st := nr rfl
def aOn1A (k : D → Option (List D)) : Res D → Res (List D)
  | .ok d st => lift (k d) st
  | .exc e st => .exc e st
  | .bad => .bad
@[simp] theorem r_aOn1 {k : D → Option (List D)} {f : Ev} {st : Stt} : aOn1 k f st = aOn1A k (f st) := by unfold aOn1; cases f st <;> rfl
@[simp] theorem r_aOn1A {k : D → Option (List D)} {d : D} {st : Stt} : aOn1A k (.ok d st) = lift (k d) st := nr rfl
@[simp] theorem r_items1 {ds : List D} : itemsD (.lst ds) = some ds := nr rfl
@[simp] theorem r_items2 {ds : List D} : itemsD (.lck ds) = some ds := nr rfl
@[simp] theorem r_items3 {ds : List D} : itemsD (.tup ds) = some ds := nr rfl
@[simp] theorem r_items4 {z : Str} : itemsD (.str z) = some (signsD z) := nr rfl
def forA (t : Tg) (body : Cv) : Res (List D) → Fl
  | .ok ds st => forGo t body ds st
  | .exc e st => .exc e st
  | .bad => .bad
@[simp] theorem r_sFor {fi : Av} {t : Tg} {body : Cv} {st : Stt} : sFor fi t body st = forA t body (fi st) := by unfold sFor; cases fi st <;> rfl
@[simp] theorem r_forA {t : Tg} {body : Cv} {ds : List D} {st : Stt} : forA t body (.ok ds st) = forGo t body ds st := nr rfl
@[simp] theorem r_forGo0 {t : Tg} {body : Cv} {st : Stt} : forGo t body [] st = .nx st := nr rfl
def goA (t : Tg) (body : Cv) (ds : List D) : Fl → Fl
  | .nx st => forGo t body ds st
  | .ct st => forGo t body ds st
  | .bk st => .nx st
  | x => x
def goT (t : Tg) (body : Cv) (ds : List D) : Option Stt → Fl
  | some st => goA t body ds (body st)
  | none => .bad
theorem r_forGo1 {t : Tg} {body : Cv} {d : D} {ds : List D} {st : Stt} : forGo t body (d :: ds) st = goT t body ds (setT t d st) := by
  unfold forGo goT
  cases setT t d st with
  | none => rfl
  | some st1 => first | (simp only [goA]; done) | (simp only [goA]; cases body st1 <;> rfl)
@[simp] theorem r_goT {t : Tg} {body : Cv} {ds : List D} {st : Stt} : goT t body ds (some st) = goA t body ds (body st) := nr rfl
@[simp] theorem r_goA1 {t : Tg} {body : Cv} {ds : List D} {st : Stt} : goA t body ds (.nx st) = forGo t body ds st := nr rfl
@[simp] theorem r_goA2 {t : Tg} {body : Cv} {ds : List D} {st : Stt} : goA t body ds (.ct st) = forGo t body ds st := nr rfl
@[simp] theorem r_goA3 {t : Tg} {body : Cv} {ds : List D} {st : Stt} : goA t body ds (.bk st) = .nx st := nr rfl
@[simp] theorem r_goA4 {t : Tg} {body : Cv} {ds : List D} {st : Stt} {s : Slot} : goA t body ds (.rt s st) = .rt s st := nr rfl
@[simp] theorem r_goA5 {t : Tg} {body : Cv} {ds : List D} {st : Stt} {e : Ex} : goA t body ds (.exc e st) = .exc e st := nr rfl
/-- the loop's rule: J between the turns -/
theorem for_rule {t : Tg} {body : Cv} {ds : List D} (J : Nat → Stt → Prop) {st : Stt} (h0 : J 0 st) (hs : ∀ i d st, ds[i]? = some d → J i st → ∃ st1, setT t d st = some st1 ∧ ∃ st2, (body st1 = .nx st2 ∨ body st1 = .ct st2) ∧ J (i + 1) st2) :
    ∃ st', forGo t body ds st = .nx st' ∧ J ds.length st' := by
  induction ds generalizing st J with
  | nil => exact ⟨st, rfl, h0⟩
  | cons d ds ih =>
    obtain ⟨st1, e1, st2, e2, j⟩ := hs 0 d st rfl h0
    obtain ⟨st', q1, q2⟩ := ih (fun i => J (i + 1)) j fun i d st hd hj => hs (i + 1) d st (by simpa using hd) hj
    refine ⟨st', ?_, by simpa using q2⟩
    rw [r_forGo1, e1, r_goT]
    rcases e2 with e2 | e2 <;> rw [e2] <;> simpa using q1
def compB (st0 : Stt) (vs : List Nat) : Res (List D) → Res D
  | .ok xs st => .ok (.lst xs) ⟨backR st0.r st.r vs, st.S⟩
  | .exc e st => .exc e st
  | .bad => .bad
def compA (t : Tg) (ft : Bv) (fe : Ev) (vs : List Nat) : Res (List D) → Res D
  | .ok ds st => compB st vs (compGo t ft fe vs ds [] (wipeS st vs))
  | .exc e st => .exc e st
  | .bad => .bad
@[simp] theorem r_eComp {fi : Av} {t : Tg} {ft : Bv} {fe : Ev} {vs : List Nat} {st : Stt} : eComp fi t ft fe vs st = compA t ft fe vs (fi st) := by
  unfold eComp compA
  cases fi st with
  | ok ds st1 => show Res.bind (compGo t ft fe vs ds [] (wipeS st1 vs)) _ = compB st1 vs _; cases compGo t ft fe vs ds [] (wipeS st1 vs) <;> rfl
  | exc e st1 => rfl
  | bad => rfl
@[simp] theorem r_compA {t : Tg} {ft : Bv} {fe : Ev} {vs : List Nat} {ds : List D} {r : List (Option Slot)} {S : List SO} : compA t ft fe vs (.ok ds ⟨r, S⟩) = compB ⟨r, S⟩ vs (compGo t ft fe vs ds [] ⟨wipeR r vs, S⟩) := nr rfl
@[simp] theorem r_compB {r0 r : List (Option Slot)} {S0 S : List SO} {vs : List Nat} {xs : List D} : compB ⟨r0, S0⟩ vs (.ok xs ⟨r, S⟩) = .ok (.lst xs) ⟨backR r0 r vs, S⟩ := nr rfl
@[simp] theorem r_wipeR0 {r : List (Option Slot)} : wipeR r [] = r := nr rfl
@[simp] theorem r_wipeR1 {r : List (Option Slot)} {v : Nat} {vs : List Nat} : wipeR r (v :: vs) = (wipeR r vs).set v none := nr rfl
@[simp] theorem r_wipeS {r : List (Option Slot)} {S : List SO} {vs : List Nat} : wipeS ⟨r, S⟩ vs = ⟨wipeR r vs, S⟩ := nr rfl
def datO : Option (Option Slot) → Option Slot
  | some (some (.dat d)) => some (.dat d)
  | _ => none
@[simp] theorem r_backR0 {r0 r : List (Option Slot)} : backR r0 r [] = r := nr rfl
@[simp] theorem r_backR1 {r0 r : List (Option Slot)} {v : Nat} {vs : List Nat} : backR r0 r (v :: vs) = (backR r0 r vs).set v (datO r0[v]?) := by
  show (backR r0 r vs).set v _ = _
  congr 1
@[simp] theorem r_datO1 {d : D} : datO (some (some (.dat d))) = some (.dat d) := nr rfl
@[simp] theorem r_datO2 : datO (some none) = none := nr rfl
@[simp] theorem r_datO3 : datO none = none := nr rfl
@[simp] theorem r_datO4 {d : D} : datO (some (some (.own d))) = none := nr rfl
@[simp] theorem r_bYes {st : Stt} : bYes st = .ok true st := nr rfl
/-- a comprehension's rule without a test: X i x of the i-th item -/
theorem comp_rule {t : Tg} {fe : Ev} {vs : List Nat} {ds : List D} (J : Nat → Stt → Prop) (X : Nat → D → Prop) {st : Stt} {acc : List D} (hl : acc.length + ds.length ≤ line) (h0 : J 0 st)
    (hs : ∀ i d st, ds[i]? = some d → J i st → ∃ st1, setT t d st = some st1 ∧ ∃ x st2, fe st1 = .ok x st2 ∧ X i x ∧ J (i + 1) (wipeS st2 vs)) :
    ∃ xs st', compGo t bYes fe vs ds acc st = .ok (acc ++ xs) st' ∧ xs.length = ds.length ∧ (∀ i x, xs[i]? = some x → X i x) ∧ J ds.length st' := by
  induction ds generalizing st J X acc with
  | nil => exact ⟨[], st, by simp [compGo], rfl, fun i x h => by simp at h, h0⟩
  | cons d ds ih =>
    obtain ⟨st1, e1, x, st2, e2, hx, j⟩ := hs 0 d st rfl h0
    obtain ⟨xs, st', q1, q2, q3, q4⟩ := ih (fun i => J (i + 1)) (fun i => X (i + 1)) (acc := acc ++ [x]) (by simp at hl ⊢; omega) j fun i d st hd hj => hs (i + 1) d st (by simpa using hd) hj
    refine ⟨x :: xs, st', ?_, by simp [q2], fun i y hy => ?_, by simpa using q4⟩
    · unfold compGo
      rw [e1]
      simp only [r_bYes, e2]
      rw [if_pos (by simp at hl; omega), q1]
      simp
    · cases i with
      | zero => simp at hy; subst hy; exact hx
      | succ i => exact q3 i y (by simpa using hy)
/-! ### the operations on plain data -/
@[simp] theorem k_add_i {S : List SO} {i j : Int} : kAdd S (.int i) (.int j) = some (.int (i + j)) := nr rfl
@[simp] theorem k_add_s {S : List SO} {a b : Str} : kAdd S (.str a) (.str b) = if a.length + b.length ≤ line then some (.str (a ++ b)) else none := nr rfl
@[simp] theorem k_add_t {S : List SO} {a b : List D} : kAdd S (.tup a) (.tup b) = if a.length + b.length ≤ line then some (.tup (a ++ b)) else none := nr rfl
@[simp] theorem k_addI {S : List SO} {i j : Int} : kAddI S (.int i) (.int j) = some (.int (i + j)) := nr rfl
@[simp] theorem k_sub {S : List SO} {i j : Int} : kSub S (.int i) (.int j) = some (.int (i - j)) := nr rfl
@[simp] theorem k_mul_i {S : List SO} {i j : Int} : kMul S (.int i) (.int j) = if CMul i j then some (.int (i * j)) else none := nr rfl
@[simp] theorem k_mul_s {S : List SO} {a : Str} {j : Int} : kMul S (.str a) (.int j) = if -line ≤ j ∧ j ≤ line ∧ a.length * j.toNat ≤ line then some (.str (mulS a j)) else none := nr rfl
@[simp] theorem k_mul_t {S : List SO} {a : List D} {j : Int} : kMul S (.tup a) (.int j) = if a ≠ [] ∧ 2 ≤ j ∧ j ≤ 1000 ∧ a.length ≤ 1000 then some (.tup (List.replicate j.toNat a).flatten) else none := nr rfl
@[simp] theorem k_fdiv {S : List SO} {i j : Int} : kFdiv S (.int i) (.int j) = if CDiv i j then some (.int (i / j)) else none := nr rfl
@[simp] theorem k_mod {S : List SO} {i j : Int} : kMod S (.int i) (.int j) = if 0 < j then some (.int (i % j)) else none := nr rfl
@[simp] theorem k_pow {S : List SO} {i j : Int} : kPow S (.int i) (.int j) = if CPow i j then some (.int (i ^ j.toNat)) else none := nr rfl
@[simp] theorem k_shl {S : List SO} {i j : Int} : kShl S (.int i) (.int j) = if CPow i j then some (.int (i * 2 ^ j.toNat)) else none := nr rfl
@[simp] theorem k_shr {S : List SO} {i j : Int} : kShr S (.int i) (.int j) = if 0 ≤ j then some (.int (i / 2 ^ j.toNat)) else none := nr rfl
@[simp] theorem k_xor {S : List SO} {i j : Int} : kXor S (.int i) (.int j) = some (.int (Builtin.bitXor i j)) := nr rfl
@[simp] theorem k_neg {S : List SO} {i : Int} : kNeg S (.int i) = some (.int (-i)) := nr rfl
@[simp] theorem k_lt {S : List SO} {i j : Int} : kLt S (.int i) (.int j) = some (.bl (decide (i < j))) := nr rfl
@[simp] theorem k_le {S : List SO} {i j : Int} : kLe S (.int i) (.int j) = some (.bl (decide (i ≤ j))) := nr rfl
@[simp] theorem k_gt {S : List SO} {i j : Int} : kGt S (.int i) (.int j) = some (.bl (decide (j < i))) := nr rfl
@[simp] theorem k_ge {S : List SO} {i j : Int} : kGe S (.int i) (.int j) = some (.bl (decide (j ≤ i))) := nr rfl
@[simp] theorem k_not {S : List SO} {b : Bool} : kNot S (.bl b) = some (.bl (!b)) := nr rfl
@[simp] theorem k_isN {S : List SO} {x : D} : kIsN S x .non = some (.bl (isNon x)) := nr rfl
@[simp] theorem k_notN {S : List SO} {x : D} : kNotN S x .non = some (.bl (!isNon x)) := nr rfl
@[simp] theorem k_ix_s {S : List SO} {z : Str} {i : Int} : kIx S (.str z) (.int i) = if z.length ≤ line then (atI z.cps.toList i).map fun c => .str ⟨#[c]⟩ else none := nr rfl
@[simp] theorem k_ix_t {S : List SO} {ds : List D} {i : Int} : kIx S (.tup ds) (.int i) = atI ds i := nr rfl
@[simp] theorem k_ix_l {S : List SO} {ds : List D} {i : Int} : kIx S (.lst ds) (.int i) = atI ds i := nr rfl
@[simp] theorem k_ix_k {S : List SO} {ds : List D} {i : Int} : kIx S (.lck ds) (.int i) = atI ds i := nr rfl
def ixO (i : Int) : Option SO → Option D
  | some (.lst ds) => atI ds i
  | _ => none
@[simp] theorem k_ix_o {S : List SO} {j : Nat} {i : Int} : kIx S (.obj j) (.int i) = ixO i (S[j]?) := by
  unfold kIx ixO
  first | (dsimp only; done) | (dsimp only; rcases S[j]? with _ | _ | _ <;> rfl)
@[simp] theorem k_ixO {i : Int} {ds : List D} : ixO i (some (.lst ds)) = atI ds i := nr rfl
@[simp] theorem k_sl_s {z : Str} {lo hi : Option Int} : kSl (.str z) lo hi = if z.length ≤ line then some (.str (cutS z lo hi)) else none := nr rfl
@[simp] theorem k_sl_t {ds : List D} {lo hi : Option Int} : kSl (.tup ds) lo hi = some (.tup (cutD ds lo hi)) := nr rfl
@[simp] theorem k_sl_l {ds : List D} {lo hi : Option Int} : kSlL (.lst ds) lo hi = some (.lst (cutD ds lo hi)) := nr rfl
@[simp] theorem k_rev {S : List SO} {ds : List D} : kRev S (.lst ds) = some (.lst ds.reverse) := nr rfl
@[simp] theorem k_len_s {S : List SO} {z : Str} : kLen S [.str z] = if z.length ≤ line then some (.int z.length) else none := nr rfl
@[simp] theorem k_len_t {S : List SO} {ds : List D} : kLen S [.tup ds] = some (.int ds.length) := nr rfl
@[simp] theorem k_len_l {S : List SO} {ds : List D} : kLen S [.lst ds] = some (.int ds.length) := nr rfl
@[simp] theorem k_len_k {S : List SO} {ds : List D} : kLen S [.lck ds] = some (.int ds.length) := nr rfl
@[simp] theorem k_abs {S : List SO} {i : Int} : kAbs S [.int i] = some (.int (if i < 0 then -i else i)) := nr rfl
@[simp] theorem k_int_i {S : List SO} {i : Int} : kInt S [.int i] = some (.int i) := nr rfl
@[simp] theorem k_int_b {S : List SO} {b : Bool} : kInt S [.bl b] = some (.int (if b then 1 else 0)) := nr rfl
@[simp] theorem k_str {S : List SO} {i : Int} : kStr S [.int i] = if i.natAbs.log2 < 1920 then some (.str (Str.ofString (toString i))) else none := nr rfl
@[simp] theorem k_list_t {S : List SO} {ds : List D} : kList S [.tup ds] = some (.lst ds) := nr rfl
@[simp] theorem k_list_l {S : List SO} {ds : List D} : kList S [.lst ds] = some (.lst ds) := nr rfl
@[simp] theorem k_list_k {S : List SO} {ds : List D} : kList S [.lck ds] = some (.lst ds) := nr rfl
@[simp] theorem k_tuple_t {S : List SO} {ds : List D} : kTuple S [.tup ds] = some (.tup ds) := nr rfl
@[simp] theorem k_tuple_l {S : List SO} {ds : List D} : kTuple S [.lst ds] = some (.tup ds) := nr rfl
@[simp] theorem k_tuple_k {S : List SO} {ds : List D} : kTuple S [.lck ds] = some (.tup ds) := nr rfl
@[simp] theorem k_join_l {a : Str} {ds : List D} : mJoin a [.lst ds] = joinD a ds := nr rfl
@[simp] theorem k_join_t {a : Str} {ds : List D} : mJoin a [.tup ds] = joinD a ds := nr rfl
@[simp] theorem k_tup {S : List SO} {ds : List D} : kTup S ds = if ds.length ≤ 1000000 then some (.tup ds) else none := nr rfl
@[simp] theorem k_lst {S : List SO} {ds : List D} : kLst S ds = if ds.length ≤ 1000000 then some (.lst ds) else none := nr rfl
@[simp] theorem k_cat {S : List SO} {a b : List D} : kCat S (.lst a) (.lst b) = if a.length + b.length ≤ line then some (.lst (a ++ b)) else none := nr rfl
@[simp] theorem k_rep {S : List SO} {a : List D} {k : Int} : kRep S (.lst a) (.int k) = if -line ≤ k ∧ k ≤ line ∧ a.length * k.toNat ≤ line then some (.lst (List.replicate k.toNat a).flatten) else none := nr rfl
@[simp] theorem k_rng1 {j : Int} : rng1 [.int j] = if okR j then some (rangeD 0 j.toNat) else none := nr rfl
@[simp] theorem k_rng2 {i j : Int} : rng2 [.int i, .int j] = if okR i ∧ okR j then some (rangeD i (j - i).toNat) else none := nr rfl
@[simp] theorem k_zip_s {x y : Str} : zipD [.str x, .str y] = some (pairsD (signsD x) (signsD y)) := nr rfl
@[simp] theorem k_zip_l {x y : List D} : zipD [.lst x, .lst y] = some (pairsD x y) := nr rfl
@[simp] theorem k_enum_l {x : List D} : enumD [.lst x] = some (pairsD (rangeD 0 x.length) x) := nr rfl
@[simp] theorem k_isi_i {S : List SO} {i : Int} : kIsi S [.int i, .ty "int"] = some (.bl true) := nr rfl
@[simp] theorem k_isi_ib {S : List SO} {i : Int} : kIsi S [.int i, .ty "bool"] = some (.bl false) := nr rfl
@[simp] theorem k_isi_s {S : List SO} {x : Str} : kIsi S [.str x, .ty "str"] = some (.bl true) := nr rfl
@[simp] theorem k_isi_t {S : List SO} {x : List D} : kIsi S [.tup x, .ty "tuple"] = some (.bl true) := nr rfl
@[simp] theorem k_isi_l {S : List SO} {x : List D} : kIsi S [.lst x, .ty "list"] = some (.bl true) := nr rfl
theorem at_z0 {α : Type} {a : α} {l : List α} : atI (a :: l) 0 = some a := atI_nat (j := 0) rfl
theorem atI_of {α : Type} {l : List α} {j : Nat} {a : α} (h : l[j]? = some a) : atI l (j : Int) = some a := atI_nat h
/-- a def's run -/
theorem fn_run {n N : Nat} {b : Cv} {ds : List D} {S : List SO} (h : ds.length = n) {R : FRes} (k : (match b ⟨initR N ds, S⟩ with
    | .nx st => FRes.ok (.dat .non) st.S
    | .rt s st => .ok s st.S
    | .exc e st => .exc e st.S
    | _ => .bad) = R) : fnOf n N b ds S = R := by
  unfold fnOf
  rw [if_pos h]
  exact k
def outA : Fl → FRes
  | .nx st => .ok (.dat .non) st.S
  | .rt s st => .ok s st.S
  | .exc e st => .exc e st.S
  | _ => .bad
theorem fn_eq {n N : Nat} {b : Cv} {ds : List D} {S : List SO} (h : ds.length = n) : fnOf n N b ds S = outA (b ⟨initR N ds, S⟩) := by
  unfold fnOf
  rw [if_pos h]
  cases b ⟨initR N ds, S⟩ <;> rfl
@[simp] theorem r_out1 {r : List (Option Slot)} {S : List SO} : outA (.nx ⟨r, S⟩) = .ok (.dat .non) S := nr rfl
@[simp] theorem r_out2 {r : List (Option Slot)} {S : List SO} {s : Slot} : outA (.rt s ⟨r, S⟩) = .ok s S := nr rfl
@[simp] theorem r_out3 {r : List (Option Slot)} {S : List SO} {e : Ex} : outA (.exc e ⟨r, S⟩) = .exc e S := nr rfl
end Pl
namespace Pl
open PySem L2
theorem fn_go {n N : Nat} {b : Cv} {ds : List D} {S : List SO} {R : FRes} (h : ds.length = n) (k : outA (b ⟨initR N ds, S⟩) = R) : fnOf n N b ds S = R := (fn_eq h).trans k
end Pl
namespace Pl
open PySem L2
theorem at_z1 {α : Type} {a b : α} {l : List α} : atI (a :: b :: l) 1 = some b := atI_nat (j := 1) rfl
theorem at_z2 {α : Type} {a b c : α} {l : List α} : atI (a :: b :: c :: l) 2 = some c := atI_nat (j := 2) rfl
theorem at_z3 {α : Type} {a b c d : α} {l : List α} : atI (a :: b :: c :: d :: l) 3 = some d := atI_nat (j := 3) rfl
theorem at_z4 {α : Type} {a b c d e : α} {l : List α} : atI (a :: b :: c :: d :: e :: l) 4 = some e := atI_nat (j := 4) rfl
end Pl
/-! Strings of bits; rules for loops whose state is known. -/
namespace Pl
open PySem L2
def ResP {α : Type} (P : α → Stt → Prop) : Res α → Prop
  | .ok x st => P x st
  | _ => False
@[simp] theorem resP_ok {α : Type} {P : α → Stt → Prop} {x : α} {st : Stt} : ResP P (.ok x st) = P x st := nr rfl
def SomP (P : Stt → Prop) : Option Stt → Prop
  | some st => P st
  | none => False
@[simp] theorem somP_some {P : Stt → Prop} {st : Stt} : SomP P (some st) = P st := nr rfl
theorem comp_det {t : Tg} {fe : Ev} {vs : List Nat} {ds acc : List D} (J : Nat → Stt) (F : Nat → D) {st : Stt} (e0 : st = J 0) (hl : acc.length + ds.length ≤ line) (hs : ∀ i d, ds[i]? = some d → SomP (fun st1 => ResP (fun x st2 => x = F i ∧ wipeS st2 vs = J (i + 1)) (fe st1)) (setT t d (J i))) :
    compGo t bYes fe vs ds acc st = .ok (acc ++ (List.range ds.length).map F) (J ds.length) := by
  subst e0
  obtain ⟨xs, st', e, l, q, j⟩ := comp_rule (t := t) (fe := fe) (vs := vs) (ds := ds) (fun i st => st = J i) (fun i x => x = F i) hl rfl fun i d st hd hj => by
    subst hj
    have z := hs i d hd
    cases e1 : setT t d (J i) with
    | none => rw [e1] at z; exact z.elim
    | some st1 =>
      rw [e1, somP_some] at z
      cases e2 : fe st1 with
      | ok x st2 => rw [e2] at z; exact ⟨st1, rfl, x, st2, e2, z.1, z.2⟩
      | _ => rw [e2] at z; exact z.elim
  rw [e, j]
  congr 2
  apply List.ext_getElem?
  intro i
  by_cases h : i < ds.length
  · rw [List.getElem?_eq_getElem (by omega)]
    have := q i _ (List.getElem?_eq_getElem (by omega))
    rw [this]
    simp [h]
  · rw [List.getElem?_eq_none (by omega), List.getElem?_eq_none (by simp; omega)]
theorem for_det {t : Tg} {body : Cv} {ds : List D} (J : Nat → Stt) {st : Stt} (e0 : st = J 0) (hs : ∀ i d, ds[i]? = some d → ∃ st1, setT t d (J i) = some st1 ∧ (body st1 = .nx (J (i + 1)) ∨ body st1 = .ct (J (i + 1)))) :
    forGo t body ds st = .nx (J ds.length) := by
  subst e0
  obtain ⟨st', e, j⟩ := for_rule (t := t) (body := body) (ds := ds) (fun i st => st = J i) (st := J 0) rfl fun i d st hd hj => by
    subst hj
    obtain ⟨st1, e1, e2⟩ := hs i d hd
    exact ⟨st1, e1, J (i + 1), e2, rfl⟩
  rw [e, j]
def NxP (P : Stt → Prop) : Fl → Prop
  | .nx st => P st
  | .ct st => P st
  | _ => False
@[simp] theorem nxP_nx {P : Stt → Prop} {st : Stt} : NxP P (.nx st) = P st := nr rfl
@[simp] theorem nxP_ct {P : Stt → Prop} {st : Stt} : NxP P (.ct st) = P st := nr rfl
theorem for_go {t : Tg} {body : Cv} {ds : List D} {st : Stt} (J : Nat → Stt → Prop) (h0 : J 0 st) (hs : ∀ i d st, ds[i]? = some d → J i st → SomP (fun st1 => NxP (J (i + 1)) (body st1)) (setT t d st)) : ∃ st', forGo t body ds st = .nx st' ∧ J ds.length st' := by
  refine for_rule J h0 fun i d st hd hj => ?_
  have z := hs i d st hd hj
  cases e : setT t d st with
  | none => rw [e] at z; exact z.elim
  | some st1 =>
    rw [e] at z
    simp only [somP_some] at z
    refine ⟨st1, rfl, ?_⟩
    cases e2 : body st1 with
    | nx st2 => rw [e2] at z; exact ⟨st2, .inl rfl, z⟩
    | ct st2 => rw [e2] at z; exact ⟨st2, .inr rfl, z⟩
    | _ => rw [e2] at z; exact z.elim
theorem for_out {t : Tg} {body : Cv} {ds : List D} {k : Cv} {R : FRes} {st : Stt} (J : Nat → Stt → Prop) (h0 : J 0 st) (hs : ∀ i d st, ds[i]? = some d → J i st → SomP (fun st1 => NxP (J (i + 1)) (body st1)) (setT t d st)) (hk : ∀ st', J ds.length st' → outA (k st') = R) : outA (seqA k (forGo t body ds st)) = R := by
  obtain ⟨st', e, j⟩ := for_go J h0 hs
  rw [e]
  exact hk st' j
def FrP (Q : Slot → List SO → Prop) : FRes → Prop
  | .ok s S => Q s S
  | _ => False
@[simp] theorem frP_ok {Q : Slot → List SO → Prop} {s : Slot} {S : List SO} : FrP Q (.ok s S) = Q s S := nr rfl
theorem FrP.ex {Q : Slot → List SO → Prop} {R : FRes} (h : FrP Q R) : ∃ s S, R = .ok s S ∧ Q s S := by
  cases R with
  | ok s S => exact ⟨s, S, rfl, h⟩
  | _ => exact h.elim
theorem FrP.fn {n N : Nat} {b : Cv} {ds : List D} {S : List SO} {Q : Slot → List SO → Prop} (h : ds.length = n) (k : FrP Q (outA (b ⟨initR N ds, S⟩))) : FrP Q (fnOf n N b ds S) := by rw [fn_eq h]; exact k
theorem for_fr {t : Tg} {body : Cv} {ds : List D} {k : Cv} {Q : Slot → List SO → Prop} {st : Stt} (J : Nat → Stt → Prop) (h0 : J 0 st) (hs : ∀ i d st, ds[i]? = some d → J i st → SomP (fun st1 => NxP (J (i + 1)) (body st1)) (setT t d st)) (hk : ∀ st', J ds.length st' → FrP Q (outA (k st'))) : FrP Q (outA (seqA k (forGo t body ds st))) := by
  obtain ⟨st', e, j⟩ := for_go J h0 hs
  rw [e]
  exact hk st' j
theorem for_nx {t : Tg} {body : Cv} {ds : List D} {k : Cv} {P : Stt → Prop} {st : Stt} (J : Nat → Stt → Prop) (h0 : J 0 st) (hs : ∀ i d st, ds[i]? = some d → J i st → SomP (fun st1 => NxP (J (i + 1)) (body st1)) (setT t d st)) (hk : ∀ st', J ds.length st' → NxP P (k st')) : NxP P (seqA k (forGo t body ds st)) := by
  obtain ⟨st', e, j⟩ := for_go J h0 hs
  rw [e]
  exact hk st' j
theorem rangeD_get {lo : Int} {n i : Nat} {d : D} (h : (rangeD lo n)[i]? = some d) : i < n ∧ d = .int (lo + (i : Int)) := by
  unfold rangeD at h
  rw [List.getElem?_map] at h
  by_cases q : i < n
  · rw [List.getElem?_range q] at h; cases h; exact ⟨q, rfl⟩
  · rw [List.getElem?_eq_none (by simp; omega)] at h; cases h
@[simp] theorem rangeD_len {lo : Int} {n : Nat} : (rangeD lo n).length = n := by simp [rangeD]
theorem map_get {α : Type} {f : α → D} {xs : List α} {i : Nat} {d : D} (h : (xs.map f)[i]? = some d) : ∃ x, xs[i]? = some x ∧ d = f x := by
  rw [List.getElem?_map] at h
  cases q : xs[i]? with
  | none => rw [q] at h; cases h
  | some x => rw [q] at h; cases h; exact ⟨x, rfl, rfl⟩
/-! ### bits -/
def sg (b : Bool) : Nat := if b then 49 else 48
def sb (bs : List Bool) : Str := ⟨(bs.map sg).toArray⟩
theorem sg_inj {a b : Bool} (h : sg a = sg b) : a = b := by cases a <;> cases b <;> first | rfl | (exact absurd h (by decide))
theorem sb_inj {a b : List Bool} (h : sb a = sb b) : a = b := by
  have h1 : (sb a).cps.toList = (sb b).cps.toList := by rw [h]
  simp only [sb] at h1
  exact List.map_inj_right (fun _ _ => sg_inj) |>.mp h1
@[simp] theorem sb_eq {a b : List Bool} : sb a = sb b ↔ a = b := ⟨sb_inj, fun h => by rw [h]⟩
@[simp] theorem sb_len {a : List Bool} : (sb a).length = a.length := by simp [sb, Str.length]
@[simp] theorem sb_tl {a : List Bool} : (sb a).cps.toList = a.map sg := by simp [sb]
theorem str_ext {a b : Str} (h : a.cps.toList = b.cps.toList) : a = b := by
  cases a with | mk a => cases b with | mk b => simp at h; rw [h]
@[simp] theorem sb_app {a b : List Bool} : sb a ++ sb b = sb (a ++ b) := by
  apply str_ext
  show (sb a ++ sb b).cps.toList = _
  have : (sb a ++ sb b).cps = (sb a).cps ++ (sb b).cps := rfl
  rw [this]
  simp [sb]
theorem sb_none : Str.ofString "" = sb [] := by rfl
theorem sb_0 : Str.ofString "0" = sb [false] := by rfl
theorem sb_1 : Str.ofString "1" = sb [true] := by rfl
@[simp] theorem signs_sb {a : List Bool} : signsD (sb a) = a.map fun b => .str (sb [b]) := by simp [signsD, sb]
@[simp] theorem mulS_sb {a : List Bool} {n : Int} : mulS (sb a) n = sb (List.replicate n.toNat a).flatten := by
  apply str_ext
  simp [mulS, List.map_flatten]
theorem mulS_sb1 {b : Bool} {n : Nat} : mulS (sb [b]) (n : Int) = sb (List.replicate n b) := by
  rw [mulS_sb]
  congr 1
  simp only [Int.toNat_natCast]
  induction n with
  | zero => rfl
  | succ n ih => rw [List.replicate_succ, List.flatten_cons, ih]; rfl
theorem strs_sb {bss : List (List Bool)} : strsD (bss.map fun b => .str (sb b)) = some (bss.map sb) := by
  induction bss with
  | nil => rfl
  | cons b bss ih => simp [strsD, ih]
theorem join_sb {bss : List (List Bool)} : Str.join (sb []) (bss.map sb) = sb bss.flatten := by
  induction bss with
  | nil => rfl
  | cons b bss ih =>
    cases bss with
    | nil => simp [Str.join]
    | cons c bss =>
      show sb b ++ sb [] ++ Str.join (sb []) ((c :: bss).map sb) = _
      rw [ih]
      simp
theorem tjoin_sb {bss : List (List Bool)} : Txt.join (sb []) (bss.map sb) = sb bss.flatten := by
  rw [show Txt.join (sb []) (bss.map sb) = Str.join (sb []) (bss.map sb) from TL.join_eq _ _]
  exact join_sb
theorem joinD_sb {bs : List Bool} (h : bs.length ≤ line) : joinD (sb []) (bs.map fun b => .str (sb [b])) = some (.str (sb bs)) := by
  have e : (bs.map fun b => D.str (sb [b])) = (bs.map fun b => [b]).map fun b => .str (sb b) := by simp
  unfold joinD
  rw [e, strs_sb]
  dsimp only
  have l : (((bs.map fun b => [b]).map sb).map (·.length)).sum = bs.length := by
    clear h e
    induction bs with
    | nil => rfl
    | cons b bs ih => simp [ih] at ih ⊢; omega
  rw [if_pos (by rw [l]; simpa using h), tjoin_sb]
  have z : (bs.map fun b => [b]).flatten = bs := by
    clear h e l
    induction bs with
    | nil => rfl
    | cons b bs ih => simp [ih]
  rw [z]
theorem int_sb {S : List SO} {b : Bool} : kInt S [.str (sb [b])] = some (.int (if b then 1 else 0)) := by
  have h1 : PySem.intText? (sb [true]) = some 1 := by decide +kernel
  have h0 : PySem.intText? (sb [false]) = some 0 := by decide +kernel
  cases b
  · simp [kInt, h0]
  · simp [kInt, h1]
theorem ofs_bit {b : Bool} : Str.ofString (toString (if b then (1 : Int) else 0)) = sb [b] := by cases b <;> rfl
theorem str_bit {S : List SO} {b : Bool} : kStr S [.int (if b then 1 else 0)] = some (.str (sb [b])) := by cases b <;> rfl
@[simp] theorem ix_sb {a : List Bool} {i : Nat} {b : Bool} (h : a[i]? = some b) (hl : a.length ≤ line) : kIx S (.str (sb a)) (.int (i : Int)) = some (.str (sb [b])) := by
  rw [k_ix_s, if_pos (by simpa using hl), sb_tl]
  rw [atI_of (a := sg b) (by simp [h])]
  rfl
theorem cut_lo {a : List Bool} {k : Nat} : cutS (sb a) none (some (k : Int)) = sb (a.take k) := by
  apply str_ext
  simp only [cutS, HT.sIx_none, HT.sIx_nat, sb_len, sb_tl]
  simp only [List.drop_zero, Nat.sub_zero, ← List.map_take]
  congr 1
  rw [← List.take_eq_take_min]
theorem cut_hi {a : List Bool} {k : Nat} : cutS (sb a) (some (k : Int)) none = sb (a.drop k) := by
  apply str_ext
  simp only [cutS, HT.sIx_none, HT.sIx_nat, sb_len, sb_tl, ← List.map_drop, ← List.map_take]
  congr 1
  by_cases h : k ≤ a.length
  · rw [Nat.min_eq_left h, List.take_of_length_le (by simp)]
  · rw [Nat.min_eq_right (by omega), List.drop_of_length_le (by omega), List.drop_of_length_le (by omega)]; simp
theorem cut_mid {a : List Bool} {k j : Nat} : cutS (sb a) (some (k : Int)) (some (j : Int)) = sb ((a.drop k).take (j - k)) := by
  apply str_ext
  simp only [cutS, HT.sIx_none, HT.sIx_nat, sb_len, sb_tl, ← List.map_drop, ← List.map_take]
  congr 1
  by_cases h : k ≤ a.length
  · rw [Nat.min_eq_left h]
    by_cases h2 : j ≤ a.length
    · rw [Nat.min_eq_left h2]
    · rw [Nat.min_eq_right (by omega), List.take_of_length_le (by simp), List.take_of_length_le (by simp; omega)]
  · rw [Nat.min_eq_right (by omega : a.length ≤ k), List.drop_of_length_le (by omega), List.drop_of_length_le (by omega)]; simp
theorem pairsD_sb {a b : List Bool} : pairsD (a.map fun b => .str (sb [b])) (b.map fun b => .str (sb [b])) = (a.zip b).map fun p => .tup [.str (sb [p.1]), .str (sb [p.2])] := by
  simp only [pairsD, List.zip_map, List.map_map]
  rfl
theorem ks0 {S : List SO} : kStr S [.int 0] = some (.str (sb [false])) := by rfl
theorem ks1 {S : List SO} : kStr S [.int 1] = some (.str (sb [true])) := by rfl
theorem pairs_sb {a b : List Bool} : zipD [.str (sb a), .str (sb b)] = some ((a.zip b).map fun p => .tup [.str (sb [p.1]), .str (sb [p.2])]) := by
  simp only [zipD, pairsD, signs_sb, List.zip_map, List.map_map]
  rfl
/-! ### lists of ints -/
def IsI (n : Nat) (ds : List D) : Prop := ∃ xs : List Int, xs.length = n ∧ ds = xs.map .int
theorem isI_nil : IsI 0 [] := ⟨[], rfl, rfl⟩
theorem IsI.set {n a : Nat} {ds : List D} {v : Int} (h : IsI n ds) : IsI n (ds.set a (.int v)) := by
  obtain ⟨xs, l, rfl⟩ := h
  exact ⟨xs.set a v, by simpa using l, by rw [List.map_set]⟩
theorem IsI.app {n : Nat} {ds : List D} {v : Int} (h : IsI n ds) : IsI (n + 1) (ds ++ [.int v]) := by
  obtain ⟨xs, l, rfl⟩ := h
  exact ⟨xs ++ [v], by simpa using l, by simp⟩
theorem IsI.len {n : Nat} {ds : List D} (h : IsI n ds) : ds.length = n := by obtain ⟨xs, l, rfl⟩ := h; simpa using l
theorem IsI.at {n : Nat} {ds : List D} {i : Nat} (h : IsI n ds) (hi : i < n) : ∃ v : Int, atI ds (i : Int) = some (.int v) ∧ ds[i]? = some (.int v) := by
  obtain ⟨xs, l, rfl⟩ := h
  have z : (xs.map D.int)[i]? = some (D.int (xs[i]'(by omega))) := by rw [List.getElem?_map, List.getElem?_eq_getElem (by omega)]; rfl
  exact ⟨_, atI_of z, z⟩
theorem ixN_nat {n j : Nat} (h : j < n) : ixN n (j : Int) = some j := by
  unfold ixN
  rw [if_pos (by omega), if_pos (by omega)]
  rfl
theorem isI_of {n : Nat} {ds : List D} (hl : ds.length = n) (h : ∀ (i : Nat) (d : D), ds[i]? = some d → ∃ v : Int, d = D.int v) : IsI n ds := by
  induction ds generalizing n with
  | nil => exact ⟨[], hl, rfl⟩
  | cons d ds ih =>
    obtain ⟨v, rfl⟩ := h 0 d rfl
    obtain ⟨xs, l, rfl⟩ := ih (n := ds.length) rfl fun i d q => h (i + 1) d (by simpa using q)
    exact ⟨v :: xs, by simp at hl l ⊢; omega, rfl⟩
theorem cm64 {x m y : Int} (h0 : 0 < m) (h : m ≤ 2 ^ 64) : CMul (x % m) y := .inl ⟨by have := Int.emod_nonneg x (by omega : m ≠ 0); omega, by have := Int.emod_lt_of_pos x h0; omega⟩
theorem cmr {x m : Int} (h0 : -(2 ^ 64) < m) (h : m < 2 ^ 64) : CMul x m := .inr ⟨h0, h⟩
theorem cml {x m : Int} (h0 : -(2 ^ 64) < m) (h : m < 2 ^ 64) : CMul m x := .inl ⟨h0, h⟩
theorem cdv {x m : Int} (h0 : 0 < m) (h : m < 1073741824) : CDiv x m := ⟨h0, h⟩
end Pl
/-! Rewriting: try, all, chains, while. -/
namespace Pl
open PySem L2
def tryA (cs : List (String × Bool)) (fs : Cv) : Fl → Fl
  | .exc e st1 => match cs.lookup e.c with
    | some true => hush (fs st1)
    | some false => .exc e st1
    | none => .bad
  | x => x
@[simp] theorem r_sTry {cs : List (String × Bool)} {fb fs : Cv} {st : Stt} : sTry cs fb fs st = tryA cs fs (fb st) := by unfold sTry tryA; cases fb st <;> rfl
@[simp] theorem r_tryA1 {cs : List (String × Bool)} {fs : Cv} {st : Stt} : tryA cs fs (.nx st) = .nx st := nr rfl
@[simp] theorem r_tryA2 {cs : List (String × Bool)} {fs : Cv} {st : Stt} {s : Slot} : tryA cs fs (.rt s st) = .rt s st := nr rfl
@[simp] theorem r_tryA3 {cs : List (String × Bool)} {fs : Cv} {st : Stt} : tryA cs fs (.ct st) = .ct st := nr rfl
@[simp] theorem r_tryA4 {cs : List (String × Bool)} {fs : Cv} {st : Stt} : tryA cs fs (.bk st) = .bk st := nr rfl
def tryB (fs : Cv) (e : Ex) (st1 : Stt) : Option Bool → Fl
  | some true => hush (fs st1)
  | some false => .exc e st1
  | none => .bad
@[simp] theorem r_tryA5 {cs : List (String × Bool)} {fs : Cv} {st : Stt} {e : Ex} : tryA cs fs (.exc e st) = tryB fs e st (cs.lookup e.c) := by
  show (match cs.lookup e.c with | some true => hush (fs st) | some false => .exc e st | none => .bad) = _
  unfold tryB
  cases cs.lookup e.c <;> rfl
@[simp] theorem r_tryB1 {fs : Cv} {st : Stt} {e : Ex} : tryB fs e st (some true) = hush (fs st) := nr rfl
@[simp] theorem r_tryB2 {fs : Cv} {st : Stt} {e : Ex} : tryB fs e st (some false) = .exc e st := nr rfl
@[simp] theorem r_hush1 {st : Stt} : hush (.nx st) = .nx st := nr rfl
@[simp] theorem r_hush2 {st : Stt} {s : Slot} : hush (.rt s st) = .rt s st := nr rfl
@[simp] theorem r_hush3 {st : Stt} : hush (.ct st) = .ct st := nr rfl
@[simp] theorem r_hush4 {st : Stt} : hush (.bk st) = .bk st := nr rfl
def tryXA (l : List (Option Nat × List (String × Bool) × Cv)) : Fl → Fl
  | .exc e st1 => goX e st1 l
  | x => x
@[simp] theorem r_sTryX {l : List (Option Nat × List (String × Bool) × Cv)} {fb : Cv} {st : Stt} : sTryX l fb st = tryXA l (fb st) := by unfold sTryX tryXA; cases fb st <;> rfl
@[simp] theorem r_tryXA1 {l : List (Option Nat × List (String × Bool) × Cv)} {st : Stt} : tryXA l (.nx st) = .nx st := nr rfl
@[simp] theorem r_tryXA2 {l : List (Option Nat × List (String × Bool) × Cv)} {st : Stt} {s : Slot} : tryXA l (.rt s st) = .rt s st := nr rfl
@[simp] theorem r_tryXA3 {l : List (Option Nat × List (String × Bool) × Cv)} {st : Stt} : tryXA l (.ct st) = .ct st := nr rfl
@[simp] theorem r_tryXA4 {l : List (Option Nat × List (String × Bool) × Cv)} {st : Stt} : tryXA l (.bk st) = .bk st := nr rfl
@[simp] theorem r_tryXA5 {l : List (Option Nat × List (String × Bool) × Cv)} {st : Stt} {e : Ex} : tryXA l (.exc e st) = goX e st l := nr rfl
def goB (e : Ex) (st1 : Stt) (i : Option Nat) (fs : Cv) (r : List (Option Nat × List (String × Bool) × Cv)) : Option Bool → Fl
  | some true => capX i fs e st1
  | some false => goX e st1 r
  | none => .bad
@[simp] theorem r_goX0 {st : Stt} {e : Ex} : goX e st [] = .exc e st := nr rfl
@[simp] theorem r_goX1 {st : Stt} {e : Ex} {i : Option Nat} {cs : List (String × Bool)} {fs : Cv} {r : List (Option Nat × List (String × Bool) × Cv)} : goX e st ((i, cs, fs) :: r) = goB e st i fs r (cs.lookup e.c) := by
  show (match cs.lookup e.c with | some true => capX i fs e st | some false => goX e st r | none => .bad) = _
  unfold goB
  cases cs.lookup e.c <;> rfl
@[simp] theorem r_goB1 {st : Stt} {e : Ex} {i : Option Nat} {fs : Cv} {r : List (Option Nat × List (String × Bool) × Cv)} : goB e st i fs r (some true) = capX i fs e st := nr rfl
@[simp] theorem r_goB2 {st : Stt} {e : Ex} {i : Option Nat} {fs : Cv} {r : List (Option Nat × List (String × Bool) × Cv)} : goB e st i fs r (some false) = goX e st r := nr rfl
@[simp] theorem r_capX1 {st : Stt} {e : Ex} {fs : Cv} : capX none fs e st = hush (fs st) := nr rfl
@[simp] theorem r_capX2 {st : Stt} {e : Ex} {i : Nat} {fs : Cv} : capX (some i) fs e st = fixX i (fs (setR st i (.exn e.c e.f))) := nr rfl
@[simp] theorem r_fixX1 {st : Stt} {i : Nat} : fixX i (.nx st) = .nx (clrS i (bareX st)) := nr rfl
@[simp] theorem r_fixX2 {st : Stt} {s : Slot} {i : Nat} : fixX i (.rt s st) = .rt s (bareX st) := nr rfl
def isEA (cs : List (String × Bool)) (st : Stt) : Option (Option Slot) → Res D
  | some (some (.exn c none)) => lift ((cs.lookup c).map D.bl) st
  | _ => .bad
@[simp] theorem r_eIsE {i : Nat} {cs : List (String × Bool)} {r : List (Option Slot)} {S : List SO} : eIsE i cs ⟨r, S⟩ = isEA cs ⟨r, S⟩ (r[i]?) := nr rfl
@[simp] theorem r_isEA {c : String} {cs : List (String × Bool)} {st : Stt} : isEA cs st (some (some (.exn c none))) = lift ((cs.lookup c).map D.bl) st := nr rfl
@[simp] theorem r_bareX {r : List (Option Slot)} {S : List SO} : (bareX ⟨r, S⟩).S = S := nr rfl
@[simp] theorem r_outB {st : Stt} {s : Slot} : outA (.rt s (bareX st)) = .ok s st.S := nr rfl
/-! chains -/
def chB (k' : List SO → D → D → Option D) (y : D) : Res D → Res D
  | .ok z st => lift (k' st.S y z) st
  | .exc e st => .exc e st
  | .bad => .bad
def chC (k' : List SO → D → D → Option D) (fc : Ev) (y : D) (st : Stt) : Option D → Res D
  | some (.bl true) => chB k' y (fc st)
  | some (.bl false) => .ok (.bl false) st
  | _ => .bad
def chD (k k' : List SO → D → D → Option D) (fc : Ev) (x : D) : Res D → Res D
  | .ok y st => chC k' fc y st (k st.S x y)
  | .exc e st => .exc e st
  | .bad => .bad
def chE (k k' : List SO → D → D → Option D) (fb fc : Ev) : Res D → Res D
  | .ok x st => chD k k' fc x (fb st)
  | .exc e st => .exc e st
  | .bad => .bad
@[simp] theorem r_eChain {k k' : List SO → D → D → Option D} {fa fb fc : Ev} {st : Stt} : eChain k k' fa fb fc st = chE k k' fb fc (fa st) := by
  unfold eChain chE
  cases fa st with
  | ok x st1 =>
    show Res.bind (fb st1) _ = chD k k' fc x (fb st1)
    cases fb st1 with
    | ok y st2 =>
      show (match k st2.S x y with | some (.bl true) => (fc st2).bind fun z st3 => lift (k' st3.S y z) st3 | some (.bl false) => .ok (.bl false) st2 | _ => .bad) = chC k' fc y st2 (k st2.S x y)
      rcases k st2.S x y with _ | d
      · rfl
      · cases d with
        | bl b =>
          cases b with
          | true => show Res.bind (fc st2) _ = chB k' y (fc st2); cases fc st2 <;> rfl
          | false => rfl
        | _ => rfl
    | exc e st2 => rfl
    | bad => rfl
  | exc e st1 => rfl
  | bad => rfl
@[simp] theorem r_chE {k k' : List SO → D → D → Option D} {fb fc : Ev} {x : D} {st : Stt} : chE k k' fb fc (.ok x st) = chD k k' fc x (fb st) := nr rfl
@[simp] theorem r_chD {k k' : List SO → D → D → Option D} {fc : Ev} {x y : D} {r : List (Option Slot)} {S : List SO} : chD k k' fc x (.ok y ⟨r, S⟩) = chC k' fc y ⟨r, S⟩ (k S x y) := nr rfl
@[simp] theorem r_chC1 {k' : List SO → D → D → Option D} {fc : Ev} {y : D} {st : Stt} : chC k' fc y st (some (.bl true)) = chB k' y (fc st) := nr rfl
@[simp] theorem r_chC2 {k' : List SO → D → D → Option D} {fc : Ev} {y : D} {st : Stt} : chC k' fc y st (some (.bl false)) = .ok (.bl false) st := nr rfl
theorem r_chC {k' : List SO → D → D → Option D} {fc : Ev} {y : D} {st : Stt} {b : Bool} : chC k' fc y st (some (.bl b)) = if b then chB k' y (fc st) else .ok (.bl false) st := by cases b <;> exact nr rfl
@[simp] theorem r_chB {k' : List SO → D → D → Option D} {y z : D} {r : List (Option Slot)} {S : List SO} : chB k' y (.ok z ⟨r, S⟩) = lift (k' S y z) ⟨r, S⟩ := nr rfl
/-! while -/
noncomputable def whB (fc : Bv) (body : Cv) : Fl → Fl
  | .nx st => sWhile fc body st
  | .ct st => sWhile fc body st
  | .bk st => .nx st
  | x => x
noncomputable def whA (fc : Bv) (body : Cv) : Res Bool → Fl
  | .ok b st => if b then whB fc body (body st) else .nx st
  | .exc e st => .exc e st
  | .bad => .bad
theorem r_sWhile {fc : Bv} {body : Cv} {st : Stt} : sWhile fc body st = whA fc body (fc st) := by
  rw [sWhile_eq]
  unfold whA
  cases fc st with
  | ok b st1 =>
    show (if b then _ else _) = (if b then _ else _)
    cases b with
    | false => rfl
    | true => simp only [if_true]; cases body st1 <;> rfl
  | exc e st1 => rfl
  | bad => rfl
@[simp] theorem r_whA1 {fc : Bv} {body : Cv} {st : Stt} : whA fc body (.ok true st) = whB fc body (body st) := nr rfl
@[simp] theorem r_whA2 {fc : Bv} {body : Cv} {st : Stt} : whA fc body (.ok false st) = .nx st := nr rfl
@[simp] theorem r_whB1 {fc : Bv} {body : Cv} {st : Stt} : whB fc body (.nx st) = sWhile fc body st := nr rfl
@[simp] theorem r_whB2 {fc : Bv} {body : Cv} {st : Stt} : whB fc body (.ct st) = sWhile fc body st := nr rfl
@[simp] theorem r_whB3 {fc : Bv} {body : Cv} {st : Stt} : whB fc body (.bk st) = .nx st := nr rfl
@[simp] theorem r_whB4 {fc : Bv} {body : Cv} {st : Stt} {s : Slot} : whB fc body (.rt s st) = .rt s st := nr rfl
@[simp] theorem r_whB5 {fc : Bv} {body : Cv} {st : Stt} {e : Ex} : whB fc body (.exc e st) = .exc e st := nr rfl
/-! all -/
theorem blsD_map {bs : List Bool} : blsD (bs.map D.bl) = some bs := by
  induction bs with
  | nil => rfl
  | cons b bs ih => simp [blsD, ih]
@[simp] theorem k_all {S : List SO} {bs : List Bool} : kAll S [.lst (bs.map D.bl)] = some (.bl (bs.all id)) := by
  show (blsD (bs.map D.bl)).map _ = _
  rw [blsD_map]
  rfl
@[simp] theorem k_allc {α : Type} {S : List SO} {l : List α} {B : α → Bool} : kAll S [.lst (l.map (D.bl ∘ B))] = some (.bl (l.all B)) := by
  rw [← List.map_map, k_all, List.all_map]
  rfl
@[simp] theorem k_allf {α : Type} {S : List SO} {l : List α} {B : α → Bool} : kAll S [.lst (l.map fun i => D.bl (B i))] = some (.bl (l.all B)) := k_allc
theorem range_all {α : Type} {l : List α} {d : α} {p : α → Bool} : (List.range l.length).all (fun i => p (l.getD i d)) = l.all p := by
  apply Bool.eq_iff_iff.mpr
  rw [List.all_eq_true, List.all_eq_true]
  constructor
  · intro h x hx
    obtain ⟨i, hi, rfl⟩ := List.getElem_of_mem hx
    have z := h i (List.mem_range.mpr hi)
    simpa [hi] using z
  · intro h i hi
    have hi := List.mem_range.mp hi
    have z := h _ (List.getElem_mem hi)
    simpa [hi] using z
/-! a comprehension of tests -/
theorem comp_bl {t : Tg} {fe : Ev} {vs : List Nat} {ds : List D} {st : Stt} (B : Nat → Bool) (hl : ds.length ≤ line) (hs : ∀ i d, ds[i]? = some d → SomP (fun st1 => ResP (fun x st2 => x = .bl (B i) ∧ wipeS st2 vs = st) (fe st1)) (setT t d st)) :
    compGo t bYes fe vs ds [] st = .ok (.map D.bl ((List.range ds.length).map B)) st := by
  rw [comp_det (J := fun _ => st) (F := fun i => .bl (B i)) rfl (by simpa using hl) hs]
  simp [Function.comp_def]
/-- pairs compared -/
theorem strOk_sb {a : List Bool} : PyData.strOk (sb a) = true := by
  unfold PyData.strOk
  rw [← Array.all_toList, sb_tl, List.all_map, List.all_eq_true]
  intro b _
  cases b <;> rfl
theorem k_ne_pair {S : List SO} {a b : List Bool} {i j : Int} : kNe S (.tup [.str (sb a), .int i]) (.tup [.str (sb b), .int j]) = some (.bl (!decide (a = b ∧ i = j))) := by
  simp [kNe, dEq, scD, pyEq, toPy, toPys, SeqAt.shaped, PyData.eqv, PyData.eqvAll, PyData.canLay0, PyData.canLayAll0, PyData.depth, PyData.depthAll, strOk_sb]
  by_cases h1 : a = b <;> by_cases h2 : i = j <;> simp [h1, h2]
@[simp] theorem atz0 {α : Type} {a : α} {l : List α} : atI (a :: l) 0 = some a := at_z0
@[simp] theorem atz1 {α : Type} {a b : α} {l : List α} : atI (a :: b :: l) 1 = some b := at_z1
@[simp] theorem atz2 {α : Type} {a b c : α} {l : List α} : atI (a :: b :: c :: l) 2 = some c := at_z2
@[simp] theorem atz3 {α : Type} {a b c d : α} {l : List α} : atI (a :: b :: c :: d :: l) 3 = some d := at_z3
@[simp] theorem atz4 {α : Type} {a b c d e : α} {l : List α} : atI (a :: b :: c :: d :: e :: l) 4 = some e := at_z4
theorem comp_const {t : Tg} {fe : Ev} {vs : List Nat} {ds : List D} {st : Stt} (F : Nat → D) (hl : ds.length ≤ line) (hs : ∀ i d, ds[i]? = some d → SomP (fun st1 => ResP (fun x st2 => x = F i ∧ wipeS st2 vs = st) (fe st1)) (setT t d st)) :
    compGo t bYes fe vs ds [] st = .ok ((List.range ds.length).map F) st := by
  rw [comp_det (J := fun _ => st) (F := F) rfl (by simpa using hl) hs]
  simp
theorem range_map {α β : Type} {l : List α} {d : α} {f : α → β} : (List.range l.length).map (fun i => f (l.getD i d)) = l.map f := by
  apply List.ext_getElem?
  intro i
  by_cases h : i < l.length
  · simp [h]
  · rw [List.getElem?_eq_none (by simpa using h), List.getElem?_eq_none (by simpa using h)]
theorem for_out2 {t : Tg} {body : Cv} {ds : List D} {k k2 : Cv} {R : FRes} {st : Stt} (J : Nat → Stt → Prop) (h0 : J 0 st) (hs : ∀ i d st, ds[i]? = some d → J i st → SomP (fun st1 => NxP (J (i + 1)) (body st1)) (setT t d st)) (hk : ∀ st', J ds.length st' → outA (seqA k2 (k st')) = R) : outA (seqA k2 (seqA k (forGo t body ds st))) = R := by
  obtain ⟨st', e, j⟩ := for_go J h0 hs
  rw [e]
  exact hk st' j
def NxO (P : Stt → Prop) : Fl → Prop
  | .nx st => P st
  | _ => False
@[simp] theorem nxO_nx {P : Stt → Prop} {st : Stt} : NxO P (.nx st) = P st := nr rfl
theorem seq_fr {k : Cv} {F : Fl} {Q : Slot → List SO → Prop} (P : Stt → Prop) (h : NxO P F) (hk : ∀ st, P st → FrP Q (outA (k st))) : FrP Q (outA (seqA k F)) := by
  cases F with
  | nx st => exact hk st h
  | _ => exact h.elim
theorem for_nx0 {t : Tg} {body : Cv} {ds : List D} {P : Stt → Prop} {st : Stt} (J : Nat → Stt → Prop) (h0 : J 0 st) (hs : ∀ i d st, ds[i]? = some d → J i st → SomP (fun st1 => NxP (J (i + 1)) (body st1)) (setT t d st)) (hk : ∀ st', J ds.length st' → P st') : NxP P (forGo t body ds st) := by
  obtain ⟨st', e, j⟩ := for_go J h0 hs
  rw [e]
  exact hk st' j
end Pl
/-! Rewriting: zip of reversed lists, a, b = c, d; loops that may end early. -/
namespace Pl
open PySem L2
def zrB (ds : List D) : Res D → Res (List D)
  | .ok y st => lift (zipRB ds y) st
  | .exc e st => .exc e st
  | .bad => .bad
def zrC (fb : Ev) (st : Stt) : Option (List D) → Res (List D)
  | some ds => zrB ds (fb st)
  | none => .bad
def zrA (fb : Ev) : Res D → Res (List D)
  | .ok x st => zrC fb st (lstD x)
  | .exc e st => .exc e st
  | .bad => .bad
@[simp] theorem r_aZipR {fa fb : Ev} {st : Stt} : aZipR fa fb st = zrA fb (fa st) := by
  unfold aZipR zrA
  cases fa st with
  | ok x st1 =>
    simp only [Res.bind_ok]
    cases lstD x with
    | none => rfl
    | some ds => simp only [zrC]; cases fb st1 <;> rfl
  | exc e st1 => rfl
  | bad => rfl
@[simp] theorem r_zrA {fb : Ev} {x : D} {st : Stt} : zrA fb (.ok x st) = zrC fb st (lstD x) := nr rfl
@[simp] theorem r_zrC {fb : Ev} {ds : List D} {st : Stt} : zrC fb st (some ds) = zrB ds (fb st) := nr rfl
@[simp] theorem r_zrB {ds : List D} {y : D} {st : Stt} : zrB ds (.ok y st) = lift (zipRB ds y) st := nr rfl
@[simp] theorem k_zrB {ds es : List D} : zipRB ds (.lst es) = some (pairsD ds.reverse es.reverse) := nr rfl
@[simp] theorem k_lstD {ds : List D} : lstD (.lst ds) = some ds := nr rfl
def parC (i j : Nat) (st : Stt) : List D → Fl
  | [x, y] => .nx (setR (setR st i (.dat x)) j (.dat y))
  | _ => .bad
def parA (i j : Nat) : Res (List D) → Fl
  | .ok ds st => parC i j st ds
  | .exc e st => .exc e st
  | .bad => .bad
@[simp] theorem r_sPar {i j : Nat} {fr : Av} {st : Stt} : sPar i j fr st = parA i j (fr st) := by
  unfold sPar parA
  cases fr st with
  | ok ds st1 =>
    show _ = parC i j st1 ds
    unfold parC
    rcases ds with _ | ⟨x, _ | ⟨y, _ | _⟩⟩ <;> rfl
  | exc e st1 => rfl
  | bad => rfl
@[simp] theorem r_parA {i j : Nat} {ds : List D} {st : Stt} : parA i j (.ok ds st) = parC i j st ds := nr rfl
@[simp] theorem r_parC {i j : Nat} {x y : D} {r : List (Option Slot)} {S : List SO} : parC i j ⟨r, S⟩ [x, y] = .nx ⟨(r.set i (some (.dat x))).set j (some (.dat y)), S⟩ := nr rfl
/-! ### loops that may end early -/
def BdP (P : Stt → Prop) (R : Fl → Prop) : Fl → Prop
  | .nx st => P st
  | .ct st => P st
  | .bk st => R (.nx st)
  | x => R x
@[simp] theorem bdP_nx {P : Stt → Prop} {R : Fl → Prop} {st : Stt} : BdP P R (.nx st) = P st := nr rfl
@[simp] theorem bdP_ct {P : Stt → Prop} {R : Fl → Prop} {st : Stt} : BdP P R (.ct st) = P st := nr rfl
@[simp] theorem bdP_bk {P : Stt → Prop} {R : Fl → Prop} {st : Stt} : BdP P R (.bk st) = R (.nx st) := nr rfl
@[simp] theorem bdP_rt {P : Stt → Prop} {R : Fl → Prop} {st : Stt} {s : Slot} : BdP P R (.rt s st) = R (.rt s st) := nr rfl
@[simp] theorem bdP_exc {P : Stt → Prop} {R : Fl → Prop} {st : Stt} {e : Ex} : BdP P R (.exc e st) = R (.exc e st) := nr rfl
theorem for_any {t : Tg} {body : Cv} {ds : List D} {R : Fl → Prop} {st : Stt} (J : Nat → Stt → Prop) (h0 : J 0 st) (hs : ∀ i d st, ds[i]? = some d → J i st → SomP (fun st1 => BdP (J (i + 1)) R (body st1)) (setT t d st)) (hk : ∀ st', J ds.length st' → R (.nx st')) : R (forGo t body ds st) := by
  induction ds generalizing st J with
  | nil => exact hk st h0
  | cons d ds ih =>
    have z := hs 0 d st rfl h0
    rw [r_forGo1]
    cases e : setT t d st with
    | none => rw [e] at z; exact z.elim
    | some st1 =>
      rw [e, somP_some] at z
      rw [r_goT]
      have go : ∀ st2, J 1 st2 → R (forGo t body ds st2) := fun st2 j => ih (fun i => J (i + 1)) j (fun i d st hd hj => hs (i + 1) d st (by simpa using hd) hj) (fun st' j => hk st' (by simpa using j))
      cases e2 : body st1 with
      | nx st2 => rw [e2] at z; exact go st2 z
      | ct st2 => rw [e2] at z; exact go st2 z
      | bk st2 => rw [e2] at z; exact z
      | rt s st2 => rw [e2] at z; exact z
      | exc x st2 => rw [e2] at z; exact z
      | bad => rw [e2] at z; exact z
/-- of a def's suite: what its end gives -/
theorem for_fra {t : Tg} {body : Cv} {ds : List D} {k : Cv} {Q : Slot → List SO → Prop} {st : Stt} (J : Nat → Stt → Prop) (h0 : J 0 st) (hs : ∀ i d st, ds[i]? = some d → J i st → SomP (fun st1 => BdP (J (i + 1)) (fun F => FrP Q (outA (seqA k F))) (body st1)) (setT t d st)) (hk : ∀ st', J ds.length st' → FrP Q (outA (k st'))) : FrP Q (outA (seqA k (forGo t body ds st))) :=
  for_any (R := fun F => FrP Q (outA (seqA k F))) J h0 hs hk
theorem for_outa {t : Tg} {body : Cv} {ds : List D} {k : Cv} {R : FRes} {st : Stt} (J : Nat → Stt → Prop) (h0 : J 0 st) (hs : ∀ i d st, ds[i]? = some d → J i st → SomP (fun st1 => BdP (J (i + 1)) (fun F => outA (seqA k F) = R) (body st1)) (setT t d st)) (hk : ∀ st', J ds.length st' → outA (k st') = R) : outA (seqA k (forGo t body ds st)) = R :=
  for_any (R := fun F => outA (seqA k F) = R) J h0 hs hk
/-- a comprehension whose items are known by a property alone -/
theorem comp_fr {t : Tg} {fe : Ev} {vs : List Nat} {ds : List D} {st : Stt} {K : Res (List D) → Prop} (J : Nat → Stt → Prop) (X : Nat → D → Prop) (hl : ds.length ≤ line) (h0 : J 0 st)
    (hs : ∀ i d st, ds[i]? = some d → J i st → SomP (fun st1 => ResP (fun x st2 => X i x ∧ J (i + 1) (wipeS st2 vs)) (fe st1)) (setT t d st))
    (hk : ∀ xs st', xs.length = ds.length → (∀ (i : Nat) x, xs[i]? = some x → X i x) → J ds.length st' → K (.ok xs st')) : K (compGo t bYes fe vs ds [] st) := by
  obtain ⟨xs, st', e, l, q, j⟩ := comp_rule (t := t) (fe := fe) (vs := vs) (ds := ds) J X (st := st) (acc := []) (by simpa using hl) h0 fun i d st hd hj => by
    have z := hs i d st hd hj
    cases e1 : setT t d st with
    | none => rw [e1] at z; exact z.elim
    | some st1 =>
      rw [e1, somP_some] at z
      cases e2 : fe st1 with
      | ok x st2 => rw [e2] at z; exact ⟨st1, rfl, x, st2, e2, z.1, z.2⟩
      | _ => rw [e2] at z; exact z.elim
  rw [e]
  exact hk _ _ l q j
/-- items of a form, as a list -/
theorem of_form {α : Type} {f : α → D} {P : α → Prop} : ∀ {xs : List D}, (∀ (i : Nat) x, xs[i]? = some x → ∃ a, P a ∧ x = f a) → ∃ l : List α, xs = l.map f ∧ ∀ a ∈ l, P a
  | [], _ => ⟨[], rfl, fun a h => by cases h⟩
  | x :: xs, h => by
    obtain ⟨a, pa, e⟩ := h 0 x rfl
    obtain ⟨l, e2, pl⟩ := of_form (xs := xs) fun i x hx => h (i + 1) x (by simpa using hx)
    subst e
    subst e2
    exact ⟨a :: l, rfl, fun b hb => by
      rcases List.mem_cons.mp hb with z | z
      · rw [z]; exact pa
      · exact pl b z⟩
end Pl
/-! Rewriting: dicts, own lists looked at; comprehensions with a test. -/
namespace Pl
open PySem L2
def dispA : Res (List (D × D)) → Res D
  | .ok ps st => if ps.length ≤ 15 then lift ((mergeD [] ps).map D.dct) st else .bad
  | _ => .bad
@[simp] theorem r_eDisp {l : List (Ev × Ev)} {st : Stt} : eDisp l st = dispA (pairsE l st) := by unfold eDisp dispA; cases pairsE l st <;> rfl
@[simp] theorem r_dispA {ps : List (D × D)} {st : Stt} : dispA (.ok ps st) = if ps.length ≤ 15 then lift ((mergeD [] ps).map D.dct) st else .bad := nr rfl
@[simp] theorem r_pairs0 {st : Stt} : pairsE [] st = .ok [] st := nr rfl
def pairC (y z : D) : Res (List (D × D)) → Res (List (D × D))
  | .ok l st => .ok ((y, z) :: l) st
  | _ => .bad
def pairB (r : List (Ev × Ev)) (y : D) : Res D → Res (List (D × D))
  | .ok z st => pairC y z (pairsE r st)
  | _ => .bad
def pairA (fv : Ev) (r : List (Ev × Ev)) : Res D → Res (List (D × D))
  | .ok y st => pairB r y (fv st)
  | _ => .bad
@[simp] theorem r_pairs1 {fk fv : Ev} {r : List (Ev × Ev)} {st : Stt} : pairsE ((fk, fv) :: r) st = pairA fv r (fk st) := by
  rw [pairsE]
  unfold pairA pairB pairC
  cases fk st with
  | ok y st1 => first
    | (dsimp only; done)
    | (dsimp only; cases fv st1 <;> first
      | rfl
      | (dsimp only; done)
      | (dsimp only; rename_i z st2; cases pairsE r st2 <;> rfl))
  | _ => rfl
@[simp] theorem r_pairA {fv : Ev} {r : List (Ev × Ev)} {y : D} {st : Stt} : pairA fv r (.ok y st) = pairB r y (fv st) := nr rfl
@[simp] theorem r_pairB {r : List (Ev × Ev)} {y z : D} {st : Stt} : pairB r y (.ok z st) = pairC y z (pairsE r st) := nr rfl
@[simp] theorem r_pairC {y z : D} {l : List (D × D)} {st : Stt} : pairC y z (.ok l st) = .ok ((y, z) :: l) st := nr rfl
def dsC (i : Nat) (k : Key) (d : D) (st : Stt) : Option (Option Slot) → Fl
  | some (some (.own (.dct kvs))) => if kvs.length < line then .nx (setR st i (.own (.dct (putD kvs k d)))) else .bad
  | _ => .bad
def dsK (i : Nat) (d : D) (st : Stt) : Option Key → Fl
  | some k => dsC i k d st (st.r[i]?)
  | none => .bad
def dsB (i : Nat) (d : D) : Res D → Fl
  | .ok y st => dsK i d st (keyD y)
  | .exc e st => .exc e st
  | .bad => .bad
def ds1 (fi : Ev) (i : Nat) (d : D) (st : Stt) : Option (Option Slot) → Fl
  | some (some (.own (.dct _))) => dsB i d (fi st)
  | _ => .bad
def dsA (fi : Ev) (i : Nat) : Res D → Fl
  | .ok d st => ds1 fi i d st (st.r[i]?)
  | .exc e st => .exc e st
  | .bad => .bad
@[simp] theorem r_sDSet {i : Nat} {fi fe : Ev} {st : Stt} : sDSet i fi fe st = dsA fi i (fe st) := by
  unfold sDSet dsA
  cases fe st with
  | ok d st1 =>
    show (match st1.r[i]? with
      | some (some (.own (.dct _))) => (fi st1).fl fun y st2 => match keyD y with
        | some k => match st2.r[i]? with
          | some (some (.own (.dct kvs))) => if kvs.length < line then .nx (setR st2 i (.own (.dct (putD kvs k d)))) else .bad
          | _ => .bad
        | none => .bad
      | _ => .bad) = ds1 fi i d st1 (st1.r[i]?)
    unfold ds1
    rcases st1.r[i]? with _ | _ | x | x | ⟨c, g⟩
    · rfl
    · rfl
    · rfl
    · cases x with
      | dct kvs =>
        dsimp only
        cases fi st1 with
        | ok y st2 =>
          show (match keyD y with
            | some k => match st2.r[i]? with
              | some (some (.own (.dct kvs))) => if kvs.length < line then .nx (setR st2 i (.own (.dct (putD kvs k d)))) else .bad
              | _ => .bad
            | none => .bad) = dsK i d st2 (keyD y)
          unfold dsK
          cases keyD y with
          | none => rfl
          | some k =>
            dsimp only
            unfold dsC
            rcases st2.r[i]? with _ | _ | _ | x | _ <;> first | rfl | (cases x <;> rfl)
        | exc e st2 => rfl
        | bad => rfl
      | _ => rfl
    · rfl
  | exc e st1 => rfl
  | bad => rfl
@[simp] theorem r_dsA {fi : Ev} {i : Nat} {d : D} {r : List (Option Slot)} {S : List SO} : dsA fi i (.ok d ⟨r, S⟩) = ds1 fi i d ⟨r, S⟩ (r[i]?) := nr rfl
@[simp] theorem r_ds1 {fi : Ev} {i : Nat} {d : D} {st : Stt} {kvs : List (Key × D)} : ds1 fi i d st (some (some (.own (.dct kvs)))) = dsB i d (fi st) := nr rfl
@[simp] theorem r_dsB {i : Nat} {d y : D} {st : Stt} : dsB i d (.ok y st) = dsK i d st (keyD y) := nr rfl
@[simp] theorem r_dsK {i : Nat} {d : D} {k : Key} {r : List (Option Slot)} {S : List SO} : dsK i d ⟨r, S⟩ (some k) = dsC i k d ⟨r, S⟩ (r[i]?) := nr rfl
@[simp] theorem r_dsC {i : Nat} {d : D} {k : Key} {st : Stt} {kvs : List (Key × D)} : dsC i k d st (some (some (.own (.dct kvs)))) = if kvs.length < line then .nx (setR st i (.own (.dct (putD kvs k d)))) else .bad := nr rfl
@[simp] theorem k_key_i {i : Int} : keyD (.int i) = some (.inl i) := nr rfl
@[simp] theorem k_key_s {x : Str} : keyD (.str x) = some (.inr x) := nr rfl
def cmpO2 (ng : Bool → Bool) (y : D) (st : Stt) : Option (Option Slot) → Res D
  | some (some (.own (.lst ds))) => lift ((pyEq (.lst ds) y).map fun b => .bl (ng b)) st
  | _ => .bad
def cmpO1 (i : Nat) (ng : Bool → Bool) : Res D → Res D
  | .ok y st => cmpO2 ng y st (st.r[i]?)
  | .exc e st => .exc e st
  | .bad => .bad
def cmpO0 (i : Nat) (ng : Bool → Bool) (fb : Ev) (st : Stt) : Option (Option Slot) → Res D
  | some (some (.own (.lst _))) => cmpO1 i ng (fb st)
  | _ => .bad
@[simp] theorem r_eCmpO {i : Nat} {ng : Bool → Bool} {fb : Ev} {r : List (Option Slot)} {S : List SO} : eCmpO i ng fb ⟨r, S⟩ = cmpO0 i ng fb ⟨r, S⟩ (r[i]?) := by
  unfold eCmpO cmpO0
  dsimp only
  rcases r[i]? with _ | _ | d | d | ⟨c, g⟩
  · rfl
  · rfl
  · rfl
  · cases d with
    | lst ds =>
      dsimp only
      cases fb ⟨r, S⟩ with
      | ok y st1 =>
        show (match st1.r[i]? with
          | some (some (.own (.lst ds))) => lift ((pyEq (.lst ds) y).map fun b => .bl (ng b)) st1
          | _ => .bad) = cmpO2 ng y st1 (st1.r[i]?)
        unfold cmpO2
        rcases st1.r[i]? with _ | _ | _ | e | _ <;> first | rfl | (cases e <;> rfl)
      | exc e st1 => rfl
      | bad => rfl
    | _ => rfl
  · rfl
@[simp] theorem r_cmpO0 {i : Nat} {ng : Bool → Bool} {fb : Ev} {st : Stt} {ds : List D} : cmpO0 i ng fb st (some (some (.own (.lst ds)))) = cmpO1 i ng (fb st) := nr rfl
@[simp] theorem r_cmpO1 {i : Nat} {ng : Bool → Bool} {y : D} {r : List (Option Slot)} {S : List SO} : cmpO1 i ng (.ok y ⟨r, S⟩) = cmpO2 ng y ⟨r, S⟩ (r[i]?) := nr rfl
@[simp] theorem r_cmpO2 {ng : Bool → Bool} {y : D} {st : Stt} {ds : List D} : cmpO2 ng y st (some (some (.own (.lst ds)))) = lift ((pyEq (.lst ds) y).map fun b => .bl (ng b)) st := nr rfl
def isOA (n : String) (st : Stt) : Option (Option Slot) → Res D
  | some (some (.own (.lst _))) => lift ((kitB "list" n).map D.bl) st
  | _ => .bad
@[simp] theorem r_eIsO {i : Nat} {n : String} {r : List (Option Slot)} {S : List SO} : eIsO i n ⟨r, S⟩ = isOA n ⟨r, S⟩ (r[i]?) := nr rfl
@[simp] theorem r_isOA {n : String} {st : Stt} {ds : List D} : isOA n st (some (some (.own (.lst ds)))) = lift ((kitB "list" n).map D.bl) st := nr rfl
@[simp] theorem k_kit_ll : kitB "list" "list" = some true := nr rfl
def callKAO (n : Nat) (f : Fn) (perm : List Nat) : Res (List D) → Res D
  | .ok ds st => if ds.length = n then callCO st.r (f (pick D.non perm ds) st.S) else .bad
  | .exc e st => .exc e st
  | .bad => .bad
@[simp] theorem r_eCallKO {n : Nat} {f : Fn} {perm : List Nat} {fr : Av} {st : Stt} : eCallKO n f perm fr st = callKAO n f perm (fr st) := by
  unfold eCallKO callKAO
  cases fr st with
  | ok ds st1 =>
    simp only [Res.bind_ok]
    split
    · rcases f (pick D.non perm ds) st1.S with ⟨_ | _ | _, _⟩ | _ | _ <;> rfl
    · rfl
  | exc e st1 => rfl
  | bad => rfl
@[simp] theorem r_callKAO {n : Nat} {f : Fn} {perm : List Nat} {ds : List D} {r : List (Option Slot)} {S : List SO} : callKAO n f perm (.ok ds ⟨r, S⟩) = if ds.length = n then callCO r (f (pick D.non perm ds) S) else .bad := nr rfl
/-! ### dict comprehensions -/
def dcB (st0 : Stt) (vs : List Nat) : Res (List (Key × D)) → Res D
  | .ok xs st => .ok (.dct xs) ⟨backR st0.r st.r vs, st.S⟩
  | .exc e st => .exc e st
  | .bad => .bad
def dcA (t : Tg) (ft : Bv) (fk fe : Ev) (vs : List Nat) : Res (List D) → Res D
  | .ok ds st => dcB st vs (dcGo t ft fk fe vs ds [] (wipeS st vs))
  | .exc e st => .exc e st
  | .bad => .bad
@[simp] theorem r_eDComp {fi : Av} {t : Tg} {ft : Bv} {fk fe : Ev} {vs : List Nat} {st : Stt} : eDComp fi t ft fk fe vs st = dcA t ft fk fe vs (fi st) := by
  unfold eDComp dcA
  cases fi st with
  | ok ds st1 => show Res.bind (dcGo t ft fk fe vs ds [] (wipeS st1 vs)) _ = dcB st1 vs _; cases dcGo t ft fk fe vs ds [] (wipeS st1 vs) <;> rfl
  | exc e st1 => rfl
  | bad => rfl
@[simp] theorem r_dcA {t : Tg} {ft : Bv} {fk fe : Ev} {vs : List Nat} {ds : List D} {r : List (Option Slot)} {S : List SO} : dcA t ft fk fe vs (.ok ds ⟨r, S⟩) = dcB ⟨r, S⟩ vs (dcGo t ft fk fe vs ds [] ⟨wipeR r vs, S⟩) := nr rfl
@[simp] theorem r_dcB {r0 r : List (Option Slot)} {S0 S : List SO} {vs : List Nat} {xs : List (Key × D)} : dcB ⟨r0, S0⟩ vs (.ok xs ⟨r, S⟩) = .ok (.dct xs) ⟨backR r0 r vs, S⟩ := nr rfl
/-- a dict of ints, each with True -/
def dk (ks : List Int) : List (Key × D) := ks.map fun i => (.inl i, .bl true)
def ins (ks : List Int) (i : Int) : List Int := if i ∈ ks then ks else ks ++ [i]
theorem putD_dk {ks : List Int} {i : Int} : putD (dk ks) (.inl i) (.bl true) = dk (ins ks i) := by
  have e1 : ((dk ks).any fun kv => decide (kv.1 = (Sum.inl i : Key))) = decide (i ∈ ks) := by
    apply Bool.eq_iff_iff.mpr
    rw [List.any_eq_true, decide_eq_true_eq]
    constructor
    · rintro ⟨kv, h1, h2⟩
      obtain ⟨j, hj, rfl⟩ := List.mem_map.mp h1
      have h3 : (Sum.inl j : Key) = Sum.inl i := of_decide_eq_true h2
      cases h3
      exact hj
    · intro h
      exact ⟨_, List.mem_map.mpr ⟨i, h, rfl⟩, decide_eq_true rfl⟩
  unfold putD
  rw [e1]
  unfold ins
  by_cases h : i ∈ ks
  · rw [if_pos (by simpa using h), if_pos h]
    unfold dk
    rw [List.map_map]
    apply List.map_congr_left
    intro j _
    by_cases hj : (Sum.inl j : Key) = Sum.inl i
    · simp only [Function.comp, hj, if_true]
    · simp only [Function.comp, hj, if_false]
  · rw [if_neg (by simpa using h), if_neg h]
    simp [dk]
@[simp] theorem dk_len {ks : List Int} : (dk ks).length = ks.length := by simp [dk]
theorem intKeys_dk : ∀ {ks : List Int}, intKeys (dk ks) = some ks
  | [] => rfl
  | i :: ks => by
    show (intKeys (dk ks)).map (i :: ·) = _
    rw [intKeys_dk]
    rfl
theorem k_sorted_dk {S : List SO} {ks : List Int} : kSorted S [.dct (dk ks)] = some (.lst ((sortI ks).map .int)) := by
  show (intKeys (dk ks)).map _ = _
  rw [intKeys_dk]
  rfl
theorem ins_mem {ks : List Int} {i k : Int} : k ∈ ins ks i ↔ k ∈ ks ∨ k = i := by
  unfold ins
  split
  · constructor
    · exact .inl
    · rintro (h | h)
      · exact h
      · rw [h]; assumption
  · simp
theorem ins_nodup {ks : List Int} {i : Int} (h : ks.Nodup) : (ins ks i).Nodup := by
  unfold ins
  split
  · exact h
  · rename_i hn
    rw [List.nodup_append]
    refine ⟨h, by simp, fun a ha b hb e => ?_⟩
    rw [List.mem_singleton.mp hb] at e
    subst e
    exact hn ha
theorem ins_len {ks : List Int} {i : Int} : (ins ks i).length ≤ ks.length + 1 := by
  unfold ins
  split
  · omega
  · simp
/-- a dict comprehension of ints, each with True -/
theorem dc_ints {t : Tg} {fk fe : Ev} {vs : List Nat} {st : Stt} (F : D → Int) : ∀ (ds : List D) (ks : List Int), ks.length + ds.length ≤ line →
    (∀ d ∈ ds, SomP (fun st1 => ResP (fun y st2 => y = .int (F d) ∧ ResP (fun z st3 => z = .bl true ∧ wipeS st3 vs = st) (fe st2)) (fk st1)) (setT t d st)) →
    dcGo t bYes fk fe vs ds (dk ks) st = .ok (dk (ds.foldl (fun ks d => ins ks (F d)) ks)) st
  | [], ks, _, _ => rfl
  | d :: ds, ks, hl, h => by
    have z := h d List.mem_cons_self
    unfold dcGo
    cases e1 : setT t d st with
    | none => rw [e1] at z; exact z.elim
    | some st1 =>
      rw [e1, somP_some] at z
      simp only [r_bYes]
      cases e2 : fk st1 with
      | ok y st2 =>
        rw [e2, resP_ok] at z
        obtain ⟨rfl, z⟩ := z
        dsimp only
        cases e3 : fe st2 with
        | ok x st3 =>
          rw [e3, resP_ok] at z
          obtain ⟨rfl, z⟩ := z
          have l1 : (dk ks).length < line := by simp at hl ⊢; omega
          simp only [k_key_i, l1, if_true, z, putD_dk]
          have il := @ins_len ks (F d)
          exact dc_ints F ds (ins ks (F d)) (by simp at hl ⊢; omega) fun d hd => h d (List.mem_cons_of_mem _ hd)
        | _ => rw [e3] at z; exact z.elim
      | _ => rw [e2] at z; exact z.elim
theorem fold_ins_mem {F : D → Int} {k : Int} : ∀ {ds : List D} {ks : List Int}, k ∈ ds.foldl (fun ks d => ins ks (F d)) ks ↔ k ∈ ks ∨ ∃ d ∈ ds, k = F d
  | [], ks => by simp
  | d :: ds, ks => by
    rw [List.foldl_cons, fold_ins_mem, ins_mem]
    constructor
    · rintro ((h | h) | ⟨e, he, h⟩)
      · exact .inl h
      · exact .inr ⟨d, List.mem_cons_self, h⟩
      · exact .inr ⟨e, List.mem_cons_of_mem _ he, h⟩
    · rintro (h | ⟨e, he, h⟩)
      · exact .inl (.inl h)
      · rcases List.mem_cons.mp he with q | q
        · subst q; exact .inl (.inr h)
        · exact .inr ⟨e, q, h⟩
theorem fold_ins_nodup {F : D → Int} : ∀ {ds : List D} {ks : List Int}, ks.Nodup → (ds.foldl (fun ks d => ins ks (F d)) ks).Nodup
  | [], ks, h => h
  | d :: ds, ks, h => by rw [List.foldl_cons]; exact fold_ins_nodup (ins_nodup h)
theorem fold_ins_len {F : D → Int} : ∀ {ds : List D} {ks : List Int}, (ds.foldl (fun ks d => ins ks (F d)) ks).length ≤ ks.length + ds.length
  | [], ks => by simp
  | d :: ds, ks => by
    rw [List.foldl_cons]
    have := @fold_ins_len F ds (ins ks (F d))
    have := @ins_len ks (F d)
    simp only [List.length_cons]
    omega
/-! ### a comprehension with a test -/
theorem comp_test {α : Type} {t : Tg} {ft : Bv} {fe : Ev} {vs : List Nat} {st : Stt} {f : α → D} (T : α → Bool) (F : α → D) : ∀ (l : List α) (acc : List D), acc.length + l.length ≤ line →
    (∀ a ∈ l, SomP (fun st1 => ResP (fun b st2 => b = T a ∧ (T a = false → wipeS st2 vs = st) ∧ (T a = true → ResP (fun x st3 => x = F a ∧ wipeS st3 vs = st) (fe st2))) (ft st1)) (setT t (f a) st)) →
    compGo t ft fe vs (l.map f) acc st = .ok (acc ++ (l.filter T).map F) st
  | [], acc, _, _ => by simp [compGo]
  | a :: l, acc, hl, h => by
    have z := h a List.mem_cons_self
    rw [List.map_cons]
    unfold compGo
    cases e1 : setT t (f a) st with
    | none => rw [e1] at z; exact z.elim
    | some st1 =>
      rw [e1, somP_some] at z
      dsimp only
      cases e2 : ft st1 with
      | ok b st2 =>
        rw [e2, resP_ok] at z
        obtain ⟨rfl, z1, z2⟩ := z
        cases hT : T a with
        | false =>
          dsimp only
          rw [z1 hT, comp_test T F l acc (by simp at hl; omega) fun a ha => h a (List.mem_cons_of_mem _ ha)]
          simp [hT]
        | true =>
          dsimp only
          have z3 := z2 hT
          cases e3 : fe st2 with
          | ok x st3 =>
            rw [e3, resP_ok] at z3
            obtain ⟨rfl, z4⟩ := z3
            dsimp only
            rw [if_pos (by simp at hl; omega), z4, comp_test T F l (acc ++ [F a]) (by simp at hl ⊢; omega) fun a ha => h a (List.mem_cons_of_mem _ ha)]
            simp [hT]
          | _ => rw [e3] at z3; exact z3.elim
      | _ => rw [e2] at z; exact z.elim
/-- sorted lists without doubles and with the same members -/
theorem sorted_same : ∀ {a b : List Int}, a.Pairwise (· < ·) → b.Pairwise (· < ·) → (∀ x, x ∈ a ↔ x ∈ b) → a = b
  | [], [], _, _, _ => rfl
  | [], y :: b, _, _, h => by have := (h y).mpr List.mem_cons_self; cases this
  | x :: a, [], _, _, h => by have := (h x).mp List.mem_cons_self; cases this
  | x :: a, y :: b, h1, h2, h => by
    obtain ⟨p1, p2⟩ := List.pairwise_cons.mp h1
    obtain ⟨q1, q2⟩ := List.pairwise_cons.mp h2
    have xy : x = y := by
      have m1 := (h x).mp List.mem_cons_self
      have m2 := (h y).mpr List.mem_cons_self
      rcases List.mem_cons.mp m1 with e | e
      · exact e
      · rcases List.mem_cons.mp m2 with e2 | e2
        · exact e2.symm
        · have a1 := q1 x e
          have a2 := p1 y e2
          omega
    subst xy
    rw [sorted_same p2 q2 fun z => ?_]
    constructor
    · intro hz
      rcases List.mem_cons.mp ((h z).mp (List.mem_cons_of_mem _ hz)) with e | e
      · have := p1 z hz; omega
      · exact e
    · intro hz
      rcases List.mem_cons.mp ((h z).mpr (List.mem_cons_of_mem _ hz)) with e | e
      · have := q1 z hz; omega
      · exact e
theorem sortI_mem {l : List Int} {x : Int} : x ∈ sortI l ↔ x ∈ l := (sortI_ok l).1.mem_iff
theorem sortI_strict {l : List Int} (h : l.Nodup) : (sortI l).Pairwise (· < ·) := by
  have h1 := (sortI_ok l).2
  have h2 : (sortI l).Nodup := (sortI_ok l).1.nodup_iff.mpr h
  have h3 : (sortI l).Pairwise (· ≠ ·) := h2
  exact (h1.and h3).imp fun ⟨p, q⟩ => by omega
theorem sortI_len {l : List Int} : (sortI l).length = l.length := (sortI_ok l).1.length_eq
end Pl
/-! Rewriting: extend, max of a list, while by a measure, words. -/
namespace Pl
open PySem L2
theorem ofs_inj {a b : String} : (Str.ofString a = Str.ofString b) ↔ a = b := by
  constructor
  · intro h
    rw [Str.ofString_eq_toList, Str.ofString_eq_toList] at h
    have h1 := congrArg (fun s : Str => s.cps.toList) h
    simp at h1
    exact String.toList_inj.mp (List.map_inj_right (fun x y e => Char.ext (UInt32.toNat_inj.mp e)) |>.mp h1)
  · intro h; rw [h]
def extC (i : Nat) (es : List D) (st : Stt) : Option (Option Slot) → Res D
  | some (some (.own (.lst ds))) => if ds.length + es.length ≤ line then .ok .non (setR st i (.own (.lst (ds ++ es)))) else .bad
  | _ => .bad
def extB (i : Nat) : Res D → Res D
  | .ok (.lst es) st => extC i es st (st.r[i]?)
  | .exc e st => .exc e st
  | _ => .bad
def extA (i : Nat) (fa : Ev) (st : Stt) : Option (Option Slot) → Res D
  | some (some (.own (.lst _))) => extB i (fa st)
  | _ => .bad
@[simp] theorem r_eExt {i : Nat} {fa : Ev} {r : List (Option Slot)} {S : List SO} : eExt i fa ⟨r, S⟩ = extA i fa ⟨r, S⟩ (r[i]?) := by
  unfold eExt extA
  dsimp only
  rcases r[i]? with _ | _ | d | d | ⟨c, g⟩
  · rfl
  · rfl
  · rfl
  · cases d with
    | lst ds =>
      dsimp only
      cases fa ⟨r, S⟩ with
      | ok y st1 =>
        show (match y with
          | .lst es => match st1.r[i]? with
            | some (some (.own (.lst ds))) => if ds.length + es.length ≤ line then .ok .non (setR st1 i (.own (.lst (ds ++ es)))) else .bad
            | _ => .bad
          | _ => .bad) = extB i (.ok y st1)
        cases y with
        | lst es =>
          show _ = extC i es st1 (st1.r[i]?)
          unfold extC
          rcases st1.r[i]? with _ | _ | _ | e | _ <;> first | rfl | (cases e <;> rfl)
        | _ => rfl
      | exc e st1 => rfl
      | bad => rfl
    | _ => rfl
  · rfl
@[simp] theorem r_extA {i : Nat} {fa : Ev} {st : Stt} {ds : List D} : extA i fa st (some (some (.own (.lst ds)))) = extB i (fa st) := nr rfl
@[simp] theorem r_extB {i : Nat} {es : List D} {r : List (Option Slot)} {S : List SO} : extB i (.ok (.lst es) ⟨r, S⟩) = extC i es ⟨r, S⟩ (r[i]?) := nr rfl
@[simp] theorem r_extBe {i : Nat} {e : Ex} {st : Stt} : extB i (.exc e st) = .exc e st := nr rfl
@[simp] theorem r_extC {i : Nat} {es ds : List D} {st : Stt} : extC i es st (some (some (.own (.lst ds)))) = if ds.length + es.length ≤ line then .ok .non (setR st i (.own (.lst (ds ++ es)))) else .bad := nr rfl
theorem intsL_map : ∀ {l : List Int}, intsL (l.map D.int) = some l
  | [] => rfl
  | i :: l => by
    show (intsL (l.map D.int)).map (i :: ·) = _
    rw [intsL_map]; rfl
theorem k_maxL {S : List SO} {l : List Int} (h : 0 < l.length) : kMaxL S [.lst (l.map D.int)] = some (.int (maxI l)) := by
  unfold kMaxL
  simp only [intsL_map]
  cases l with
  | nil => simp at h
  | cons i r => rfl
@[simp] theorem k_max2 {S : List SO} {i j : Int} : kMax2 S [.int i, .int j] = some (.int (if j > i then j else i)) := nr rfl
/-! ### while, by a measure -/
def WhP (P : Stt → Prop) (R : Fl → Prop) (body : Cv) : Res Bool → Prop
  | .ok true st => BdP P R (body st)
  | .ok false st => R (.nx st)
  | .exc e st => R (.exc e st)
  | .bad => False
@[simp] theorem whP_t {P : Stt → Prop} {R : Fl → Prop} {body : Cv} {st : Stt} : WhP P R body (.ok true st) = BdP P R (body st) := nr rfl
@[simp] theorem whP_f {P : Stt → Prop} {R : Fl → Prop} {body : Cv} {st : Stt} : WhP P R body (.ok false st) = R (.nx st) := nr rfl
theorem while_any {fc : Bv} {body : Cv} {R : Fl → Prop} (J : Nat → Stt → Prop) (hs : ∀ n st, J n st → WhP (fun st1 => ∃ m, m < n ∧ J m st1) R body (fc st)) : ∀ n st, J n st → R (sWhile fc body st) := by
  intro n
  induction n using Nat.strongRecOn with
  | _ n ih =>
    intro st hj
    have z := hs n st hj
    rw [r_sWhile]
    cases e : fc st with
    | ok b st1 =>
      rw [e] at z
      cases b with
      | false => exact z
      | true =>
        rw [r_whA1]
        rw [whP_t] at z
        cases e2 : body st1 with
        | nx st2 => rw [e2] at z; obtain ⟨m, hm, j⟩ := z; exact ih m hm st2 j
        | ct st2 => rw [e2] at z; obtain ⟨m, hm, j⟩ := z; exact ih m hm st2 j
        | bk st2 => rw [e2] at z; exact z
        | rt s st2 => rw [e2] at z; exact z
        | exc x st2 => rw [e2] at z; exact z
        | bad => rw [e2] at z; exact z
    | exc x st1 => rw [e] at z; exact z
    | bad => rw [e] at z; exact z.elim
end Pl
namespace Law
open PySem L2 Pl
/-! ### the text, its facts -/
def top (i : Nat) : Stmt := PySem.Challenge.pw_carriedbreaks_k07_the_most_asks.main.body.getD i (.Pass ⟨0, 0, 0, 0⟩)
abbrev s_u_law_take : Stmt := top 31
abbrev s_u_law_parts : Stmt := top 34
abbrev s_u_law_breaker : Stmt := top 35
abbrev s_u_law_draws : Stmt := top 30
abbrev s_is_bits : Stmt := top 6
abbrev s_is_number : Stmt := top 5
abbrev s_are_parts : Stmt := top 18
abbrev s_inner_plain : Stmt := top 19
abbrev s_check_plain : Stmt := top 20
abbrev s_has_plain_word : Stmt := top 25
abbrev s_is_row : Stmt := top 7
abbrev s_is_generator : Stmt := top 8
abbrev s_fits_longer : Stmt := top 21
abbrev s_fits_tree : Stmt := top 22
abbrev s_is_length : Stmt := top 23
abbrev s_fits_word : Stmt := top 24
abbrev s_check_breaker : Stmt := top 26
abbrev s_most_plain_asks : Stmt := top 27
abbrev s_most_asks : Stmt := top 28
abbrev s_u_law_most : Stmt := top 37
abbrev s_u_law_is_right : Stmt := top 38
abbrev s_u_law_string : Stmt := top 32
abbrev s_u_law_table : Stmt := top 33
abbrev s_u_law_made : Stmt := top 36
abbrev s_law : Stmt := top 39
def dds : List He.DefD := [⟨("_law_take", none), "_law_take", "_law_take", defArgs s_u_law_take, defBody s_u_law_take, defScope s_u_law_take, [], []⟩, ⟨("_law_parts", none), "_law_parts", "_law_parts", defArgs s_u_law_parts, defBody s_u_law_parts, defScope s_u_law_parts, [], []⟩, ⟨("_law_breaker", none), "_law_breaker", "_law_breaker", defArgs s_u_law_breaker, defBody s_u_law_breaker, defScope s_u_law_breaker, [], []⟩, ⟨("_law_draws", none), "_law_draws", "_law_draws", defArgs s_u_law_draws, defBody s_u_law_draws, defScope s_u_law_draws, [], []⟩, ⟨("is_bits", none), "is_bits", "is_bits", defArgs s_is_bits, defBody s_is_bits, defScope s_is_bits, [], []⟩, ⟨("is_number", none), "is_number", "is_number", defArgs s_is_number, defBody s_is_number, defScope s_is_number, [], []⟩, ⟨("are_parts", none), "are_parts", "are_parts", defArgs s_are_parts, defBody s_are_parts, defScope s_are_parts, [], []⟩, ⟨("inner_plain", none), "inner_plain", "inner_plain", defArgs s_inner_plain, defBody s_inner_plain, defScope s_inner_plain, [], []⟩, ⟨("check_plain", none), "check_plain", "check_plain", defArgs s_check_plain, defBody s_check_plain, defScope s_check_plain, [], []⟩, ⟨("has_plain_word", none), "has_plain_word", "has_plain_word", defArgs s_has_plain_word, defBody s_has_plain_word, defScope s_has_plain_word, [], []⟩, ⟨("is_row", none), "is_row", "is_row", defArgs s_is_row, defBody s_is_row, defScope s_is_row, [], []⟩, ⟨("is_generator", none), "is_generator", "is_generator", defArgs s_is_generator, defBody s_is_generator, defScope s_is_generator, [], []⟩, ⟨("fits_longer", none), "fits_longer", "fits_longer", defArgs s_fits_longer, defBody s_fits_longer, defScope s_fits_longer, [], []⟩, ⟨("fits_tree", none), "fits_tree", "fits_tree", defArgs s_fits_tree, defBody s_fits_tree, defScope s_fits_tree, [], []⟩, ⟨("is_length", none), "is_length", "is_length", defArgs s_is_length, defBody s_is_length, defScope s_is_length, [], []⟩, ⟨("fits_word", none), "fits_word", "fits_word", defArgs s_fits_word, defBody s_fits_word, defScope s_fits_word, [], []⟩, ⟨("check_breaker", none), "check_breaker", "check_breaker", defArgs s_check_breaker, defBody s_check_breaker, defScope s_check_breaker, [], []⟩, ⟨("most_plain_asks", none), "most_plain_asks", "most_plain_asks", defArgs s_most_plain_asks, defBody s_most_plain_asks, defScope s_most_plain_asks, [], []⟩, ⟨("most_asks", none), "most_asks", "most_asks", defArgs s_most_asks, defBody s_most_asks, defScope s_most_asks, [], []⟩, ⟨("_law_most", none), "_law_most", "_law_most", defArgs s_u_law_most, defBody s_u_law_most, defScope s_u_law_most, [], []⟩, ⟨("_law_is_right", none), "_law_is_right", "_law_is_right", defArgs s_u_law_is_right, defBody s_u_law_is_right, defScope s_u_law_is_right, [], []⟩, ⟨("_law_string", none), "_law_string", "_law_string", defArgs s_u_law_string, defBody s_u_law_string, defScope s_u_law_string, [], []⟩, ⟨("_law_table", none), "_law_table", "_law_table", defArgs s_u_law_table, defBody s_u_law_table, defScope s_u_law_table, [], []⟩, ⟨("_law_made", none), "_law_made", "_law_made", defArgs s_u_law_made, defBody s_u_law_made, defScope s_u_law_made, [], []⟩, ⟨("law", none), "law", "law", defArgs s_law, defBody s_law, defScope s_law, [], []⟩]
def fas : List He.Fa := [He.Fa.glo "_law_take", He.Fa.glo "_law_parts", He.Fa.glo "_law_breaker", He.Fa.glo "_law_draws", He.Fa.glo "is_bits", He.Fa.glo "is_number", He.Fa.glo "are_parts", He.Fa.glo "inner_plain", He.Fa.glo "check_plain", He.Fa.glo "has_plain_word", He.Fa.glo "is_row", He.Fa.glo "is_generator", He.Fa.glo "fits_longer", He.Fa.glo "fits_tree", He.Fa.glo "is_length", He.Fa.glo "fits_word", He.Fa.glo "check_breaker", He.Fa.glo "most_plain_asks", He.Fa.glo "most_asks", He.Fa.glo "_law_most", He.Fa.glo "_law_is_right", He.Fa.glo "_law_string", He.Fa.glo "_law_table", He.Fa.glo "_law_made", He.Fa.glo "law", He.Fa.free "abs", He.Fa.free "all", He.Fa.free "bool", He.Fa.free "int", He.Fa.free "isinstance", He.Fa.free "len", He.Fa.free "max", He.Fa.free "range", He.Fa.free "str", He.Fa.free "tuple", He.Fa.int "MOST_ASKS" 1000, He.Fa.int "MOST_BIT" 9999, He.Fa.int "MOST_COUNTED" 256, He.Fa.int "MOST_DEPTH" 60, He.Fa.int "MOST_LAYERS" 20, He.Fa.int "MOST_LENGTH" 40, He.Fa.int "MOST_TOSSED" 64, He.Fa.int "MOST_WITHIN" 2000]
def xfs : List XF := [XF.cls "BadBreaker", XF.exc "BadBreaker", XF.exm (.own "BadBreaker") [("BadBreaker", true)], XF.cls "PLAIN_WORDS", XF.stup "PLAIN_WORDS" ["say", "toss", "look", "ask"]]
/-! ### what each def does -/
noncomputable def b_u_law_take : Cv :=
 (sSeq (sSet 2 (eIx 0 (eC (.int 1))))
 (sSeq (sSetIx 0 (eC (.int 1)) (eOp2 kAdd (eVar 2) (eC (.int 1))))
 (sSeq (sSet 3 (eIx 0 (eC (.int 0))))
 (sSeq (sIf (bOf (eOp2 kGe (eVar 2) (eLen 3)))
 (sRet (eC (.int 0)))
 sNx)
 (sRet (eOp2 kMod (eOp2 kFdiv (eOpN kInt (aCons (eIx 3 (eVar 2)) aNil)) (eC (.int 7))) (eVar 1)))))))
noncomputable def f_u_law_take : Fn := fnOf 2 4 b_u_law_take
noncomputable def b_u_law_parts : Cv :=
 (sSeq (sSetO 2 (eOpN kLst aNil))
 (sSeq (sFor (aOn rng1 (aCons (eVar 1) aNil)) (.n 3)
 (sSeq (sSet 4 (eCall f_u_law_take (aCons (eVar 0) (aCons (eC (.int 5)) aNil))))
 (sIf (bOf (eOp2 kLt (eVar 4) (eC (.int 2))))
 (sExpr (eApp 2 (eOp2 kIx (eOpN kLst (aCons (eC (.str (Str.ofString "0"))) (aCons (eC (.str (Str.ofString "1"))) aNil))) (eVar 4))))
 (sExpr (eApp 2 (eCall f_u_law_take (aCons (eVar 0) (aCons (eC (.int 9)) aNil))))))))
 (sRet (eOpN kTuple (aCons (eVar 2) aNil)))))
noncomputable def f_u_law_parts : Fn := fnOf 2 5 b_u_law_parts
noncomputable def b_u_law_breaker (rec : Fn) : Cv :=
 (sSeq (sSet 5 (eCall f_u_law_take (aCons (eVar 0) (aCons (eC (.int 6)) aNil))))
 (sSeq (sIf (bOr (bOf (eOp2 kEq (eVar 1) (eC (.int 0)))) (bOf (eOp2 kEq (eVar 5) (eC (.int 0)))))
 (sSeq (sSet 6 (eVar 4))
 (sSeq (sIf (bOf (eOp2 kEq (eCall f_u_law_take (aCons (eVar 0) (aCons (eC (.int 9)) aNil))) (eC (.int 0))))
 (sSet 6 (eCall f_u_law_take (aCons (eVar 0) (aCons (eC (.int 4)) aNil))))
 sNx)
 (sRet (eOpN kTup (aCons (eC (.str (Str.ofString "say"))) (aCons (eCall f_u_law_parts (aCons (eVar 0) (aCons (eVar 6) aNil))) aNil))))))
 sNx)
 (sSeq (sIf (bOr (bOf (eOp2 kLt (eVar 5) (eC (.int 3)))) (bAnd (bOf (eOp2 kEq (eVar 5) (eC (.int 5)))) (bOf (eOp2 kEq (eVar 2) (eC (.int 0))))))
 (sSeq (sSet 7 (eCall rec (aCons (eVar 0) (aCons (eOp2 kSub (eVar 1) (eC (.int 1))) (aCons (eVar 2) (aCons (eVar 3) (aCons (eVar 4) aNil)))))))
 (sRet (eOpN kTup (aCons (eC (.str (Str.ofString "look"))) (aCons (eCall f_u_law_take (aCons (eVar 0) (aCons (eC (.int 9)) aNil))) (aCons (eVar 7) (aCons (eCall rec (aCons (eVar 0) (aCons (eOp2 kSub (eVar 1) (eC (.int 1))) (aCons (eVar 2) (aCons (eVar 3) (aCons (eVar 4) aNil)))))) aNil)))))))
 sNx)
 (sSeq (sIf (bOf (eOp2 kEq (eVar 5) (eC (.int 3))))
 (sSeq (sSet 8 (eOp2 kAdd (eC (.int 1)) (eCall f_u_law_take (aCons (eVar 0) (aCons (eC (.int 3)) aNil)))))
 (sRet (eOpN kTup (aCons (eC (.str (Str.ofString "toss"))) (aCons (eOpN kTuple (aCons (eComp (aOn rng1 (aCons (eVar 8) aNil)) (.n 9) bYes (eCall rec (aCons (eVar 0) (aCons (eOp2 kSub (eVar 1) (eC (.int 1))) (aCons (eVar 2) (aCons (eVar 3) (aCons (eVar 4) aNil)))))) [9]) aNil)) aNil)))))
 sNx)
 (sSeq (sIf (bOf (eOp2 kEq (eVar 2) (eC (.int 0))))
 (sRet (eOpN kTup (aCons (eC (.str (Str.ofString "say"))) (aCons (eCall f_u_law_parts (aCons (eVar 0) (aCons (eVar 4) aNil))) aNil))))
 sNx)
 (sSeq (sSet 6 (eVar 3))
 (sSeq (sIf (bOf (eOp2 kEq (eCall f_u_law_take (aCons (eVar 0) (aCons (eC (.int 9)) aNil))) (eC (.int 0))))
 (sSet 6 (eCall f_u_law_take (aCons (eVar 0) (aCons (eC (.int 4)) aNil))))
 sNx)
 (sRet (eOpN kTup (aCons (eC (.str (Str.ofString "ask"))) (aCons (eCall f_u_law_parts (aCons (eVar 0) (aCons (eVar 6) aNil))) (aCons (eCall rec (aCons (eVar 0) (aCons (eOp2 kSub (eVar 1) (eC (.int 1))) (aCons (eOp2 kSub (eVar 2) (eC (.int 1))) (aCons (eVar 3) (aCons (eVar 4) aNil)))))) aNil))))))))))))
noncomputable def f_u_law_breaker : Nat → Fn
  | 0 => fnOf 5 10 fun _ => .bad
  | d + 1 => fnOf 5 10 (b_u_law_breaker (f_u_law_breaker d))
noncomputable def b_u_law_draws : Cv :=
 (sSeq (sSetO 2 (eComp (aSeq (eVar 0)) (.n 5) bYes (eOpN kAbs (aCons (eOpN kInt (aCons (eVar 5) aNil)) aNil)) [5]))
 (sSeq (sSetO 3 (eOpN kLst aNil))
 (sSeq (sFor (aOn rng1 (aCons (eVar 1) aNil)) (.n 4)
 (sSeq (sSet 5 (eVar 4))
 (sSeq (sIf (bOf (eOp2 kGt (eLen 0) (eC (.int 0))))
 (sSeq (sSet 6 (eOp2 kMod (eVar 4) (eLen 0)))
 (sSeq (sSet 5 (eOpN kInt (aCons (eIx 0 (eVar 6)) aNil)))
 (sIf (bAnd (bOf (eOp2 kGe (eVar 5) (eOp2 kPow (eC (.int 10)) (eC (.int 18))))) (bOf (eOp2 kGt (eIx 2 (eVar 6)) (eC (.int 0)))))
 (sSeq (sExpr (eApp 3 (eOp2 kMod (eOpN kInt (aCons (eIx 2 (eVar 6)) aNil)) (eC (.int 1000003)))))
 (sSeq (sSetIx 2 (eVar 6) (eOp2 kFdiv (eOpN kInt (aCons (eIx 2 (eVar 6)) aNil)) (eC (.int 1000003))))
 sCt))
 sNx)))
 sNx)
 (sSeq (sSet 7 (eOp2 kMod (eOpN kInt (aCons (eOp2 kAdd (eOp2 kAdd (eOp2 kMul (eVar 5) (eC (.int 48271))) (eOp2 kMul (eVar 4) (eC (.int 69621)))) (eC (.int 11))) aNil)) (eC (.int 2147483647))))
 (sSeq (sSet 7 (eOp2 kMod (eOpN kInt (aCons (eOp2 kAdd (eOp2 kFdiv (eOp2 kMul (eVar 7) (eVar 7)) (eC (.int 4096))) (eVar 7)) aNil)) (eC (.int 2147483629))))
 (sExpr (eApp 3 (eOp2 kMod (eOpN kInt (aCons (eOp2 kAdd (eOp2 kFdiv (eOp2 kMul (eVar 7) (eVar 7)) (eC (.int 4096))) (eOp2 kMul (eVar 4) (eC (.int 7919)))) aNil)) (eC (.int 2147483629))))))))))
 (sRet (eVar 3)))))
noncomputable def f_u_law_draws : Fn := fnOf 2 8 b_u_law_draws
noncomputable def b_is_bits : Cv :=
 (sRet (eAnd (eOpN kIsi (aCons (eVar 0) (aCons (eC (.ty "str")) aNil))) (eAnd (eOp2 kEq (eLen 0) (eVar 1)) (eOpN kAll (aCons (eComp (aSeq (eVar 0)) (.n 2) bYes (eOp2 kIn (eVar 2) (eC (.str (Str.ofString "01")))) [2]) aNil)))))
noncomputable def f_is_bits : Fn := fnOf 2 3 b_is_bits
noncomputable def b_is_number : Cv :=
 (sRet (eAnd (eOpN kIsi (aCons (eVar 0) (aCons (eC (.ty "int")) aNil))) (eAnd (eOp1 kNot (eOpN kIsi (aCons (eVar 0) (aCons (eC (.ty "bool")) aNil)))) (eChain kLe kLe (eVar 1) (eVar 0) (eVar 2)))))
noncomputable def f_is_number : Fn := fnOf 3 3 b_is_number
noncomputable def b_are_parts : Cv :=
 (sSeq (sIf (bNot (bOf (eOpN kIsi (aCons (eVar 0) (aCons (eC (.ty "tuple")) aNil)))))
 (sRet (eC (.bl false)))
 sNx)
 (sSeq (sFor (aSeq (eVar 0)) (.n 1)
 (sIf (bAnd (bNot (bOf (eCall f_is_bits (aCons (eVar 1) (aCons (eC (.int 1)) aNil))))) (bNot (bOf (eCall f_is_number (aCons (eVar 1) (aCons (eC (.int 0)) (aCons (eC (.int 9999)) aNil)))))))
 (sRet (eC (.bl false)))
 sNx))
 (sRet (eC (.bl true)))))
noncomputable def f_are_parts : Fn := fnOf 1 2 b_are_parts
noncomputable def b_inner_plain : Cv :=
 (sSeq (sIf (bAnd (bOf (eOpN kIsi (aCons (eVar 0) (aCons (eC (.ty "tuple")) aNil)))) (bAnd (bOf (eOp2 kGt (eLen 0) (eC (.int 0)))) (bOf (eOpN kIsi (aCons (eIx 0 (eC (.int 0))) (aCons (eC (.ty "str")) aNil))))))
 (sSeq (sPar 1 2 (aCons (eIx 0 (eC (.int 0))) (aCons (eSl kSl (eVar 0) (oOf (eC (.int 1))) oNo) aNil)))
 (sSeq (sIf (bAnd (bOf (eOp2 kEq (eVar 1) (eC (.str (Str.ofString "say"))))) (bAnd (bOf (eOp2 kEq (eLen 2) (eC (.int 1)))) (bOf (eCall f_are_parts (aCons (eIx 2 (eC (.int 0))) aNil)))))
 (sRet (eOpN kTup aNil))
 sNx)
 (sSeq (sIf (bAnd (bOf (eOp2 kEq (eVar 1) (eC (.str (Str.ofString "toss"))))) (bAnd (bOf (eOp2 kEq (eLen 2) (eC (.int 1)))) (bAnd (bOf (eOpN kIsi (aCons (eIx 2 (eC (.int 0))) (aCons (eC (.ty "tuple")) aNil)))) (bOf (eChain kLe kLe (eC (.int 1)) (eOpN kLen (aCons (eIx 2 (eC (.int 0))) aNil)) (eC (.int 64)))))))
 (sRet (eIx 2 (eC (.int 0))))
 sNx)
 (sSeq (sIf (bAnd (bOf (eOp2 kEq (eVar 1) (eC (.str (Str.ofString "look"))))) (bAnd (bOf (eOp2 kEq (eLen 2) (eC (.int 3)))) (bOf (eCall f_is_number (aCons (eIx 2 (eC (.int 0))) (aCons (eC (.int 0)) (aCons (eC (.int 9999)) aNil)))))))
 (sRet (eSl kSl (eVar 2) (oOf (eC (.int 1))) oNo))
 sNx)
 (sIf (bAnd (bOf (eOp2 kEq (eVar 1) (eC (.str (Str.ofString "ask"))))) (bAnd (bOf (eOp2 kEq (eLen 2) (eC (.int 2)))) (bOf (eCall f_are_parts (aCons (eIx 2 (eC (.int 0))) aNil)))))
 (sRet (eSl kSl (eVar 2) (oOf (eC (.int 1))) oNo))
 sNx)))))
 sNx)
 (sRaise "BadBreaker"))
noncomputable def f_inner_plain : Fn := fnOf 1 3 b_inner_plain
noncomputable def b_check_plain : Cv :=
 (sSeq (sSetO 1 (eOpN kLst (aCons (eOpN kTup (aCons (eVar 0) (aCons (eC (.int 1)) aNil))) aNil)))
 (sSeq (sSet 2 (eC (.int 0)))
 (sWhile (bOf (eOp2 kGt (eLen 1) (eC (.int 0))))
 (sSeq (sUnp (.t [(.n 3), (.n 4)]) (ePop 1))
 (sSeq (sSet 5 (eCall f_inner_plain (aCons (eVar 3) aNil)))
 (sSeq (sAug 2 kAddI (eLen 5))
 (sSeq (sIf (bOr (bOf (eOp2 kGt (eVar 4) (eC (.int 60)))) (bOf (eOp2 kGt (eVar 2) (eC (.int 2000)))))
 (sRaise "BadBreaker")
 sNx)
 (sExpr (eExt 1 (eComp (aSeq (eVar 5)) (.n 6) bYes (eOpN kTup (aCons (eVar 6) (aCons (eOp2 kAdd (eVar 4) (eC (.int 1))) aNil))) [6]))))))))))
noncomputable def f_check_plain : Fn := fnOf 1 7 b_check_plain
noncomputable def b_has_plain_word : Cv :=
 (sRet (eAnd (eOpN kIsi (aCons (eVar 0) (aCons (eC (.ty "tuple")) aNil))) (eAnd (eOp2 kGt (eLen 0) (eC (.int 0))) (eAnd (eOpN kIsi (aCons (eIx 0 (eC (.int 0))) (aCons (eC (.ty "str")) aNil))) (eOp2 kIn (eIx 0 (eC (.int 0))) (eC (.tup [.str (Str.ofString "say"), .str (Str.ofString "toss"), .str (Str.ofString "look"), .str (Str.ofString "ask")])))))))
noncomputable def f_has_plain_word : Fn := fnOf 1 1 b_has_plain_word
noncomputable def b_is_row : Cv :=
 (sRet (eAnd (eOpN kIsi (aCons (eVar 0) (aCons (eC (.ty "tuple")) aNil))) (eAnd (eOp2 kEq (eLen 0) (eVar 1)) (eOpN kAll (aCons (eComp (aSeq (eVar 0)) (.n 3) bYes (eCall f_is_bits (aCons (eVar 3) (aCons (eVar 2) aNil))) [3]) aNil)))))
noncomputable def f_is_row : Fn := fnOf 3 4 b_is_row
noncomputable def b_is_generator : Cv :=
 (sSeq (sIf (bOr (bNot (bOf (eOpN kIsi (aCons (eVar 0) (aCons (eC (.ty "tuple")) aNil))))) (bOr (bOf (eOp2 kNe (eLen 0) (eC (.int 4)))) (bOf (eOp2 kNe (eIx 0 (eC (.int 0))) (eC (.str (Str.ofString "generator")))))))
 (sRet (eC (.bl false)))
 sNx)
 (sSeq (sIf (bOr (bNot (bOf (eCall f_is_number (aCons (eIx 0 (eC (.int 1))) (aCons (eC (.int 1)) (aCons (eC (.int 10)) aNil)))))) (bNot (bOf (eCall f_is_number (aCons (eIx 0 (eC (.int 2))) (aCons (eC (.int 1)) (aCons (eC (.int 40)) aNil)))))))
 (sRet (eC (.bl false)))
 sNx)
 (sRet (eCall f_is_row (aCons (eIx 0 (eC (.int 3))) (aCons (eOp2 kShl (eC (.int 1)) (eIx 0 (eC (.int 1)))) (aCons (eIx 0 (eC (.int 2))) aNil)))))))
noncomputable def f_is_generator : Fn := fnOf 1 1 b_is_generator
noncomputable def b_fits_longer : Cv :=
 (sRet (eAnd (eCall f_is_generator (aCons (eVar 0) aNil)) (eAnd (eOp2 kEq (eIx 0 (eC (.int 2))) (eOp2 kAdd (eIx 0 (eC (.int 1))) (eC (.int 1)))) (eCall f_is_number (aCons (eVar 1) (aCons (eC (.int 1)) (aCons (eC (.int 20)) aNil)))))))
noncomputable def f_fits_longer : Fn := fnOf 2 2 b_fits_longer
noncomputable def b_fits_tree : Cv :=
 (sSeq (sIf (bOr (bNot (bOf (eCall f_is_generator (aCons (eVar 0) aNil)))) (bOr (bOf (eOp2 kNe (eIx 0 (eC (.int 2))) (eOp2 kMul (eC (.int 2)) (eIx 0 (eC (.int 1)))))) (bOf (eOp2 kGt (eIx 0 (eC (.int 1))) (eC (.int 8))))))
 (sRet (eC (.bl false)))
 sNx)
 (sRet (eAnd (eCall f_is_number (aCons (eVar 1) (aCons (eC (.int 1)) (aCons (eC (.int 8)) aNil)))) (eAnd (eOp2 kLe (eOp2 kAdd (eIx 0 (eC (.int 1))) (eVar 1)) (eC (.int 12))) (eCall f_is_number (aCons (eVar 2) (aCons (eC (.int 1)) (aCons (eC (.int 1000)) aNil))))))))
noncomputable def f_fits_tree : Fn := fnOf 3 3 b_fits_tree
noncomputable def b_is_length : Cv :=
 (sRet (eCall f_is_number (aCons (eVar 0) (aCons (eC (.int 1)) (aCons (eC (.int 40)) aNil)))))
noncomputable def f_is_length : Fn := fnOf 1 1 b_is_length
noncomputable def b_fits_word : Cv :=
 (sSeq (sIf (bAnd (bOf (eOp2 kEq (eVar 0) (eC (.str (Str.ofString "longer"))))) (bOf (eOp2 kEq (eLen 1) (eC (.int 2)))))
 (sRet (eCall f_fits_longer (aCons (eIx 1 (eC (.int 0))) (aCons (eIx 1 (eC (.int 1))) aNil))))
 sNx)
 (sSeq (sIf (bAnd (bOf (eOp2 kEq (eVar 0) (eC (.str (Str.ofString "tree"))))) (bOf (eOp2 kEq (eLen 1) (eC (.int 3)))))
 (sRet (eCall f_fits_tree (aCons (eIx 1 (eC (.int 0))) (aCons (eIx 1 (eC (.int 1))) (aCons (eIx 1 (eC (.int 2))) aNil)))))
 sNx)
 (sSeq (sIf (bAnd (bOf (eOp2 kIn (eVar 0) (eOpN kTup (aCons (eC (.str (Str.ofString "marks"))) (aCons (eC (.str (Str.ofString "secrets"))) aNil))))) (bOf (eOp2 kEq (eLen 1) (eC (.int 2)))))
 (sRet (eAnd (eCall f_is_length (aCons (eIx 1 (eC (.int 0))) aNil)) (eCall f_is_length (aCons (eIx 1 (eC (.int 1))) aNil))))
 sNx)
 (sSeq (sIf (bAnd (bOf (eOp2 kIn (eVar 0) (eOpN kTup (aCons (eC (.str (Str.ofString "once"))) (aCons (eC (.str (Str.ofString "next"))) (aCons (eC (.str (Str.ofString "guess"))) (aCons (eC (.str (Str.ofString "cut"))) aNil))))))) (bOf (eOp2 kEq (eLen 1) (eC (.int 1)))))
 (sRet (eCall f_is_length (aCons (eIx 1 (eC (.int 0))) aNil)))
 sNx)
 (sSeq (sIf (bAnd (bOf (eOp2 kEq (eVar 0) (eC (.str (Str.ofString "counter"))))) (bOf (eOp2 kEq (eLen 1) (eC (.int 3)))))
 (sRet (eAnd (eCall f_is_length (aCons (eIx 1 (eC (.int 0))) aNil)) (eAnd (eCall f_is_number (aCons (eIx 1 (eC (.int 1))) (aCons (eC (.int 1)) (aCons (eC (.int 256)) aNil)))) (eCall f_is_length (aCons (eIx 1 (eC (.int 2))) aNil)))))
 sNx)
 (sSeq (sIf (bOf (eOp2 kEq (eVar 0) (eC (.str (Str.ofString "bit")))))
 (sRet (eOp2 kEq (eLen 1) (eC (.int 0))))
 sNx)
 (sSeq (sIf (bAnd (bOf (eOp2 kEq (eVar 0) (eC (.str (Str.ofString "opening"))))) (bOf (eOp2 kEq (eLen 1) (eC (.int 1)))))
 (sRet (eAnd (eOpN kIsi (aCons (eIx 1 (eC (.int 0))) (aCons (eC (.ty "str")) aNil))) (eAnd (eCall f_is_length (aCons (eOpN kLen (aCons (eIx 1 (eC (.int 0))) aNil)) aNil)) (eCall f_is_bits (aCons (eIx 1 (eC (.int 0))) (aCons (eOpN kLen (aCons (eIx 1 (eC (.int 0))) aNil)) aNil))))))
 sNx)
 (sSeq (sIf (bAnd (bOf (eOp2 kEq (eVar 0) (eC (.str (Str.ofString "onetime"))))) (bOf (eOp2 kEq (eLen 1) (eC (.int 2)))))
 (sRet (eAnd (eCall f_is_generator (aCons (eIx 1 (eC (.int 0))) aNil)) (eCall f_is_number (aCons (eIx 1 (eC (.int 1))) (aCons (eC (.int 1)) (aCons (eC (.int 4)) aNil))))))
 sNx)
 (sRet (eAnd (eOp2 kEq (eVar 0) (eC (.str (Str.ofString "hard")))) (eAnd (eOp2 kEq (eLen 1) (eC (.int 1))) (eCall f_is_number (aCons (eIx 1 (eC (.int 0))) (aCons (eC (.int 1)) (aCons (eC (.int 10)) aNil)))))))))))))))
noncomputable def f_fits_word : Fn := fnOf 2 2 b_fits_word
noncomputable def b_check_breaker : Cv :=
 (sSeq (sSet 1 (eC (.int 0)))
 (sSeq (sSet 2 (eC .non))
 (sSeq (sWhile (bNot (bOf (eCall f_has_plain_word (aCons (eVar 0) aNil))))
 (sSeq (sIf (bOr (bNot (bOf (eOpN kIsi (aCons (eVar 0) (aCons (eC (.ty "tuple")) aNil))))) (bOr (bOf (eOp2 kLt (eLen 0) (eC (.int 2)))) (bNot (bOf (eOpN kIsi (aCons (eIx 0 (eC (.int 0))) (aCons (eC (.ty "str")) aNil)))))))
 (sRaise "BadBreaker")
 sNx)
 (sSeq (sIf (bOr (bOf (eOp2 kEq (eVar 2) (eC (.str (Str.ofString "onetime"))))) (bNot (bOf (eCall f_fits_word (aCons (eIx 0 (eC (.int 0))) (aCons (eSl kSl (eVar 0) (oOf (eC (.int 1))) (oOf (eOp1 kNeg (eC (.int 1))))) aNil))))))
 (sRaise "BadBreaker")
 sNx)
 (sSeq (sAug 1 kAddI (eC (.int 1)))
 (sSeq (sIf (bOf (eOp2 kGt (eVar 1) (eC (.int 20))))
 (sRaise "BadBreaker")
 sNx)
 (sPar 2 0 (aCons (eIx 0 (eC (.int 0))) (aCons (eIx 0 (eOp1 kNeg (eC (.int 1)))) aNil))))))))
 (sExpr (eCall f_check_plain (aCons (eVar 0) aNil))))))
noncomputable def f_check_breaker : Fn := fnOf 1 3 b_check_breaker
noncomputable def b_most_plain_asks : Cv :=
 (sSeq (sSet 1 (eC (.int 0)))
 (sSeq (sSetO 2 (eOpN kLst (aCons (eOpN kTup (aCons (eVar 0) (aCons (eC (.int 0)) aNil))) aNil)))
 (sSeq (sWhile (bOf (eOp2 kGt (eLen 2) (eC (.int 0))))
 (sSeq (sUnp (.t [(.n 3), (.n 4)]) (ePop 2))
 (sSeq (sSet 1 (eOpN kMax2 (aCons (eVar 1) (aCons (eOp2 kAdd (eVar 4) (eOpN kInt (aCons (eOp2 kEq (eIx 3 (eC (.int 0))) (eC (.str (Str.ofString "ask")))) aNil))) aNil))))
 (sExpr (eExt 2 (eComp (aSeq (eCall f_inner_plain (aCons (eVar 3) aNil))) (.n 5) bYes (eOpN kTup (aCons (eVar 5) (aCons (eOp2 kAdd (eVar 4) (eOpN kInt (aCons (eOp2 kEq (eIx 3 (eC (.int 0))) (eC (.str (Str.ofString "ask")))) aNil))) aNil))) [5]))))))
 (sRet (eVar 1)))))
noncomputable def f_most_plain_asks : Fn := fnOf 1 6 b_most_plain_asks
noncomputable def b_most_asks : Cv :=
 (sSeq (sExpr (eCall f_check_breaker (aCons (eVar 0) aNil)))
 (sSeq (sSet 1 (eC (.int 0)))
 (sSeq (sWhile (bNot (bOf (eCall f_has_plain_word (aCons (eVar 0) aNil))))
 (sSeq (sIf (bOf (eOp2 kEq (eIx 0 (eC (.int 0))) (eC (.str (Str.ofString "counter")))))
 (sRet (eOp2 kAdd (eVar 1) (eIx 0 (eC (.int 2)))))
 sNx)
 (sSeq (sIf (bOf (eOp2 kNotIn (eIx 0 (eC (.int 0))) (eOpN kTup (aCons (eC (.str (Str.ofString "marks"))) (aCons (eC (.str (Str.ofString "secrets"))) aNil)))))
 (sRet (eVar 1))
 sNx)
 (sSeq (sAug 1 kAddI (eOpN kInt (aCons (eOp2 kEq (eIx 0 (eC (.int 0))) (eC (.str (Str.ofString "marks")))) aNil)))
 (sSet 0 (eIx 0 (eOp1 kNeg (eC (.int 1)))))))))
 (sRet (eOp2 kAdd (eVar 1) (eCall f_most_plain_asks (aCons (eVar 0) aNil)))))))
noncomputable def f_most_asks : Fn := fnOf 1 2 b_most_asks
noncomputable def b_u_law_most (rec : Fn) : Cv :=
 (sSeq (sSet 1 (eIx 0 (eC (.int 0))))
 (sSeq (sIf (bOf (eOp2 kEq (eVar 1) (eC (.str (Str.ofString "say")))))
 (sRet (eC (.int 0)))
 sNx)
 (sSeq (sIf (bOf (eOp2 kEq (eVar 1) (eC (.str (Str.ofString "ask")))))
 (sRet (eOp2 kAdd (eC (.int 1)) (eCall rec (aCons (eIx 0 (eC (.int 2))) aNil))))
 sNx)
 (sSeq (sIf (bOf (eOp2 kEq (eVar 1) (eC (.str (Str.ofString "look")))))
 (sRet (eOpN kMax2 (aCons (eOpN kInt (aCons (eCall rec (aCons (eIx 0 (eC (.int 2))) aNil)) aNil)) (aCons (eOpN kInt (aCons (eCall rec (aCons (eIx 0 (eC (.int 3))) aNil)) aNil)) aNil))))
 sNx)
 (sSeq (sIf (bOf (eOp2 kEq (eVar 1) (eC (.str (Str.ofString "toss")))))
 (sRet (eOpN kMaxL (aCons (eComp (aSeq (eIx 0 (eC (.int 1)))) (.n 2) bYes (eOpN kInt (aCons (eCall rec (aCons (eVar 2) aNil)) aNil)) [2]) aNil)))
 sNx)
 (sSeq (sIf (bOf (eOp2 kEq (eVar 1) (eC (.str (Str.ofString "marks")))))
 (sRet (eOp2 kAdd (eC (.int 1)) (eCall rec (aCons (eIx 0 (eC (.int 3))) aNil))))
 sNx)
 (sSeq (sIf (bOf (eOp2 kEq (eVar 1) (eC (.str (Str.ofString "secrets")))))
 (sRet (eCall rec (aCons (eIx 0 (eC (.int 3))) aNil)))
 sNx)
 (sSeq (sIf (bOf (eOp2 kEq (eVar 1) (eC (.str (Str.ofString "counter")))))
 (sRet (eIx 0 (eC (.int 2))))
 sNx)
 (sRet (eC (.int 0)))))))))))
noncomputable def f_u_law_most : Nat → Fn
  | 0 => fnOf 1 3 fun _ => .bad
  | d + 1 => fnOf 1 3 (b_u_law_most (f_u_law_most d))
noncomputable def b_u_law_is_right : Cv :=
 (sSeq (sSet 1 (eCall f_most_asks (aCons (eVar 0) aNil)))
 (sRet (eAnd (eOpN kIsi (aCons (eVar 1) (aCons (eC (.ty "int")) aNil))) (eAnd (eOp1 kNot (eOpN kIsi (aCons (eVar 1) (aCons (eC (.ty "bool")) aNil)))) (eOp2 kEq (eVar 1) (eCall (f_u_law_most 62) (aCons (eVar 0) aNil)))))))
noncomputable def f_u_law_is_right : Fn := fnOf 1 2 b_u_law_is_right
noncomputable def b_u_law_string : Cv :=
 (sRet (eMtS mJoin (eC (.str (Str.ofString ""))) (aCons (eComp (aOn rng1 (aCons (eVar 1) aNil)) (.n 2) bYes (eOp2 kIx (eOpN kLst (aCons (eC (.str (Str.ofString "0"))) (aCons (eC (.str (Str.ofString "1"))) aNil))) (eCall f_u_law_take (aCons (eVar 0) (aCons (eC (.int 2)) aNil)))) [2]) aNil)))
noncomputable def f_u_law_string : Fn := fnOf 2 3 b_u_law_string
noncomputable def b_u_law_table : Cv :=
 (sSeq (sSet 3 (eComp (aOn rng1 (aCons (eOp2 kShl (eC (.int 1)) (eVar 1)) aNil)) (.n 4) bYes (eCall f_u_law_string (aCons (eVar 0) (aCons (eVar 2) aNil))) [4]))
 (sRet (eOpN kTup (aCons (eC (.str (Str.ofString "generator"))) (aCons (eVar 1) (aCons (eVar 2) (aCons (eOpN kTuple (aCons (eVar 3) aNil)) aNil)))))))
noncomputable def f_u_law_table : Fn := fnOf 3 5 b_u_law_table
noncomputable def b_u_law_made_12 : Cv :=
 (sRet (eOpN kTup (aCons (eC (.str (Str.ofString "bit"))) (aCons (eVar 1) aNil))))
noncomputable def b_u_law_made_11 : Cv :=
 (sSeq (sIf (bOf (eOp2 kEq (eVar 2) (eC (.int 11))))
 (sRet (eOpN kTup (aCons (eC (.str (Str.ofString "hard"))) (aCons (eOp2 kIx (eOpN kLst (aCons (eC (.int 1)) (aCons (eC (.int 10)) (aCons (eOp2 kAdd (eC (.int 1)) (eCall f_u_law_take (aCons (eVar 0) (aCons (eC (.int 10)) aNil)))) aNil)))) (eCall f_u_law_take (aCons (eVar 0) (aCons (eC (.int 3)) aNil)))) (aCons (eVar 1) aNil)))))
 sNx)
 b_u_law_made_12)
noncomputable def b_u_law_made_10 : Cv :=
 (sSeq (sIf (bAnd (bOf (eOp2 kEq (eVar 2) (eC (.int 10)))) (bOf (eOp2 kIn (eIx 1 (eC (.int 0))) (eOpN kLst (aCons (eC (.str (Str.ofString "say"))) (aCons (eC (.str (Str.ofString "toss"))) (aCons (eC (.str (Str.ofString "look"))) (aCons (eC (.str (Str.ofString "ask"))) aNil))))))))
 (sRet (eOpN kTup (aCons (eC (.str (Str.ofString "onetime"))) (aCons (eCall f_u_law_table (aCons (eVar 0) (aCons (eVar 3) (aCons (eOp2 kAdd (eC (.int 1)) (eCall f_u_law_take (aCons (eVar 0) (aCons (eC (.int 4)) aNil)))) aNil)))) (aCons (eOp2 kAdd (eC (.int 1)) (eCall f_u_law_take (aCons (eVar 0) (aCons (eC (.int 4)) aNil)))) (aCons (eVar 1) aNil))))))
 sNx)
 b_u_law_made_11)
noncomputable def b_u_law_made_9 : Cv :=
 (sSeq (sIf (bOf (eOp2 kEq (eVar 2) (eC (.int 9))))
 (sRet (eOpN kTup (aCons (eC (.str (Str.ofString "cut"))) (aCons (eVar 4) (aCons (eVar 1) aNil)))))
 sNx)
 b_u_law_made_10)
noncomputable def b_u_law_made_8 : Cv :=
 (sSeq (sIf (bOf (eOp2 kEq (eVar 2) (eC (.int 8))))
 (sRet (eOpN kTup (aCons (eC (.str (Str.ofString "counter"))) (aCons (eVar 4) (aCons (eOp2 kIx (eOpN kLst (aCons (eC (.int 1)) (aCons (eC (.int 256)) (aCons (eOp2 kAdd (eC (.int 1)) (eCall f_u_law_take (aCons (eVar 0) (aCons (eC (.int 256)) aNil)))) aNil)))) (eCall f_u_law_take (aCons (eVar 0) (aCons (eC (.int 3)) aNil)))) (aCons (eOp2 kAdd (eC (.int 1)) (eCall f_u_law_take (aCons (eVar 0) (aCons (eC (.int 40)) aNil)))) (aCons (eVar 1) aNil)))))))
 sNx)
 b_u_law_made_9)
noncomputable def b_u_law_made_7 : Cv :=
 (sSeq (sIf (bOf (eOp2 kEq (eVar 2) (eC (.int 7))))
 (sRet (eOpN kTup (aCons (eC (.str (Str.ofString "opening"))) (aCons (eCall f_u_law_string (aCons (eVar 0) (aCons (eVar 4) aNil))) (aCons (eVar 1) aNil)))))
 sNx)
 b_u_law_made_8)
noncomputable def b_u_law_made_6 : Cv :=
 (sSeq (sIf (bOf (eOp2 kLt (eVar 2) (eC (.int 7))))
 (sRet (eOpN kTup (aCons (eOp2 kIx (eOpN kLst (aCons (eC (.str (Str.ofString "once"))) (aCons (eC (.str (Str.ofString "next"))) (aCons (eC (.str (Str.ofString "guess"))) aNil)))) (eOp2 kSub (eVar 2) (eC (.int 4)))) (aCons (eVar 4) (aCons (eVar 1) aNil)))))
 sNx)
 b_u_law_made_7)
noncomputable def b_u_law_made_5 : Cv :=
 (sSeq (sIf (bOf (eOp2 kLt (eVar 2) (eC (.int 4))))
 (sRet (eOpN kTup (aCons (eOp2 kIx (eOpN kLst (aCons (eC (.str (Str.ofString "marks"))) (aCons (eC (.str (Str.ofString "secrets"))) aNil))) (eOp2 kSub (eVar 2) (eC (.int 2)))) (aCons (eVar 4) (aCons (eOp2 kAdd (eC (.int 1)) (eCall f_u_law_take (aCons (eVar 0) (aCons (eC (.int 40)) aNil)))) (aCons (eVar 1) aNil))))))
 sNx)
 b_u_law_made_6)
noncomputable def b_u_law_made_4 : Cv :=
 (sSeq (sIf (bOf (eOp2 kEq (eVar 2) (eC (.int 1))))
 (sRet (eOpN kTup (aCons (eC (.str (Str.ofString "tree"))) (aCons (eCall f_u_law_table (aCons (eVar 0) (aCons (eVar 3) (aCons (eOp2 kMul (eC (.int 2)) (eVar 3)) aNil)))) (aCons (eOp2 kAdd (eC (.int 1)) (eCall f_u_law_take (aCons (eVar 0) (aCons (eC (.int 8)) aNil)))) (aCons (eOp2 kIx (eOpN kLst (aCons (eC (.int 1)) (aCons (eC (.int 1000)) (aCons (eVar 4) aNil)))) (eCall f_u_law_take (aCons (eVar 0) (aCons (eC (.int 3)) aNil)))) (aCons (eVar 1) aNil)))))))
 sNx)
 b_u_law_made_5)
noncomputable def b_u_law_made_3 : Cv :=
 (sSeq (sIf (bOf (eOp2 kEq (eVar 2) (eC (.int 0))))
 (sRet (eOpN kTup (aCons (eC (.str (Str.ofString "longer"))) (aCons (eCall f_u_law_table (aCons (eVar 0) (aCons (eVar 3) (aCons (eOp2 kAdd (eVar 3) (eC (.int 1))) aNil)))) (aCons (eOp2 kAdd (eC (.int 1)) (eCall f_u_law_take (aCons (eVar 0) (aCons (eC (.int 20)) aNil)))) (aCons (eVar 1) aNil))))))
 sNx)
 b_u_law_made_4)
noncomputable def b_u_law_made_2 : Cv :=
 (sSeq (sSet 4 (eOp2 kIx (eOpN kLst (aCons (eC (.int 1)) (aCons (eC (.int 40)) (aCons (eOp2 kAdd (eC (.int 1)) (eCall f_u_law_take (aCons (eVar 0) (aCons (eC (.int 40)) aNil)))) aNil)))) (eCall f_u_law_take (aCons (eVar 0) (aCons (eC (.int 3)) aNil)))))
 b_u_law_made_3)
noncomputable def b_u_law_made_1 : Cv :=
 (sSeq (sSet 3 (eOp2 kAdd (eC (.int 1)) (eCall f_u_law_take (aCons (eVar 0) (aCons (eC (.int 2)) aNil)))))
 b_u_law_made_2)
noncomputable def b_u_law_made : Cv :=
 (sSeq (sSet 2 (eCall f_u_law_take (aCons (eVar 0) (aCons (eC (.int 13)) aNil))))
 b_u_law_made_1)
noncomputable def f_u_law_made : Fn := fnOf 2 5 b_u_law_made
noncomputable def b_law : Cv :=
 (sSeq (sSetN 1 (eOpN kLst (aCons (eCall f_u_law_draws (aCons (eVar 0) (aCons (eC (.int 400)) aNil))) (aCons (eC (.int 0)) aNil))))
 (sSeq (sSet 2 (eCall (f_u_law_breaker 8) (aCons (eVar 1) (aCons (eOp2 kAdd (eC (.int 2)) (eCall f_u_law_take (aCons (eVar 1) (aCons (eC (.int 4)) aNil)))) (aCons (eC (.int 4)) (aCons (eOp2 kAdd (eC (.int 1)) (eCall f_u_law_take (aCons (eVar 1) (aCons (eC (.int 3)) aNil)))) (aCons (eC (.int 1)) aNil)))))))
 (sSeq (sSet 3 (eVar 2))
 (sSeq (sIf (bNot (bOf (eCall f_u_law_is_right (aCons (eVar 2) aNil))))
 (sRet (eC (.bl false)))
 sNx)
 (sSeq (sFor (aOn rng1 (aCons (eC (.int 4)) aNil)) (.n 4)
 (sSeq (sSet 3 (eCall f_u_law_made (aCons (eVar 1) (aCons (eVar 3) aNil))))
 (sIf (bOr (bNot (bOf (eCall f_u_law_is_right (aCons (eVar 3) aNil)))) (bNot (bOf (eCall f_u_law_is_right (aCons (eOpN kTup (aCons (eC (.str (Str.ofString "marks"))) (aCons (eC (.int 1)) (aCons (eC (.int 1)) (aCons (eOpN kTup (aCons (eC (.str (Str.ofString "secrets"))) (aCons (eC (.int 2)) (aCons (eC (.int 3)) (aCons (eVar 3) aNil))))) aNil))))) aNil)))))
 (sRet (eC (.bl false)))
 sNx)))
 (sSeq (sSet 5 (eVar 2))
 (sSeq (sFor (aOn rng1 (aCons (eCall f_u_law_take (aCons (eVar 1) (aCons (eC (.int 27)) aNil))) aNil)) (.n 4)
 (sSet 5 (eOp2 kIx (eOpN kLst (aCons (eOpN kTup (aCons (eC (.str (Str.ofString "ask"))) (aCons (eOpN kTup (aCons (eC (.int 0)) aNil)) (aCons (eVar 5) aNil)))) (aCons (eOpN kTup (aCons (eC (.str (Str.ofString "look"))) (aCons (eC (.int 3)) (aCons (eOpN kTup (aCons (eC (.str (Str.ofString "ask"))) (aCons (eOpN kTup aNil) (aCons (eOpN kTup (aCons (eC (.str (Str.ofString "say"))) (aCons (eOpN kTup aNil) aNil))) aNil)))) (aCons (eOpN kTup (aCons (eC (.str (Str.ofString "ask"))) (aCons (eOpN kTup (aCons (eC (.str (Str.ofString "0"))) aNil)) (aCons (eVar 5) aNil)))) aNil))))) aNil))) (eCall f_u_law_take (aCons (eVar 1) (aCons (eC (.int 2)) aNil))))))
 (sSeq (sIf (bOr (bNot (bOf (eCall f_u_law_is_right (aCons (eVar 5) aNil)))) (bNot (bOf (eCall f_u_law_is_right (aCons (eOpN kTup (aCons (eC (.str (Str.ofString "marks"))) (aCons (eC (.int 3)) (aCons (eC (.int 1)) (aCons (eVar 5) aNil))))) aNil)))))
 (sRet (eC (.bl false)))
 sNx)
 (sSeq (sSet 6 (eOp2 kIx (eOpN kLst (aCons (eC .non) (aCons (eOpN kTup aNil) (aCons (eOpN kTup (aCons (eC (.str (Str.ofString "ask"))) (aCons (eOpN kTup (aCons (eC (.int 0)) aNil)) aNil))) (aCons (eOpN kTup (aCons (eC (.str (Str.ofString "say"))) (aCons (eOpN kLst (aCons (eC (.int 0)) aNil)) aNil))) (aCons (eOpN kTup (aCons (eC (.str (Str.ofString "marks"))) (aCons (eC (.int 1)) (aCons (eC (.int 0)) (aCons (eVar 2) aNil))))) (aCons (eC (.int 7)) (aCons (eC (.str (Str.ofString "say"))) (aCons (eOpN kTup (aCons (eC (.str (Str.ofString "toss"))) (aCons (eOpN kTup aNil) aNil))) (aCons (eOpN kTup (aCons (eC (.str (Str.ofString "look"))) (aCons (eC (.int 0)) (aCons (eOpN kTup (aCons (eC (.str (Str.ofString "say"))) (aCons (eOpN kTup aNil) aNil))) (aCons (eOpN kTup (aCons (eC (.str (Str.ofString "say"))) (aCons (eOpN kTup (aCons (eC (.str (Str.ofString "2"))) aNil)) aNil))) aNil))))) aNil)))))))))) (eCall f_u_law_take (aCons (eVar 1) (aCons (eC (.int 9)) aNil)))))
 (sSeq (sTry [("BadBreaker", true)]
 (sExpr (eCall f_most_asks (aCons (eVar 6) aNil)))
 (sRet (eC (.bl true))))
 (sRet (eC (.bl false)))))))))))))
noncomputable def f_law : Fn := fnOf 1 7 b_law
end Law
namespace Law
open PySem L2 Pl PyProof.Rows
section
variable {P : Program} {w : World} {K : PySem.W.Frag} {mg : Str → Option Value} {base : Heap}
structure Bl (mg : Str → Option Value) : Prop where
  z_abs : mg "abs" = none
  z_all : mg "all" = none
  z_bool : mg "bool" = none
  z_int : mg "int" = none
  z_isinstance : mg "isinstance" = none
  z_len : mg "len" = none
  z_max : mg "max" = none
  z_range : mg "range" = none
  z_str : mg "str" = none
  z_tuple : mg "tuple" = none
  c_MOST_ASKS : ∃ t, mg "MOST_ASKS" = some (.int 1000 t)
  c_MOST_BIT : ∃ t, mg "MOST_BIT" = some (.int 9999 t)
  c_MOST_COUNTED : ∃ t, mg "MOST_COUNTED" = some (.int 256 t)
  c_MOST_DEPTH : ∃ t, mg "MOST_DEPTH" = some (.int 60 t)
  c_MOST_LAYERS : ∃ t, mg "MOST_LAYERS" = some (.int 20 t)
  c_MOST_LENGTH : ∃ t, mg "MOST_LENGTH" = some (.int 40 t)
  c_MOST_TOSSED : ∃ t, mg "MOST_TOSSED" = some (.int 64 t)
  c_MOST_WITHIN : ∃ t, mg "MOST_WITHIN" = some (.int 2000 t)
structure Xs (K : PySem.W.Frag) (mg : Str → Option Value) : Prop where
  gc_BadBreaker : mg (Str.ofString "BadBreaker") = some (.ref (atK K "BadBreaker"))
  x_BadBreaker : ExD K mg "BadBreaker"
  m_BadBreaker : ∀ q ∈ ([("BadBreaker", true)] : List (String × Bool)), PySem.W.exmOne K (.ref (atK K q.1)) ((CvN.own "BadBreaker").v K) = some q.2
  t_PLAIN_WORDS : mg (Str.ofString "PLAIN_WORDS") = some (.ref (atK K "PLAIN_WORDS")) ∧ tupB K (atK K "PLAIN_WORDS") ["say", "toss", "look", "ask"] = true
theorem sc_u_law_take : FnScope ["hand", "many", "at", "draws"] ["hand", "many"] (defScope s_u_law_take) := ⟨rfl, rfl, rfl, by decide +kernel, rfl, by decide +kernel, by decide +kernel⟩
theorem ok_u_law_take {fd : FuncData} (F : FunD K (Str.ofString "_law_take") (Str.ofString "_law_take") (defArgs s_u_law_take) (defBody s_u_law_take) (defScope s_u_law_take) [] [] (atK K "_law_take") fd) (g0 : mg (Str.ofString "_law_take") = some (.ref (atK K "_law_take"))) (Z : Bl mg) (V : Xs K mg)  : Ok P w K mg base 1 "_law_take" ["hand", "many"] f_u_law_take fd := by
  refine ⟨ok_def (at_ := atK K) F sc_u_law_take fun cdv A outer s H E hr => ?_, FunD.bindsN F fun _ _ _ _ _ _ us hl => match us, hl with | [_, _], _ => rfl, g0, F.kp⟩
  have hu := hr.units
  have tk := takes_of (X := cxOf (L2.CX P w) P w K mg base ["hand", "many", "at", "draws"] "_law_take" (defScope s_u_law_take) (atK K "_law_take") cdv A outer s H E) rfl rfl rfl rfl
  have pz := passes_of (X := cxOf (L2.CX P w) P w K mg base ["hand", "many", "at", "draws"] "_law_take" (defScope s_u_law_take) (atK K "_law_take") cdv A outer s H E) rfl
  exact (dss_cons (ds_set (i := 2) sc_u_law_take.nd rfl (by first | exact Or.inl rfl | exact Or.inr rfl) (de_ixV (pv 0) de_int (fun _ _ => rfl)))
 (dss_cons (ds_setIx (pv 0) de_int (de_bin (op_add.or (op_add_str.or op_catA)) v_add (de_var (pv 2)) de_int) (pg_sub (pv 0) de_int set_list))
 (dss_cons (ds_set (i := 3) sc_u_law_take.nd rfl (by first | exact Or.inl rfl | exact Or.inr rfl) (de_ixV (pv 0) de_int (fun _ _ => rfl)))
 (dss_cons (ds_if (dt_cmp op_ge v_ge (de_var (pv 2)) (de_len (pv 3) (by rfl) Z.z_len) (nomark _))
 (dss_one (ds_ret de_int))
 dss_nil)
 (dss_one (ds_ret (de_bin op_mod v_mod (de_bin op_fdiv v_fdiv (de_callTy (CallR.or call_int1 call_int_str) v_int1 (by rfl) Z.z_int (by decide +kernel) (da_cons (de_ixV (pv 3) (de_var (pv 2)) (fun _ _ => rfl)) da_nil)) de_int) (de_var (pv 1)))))))))
theorem sc_u_law_parts : FnScope ["hand", "length", "found", "k", "kind"] ["hand", "length"] (defScope s_u_law_parts) := ⟨rfl, rfl, rfl, by decide +kernel, rfl, by decide +kernel, by decide +kernel⟩
theorem ok_u_law_parts {fd : FuncData} (F : FunD K (Str.ofString "_law_parts") (Str.ofString "_law_parts") (defArgs s_u_law_parts) (defBody s_u_law_parts) (defScope s_u_law_parts) [] [] (atK K "_law_parts") fd) (g0 : mg (Str.ofString "_law_parts") = some (.ref (atK K "_law_parts"))) (Z : Bl mg) (V : Xs K mg) {fd_u_law_take : FuncData} (O_u_law_take : Ok P w K mg base 1 "_law_take" ["hand", "many"] f_u_law_take fd_u_law_take) : Ok P w K mg base 2 "_law_parts" ["hand", "length"] f_u_law_parts fd := by
  refine ⟨ok_def (at_ := atK K) F sc_u_law_parts fun cdv A outer s H E hr => ?_, FunD.bindsN F fun _ _ _ _ _ _ us hl => match us, hl with | [_, _], _ => rfl, g0, F.kp⟩
  have hu := hr.units
  have tk := takes_of (X := cxOf (L2.CX P w) P w K mg base ["hand", "length", "found", "k", "kind"] "_law_parts" (defScope s_u_law_parts) (atK K "_law_parts") cdv A outer s H E) rfl rfl rfl rfl
  have pz := passes_of (X := cxOf (L2.CX P w) P w K mg base ["hand", "length", "found", "k", "kind"] "_law_parts" (defScope s_u_law_parts) (atK K "_law_parts") cdv A outer s H E) rfl
  exact (dss_cons (ds_setO (i := 2) sc_u_law_parts.nd rfl (by first | exact Or.inl rfl | exact Or.inr rfl) (do_lst da_nil))
 (dss_cons (ds_for pz rfl (di_range1 (by rfl) Z.z_range (da_cons (de_var (pv 1)) da_nil)) (dg_name (i := 3) sc_u_law_parts.nd rfl (by first | exact Or.inl rfl | exact Or.inr rfl))
 (dss_cons (ds_set (i := 4) sc_u_law_parts.nd rfl (by first | exact Or.inl rfl | exact Or.inr rfl) (de_call O_u_law_take.fn (hr.mono (by decide)) tk (by rfl) O_u_law_take.g O_u_law_take.kp O_u_law_take.b (da_cons (de_var (pv 0)) (da_cons de_int da_nil))))
 (dss_one (ds_if (dt_cmp op_lt v_lt (de_var (pv 4)) de_int (nomark _))
 (dss_one (ds_expr (de_app (pv 2) (de_ix (de_frz (do_lst (da_cons de_str (da_cons de_str da_nil)))) (de_var (pv 4)) (fun _ _ => rfl)))))
 (dss_one (ds_expr (de_app (pv 2) (de_call O_u_law_take.fn (hr.mono (by decide)) tk (by rfl) O_u_law_take.g O_u_law_take.kp O_u_law_take.b (da_cons (de_var (pv 0)) (da_cons de_int da_nil))))))))))
 (dss_one (ds_ret (de_callTy call_tuple_of v_tuple (by rfl) Z.z_tuple (by decide +kernel) (da_cons (de_var (pv 2)) da_nil))))))
theorem sc_u_law_breaker : FnScope ["hand", "depth", "asks", "length", "said", "kind", "size", "first", "many", "k"] ["hand", "depth", "asks", "length", "said"] (defScope s_u_law_breaker) := ⟨rfl, rfl, rfl, by decide +kernel, rfl, by decide +kernel, by decide +kernel⟩
theorem ok_u_law_breaker {fd : FuncData} (F : FunD K (Str.ofString "_law_breaker") (Str.ofString "_law_breaker") (defArgs s_u_law_breaker) (defBody s_u_law_breaker) (defScope s_u_law_breaker) [] [] (atK K "_law_breaker") fd) (g0 : mg (Str.ofString "_law_breaker") = some (.ref (atK K "_law_breaker"))) (Z : Bl mg) (V : Xs K mg) {fd_u_law_take : FuncData} (O_u_law_take : Ok P w K mg base 1 "_law_take" ["hand", "many"] f_u_law_take fd_u_law_take) {fd_u_law_parts : FuncData} (O_u_law_parts : Ok P w K mg base 2 "_law_parts" ["hand", "length"] f_u_law_parts fd_u_law_parts) : ∀ d : Nat, Ok P w K mg base (d + 3) "_law_breaker" ["hand", "depth", "asks", "length", "said"] (f_u_law_breaker d) fd := by
  intro d
  induction d with
  | zero => exact ⟨ok_def (at_ := atK K) F sc_u_law_breaker fun cdv A outer s H E hr => dss_bad, FunD.bindsN F fun _ _ _ _ _ _ us hl => match us, hl with | [_, _, _, _, _], _ => rfl, g0, F.kp⟩
  | succ d ih =>
    refine ⟨ok_def (at_ := atK K) F sc_u_law_breaker fun cdv A outer s H E hr => ?_, FunD.bindsN F fun _ _ _ _ _ _ us hl => match us, hl with | [_, _, _, _, _], _ => rfl, g0, F.kp⟩
    have hr : Room (d + 3) _ := hr
    have hu := hr.units
    have tk := takes_of (X := cxOf (L2.CX P w) P w K mg base ["hand", "depth", "asks", "length", "said", "kind", "size", "first", "many", "k"] "_law_breaker" (defScope s_u_law_breaker) (atK K "_law_breaker") cdv A outer s H E) rfl rfl rfl rfl
    have pz := passes_of (X := cxOf (L2.CX P w) P w K mg base ["hand", "depth", "asks", "length", "said", "kind", "size", "first", "many", "k"] "_law_breaker" (defScope s_u_law_breaker) (atK K "_law_breaker") cdv A outer s H E) rfl
    exact (dss_cons (ds_set (i := 5) sc_u_law_breaker.nd rfl (by first | exact Or.inl rfl | exact Or.inr rfl) (de_call O_u_law_take.fn (hr.mono (by omega)) tk (by rfl) O_u_law_take.g O_u_law_take.kp O_u_law_take.b (da_cons (de_var (pv 0)) (da_cons de_int da_nil))))
   (dss_cons (ds_if (PW.pt (dw_or (dt_cmp (op_eq.or (op_eqD hu)) v_eq (de_var (pv 1)) de_int (nomark _)) (dw_or1 (dt_cmp (op_eq.or (op_eqD hu)) v_eq (de_var (pv 5)) de_int (nomark _)))))
   (dss_cons (ds_set (i := 6) sc_u_law_breaker.nd rfl (by first | exact Or.inl rfl | exact Or.inr rfl) (de_var (pv 4)))
   (dss_cons (ds_if (dt_cmp (op_eq.or (op_eqD hu)) v_eq (de_call O_u_law_take.fn (hr.mono (by omega)) tk (by rfl) O_u_law_take.g O_u_law_take.kp O_u_law_take.b (da_cons (de_var (pv 0)) (da_cons de_int da_nil))) de_int (nomark _))
   (dss_one (ds_set (i := 6) sc_u_law_breaker.nd rfl (by first | exact Or.inl rfl | exact Or.inr rfl) (de_call O_u_law_take.fn (hr.mono (by omega)) tk (by rfl) O_u_law_take.g O_u_law_take.kp O_u_law_take.b (da_cons (de_var (pv 0)) (da_cons de_int da_nil)))))
   dss_nil)
   (dss_one (ds_ret (de_tup (da_cons de_str (da_cons (de_call O_u_law_parts.fn (hr.mono (by omega)) tk (by rfl) O_u_law_parts.g O_u_law_parts.kp O_u_law_parts.b (da_cons (de_var (pv 0)) (da_cons (de_var (pv 6)) da_nil))) da_nil)))))))
   dss_nil)
   (dss_cons (ds_if (PW.pt (dw_or (dt_cmp op_lt v_lt (de_var (pv 5)) de_int (nomark _)) (dw_or1 (PW.pt (dw_and (dt_cmp (op_eq.or (op_eqD hu)) v_eq (de_var (pv 5)) de_int (nomark _)) (dw_and1 (dt_cmp (op_eq.or (op_eqD hu)) v_eq (de_var (pv 2)) de_int (nomark _))))))))
   (dss_cons (ds_set (i := 7) sc_u_law_breaker.nd rfl (by first | exact Or.inl rfl | exact Or.inr rfl) (de_call ih.fn (hr.mono (by omega)) tk (by rfl) ih.g ih.kp ih.b (da_cons (de_var (pv 0)) (da_cons (de_bin op_sub v_sub (de_var (pv 1)) de_int) (da_cons (de_var (pv 2)) (da_cons (de_var (pv 3)) (da_cons (de_var (pv 4)) da_nil)))))))
   (dss_one (ds_ret (de_tup (da_cons de_str (da_cons (de_call O_u_law_take.fn (hr.mono (by omega)) tk (by rfl) O_u_law_take.g O_u_law_take.kp O_u_law_take.b (da_cons (de_var (pv 0)) (da_cons de_int da_nil))) (da_cons (de_var (pv 7)) (da_cons (de_call ih.fn (hr.mono (by omega)) tk (by rfl) ih.g ih.kp ih.b (da_cons (de_var (pv 0)) (da_cons (de_bin op_sub v_sub (de_var (pv 1)) de_int) (da_cons (de_var (pv 2)) (da_cons (de_var (pv 3)) (da_cons (de_var (pv 4)) da_nil)))))) da_nil))))))))
   dss_nil)
   (dss_cons (ds_if (dt_cmp (op_eq.or (op_eqD hu)) v_eq (de_var (pv 5)) de_int (nomark _))
   (dss_cons (ds_set (i := 8) sc_u_law_breaker.nd rfl (by first | exact Or.inl rfl | exact Or.inr rfl) (de_bin (op_add.or (op_add_str.or op_catA)) v_add de_int (de_call O_u_law_take.fn (hr.mono (by omega)) tk (by rfl) O_u_law_take.g O_u_law_take.kp O_u_law_take.b (da_cons (de_var (pv 0)) (da_cons de_int da_nil)))))
   (dss_one (ds_ret (de_tup (da_cons de_str (da_cons (de_callTy call_tuple_of v_tuple (by rfl) Z.z_tuple (by decide +kernel) (da_cons (de_frz (do_lc (own := [("k", 9)]) rfl sc_u_law_breaker.nd (di_range1 (by rfl) Z.z_range (da_cons (de_var (pv 8)) da_nil)) (blkOk_by (N := ["hand", "depth", "asks", "length", "said", "kind", "size", "first", "many", "k"]) (sc := defScope s_u_law_breaker) (by decide +kernel)) (by decide) (fun _ _ _ _ _ => (dg_name (i := 9) sc_u_law_breaker.nd rfl (by first | exact Or.inl rfl | exact Or.inr rfl))) (fun _ _ _ _ _ => dts_nil) (fun _ _ _ _ _ => (de_call ih.fn (hr.mono (by omega)) takes0 (by rfl) ih.g ih.kp ih.b (da_cons (de_var (pv 0)) (da_cons (de_bin op_sub v_sub (de_var (pv 1)) de_int) (da_cons (de_var (pv 2)) (da_cons (de_var (pv 3)) (da_cons (de_var (pv 4)) da_nil))))))))) da_nil)) da_nil))))))
   dss_nil)
   (dss_cons (ds_if (dt_cmp (op_eq.or (op_eqD hu)) v_eq (de_var (pv 2)) de_int (nomark _))
   (dss_one (ds_ret (de_tup (da_cons de_str (da_cons (de_call O_u_law_parts.fn (hr.mono (by omega)) tk (by rfl) O_u_law_parts.g O_u_law_parts.kp O_u_law_parts.b (da_cons (de_var (pv 0)) (da_cons (de_var (pv 4)) da_nil))) da_nil)))))
   dss_nil)
   (dss_cons (ds_set (i := 6) sc_u_law_breaker.nd rfl (by first | exact Or.inl rfl | exact Or.inr rfl) (de_var (pv 3)))
   (dss_cons (ds_if (dt_cmp (op_eq.or (op_eqD hu)) v_eq (de_call O_u_law_take.fn (hr.mono (by omega)) tk (by rfl) O_u_law_take.g O_u_law_take.kp O_u_law_take.b (da_cons (de_var (pv 0)) (da_cons de_int da_nil))) de_int (nomark _))
   (dss_one (ds_set (i := 6) sc_u_law_breaker.nd rfl (by first | exact Or.inl rfl | exact Or.inr rfl) (de_call O_u_law_take.fn (hr.mono (by omega)) tk (by rfl) O_u_law_take.g O_u_law_take.kp O_u_law_take.b (da_cons (de_var (pv 0)) (da_cons de_int da_nil)))))
   dss_nil)
   (dss_one (ds_ret (de_tup (da_cons de_str (da_cons (de_call O_u_law_parts.fn (hr.mono (by omega)) tk (by rfl) O_u_law_parts.g O_u_law_parts.kp O_u_law_parts.b (da_cons (de_var (pv 0)) (da_cons (de_var (pv 6)) da_nil))) (da_cons (de_call ih.fn (hr.mono (by omega)) tk (by rfl) ih.g ih.kp ih.b (da_cons (de_var (pv 0)) (da_cons (de_bin op_sub v_sub (de_var (pv 1)) de_int) (da_cons (de_bin op_sub v_sub (de_var (pv 2)) de_int) (da_cons (de_var (pv 3)) (da_cons (de_var (pv 4)) da_nil)))))) da_nil)))))))))))))
theorem sc_u_law_draws : FnScope ["script", "many", "rests", "draws", "k", "cell", "at", "mixed"] ["script", "many"] (defScope s_u_law_draws) := ⟨rfl, rfl, rfl, by decide +kernel, rfl, by decide +kernel, by decide +kernel⟩
theorem ok_u_law_draws {fd : FuncData} (F : FunD K (Str.ofString "_law_draws") (Str.ofString "_law_draws") (defArgs s_u_law_draws) (defBody s_u_law_draws) (defScope s_u_law_draws) [] [] (atK K "_law_draws") fd) (g0 : mg (Str.ofString "_law_draws") = some (.ref (atK K "_law_draws"))) (Z : Bl mg) (V : Xs K mg)  : Ok P w K mg base 1 "_law_draws" ["script", "many"] f_u_law_draws fd := by
  refine ⟨ok_def (at_ := atK K) F sc_u_law_draws fun cdv A outer s H E hr => ?_, FunD.bindsN F fun _ _ _ _ _ _ us hl => match us, hl with | [_, _], _ => rfl, g0, F.kp⟩
  have hu := hr.units
  have tk := takes_of (X := cxOf (L2.CX P w) P w K mg base ["script", "many", "rests", "draws", "k", "cell", "at", "mixed"] "_law_draws" (defScope s_u_law_draws) (atK K "_law_draws") cdv A outer s H E) rfl rfl rfl rfl
  have pz := passes_of (X := cxOf (L2.CX P w) P w K mg base ["script", "many", "rests", "draws", "k", "cell", "at", "mixed"] "_law_draws" (defScope s_u_law_draws) (atK K "_law_draws") cdv A outer s H E) rfl
  exact (dss_cons (ds_setLc (i := 2) (own := [("cell", 5)]) lc_own rfl sc_u_law_draws.nd rfl rfl (sw_true rfl rfl rfl (by decide +kernel)) (di_seq (de_var (pv 0))) (blkOk_by (N := ["script", "many", "rests", "draws", "k", "cell", "at", "mixed"]) (sc := defScope s_u_law_draws) (by decide +kernel)) (by decide) (fun _ _ _ _ _ => (dg_name (i := 5) sc_u_law_draws.nd rfl (by first | exact Or.inl rfl | exact Or.inr rfl))) (fun _ _ _ _ _ => dts_nil) (fun _ _ _ _ _ => (de_callB call_abs v_abs (by rfl) Z.z_abs (by decide +kernel) (da_cons (de_callTy (CallR.or call_int1 call_int_str) v_int1 (by rfl) Z.z_int (by decide +kernel) (da_cons (de_var (pv 5)) da_nil)) da_nil))))
 (dss_cons (ds_setO (i := 3) sc_u_law_draws.nd rfl (by first | exact Or.inl rfl | exact Or.inr rfl) (do_lst da_nil))
 (dss_cons (ds_for pz rfl (di_range1 (by rfl) Z.z_range (da_cons (de_var (pv 1)) da_nil)) (dg_name (i := 4) sc_u_law_draws.nd rfl (by first | exact Or.inl rfl | exact Or.inr rfl))
 (dss_cons (ds_set (i := 5) sc_u_law_draws.nd rfl (by first | exact Or.inl rfl | exact Or.inr rfl) (de_var (pv 4)))
 (dss_cons (ds_if (dt_cmp op_gt v_gt (de_len (pv 0) (by rfl) Z.z_len) de_int (nomark _))
 (dss_cons (ds_set (i := 6) sc_u_law_draws.nd rfl (by first | exact Or.inl rfl | exact Or.inr rfl) (de_bin op_mod v_mod (de_var (pv 4)) (de_len (pv 0) (by rfl) Z.z_len)))
 (dss_cons (ds_set (i := 5) sc_u_law_draws.nd rfl (by first | exact Or.inl rfl | exact Or.inr rfl) (de_callTy (CallR.or call_int1 call_int_str) v_int1 (by rfl) Z.z_int (by decide +kernel) (da_cons (de_ixV (pv 0) (de_var (pv 6)) (fun _ _ => rfl)) da_nil)))
 (dss_one (ds_if (PW.pt (dw_and (dt_cmp op_ge v_ge (de_var (pv 5)) (de_bin op_pow v_pow de_int de_int) (nomark _)) (dw_and1 (dt_cmp op_gt v_gt (de_ixV (pv 2) (de_var (pv 6)) (fun _ _ => rfl)) de_int (nomark _)))))
 (dss_cons (ds_expr (de_app (pv 3) (de_bin op_mod v_mod (de_callTy (CallR.or call_int1 call_int_str) v_int1 (by rfl) Z.z_int (by decide +kernel) (da_cons (de_ixV (pv 2) (de_var (pv 6)) (fun _ _ => rfl)) da_nil)) de_int)))
 (dss_cons (ds_setIx (pv 2) (de_var (pv 6)) (de_bin op_fdiv v_fdiv (de_callTy (CallR.or call_int1 call_int_str) v_int1 (by rfl) Z.z_int (by decide +kernel) (da_cons (de_ixV (pv 2) (de_var (pv 6)) (fun _ _ => rfl)) da_nil)) de_int) (pg_sub (pv 2) (de_var (pv 6)) set_list))
 (dss_one ds_cont)))
 dss_nil))))
 dss_nil)
 (dss_cons (ds_set (i := 7) sc_u_law_draws.nd rfl (by first | exact Or.inl rfl | exact Or.inr rfl) (de_bin op_mod v_mod (de_callTy (CallR.or call_int1 call_int_str) v_int1 (by rfl) Z.z_int (by decide +kernel) (da_cons (de_bin (op_add.or (op_add_str.or op_catA)) v_add (de_bin (op_add.or (op_add_str.or op_catA)) v_add (de_bin (op_mul.or (op_mulS.or op_repT)) v_mul (de_var (pv 5)) de_int) (de_bin (op_mul.or (op_mulS.or op_repT)) v_mul (de_var (pv 4)) de_int)) de_int) da_nil)) de_int))
 (dss_cons (ds_set (i := 7) sc_u_law_draws.nd rfl (by first | exact Or.inl rfl | exact Or.inr rfl) (de_bin op_mod v_mod (de_callTy (CallR.or call_int1 call_int_str) v_int1 (by rfl) Z.z_int (by decide +kernel) (da_cons (de_bin (op_add.or (op_add_str.or op_catA)) v_add (de_bin op_fdiv v_fdiv (de_bin (op_mul.or (op_mulS.or op_repT)) v_mul (de_var (pv 7)) (de_var (pv 7))) de_int) (de_var (pv 7))) da_nil)) de_int))
 (dss_one (ds_expr (de_app (pv 3) (de_bin op_mod v_mod (de_callTy (CallR.or call_int1 call_int_str) v_int1 (by rfl) Z.z_int (by decide +kernel) (da_cons (de_bin (op_add.or (op_add_str.or op_catA)) v_add (de_bin op_fdiv v_fdiv (de_bin (op_mul.or (op_mulS.or op_repT)) v_mul (de_var (pv 7)) (de_var (pv 7))) de_int) (de_bin (op_mul.or (op_mulS.or op_repT)) v_mul (de_var (pv 4)) de_int)) da_nil)) de_int)))))))))
 (dss_one (ds_ret (de_var (pv 3)))))))
theorem sc_is_bits : FnScope ["value", "length", "sign"] ["value", "length"] (defScope s_is_bits) := ⟨rfl, rfl, rfl, by decide +kernel, rfl, by decide +kernel, by decide +kernel⟩
theorem ok_is_bits {fd : FuncData} (F : FunD K (Str.ofString "is_bits") (Str.ofString "is_bits") (defArgs s_is_bits) (defBody s_is_bits) (defScope s_is_bits) [] [] (atK K "is_bits") fd) (g0 : mg (Str.ofString "is_bits") = some (.ref (atK K "is_bits"))) (Z : Bl mg) (V : Xs K mg)  : Ok P w K mg base 1 "is_bits" ["value", "length"] f_is_bits fd := by
  refine ⟨ok_def (at_ := atK K) F sc_is_bits fun cdv A outer s H E hr => ?_, FunD.bindsN F fun _ _ _ _ _ _ us hl => match us, hl with | [_, _], _ => rfl, g0, F.kp⟩
  have hu := hr.units
  have tk := takes_of (X := cxOf (L2.CX P w) P w K mg base ["value", "length", "sign"] "is_bits" (defScope s_is_bits) (atK K "is_bits") cdv A outer s H E) rfl rfl rfl rfl
  have pz := passes_of (X := cxOf (L2.CX P w) P w K mg base ["value", "length", "sign"] "is_bits" (defScope s_is_bits) (atK K "is_bits") cdv A outer s H E) rfl
  exact (dss_one (ds_ret (de_and (de_callB call_isi v_isi (by rfl) Z.z_isinstance (by decide +kernel) (da_cons (de_var (pv 0)) (da_cons (de_ty (by rfl) Z.z_str boot_str) da_nil))) (de_and (de_cmp (op_eq.or (op_eqD hu)) v_eq (de_len (pv 0) (by rfl) Z.z_len) (de_var (pv 1)) (nomark _)) (de_one (de_callB (cr_all rfl) v_all (by rfl) Z.z_all (by decide +kernel) (da_cons (de_frz (do_lc (own := [("sign", 2)]) rfl sc_is_bits.nd (di_seq (de_var (pv 0))) (blkOk_by (N := ["value", "length", "sign"]) (sc := defScope s_is_bits) (by decide +kernel)) (by decide) (fun _ _ _ _ _ => (dg_name (i := 2) sc_is_bits.nd rfl (by first | exact Or.inl rfl | exact Or.inr rfl))) (fun _ _ _ _ _ => dts_nil) (fun _ _ _ _ _ => (de_cmp (op_in1.or op_in_seq) v_in (de_var (pv 2)) de_str (by rfl))))) da_nil)))))))
theorem sc_is_number : FnScope ["value", "least", "most"] ["value", "least", "most"] (defScope s_is_number) := ⟨rfl, rfl, rfl, by decide +kernel, rfl, by decide +kernel, by decide +kernel⟩
theorem ok_is_number {fd : FuncData} (F : FunD K (Str.ofString "is_number") (Str.ofString "is_number") (defArgs s_is_number) (defBody s_is_number) (defScope s_is_number) [] [] (atK K "is_number") fd) (g0 : mg (Str.ofString "is_number") = some (.ref (atK K "is_number"))) (Z : Bl mg) (V : Xs K mg)  : Ok P w K mg base 1 "is_number" ["value", "least", "most"] f_is_number fd := by
  refine ⟨ok_def (at_ := atK K) F sc_is_number fun cdv A outer s H E hr => ?_, FunD.bindsN F fun _ _ _ _ _ _ us hl => match us, hl with | [_, _, _], _ => rfl, g0, F.kp⟩
  have hu := hr.units
  have tk := takes_of (X := cxOf (L2.CX P w) P w K mg base ["value", "least", "most"] "is_number" (defScope s_is_number) (atK K "is_number") cdv A outer s H E) rfl rfl rfl rfl
  have pz := passes_of (X := cxOf (L2.CX P w) P w K mg base ["value", "least", "most"] "is_number" (defScope s_is_number) (atK K "is_number") cdv A outer s H E) rfl
  exact (dss_one (ds_ret (de_and (de_callB call_isi v_isi (by rfl) Z.z_isinstance (by decide +kernel) (da_cons (de_var (pv 0)) (da_cons (de_ty (by rfl) Z.z_int boot_int) da_nil))) (de_and (de_not (de_callB call_isi v_isi (by rfl) Z.z_isinstance (by decide +kernel) (da_cons (de_var (pv 0)) (da_cons (de_ty (by rfl) Z.z_bool boot_bool) da_nil)))) (de_one (de_chain op_le v_le op_le v_le (de_var (pv 1)) (de_var (pv 0)) (de_var (pv 2))))))))
theorem sc_are_parts : FnScope ["value", "part"] ["value"] (defScope s_are_parts) := ⟨rfl, rfl, rfl, by decide +kernel, rfl, by decide +kernel, by decide +kernel⟩
theorem ok_are_parts {fd : FuncData} (F : FunD K (Str.ofString "are_parts") (Str.ofString "are_parts") (defArgs s_are_parts) (defBody s_are_parts) (defScope s_are_parts) [] [] (atK K "are_parts") fd) (g0 : mg (Str.ofString "are_parts") = some (.ref (atK K "are_parts"))) (Z : Bl mg) (V : Xs K mg) {fd_is_bits : FuncData} (O_is_bits : Ok P w K mg base 1 "is_bits" ["value", "length"] f_is_bits fd_is_bits) {fd_is_number : FuncData} (O_is_number : Ok P w K mg base 1 "is_number" ["value", "least", "most"] f_is_number fd_is_number) : Ok P w K mg base 2 "are_parts" ["value"] f_are_parts fd := by
  refine ⟨ok_def (at_ := atK K) F sc_are_parts fun cdv A outer s H E hr => ?_, FunD.bindsN F fun _ _ _ _ _ _ us hl => match us, hl with | [_], _ => rfl, g0, F.kp⟩
  have hu := hr.units
  have tk := takes_of (X := cxOf (L2.CX P w) P w K mg base ["value", "part"] "are_parts" (defScope s_are_parts) (atK K "are_parts") cdv A outer s H E) rfl rfl rfl rfl
  have pz := passes_of (X := cxOf (L2.CX P w) P w K mg base ["value", "part"] "are_parts" (defScope s_are_parts) (atK K "are_parts") cdv A outer s H E) rfl
  exact (dss_cons (ds_if (dt_not (dt_val (de_callB call_isi v_isi (by rfl) Z.z_isinstance (by decide +kernel) (da_cons (de_var (pv 0)) (da_cons (de_ty (by rfl) Z.z_tuple boot_tuple) da_nil)))))
 (dss_one (ds_ret de_bl))
 dss_nil)
 (dss_cons (ds_for pz rfl (di_seq (de_var (pv 0))) (dg_name (i := 1) sc_are_parts.nd rfl (by first | exact Or.inl rfl | exact Or.inr rfl))
 (dss_one (ds_if (PW.pt (dw_and (dt_not (dt_val (de_call O_is_bits.fn (hr.mono (by decide)) tk (by rfl) O_is_bits.g O_is_bits.kp O_is_bits.b (da_cons (de_var (pv 1)) (da_cons de_int da_nil))))) (dw_and1 (dt_not (dt_val (de_call O_is_number.fn (hr.mono (by decide)) tk (by rfl) O_is_number.g O_is_number.kp O_is_number.b (da_cons (de_var (pv 1)) (da_cons de_int (da_cons (de_cint (by rfl) Z.c_MOST_BIT) da_nil)))))))))
 (dss_one (ds_ret de_bl))
 dss_nil)))
 (dss_one (ds_ret de_bl))))
theorem sc_inner_plain : FnScope ["breaker", "word", "rest"] ["breaker"] (defScope s_inner_plain) := ⟨rfl, rfl, rfl, by decide +kernel, rfl, by decide +kernel, by decide +kernel⟩
theorem ok_inner_plain {fd : FuncData} (F : FunD K (Str.ofString "inner_plain") (Str.ofString "inner_plain") (defArgs s_inner_plain) (defBody s_inner_plain) (defScope s_inner_plain) [] [] (atK K "inner_plain") fd) (g0 : mg (Str.ofString "inner_plain") = some (.ref (atK K "inner_plain"))) (Z : Bl mg) (V : Xs K mg) {fd_are_parts : FuncData} (O_are_parts : Ok P w K mg base 2 "are_parts" ["value"] f_are_parts fd_are_parts) {fd_is_number : FuncData} (O_is_number : Ok P w K mg base 1 "is_number" ["value", "least", "most"] f_is_number fd_is_number) : Ok P w K mg base 3 "inner_plain" ["breaker"] f_inner_plain fd := by
  refine ⟨ok_def (at_ := atK K) F sc_inner_plain fun cdv A outer s H E hr => ?_, FunD.bindsN F fun _ _ _ _ _ _ us hl => match us, hl with | [_], _ => rfl, g0, F.kp⟩
  have hu := hr.units
  have tk := takes_of (X := cxOf (L2.CX P w) P w K mg base ["breaker", "word", "rest"] "inner_plain" (defScope s_inner_plain) (atK K "inner_plain") cdv A outer s H E) rfl rfl rfl rfl
  have pz := passes_of (X := cxOf (L2.CX P w) P w K mg base ["breaker", "word", "rest"] "inner_plain" (defScope s_inner_plain) (atK K "inner_plain") cdv A outer s H E) rfl
  exact (dss_cons (ds_if (PW.pt (dw_and (dt_val (de_callB call_isi v_isi (by rfl) Z.z_isinstance (by decide +kernel) (da_cons (de_var (pv 0)) (da_cons (de_ty (by rfl) Z.z_tuple boot_tuple) da_nil)))) (dw_and (dt_cmp op_gt v_gt (de_len (pv 0) (by rfl) Z.z_len) de_int (nomark _)) (dw_and1 (dt_val (de_callB call_isi v_isi (by rfl) Z.z_isinstance (by decide +kernel) (da_cons (de_ixV (pv 0) de_int (fun _ _ => rfl)) (da_cons (de_ty (by rfl) Z.z_str boot_str) da_nil))))))))
 (dss_cons (ds_par (i := 1) (j := 2) rfl sc_inner_plain.nd rfl rfl (by decide) rfl rfl (da_cons (de_ixV (pv 0) de_int (fun _ _ => rfl)) (da_cons (de_slice (de_var (pv 0)) (dp_some de_int) dp_none) da_nil)) (by rfl))
 (dss_cons (ds_if (PW.pt (dw_and (dt_cmp (op_eq.or (op_eqD hu)) v_eq (de_var (pv 1)) de_str (nomark _)) (dw_and (dt_cmp (op_eq.or (op_eqD hu)) v_eq (de_len (pv 2) (by rfl) Z.z_len) de_int (nomark _)) (dw_and1 (dt_val (de_call O_are_parts.fn (hr.mono (by decide)) tk (by rfl) O_are_parts.g O_are_parts.kp O_are_parts.b (da_cons (de_ixV (pv 2) de_int (fun _ _ => rfl)) da_nil)))))))
 (dss_one (ds_ret (de_tup da_nil)))
 dss_nil)
 (dss_cons (ds_if (PW.pt (dw_and (dt_cmp (op_eq.or (op_eqD hu)) v_eq (de_var (pv 1)) de_str (nomark _)) (dw_and (dt_cmp (op_eq.or (op_eqD hu)) v_eq (de_len (pv 2) (by rfl) Z.z_len) de_int (nomark _)) (dw_and (dt_val (de_callB call_isi v_isi (by rfl) Z.z_isinstance (by decide +kernel) (da_cons (de_ixV (pv 2) de_int (fun _ _ => rfl)) (da_cons (de_ty (by rfl) Z.z_tuple boot_tuple) da_nil)))) (dw_and1 (dt_chain op_le v_le op_le v_le de_int (de_callB call_len v_len (by rfl) Z.z_len boot_len (da_cons (de_ixV (pv 2) de_int (fun _ _ => rfl)) da_nil)) (de_cint (by rfl) Z.c_MOST_TOSSED)))))))
 (dss_one (ds_ret (de_ixV (pv 2) de_int (fun _ _ => rfl))))
 dss_nil)
 (dss_cons (ds_if (PW.pt (dw_and (dt_cmp (op_eq.or (op_eqD hu)) v_eq (de_var (pv 1)) de_str (nomark _)) (dw_and (dt_cmp (op_eq.or (op_eqD hu)) v_eq (de_len (pv 2) (by rfl) Z.z_len) de_int (nomark _)) (dw_and1 (dt_val (de_call O_is_number.fn (hr.mono (by decide)) tk (by rfl) O_is_number.g O_is_number.kp O_is_number.b (da_cons (de_ixV (pv 2) de_int (fun _ _ => rfl)) (da_cons de_int (da_cons (de_cint (by rfl) Z.c_MOST_BIT) da_nil)))))))))
 (dss_one (ds_ret (de_slice (de_var (pv 2)) (dp_some de_int) dp_none)))
 dss_nil)
 (dss_one (ds_if (PW.pt (dw_and (dt_cmp (op_eq.or (op_eqD hu)) v_eq (de_var (pv 1)) de_str (nomark _)) (dw_and (dt_cmp (op_eq.or (op_eqD hu)) v_eq (de_len (pv 2) (by rfl) Z.z_len) de_int (nomark _)) (dw_and1 (dt_val (de_call O_are_parts.fn (hr.mono (by decide)) tk (by rfl) O_are_parts.g O_are_parts.kp O_are_parts.b (da_cons (de_ixV (pv 2) de_int (fun _ _ => rfl)) da_nil)))))))
 (dss_one (ds_ret (de_slice (de_var (pv 2)) (dp_some de_int) dp_none)))
 dss_nil))))))
 dss_nil)
 (dss_one (ds_raiseD (c := "BadBreaker") rfl tk V.x_BadBreaker (by rfl))))
theorem sc_check_plain : FnScope ["breaker", "waiting", "within", "one", "depth", "inner", "other"] ["breaker"] (defScope s_check_plain) := ⟨rfl, rfl, rfl, by decide +kernel, rfl, by decide +kernel, by decide +kernel⟩
theorem ok_check_plain {fd : FuncData} (F : FunD K (Str.ofString "check_plain") (Str.ofString "check_plain") (defArgs s_check_plain) (defBody s_check_plain) (defScope s_check_plain) [] [] (atK K "check_plain") fd) (g0 : mg (Str.ofString "check_plain") = some (.ref (atK K "check_plain"))) (Z : Bl mg) (V : Xs K mg) {fd_inner_plain : FuncData} (O_inner_plain : Ok P w K mg base 3 "inner_plain" ["breaker"] f_inner_plain fd_inner_plain) : Ok P w K mg base 4 "check_plain" ["breaker"] f_check_plain fd := by
  refine ⟨ok_def (at_ := atK K) F sc_check_plain fun cdv A outer s H E hr => ?_, FunD.bindsN F fun _ _ _ _ _ _ us hl => match us, hl with | [_], _ => rfl, g0, F.kp⟩
  have hu := hr.units
  have tk := takes_of (X := cxOf (L2.CX P w) P w K mg base ["breaker", "waiting", "within", "one", "depth", "inner", "other"] "check_plain" (defScope s_check_plain) (atK K "check_plain") cdv A outer s H E) rfl rfl rfl rfl
  have pz := passes_of (X := cxOf (L2.CX P w) P w K mg base ["breaker", "waiting", "within", "one", "depth", "inner", "other"] "check_plain" (defScope s_check_plain) (atK K "check_plain") cdv A outer s H E) rfl
  exact (dss_cons (ds_setO (i := 1) sc_check_plain.nd rfl (by first | exact Or.inl rfl | exact Or.inr rfl) (do_lst (da_cons (de_tup (da_cons (de_var (pv 0)) (da_cons de_int da_nil))) da_nil)))
 (dss_cons (ds_set (i := 2) sc_check_plain.nd rfl (by first | exact Or.inl rfl | exact Or.inr rfl) de_int)
 (dss_one (ds_while pz (dt_cmp op_gt v_gt (de_len (pv 1) (by rfl) Z.z_len) de_int (nomark _))
 (dss_cons (ds_asg (de_pop (pv 1)) (dg_tup rfl (dgs_cons (dg_name (i := 3) sc_check_plain.nd rfl (by first | exact Or.inl rfl | exact Or.inr rfl)) (dgs_cons (dg_name (i := 4) sc_check_plain.nd rfl (by first | exact Or.inl rfl | exact Or.inr rfl)) dgs_nil))))
 (dss_cons (ds_set (i := 5) sc_check_plain.nd rfl (by first | exact Or.inl rfl | exact Or.inr rfl) (de_call O_inner_plain.fn (hr.mono (by decide)) tk (by rfl) O_inner_plain.g O_inner_plain.kp O_inner_plain.b (da_cons (de_var (pv 3)) da_nil)))
 (dss_cons (ds_aug (i := 2) sc_check_plain.nd rfl (by first | exact Or.inl rfl | exact Or.inr rfl) (de_len (pv 5) (by rfl) Z.z_len) ip_add v_ipadd)
 (dss_cons (ds_if (PW.pt (dw_or (dt_cmp op_gt v_gt (de_var (pv 4)) (de_cint (by rfl) Z.c_MOST_DEPTH) (nomark _)) (dw_or1 (dt_cmp op_gt v_gt (de_var (pv 2)) (de_cint (by rfl) Z.c_MOST_WITHIN) (nomark _)))))
 (dss_one (ds_raiseD (c := "BadBreaker") rfl tk V.x_BadBreaker (by rfl)))
 dss_nil)
 (dss_one (ds_expr (de_ext (pv 1) (do_lc (own := [("other", 6)]) rfl sc_check_plain.nd (di_seq (de_var (pv 5))) (blkOk_by (N := ["breaker", "waiting", "within", "one", "depth", "inner", "other"]) (sc := defScope s_check_plain) (by decide +kernel)) (by decide) (fun _ _ _ _ _ => (dg_name (i := 6) sc_check_plain.nd rfl (by first | exact Or.inl rfl | exact Or.inr rfl))) (fun _ _ _ _ _ => dts_nil) (fun _ _ _ _ _ => (de_tup (da_cons (de_var (pv 6)) (da_cons (de_bin (op_add.or (op_add_str.or op_catA)) v_add (de_var (pv 4)) de_int) da_nil))))))))))))))))
theorem sc_has_plain_word : FnScope ["value"] ["value"] (defScope s_has_plain_word) := ⟨rfl, rfl, rfl, by decide +kernel, rfl, by decide +kernel, by decide +kernel⟩
theorem ok_has_plain_word {fd : FuncData} (F : FunD K (Str.ofString "has_plain_word") (Str.ofString "has_plain_word") (defArgs s_has_plain_word) (defBody s_has_plain_word) (defScope s_has_plain_word) [] [] (atK K "has_plain_word") fd) (g0 : mg (Str.ofString "has_plain_word") = some (.ref (atK K "has_plain_word"))) (Z : Bl mg) (V : Xs K mg)  : Ok P w K mg base 1 "has_plain_word" ["value"] f_has_plain_word fd := by
  refine ⟨ok_def (at_ := atK K) F sc_has_plain_word fun cdv A outer s H E hr => ?_, FunD.bindsN F fun _ _ _ _ _ _ us hl => match us, hl with | [_], _ => rfl, g0, F.kp⟩
  have hu := hr.units
  have tk := takes_of (X := cxOf (L2.CX P w) P w K mg base ["value"] "has_plain_word" (defScope s_has_plain_word) (atK K "has_plain_word") cdv A outer s H E) rfl rfl rfl rfl
  have pz := passes_of (X := cxOf (L2.CX P w) P w K mg base ["value"] "has_plain_word" (defScope s_has_plain_word) (atK K "has_plain_word") cdv A outer s H E) rfl
  exact (dss_one (ds_ret (de_and (de_callB call_isi v_isi (by rfl) Z.z_isinstance (by decide +kernel) (da_cons (de_var (pv 0)) (da_cons (de_ty (by rfl) Z.z_tuple boot_tuple) da_nil))) (de_and (de_cmp op_gt v_gt (de_len (pv 0) (by rfl) Z.z_len) de_int (nomark _)) (de_and (de_callB call_isi v_isi (by rfl) Z.z_isinstance (by decide +kernel) (da_cons (de_ixV (pv 0) de_int (fun _ _ => rfl)) (da_cons (de_ty (by rfl) Z.z_str boot_str) da_nil))) (de_one (de_cmp (op_in1.or op_in_seq) v_in (de_ixV (pv 0) de_int (fun _ _ => rfl)) (de_ctup (c := "PLAIN_WORDS") (zs := ["say", "toss", "look", "ask"]) (by rfl) V.t_PLAIN_WORDS) (by rfl))))))))
theorem sc_is_row : FnScope ["value", "many", "length", "one"] ["value", "many", "length"] (defScope s_is_row) := ⟨rfl, rfl, rfl, by decide +kernel, rfl, by decide +kernel, by decide +kernel⟩
theorem ok_is_row {fd : FuncData} (F : FunD K (Str.ofString "is_row") (Str.ofString "is_row") (defArgs s_is_row) (defBody s_is_row) (defScope s_is_row) [] [] (atK K "is_row") fd) (g0 : mg (Str.ofString "is_row") = some (.ref (atK K "is_row"))) (Z : Bl mg) (V : Xs K mg) {fd_is_bits : FuncData} (O_is_bits : Ok P w K mg base 1 "is_bits" ["value", "length"] f_is_bits fd_is_bits) : Ok P w K mg base 2 "is_row" ["value", "many", "length"] f_is_row fd := by
  refine ⟨ok_def (at_ := atK K) F sc_is_row fun cdv A outer s H E hr => ?_, FunD.bindsN F fun _ _ _ _ _ _ us hl => match us, hl with | [_, _, _], _ => rfl, g0, F.kp⟩
  have hu := hr.units
  have tk := takes_of (X := cxOf (L2.CX P w) P w K mg base ["value", "many", "length", "one"] "is_row" (defScope s_is_row) (atK K "is_row") cdv A outer s H E) rfl rfl rfl rfl
  have pz := passes_of (X := cxOf (L2.CX P w) P w K mg base ["value", "many", "length", "one"] "is_row" (defScope s_is_row) (atK K "is_row") cdv A outer s H E) rfl
  exact (dss_one (ds_ret (de_and (de_callB call_isi v_isi (by rfl) Z.z_isinstance (by decide +kernel) (da_cons (de_var (pv 0)) (da_cons (de_ty (by rfl) Z.z_tuple boot_tuple) da_nil))) (de_and (de_cmp (op_eq.or (op_eqD hu)) v_eq (de_len (pv 0) (by rfl) Z.z_len) (de_var (pv 1)) (nomark _)) (de_one (de_callB (cr_all rfl) v_all (by rfl) Z.z_all (by decide +kernel) (da_cons (de_frz (do_lc (own := [("one", 3)]) rfl sc_is_row.nd (di_seq (de_var (pv 0))) (blkOk_by (N := ["value", "many", "length", "one"]) (sc := defScope s_is_row) (by decide +kernel)) (by decide) (fun _ _ _ _ _ => (dg_name (i := 3) sc_is_row.nd rfl (by first | exact Or.inl rfl | exact Or.inr rfl))) (fun _ _ _ _ _ => dts_nil) (fun _ _ _ _ _ => (de_call O_is_bits.fn (hr.mono (by decide)) takes0 (by rfl) O_is_bits.g O_is_bits.kp O_is_bits.b (da_cons (de_var (pv 3)) (da_cons (de_var (pv 2)) da_nil)))))) da_nil)))))))
theorem sc_is_generator : FnScope ["block"] ["block"] (defScope s_is_generator) := ⟨rfl, rfl, rfl, by decide +kernel, rfl, by decide +kernel, by decide +kernel⟩
theorem ok_is_generator {fd : FuncData} (F : FunD K (Str.ofString "is_generator") (Str.ofString "is_generator") (defArgs s_is_generator) (defBody s_is_generator) (defScope s_is_generator) [] [] (atK K "is_generator") fd) (g0 : mg (Str.ofString "is_generator") = some (.ref (atK K "is_generator"))) (Z : Bl mg) (V : Xs K mg) {fd_is_row : FuncData} (O_is_row : Ok P w K mg base 2 "is_row" ["value", "many", "length"] f_is_row fd_is_row) {fd_is_number : FuncData} (O_is_number : Ok P w K mg base 1 "is_number" ["value", "least", "most"] f_is_number fd_is_number) : Ok P w K mg base 3 "is_generator" ["block"] f_is_generator fd := by
  refine ⟨ok_def (at_ := atK K) F sc_is_generator fun cdv A outer s H E hr => ?_, FunD.bindsN F fun _ _ _ _ _ _ us hl => match us, hl with | [_], _ => rfl, g0, F.kp⟩
  have hu := hr.units
  have tk := takes_of (X := cxOf (L2.CX P w) P w K mg base ["block"] "is_generator" (defScope s_is_generator) (atK K "is_generator") cdv A outer s H E) rfl rfl rfl rfl
  have pz := passes_of (X := cxOf (L2.CX P w) P w K mg base ["block"] "is_generator" (defScope s_is_generator) (atK K "is_generator") cdv A outer s H E) rfl
  exact (dss_cons (ds_if (PW.pt (dw_or (dt_not (dt_val (de_callB call_isi v_isi (by rfl) Z.z_isinstance (by decide +kernel) (da_cons (de_var (pv 0)) (da_cons (de_ty (by rfl) Z.z_tuple boot_tuple) da_nil))))) (dw_or (dt_cmp (op_ne.or (op_neD hu)) v_ne (de_len (pv 0) (by rfl) Z.z_len) de_int (nomark _)) (dw_or1 (dt_cmp (op_ne.or (op_neD hu)) v_ne (de_ixV (pv 0) de_int (fun _ _ => rfl)) de_str (nomark _))))))
 (dss_one (ds_ret de_bl))
 dss_nil)
 (dss_cons (ds_if (PW.pt (dw_or (dt_not (dt_val (de_call O_is_number.fn (hr.mono (by decide)) tk (by rfl) O_is_number.g O_is_number.kp O_is_number.b (da_cons (de_ixV (pv 0) de_int (fun _ _ => rfl)) (da_cons de_int (da_cons de_int da_nil)))))) (dw_or1 (dt_not (dt_val (de_call O_is_number.fn (hr.mono (by decide)) tk (by rfl) O_is_number.g O_is_number.kp O_is_number.b (da_cons (de_ixV (pv 0) de_int (fun _ _ => rfl)) (da_cons de_int (da_cons (de_cint (by rfl) Z.c_MOST_LENGTH) da_nil)))))))))
 (dss_one (ds_ret de_bl))
 dss_nil)
 (dss_one (ds_ret (de_call O_is_row.fn (hr.mono (by decide)) tk (by rfl) O_is_row.g O_is_row.kp O_is_row.b (da_cons (de_ixV (pv 0) de_int (fun _ _ => rfl)) (da_cons (de_bin op_shl v_shl de_int (de_ixV (pv 0) de_int (fun _ _ => rfl))) (da_cons (de_ixV (pv 0) de_int (fun _ _ => rfl)) da_nil))))))))
theorem sc_fits_longer : FnScope ["block", "k"] ["block", "k"] (defScope s_fits_longer) := ⟨rfl, rfl, rfl, by decide +kernel, rfl, by decide +kernel, by decide +kernel⟩
theorem ok_fits_longer {fd : FuncData} (F : FunD K (Str.ofString "fits_longer") (Str.ofString "fits_longer") (defArgs s_fits_longer) (defBody s_fits_longer) (defScope s_fits_longer) [] [] (atK K "fits_longer") fd) (g0 : mg (Str.ofString "fits_longer") = some (.ref (atK K "fits_longer"))) (Z : Bl mg) (V : Xs K mg) {fd_is_generator : FuncData} (O_is_generator : Ok P w K mg base 3 "is_generator" ["block"] f_is_generator fd_is_generator) {fd_is_number : FuncData} (O_is_number : Ok P w K mg base 1 "is_number" ["value", "least", "most"] f_is_number fd_is_number) : Ok P w K mg base 4 "fits_longer" ["block", "k"] f_fits_longer fd := by
  refine ⟨ok_def (at_ := atK K) F sc_fits_longer fun cdv A outer s H E hr => ?_, FunD.bindsN F fun _ _ _ _ _ _ us hl => match us, hl with | [_, _], _ => rfl, g0, F.kp⟩
  have hu := hr.units
  have tk := takes_of (X := cxOf (L2.CX P w) P w K mg base ["block", "k"] "fits_longer" (defScope s_fits_longer) (atK K "fits_longer") cdv A outer s H E) rfl rfl rfl rfl
  have pz := passes_of (X := cxOf (L2.CX P w) P w K mg base ["block", "k"] "fits_longer" (defScope s_fits_longer) (atK K "fits_longer") cdv A outer s H E) rfl
  exact (dss_one (ds_ret (de_and (de_call O_is_generator.fn (hr.mono (by decide)) tk (by rfl) O_is_generator.g O_is_generator.kp O_is_generator.b (da_cons (de_var (pv 0)) da_nil)) (de_and (de_cmp (op_eq.or (op_eqD hu)) v_eq (de_ixV (pv 0) de_int (fun _ _ => rfl)) (de_bin (op_add.or (op_add_str.or op_catA)) v_add (de_ixV (pv 0) de_int (fun _ _ => rfl)) de_int) (nomark _)) (de_one (de_call O_is_number.fn (hr.mono (by decide)) tk (by rfl) O_is_number.g O_is_number.kp O_is_number.b (da_cons (de_var (pv 1)) (da_cons de_int (da_cons de_int da_nil)))))))))
theorem sc_fits_tree : FnScope ["block", "d", "q"] ["block", "d", "q"] (defScope s_fits_tree) := ⟨rfl, rfl, rfl, by decide +kernel, rfl, by decide +kernel, by decide +kernel⟩
theorem ok_fits_tree {fd : FuncData} (F : FunD K (Str.ofString "fits_tree") (Str.ofString "fits_tree") (defArgs s_fits_tree) (defBody s_fits_tree) (defScope s_fits_tree) [] [] (atK K "fits_tree") fd) (g0 : mg (Str.ofString "fits_tree") = some (.ref (atK K "fits_tree"))) (Z : Bl mg) (V : Xs K mg) {fd_is_number : FuncData} (O_is_number : Ok P w K mg base 1 "is_number" ["value", "least", "most"] f_is_number fd_is_number) {fd_is_generator : FuncData} (O_is_generator : Ok P w K mg base 3 "is_generator" ["block"] f_is_generator fd_is_generator) : Ok P w K mg base 4 "fits_tree" ["block", "d", "q"] f_fits_tree fd := by
  refine ⟨ok_def (at_ := atK K) F sc_fits_tree fun cdv A outer s H E hr => ?_, FunD.bindsN F fun _ _ _ _ _ _ us hl => match us, hl with | [_, _, _], _ => rfl, g0, F.kp⟩
  have hu := hr.units
  have tk := takes_of (X := cxOf (L2.CX P w) P w K mg base ["block", "d", "q"] "fits_tree" (defScope s_fits_tree) (atK K "fits_tree") cdv A outer s H E) rfl rfl rfl rfl
  have pz := passes_of (X := cxOf (L2.CX P w) P w K mg base ["block", "d", "q"] "fits_tree" (defScope s_fits_tree) (atK K "fits_tree") cdv A outer s H E) rfl
  exact (dss_cons (ds_if (PW.pt (dw_or (dt_not (dt_val (de_call O_is_generator.fn (hr.mono (by decide)) tk (by rfl) O_is_generator.g O_is_generator.kp O_is_generator.b (da_cons (de_var (pv 0)) da_nil)))) (dw_or (dt_cmp (op_ne.or (op_neD hu)) v_ne (de_ixV (pv 0) de_int (fun _ _ => rfl)) (de_bin (op_mul.or (op_mulS.or op_repT)) v_mul de_int (de_ixV (pv 0) de_int (fun _ _ => rfl))) (nomark _)) (dw_or1 (dt_cmp op_gt v_gt (de_ixV (pv 0) de_int (fun _ _ => rfl)) de_int (nomark _))))))
 (dss_one (ds_ret de_bl))
 dss_nil)
 (dss_one (ds_ret (de_and (de_call O_is_number.fn (hr.mono (by decide)) tk (by rfl) O_is_number.g O_is_number.kp O_is_number.b (da_cons (de_var (pv 1)) (da_cons de_int (da_cons de_int da_nil)))) (de_and (de_cmp op_le v_le (de_bin (op_add.or (op_add_str.or op_catA)) v_add (de_ixV (pv 0) de_int (fun _ _ => rfl)) (de_var (pv 1))) de_int (nomark _)) (de_one (de_call O_is_number.fn (hr.mono (by decide)) tk (by rfl) O_is_number.g O_is_number.kp O_is_number.b (da_cons (de_var (pv 2)) (da_cons de_int (da_cons (de_cint (by rfl) Z.c_MOST_ASKS) da_nil))))))))))
theorem sc_is_length : FnScope ["value"] ["value"] (defScope s_is_length) := ⟨rfl, rfl, rfl, by decide +kernel, rfl, by decide +kernel, by decide +kernel⟩
theorem ok_is_length {fd : FuncData} (F : FunD K (Str.ofString "is_length") (Str.ofString "is_length") (defArgs s_is_length) (defBody s_is_length) (defScope s_is_length) [] [] (atK K "is_length") fd) (g0 : mg (Str.ofString "is_length") = some (.ref (atK K "is_length"))) (Z : Bl mg) (V : Xs K mg) {fd_is_number : FuncData} (O_is_number : Ok P w K mg base 1 "is_number" ["value", "least", "most"] f_is_number fd_is_number) : Ok P w K mg base 2 "is_length" ["value"] f_is_length fd := by
  refine ⟨ok_def (at_ := atK K) F sc_is_length fun cdv A outer s H E hr => ?_, FunD.bindsN F fun _ _ _ _ _ _ us hl => match us, hl with | [_], _ => rfl, g0, F.kp⟩
  have hu := hr.units
  have tk := takes_of (X := cxOf (L2.CX P w) P w K mg base ["value"] "is_length" (defScope s_is_length) (atK K "is_length") cdv A outer s H E) rfl rfl rfl rfl
  have pz := passes_of (X := cxOf (L2.CX P w) P w K mg base ["value"] "is_length" (defScope s_is_length) (atK K "is_length") cdv A outer s H E) rfl
  exact (dss_one (ds_ret (de_call O_is_number.fn (hr.mono (by decide)) tk (by rfl) O_is_number.g O_is_number.kp O_is_number.b (da_cons (de_var (pv 0)) (da_cons de_int (da_cons (de_cint (by rfl) Z.c_MOST_LENGTH) da_nil))))))
theorem sc_fits_word : FnScope ["word", "parts"] ["word", "parts"] (defScope s_fits_word) := ⟨rfl, rfl, rfl, by decide +kernel, rfl, by decide +kernel, by decide +kernel⟩
theorem ok_fits_word {fd : FuncData} (F : FunD K (Str.ofString "fits_word") (Str.ofString "fits_word") (defArgs s_fits_word) (defBody s_fits_word) (defScope s_fits_word) [] [] (atK K "fits_word") fd) (g0 : mg (Str.ofString "fits_word") = some (.ref (atK K "fits_word"))) (Z : Bl mg) (V : Xs K mg) {fd_fits_longer : FuncData} (O_fits_longer : Ok P w K mg base 4 "fits_longer" ["block", "k"] f_fits_longer fd_fits_longer) {fd_fits_tree : FuncData} (O_fits_tree : Ok P w K mg base 4 "fits_tree" ["block", "d", "q"] f_fits_tree fd_fits_tree) {fd_is_length : FuncData} (O_is_length : Ok P w K mg base 2 "is_length" ["value"] f_is_length fd_is_length) {fd_is_number : FuncData} (O_is_number : Ok P w K mg base 1 "is_number" ["value", "least", "most"] f_is_number fd_is_number) {fd_is_bits : FuncData} (O_is_bits : Ok P w K mg base 1 "is_bits" ["value", "length"] f_is_bits fd_is_bits) {fd_is_generator : FuncData} (O_is_generator : Ok P w K mg base 3 "is_generator" ["block"] f_is_generator fd_is_generator) : Ok P w K mg base 5 "fits_word" ["word", "parts"] f_fits_word fd := by
  refine ⟨ok_def (at_ := atK K) F sc_fits_word fun cdv A outer s H E hr => ?_, FunD.bindsN F fun _ _ _ _ _ _ us hl => match us, hl with | [_, _], _ => rfl, g0, F.kp⟩
  have hu := hr.units
  have tk := takes_of (X := cxOf (L2.CX P w) P w K mg base ["word", "parts"] "fits_word" (defScope s_fits_word) (atK K "fits_word") cdv A outer s H E) rfl rfl rfl rfl
  have pz := passes_of (X := cxOf (L2.CX P w) P w K mg base ["word", "parts"] "fits_word" (defScope s_fits_word) (atK K "fits_word") cdv A outer s H E) rfl
  exact (dss_cons (ds_if (PW.pt (dw_and (dt_cmp (op_eq.or (op_eqD hu)) v_eq (de_var (pv 0)) de_str (nomark _)) (dw_and1 (dt_cmp (op_eq.or (op_eqD hu)) v_eq (de_len (pv 1) (by rfl) Z.z_len) de_int (nomark _)))))
 (dss_one (ds_ret (de_call O_fits_longer.fn (hr.mono (by decide)) tk (by rfl) O_fits_longer.g O_fits_longer.kp O_fits_longer.b (da_cons (de_ixV (pv 1) de_int (fun _ _ => rfl)) (da_cons (de_ixV (pv 1) de_int (fun _ _ => rfl)) da_nil)))))
 dss_nil)
 (dss_cons (ds_if (PW.pt (dw_and (dt_cmp (op_eq.or (op_eqD hu)) v_eq (de_var (pv 0)) de_str (nomark _)) (dw_and1 (dt_cmp (op_eq.or (op_eqD hu)) v_eq (de_len (pv 1) (by rfl) Z.z_len) de_int (nomark _)))))
 (dss_one (ds_ret (de_call O_fits_tree.fn (hr.mono (by decide)) tk (by rfl) O_fits_tree.g O_fits_tree.kp O_fits_tree.b (da_cons (de_ixV (pv 1) de_int (fun _ _ => rfl)) (da_cons (de_ixV (pv 1) de_int (fun _ _ => rfl)) (da_cons (de_ixV (pv 1) de_int (fun _ _ => rfl)) da_nil))))))
 dss_nil)
 (dss_cons (ds_if (PW.pt (dw_and (dt_cmp (op_in1.or op_in_seq) v_in (de_var (pv 0)) (de_tup (da_cons de_str (da_cons de_str da_nil))) (by rfl)) (dw_and1 (dt_cmp (op_eq.or (op_eqD hu)) v_eq (de_len (pv 1) (by rfl) Z.z_len) de_int (nomark _)))))
 (dss_one (ds_ret (de_and (de_call O_is_length.fn (hr.mono (by decide)) tk (by rfl) O_is_length.g O_is_length.kp O_is_length.b (da_cons (de_ixV (pv 1) de_int (fun _ _ => rfl)) da_nil)) (de_one (de_call O_is_length.fn (hr.mono (by decide)) tk (by rfl) O_is_length.g O_is_length.kp O_is_length.b (da_cons (de_ixV (pv 1) de_int (fun _ _ => rfl)) da_nil))))))
 dss_nil)
 (dss_cons (ds_if (PW.pt (dw_and (dt_cmp (op_in1.or op_in_seq) v_in (de_var (pv 0)) (de_tup (da_cons de_str (da_cons de_str (da_cons de_str (da_cons de_str da_nil))))) (by rfl)) (dw_and1 (dt_cmp (op_eq.or (op_eqD hu)) v_eq (de_len (pv 1) (by rfl) Z.z_len) de_int (nomark _)))))
 (dss_one (ds_ret (de_call O_is_length.fn (hr.mono (by decide)) tk (by rfl) O_is_length.g O_is_length.kp O_is_length.b (da_cons (de_ixV (pv 1) de_int (fun _ _ => rfl)) da_nil))))
 dss_nil)
 (dss_cons (ds_if (PW.pt (dw_and (dt_cmp (op_eq.or (op_eqD hu)) v_eq (de_var (pv 0)) de_str (nomark _)) (dw_and1 (dt_cmp (op_eq.or (op_eqD hu)) v_eq (de_len (pv 1) (by rfl) Z.z_len) de_int (nomark _)))))
 (dss_one (ds_ret (de_and (de_call O_is_length.fn (hr.mono (by decide)) tk (by rfl) O_is_length.g O_is_length.kp O_is_length.b (da_cons (de_ixV (pv 1) de_int (fun _ _ => rfl)) da_nil)) (de_and (de_call O_is_number.fn (hr.mono (by decide)) tk (by rfl) O_is_number.g O_is_number.kp O_is_number.b (da_cons (de_ixV (pv 1) de_int (fun _ _ => rfl)) (da_cons de_int (da_cons (de_cint (by rfl) Z.c_MOST_COUNTED) da_nil)))) (de_one (de_call O_is_length.fn (hr.mono (by decide)) tk (by rfl) O_is_length.g O_is_length.kp O_is_length.b (da_cons (de_ixV (pv 1) de_int (fun _ _ => rfl)) da_nil)))))))
 dss_nil)
 (dss_cons (ds_if (dt_cmp (op_eq.or (op_eqD hu)) v_eq (de_var (pv 0)) de_str (nomark _))
 (dss_one (ds_ret (de_cmp (op_eq.or (op_eqD hu)) v_eq (de_len (pv 1) (by rfl) Z.z_len) de_int (nomark _))))
 dss_nil)
 (dss_cons (ds_if (PW.pt (dw_and (dt_cmp (op_eq.or (op_eqD hu)) v_eq (de_var (pv 0)) de_str (nomark _)) (dw_and1 (dt_cmp (op_eq.or (op_eqD hu)) v_eq (de_len (pv 1) (by rfl) Z.z_len) de_int (nomark _)))))
 (dss_one (ds_ret (de_and (de_callB call_isi v_isi (by rfl) Z.z_isinstance (by decide +kernel) (da_cons (de_ixV (pv 1) de_int (fun _ _ => rfl)) (da_cons (de_ty (by rfl) Z.z_str boot_str) da_nil))) (de_and (de_call O_is_length.fn (hr.mono (by decide)) tk (by rfl) O_is_length.g O_is_length.kp O_is_length.b (da_cons (de_callB call_len v_len (by rfl) Z.z_len boot_len (da_cons (de_ixV (pv 1) de_int (fun _ _ => rfl)) da_nil)) da_nil)) (de_one (de_call O_is_bits.fn (hr.mono (by decide)) tk (by rfl) O_is_bits.g O_is_bits.kp O_is_bits.b (da_cons (de_ixV (pv 1) de_int (fun _ _ => rfl)) (da_cons (de_callB call_len v_len (by rfl) Z.z_len boot_len (da_cons (de_ixV (pv 1) de_int (fun _ _ => rfl)) da_nil)) da_nil))))))))
 dss_nil)
 (dss_cons (ds_if (PW.pt (dw_and (dt_cmp (op_eq.or (op_eqD hu)) v_eq (de_var (pv 0)) de_str (nomark _)) (dw_and1 (dt_cmp (op_eq.or (op_eqD hu)) v_eq (de_len (pv 1) (by rfl) Z.z_len) de_int (nomark _)))))
 (dss_one (ds_ret (de_and (de_call O_is_generator.fn (hr.mono (by decide)) tk (by rfl) O_is_generator.g O_is_generator.kp O_is_generator.b (da_cons (de_ixV (pv 1) de_int (fun _ _ => rfl)) da_nil)) (de_one (de_call O_is_number.fn (hr.mono (by decide)) tk (by rfl) O_is_number.g O_is_number.kp O_is_number.b (da_cons (de_ixV (pv 1) de_int (fun _ _ => rfl)) (da_cons de_int (da_cons de_int da_nil))))))))
 dss_nil)
 (dss_one (ds_ret (de_and (de_cmp (op_eq.or (op_eqD hu)) v_eq (de_var (pv 0)) de_str (nomark _)) (de_and (de_cmp (op_eq.or (op_eqD hu)) v_eq (de_len (pv 1) (by rfl) Z.z_len) de_int (nomark _)) (de_one (de_call O_is_number.fn (hr.mono (by decide)) tk (by rfl) O_is_number.g O_is_number.kp O_is_number.b (da_cons (de_ixV (pv 1) de_int (fun _ _ => rfl)) (da_cons de_int (da_cons de_int da_nil)))))))))))))))))
theorem sc_check_breaker : FnScope ["breaker", "layers", "word"] ["breaker"] (defScope s_check_breaker) := ⟨rfl, rfl, rfl, by decide +kernel, rfl, by decide +kernel, by decide +kernel⟩
theorem ok_check_breaker {fd : FuncData} (F : FunD K (Str.ofString "check_breaker") (Str.ofString "check_breaker") (defArgs s_check_breaker) (defBody s_check_breaker) (defScope s_check_breaker) [] [] (atK K "check_breaker") fd) (g0 : mg (Str.ofString "check_breaker") = some (.ref (atK K "check_breaker"))) (Z : Bl mg) (V : Xs K mg) {fd_check_plain : FuncData} (O_check_plain : Ok P w K mg base 4 "check_plain" ["breaker"] f_check_plain fd_check_plain) {fd_has_plain_word : FuncData} (O_has_plain_word : Ok P w K mg base 1 "has_plain_word" ["value"] f_has_plain_word fd_has_plain_word) {fd_fits_word : FuncData} (O_fits_word : Ok P w K mg base 5 "fits_word" ["word", "parts"] f_fits_word fd_fits_word) : Ok P w K mg base 6 "check_breaker" ["breaker"] f_check_breaker fd := by
  refine ⟨ok_def (at_ := atK K) F sc_check_breaker fun cdv A outer s H E hr => ?_, FunD.bindsN F fun _ _ _ _ _ _ us hl => match us, hl with | [_], _ => rfl, g0, F.kp⟩
  have hu := hr.units
  have tk := takes_of (X := cxOf (L2.CX P w) P w K mg base ["breaker", "layers", "word"] "check_breaker" (defScope s_check_breaker) (atK K "check_breaker") cdv A outer s H E) rfl rfl rfl rfl
  have pz := passes_of (X := cxOf (L2.CX P w) P w K mg base ["breaker", "layers", "word"] "check_breaker" (defScope s_check_breaker) (atK K "check_breaker") cdv A outer s H E) rfl
  exact (dss_cons (ds_set (i := 1) sc_check_breaker.nd rfl (by first | exact Or.inl rfl | exact Or.inr rfl) de_int)
 (dss_cons (ds_set (i := 2) sc_check_breaker.nd rfl (by first | exact Or.inl rfl | exact Or.inr rfl) de_non)
 (dss_cons (ds_while pz (dt_not (dt_val (de_call O_has_plain_word.fn (hr.mono (by decide)) tk (by rfl) O_has_plain_word.g O_has_plain_word.kp O_has_plain_word.b (da_cons (de_var (pv 0)) da_nil))))
 (dss_cons (ds_if (PW.pt (dw_or (dt_not (dt_val (de_callB call_isi v_isi (by rfl) Z.z_isinstance (by decide +kernel) (da_cons (de_var (pv 0)) (da_cons (de_ty (by rfl) Z.z_tuple boot_tuple) da_nil))))) (dw_or (dt_cmp op_lt v_lt (de_len (pv 0) (by rfl) Z.z_len) de_int (nomark _)) (dw_or1 (dt_not (dt_val (de_callB call_isi v_isi (by rfl) Z.z_isinstance (by decide +kernel) (da_cons (de_ixV (pv 0) de_int (fun _ _ => rfl)) (da_cons (de_ty (by rfl) Z.z_str boot_str) da_nil)))))))))
 (dss_one (ds_raiseD (c := "BadBreaker") rfl tk V.x_BadBreaker (by rfl)))
 dss_nil)
 (dss_cons (ds_if (PW.pt (dw_or (dt_cmp (op_eq.or (op_eqD hu)) v_eq (de_var (pv 2)) de_str (nomark _)) (dw_or1 (dt_not (dt_val (de_call O_fits_word.fn (hr.mono (by decide)) tk (by rfl) O_fits_word.g O_fits_word.kp O_fits_word.b (da_cons (de_ixV (pv 0) de_int (fun _ _ => rfl)) (da_cons (de_slice (de_var (pv 0)) (dp_some de_int) (dp_some (de_un un_neg v_neg de_int))) da_nil))))))))
 (dss_one (ds_raiseD (c := "BadBreaker") rfl tk V.x_BadBreaker (by rfl)))
 dss_nil)
 (dss_cons (ds_aug (i := 1) sc_check_breaker.nd rfl (by first | exact Or.inl rfl | exact Or.inr rfl) de_int ip_add v_ipadd)
 (dss_cons (ds_if (dt_cmp op_gt v_gt (de_var (pv 1)) (de_cint (by rfl) Z.c_MOST_LAYERS) (nomark _))
 (dss_one (ds_raiseD (c := "BadBreaker") rfl tk V.x_BadBreaker (by rfl)))
 dss_nil)
 (dss_one (ds_par (i := 2) (j := 0) rfl sc_check_breaker.nd rfl rfl (by decide) rfl rfl (da_cons (de_ixV (pv 0) de_int (fun _ _ => rfl)) (da_cons (de_ixV (pv 0) (de_un un_neg v_neg de_int) (fun _ _ => rfl)) da_nil)) (by rfl))))))))
 (dss_one (ds_expr (de_call O_check_plain.fn (hr.mono (by decide)) tk (by rfl) O_check_plain.g O_check_plain.kp O_check_plain.b (da_cons (de_var (pv 0)) da_nil)))))))
theorem sc_most_plain_asks : FnScope ["breaker", "most", "waiting", "one", "asks", "inner"] ["breaker"] (defScope s_most_plain_asks) := ⟨rfl, rfl, rfl, by decide +kernel, rfl, by decide +kernel, by decide +kernel⟩
theorem ok_most_plain_asks {fd : FuncData} (F : FunD K (Str.ofString "most_plain_asks") (Str.ofString "most_plain_asks") (defArgs s_most_plain_asks) (defBody s_most_plain_asks) (defScope s_most_plain_asks) [] [] (atK K "most_plain_asks") fd) (g0 : mg (Str.ofString "most_plain_asks") = some (.ref (atK K "most_plain_asks"))) (Z : Bl mg) (V : Xs K mg) {fd_inner_plain : FuncData} (O_inner_plain : Ok P w K mg base 3 "inner_plain" ["breaker"] f_inner_plain fd_inner_plain) : Ok P w K mg base 4 "most_plain_asks" ["breaker"] f_most_plain_asks fd := by
  refine ⟨ok_def (at_ := atK K) F sc_most_plain_asks fun cdv A outer s H E hr => ?_, FunD.bindsN F fun _ _ _ _ _ _ us hl => match us, hl with | [_], _ => rfl, g0, F.kp⟩
  have hu := hr.units
  have tk := takes_of (X := cxOf (L2.CX P w) P w K mg base ["breaker", "most", "waiting", "one", "asks", "inner"] "most_plain_asks" (defScope s_most_plain_asks) (atK K "most_plain_asks") cdv A outer s H E) rfl rfl rfl rfl
  have pz := passes_of (X := cxOf (L2.CX P w) P w K mg base ["breaker", "most", "waiting", "one", "asks", "inner"] "most_plain_asks" (defScope s_most_plain_asks) (atK K "most_plain_asks") cdv A outer s H E) rfl
  exact (dss_cons (ds_set (i := 1) sc_most_plain_asks.nd rfl (by first | exact Or.inl rfl | exact Or.inr rfl) de_int)
 (dss_cons (ds_setO (i := 2) sc_most_plain_asks.nd rfl (by first | exact Or.inl rfl | exact Or.inr rfl) (do_lst (da_cons (de_tup (da_cons (de_var (pv 0)) (da_cons de_int da_nil))) da_nil)))
 (dss_cons (ds_while pz (dt_cmp op_gt v_gt (de_len (pv 2) (by rfl) Z.z_len) de_int (nomark _))
 (dss_cons (ds_asg (de_pop (pv 2)) (dg_tup rfl (dgs_cons (dg_name (i := 3) sc_most_plain_asks.nd rfl (by first | exact Or.inl rfl | exact Or.inr rfl)) (dgs_cons (dg_name (i := 4) sc_most_plain_asks.nd rfl (by first | exact Or.inl rfl | exact Or.inr rfl)) dgs_nil))))
 (dss_cons (ds_set (i := 1) sc_most_plain_asks.nd rfl (by first | exact Or.inl rfl | exact Or.inr rfl) (de_callB (call_max2 rfl) v_max2 (by rfl) Z.z_max (by decide +kernel) (da_cons (de_var (pv 1)) (da_cons (de_bin (op_add.or (op_add_str.or op_catA)) v_add (de_var (pv 4)) (de_callTy (CallR.or call_int1 call_int_str) v_int1 (by rfl) Z.z_int (by decide +kernel) (da_cons (de_cmp (op_eq.or (op_eqD hu)) v_eq (de_ixV (pv 3) de_int (fun _ _ => rfl)) de_str (nomark _)) da_nil))) da_nil))))
 (dss_one (ds_expr (de_ext (pv 2) (do_lc (own := [("inner", 5)]) rfl sc_most_plain_asks.nd (di_seq (de_call O_inner_plain.fn (hr.mono (by decide)) tk (by rfl) O_inner_plain.g O_inner_plain.kp O_inner_plain.b (da_cons (de_var (pv 3)) da_nil))) (blkOk_by (N := ["breaker", "most", "waiting", "one", "asks", "inner"]) (sc := defScope s_most_plain_asks) (by decide +kernel)) (by decide) (fun _ _ _ _ _ => (dg_name (i := 5) sc_most_plain_asks.nd rfl (by first | exact Or.inl rfl | exact Or.inr rfl))) (fun _ _ _ _ _ => dts_nil) (fun _ _ _ _ _ => (de_tup (da_cons (de_var (pv 5)) (da_cons (de_bin (op_add.or (op_add_str.or op_catA)) v_add (de_var (pv 4)) (de_callTy (CallR.or call_int1 call_int_str) v_int1 (by rfl) Z.z_int (by decide +kernel) (da_cons (de_cmp (op_eq.or (op_eqD hu)) v_eq (de_ixV (pv 3) de_int (fun _ _ => rfl)) de_str (nomark _)) da_nil))) da_nil)))))))))))
 (dss_one (ds_ret (de_var (pv 1)))))))
theorem sc_most_asks : FnScope ["breaker", "more"] ["breaker"] (defScope s_most_asks) := ⟨rfl, rfl, rfl, by decide +kernel, rfl, by decide +kernel, by decide +kernel⟩
theorem ok_most_asks {fd : FuncData} (F : FunD K (Str.ofString "most_asks") (Str.ofString "most_asks") (defArgs s_most_asks) (defBody s_most_asks) (defScope s_most_asks) [] [] (atK K "most_asks") fd) (g0 : mg (Str.ofString "most_asks") = some (.ref (atK K "most_asks"))) (Z : Bl mg) (V : Xs K mg) {fd_check_breaker : FuncData} (O_check_breaker : Ok P w K mg base 6 "check_breaker" ["breaker"] f_check_breaker fd_check_breaker) {fd_has_plain_word : FuncData} (O_has_plain_word : Ok P w K mg base 1 "has_plain_word" ["value"] f_has_plain_word fd_has_plain_word) {fd_most_plain_asks : FuncData} (O_most_plain_asks : Ok P w K mg base 4 "most_plain_asks" ["breaker"] f_most_plain_asks fd_most_plain_asks) : Ok P w K mg base 7 "most_asks" ["breaker"] f_most_asks fd := by
  refine ⟨ok_def (at_ := atK K) F sc_most_asks fun cdv A outer s H E hr => ?_, FunD.bindsN F fun _ _ _ _ _ _ us hl => match us, hl with | [_], _ => rfl, g0, F.kp⟩
  have hu := hr.units
  have tk := takes_of (X := cxOf (L2.CX P w) P w K mg base ["breaker", "more"] "most_asks" (defScope s_most_asks) (atK K "most_asks") cdv A outer s H E) rfl rfl rfl rfl
  have pz := passes_of (X := cxOf (L2.CX P w) P w K mg base ["breaker", "more"] "most_asks" (defScope s_most_asks) (atK K "most_asks") cdv A outer s H E) rfl
  exact (dss_cons (ds_expr (de_call O_check_breaker.fn (hr.mono (by decide)) tk (by rfl) O_check_breaker.g O_check_breaker.kp O_check_breaker.b (da_cons (de_var (pv 0)) da_nil)))
 (dss_cons (ds_set (i := 1) sc_most_asks.nd rfl (by first | exact Or.inl rfl | exact Or.inr rfl) de_int)
 (dss_cons (ds_while pz (dt_not (dt_val (de_call O_has_plain_word.fn (hr.mono (by decide)) tk (by rfl) O_has_plain_word.g O_has_plain_word.kp O_has_plain_word.b (da_cons (de_var (pv 0)) da_nil))))
 (dss_cons (ds_if (dt_cmp (op_eq.or (op_eqD hu)) v_eq (de_ixV (pv 0) de_int (fun _ _ => rfl)) de_str (nomark _))
 (dss_one (ds_ret (de_bin (op_add.or (op_add_str.or op_catA)) v_add (de_var (pv 1)) (de_ixV (pv 0) de_int (fun _ _ => rfl)))))
 dss_nil)
 (dss_cons (ds_if (dt_cmp (op_notIn1.or op_notIn_seq) v_notIn (de_ixV (pv 0) de_int (fun _ _ => rfl)) (de_tup (da_cons de_str (da_cons de_str da_nil))) (by rfl))
 (dss_one (ds_ret (de_var (pv 1))))
 dss_nil)
 (dss_cons (ds_aug (i := 1) sc_most_asks.nd rfl (by first | exact Or.inl rfl | exact Or.inr rfl) (de_callTy (CallR.or call_int1 call_int_str) v_int1 (by rfl) Z.z_int (by decide +kernel) (da_cons (de_cmp (op_eq.or (op_eqD hu)) v_eq (de_ixV (pv 0) de_int (fun _ _ => rfl)) de_str (nomark _)) da_nil)) ip_add v_ipadd)
 (dss_one (ds_set (i := 0) sc_most_asks.nd rfl (by first | exact Or.inl rfl | exact Or.inr rfl) (de_ixV (pv 0) (de_un un_neg v_neg de_int) (fun _ _ => rfl))))))))
 (dss_one (ds_ret (de_bin (op_add.or (op_add_str.or op_catA)) v_add (de_var (pv 1)) (de_call O_most_plain_asks.fn (hr.mono (by decide)) tk (by rfl) O_most_plain_asks.g O_most_plain_asks.kp O_most_plain_asks.b (da_cons (de_var (pv 0)) da_nil))))))))
theorem sc_u_law_most : FnScope ["breaker", "kind", "one"] ["breaker"] (defScope s_u_law_most) := ⟨rfl, rfl, rfl, by decide +kernel, rfl, by decide +kernel, by decide +kernel⟩
theorem ok_u_law_most {fd : FuncData} (F : FunD K (Str.ofString "_law_most") (Str.ofString "_law_most") (defArgs s_u_law_most) (defBody s_u_law_most) (defScope s_u_law_most) [] [] (atK K "_law_most") fd) (g0 : mg (Str.ofString "_law_most") = some (.ref (atK K "_law_most"))) (Z : Bl mg) (V : Xs K mg)  : ∀ d : Nat, Ok P w K mg base (d + 1) "_law_most" ["breaker"] (f_u_law_most d) fd := by
  intro d
  induction d with
  | zero => exact ⟨ok_def (at_ := atK K) F sc_u_law_most fun cdv A outer s H E hr => dss_bad, FunD.bindsN F fun _ _ _ _ _ _ us hl => match us, hl with | [_], _ => rfl, g0, F.kp⟩
  | succ d ih =>
    refine ⟨ok_def (at_ := atK K) F sc_u_law_most fun cdv A outer s H E hr => ?_, FunD.bindsN F fun _ _ _ _ _ _ us hl => match us, hl with | [_], _ => rfl, g0, F.kp⟩
    have hr : Room (d + 1) _ := hr
    have hu := hr.units
    have tk := takes_of (X := cxOf (L2.CX P w) P w K mg base ["breaker", "kind", "one"] "_law_most" (defScope s_u_law_most) (atK K "_law_most") cdv A outer s H E) rfl rfl rfl rfl
    have pz := passes_of (X := cxOf (L2.CX P w) P w K mg base ["breaker", "kind", "one"] "_law_most" (defScope s_u_law_most) (atK K "_law_most") cdv A outer s H E) rfl
    exact (dss_cons (ds_set (i := 1) sc_u_law_most.nd rfl (by first | exact Or.inl rfl | exact Or.inr rfl) (de_ixV (pv 0) de_int (fun _ _ => rfl)))
   (dss_cons (ds_if (dt_cmp (op_eq.or (op_eqD hu)) v_eq (de_var (pv 1)) de_str (nomark _))
   (dss_one (ds_ret de_int))
   dss_nil)
   (dss_cons (ds_if (dt_cmp (op_eq.or (op_eqD hu)) v_eq (de_var (pv 1)) de_str (nomark _))
   (dss_one (ds_ret (de_bin (op_add.or (op_add_str.or op_catA)) v_add de_int (de_call ih.fn (hr.mono (by omega)) tk (by rfl) ih.g ih.kp ih.b (da_cons (de_ixV (pv 0) de_int (fun _ _ => rfl)) da_nil)))))
   dss_nil)
   (dss_cons (ds_if (dt_cmp (op_eq.or (op_eqD hu)) v_eq (de_var (pv 1)) de_str (nomark _))
   (dss_one (ds_ret (de_callB (call_max2 rfl) v_max2 (by rfl) Z.z_max (by decide +kernel) (da_cons (de_callTy (CallR.or call_int1 call_int_str) v_int1 (by rfl) Z.z_int (by decide +kernel) (da_cons (de_call ih.fn (hr.mono (by omega)) tk (by rfl) ih.g ih.kp ih.b (da_cons (de_ixV (pv 0) de_int (fun _ _ => rfl)) da_nil)) da_nil)) (da_cons (de_callTy (CallR.or call_int1 call_int_str) v_int1 (by rfl) Z.z_int (by decide +kernel) (da_cons (de_call ih.fn (hr.mono (by omega)) tk (by rfl) ih.g ih.kp ih.b (da_cons (de_ixV (pv 0) de_int (fun _ _ => rfl)) da_nil)) da_nil)) da_nil)))))
   dss_nil)
   (dss_cons (ds_if (dt_cmp (op_eq.or (op_eqD hu)) v_eq (de_var (pv 1)) de_str (nomark _))
   (dss_one (ds_ret (de_callB (cr_max rfl) v_maxL (by rfl) Z.z_max (by decide +kernel) (da_cons (de_frz (do_lc (own := [("one", 2)]) rfl sc_u_law_most.nd (di_seq (de_ixV (pv 0) de_int (fun _ _ => rfl))) (blkOk_by (N := ["breaker", "kind", "one"]) (sc := defScope s_u_law_most) (by decide +kernel)) (by decide) (fun _ _ _ _ _ => (dg_name (i := 2) sc_u_law_most.nd rfl (by first | exact Or.inl rfl | exact Or.inr rfl))) (fun _ _ _ _ _ => dts_nil) (fun _ _ _ _ _ => (de_callTy (CallR.or call_int1 call_int_str) v_int1 (by rfl) Z.z_int (by decide +kernel) (da_cons (de_call ih.fn (hr.mono (by omega)) takes0 (by rfl) ih.g ih.kp ih.b (da_cons (de_var (pv 2)) da_nil)) da_nil))))) da_nil))))
   dss_nil)
   (dss_cons (ds_if (dt_cmp (op_eq.or (op_eqD hu)) v_eq (de_var (pv 1)) de_str (nomark _))
   (dss_one (ds_ret (de_bin (op_add.or (op_add_str.or op_catA)) v_add de_int (de_call ih.fn (hr.mono (by omega)) tk (by rfl) ih.g ih.kp ih.b (da_cons (de_ixV (pv 0) de_int (fun _ _ => rfl)) da_nil)))))
   dss_nil)
   (dss_cons (ds_if (dt_cmp (op_eq.or (op_eqD hu)) v_eq (de_var (pv 1)) de_str (nomark _))
   (dss_one (ds_ret (de_call ih.fn (hr.mono (by omega)) tk (by rfl) ih.g ih.kp ih.b (da_cons (de_ixV (pv 0) de_int (fun _ _ => rfl)) da_nil))))
   dss_nil)
   (dss_cons (ds_if (dt_cmp (op_eq.or (op_eqD hu)) v_eq (de_var (pv 1)) de_str (nomark _))
   (dss_one (ds_ret (de_ixV (pv 0) de_int (fun _ _ => rfl))))
   dss_nil)
   (dss_one (ds_ret de_int))))))))))
theorem sc_u_law_is_right : FnScope ["breaker", "found"] ["breaker"] (defScope s_u_law_is_right) := ⟨rfl, rfl, rfl, by decide +kernel, rfl, by decide +kernel, by decide +kernel⟩
theorem ok_u_law_is_right {fd : FuncData} (F : FunD K (Str.ofString "_law_is_right") (Str.ofString "_law_is_right") (defArgs s_u_law_is_right) (defBody s_u_law_is_right) (defScope s_u_law_is_right) [] [] (atK K "_law_is_right") fd) (g0 : mg (Str.ofString "_law_is_right") = some (.ref (atK K "_law_is_right"))) (Z : Bl mg) (V : Xs K mg) {fd_most_asks : FuncData} (O_most_asks : Ok P w K mg base 7 "most_asks" ["breaker"] f_most_asks fd_most_asks) {fd_u_law_most : FuncData} (O_u_law_most : Ok P w K mg base 63 "_law_most" ["breaker"] (f_u_law_most 62) fd_u_law_most) : Ok P w K mg base 64 "_law_is_right" ["breaker"] f_u_law_is_right fd := by
  refine ⟨ok_def (at_ := atK K) F sc_u_law_is_right fun cdv A outer s H E hr => ?_, FunD.bindsN F fun _ _ _ _ _ _ us hl => match us, hl with | [_], _ => rfl, g0, F.kp⟩
  have hu := hr.units
  have tk := takes_of (X := cxOf (L2.CX P w) P w K mg base ["breaker", "found"] "_law_is_right" (defScope s_u_law_is_right) (atK K "_law_is_right") cdv A outer s H E) rfl rfl rfl rfl
  have pz := passes_of (X := cxOf (L2.CX P w) P w K mg base ["breaker", "found"] "_law_is_right" (defScope s_u_law_is_right) (atK K "_law_is_right") cdv A outer s H E) rfl
  exact (dss_cons (ds_set (i := 1) sc_u_law_is_right.nd rfl (by first | exact Or.inl rfl | exact Or.inr rfl) (de_call O_most_asks.fn (hr.mono (by decide)) tk (by rfl) O_most_asks.g O_most_asks.kp O_most_asks.b (da_cons (de_var (pv 0)) da_nil)))
 (dss_one (ds_ret (de_and (de_callB call_isi v_isi (by rfl) Z.z_isinstance (by decide +kernel) (da_cons (de_var (pv 1)) (da_cons (de_ty (by rfl) Z.z_int boot_int) da_nil))) (de_and (de_not (de_callB call_isi v_isi (by rfl) Z.z_isinstance (by decide +kernel) (da_cons (de_var (pv 1)) (da_cons (de_ty (by rfl) Z.z_bool boot_bool) da_nil)))) (de_one (de_cmp (op_eq.or (op_eqD hu)) v_eq (de_var (pv 1)) (de_call O_u_law_most.fn (hr.mono (by decide)) tk (by rfl) O_u_law_most.g O_u_law_most.kp O_u_law_most.b (da_cons (de_var (pv 0)) da_nil)) (nomark _))))))))
theorem sc_u_law_string : FnScope ["hand", "length", "k"] ["hand", "length"] (defScope s_u_law_string) := ⟨rfl, rfl, rfl, by decide +kernel, rfl, by decide +kernel, by decide +kernel⟩
theorem ok_u_law_string {fd : FuncData} (F : FunD K (Str.ofString "_law_string") (Str.ofString "_law_string") (defArgs s_u_law_string) (defBody s_u_law_string) (defScope s_u_law_string) [] [] (atK K "_law_string") fd) (g0 : mg (Str.ofString "_law_string") = some (.ref (atK K "_law_string"))) (Z : Bl mg) (V : Xs K mg) {fd_u_law_take : FuncData} (O_u_law_take : Ok P w K mg base 1 "_law_take" ["hand", "many"] f_u_law_take fd_u_law_take) : Ok P w K mg base 2 "_law_string" ["hand", "length"] f_u_law_string fd := by
  refine ⟨ok_def (at_ := atK K) F sc_u_law_string fun cdv A outer s H E hr => ?_, FunD.bindsN F fun _ _ _ _ _ _ us hl => match us, hl with | [_, _], _ => rfl, g0, F.kp⟩
  have hu := hr.units
  have tk := takes_of (X := cxOf (L2.CX P w) P w K mg base ["hand", "length", "k"] "_law_string" (defScope s_u_law_string) (atK K "_law_string") cdv A outer s H E) rfl rfl rfl rfl
  have pz := passes_of (X := cxOf (L2.CX P w) P w K mg base ["hand", "length", "k"] "_law_string" (defScope s_u_law_string) (atK K "_law_string") cdv A outer s H E) rfl
  exact (dss_one (ds_ret (de_mtS PySem.F.slot_str_join PySem.F.type_str_join mt_join v_join de_str (da_cons (de_frz (do_lc (own := [("k", 2)]) rfl sc_u_law_string.nd (di_range1 (by rfl) Z.z_range (da_cons (de_var (pv 1)) da_nil)) (blkOk_by (N := ["hand", "length", "k"]) (sc := defScope s_u_law_string) (by decide +kernel)) (by decide) (fun _ _ _ _ _ => (dg_name (i := 2) sc_u_law_string.nd rfl (by first | exact Or.inl rfl | exact Or.inr rfl))) (fun _ _ _ _ _ => dts_nil) (fun _ _ _ _ _ => (de_ix (de_frz (do_lst (da_cons de_str (da_cons de_str da_nil)))) (de_call O_u_law_take.fn (hr.mono (by decide)) takes0 (by rfl) O_u_law_take.g O_u_law_take.kp O_u_law_take.b (da_cons (de_var (pv 0)) (da_cons de_int da_nil))) (fun _ _ => rfl))))) da_nil))))
theorem sc_u_law_table : FnScope ["hand", "n", "m", "rows", "k"] ["hand", "n", "m"] (defScope s_u_law_table) := ⟨rfl, rfl, rfl, by decide +kernel, rfl, by decide +kernel, by decide +kernel⟩
theorem ok_u_law_table {fd : FuncData} (F : FunD K (Str.ofString "_law_table") (Str.ofString "_law_table") (defArgs s_u_law_table) (defBody s_u_law_table) (defScope s_u_law_table) [] [] (atK K "_law_table") fd) (g0 : mg (Str.ofString "_law_table") = some (.ref (atK K "_law_table"))) (Z : Bl mg) (V : Xs K mg) {fd_u_law_string : FuncData} (O_u_law_string : Ok P w K mg base 2 "_law_string" ["hand", "length"] f_u_law_string fd_u_law_string) : Ok P w K mg base 3 "_law_table" ["hand", "n", "m"] f_u_law_table fd := by
  refine ⟨ok_def (at_ := atK K) F sc_u_law_table fun cdv A outer s H E hr => ?_, FunD.bindsN F fun _ _ _ _ _ _ us hl => match us, hl with | [_, _, _], _ => rfl, g0, F.kp⟩
  have hu := hr.units
  have tk := takes_of (X := cxOf (L2.CX P w) P w K mg base ["hand", "n", "m", "rows", "k"] "_law_table" (defScope s_u_law_table) (atK K "_law_table") cdv A outer s H E) rfl rfl rfl rfl
  have pz := passes_of (X := cxOf (L2.CX P w) P w K mg base ["hand", "n", "m", "rows", "k"] "_law_table" (defScope s_u_law_table) (atK K "_law_table") cdv A outer s H E) rfl
  exact (dss_cons (ds_setLc (i := 3) (own := [("k", 4)]) lc_dat rfl sc_u_law_table.nd rfl rfl (sw_true rfl rfl rfl (by decide +kernel)) (di_range1 (by rfl) Z.z_range (da_cons (de_bin op_shl v_shl de_int (de_var (pv 1))) da_nil)) (blkOk_by (N := ["hand", "n", "m", "rows", "k"]) (sc := defScope s_u_law_table) (by decide +kernel)) (by decide) (fun _ _ _ _ _ => (dg_name (i := 4) sc_u_law_table.nd rfl (by first | exact Or.inl rfl | exact Or.inr rfl))) (fun _ _ _ _ _ => dts_nil) (fun _ _ _ _ _ => (de_call O_u_law_string.fn (hr.mono (by decide)) takes0 (by rfl) O_u_law_string.g O_u_law_string.kp O_u_law_string.b (da_cons (de_var (pv 0)) (da_cons (de_var (pv 2)) da_nil)))))
 (dss_one (ds_ret (de_tup (da_cons de_str (da_cons (de_var (pv 1)) (da_cons (de_var (pv 2)) (da_cons (de_callTy call_tuple_of v_tuple (by rfl) Z.z_tuple (by decide +kernel) (da_cons (de_var (pv 3)) da_nil)) da_nil))))))))
theorem sc_u_law_made : FnScope ["hand", "inner", "kind", "n", "some"] ["hand", "inner"] (defScope s_u_law_made) := ⟨rfl, rfl, rfl, by decide +kernel, rfl, by decide +kernel, by decide +kernel⟩
theorem ok_u_law_made {fd : FuncData} (F : FunD K (Str.ofString "_law_made") (Str.ofString "_law_made") (defArgs s_u_law_made) (defBody s_u_law_made) (defScope s_u_law_made) [] [] (atK K "_law_made") fd) (g0 : mg (Str.ofString "_law_made") = some (.ref (atK K "_law_made"))) (Z : Bl mg) (V : Xs K mg) {fd_u_law_take : FuncData} (O_u_law_take : Ok P w K mg base 1 "_law_take" ["hand", "many"] f_u_law_take fd_u_law_take) {fd_u_law_table : FuncData} (O_u_law_table : Ok P w K mg base 3 "_law_table" ["hand", "n", "m"] f_u_law_table fd_u_law_table) {fd_u_law_string : FuncData} (O_u_law_string : Ok P w K mg base 2 "_law_string" ["hand", "length"] f_u_law_string fd_u_law_string) : Ok P w K mg base 4 "_law_made" ["hand", "inner"] f_u_law_made fd := by
  refine ⟨ok_def (at_ := atK K) F sc_u_law_made fun cdv A outer s H E hr => ?_, FunD.bindsN F fun _ _ _ _ _ _ us hl => match us, hl with | [_, _], _ => rfl, g0, F.kp⟩
  have hu := hr.units
  have tk := takes_of (X := cxOf (L2.CX P w) P w K mg base ["hand", "inner", "kind", "n", "some"] "_law_made" (defScope s_u_law_made) (atK K "_law_made") cdv A outer s H E) rfl rfl rfl rfl
  have pz := passes_of (X := cxOf (L2.CX P w) P w K mg base ["hand", "inner", "kind", "n", "some"] "_law_made" (defScope s_u_law_made) (atK K "_law_made") cdv A outer s H E) rfl
  exact (dss_cons (ds_set (i := 2) sc_u_law_made.nd rfl (by first | exact Or.inl rfl | exact Or.inr rfl) (de_call O_u_law_take.fn (hr.mono (by decide)) tk (by rfl) O_u_law_take.g O_u_law_take.kp O_u_law_take.b (da_cons (de_var (pv 0)) (da_cons de_int da_nil))))
 (dss_cons (ds_set (i := 3) sc_u_law_made.nd rfl (by first | exact Or.inl rfl | exact Or.inr rfl) (de_bin (op_add.or (op_add_str.or op_catA)) v_add de_int (de_call O_u_law_take.fn (hr.mono (by decide)) tk (by rfl) O_u_law_take.g O_u_law_take.kp O_u_law_take.b (da_cons (de_var (pv 0)) (da_cons de_int da_nil)))))
 (dss_cons (ds_set (i := 4) sc_u_law_made.nd rfl (by first | exact Or.inl rfl | exact Or.inr rfl) (de_ix (de_frz (do_lst (da_cons de_int (da_cons de_int (da_cons (de_bin (op_add.or (op_add_str.or op_catA)) v_add de_int (de_call O_u_law_take.fn (hr.mono (by decide)) tk (by rfl) O_u_law_take.g O_u_law_take.kp O_u_law_take.b (da_cons (de_var (pv 0)) (da_cons de_int da_nil)))) da_nil))))) (de_call O_u_law_take.fn (hr.mono (by decide)) tk (by rfl) O_u_law_take.g O_u_law_take.kp O_u_law_take.b (da_cons (de_var (pv 0)) (da_cons de_int da_nil))) (fun _ _ => rfl)))
 (dss_cons (ds_if (dt_cmp (op_eq.or (op_eqD hu)) v_eq (de_var (pv 2)) de_int (nomark _))
 (dss_one (ds_ret (de_tup (da_cons de_str (da_cons (de_call O_u_law_table.fn (hr.mono (by decide)) tk (by rfl) O_u_law_table.g O_u_law_table.kp O_u_law_table.b (da_cons (de_var (pv 0)) (da_cons (de_var (pv 3)) (da_cons (de_bin (op_add.or (op_add_str.or op_catA)) v_add (de_var (pv 3)) de_int) da_nil)))) (da_cons (de_bin (op_add.or (op_add_str.or op_catA)) v_add de_int (de_call O_u_law_take.fn (hr.mono (by decide)) tk (by rfl) O_u_law_take.g O_u_law_take.kp O_u_law_take.b (da_cons (de_var (pv 0)) (da_cons de_int da_nil)))) (da_cons (de_var (pv 1)) da_nil)))))))
 dss_nil)
 (dss_cons (ds_if (dt_cmp (op_eq.or (op_eqD hu)) v_eq (de_var (pv 2)) de_int (nomark _))
 (dss_one (ds_ret (de_tup (da_cons de_str (da_cons (de_call O_u_law_table.fn (hr.mono (by decide)) tk (by rfl) O_u_law_table.g O_u_law_table.kp O_u_law_table.b (da_cons (de_var (pv 0)) (da_cons (de_var (pv 3)) (da_cons (de_bin (op_mul.or (op_mulS.or op_repT)) v_mul de_int (de_var (pv 3))) da_nil)))) (da_cons (de_bin (op_add.or (op_add_str.or op_catA)) v_add de_int (de_call O_u_law_take.fn (hr.mono (by decide)) tk (by rfl) O_u_law_take.g O_u_law_take.kp O_u_law_take.b (da_cons (de_var (pv 0)) (da_cons de_int da_nil)))) (da_cons (de_ix (de_frz (do_lst (da_cons de_int (da_cons de_int (da_cons (de_var (pv 4)) da_nil))))) (de_call O_u_law_take.fn (hr.mono (by decide)) tk (by rfl) O_u_law_take.g O_u_law_take.kp O_u_law_take.b (da_cons (de_var (pv 0)) (da_cons de_int da_nil))) (fun _ _ => rfl)) (da_cons (de_var (pv 1)) da_nil))))))))
 dss_nil)
 (dss_cons (ds_if (dt_cmp op_lt v_lt (de_var (pv 2)) de_int (nomark _))
 (dss_one (ds_ret (de_tup (da_cons (de_ix (de_frz (do_lst (da_cons de_str (da_cons de_str da_nil)))) (de_bin op_sub v_sub (de_var (pv 2)) de_int) (fun _ _ => rfl)) (da_cons (de_var (pv 4)) (da_cons (de_bin (op_add.or (op_add_str.or op_catA)) v_add de_int (de_call O_u_law_take.fn (hr.mono (by decide)) tk (by rfl) O_u_law_take.g O_u_law_take.kp O_u_law_take.b (da_cons (de_var (pv 0)) (da_cons de_int da_nil)))) (da_cons (de_var (pv 1)) da_nil)))))))
 dss_nil)
 (dss_cons (ds_if (dt_cmp op_lt v_lt (de_var (pv 2)) de_int (nomark _))
 (dss_one (ds_ret (de_tup (da_cons (de_ix (de_frz (do_lst (da_cons de_str (da_cons de_str (da_cons de_str da_nil))))) (de_bin op_sub v_sub (de_var (pv 2)) de_int) (fun _ _ => rfl)) (da_cons (de_var (pv 4)) (da_cons (de_var (pv 1)) da_nil))))))
 dss_nil)
 (dss_cons (ds_if (dt_cmp (op_eq.or (op_eqD hu)) v_eq (de_var (pv 2)) de_int (nomark _))
 (dss_one (ds_ret (de_tup (da_cons de_str (da_cons (de_call O_u_law_string.fn (hr.mono (by decide)) tk (by rfl) O_u_law_string.g O_u_law_string.kp O_u_law_string.b (da_cons (de_var (pv 0)) (da_cons (de_var (pv 4)) da_nil))) (da_cons (de_var (pv 1)) da_nil))))))
 dss_nil)
 (dss_cons (ds_if (dt_cmp (op_eq.or (op_eqD hu)) v_eq (de_var (pv 2)) de_int (nomark _))
 (dss_one (ds_ret (de_tup (da_cons de_str (da_cons (de_var (pv 4)) (da_cons (de_ix (de_frz (do_lst (da_cons de_int (da_cons de_int (da_cons (de_bin (op_add.or (op_add_str.or op_catA)) v_add de_int (de_call O_u_law_take.fn (hr.mono (by decide)) tk (by rfl) O_u_law_take.g O_u_law_take.kp O_u_law_take.b (da_cons (de_var (pv 0)) (da_cons de_int da_nil)))) da_nil))))) (de_call O_u_law_take.fn (hr.mono (by decide)) tk (by rfl) O_u_law_take.g O_u_law_take.kp O_u_law_take.b (da_cons (de_var (pv 0)) (da_cons de_int da_nil))) (fun _ _ => rfl)) (da_cons (de_bin (op_add.or (op_add_str.or op_catA)) v_add de_int (de_call O_u_law_take.fn (hr.mono (by decide)) tk (by rfl) O_u_law_take.g O_u_law_take.kp O_u_law_take.b (da_cons (de_var (pv 0)) (da_cons de_int da_nil)))) (da_cons (de_var (pv 1)) da_nil))))))))
 dss_nil)
 (dss_cons (ds_if (dt_cmp (op_eq.or (op_eqD hu)) v_eq (de_var (pv 2)) de_int (nomark _))
 (dss_one (ds_ret (de_tup (da_cons de_str (da_cons (de_var (pv 4)) (da_cons (de_var (pv 1)) da_nil))))))
 dss_nil)
 (dss_cons (ds_if (PW.pt (dw_and (dt_cmp (op_eq.or (op_eqD hu)) v_eq (de_var (pv 2)) de_int (nomark _)) (dw_and1 (dt_cmp (op_in1.or op_in_seq) v_in (de_ixV (pv 1) de_int (fun _ _ => rfl)) (de_frz (do_lst (da_cons de_str (da_cons de_str (da_cons de_str (da_cons de_str da_nil)))))) (by rfl)))))
 (dss_one (ds_ret (de_tup (da_cons de_str (da_cons (de_call O_u_law_table.fn (hr.mono (by decide)) tk (by rfl) O_u_law_table.g O_u_law_table.kp O_u_law_table.b (da_cons (de_var (pv 0)) (da_cons (de_var (pv 3)) (da_cons (de_bin (op_add.or (op_add_str.or op_catA)) v_add de_int (de_call O_u_law_take.fn (hr.mono (by decide)) tk (by rfl) O_u_law_take.g O_u_law_take.kp O_u_law_take.b (da_cons (de_var (pv 0)) (da_cons de_int da_nil)))) da_nil)))) (da_cons (de_bin (op_add.or (op_add_str.or op_catA)) v_add de_int (de_call O_u_law_take.fn (hr.mono (by decide)) tk (by rfl) O_u_law_take.g O_u_law_take.kp O_u_law_take.b (da_cons (de_var (pv 0)) (da_cons de_int da_nil)))) (da_cons (de_var (pv 1)) da_nil)))))))
 dss_nil)
 (dss_cons (ds_if (dt_cmp (op_eq.or (op_eqD hu)) v_eq (de_var (pv 2)) de_int (nomark _))
 (dss_one (ds_ret (de_tup (da_cons de_str (da_cons (de_ix (de_frz (do_lst (da_cons de_int (da_cons de_int (da_cons (de_bin (op_add.or (op_add_str.or op_catA)) v_add de_int (de_call O_u_law_take.fn (hr.mono (by decide)) tk (by rfl) O_u_law_take.g O_u_law_take.kp O_u_law_take.b (da_cons (de_var (pv 0)) (da_cons de_int da_nil)))) da_nil))))) (de_call O_u_law_take.fn (hr.mono (by decide)) tk (by rfl) O_u_law_take.g O_u_law_take.kp O_u_law_take.b (da_cons (de_var (pv 0)) (da_cons de_int da_nil))) (fun _ _ => rfl)) (da_cons (de_var (pv 1)) da_nil))))))
 dss_nil)
 (dss_one (ds_ret (de_tup (da_cons de_str (da_cons (de_var (pv 1)) da_nil)))))))))))))))))
theorem sc_law : FnScope ["script", "hand", "plain", "breaker", "k", "chain", "bad"] ["script"] (defScope s_law) := ⟨rfl, rfl, rfl, by decide +kernel, rfl, by decide +kernel, by decide +kernel⟩
theorem ok_law {fd : FuncData} (F : FunD K (Str.ofString "law") (Str.ofString "law") (defArgs s_law) (defBody s_law) (defScope s_law) [] [] (atK K "law") fd) (g0 : mg (Str.ofString "law") = some (.ref (atK K "law"))) (Z : Bl mg) (V : Xs K mg) {fd_u_law_breaker : FuncData} (O_u_law_breaker : Ok P w K mg base 11 "_law_breaker" ["hand", "depth", "asks", "length", "said"] (f_u_law_breaker 8) fd_u_law_breaker) {fd_u_law_draws : FuncData} (O_u_law_draws : Ok P w K mg base 1 "_law_draws" ["script", "many"] f_u_law_draws fd_u_law_draws) {fd_u_law_is_right : FuncData} (O_u_law_is_right : Ok P w K mg base 64 "_law_is_right" ["breaker"] f_u_law_is_right fd_u_law_is_right) {fd_u_law_made : FuncData} (O_u_law_made : Ok P w K mg base 4 "_law_made" ["hand", "inner"] f_u_law_made fd_u_law_made) {fd_u_law_take : FuncData} (O_u_law_take : Ok P w K mg base 1 "_law_take" ["hand", "many"] f_u_law_take fd_u_law_take) {fd_most_asks : FuncData} (O_most_asks : Ok P w K mg base 7 "most_asks" ["breaker"] f_most_asks fd_most_asks) : Ok P w K mg base 65 "law" ["script"] f_law fd := by
  refine ⟨ok_def (at_ := atK K) F sc_law fun cdv A outer s H E hr => ?_, FunD.bindsN F fun _ _ _ _ _ _ us hl => match us, hl with | [_], _ => rfl, g0, F.kp⟩
  have hu := hr.units
  have tk := takes_of (X := cxOf (L2.CX P w) P w K mg base ["script", "hand", "plain", "breaker", "k", "chain", "bad"] "law" (defScope s_law) (atK K "law") cdv A outer s H E) rfl rfl rfl rfl
  have pz := passes_of (X := cxOf (L2.CX P w) P w K mg base ["script", "hand", "plain", "breaker", "k", "chain", "bad"] "law" (defScope s_law) (atK K "law") cdv A outer s H E) rfl
  exact (dss_cons (ds_setN (i := 1) sc_law.nd rfl (by first | exact Or.inl rfl | exact Or.inr rfl) (do_lst (da_cons (de_call O_u_law_draws.fn (hr.mono (by decide)) tk (by rfl) O_u_law_draws.g O_u_law_draws.kp O_u_law_draws.b (da_cons (de_var (pv 0)) (da_cons de_int da_nil))) (da_cons de_int da_nil))))
 (dss_cons (ds_set (i := 2) sc_law.nd rfl (by first | exact Or.inl rfl | exact Or.inr rfl) (de_call O_u_law_breaker.fn (hr.mono (by decide)) tk (by rfl) O_u_law_breaker.g O_u_law_breaker.kp O_u_law_breaker.b (da_cons (de_var (pv 1)) (da_cons (de_bin (op_add.or (op_add_str.or op_catA)) v_add de_int (de_call O_u_law_take.fn (hr.mono (by decide)) tk (by rfl) O_u_law_take.g O_u_law_take.kp O_u_law_take.b (da_cons (de_var (pv 1)) (da_cons de_int da_nil)))) (da_cons de_int (da_cons (de_bin (op_add.or (op_add_str.or op_catA)) v_add de_int (de_call O_u_law_take.fn (hr.mono (by decide)) tk (by rfl) O_u_law_take.g O_u_law_take.kp O_u_law_take.b (da_cons (de_var (pv 1)) (da_cons de_int da_nil)))) (da_cons de_int da_nil)))))))
 (dss_cons (ds_set (i := 3) sc_law.nd rfl (by first | exact Or.inl rfl | exact Or.inr rfl) (de_var (pv 2)))
 (dss_cons (ds_if (dt_not (dt_val (de_call O_u_law_is_right.fn (hr.mono (by decide)) tk (by rfl) O_u_law_is_right.g O_u_law_is_right.kp O_u_law_is_right.b (da_cons (de_var (pv 2)) da_nil))))
 (dss_one (ds_ret de_bl))
 dss_nil)
 (dss_cons (ds_for pz rfl (di_range1 (by rfl) Z.z_range (da_cons de_int da_nil)) (dg_name (i := 4) sc_law.nd rfl (by first | exact Or.inl rfl | exact Or.inr rfl))
 (dss_cons (ds_set (i := 3) sc_law.nd rfl (by first | exact Or.inl rfl | exact Or.inr rfl) (de_call O_u_law_made.fn (hr.mono (by decide)) tk (by rfl) O_u_law_made.g O_u_law_made.kp O_u_law_made.b (da_cons (de_var (pv 1)) (da_cons (de_var (pv 3)) da_nil))))
 (dss_one (ds_if (PW.pt (dw_or (dt_not (dt_val (de_call O_u_law_is_right.fn (hr.mono (by decide)) tk (by rfl) O_u_law_is_right.g O_u_law_is_right.kp O_u_law_is_right.b (da_cons (de_var (pv 3)) da_nil)))) (dw_or1 (dt_not (dt_val (de_call O_u_law_is_right.fn (hr.mono (by decide)) tk (by rfl) O_u_law_is_right.g O_u_law_is_right.kp O_u_law_is_right.b (da_cons (de_tup (da_cons de_str (da_cons de_int (da_cons de_int (da_cons (de_tup (da_cons de_str (da_cons de_int (da_cons de_int (da_cons (de_var (pv 3)) da_nil))))) da_nil))))) da_nil)))))))
 (dss_one (ds_ret de_bl))
 dss_nil))))
 (dss_cons (ds_set (i := 5) sc_law.nd rfl (by first | exact Or.inl rfl | exact Or.inr rfl) (de_var (pv 2)))
 (dss_cons (ds_for pz rfl (di_range1 (by rfl) Z.z_range (da_cons (de_call O_u_law_take.fn (hr.mono (by decide)) tk (by rfl) O_u_law_take.g O_u_law_take.kp O_u_law_take.b (da_cons (de_var (pv 1)) (da_cons de_int da_nil))) da_nil)) (dg_name (i := 4) sc_law.nd rfl (by first | exact Or.inl rfl | exact Or.inr rfl))
 (dss_one (ds_set (i := 5) sc_law.nd rfl (by first | exact Or.inl rfl | exact Or.inr rfl) (de_ix (de_frz (do_lst (da_cons (de_tup (da_cons de_str (da_cons (de_tup (da_cons de_int da_nil)) (da_cons (de_var (pv 5)) da_nil)))) (da_cons (de_tup (da_cons de_str (da_cons de_int (da_cons (de_tup (da_cons de_str (da_cons (de_tup da_nil) (da_cons (de_tup (da_cons de_str (da_cons (de_tup da_nil) da_nil))) da_nil)))) (da_cons (de_tup (da_cons de_str (da_cons (de_tup (da_cons de_str da_nil)) (da_cons (de_var (pv 5)) da_nil)))) da_nil))))) da_nil)))) (de_call O_u_law_take.fn (hr.mono (by decide)) tk (by rfl) O_u_law_take.g O_u_law_take.kp O_u_law_take.b (da_cons (de_var (pv 1)) (da_cons de_int da_nil))) (fun _ _ => rfl)))))
 (dss_cons (ds_if (PW.pt (dw_or (dt_not (dt_val (de_call O_u_law_is_right.fn (hr.mono (by decide)) tk (by rfl) O_u_law_is_right.g O_u_law_is_right.kp O_u_law_is_right.b (da_cons (de_var (pv 5)) da_nil)))) (dw_or1 (dt_not (dt_val (de_call O_u_law_is_right.fn (hr.mono (by decide)) tk (by rfl) O_u_law_is_right.g O_u_law_is_right.kp O_u_law_is_right.b (da_cons (de_tup (da_cons de_str (da_cons de_int (da_cons de_int (da_cons (de_var (pv 5)) da_nil))))) da_nil)))))))
 (dss_one (ds_ret de_bl))
 dss_nil)
 (dss_cons (ds_set (i := 6) sc_law.nd rfl (by first | exact Or.inl rfl | exact Or.inr rfl) (de_ix (de_frz (do_lst (da_cons de_non (da_cons (de_tup da_nil) (da_cons (de_tup (da_cons de_str (da_cons (de_tup (da_cons de_int da_nil)) da_nil))) (da_cons (de_tup (da_cons de_str (da_cons (de_frz (do_lst (da_cons de_int da_nil))) da_nil))) (da_cons (de_tup (da_cons de_str (da_cons de_int (da_cons de_int (da_cons (de_var (pv 2)) da_nil))))) (da_cons de_int (da_cons de_str (da_cons (de_tup (da_cons de_str (da_cons (de_tup da_nil) da_nil))) (da_cons (de_tup (da_cons de_str (da_cons de_int (da_cons (de_tup (da_cons de_str (da_cons (de_tup da_nil) da_nil))) (da_cons (de_tup (da_cons de_str (da_cons (de_tup (da_cons de_str da_nil)) da_nil))) da_nil))))) da_nil))))))))))) (de_call O_u_law_take.fn (hr.mono (by decide)) tk (by rfl) O_u_law_take.g O_u_law_take.kp O_u_law_take.b (da_cons (de_var (pv 1)) (da_cons de_int da_nil))) (fun _ _ => rfl)))
 (dss_cons (ds_try (cs := [("BadBreaker", true)]) (names_own (c := "BadBreaker") (by rfl) V.gc_BadBreaker) tk V.m_BadBreaker
 (fun W pn xe tk pz => (dss_one (ds_expr (de_call O_most_asks.fn (hr.mono (by decide)) tk (by rfl) O_most_asks.g O_most_asks.kp O_most_asks.b (da_cons (de_var (pv 6)) da_nil)))))
 (fun a oe cls d pn hz hfl => (dss_one (ds_ret de_bl))))
 (dss_one (ds_ret de_bl))))))))))))
end
theorem facts {P : Program} {w : World} {K : PySem.W.Frag} {h : Heap} {mg : Str → Option Value} {f : Addr} (X : K.In h) (G : h.Ns mainGlobals mg) (hfa : mg ("law" : Str) = some (.ref f)) (c : SaysP fas dds xfs K) (law : ∀ ns : List Int, ns.length ≤ 63 → ∃ S, f_law [.lck (ns.map D.int)] [] = .ok (.dat (.bl true)) S) :
    ∃ fd : FuncData, (∀ (s : Shared) (v : Value), BindsTo s fd ⟨[v], []⟩ [("script", v)]) ∧ ∀ base : Heap, K.In base → base.Ns mainGlobals mg → FnOk P w K mg base CX0 65 f fd ["script"] (spLaw K) := by
  obtain ⟨fd_u_law_take, F_u_law_take⟩ := c.2.def_ 0 (d := ⟨("_law_take", none), "_law_take", "_law_take", defArgs s_u_law_take, defBody s_u_law_take, defScope s_u_law_take, [], []⟩) rfl
  have g_u_law_take := He.glo_ok X G (c.2.fact 0 (f := .glo "_law_take") rfl)
  obtain ⟨fd_u_law_parts, F_u_law_parts⟩ := c.2.def_ 1 (d := ⟨("_law_parts", none), "_law_parts", "_law_parts", defArgs s_u_law_parts, defBody s_u_law_parts, defScope s_u_law_parts, [], []⟩) rfl
  have g_u_law_parts := He.glo_ok X G (c.2.fact 1 (f := .glo "_law_parts") rfl)
  obtain ⟨fd_u_law_breaker, F_u_law_breaker⟩ := c.2.def_ 2 (d := ⟨("_law_breaker", none), "_law_breaker", "_law_breaker", defArgs s_u_law_breaker, defBody s_u_law_breaker, defScope s_u_law_breaker, [], []⟩) rfl
  have g_u_law_breaker := He.glo_ok X G (c.2.fact 2 (f := .glo "_law_breaker") rfl)
  obtain ⟨fd_u_law_draws, F_u_law_draws⟩ := c.2.def_ 3 (d := ⟨("_law_draws", none), "_law_draws", "_law_draws", defArgs s_u_law_draws, defBody s_u_law_draws, defScope s_u_law_draws, [], []⟩) rfl
  have g_u_law_draws := He.glo_ok X G (c.2.fact 3 (f := .glo "_law_draws") rfl)
  obtain ⟨fd_is_bits, F_is_bits⟩ := c.2.def_ 4 (d := ⟨("is_bits", none), "is_bits", "is_bits", defArgs s_is_bits, defBody s_is_bits, defScope s_is_bits, [], []⟩) rfl
  have g_is_bits := He.glo_ok X G (c.2.fact 4 (f := .glo "is_bits") rfl)
  obtain ⟨fd_is_number, F_is_number⟩ := c.2.def_ 5 (d := ⟨("is_number", none), "is_number", "is_number", defArgs s_is_number, defBody s_is_number, defScope s_is_number, [], []⟩) rfl
  have g_is_number := He.glo_ok X G (c.2.fact 5 (f := .glo "is_number") rfl)
  obtain ⟨fd_are_parts, F_are_parts⟩ := c.2.def_ 6 (d := ⟨("are_parts", none), "are_parts", "are_parts", defArgs s_are_parts, defBody s_are_parts, defScope s_are_parts, [], []⟩) rfl
  have g_are_parts := He.glo_ok X G (c.2.fact 6 (f := .glo "are_parts") rfl)
  obtain ⟨fd_inner_plain, F_inner_plain⟩ := c.2.def_ 7 (d := ⟨("inner_plain", none), "inner_plain", "inner_plain", defArgs s_inner_plain, defBody s_inner_plain, defScope s_inner_plain, [], []⟩) rfl
  have g_inner_plain := He.glo_ok X G (c.2.fact 7 (f := .glo "inner_plain") rfl)
  obtain ⟨fd_check_plain, F_check_plain⟩ := c.2.def_ 8 (d := ⟨("check_plain", none), "check_plain", "check_plain", defArgs s_check_plain, defBody s_check_plain, defScope s_check_plain, [], []⟩) rfl
  have g_check_plain := He.glo_ok X G (c.2.fact 8 (f := .glo "check_plain") rfl)
  obtain ⟨fd_has_plain_word, F_has_plain_word⟩ := c.2.def_ 9 (d := ⟨("has_plain_word", none), "has_plain_word", "has_plain_word", defArgs s_has_plain_word, defBody s_has_plain_word, defScope s_has_plain_word, [], []⟩) rfl
  have g_has_plain_word := He.glo_ok X G (c.2.fact 9 (f := .glo "has_plain_word") rfl)
  obtain ⟨fd_is_row, F_is_row⟩ := c.2.def_ 10 (d := ⟨("is_row", none), "is_row", "is_row", defArgs s_is_row, defBody s_is_row, defScope s_is_row, [], []⟩) rfl
  have g_is_row := He.glo_ok X G (c.2.fact 10 (f := .glo "is_row") rfl)
  obtain ⟨fd_is_generator, F_is_generator⟩ := c.2.def_ 11 (d := ⟨("is_generator", none), "is_generator", "is_generator", defArgs s_is_generator, defBody s_is_generator, defScope s_is_generator, [], []⟩) rfl
  have g_is_generator := He.glo_ok X G (c.2.fact 11 (f := .glo "is_generator") rfl)
  obtain ⟨fd_fits_longer, F_fits_longer⟩ := c.2.def_ 12 (d := ⟨("fits_longer", none), "fits_longer", "fits_longer", defArgs s_fits_longer, defBody s_fits_longer, defScope s_fits_longer, [], []⟩) rfl
  have g_fits_longer := He.glo_ok X G (c.2.fact 12 (f := .glo "fits_longer") rfl)
  obtain ⟨fd_fits_tree, F_fits_tree⟩ := c.2.def_ 13 (d := ⟨("fits_tree", none), "fits_tree", "fits_tree", defArgs s_fits_tree, defBody s_fits_tree, defScope s_fits_tree, [], []⟩) rfl
  have g_fits_tree := He.glo_ok X G (c.2.fact 13 (f := .glo "fits_tree") rfl)
  obtain ⟨fd_is_length, F_is_length⟩ := c.2.def_ 14 (d := ⟨("is_length", none), "is_length", "is_length", defArgs s_is_length, defBody s_is_length, defScope s_is_length, [], []⟩) rfl
  have g_is_length := He.glo_ok X G (c.2.fact 14 (f := .glo "is_length") rfl)
  obtain ⟨fd_fits_word, F_fits_word⟩ := c.2.def_ 15 (d := ⟨("fits_word", none), "fits_word", "fits_word", defArgs s_fits_word, defBody s_fits_word, defScope s_fits_word, [], []⟩) rfl
  have g_fits_word := He.glo_ok X G (c.2.fact 15 (f := .glo "fits_word") rfl)
  obtain ⟨fd_check_breaker, F_check_breaker⟩ := c.2.def_ 16 (d := ⟨("check_breaker", none), "check_breaker", "check_breaker", defArgs s_check_breaker, defBody s_check_breaker, defScope s_check_breaker, [], []⟩) rfl
  have g_check_breaker := He.glo_ok X G (c.2.fact 16 (f := .glo "check_breaker") rfl)
  obtain ⟨fd_most_plain_asks, F_most_plain_asks⟩ := c.2.def_ 17 (d := ⟨("most_plain_asks", none), "most_plain_asks", "most_plain_asks", defArgs s_most_plain_asks, defBody s_most_plain_asks, defScope s_most_plain_asks, [], []⟩) rfl
  have g_most_plain_asks := He.glo_ok X G (c.2.fact 17 (f := .glo "most_plain_asks") rfl)
  obtain ⟨fd_most_asks, F_most_asks⟩ := c.2.def_ 18 (d := ⟨("most_asks", none), "most_asks", "most_asks", defArgs s_most_asks, defBody s_most_asks, defScope s_most_asks, [], []⟩) rfl
  have g_most_asks := He.glo_ok X G (c.2.fact 18 (f := .glo "most_asks") rfl)
  obtain ⟨fd_u_law_most, F_u_law_most⟩ := c.2.def_ 19 (d := ⟨("_law_most", none), "_law_most", "_law_most", defArgs s_u_law_most, defBody s_u_law_most, defScope s_u_law_most, [], []⟩) rfl
  have g_u_law_most := He.glo_ok X G (c.2.fact 19 (f := .glo "_law_most") rfl)
  obtain ⟨fd_u_law_is_right, F_u_law_is_right⟩ := c.2.def_ 20 (d := ⟨("_law_is_right", none), "_law_is_right", "_law_is_right", defArgs s_u_law_is_right, defBody s_u_law_is_right, defScope s_u_law_is_right, [], []⟩) rfl
  have g_u_law_is_right := He.glo_ok X G (c.2.fact 20 (f := .glo "_law_is_right") rfl)
  obtain ⟨fd_u_law_string, F_u_law_string⟩ := c.2.def_ 21 (d := ⟨("_law_string", none), "_law_string", "_law_string", defArgs s_u_law_string, defBody s_u_law_string, defScope s_u_law_string, [], []⟩) rfl
  have g_u_law_string := He.glo_ok X G (c.2.fact 21 (f := .glo "_law_string") rfl)
  obtain ⟨fd_u_law_table, F_u_law_table⟩ := c.2.def_ 22 (d := ⟨("_law_table", none), "_law_table", "_law_table", defArgs s_u_law_table, defBody s_u_law_table, defScope s_u_law_table, [], []⟩) rfl
  have g_u_law_table := He.glo_ok X G (c.2.fact 22 (f := .glo "_law_table") rfl)
  obtain ⟨fd_u_law_made, F_u_law_made⟩ := c.2.def_ 23 (d := ⟨("_law_made", none), "_law_made", "_law_made", defArgs s_u_law_made, defBody s_u_law_made, defScope s_u_law_made, [], []⟩) rfl
  have g_u_law_made := He.glo_ok X G (c.2.fact 23 (f := .glo "_law_made") rfl)
  obtain ⟨fd_law, F_law⟩ := c.2.def_ 24 (d := ⟨("law", none), "law", "law", defArgs s_law, defBody s_law, defScope s_law, [], []⟩) rfl
  have g_law := He.glo_ok X G (c.2.fact 24 (f := .glo "law") rfl)
  have Z : Bl mg := ⟨He.free_ok X G (c.2.fact 25 (f := .free "abs") rfl), He.free_ok X G (c.2.fact 26 (f := .free "all") rfl), He.free_ok X G (c.2.fact 27 (f := .free "bool") rfl), He.free_ok X G (c.2.fact 28 (f := .free "int") rfl), He.free_ok X G (c.2.fact 29 (f := .free "isinstance") rfl), He.free_ok X G (c.2.fact 30 (f := .free "len") rfl), He.free_ok X G (c.2.fact 31 (f := .free "max") rfl), He.free_ok X G (c.2.fact 32 (f := .free "range") rfl), He.free_ok X G (c.2.fact 33 (f := .free "str") rfl), He.free_ok X G (c.2.fact 34 (f := .free "tuple") rfl), He.int_ok X G (c.2.fact 35 (f := .int "MOST_ASKS" 1000) rfl), He.int_ok X G (c.2.fact 36 (f := .int "MOST_BIT" 9999) rfl), He.int_ok X G (c.2.fact 37 (f := .int "MOST_COUNTED" 256) rfl), He.int_ok X G (c.2.fact 38 (f := .int "MOST_DEPTH" 60) rfl), He.int_ok X G (c.2.fact 39 (f := .int "MOST_LAYERS" 20) rfl), He.int_ok X G (c.2.fact 40 (f := .int "MOST_LENGTH" 40) rfl), He.int_ok X G (c.2.fact 41 (f := .int "MOST_TOSSED" 64) rfl), He.int_ok X G (c.2.fact 42 (f := .int "MOST_WITHIN" 2000) rfl)⟩
  have gc_BadBreaker : mg (Str.ofString "BadBreaker") = some (.ref (atK K "BadBreaker")) := He.glo_ok X G (x := "BadBreaker") (c.x 0 (f := .cls "BadBreaker") rfl)
  have V : Xs K mg := ⟨gc_BadBreaker, ExD.of (c.x 1 (f := .exc "BadBreaker") rfl) gc_BadBreaker, XF.exm_ok (c.x 2 (f := .exm (.own "BadBreaker") [("BadBreaker", true)]) rfl), ⟨He.glo_ok X G (x := "PLAIN_WORDS") (c.x 3 (f := .cls "PLAIN_WORDS") rfl), XF.stup_ok (c.x 4 (f := .stup "PLAIN_WORDS" ["say", "toss", "look", "ask"]) rfl)⟩⟩
  have e := hfa.symm.trans g_law
  cases e
  have b := FunD.bindsA (ps := ["script"]) F_law fun _ _ _ _ _ _ us hl => match us, hl with | [_], _ => rfl
  refine ⟨fd_law, fun s v => b s [v] rfl, fun base _ _ => ?_⟩
  have O_u_law_take : Ok P w K mg base 1 "_law_take" ["hand", "many"] f_u_law_take fd_u_law_take := ok_u_law_take F_u_law_take g_u_law_take Z V  
  have O_u_law_parts : Ok P w K mg base 2 "_law_parts" ["hand", "length"] f_u_law_parts fd_u_law_parts := ok_u_law_parts F_u_law_parts g_u_law_parts Z V O_u_law_take 
  have O_u_law_breaker : Ok P w K mg base 11 "_law_breaker" ["hand", "depth", "asks", "length", "said"] (f_u_law_breaker 8) fd_u_law_breaker := ok_u_law_breaker F_u_law_breaker g_u_law_breaker Z V O_u_law_take O_u_law_parts  8
  have O_u_law_draws : Ok P w K mg base 1 "_law_draws" ["script", "many"] f_u_law_draws fd_u_law_draws := ok_u_law_draws F_u_law_draws g_u_law_draws Z V  
  have O_is_bits : Ok P w K mg base 1 "is_bits" ["value", "length"] f_is_bits fd_is_bits := ok_is_bits F_is_bits g_is_bits Z V  
  have O_is_number : Ok P w K mg base 1 "is_number" ["value", "least", "most"] f_is_number fd_is_number := ok_is_number F_is_number g_is_number Z V  
  have O_are_parts : Ok P w K mg base 2 "are_parts" ["value"] f_are_parts fd_are_parts := ok_are_parts F_are_parts g_are_parts Z V O_is_bits O_is_number 
  have O_inner_plain : Ok P w K mg base 3 "inner_plain" ["breaker"] f_inner_plain fd_inner_plain := ok_inner_plain F_inner_plain g_inner_plain Z V O_are_parts O_is_number 
  have O_check_plain : Ok P w K mg base 4 "check_plain" ["breaker"] f_check_plain fd_check_plain := ok_check_plain F_check_plain g_check_plain Z V O_inner_plain 
  have O_has_plain_word : Ok P w K mg base 1 "has_plain_word" ["value"] f_has_plain_word fd_has_plain_word := ok_has_plain_word F_has_plain_word g_has_plain_word Z V  
  have O_is_row : Ok P w K mg base 2 "is_row" ["value", "many", "length"] f_is_row fd_is_row := ok_is_row F_is_row g_is_row Z V O_is_bits 
  have O_is_generator : Ok P w K mg base 3 "is_generator" ["block"] f_is_generator fd_is_generator := ok_is_generator F_is_generator g_is_generator Z V O_is_row O_is_number 
  have O_fits_longer : Ok P w K mg base 4 "fits_longer" ["block", "k"] f_fits_longer fd_fits_longer := ok_fits_longer F_fits_longer g_fits_longer Z V O_is_generator O_is_number 
  have O_fits_tree : Ok P w K mg base 4 "fits_tree" ["block", "d", "q"] f_fits_tree fd_fits_tree := ok_fits_tree F_fits_tree g_fits_tree Z V O_is_number O_is_generator 
  have O_is_length : Ok P w K mg base 2 "is_length" ["value"] f_is_length fd_is_length := ok_is_length F_is_length g_is_length Z V O_is_number 
  have O_fits_word : Ok P w K mg base 5 "fits_word" ["word", "parts"] f_fits_word fd_fits_word := ok_fits_word F_fits_word g_fits_word Z V O_fits_longer O_fits_tree O_is_length O_is_number O_is_bits O_is_generator 
  have O_check_breaker : Ok P w K mg base 6 "check_breaker" ["breaker"] f_check_breaker fd_check_breaker := ok_check_breaker F_check_breaker g_check_breaker Z V O_check_plain O_has_plain_word O_fits_word 
  have O_most_plain_asks : Ok P w K mg base 4 "most_plain_asks" ["breaker"] f_most_plain_asks fd_most_plain_asks := ok_most_plain_asks F_most_plain_asks g_most_plain_asks Z V O_inner_plain 
  have O_most_asks : Ok P w K mg base 7 "most_asks" ["breaker"] f_most_asks fd_most_asks := ok_most_asks F_most_asks g_most_asks Z V O_check_breaker O_has_plain_word O_most_plain_asks 
  have O_u_law_most : Ok P w K mg base 63 "_law_most" ["breaker"] (f_u_law_most 62) fd_u_law_most := ok_u_law_most F_u_law_most g_u_law_most Z V   62
  have O_u_law_is_right : Ok P w K mg base 64 "_law_is_right" ["breaker"] f_u_law_is_right fd_u_law_is_right := ok_u_law_is_right F_u_law_is_right g_u_law_is_right Z V O_most_asks O_u_law_most 
  have O_u_law_string : Ok P w K mg base 2 "_law_string" ["hand", "length"] f_u_law_string fd_u_law_string := ok_u_law_string F_u_law_string g_u_law_string Z V O_u_law_take 
  have O_u_law_table : Ok P w K mg base 3 "_law_table" ["hand", "n", "m"] f_u_law_table fd_u_law_table := ok_u_law_table F_u_law_table g_u_law_table Z V O_u_law_string 
  have O_u_law_made : Ok P w K mg base 4 "_law_made" ["hand", "inner"] f_u_law_made fd_u_law_made := ok_u_law_made F_u_law_made g_u_law_made Z V O_u_law_take O_u_law_table O_u_law_string 
  have O_law : Ok P w K mg base 65 "law" ["script"] f_law fd_law := ok_law F_law g_law Z V O_u_law_breaker O_u_law_draws O_u_law_is_right O_u_law_made O_u_law_take O_most_asks 
  exact law_ok O_law law
end Law
namespace Law
open PySem L2 Pl
def Hd (xs : List Int) (p : Nat) : List SO := [.lst [.lst (xs.map .int), .int p]]
def tk (xs : List Int) (p : Nat) (m : Int) : Int := if xs.length ≤ p then 0 else (xs.getD p 0) / 7 % m
theorem take_eq {xs : List Int} {p : Nat} {m : Int} (hm : 0 < m) : f_u_law_take [.obj 0, .int m] (Hd xs p) = .ok (.dat (.int (tk xs p m))) (Hd xs (p + 1)) := by
  unfold f_u_law_take b_u_law_take Hd
  refine fn_go rfl ?_
  simp [initR, at_z0, at_z1, ixN, sixC, sixO, tk]
  by_cases h : xs.length ≤ p
  · simp [h]
  · have h2 : atI (xs.map D.int) (p : Int) = some (.int (xs.getD p 0)) := atI_of (by simp [List.getElem?_eq_getElem (Nat.lt_of_not_le h)])
    have e7 : ∀ x, CDiv x 7 := fun x => ⟨by decide, by decide⟩
    simp [h, h2, e7, hm]
theorem tk_lt {xs : List Int} {p : Nat} {m : Int} (hm : 0 < m) : 0 ≤ tk xs p m ∧ tk xs p m < m := by
  unfold tk
  split
  · omega
  · exact ⟨Int.emod_nonneg _ (by omega), Int.emod_lt_of_pos _ hm⟩
theorem tk_nat {xs : List Int} {p : Nat} {m : Nat} (hm : 0 < m) : ∃ k : Nat, k < m ∧ tk xs p m = k := by
  obtain ⟨h1, h2⟩ := tk_lt (xs := xs) (p := p) (m := m) (by omega)
  exact ⟨(tk xs p m).toNat, by omega, by omega⟩
def bt (xs : List Int) (p : Nat) : Bool := decide (tk xs p 2 = 1)
theorem ix_bit {xs : List Int} {p : Nat} : atI [D.str (sb [false]), D.str (sb [true])] (tk xs p 2) = some (D.str (sb [bt xs p])) := by
  obtain ⟨h1, h2⟩ := tk_lt (xs := xs) (p := p) (m := 2) (by omega)
  have : tk xs p 2 = 0 ∨ tk xs p 2 = 1 := by omega
  rcases this with h | h
  · simp [h, bt, at_z0]
  · simp [h, bt, at_z1]
def bits_ (xs : List Int) (p n : Nat) : List Bool := (List.range n).map fun i => bt xs (p + i)
theorem string_eq {xs : List Int} {p n : Nat} (hn : n ≤ 1000) : f_u_law_string [.obj 0, .int n] (Hd xs p) = .ok (.dat (.str (sb (bits_ xs p n)))) (Hd xs (p + n)) := by
  unfold f_u_law_string b_u_law_string
  refine fn_go rfl ?_
  simp [initR]
  have ok : okR (n : Int) = true := by simp [okR]; omega
  simp only [ok, if_true, lift_some, r_aOnA, r_compA, r_wipeR1, r_wipeR0, List.set_cons_succ, List.set_cons_zero]
  rw [comp_det (J := fun i => ⟨[some (Slot.dat (D.obj 0)), some (Slot.dat (D.int n)), none], Hd xs (p + i)⟩) (F := fun i => .str (sb [bt xs (p + i)])) ?e0 ?l ?h]
  case e0 => rfl
  case l => simp [line]; omega
  · simp [sb_none]
    rw [show (List.range n).map (fun i => D.str (sb [bt xs (p + i)])) = (bits_ xs p n).map fun b => .str (sb [b]) by simp [bits_, Function.comp_def]]
    rw [joinD_sb (by simp [bits_, line]; omega)]
    simp
  case h =>
    intro i d hd
    obtain ⟨h1, rfl⟩ := rangeD_get hd
    simp [take_eq, sb_0, sb_1, ix_bit]
    rfl
theorem draws_eq {ns : List Int} {N : Nat} {S : List SO} (hl : ns.length ≤ 63) (hN : N ≤ 1000) : ∃ xs : List Int, xs.length = N ∧ f_u_law_draws [.lck (ns.map .int), .int N] S = .ok (.dat (.lst (xs.map .int))) S := by
  suffices h : FrP (fun s S1 => S1 = S ∧ ∃ ds, IsI N ds ∧ s = .dat (.lst ds)) (f_u_law_draws [.lck (ns.map .int), .int N] S) by
    obtain ⟨s, S1, e, rfl, ds, ⟨xs, l, rfl⟩, rfl⟩ := h.ex
    exact ⟨xs, l, e⟩
  have ok : okR (N : Int) = true := by simp [okR]; omega
  unfold f_u_law_draws b_u_law_draws
  refine FrP.fn rfl ?_
  simp [initR, ok]
  rw [comp_det (J := fun i => ⟨[some (.dat (.lck (ns.map .int))), some (.dat (.int N)), none, none, none, none, none, none], S⟩) (F := fun i => .int (if ns.getD i 0 < 0 then - ns.getD i 0 else ns.getD i 0)) ?e0 ?l ?h]
  case e0 => rfl
  case l => simp [line]; omega
  case h =>
    intro i d hd
    obtain ⟨x, h, rfl⟩ := map_get hd
    simp [h]
  simp [ok]
  refine for_fr (fun i st => ∃ d2 d3 s4 s5 s6 s7, st = ⟨[some (.dat (.lck (ns.map .int))), some (.dat (.int N)), some (.own (.lst d2)), some (.own (.lst d3)), s4, s5, s6, s7], S⟩ ∧ IsI ns.length d2 ∧ IsI i d3) ?h0 ?hs ?hk
  case h0 =>
    refine ⟨_, _, _, _, _, _, rfl, ?_, isI_nil⟩
    refine isI_of (by simp) ?_
    intro i d h
    obtain ⟨x, _, rfl⟩ := map_get h
    exact ⟨_, rfl⟩
  case hs =>
    rintro i d st hd ⟨d2, d3, s4, s5, s6, s7, rfl, h2, h3⟩
    obtain ⟨h1, rfl⟩ := rangeD_get hd
    have l3 : d3.length < line := by rw [h3.len]; simp [line]; omega
    have c1 : CPow 10 18 := by decide
    have m1 : ∀ x, CMul x 48271 := fun x => cmr (by decide) (by decide)
    have m2 : ∀ x, CMul x 69621 := fun x => cmr (by decide) (by decide)
    have m3 : ∀ x, CMul x 7919 := fun x => cmr (by decide) (by decide)
    have m4 : ∀ x y, CMul (x % 2147483647) y := fun x y => cm64 (by decide) (by decide)
    have m5 : ∀ x y, CMul (x % 2147483629) y := fun x y => cm64 (by decide) (by decide)
    have v1 : ∀ x, CDiv x 4096 := fun x => cdv (by decide) (by decide)
    have v2 : ∀ x, CDiv x 1000003 := fun x => cdv (by decide) (by decide)
    by_cases n0 : ns.length = 0
    · simp [n0, List.length_eq_zero_iff.mp n0, l3, m1, m2, m3, m4, m5, v1, v2]
      exact ⟨_, _, ⟨rfl, rfl⟩, n0 ▸ h2, h3.app⟩
    · have p0 : (0 : Int) < ns.length := by omega
      have p1 : 0 < ns.length := by omega
      obtain ⟨r, er, er2⟩ := h2.at (i := i % ns.length) (Nat.mod_lt _ p1)
      obtain ⟨c, ec, ec2⟩ := (show IsI ns.length (ns.map .int) from ⟨ns, rfl, rfl⟩).at (i := i % ns.length) (Nat.mod_lt _ p1)
      have hx : ixN d2.length ((i % ns.length : Nat) : Int) = some (i % ns.length) := ixN_nat (by rw [h2.len]; exact Nat.mod_lt _ p1)
      simp at er ec hx
      by_cases b1 : 1000000000000000000 ≤ c
      · by_cases b2 : 0 < r
        · simp [p0, p1, er, ec, b1, b2, l3, c1, m1, m2, m3, m4, m5, v1, v2, sixC, hx]
          exact ⟨_, _, ⟨rfl, rfl⟩, h2.set, h3.app⟩
        · simp [p0, p1, er, ec, b1, b2, l3, c1, m1, m2, m3, m4, m5, v1, v2]
          exact ⟨_, _, ⟨rfl, rfl⟩, h2, h3.app⟩
      · simp [p0, p1, er, ec, b1, l3, c1, m1, m2, m3, m4, m5, v1, v2]
        exact ⟨_, _, ⟨rfl, rfl⟩, h2, h3.app⟩
  rintro _ ⟨d2, d3, s4, s5, s6, s7, rfl, h2, h3⟩
  simp
  simpa using h3
/-! ### blocks as data -/
def rowsD (rs : List (List Bool)) : D := .tup (rs.map fun b => .str (sb b))
theorem is_num {v lo hi : Int} {S : List SO} : f_is_number [.int v, .int lo, .int hi] S = .ok (.dat (.bl (decide (lo ≤ v ∧ v ≤ hi)))) S := by
  unfold f_is_number b_is_number
  refine fn_go rfl ?_
  simp [initR]
  by_cases h : lo ≤ v <;> simp [h]
theorem k_in01 {S : List SO} {b : Bool} : kIn S (.str (sb [b])) (.str (Str.ofString "01")) = some (.bl true) := by cases b <;> rfl
theorem is_bits_eq {a : List Bool} {n : Int} {S : List SO} (hl : a.length ≤ line) : f_is_bits [.str (sb a), .int n] S = .ok (.dat (.bl (decide ((a.length : Int) = n)))) S := by
  unfold f_is_bits b_is_bits
  refine fn_go rfl ?_
  simp [initR, hl]
  by_cases h : (a.length : Int) = n
  · simp [h]
    rw [comp_bl (fun _ => true) (by simpa using hl) ?h]
    case h =>
      intro i d hd
      obtain ⟨b, h, rfl⟩ := map_get hd
      simp [k_in01]
    simp [k_allc]
  · simp [h]
theorem is_row_eq {rs : List (List Bool)} {k m : Int} {S : List SO} (hl : rs.length ≤ line) (hr : ∀ r ∈ rs, r.length ≤ line) : f_is_row [rowsD rs, .int k, .int m] S = .ok (.dat (.bl (decide ((rs.length : Int) = k ∧ ∀ r ∈ rs, (r.length : Int) = m)))) S := by
  unfold f_is_row b_is_row rowsD
  refine fn_go rfl ?_
  simp [initR, hl]
  by_cases h : (rs.length : Int) = k
  · simp [h]
    rw [comp_bl (fun i => decide (((rs.getD i []).length : Int) = m)) (by simpa using hl) ?h]
    case h =>
      intro i d hd
      obtain ⟨b, h, rfl⟩ := map_get hd
      have hb := hr b (List.mem_of_getElem? h)
      simp [is_bits_eq hb, h]
    have e : (List.range rs.length).all (fun i => decide (((rs.getD i []).length : Int) = m)) = decide (∀ r ∈ rs, (r.length : Int) = m) := by
      rw [range_all (l := rs) (d := []) (p := fun r => decide ((r.length : Int) = m))]
      apply Bool.eq_iff_iff.mpr
      simp
    simp only [List.length_map]
    simp only [r_compB, r_consA, r_aNil, r_consB, r_opNA, List.map_map, k_allc, e]
    simp
  · simp [h]
theorem is_row_no {d : D} {k m : Int} {S : List SO} (h : kIsi S [d, .ty "tuple"] = some (.bl false)) : f_is_row [d, .int k, .int m] S = .ok (.dat (.bl false)) S := by
  unfold f_is_row b_is_row
  refine fn_go rfl ?_
  simp [initR, h]
/-! ### plain breakers -/
inductive Part where
  | bit (b : Bool) | num (n : Nat)
inductive Brk where
  | say (ps : List Part) | toss (bs : List Brk) | look (i : Nat) (a b : Brk) | ask (ps : List Part) (a : Brk)
def pD : Part → D
  | .bit b => .str (sb [b])
  | .num n => .int n
def psD (ps : List Part) : D := .tup (ps.map pD)
mutual
def bD : Brk → D
  | .say ps => .tup [.str "say", psD ps]
  | .toss bs => .tup [.str "toss", .tup (bsD bs)]
  | .look i a b => .tup [.str "look", .int i, bD a, bD b]
  | .ask ps a => .tup [.str "ask", psD ps, bD a]
def bsD : List Brk → List D
  | [] => []
  | b :: bs => bD b :: bsD bs
end
mutual
/-- how many there are, with itself -/
def Brk.size : Brk → Nat
  | .say _ => 1
  | .toss bs => 1 + sizes bs
  | .look _ a b => 1 + (a.size + b.size)
  | .ask _ a => 1 + a.size
def sizes : List Brk → Nat
  | [] => 0
  | b :: bs => b.size + sizes bs
end
mutual
def Brk.high : Brk → Nat
  | .say _ => 1
  | .toss bs => 1 + highs bs
  | .look _ a b => 1 + max a.high b.high
  | .ask _ a => 1 + a.high
def highs : List Brk → Nat
  | [] => 0
  | b :: bs => max b.high (highs bs)
end
mutual
/-- the most asks on a way -/
def Brk.asks : Brk → Nat
  | .say _ => 0
  | .toss bs => askss bs
  | .look _ a b => max a.asks b.asks
  | .ask _ a => 1 + a.asks
def askss : List Brk → Nat
  | [] => 0
  | b :: bs => max b.asks (askss bs)
end
def POk : Part → Prop
  | .bit _ => True
  | .num n => n ≤ 9999
inductive BOk : Brk → Prop
  | say {ps : List Part} : ps.length ≤ 1000 → (∀ p ∈ ps, POk p) → BOk (.say ps)
  | toss {bs : List Brk} : 1 ≤ bs.length → bs.length ≤ 64 → (∀ b ∈ bs, BOk b) → BOk (.toss bs)
  | look {i : Nat} {a b : Brk} : i ≤ 9999 → BOk a → BOk b → BOk (.look i a b)
  | ask {ps : List Part} {a : Brk} : ps.length ≤ 1000 → (∀ p ∈ ps, POk p) → BOk a → BOk (.ask ps a)
theorem bsD_map : ∀ {bs : List Brk}, bsD bs = bs.map bD
  | [] => by unfold bsD; rfl
  | b :: bs => by unfold bsD; rw [bsD_map]; rfl
theorem size_pos : ∀ {b : Brk}, 1 ≤ b.size
  | .say _ => by unfold Brk.size; omega
  | .toss _ => by unfold Brk.size; omega
  | .look _ _ _ => by unfold Brk.size; omega
  | .ask _ _ => by unfold Brk.size; omega
/-- those within -/
def inn : Brk → List Brk
  | .say _ => []
  | .toss bs => bs
  | .look _ a b => [a, b]
  | .ask _ a => [a]
theorem sizes_inn {b : Brk} : b.size = 1 + sizes (inn b) := by
  cases b <;> simp [Brk.size, inn, sizes]
theorem highs_inn {b : Brk} : b.high = 1 + highs (inn b) := by
  cases b <;> simp [Brk.high, inn, highs]
theorem inn_ok {b : Brk} (h : BOk b) : ∀ x ∈ inn b, BOk x := by
  cases h with
  | say _ _ => intro x hx; cases hx
  | toss _ _ h => exact h
  | look _ h1 h2 => intro x hx; simp [inn] at hx; rcases hx with rfl | rfl <;> assumption
  | ask _ _ h1 => intro x hx; simp [inn] at hx; subst hx; assumption
theorem inn_few {b : Brk} (h : BOk b) : (inn b).length ≤ 64 := by
  cases h <;> simp [inn]
  assumption
theorem sizes_app : ∀ {a b : List Brk}, sizes (a ++ b) = sizes a + sizes b
  | [], b => by simp [sizes]
  | x :: a, b => by rw [List.cons_append]; simp only [sizes]; rw [sizes_app]; omega
theorem high_in : ∀ {bs : List Brk} {b : Brk}, b ∈ bs → b.high ≤ highs bs
  | x :: bs, b, h => by
    unfold highs
    rcases List.mem_cons.mp h with e | e
    · subst e; omega
    · have := high_in e; omega
theorem is_num0 {v lo hi : Int} {S : List SO} (h : lo ≤ v ∧ v ≤ hi) : f_is_number [.int v, .int lo, .int hi] S = .ok (.dat (.bl true)) S := by rw [is_num, decide_eq_true h]
theorem is_bits_i {v : Int} {n : D} {S : List SO} : f_is_bits [.int v, n] S = .ok (.dat (.bl false)) S := by
  have e1 : kIsi S [.int v, .ty "str"] = some (.bl false) := by rfl
  unfold f_is_bits b_is_bits
  refine fn_go rfl ?_
  simp [initR, e1]
theorem parts_ok {ps : List Part} {S : List SO} (h : ∀ p ∈ ps, POk p) : f_are_parts [psD ps] S = .ok (.dat (.bl true)) S := by
  unfold f_are_parts b_are_parts psD
  refine fn_go rfl ?_
  have ib := fun b : Bool => is_bits_eq (a := [b]) (n := 1) (S := S) (by simp [line])
  simp [initR]
  refine for_out (fun i st => ∃ s1, st = ⟨[some (.dat (.tup (ps.map pD))), s1], S⟩) ⟨none, rfl⟩ ?hs ?hk
  case hs =>
    rintro i d st hd ⟨s1, rfl⟩
    obtain ⟨p, hp, rfl⟩ := map_get hd
    have ok := h p (List.mem_of_getElem? hp)
    cases p with
    | bit b =>
      have e := ib b
      simp at e
      simp [pD, e]
    | num n =>
      have ok : n ≤ 9999 := ok
      have e := is_num0 (v := (n : Int)) (lo := 0) (hi := 9999) (S := S) (by omega)
      simp [pD, is_bits_i, e]
  rintro _ ⟨s1, rfl⟩
  simp
theorem inner_eq {b : Brk} {S : List SO} (h : BOk b) : f_inner_plain [bD b] S = .ok (.dat (.tup ((inn b).map bD))) S := by
  have sl : ∀ (x : D) (xs : List D), kSl (.tup (x :: xs)) (some 1) none = some (.tup xs) := fun x xs => by
    rw [k_sl_t]
    unfold cutD
    rw [show (1 : Int) = ((1 : Nat) : Int) from rfl, HT.sIx_nat, HT.sIx_none]
    simp
  cases h with
  | say hl hp =>
    rename_i ps
    have e := parts_ok (S := S) hp
    unfold f_inner_plain b_inner_plain bD
    refine fn_go rfl ?_
    simp [initR, sl, -k_sl_t, ofs_inj, e, inn]
  | toss h1 h2 hb =>
    rename_i bs
    unfold f_inner_plain b_inner_plain bD
    refine fn_go rfl ?_
    have c1 : (1 : Int) ≤ bs.length ∧ (bs.length : Int) ≤ 64 := by omega
    simp [initR, sl, -k_sl_t, ofs_inj, bsD_map, inn, h1, c1, r_chC]
  | look hi h1 h2 =>
    rename_i i a b
    have e := is_num0 (v := (i : Int)) (lo := 0) (hi := 9999) (S := S) (by omega)
    unfold f_inner_plain b_inner_plain bD
    refine fn_go rfl ?_
    simp [initR, sl, -k_sl_t, ofs_inj, e, inn]
  | ask hl hp h1 =>
    rename_i ps a
    have e := parts_ok (S := S) hp
    unfold f_inner_plain b_inner_plain bD
    refine fn_go rfl ?_
    simp [initR, sl, -k_sl_t, ofs_inj, e, inn]
def wD (p : Brk × Nat) : D := .tup [bD p.1, .int p.2]
abbrev bzs (ws : List (Brk × Nat)) : Nat := sizes (ws.map (·.1))
theorem bzs_app {a b : List (Brk × Nat)} : bzs (a ++ b) = bzs a + bzs b := by simp [bzs, sizes_app]
theorem bzs_len : ∀ {ws : List (Brk × Nat)}, ws.length ≤ bzs ws
  | [] => by simp
  | w :: ws => by
    have := @bzs_len ws
    have p := @size_pos w.1
    simp only [bzs, List.map_cons, sizes, List.length_cons] at this ⊢
    omega
theorem inn_map {l : List Brk} {d : Nat} : bzs (l.map fun x => (x, d)) = sizes l := by simp [bzs, Function.comp_def]
theorem check_plain_eq {b : Brk} {S : List SO} (hb : BOk b) (hh : b.high ≤ 60) (hs : b.size ≤ 2001) : f_check_plain [bD b] S = .ok (.dat .non) S := by
  have ii := fun (x : Brk) (h : BOk x) => inner_eq (S := S) h
  have ⟨J, hJ⟩ : ∃ J : Nat → Stt → Prop, ∀ n st, J n st ↔ ∃ (ws : List (Brk × Nat)) (w : Nat) (s3 s4 s5 : Option Slot), (∀ p ∈ ws, BOk p.1 ∧ p.2 + p.1.high ≤ 61) ∧ n = bzs ws ∧ n ≤ 2001 ∧ w + n ≤ 2000 + ws.length ∧
      st = ⟨[some (.dat (bD b)), some (.own (.lst (ws.map wD))), some (.dat (.int w)), s3, s4, s5, none], S⟩ := ⟨_, fun _ _ => Iff.rfl⟩
  unfold f_check_plain b_check_plain
  refine fn_go rfl ?_
  simp [initR]
  refine while_any (R := fun F => outA F = .ok (.dat .non) S) J ?hs b.size _ ((hJ _ _).mpr ⟨[(b, 1)], 0, none, none, none, fun p hp => ?h1, by simp [bzs, sizes], hs, by simp; omega, by simp [wD]⟩)
  case h1 =>
    rw [List.mem_singleton.mp hp]
    exact ⟨hb, by show 1 + b.high ≤ 61; omega⟩
  case hs =>
    intro n st hj
    have ⟨ws, w, s3, s4, s5, ok, en, n1, n2, e⟩ := (hJ _ _).mp hj
    subst e
    rcases List.eq_nil_or_concat ws with e | ⟨ws', ⟨x, d⟩, e⟩
    · subst e
      simp
    · subst e
      have ⟨ox, dx⟩ := ok (x, d) (by simp)
      have dx : d + x.high ≤ 61 := dx
      have ox : BOk x := ox
      have zx := @sizes_inn x
      have hx := @highs_inn x
      have fx := inn_few ox
      have ll := @bzs_len ws'
      have e1 : bzs (ws' ++ [(x, d)]) = bzs ws' + x.size := by rw [bzs_app]; simp [bzs, sizes]
      rw [List.concat_eq_append] at *
      rw [e1] at en
      simp only [List.length_append, List.length_cons, List.length_nil] at n2
      have ie := ii x ox
      have w2 : ¬ (2000 : Int) < (w : Int) + (inn x).length := by
        have h0 : (inn x).length ≤ sizes (inn x) := by
          have := @bzs_len ((inn x).map fun y => (y, d))
          rw [inn_map] at this
          simpa using this
        omega
      have d2 : ¬ (60 : Int) < (d : Int) := by omega
      have la : ws'.length + (inn x).length ≤ line := by simp only [line]; omega
      have nx : J (bzs (ws' ++ (inn x).map fun y => (y, d + 1))) ⟨[some (.dat (bD b)), some (.own (.lst ((ws' ++ (inn x).map fun y => (y, d + 1)).map wD))), some (.dat (.int ((w + (inn x).length : Nat) : Int))), some (.dat (bD x)), some (.dat (.int d)), some (.dat (.tup ((inn x).map bD))), none], S⟩ :=
        (hJ _ _).mpr ⟨_, _, _, _, _, fun p hp => by
          rcases List.mem_append.mp hp with h | h
          · exact ok p (by simp [h])
          · have ⟨y, hy, e⟩ := List.mem_map.mp h
            subst e
            have := high_in hy
            exact ⟨inn_ok ox y hy, by show d + 1 + y.high ≤ 61; omega⟩, rfl, by rw [bzs_app, inn_map]; omega, by rw [bzs_app, inn_map]; simp; omega, rfl⟩
      have lt : bzs (ws' ++ (inn x).map fun y => (y, d + 1)) < n := by rw [bzs_app, inn_map]; omega
      have mw : (ws' ++ [(x, d)]).map wD = ws'.map wD ++ [.tup [bD x, .int d]] := by simp [wD]
      rw [mw]
      have cc : ∀ r : List (Option Slot), r.length = 7 → r[4]? = some (some (.dat (.int d))) → True := fun _ _ _ => trivial
      simp [ie, w2, d2]
      rw [comp_const (F := fun i => .tup [bD ((inn x).getD i (.say [])), .int ((d : Int) + 1)]) ?cl ?ch]
      case cl => simp only [List.length_map, line]; omega
      case ch =>
        intro i y hy
        have ⟨z, hz, e⟩ := map_get hy
        subst e
        have h' : ((inn x)[i]?).getD (.say []) = z := by rw [hz]; rfl
        simp [h']
      have de : (List.range ((inn x).map bD).length).map (fun i => D.tup [bD ((inn x).getD i (.say [])), .int ((d : Int) + 1)]) = ((inn x).map fun y => (y, d + 1)).map wD := by
        rw [List.length_map, range_map (l := inn x) (d := .say []) (f := fun y => D.tup [bD y, .int ((d : Int) + 1)]), List.map_map]
        rfl
      rw [de]
      simp [la]
      refine ⟨_, lt, ?_⟩
      simpa using nx
def word : Brk → String
  | .say _ => "say"
  | .toss _ => "toss"
  | .look _ _ _ => "look"
  | .ask _ _ => "ask"
theorem bD_form : ∀ b : Brk, ∃ r, bD b = .tup (.str (Str.ofString (word b)) :: r)
  | .say _ => ⟨_, by unfold bD; rfl⟩
  | .toss _ => ⟨_, by unfold bD; rfl⟩
  | .look _ _ _ => ⟨_, by unfold bD; rfl⟩
  | .ask _ _ => ⟨_, by unfold bD; rfl⟩
theorem scDs_strs : ∀ {ys : List Str}, scDs (ys.map D.str) = some (ys.map V.str)
  | [] => rfl
  | y :: ys => by simp [scDs, scD, scDs_strs]
theorem inV_strs {x : Str} : ∀ {ys : List Str}, inV (.str x) (ys.map V.str) = decide (x ∈ ys)
  | [] => rfl
  | y :: ys => by
    have e1 : eqV (.str y) (.str x) = decide (y = x) := by first | rfl | simp [eqV]
    have ih := @inV_strs x ys
    unfold inV at ih ⊢
    rw [List.map_cons, List.any_cons, e1, ih]
    apply Bool.eq_iff_iff.mpr
    simp only [Bool.or_eq_true, decide_eq_true_eq, List.mem_cons]
    constructor
    · rintro (h | h)
      · exact .inl h.symm
      · exact .inr h
    · rintro (h | h)
      · exact .inl h.symm
      · exact .inr h
theorem k_in_words {S : List SO} {x : Str} {ys : List Str} : kIn S (.str x) (.tup (ys.map .str)) = some (.bl (decide (x ∈ ys))) := by
  simp only [kIn, dIn, scD, scDs_strs, Option.map_some, inV_strs]
def wordsS : List Str := [Str.ofString "say", Str.ofString "toss", Str.ofString "look", Str.ofString "ask"]
theorem k_in_ws {S : List SO} {x : Str} : kIn S (.str x) (.tup [.str (Str.ofString "say"), .str (Str.ofString "toss"), .str (Str.ofString "look"), .str (Str.ofString "ask")]) = some (.bl (decide (x ∈ wordsS))) := k_in_words (ys := wordsS)
theorem hpw_word {x : Str} {r : List D} {S : List SO} : f_has_plain_word [.tup (.str x :: r)] S = .ok (.dat (.bl (decide (x ∈ wordsS)))) S := by
  unfold f_has_plain_word b_has_plain_word
  refine fn_go rfl ?_
  have e : (0 : Int) < (r.length : Int) + 1 := by omega
  simp [initR, k_in_ws, e]
theorem word_in : ∀ b : Brk, Str.ofString (word b) ∈ wordsS
  | .say _ => by simp [word, wordsS]
  | .toss _ => by simp [word, wordsS]
  | .look _ _ _ => by simp [word, wordsS]
  | .ask _ _ => by simp [word, wordsS]
theorem hpw_b {b : Brk} {S : List SO} : f_has_plain_word [bD b] S = .ok (.dat (.bl true)) S := by
  obtain ⟨r, e⟩ := bD_form b
  rw [e, hpw_word, decide_eq_true (word_in b)]
def mx : List (Brk × Nat) → Nat
  | [] => 0
  | (x, a) :: r => max (a + x.asks) (mx r)
theorem mx_app : ∀ {a b : List (Brk × Nat)}, mx (a ++ b) = max (mx a) (mx b)
  | [], b => by simp [mx]
  | (x, k) :: a, b => by rw [List.cons_append]; simp only [mx]; rw [mx_app]; omega
def ta (x : Brk) : Nat := match x with
  | .ask _ _ => 1
  | _ => 0
theorem mx_inn : ∀ (l : List Brk) (t : Nat), max t (mx (l.map fun y => (y, t))) = t + askss l
  | [], t => by simp [mx, askss]
  | y :: l, t => by
    have := mx_inn l t
    simp only [List.map_cons, mx, askss]
    omega
theorem asks_inn (x : Brk) (a : Nat) : a + x.asks = max (a + ta x) (mx ((inn x).map fun y => (y, a + ta x))) := by
  rw [mx_inn]
  cases x <;> simp [Brk.asks, inn, ta, askss]
  omega
theorem is_ask {x : Brk} {S : List SO} : kEq S (.str (Str.ofString (word x))) (.str (Str.ofString "ask")) = some (.bl (decide (ta x = 1))) := by
  rw [kEq_str]
  cases x <;> simp [word, ta, ofs_inj]
theorem most_plain_eq {b : Brk} {S : List SO} (hb : BOk b) (hs : b.size ≤ 2001) : f_most_plain_asks [bD b] S = .ok (.dat (.int b.asks)) S := by
  have ii := fun (x : Brk) (h : BOk x) => inner_eq (S := S) h
  have ⟨J, hJ⟩ : ∃ J : Nat → Stt → Prop, ∀ n st, J n st ↔ ∃ (ws : List (Brk × Nat)) (w : Nat) (s3 s4 : Option Slot), (∀ p ∈ ws, BOk p.1) ∧ n = bzs ws ∧ n ≤ 2001 ∧ max w (mx ws) = b.asks ∧
      st = ⟨[some (.dat (bD b)), some (.dat (.int w)), some (.own (.lst (ws.map wD))), s3, s4, none], S⟩ := ⟨_, fun _ _ => Iff.rfl⟩
  unfold f_most_plain_asks b_most_plain_asks
  refine fn_go rfl ?_
  simp [initR]
  refine while_any (R := fun F => outA (seqA _ F) = .ok (.dat (.int b.asks)) S) J ?hs b.size _ ((hJ _ _).mpr ⟨[(b, 0)], 0, none, none, fun p hp => ?h1, by simp [bzs, sizes], hs, by simp [mx], by simp [wD]⟩)
  case h1 =>
    rw [List.mem_singleton.mp hp]
    exact hb
  case hs =>
    intro n st hj
    have ⟨ws, w, s3, s4, ok, en, n1, n2, e⟩ := (hJ _ _).mp hj
    subst e
    rcases List.eq_nil_or_concat ws with e | ⟨ws', ⟨x, d⟩, e⟩
    · subst e
      simp [mx] at n2
      simp [n2]
    · subst e
      have ox : BOk x := ok (x, d) (by simp)
      have zx := @sizes_inn x
      have fx := inn_few ox
      have ll := @bzs_len ws'
      have e1 : bzs (ws' ++ [(x, d)]) = bzs ws' + x.size := by rw [bzs_app]; simp [bzs, sizes]
      rw [List.concat_eq_append] at *
      rw [e1] at en
      have ie := ii x ox
      have ⟨t, ht⟩ : ∃ t, t = d + ta x := ⟨_, rfl⟩
      have am := asks_inn x d
      rw [← ht] at am
      have m2 : max (max w t) (mx (ws' ++ (inn x).map fun y => (y, t))) = b.asks := by
        rw [mx_app] at n2 ⊢
        simp only [mx] at n2
        omega
      have la : ws'.length + (inn x).length ≤ line := by simp only [line]; omega
      have nx : J (bzs (ws' ++ (inn x).map fun y => (y, t))) ⟨[some (.dat (bD b)), some (.dat (.int ((max w t : Nat) : Int))), some (.own (.lst ((ws' ++ (inn x).map fun y => (y, t)).map wD))), some (.dat (bD x)), some (.dat (.int d)), none], S⟩ :=
        (hJ _ _).mpr ⟨_, _, _, _, fun p hp => by
          rcases List.mem_append.mp hp with h | h
          · exact ok p (by simp [h])
          · have ⟨y, hy, e⟩ := List.mem_map.mp h
            subst e
            exact inn_ok ox y hy, rfl, by rw [bzs_app, inn_map]; omega, m2, rfl⟩
      have lt : bzs (ws' ++ (inn x).map fun y => (y, t)) < n := by rw [bzs_app, inn_map]; omega
      have ⟨r, ef⟩ := bD_form x
      have x0 : ∀ S, kIx S (bD x) (.int 0) = some (.str (Str.ofString (word x))) := fun S => by rw [ef]; simp
      have ia := fun S => is_ask (x := x) (S := S)
      have ti : (d : Int) + (if decide (ta x = 1) = true then 1 else 0) = t := by
        rw [ht]
        cases x <;> simp [ta]
      have ⟨u, hu⟩ : ∃ u, u = max w t := ⟨_, rfl⟩
      have mi : (if w < t then (t : Int) else w) = (u : Int) := by split <;> omega
      rw [← hu] at nx
      have mw : (ws' ++ [(x, d)]).map wD = ws'.map wD ++ [.tup [bD x, .int d]] := by simp [wD]
      rw [mw]
      generalize decide (ta x = 1) = bb at ia ti
      simp [ie, x0, ia, ti, mi, -kEq_str]
      rw [comp_const (F := fun i => .tup [bD ((inn x).getD i (.say [])), .int t]) ?cl ?ch]
      case cl => simp only [List.length_map, line]; omega
      case ch =>
        intro i y hy
        have ⟨z, hz, e⟩ := map_get hy
        subst e
        have h' : ((inn x)[i]?).getD (.say []) = z := by rw [hz]; rfl
        simp [h', x0, ia, ti, -kEq_str]
      have de : (List.range ((inn x).map bD).length).map (fun i => D.tup [bD ((inn x).getD i (.say [])), .int (t : Int)]) = ((inn x).map fun y => (y, t)).map wD := by
        rw [List.length_map, range_map (l := inn x) (d := .say []) (f := fun y => D.tup [bD y, .int (t : Int)]), List.map_map]
        rfl
      rw [de]
      simp [la]
      refine ⟨_, lt, ?_⟩
      simpa using nx
def genD (n m : Nat) (rs : List (List Bool)) : D := .tup [.str "generator", .int n, .int m, rowsD rs]
theorem cp1 {n : Nat} (h : n ≤ 100) (i : Int) (hi : i.natAbs < 2 ^ 64) : CPow i n := ⟨by omega, by omega, hi⟩
theorem shl1 {S : List SO} {n : Nat} (h : n ≤ 100) : kShl S (.int 1) (.int n) = some (.int ((2 ^ n : Nat) : Int)) := by
  rw [k_shl, if_pos (cp1 h _ (by decide))]
  simp
theorem gen_rows {s : Str} {n m : Nat} {rs : List (List Bool)} {S : List SO} (hn : n ≤ 100) (hl : rs.length ≤ line) (hr : ∀ r ∈ rs, r.length ≤ line) : f_is_generator [.tup [.str s, .int n, .int m, rowsD rs]] S =
    .ok (.dat (.bl (decide (s = "generator" ∧ (1 ≤ n ∧ n ≤ 10) ∧ (1 ≤ m ∧ m ≤ 40) ∧ rs.length = 2 ^ n ∧ ∀ r ∈ rs, r.length = m)))) S := by
  unfold f_is_generator b_is_generator
  refine fn_go rfl ?_
  have e := fun k => is_row_eq (k := k) (m := (m : Int)) (S := S) hl hr
  simp [initR, at_z0, at_z1, at_z2, at_z3, is_num, shl1 hn, -k_shl, e]
  by_cases h1 : s = "generator"
  · by_cases h2 : (1 : Int) ≤ n ∧ (n : Int) ≤ 10
    · by_cases h3 : (1 : Int) ≤ m ∧ (m : Int) ≤ 40
      · have h2' : 1 ≤ n ∧ n ≤ 10 := by omega
        have h3' : 1 ≤ m ∧ m ≤ 40 := by omega
        have e2 : ((rs.length : Int) = 2 ^ n) ↔ (rs.length = 2 ^ n) := by
          constructor
          · intro z; exact_mod_cast z
          · intro z; exact_mod_cast z
        have e3 : (∀ r ∈ rs, (r.length : Int) = m) ↔ (∀ r ∈ rs, r.length = m) := ⟨fun z r hr => by have := z r hr; omega, fun z r hr => by have := z r hr; omega⟩
        simp only [e3] at e
        simp [h1, h2, h3, h2', h3', e2, is_num, shl1 hn, -k_shl, e]
      · have h3' : ¬ (1 ≤ m ∧ m ≤ 40) := by omega
        simp [h1, h2, h3, h3', is_num, shl1 hn, -k_shl, e]
    · have h2' : ¬ (1 ≤ n ∧ n ≤ 10) := by omega
      simp [h1, h2, h2', is_num, shl1 hn, -k_shl, e]
  · simp [h1, is_num, shl1 hn, -k_shl, e]
@[simp] theorem gx0 {n m : Nat} {rs : List (List Bool)} {S : List SO} : kIx S (genD n m rs) (.int 0) = some (.str "generator") := by unfold genD; simp
@[simp] theorem gx1 {n m : Nat} {rs : List (List Bool)} {S : List SO} : kIx S (genD n m rs) (.int 1) = some (.int n) := by unfold genD; simp
@[simp] theorem gx2 {n m : Nat} {rs : List (List Bool)} {S : List SO} : kIx S (genD n m rs) (.int 2) = some (.int m) := by unfold genD; simp
@[simp] theorem gx3 {n m : Nat} {rs : List (List Bool)} {S : List SO} : kIx S (genD n m rs) (.int 3) = some (rowsD rs) := by unfold genD; simp
/-! ### made breakers -/
inductive Lay where
  | longer (n : Nat) (rs : List (List Bool)) (k : Nat) | tree (n : Nat) (rs : List (List Bool)) (d q : Nat)
  | marks (l m : Nat) | secrets (l m : Nat) | once (m : Nat) | next (m : Nat) | guess (m : Nat) | opening (s : List Bool)
  | counter (l c m : Nat) | cut (m : Nat) | onetime (n m : Nat) (rs : List (List Bool)) (l : Nat) | hard (n : Nat) | bit
def lword : Lay → String
  | .longer _ _ _ => "longer" | .tree _ _ _ _ => "tree" | .marks _ _ => "marks" | .secrets _ _ => "secrets" | .once _ => "once" | .next _ => "next" | .guess _ => "guess"
  | .opening _ => "opening" | .counter _ _ _ => "counter" | .cut _ => "cut" | .onetime _ _ _ _ => "onetime" | .hard _ => "hard" | .bit => "bit"
def lpar : Lay → List D
  | .longer n rs k => [genD n (n + 1) rs, .int k]
  | .tree n rs d q => [genD n (2 * n) rs, .int d, .int q]
  | .marks l m => [.int l, .int m]
  | .secrets l m => [.int l, .int m]
  | .once m => [.int m]
  | .next m => [.int m]
  | .guess m => [.int m]
  | .opening s => [.str (sb s)]
  | .counter l c m => [.int l, .int c, .int m]
  | .cut m => [.int m]
  | .onetime n m rs l => [genD n m rs, .int l]
  | .hard n => [.int n]
  | .bit => []
structure GenOk (n m : Nat) (rs : List (List Bool)) : Prop where
  h1 : 1 ≤ n
  h2 : n ≤ 10
  h3 : 1 ≤ m
  h4 : m ≤ 40
  hl : rs.length = 2 ^ n
  hr : ∀ r ∈ rs, r.length = m
theorem GenOk.is {n m : Nat} {rs : List (List Bool)} {S : List SO} (G : GenOk n m rs) : f_is_generator [genD n m rs] S = .ok (.dat (.bl true)) S := by
  have p : 2 ^ n ≤ 2 ^ 10 := Nat.pow_le_pow_right (by omega) G.h2
  have h1 := G.h1
  have h2 := G.h2
  have h3 := G.h3
  have h4 := G.h4
  have g := gen_rows (s := "generator") (n := n) (m := m) (rs := rs) (S := S) (by omega) (by rw [G.hl]; simp [line]; omega) (fun r h => by rw [G.hr r h]; simp [line]; omega)
  rw [decide_eq_true ⟨rfl, ⟨h1, h2⟩, ⟨h3, h4⟩, G.hl, G.hr⟩] at g
  exact g
def Ln (m : Nat) : Prop := 1 ≤ m ∧ m ≤ 40
def LOk : Lay → Prop
  | .longer n rs k => GenOk n (n + 1) rs ∧ 1 ≤ k ∧ k ≤ 20
  | .tree n rs d q => GenOk n (2 * n) rs ∧ n ≤ 8 ∧ 1 ≤ d ∧ d ≤ 8 ∧ n + d ≤ 12 ∧ 1 ≤ q ∧ q ≤ 1000
  | .marks l m => Ln l ∧ Ln m
  | .secrets l m => Ln l ∧ Ln m
  | .once m => Ln m
  | .next m => Ln m
  | .guess m => Ln m
  | .opening s => Ln s.length
  | .counter l c m => Ln l ∧ 1 ≤ c ∧ c ≤ 256 ∧ Ln m
  | .cut m => Ln m
  | .onetime n m rs l => GenOk n m rs ∧ 1 ≤ l ∧ l ≤ 4
  | .hard n => 1 ≤ n ∧ n ≤ 10
  | .bit => True
theorem len_ok {m : Nat} {S : List SO} (h : Ln m) : f_is_length [.int m] S = .ok (.dat (.bl true)) S := by
  have e := is_num0 (v := (m : Int)) (lo := 1) (hi := 40) (S := S) ⟨by have := h.1; omega, by have := h.2; omega⟩
  unfold f_is_length b_is_length
  refine fn_go rfl ?_
  simp [initR, e]
theorem fits_eq {y : Lay} {S : List SO} (h : LOk y) : f_fits_word [.str (Str.ofString (lword y)), .tup (lpar y)] S = .ok (.dat (.bl true)) S := by
  have nm := fun (v lo hi : Nat) (S : List SO) (h : lo ≤ v ∧ v ≤ hi) => is_num0 (v := (v : Int)) (lo := lo) (hi := hi) (S := S) (by omega)
  have k2 := fun (x : Str) S => k_in_words (S := S) (x := x) (ys := [Str.ofString "marks", Str.ofString "secrets"])
  have k4 := fun (x : Str) S => k_in_words (S := S) (x := x) (ys := [Str.ofString "once", Str.ofString "next", Str.ofString "guess", Str.ofString "cut"])
  simp only [List.map_cons, List.map_nil] at k2 k4
  cases y with
  | longer n rs k =>
    have ⟨G, k1, k20⟩ : GenOk n (n + 1) rs ∧ 1 ≤ k ∧ k ≤ 20 := h
    have e := G.is (S := S)
    have e2 := nm k 1 20 S ⟨k1, k20⟩
    simp at e2
    have fl : f_fits_longer [genD n (n + 1) rs, .int k] S = .ok (.dat (.bl true)) S := by
      unfold f_fits_longer b_fits_longer
      refine fn_go rfl ?_
      simp [initR, e, e2]
    unfold f_fits_word b_fits_word
    refine fn_go rfl ?_
    simp [initR, lword, lpar, ofs_inj, fl]
  | tree n rs d q =>
    have ⟨G, n8, d1, d8, nd, q1, q2⟩ : GenOk n (2 * n) rs ∧ n ≤ 8 ∧ 1 ≤ d ∧ d ≤ 8 ∧ n + d ≤ 12 ∧ 1 ≤ q ∧ q ≤ 1000 := h
    have e := G.is (S := S)
    have e2 := nm d 1 8 S ⟨d1, d8⟩
    have e3 := nm q 1 1000 S ⟨q1, q2⟩
    simp at e2 e3
    have a1 : ¬ (8 : Int) < n := by omega
    have a2 : (n : Int) + d ≤ 12 := by omega
    have c2 : CMul 2 (n : Int) := .inl ⟨by decide, by decide⟩
    have ft : f_fits_tree [genD n (2 * n) rs, .int d, .int q] S = .ok (.dat (.bl true)) S := by
      unfold f_fits_tree b_fits_tree
      refine fn_go rfl ?_
      simp [initR, e, e2, e3, a1, a2, c2]
    unfold f_fits_word b_fits_word
    refine fn_go rfl ?_
    simp [initR, lword, lpar, ofs_inj, ft]
  | marks l m =>
    have ⟨h1, h2⟩ : Ln l ∧ Ln m := h
    have e1 := len_ok (S := S) h1
    have e2 := len_ok (S := S) h2
    unfold f_fits_word b_fits_word
    refine fn_go rfl ?_
    simp [initR, lword, lpar, ofs_inj, k2, e1, e2]
  | secrets l m =>
    have ⟨h1, h2⟩ : Ln l ∧ Ln m := h
    have e1 := len_ok (S := S) h1
    have e2 := len_ok (S := S) h2
    unfold f_fits_word b_fits_word
    refine fn_go rfl ?_
    simp [initR, lword, lpar, ofs_inj, k2, e1, e2]
  | once m =>
    have e1 := len_ok (S := S) (show Ln m from h)
    unfold f_fits_word b_fits_word
    refine fn_go rfl ?_
    simp [initR, lword, lpar, ofs_inj, k2, k4, e1]
  | next m =>
    have e1 := len_ok (S := S) (show Ln m from h)
    unfold f_fits_word b_fits_word
    refine fn_go rfl ?_
    simp [initR, lword, lpar, ofs_inj, k2, k4, e1]
  | guess m =>
    have e1 := len_ok (S := S) (show Ln m from h)
    unfold f_fits_word b_fits_word
    refine fn_go rfl ?_
    simp [initR, lword, lpar, ofs_inj, k2, k4, e1]
  | cut m =>
    have e1 := len_ok (S := S) (show Ln m from h)
    unfold f_fits_word b_fits_word
    refine fn_go rfl ?_
    simp [initR, lword, lpar, ofs_inj, k2, k4, e1]
  | opening s =>
    have h' : Ln s.length := h
    have e1 := len_ok (S := S) h'
    have l1 : s.length ≤ line := by have := h'.2; simp only [line]; omega
    have e2 := is_bits_eq (a := s) (n := (s.length : Int)) (S := S) l1
    simp at e2
    unfold f_fits_word b_fits_word
    refine fn_go rfl ?_
    simp [initR, lword, lpar, ofs_inj, k2, k4, e1, e2, l1]
  | counter l c m =>
    have ⟨h1, c1, c2, h2⟩ : Ln l ∧ 1 ≤ c ∧ c ≤ 256 ∧ Ln m := h
    have e1 := len_ok (S := S) h1
    have e2 := len_ok (S := S) h2
    have e3 := nm c 1 256 S ⟨c1, c2⟩
    simp at e3
    unfold f_fits_word b_fits_word
    refine fn_go rfl ?_
    simp [initR, lword, lpar, ofs_inj, k2, k4, e1, e2, e3]
  | onetime n m rs l =>
    have ⟨G, l1, l4⟩ : GenOk n m rs ∧ 1 ≤ l ∧ l ≤ 4 := h
    have e := G.is (S := S)
    have e3 := nm l 1 4 S ⟨l1, l4⟩
    simp at e3
    unfold f_fits_word b_fits_word
    refine fn_go rfl ?_
    simp [initR, lword, lpar, ofs_inj, k2, k4, e, e3]
  | hard n =>
    have ⟨l1, l4⟩ : 1 ≤ n ∧ n ≤ 10 := h
    have e3 := nm n 1 10 S ⟨l1, l4⟩
    simp at e3
    unfold f_fits_word b_fits_word
    refine fn_go rfl ?_
    simp [initR, lword, lpar, ofs_inj, k2, k4, e3]
  | bit =>
    unfold f_fits_word b_fits_word
    refine fn_go rfl ?_
    simp [initR, lword, lpar, ofs_inj, k2, k4]
def layD (y : Lay) (d : D) : D := .tup (.str (Str.ofString (lword y)) :: (lpar y ++ [d]))
def mkD : List Lay → Brk → D
  | [], b => bD b
  | y :: ls, b => layD y (mkD ls b)
def OTok : List Lay → Prop
  | [] => True
  | [_] => True
  | y :: z :: r => lword y ≠ "onetime" ∧ OTok (z :: r)
theorem sl_mid {x d : D} {ps : List D} : kSl (.tup (x :: (ps ++ [d]))) (some 1) (some (-1)) = some (.tup ps) := by
  rw [k_sl_t]
  unfold cutD
  have e1 : HT.sIx (x :: (ps ++ [d])).length 0 (some 1) = 1 := by
    show (if (1 : Int) < 0 then ((1 : Int) + (((x :: (ps ++ [d])).length : Nat) : Int)).toNat else min (1 : Int).toNat (x :: (ps ++ [d])).length) = 1
    rw [if_neg (by decide)]
    simp
  have e2 : HT.sIx (x :: (ps ++ [d])).length (x :: (ps ++ [d])).length (some (-1)) = ps.length + 1 := by
    show (if (-1 : Int) < 0 then ((-1 : Int) + (((x :: (ps ++ [d])).length : Nat) : Int)).toNat else min (-1 : Int).toNat (x :: (ps ++ [d])).length) = _
    rw [if_pos (by decide)]
    simp
    omega
  rw [e1, e2]
  simp
theorem at_last {x d : D} {ps : List D} : atI (x :: (ps ++ [d])) (-1) = some d := by
  exact atI_last (x :: ps) d
theorem lword_no (y : Lay) : Str.ofString (lword y) ∉ wordsS := by
  cases y <;> simp [lword, wordsS, ofs_inj]
theorem hpw_l {y : Lay} {d : D} {S : List SO} : f_has_plain_word [layD y d] S = .ok (.dat (.bl false)) S := by
  unfold layD
  rw [hpw_word, decide_eq_false (lword_no y)]
theorem check_breaker_eq {ls : List Lay} {b : Brk} {S : List SO} (hl : ls.length ≤ 20) (ho : ∀ y ∈ ls, LOk y) (ot : OTok ls) (hb : BOk b) (hh : b.high ≤ 60) (hs : b.size ≤ 2001) : f_check_breaker [mkD ls b] S = .ok (.dat .non) S := by
  have cp := check_plain_eq (S := S) hb hh hs
  have ⟨J, hJ⟩ : ∃ J : Nat → Stt → Prop, ∀ n st, J n st ↔ ∃ (ls : List Lay) (k : Nat) (w : D), (w = .non ∨ ∃ s, w = .str (Str.ofString s) ∧ (s = "onetime" → ls = [])) ∧ n = ls.length ∧ n + k ≤ 20 ∧ (∀ y ∈ ls, LOk y) ∧ OTok ls ∧ st = ⟨[some (.dat (mkD ls b)), some (.dat (.int k)), some (.dat w)], S⟩ := ⟨_, fun _ _ => Iff.rfl⟩
  unfold f_check_breaker b_check_breaker
  refine fn_go rfl ?_
  simp [initR]
  refine while_any (R := fun F => outA (seqA _ F) = .ok (.dat .non) S) J ?hs ls.length _ ((hJ _ _).mpr ⟨ls, 0, .non, .inl rfl, rfl, by omega, ho, ot, rfl⟩)
  case hs =>
    intro n st hj
    have ⟨ls, k, w, hw, en, nk, ho, ot, e⟩ := (hJ _ _).mp hj
    subst e
    cases ls with
    | nil =>
      have e := hpw_b (b := b) (S := S)
      simp [mkD, e, cp]
    | cons y ls =>
      have hw2 := hpw_l (y := y) (d := mkD ls b) (S := S)
      have ly := ho y List.mem_cons_self
      have fe := fits_eq (S := S) ly
      have wn : ∀ S, kEq S w (.str (Str.ofString "onetime")) = some (.bl false) := fun S => by
        rcases hw with h | ⟨s, h, h2⟩
        · subst h; rfl
        · subst h
          have : s ≠ "onetime" := fun e => by have := h2 e; cases this
          simp [ofs_inj, this]
      have nx : J ls.length ⟨[some (.dat (mkD ls b)), some (.dat (.int ((k + 1 : Nat) : Int))), some (.dat (.str (Str.ofString (lword y))))], S⟩ := (hJ _ _).mpr ⟨ls, k + 1, _, .inr ⟨_, rfl, fun e => by
        cases ls with
        | nil => rfl
        | cons z r => exact absurd e ot.1⟩, rfl, by simp at en; omega, fun z hz => ho z (List.mem_cons_of_mem _ hz), by
          cases ls with
          | nil => trivial
          | cons z r => exact ot.2, rfl⟩
      have k20 : ¬ (20 : Int) < (k : Int) + 1 := by simp at en; omega
      unfold mkD
      unfold layD at hw2 ⊢
      have sm := @sl_mid (.str (Str.ofString (lword y))) (mkD ls b) (lpar y)
      have al := @at_last (.str (Str.ofString (lword y))) (mkD ls b) (lpar y)
      have ln : ∀ ps : List D, decide ((ps.length : Int) + 1 + 1 < 2) = false := fun ps => decide_eq_false (by omega)
      generalize mkD ls b = d at *
      generalize lpar y = ps at *
      simp [hw2, wn, fe, sm, al, -k_sl_t, k20, ln]
      refine ⟨ls.length, by simp at en; omega, ?_⟩
      simpa using nx
def asksM : List Lay → Brk → Nat
  | [], b => b.asks
  | .marks _ _ :: ls, b => 1 + asksM ls b
  | .secrets _ _ :: ls, b => asksM ls b
  | .counter _ c _ :: _, _ => c
  | _ :: _, _ => 0
theorem most_asks_eq {ls : List Lay} {b : Brk} {S : List SO} (hl : ls.length ≤ 20) (ho : ∀ y ∈ ls, LOk y) (ot : OTok ls) (hb : BOk b) (hh : b.high ≤ 60) (hs : b.size ≤ 2001) : f_most_asks [mkD ls b] S = .ok (.dat (.int (asksM ls b))) S := by
  have cb := check_breaker_eq (S := S) hl ho ot hb hh hs
  have mp := most_plain_eq (S := S) hb hs
  have k2 := fun (x : Str) S => k_in_words (S := S) (x := x) (ys := [Str.ofString "marks", Str.ofString "secrets"])
  simp only [List.map_cons, List.map_nil] at k2
  have n2 : ∀ (x : Str) S, kNotIn S (.str x) (.tup [.str (Str.ofString "marks"), .str (Str.ofString "secrets")]) = some (.bl (!decide (x ∈ [Str.ofString "marks", Str.ofString "secrets"]))) := fun x S => by
    have e := k2 x S
    unfold kIn at e
    unfold kNotIn
    cases h : dIn (.str x) (.tup [.str (Str.ofString "marks"), .str (Str.ofString "secrets")]) with
    | none => rw [h] at e; cases e
    | some v => rw [h] at e; cases e; rfl
  have ⟨J, hJ⟩ : ∃ J : Nat → Stt → Prop, ∀ n st, J n st ↔ ∃ (ms : List Lay) (k : Nat), n = ms.length ∧ k + asksM ms b = asksM ls b ∧ st = ⟨[some (.dat (mkD ms b)), some (.dat (.int k))], S⟩ := ⟨_, fun _ _ => Iff.rfl⟩
  unfold f_most_asks b_most_asks
  refine fn_go rfl ?_
  simp [initR, cb]
  refine while_any (R := fun F => outA (seqA _ F) = .ok (.dat (.int (asksM ls b))) S) J ?hs ls.length _ ((hJ _ _).mpr ⟨ls, 0, rfl, by omega, rfl⟩)
  case hs =>
    intro n st hj
    have ⟨ms, k, en, ek, e⟩ := (hJ _ _).mp hj
    subst e
    cases ms with
    | nil =>
      have e := hpw_b (b := b) (S := S)
      have ek' : (k : Int) + b.asks = asksM ls b := by rw [← ek]; unfold asksM; omega
      simp [mkD, e, mp, ek']
    | cons y ms =>
      have hw2 := hpw_l (y := y) (d := mkD ms b) (S := S)
      have al := @at_last (.str (Str.ofString (lword y))) (mkD ms b) (lpar y)
      have nx : ∀ k' : Nat, k' + asksM ms b = asksM ls b → J ms.length ⟨[some (.dat (mkD ms b)), some (.dat (.int k'))], S⟩ := fun k' h => (hJ _ _).mpr ⟨ms, k', rfl, h, rfl⟩
      have lt : ms.length < n := by simp at en; omega
      unfold layD at hw2
      have sh : mkD (y :: ms) b = .tup (.str (Str.ofString (lword y)) :: (lpar y ++ [mkD ms b])) := rfl
      rw [sh]
      cases y with
      | marks l m =>
        have nx' := nx (k + 1) (by simp only [asksM] at ek; omega)
        simp only [lword, lpar, List.cons_append, List.nil_append] at hw2 al ⊢
        generalize mkD ms b = d at *
        simp [hw2, n2, ofs_inj, al]
        refine ⟨ms.length, lt, ?_⟩
        simpa using nx'
      | secrets l m =>
        have nx' := nx k (by simp only [asksM] at ek; omega)
        simp only [lword, lpar, List.cons_append, List.nil_append] at hw2 al ⊢
        generalize mkD ms b = d at *
        simp [hw2, n2, ofs_inj, al]
        exact ⟨ms.length, lt, nx'⟩
      | counter l c m =>
        have ek' : (k : Int) + c = asksM ls b := by rw [← ek]; unfold asksM; omega
        simp only [lword, lpar, List.cons_append, List.nil_append] at hw2 al ⊢
        generalize mkD ms b = d at *
        simp [hw2, n2, ofs_inj, al, ek']
      | longer _ _ _ => 
        have ek' : k = asksM ls b := by rw [← ek]; simp [asksM]
        simp only [lword, lpar, List.cons_append, List.nil_append] at hw2 al ⊢
        simp [hw2, n2, ofs_inj, ek']
      | tree _ _ _ _ => 
        have ek' : k = asksM ls b := by rw [← ek]; simp [asksM]
        simp only [lword, lpar, List.cons_append, List.nil_append] at hw2 al ⊢
        simp [hw2, n2, ofs_inj, ek']
      | once _ => 
        have ek' : k = asksM ls b := by rw [← ek]; simp [asksM]
        simp only [lword, lpar, List.cons_append, List.nil_append] at hw2 al ⊢
        simp [hw2, n2, ofs_inj, ek']
      | next _ => 
        have ek' : k = asksM ls b := by rw [← ek]; simp [asksM]
        simp only [lword, lpar, List.cons_append, List.nil_append] at hw2 al ⊢
        simp [hw2, n2, ofs_inj, ek']
      | guess _ => 
        have ek' : k = asksM ls b := by rw [← ek]; simp [asksM]
        simp only [lword, lpar, List.cons_append, List.nil_append] at hw2 al ⊢
        simp [hw2, n2, ofs_inj, ek']
      | opening _ => 
        have ek' : k = asksM ls b := by rw [← ek]; simp [asksM]
        simp only [lword, lpar, List.cons_append, List.nil_append] at hw2 al ⊢
        simp [hw2, n2, ofs_inj, ek']
      | cut _ => 
        have ek' : k = asksM ls b := by rw [← ek]; simp [asksM]
        simp only [lword, lpar, List.cons_append, List.nil_append] at hw2 al ⊢
        simp [hw2, n2, ofs_inj, ek']
      | onetime _ _ _ _ => 
        have ek' : k = asksM ls b := by rw [← ek]; simp [asksM]
        simp only [lword, lpar, List.cons_append, List.nil_append] at hw2 al ⊢
        simp [hw2, n2, ofs_inj, ek']
      | hard _ => 
        have ek' : k = asksM ls b := by rw [← ek]; simp [asksM]
        simp only [lword, lpar, List.cons_append, List.nil_append] at hw2 al ⊢
        simp [hw2, n2, ofs_inj, ek']
      | bit => 
        have ek' : k = asksM ls b := by rw [← ek]; simp [asksM]
        simp only [lword, lpar, List.cons_append, List.nil_append] at hw2 al ⊢
        simp [hw2, n2, ofs_inj, ek']
theorem maxI_asks : ∀ {bs : List Brk}, 0 < bs.length → maxI (bs.map fun b => ((b.asks : Nat) : Int)) = ((askss bs : Nat) : Int)
  | [x], _ => by simp [maxI, askss]
  | x :: y :: r, _ => by
    have ih := @maxI_asks (y :: r) (by simp)
    have e : maxI ((x :: y :: r).map fun b => ((b.asks : Nat) : Int)) = if maxI ((y :: r).map fun b => ((b.asks : Nat) : Int)) > (x.asks : Int) then maxI ((y :: r).map fun b => ((b.asks : Nat) : Int)) else (x.asks : Int) := rfl
    rw [e, ih]
    have e2 : askss (x :: y :: r) = max x.asks (askss (y :: r)) := rfl
    rw [e2]
    split <;> omega
theorem lm_b : ∀ {d : Nat} {b : Brk} {S : List SO}, BOk b → b.high ≤ d → f_u_law_most d [bD b] S = .ok (.dat (.int b.asks)) S := by
  intro d
  induction d with
  | zero =>
    intro b S hb hh
    have := @highs_inn b
    omega
  | succ d ih =>
    intro b S hb hh
    unfold f_u_law_most b_u_law_most
    refine fn_go rfl ?_
    cases hb with
    | say h1 h2 => simp [initR, bD, ofs_inj, Brk.asks]
    | ask h1 h2 h3 =>
      rename_i ps a
      have e := ih (S := S) h3 (by unfold Brk.high at hh; omega)
      simp [initR, bD, ofs_inj, e, Brk.asks]
    | look h1 h2 h3 =>
      rename_i i a b
      have e1 := ih (S := S) h2 (by unfold Brk.high at hh; omega)
      have e2 := ih (S := S) h3 (by unfold Brk.high at hh; omega)
      have m : (if (a.asks : Int) < (b.asks : Int) then (b.asks : Int) else a.asks) = ((max a.asks b.asks : Nat) : Int) := by split <;> omega
      simp [initR, bD, ofs_inj, e1, e2, Brk.asks]
      omega
    | toss h1 h2 h3 =>
      rename_i bs
      have e := fun (x : Brk) (h : x ∈ bs) => ih (S := S) (h3 x h) (by have := high_in h; unfold Brk.high at hh; omega)
      simp [initR, bD, ofs_inj, bsD_map]
      rw [comp_const (F := fun i => .int (((bs.getD i (.say [])).asks : Nat) : Int)) ?cl ?ch]
      case cl => simp only [List.length_map, line]; omega
      case ch =>
        intro i y hy
        have ⟨z, hz, e1⟩ := map_get hy
        subst e1
        have h' : ((bs[i]?).getD (.say [])) = z := by rw [hz]; rfl
        have e2 := e z (List.mem_of_getElem? hz)
        simp [h', e2]
      have de : (List.range (bs.map bD).length).map (fun i => D.int (((bs.getD i (.say [])).asks : Nat) : Int)) = (bs.map fun b => ((b.asks : Nat) : Int)).map D.int := by
        rw [List.length_map, range_map (l := bs) (d := .say []) (f := fun y => D.int ((y.asks : Nat) : Int)), List.map_map]
        rfl
      rw [de]
      have km := fun S => k_maxL (S := S) (l := bs.map fun b => ((b.asks : Nat) : Int)) (by simp; omega)
      rw [maxI_asks (by omega)] at km
      simp only [List.map_map, Function.comp_def] at km
      simp [km, Brk.asks, Function.comp_def]
theorem lm_l : ∀ {ls : List Lay} {d : Nat} {b : Brk} {S : List SO}, BOk b → ls.length + b.high ≤ d → f_u_law_most d [mkD ls b] S = .ok (.dat (.int (asksM ls b))) S := by
  intro ls
  induction ls with
  | nil =>
    intro d b S hb hh
    exact lm_b hb (by simpa using hh)
  | cons y ls ih =>
    intro d b S hb hh
    cases d with
    | zero => simp at hh
    | succ d =>
      have e := ih (S := S) (d := d) hb (by simp at hh; omega)
      have sh : mkD (y :: ls) b = .tup (.str (Str.ofString (lword y)) :: (lpar y ++ [mkD ls b])) := rfl
      rw [sh]
      unfold f_u_law_most b_u_law_most
      refine fn_go rfl ?_
      cases y with
      | marks l m =>
        have h2 : asksM (.marks l m :: ls) b = 1 + asksM ls b := rfl
        rw [h2]
        simp only [lword, lpar, List.cons_append, List.nil_append]
        generalize mkD ls b = dd at *
        simp [initR, ofs_inj, e]
      | secrets l m =>
        have h2 : asksM (.secrets l m :: ls) b = asksM ls b := rfl
        rw [h2]
        simp only [lword, lpar, List.cons_append, List.nil_append]
        generalize mkD ls b = dd at *
        simp [initR, ofs_inj, e]
      | _ =>
        simp only [lword, lpar, List.cons_append, List.nil_append, asksM]
        generalize mkD ls b = dd at *
        simp [initR, ofs_inj]
theorem right_eq {ls : List Lay} {b : Brk} {S : List SO} (hl : ls.length ≤ 20) (ho : ∀ y ∈ ls, LOk y) (ot : OTok ls) (hb : BOk b) (hh : b.high ≤ 60) (hs : b.size ≤ 2001) (hd : ls.length + b.high ≤ 62) : f_u_law_is_right [mkD ls b] S = .ok (.dat (.bl true)) S := by
  have e1 := most_asks_eq (S := S) hl ho ot hb hh hs
  have e2 := lm_l (S := S) hb hd
  unfold f_u_law_is_right b_u_law_is_right
  refine fn_go rfl ?_
  simp [initR, e1, e2]
theorem take_n {xs : List Int} {p : Nat} (m : Nat) (hm : 0 < m) : ∃ k : Nat, k < m ∧ f_u_law_take [.obj 0, .int (m : Int)] (Hd xs p) = .ok (.dat (.int (k : Int))) (Hd xs (p + 1)) := by
  have ⟨k, h, e⟩ := tk_nat (xs := xs) (p := p) (m := m) hm
  exact ⟨k, h, by rw [take_eq (by omega), e]⟩
theorem parts_ex {xs : List Int} {p n : Nat} (hn : n ≤ 100) : ∃ ps q, f_u_law_parts [.obj 0, .int n] (Hd xs p) = .ok (.dat (psD ps)) (Hd xs q) ∧ ps.length = n ∧ ∀ x ∈ ps, POk x := by
  have ⟨Q, hQ⟩ : ∃ Q : Slot → List SO → Prop, ∀ s S, Q s S ↔ ∃ ps q, s = .dat (psD ps) ∧ S = Hd xs q ∧ ps.length = n ∧ ∀ x ∈ ps, POk x := ⟨_, fun _ _ => Iff.rfl⟩
  have ⟨J, hJ⟩ : ∃ J : Nat → Stt → Prop, ∀ i st, J i st ↔ ∃ (ps : List Part) (q : Nat) (s3 s4 : Option Slot), ps.length = i ∧ (∀ x ∈ ps, POk x) ∧ st = ⟨[some (.dat (.obj 0)), some (.dat (.int n)), some (.own (.lst (ps.map pD))), s3, s4], Hd xs q⟩ := ⟨_, fun _ _ => Iff.rfl⟩
  have F : FrP Q (f_u_law_parts [.obj 0, .int n] (Hd xs p)) := by
    have ok : okR (n : Int) = true := by simp only [okR, decide_eq_true_eq]; omega
    unfold f_u_law_parts b_u_law_parts
    with_reducible refine FrP.fn ?h0 ?_
    case h0 => rfl
    simp [initR, ok]
    refine for_fr J ((hJ _ _).mpr ⟨[], p, none, none, rfl, nofun, rfl⟩) ?hs ?hk
    case hs =>
      intro i d st hd hj
      have ⟨ps, q, s3, s4, hl, ho, e⟩ := (hJ _ _).mp hj
      subst e
      have h1 := (rangeD_get hd).1
      have ⟨k, k5, t1⟩ := take_n (xs := xs) (p := q) 5 (by decide)
      have ⟨j, j9, t2⟩ := take_n (xs := xs) (p := q + 1) 9 (by decide)
      simp at t1 t2
      have ll : ps.length < line := by simp only [line]; omega
      have add : ∀ (x : Part) (q2 : Nat) (s3 s4 : Option Slot), POk x → J (i + 1) ⟨[some (.dat (.obj 0)), some (.dat (.int n)), some (.own (.lst (ps.map pD ++ [pD x]))), s3, s4], Hd xs q2⟩ := fun x q2 s3 s4 hx => (hJ _ _).mpr ⟨ps ++ [x], q2, s3, s4, by simp [hl], fun z hz => by
          rcases List.mem_append.mp hz with h | h
          · exact ho z h
          · rw [List.mem_singleton.mp h]; exact hx, by simp⟩
      by_cases c : k < 2
      · have c' : (k : Int) < 2 := by omega
        have ka : atI [D.str (sb [false]), D.str (sb [true])] (k : Int) = some (pD (.bit (decide (k = 1)))) := by
          match k, c with
          | 0, _ => rfl
          | 1, _ => rfl
        simp [t1, c', sb_0, sb_1, ka, ll]
        exact add (.bit (decide (k = 1))) _ _ _ trivial
      · have c' : ¬ (k : Int) < 2 := by omega
        simp [t1, c', t2, ll]
        exact add (.num j) _ _ _ (by show j ≤ 9999; omega)
    intro st hj
    have ⟨ps, q, s3, s4, hl, ho, e⟩ := (hJ _ _).mp hj
    subst e
    simp at hl
    simp
    exact (hQ _ _).mpr ⟨ps, q, rfl, rfl, hl, ho⟩
  obtain ⟨s, S1, e, h⟩ := F.ex
  obtain ⟨ps, q, e1, e2, h⟩ := (hQ _ _).mp h
  exact ⟨ps, q, by rw [e, e1, e2], h⟩
def sz : Nat → Nat
  | 0 => 1
  | d + 1 => 1 + 3 * sz d
theorem sz_pos : ∀ {d}, 1 ≤ sz d
  | 0 => by simp [sz]
  | d + 1 => by simp [sz]
theorem sizes_le {m : Nat} : ∀ {bs : List Brk}, (∀ b ∈ bs, b.size ≤ m) → sizes bs ≤ bs.length * m
  | [], _ => by simp [sizes]
  | b :: bs, h => by
    have := @sizes_le m bs fun x hx => h x (List.mem_cons_of_mem _ hx)
    have h1 := h b List.mem_cons_self
    have e : (bs.length + 1) * m = bs.length * m + m := by rw [Nat.add_mul, Nat.one_mul]
    simp only [sizes, List.length_cons]
    omega
theorem highs_le {m : Nat} : ∀ {bs : List Brk}, (∀ b ∈ bs, b.high ≤ m) → highs bs ≤ m
  | [], _ => by simp [highs]
  | b :: bs, h => by
    have := @highs_le m bs fun x hx => h x (List.mem_cons_of_mem _ hx)
    have h1 := h b List.mem_cons_self
    simp only [highs]
    omega
theorem breaker_ex : ∀ {f d a l p : Nat} {xs : List Int}, d < f → l ≤ 3 → ∃ b q, f_u_law_breaker f [.obj 0, .int d, .int a, .int l, .int 1] (Hd xs p) = .ok (.dat (bD b)) (Hd xs q) ∧ BOk b ∧ b.high ≤ d + 1 ∧ b.size ≤ sz d := by
  intro f
  induction f with
  | zero => intro d a l p xs h; omega
  | succ f ih =>
    intro d a l p xs hd hl
    have ⟨Q, hQ⟩ : ∃ Q : Slot → List SO → Prop, ∀ s S, Q s S ↔ ∃ b q, s = .dat (bD b) ∧ S = Hd xs q ∧ BOk b ∧ b.high ≤ d + 1 ∧ b.size ≤ sz d := ⟨_, fun _ _ => Iff.rfl⟩
    have F : FrP Q (f_u_law_breaker (f + 1) [.obj 0, .int d, .int a, .int l, .int 1] (Hd xs p)) := by
      have ⟨k, k6, t1⟩ := take_n (xs := xs) (p := p) 6 (by decide)
      simp at t1
      have sp := @sz_pos d
      have say : ∀ (ps : List Part) (q : Nat) (S : List SO), S = Hd xs q → ps.length ≤ 3 → (∀ x ∈ ps, POk x) → Q (.dat (.tup [.str "say", psD ps])) S := fun ps q S e h1 h2 => (hQ _ _).mpr ⟨.say ps, q, by unfold bD; rfl, e, .say (by omega) h2, by unfold Brk.high; omega, by unfold Brk.size; omega⟩
      unfold f_u_law_breaker b_u_law_breaker
      with_reducible refine FrP.fn ?h0 ?_
      case h0 => rfl
      by_cases c0 : d = 0 ∨ k = 0
      · have ⟨j, j9, t2⟩ := take_n (xs := xs) (p := p + 1) 9 (by decide)
        simp at t2
        by_cases c1 : j = 0
        · have ⟨i, i4, t3⟩ := take_n (xs := xs) (p := p + 1 + 1) 4 (by decide)
          simp at t3
          have ⟨ps, q, e, l3, po⟩ := parts_ex (xs := xs) (p := p + 1 + 1 + 1) (n := i) (by omega)
          subst c1
          by_cases d0 : d = 0
          · simp [initR, t1, d0, t2, t3, e]
            exact say ps q _ rfl (by omega) po
          · have k0 : k = 0 := by omega
            subst k0
            simp at t1
            simp [initR, t1, d0, t2, t3, e]
            exact say ps q _ rfl (by omega) po
        · have c1' : ¬ (j : Int) = 0 := by omega
          have ⟨ps, q, e, l3, po⟩ := parts_ex (xs := xs) (p := p + 1 + 1) (n := 1) (by omega)
          simp at e
          have e : f_u_law_parts [.obj 0, .int 1] (Hd xs (p + 1 + 1)) = .ok (.dat (psD ps)) (Hd xs q) := e
          by_cases d0 : d = 0
          · simp [initR, t1, d0, t2, c1, e]
            exact say ps q _ rfl (by omega) po
          · have k0 : k = 0 := by omega
            subst k0
            simp at t1
            simp [initR, t1, d0, t2, c1, e]
            exact say ps q _ rfl (by omega) po
      · have d0 : d ≠ 0 := fun h => c0 (.inl h)
        have k0 : k ≠ 0 := fun h => c0 (.inr h)
        have ⟨d', ed⟩ : ∃ d', d = d' + 1 := ⟨d - 1, by omega⟩
        have dm : (d : Int) - 1 = (d' : Int) := by omega
        have zs : sz d = 1 + 3 * sz d' := by rw [ed]; rfl
        have sp' := @sz_pos d'
        by_cases c1 : k < 3 ∨ (k = 5 ∧ a = 0)
        · have c1' : (k : Int) < 3 ∨ ((k : Int) = 5 ∧ a = 0) := by omega
          have ⟨b1, q1, e1, o1, h1, z1⟩ := ih (d := d') (a := a) (l := l) (p := p + 1) (xs := xs) (by omega) hl
          have ⟨i, i9, t2⟩ := take_n (xs := xs) (p := q1) 9 (by decide)
          have ⟨b2, q2, e2, o2, h2, z2⟩ := ih (d := d') (a := a) (l := l) (p := q1 + 1) (xs := xs) (by omega) hl
          simp at t2
          have fin : Q (.dat (.tup [.str "look", .int i, bD b1, bD b2])) (Hd xs q2) := (hQ _ _).mpr ⟨.look i b1 b2, q2, by rw [bD], rfl, .look (by omega) o1 o2, by unfold Brk.high; omega, by unfold Brk.size; omega⟩
          rcases c1' with c | ⟨c, ca⟩
          · simp [initR, t1, d0, k0, c, dm, e1, t2, e2]
            exact fin
          · have c3 : ¬ (5 : Int) < 3 := by omega
            have k5 : k = 5 := by omega
            subst k5
            subst ca
            simp at t1 e1 e2
            simp [initR, t1, d0, dm, e1, t2, e2]
            exact fin
        · by_cases c3 : k = 3
          · subst c3
            have ⟨j, j3, t2⟩ := take_n (xs := xs) (p := p + 1) 3 (by decide)
            simp at t1 t2
            have ok : okR (1 + (j : Int)) = true := by simp only [okR, decide_eq_true_eq]; omega
            simp [initR, t1, d0, t2, ok]
            have ⟨J, hJ⟩ : ∃ J : Nat → Stt → Prop, ∀ i st, J i st ↔ ∃ q, st = ⟨[some (.dat (.obj 0)), some (.dat (.int d)), some (.dat (.int a)), some (.dat (.int l)), some (.dat (.int 1)), some (.dat (.int 3)), none, none, some (.dat (.int (1 + (j : Int)))), none], Hd xs q⟩ := ⟨_, fun _ _ => Iff.rfl⟩
            have tn : (1 + (j : Int)).toNat = 1 + j := by omega
            rw [tn]
            refine comp_fr (K := fun R => FrP Q (outA (seqA _ (retA Slot.dat (opNA Pl.kTup (consB _ (consA aNil (opNA kTuple (consA aNil (compB _ [9] R)))))))))) J (fun _ x => ∃ b, (BOk b ∧ b.high ≤ d' + 1 ∧ b.size ≤ sz d') ∧ x = bD b) ?cl ((hJ _ _).mpr ⟨_, rfl⟩) ?ch ?ck
            case cl => simp only [rangeD_len, line]; omega
            case ch =>
              intro i y st hy hj
              have ⟨q, e⟩ := (hJ _ _).mp hj
              subst e
              have ⟨b1, q1, e1, h1⟩ := ih (d := d') (a := a) (l := l) (p := q) (xs := xs) (by omega) hl
              have nx : J (i + 1) ⟨[some (.dat (.obj 0)), some (.dat (.int d)), some (.dat (.int a)), some (.dat (.int l)), some (.dat (.int 1)), some (.dat (.int 3)), none, none, some (.dat (.int (1 + (j : Int)))), none], Hd xs q1⟩ := (hJ _ _).mpr ⟨_, rfl⟩
              have ff : ∃ b, (BOk b ∧ b.high ≤ d' + 1 ∧ b.size ≤ sz d') ∧ bD b1 = bD b := ⟨b1, h1, rfl⟩
              generalize bD b1 = x1 at *
              simp [dm, e1]
              exact ⟨ff, nx⟩
            intro ys st' hl2 hx hj
            have ⟨q, e⟩ := (hJ _ _).mp hj
            subst e
            have ⟨bs, eb, ob⟩ := of_form hx
            subst eb
            simp [rangeD_len] at hl2
            simp [-bsD_map]
            have h1 := highs_le (m := d' + 1) fun b hb => (ob b hb).2.1
            have h2 := sizes_le (m := sz d') fun b hb => (ob b hb).2.2
            have h3 : bs.length * sz d' ≤ 3 * sz d' := Nat.mul_le_mul_right _ (by omega)
            exact (hQ _ _).mpr ⟨.toss bs, q, by rw [bD, bsD_map], rfl, .toss (by omega) (by omega) fun b hb => (ob b hb).1, by unfold Brk.high; omega, by unfold Brk.size; omega⟩
          · have k3 : ¬ (k : Int) < 3 := by omega
            have k3' : ¬ (k : Int) = 3 := by omega
            by_cases ca : a = 0
            · have k5 : ¬ (k : Int) = 5 := by omega
              have ⟨ps, q, e, l3, po⟩ := parts_ex (xs := xs) (p := p + 1) (n := 1) (by omega)
              have e : f_u_law_parts [.obj 0, .int 1] (Hd xs (p + 1)) = .ok (.dat (psD ps)) (Hd xs q) := e
              subst ca
              simp [initR, t1, d0, k0, k3, k3', k5, e]
              exact say ps q _ rfl (by omega) po
            · have ⟨a', ea⟩ : ∃ a', a = a' + 1 := ⟨a - 1, by omega⟩
              have am : (a : Int) - 1 = (a' : Int) := by omega
              have ⟨j, j9, t2⟩ := take_n (xs := xs) (p := p + 1) 9 (by decide)
              simp at t2
              have fin : ∀ (ps : List Part) (b1 : Brk) (q : Nat), ps.length ≤ 3 → (∀ x ∈ ps, POk x) → BOk b1 → b1.high ≤ d' + 1 → b1.size ≤ sz d' → Q (.dat (.tup [.str "ask", psD ps, bD b1])) (Hd xs q) := fun ps b1 q h1 h2 h3 h4 h5 => (hQ _ _).mpr ⟨.ask ps b1, q, by rw [bD], rfl, .ask (by omega) h2 h3, by unfold Brk.high; omega, by unfold Brk.size; omega⟩
              by_cases cj : j = 0
              · have ⟨i, i4, t3⟩ := take_n (xs := xs) (p := p + 1 + 1) 4 (by decide)
                simp at t3
                have ⟨ps, q, e, l3, po⟩ := parts_ex (xs := xs) (p := p + 1 + 1 + 1) (n := i) (by omega)
                have ⟨b1, q1, e1, o1, h1, z1⟩ := ih (d := d') (a := a') (l := l) (p := q) (xs := xs) (by omega) hl
                subst cj
                simp at t2
                rcases (by omega : k = 4 ∨ k = 5) with hk | hk <;> subst hk <;> simp at t1 <;> simp [initR, t1, d0, ca, t2, t3, e, dm, am, e1] <;> exact fin ps b1 q1 (by omega) po o1 h1 z1
              · have ⟨ps, q, e, l3, po⟩ := parts_ex (xs := xs) (p := p + 1 + 1) (n := l) (by omega)
                have ⟨b1, q1, e1, o1, h1, z1⟩ := ih (d := d') (a := a') (l := l) (p := q) (xs := xs) (by omega) hl
                rcases (by omega : k = 4 ∨ k = 5) with hk | hk <;> subst hk <;> simp at t1 <;> simp [initR, t1, d0, ca, t2, cj, e, dm, am, e1] <;> exact fin ps b1 q1 (by omega) po o1 h1 z1
    obtain ⟨s, S1, e, h⟩ := F.ex
    obtain ⟨b, q, e1, e2, h⟩ := (hQ _ _).mp h
    exact ⟨b, q, by rw [e, e1, e2], h⟩
abbrev sD (b : List Bool) : D := .str (sb b)
theorem table_eq {xs : List Int} {p n m : Nat} (hn : n ≤ 12) (hm : m ≤ 100) : f_u_law_table [.obj 0, .int n, .int m] (Hd xs p) = .ok (.dat (genD n m ((List.range (2 ^ n)).map fun i => bits_ xs (p + i * m) m))) (Hd xs (p + 2 ^ n * m)) := by
  have q : (2 : Nat) ^ n ≤ 2 ^ 12 := Nat.pow_le_pow_right (by omega) hn
  have s1 := fun S => shl1 (S := S) (n := n) (by omega)
  have st := fun p => string_eq (xs := xs) (p := p) (n := m) (by omega)
  unfold f_u_law_table b_u_law_table genD rowsD
  refine fn_go rfl ?_
  generalize hw : (2 : Nat) ^ n = w at s1 q
  have ok : okR (w : Int) = true := by simp only [okR, decide_eq_true_eq]; omega
  simp [initR, s1, -k_shl, ok]
  rw [comp_det (J := fun i => ⟨[some (.dat (.obj 0)), some (.dat (.int n)), some (.dat (.int m)), none, none], Hd xs (p + i * m)⟩) (F := fun i => sD (bits_ xs (p + i * m) m)) ?e0 ?l ?h]
  case e0 => simp
  case l => simp [line]; omega
  case h =>
    intro i d hd
    have h2 := (rangeD_get hd).2
    subst h2
    have s2 := st (p + i * m)
    rw [show p + i * m + m = p + (i + 1) * m by rw [Nat.add_mul]; omega] at s2
    generalize Hd xs (p + i * m) = H1 at s2
    generalize Hd xs (p + (i + 1) * m) = H2 at s2
    simp [s2]
  simp [Function.comp_def]
theorem inV_words {S : List SO} {x : Str} {ys : List Str} : kIn S (.str x) (.lst (ys.map .str)) = some (.bl (decide (x ∈ ys))) := by
  simp only [kIn, dIn, scD, scDs_strs, Option.map_some, inV_strs]
theorem k_in_wl {S : List SO} {x : Str} : kIn S (.str x) (.lst [.str (Str.ofString "say"), .str (Str.ofString "toss"), .str (Str.ofString "look"), .str (Str.ofString "ask")]) = some (.bl (decide (x ∈ wordsS))) := inV_words (ys := wordsS)
theorem mk_form {ls : List Lay} {b : Brk} : ∃ x r, mkD ls b = .tup (.str x :: r) ∧ (x ∈ wordsS ↔ ls = []) := by
  cases ls with
  | nil =>
    have ⟨r, e⟩ := bD_form b
    exact ⟨_, r, e, by simp [word_in b]⟩
  | cons y ls => exact ⟨_, _, rfl, by simp [lword_no y]⟩
theorem pick3 {a b c k : Nat} (h : k < 3) : ∃ v : Nat, atI [D.int a, D.int b, D.int c] (k : Int) = some (D.int (v : Int)) ∧ (v = a ∨ v = b ∨ v = c) := by
  match k, h with
  | 0, _ => exact ⟨a, rfl, .inl rfl⟩
  | 1, _ => exact ⟨b, rfl, .inr (.inl rfl)⟩
  | 2, _ => exact ⟨c, rfl, .inr (.inr rfl)⟩
theorem bits_len {xs : List Int} {p n : Nat} : (bits_ xs p n).length = n := by simp [bits_]
theorem table_ex {xs : List Int} {p n m : Nat} (h1 : 1 ≤ n) (h2 : n ≤ 10) (h3 : 1 ≤ m) (h4 : m ≤ 40) : ∃ rs q, f_u_law_table [.obj 0, .int n, .int m] (Hd xs p) = .ok (.dat (genD n m rs)) (Hd xs q) ∧ GenOk n m rs :=
  ⟨_, _, table_eq (by omega) (by omega), h1, h2, h3, h4, by simp, fun r hr => by
    have ⟨i, _, e⟩ := List.mem_map.mp hr
    subst e
    exact bits_len⟩
theorem made_tail {xs : List Int} {p k n s : Nat} {ls : List Lay} {b : Brk} {Q : Slot → List SO → Prop} (hk : k < 13) (n1 : 1 ≤ n) (n2 : n ≤ 2) (s1 : 1 ≤ s) (s2 : s ≤ 40)
    (hQ : ∀ y q, LOk y → (lword y = "onetime" → ls = []) → Q (.dat (layD y (mkD ls b))) (Hd xs q)) :
    FrP Q (outA (b_u_law_made_3 ⟨[some (.dat (.obj 0)), some (.dat (mkD ls b)), some (.dat (.int k)), some (.dat (.int n)), some (.dat (.int s))], Hd xs p⟩)) := by
  have ⟨x, r, ef, ew⟩ := @mk_form ls b
  have x0 : ∀ S, kIx S (mkD ls b) (.int 0) = some (.str x) := fun S => by rw [ef]; simp
  have kw := fun S => @k_in_wl S x
  simp only [layD] at hQ
  generalize mkD ls b = d at *
  have LS : Ln s := ⟨s1, s2⟩
  match k, hk with
  | 0, _ =>
    have ⟨rs, q, e, G⟩ := table_ex (xs := xs) (p := p) (n := n) (m := n + 1) n1 (by omega) (by omega) (by omega)
    have ⟨j, j1, t⟩ := take_n (xs := xs) (p := q) 20 (by decide)
    simp at e t
    have fin := hQ (.longer n rs (1 + j)) (q + 1) ⟨G, by omega, by omega⟩ (by simp [lword])
    simp [lword, lpar] at fin
    unfold b_u_law_made_3
    simp [e, t]
    exact fin
  | 1, _ =>
    have ⟨rs, q, e, G⟩ := table_ex (xs := xs) (p := p) (n := n) (m := 2 * n) n1 (by omega) (by omega) (by omega)
    have ⟨j, j1, t⟩ := take_n (xs := xs) (p := q) 8 (by decide)
    have ⟨i, i1, t2⟩ := take_n (xs := xs) (p := q + 1) 3 (by decide)
    have ⟨v, ve, vv⟩ := pick3 (a := 1) (b := 1000) (c := s) i1
    simp at e t t2 ve
    have c2 : CMul 2 (n : Int) := .inl ⟨by decide, by decide⟩
    have fin := hQ (.tree n rs (1 + j) v) (q + 1 + 1) ⟨G, by omega, by omega, by omega, by omega, by omega, by omega⟩ (by simp [lword])
    simp [lword, lpar] at fin
    unfold b_u_law_made_3
    simp
    unfold b_u_law_made_4
    simp [e, t, t2, c2, ve]
    exact fin
  | 2, _ =>
    have ⟨j, j1, t⟩ := take_n (xs := xs) (p := p) 40 (by decide)
    simp at t
    have fin := hQ (.marks s (1 + j)) (p + 1) ⟨LS, by omega, by omega⟩ (by simp [lword])
    simp [lword, lpar] at fin
    simp [b_u_law_made_3, b_u_law_made_4, b_u_law_made_5, t]
    exact fin
  | 3, _ =>
    have ⟨j, j1, t⟩ := take_n (xs := xs) (p := p) 40 (by decide)
    simp at t
    have fin := hQ (.secrets s (1 + j)) (p + 1) ⟨LS, by omega, by omega⟩ (by simp [lword])
    simp [lword, lpar] at fin
    simp [b_u_law_made_3, b_u_law_made_4, b_u_law_made_5, t]
    exact fin
  | 4, _ =>
    have fin := hQ (.once s) p LS (by simp [lword])
    simp [lword, lpar] at fin
    simp [b_u_law_made_3, b_u_law_made_4, b_u_law_made_5, b_u_law_made_6]
    exact fin
  | 5, _ =>
    have fin := hQ (.next s) p LS (by simp [lword])
    simp [lword, lpar] at fin
    simp [b_u_law_made_3, b_u_law_made_4, b_u_law_made_5, b_u_law_made_6]
    exact fin
  | 6, _ =>
    have fin := hQ (.guess s) p LS (by simp [lword])
    simp [lword, lpar] at fin
    simp [b_u_law_made_3, b_u_law_made_4, b_u_law_made_5, b_u_law_made_6]
    exact fin
  | 7, _ =>
    have e := string_eq (xs := xs) (p := p) (n := s) (by omega)
    have fin := hQ (.opening (bits_ xs p s)) (p + s) (by show Ln (bits_ xs p s).length; rw [bits_len]; exact LS) (by simp [lword])
    simp [lword, lpar] at fin
    simp [b_u_law_made_3, b_u_law_made_4, b_u_law_made_5, b_u_law_made_6, b_u_law_made_7, e]
    exact fin
  | 8, _ =>
    have ⟨j, j1, t⟩ := take_n (xs := xs) (p := p) 256 (by decide)
    have ⟨i, i1, t2⟩ := take_n (xs := xs) (p := p + 1) 3 (by decide)
    have ⟨u, u1, t3⟩ := take_n (xs := xs) (p := p + 1 + 1) 40 (by decide)
    have ⟨v, ve, vv⟩ := pick3 (a := 1) (b := 256) (c := 1 + j) i1
    simp at t t2 ve t3
    have fin := hQ (.counter s v (1 + u)) (p + 1 + 1 + 1) ⟨LS, by omega, by omega, by omega, by omega⟩ (by simp [lword])
    simp [lword, lpar] at fin
    simp [b_u_law_made_3, b_u_law_made_4, b_u_law_made_5, b_u_law_made_6, b_u_law_made_7, b_u_law_made_8, t, t2, ve, t3]
    exact fin
  | 9, _ =>
    have fin := hQ (.cut s) p LS (by simp [lword])
    simp [lword, lpar] at fin
    simp [b_u_law_made_3, b_u_law_made_4, b_u_law_made_5, b_u_law_made_6, b_u_law_made_7, b_u_law_made_8, b_u_law_made_9]
    exact fin
  | 10, _ =>
    by_cases c : ls = []
    · have ⟨u, u1, t3⟩ := take_n (xs := xs) (p := p) 4 (by decide)
      have ⟨rs, q, e, G⟩ := table_ex (xs := xs) (p := p + 1) (n := n) (m := 1 + u) n1 (by omega) (by omega) (by omega)
      have ⟨j, j1, t⟩ := take_n (xs := xs) (p := q) 4 (by decide)
      simp at e t t3
      rw [decide_eq_true (ew.mpr c)] at kw
      have fin := hQ (.onetime n (1 + u) rs (1 + j)) (q + 1) ⟨G, by omega, by omega⟩ (fun _ => c)
      simp [lword, lpar] at fin
      simp [b_u_law_made_3, b_u_law_made_4, b_u_law_made_5, b_u_law_made_6, b_u_law_made_7, b_u_law_made_8, b_u_law_made_9, b_u_law_made_10, x0, kw, t3, e, t]
      exact fin
    · rw [decide_eq_false (fun h => c (ew.mp h))] at kw
      have fin := hQ .bit p trivial (by simp [lword])
      simp [lword, lpar] at fin
      simp [b_u_law_made_3, b_u_law_made_4, b_u_law_made_5, b_u_law_made_6, b_u_law_made_7, b_u_law_made_8, b_u_law_made_9, b_u_law_made_10, b_u_law_made_11, b_u_law_made_12, x0, kw]
      exact fin
  | 11, _ =>
    have ⟨j, j1, t⟩ := take_n (xs := xs) (p := p) 10 (by decide)
    have ⟨i, i1, t2⟩ := take_n (xs := xs) (p := p + 1) 3 (by decide)
    have ⟨v, ve, vv⟩ := pick3 (a := 1) (b := 10) (c := 1 + j) i1
    simp at t t2 ve
    have fin := hQ (.hard v) (p + 1 + 1) ⟨by omega, by omega⟩ (by simp [lword])
    simp [lword, lpar] at fin
    simp [b_u_law_made_3, b_u_law_made_4, b_u_law_made_5, b_u_law_made_6, b_u_law_made_7, b_u_law_made_8, b_u_law_made_9, b_u_law_made_10, b_u_law_made_11, t, t2, ve]
    exact fin
  | 12, _ =>
    have fin := hQ .bit p trivial (by simp [lword])
    simp [lword, lpar] at fin
    simp [b_u_law_made_3, b_u_law_made_4, b_u_law_made_5, b_u_law_made_6, b_u_law_made_7, b_u_law_made_8, b_u_law_made_9, b_u_law_made_10, b_u_law_made_11, b_u_law_made_12]
    exact fin
theorem made_ex {xs : List Int} {p : Nat} {ls : List Lay} {b : Brk} : ∃ y q, f_u_law_made [.obj 0, mkD ls b] (Hd xs p) = .ok (.dat (mkD (y :: ls) b)) (Hd xs q) ∧ LOk y ∧ (lword y = "onetime" → ls = []) := by
  have ⟨Q, hQ⟩ : ∃ Q : Slot → List SO → Prop, ∀ s S, Q s S ↔ ∃ y q, s = .dat (mkD (y :: ls) b) ∧ S = Hd xs q ∧ LOk y ∧ (lword y = "onetime" → ls = []) := ⟨_, fun _ _ => Iff.rfl⟩
  have F : FrP Q (f_u_law_made [.obj 0, mkD ls b] (Hd xs p)) := by
    have ⟨k, k1, t1⟩ := take_n (xs := xs) (p := p) 13 (by decide)
    have ⟨n, n1, t2⟩ := take_n (xs := xs) (p := p + 1) 2 (by decide)
    have ⟨j, j1, t3⟩ := take_n (xs := xs) (p := p + 1 + 1) 40 (by decide)
    have ⟨i, i1, t4⟩ := take_n (xs := xs) (p := p + 1 + 1 + 1) 3 (by decide)
    have ⟨v, ve, vv⟩ := pick3 (a := 1) (b := 40) (c := 1 + j) i1
    simp at t1 t2 t3 t4 ve
    have fin := made_tail (xs := xs) (p := p + 1 + 1 + 1 + 1) (k := k) (n := 1 + n) (s := v) (ls := ls) (b := b) (Q := Q) k1 (by omega) (by omega) (by omega) (by omega) fun y q h1 h2 => (hQ _ _).mpr ⟨y, q, rfl, rfl, h1, h2⟩
    simp only [Int.natCast_add, Int.natCast_one] at fin
    generalize mkD ls b = d at *
    unfold f_u_law_made b_u_law_made
    with_reducible refine FrP.fn ?h0 ?_
    case h0 => rfl
    simp [initR, t1]
    unfold b_u_law_made_1
    simp [t2]
    unfold b_u_law_made_2
    simp [t3, t4, ve]
    exact fin
  obtain ⟨s, S1, e, h⟩ := F.ex
  obtain ⟨y, q, e1, e2, h⟩ := (hQ _ _).mp h
  exact ⟨y, q, by rw [e, e1, e2], h⟩
def bk : Ex := ⟨"BadBreaker", none⟩
def BadM (d : D) : Prop := ∀ S, f_most_asks [d] S = .exc bk S
theorem bad_mb {d : D} (h : ∀ S, f_check_breaker [d] S = .exc bk S) : BadM d := fun S => by
  have e := h S
  unfold f_most_asks b_most_asks
  refine fn_go rfl ?_
  simp [initR, e]
theorem cp_bad {d : D} {S : List SO} (h : f_inner_plain [d] S = .exc bk S) : f_check_plain [d] S = .exc bk S := by
  unfold f_check_plain b_check_plain
  refine fn_go rfl ?_
  simp [initR]
  refine while_any (R := fun F => outA F = .exc bk S) (fun _ st => st = ⟨[some (.dat d), some (.own (.lst [.tup [d, .int 1]])), some (.dat (.int 0)), none, none, none, none], S⟩) ?hs 0 _ rfl
  intro n st e
  subst e
  have sp := fun st => @r_popA 1 st [] (.tup [d, .int 1])
  simp only [List.nil_append] at sp
  simp [h, sp]
theorem cb_plain {d : D} (h1 : ∀ S, f_has_plain_word [d] S = .ok (.dat (.bl true)) S) (h : ∀ S, f_check_plain [d] S = .exc bk S) : BadM d := bad_mb fun S => by
  have e1 := h1 S
  have e2 := h S
  unfold f_check_breaker b_check_breaker
  refine fn_go rfl ?_
  simp [initR]
  refine while_any (R := fun F => outA (seqA _ F) = .exc bk S) (fun _ st => st = ⟨[some (.dat d), some (.dat (.int 0)), some (.dat .non)], S⟩) ?hs 0 _ rfl
  intro n st e
  subst e
  simp [e1, e2]
theorem hpw_no {d : D} (h : ∀ S, kIsi S [d, .ty "tuple"] = some (.bl false)) (S : List SO) : f_has_plain_word [d] S = .ok (.dat (.bl false)) S := by
  have h' := h S
  unfold f_has_plain_word b_has_plain_word
  refine fn_go rfl ?_
  simp [initR, h']
theorem cb_not {d : D} (h : ∀ S, kIsi S [d, .ty "tuple"] = some (.bl false)) : BadM d := bad_mb fun S => by
  have e1 := hpw_no h S
  have h' := h S
  unfold f_check_breaker b_check_breaker
  refine fn_go rfl ?_
  simp [initR]
  refine while_any (R := fun F => outA (seqA _ F) = .exc bk S) (fun _ st => st = ⟨[some (.dat d), some (.dat (.int 0)), some (.dat .non)], S⟩) ?hs 0 _ rfl
  intro n st e
  subst e
  simp [e1, h']
  all_goals rfl
theorem bm0 : BadM .non := cb_not fun _ => rfl
theorem bm5 : BadM (.int 7) := cb_not fun _ => rfl
theorem bm6 : BadM (.str "say") := cb_not fun _ => rfl
theorem bm1 : BadM (.tup []) := bad_mb fun S => by
  have e1 : f_has_plain_word [.tup []] S = .ok (.dat (.bl false)) S := by
    unfold f_has_plain_word b_has_plain_word
    refine fn_go rfl ?_
    simp [initR]
  unfold f_check_breaker b_check_breaker
  refine fn_go rfl ?_
  simp [initR]
  refine while_any (R := fun F => outA (seqA _ F) = .exc bk S) (fun _ st => st = ⟨[some (.dat (.tup [])), some (.dat (.int 0)), some (.dat .non)], S⟩) ?hs 0 _ rfl
  intro n st e
  subst e
  simp [e1]
  all_goals rfl
theorem hpw_y {x : Str} {r : List D} (h : x ∈ wordsS) (S : List SO) : f_has_plain_word [.tup (.str x :: r)] S = .ok (.dat (.bl true)) S := by rw [hpw_word, decide_eq_true h]
theorem sl1 (x : D) (xs : List D) : kSl (.tup (x :: xs)) (some 1) none = some (.tup xs) := by
  rw [k_sl_t]
  unfold cutD
  rw [show (1 : Int) = ((1 : Nat) : Int) from rfl, HT.sIx_nat, HT.sIx_none]
  simp
theorem bm2 : BadM (.tup [.str "ask", .tup [.int 0]]) := cb_plain (hpw_y (by simp [wordsS])) fun S => cp_bad (by
  unfold f_inner_plain b_inner_plain
  refine fn_go rfl ?_
  simp [initR, sl1, -k_sl_t, ofs_inj]
  all_goals rfl)
theorem bm3 : BadM (.tup [.str "say", .lst [.int 0]]) := cb_plain (hpw_y (by simp [wordsS])) fun S => cp_bad (by
  have e : f_are_parts [.lst [.int 0]] S = .ok (.dat (.bl false)) S := by
    unfold f_are_parts b_are_parts
    refine fn_go rfl ?_
    have e1 : kIsi S [.lst [.int 0], .ty "tuple"] = some (.bl false) := by rfl
    simp [initR, e1]
  unfold f_inner_plain b_inner_plain
  refine fn_go rfl ?_
  simp [initR, sl1, -k_sl_t, ofs_inj, e]
  all_goals rfl)
theorem bm7 : BadM (.tup [.str "toss", .tup []]) := cb_plain (hpw_y (by simp [wordsS])) fun S => cp_bad (by
  unfold f_inner_plain b_inner_plain
  refine fn_go rfl ?_
  simp [initR, sl1, -k_sl_t, ofs_inj, r_chC]
  all_goals rfl)
theorem bm4 {ls : List Lay} {b : Brk} : BadM (.tup [.str "marks", .int 1, .int 0, mkD ls b]) := bad_mb fun S => by
  have k2 := fun (x : Str) S => k_in_words (S := S) (x := x) (ys := [Str.ofString "marks", Str.ofString "secrets"])
  simp only [List.map_cons, List.map_nil] at k2
  have l1 := len_ok (m := 1) (S := S) ⟨by omega, by omega⟩
  have l0 : f_is_length [.int 0] S = .ok (.dat (.bl false)) S := by
    have e : f_is_number [.int 0, .int 1, .int 40] S = .ok (.dat (.bl false)) S := by rw [is_num]; rfl
    unfold f_is_length b_is_length
    refine fn_go rfl ?_
    simp [initR, e]
  simp at l1
  have fw : f_fits_word [.str (Str.ofString "marks"), .tup [.int 1, .int 0]] S = .ok (.dat (.bl false)) S := by
    unfold f_fits_word b_fits_word
    refine fn_go rfl ?_
    simp [initR, ofs_inj, k2, l1, l0]
  have hw : f_has_plain_word [.tup [.str (Str.ofString "marks"), .int 1, .int 0, mkD ls b]] S = .ok (.dat (.bl false)) S := by
    rw [hpw_word, decide_eq_false (by simp [wordsS, ofs_inj])]
  have sm := @sl_mid (.str (Str.ofString "marks")) (mkD ls b) [.int 1, .int 0]
  simp only [List.cons_append, List.nil_append] at sm
  generalize mkD ls b = d at *
  unfold f_check_breaker b_check_breaker
  refine fn_go rfl ?_
  simp [initR]
  refine while_any (R := fun F => outA (seqA _ F) = .exc bk S) (fun _ st => st = ⟨[some (.dat (.tup [.str (Str.ofString "marks"), .int 1, .int 0, d])), some (.dat (.int 0)), some (.dat .non)], S⟩) ?hs 0 _ rfl
  intro n st e
  subst e
  simp [hw, sm, fw, -k_sl_t]
  all_goals rfl
theorem bm8 : BadM (.tup [.str "look", .int 0, .tup [.str "say", .tup []], .tup [.str "say", .tup [.str "2"]]]) := cb_plain (hpw_y (by simp [wordsS])) fun S => by
  have ib : f_is_bits [.str "2", .int 1] S = .ok (.dat (.bl false)) S := by
    have e1 : kIsi S [.str "2", .ty "str"] = some (.bl true) := by rfl
    unfold f_is_bits b_is_bits
    refine fn_go rfl ?_
    have l1 : (Str.ofString "2").length = 1 := by decide +kernel
    have l2 : (1 : Nat) ≤ line := by simp [line]
    have sg : signsD (Str.ofString "2") = [.str (Str.ofString "2")] := by rfl
    have ki : ∀ S, kIn S (.str (Str.ofString "2")) (.str (Str.ofString "01")) = some (.bl false) := fun S => by
      have h : dIn (.str (Str.ofString "2")) (.str (Str.ofString "01")) = some false := by rfl
      unfold kIn
      rw [h]
      rfl
    have ka : ∀ S, kAll S [.lst [.bl false]] = some (.bl false) := fun S => by rfl
    simp [initR, e1, l1, l2, sg]
    rw [comp_const (F := fun _ => .bl false) ?cl ?ch]
    case cl => simp [line]
    case ch =>
      intro i y hy
      match i, hy with
      | 0, hy => cases hy; simp [ki]
    simp [List.range_succ, ka]
  have ap : f_are_parts [.tup [.str "2"]] S = .ok (.dat (.bl false)) S := by
    have e2 : f_is_number [.str "2", .int 0, .int 9999] S = .ok (.dat (.bl false)) S := by
      have e3 : kIsi S [.str (Str.ofString "2"), .ty "int"] = some (.bl false) := by rfl
      unfold f_is_number b_is_number
      refine fn_go rfl ?_
      simp [initR, e3]
    unfold f_are_parts b_are_parts
    refine fn_go rfl ?_
    simp [initR]
    refine for_outa (fun i st => st = ⟨[some (.dat (.tup [.str (Str.ofString "2")])), none], S⟩ ∧ i = 0) ⟨rfl, rfl⟩ ?hs ?hk
    case hs =>
      intro i d st hd ⟨e, hi⟩
      subst e
      subst hi
      cases hd
      simp [ib, e2]
    intro st ⟨_, h⟩
    simp at h
  have i2 : f_inner_plain [.tup [.str "say", .tup [.str "2"]]] S = .exc bk S := by
    unfold f_inner_plain b_inner_plain
    refine fn_go rfl ?_
    simp [initR, sl1, -k_sl_t, ofs_inj, ap]
    all_goals rfl
  have nb := is_num0 (v := 0) (lo := 0) (hi := 9999) (S := S) (by omega)
  have i1 : f_inner_plain [.tup [.str "look", .int 0, .tup [.str "say", .tup []], .tup [.str "say", .tup [.str "2"]]]] S = .ok (.dat (.tup [.tup [.str "say", .tup []], .tup [.str "say", .tup [.str "2"]]])) S := by
    unfold f_inner_plain b_inner_plain
    refine fn_go rfl ?_
    simp [initR, sl1, -k_sl_t, ofs_inj, nb]
  generalize D.tup [.str "say", .tup [.str "2"]] = dB at *
  generalize D.tup [.str "say", .tup []] = dA at *
  generalize D.tup [.str "look", .int 0, dA, dB] = d at *
  unfold f_check_plain b_check_plain
  refine fn_go rfl ?_
  simp [initR]
  refine while_any (R := fun F => outA F = .exc bk S) (fun n st => (n = 1 ∧ st = ⟨[some (.dat d), some (.own (.lst [.tup [d, .int 1]])), some (.dat (.int 0)), none, none, none, none], S⟩) ∨
    (n = 0 ∧ st = ⟨[some (.dat d), some (.own (.lst [.tup [dA, .int 2], .tup [dB, .int 2]])), some (.dat (.int 2)), some (.dat d), some (.dat (.int 1)), some (.dat (.tup [dA, dB])), none], S⟩)) ?hs 1 _ (.inl ⟨rfl, rfl⟩)
  intro n st h
  rcases h with ⟨hn, e⟩ | ⟨hn, e⟩
  · subst e
    subst hn
    have sp := fun st => @r_popA 1 st [] (.tup [d, .int 1])
    simp only [List.nil_append] at sp
    simp [i1, sp]
    rw [comp_const (F := fun i => .tup [[dA, dB].getD i .non, .int 2]) ?cl ?ch]
    case cl => simp [line]
    case ch =>
      intro i y hy
      match i, hy with
      | 0, hy => cases hy; simp
      | 1, hy => cases hy; simp
    simp [line, List.range_succ]
  · subst e
    subst hn
    have sp := fun st => @r_popA 1 st [.tup [dA, .int 2]] (.tup [dB, .int 2])
    simp only [List.cons_append, List.nil_append] at sp
    simp [i2, sp]
def QT (s : Slot) (_ : List SO) : Prop := s = .dat (.bl true)
theorem w2h {c : Brk} : (Brk.look 3 (.ask [] (.say [])) (.ask [.bit false] c)).high ≤ 2 + c.high := by
  have e : (Brk.look 3 (.ask [] (.say [])) (.ask [.bit false] c)).high = 1 + max (1 + 1) (1 + c.high) := rfl
  have := @highs_inn c
  omega
theorem w2z {c : Brk} : (Brk.look 3 (.ask [] (.say [])) (.ask [.bit false] c)).size ≤ 4 + c.size := by
  have e : (Brk.look 3 (.ask [] (.say [])) (.ask [.bit false] c)).size = 1 + ((1 + 1) + (1 + c.size)) := rfl
  omega
theorem ot_cons {y : Lay} {ls : List Lay} (h : lword y = "onetime" → ls = []) (h2 : OTok ls) : OTok (y :: ls) := by
  cases ls with
  | nil => trivial
  | cons z r => exact ⟨fun e => absurd (h e) (by simp), h2⟩
theorem law_fr {ns : List Int} (hl : ns.length ≤ 63) : FrP QT (f_law [.lck (ns.map D.int)] []) := by
  have ⟨xs, xl, hd⟩ := draws_eq (ns := ns) (N := 400) (S := []) hl (by omega)
  have hd' : f_u_law_draws [D.lck (ns.map .int), .int 400] [] = .ok (.dat (.lst (xs.map .int))) [] := hd
  have hH : Hd xs 0 = [SO.lst [.lst (xs.map .int), .int 0]] := rfl
  generalize ns.map D.int = L at *
  have ⟨a0, q0, t0⟩ := take_n (xs := xs) (p := 0) 4 (by decide)
  have ⟨a1, q1, t1⟩ := take_n (xs := xs) (p := 1) 3 (by decide)
  have ⟨b, q, eb, ob, hb, zb⟩ := breaker_ex (f := 8) (d := 2 + a0) (a := 4) (l := 1 + a1) (p := 2) (xs := xs) (by omega) (by omega)
  have zm : sz (2 + a0) ≤ 364 := by
    match a0, q0 with
    | 0, _ => decide
    | 1, _ => decide
    | 2, _ => decide
    | 3, _ => decide
  simp at t0 t1 eb
  have r0 := fun S => right_eq (ls := []) (b := b) (S := S) (by simp) (by simp) trivial ob (by omega) (by omega) (by simp; omega)
  have mk0 : mkD [] b = bD b := rfl
  have ⟨J, hJ⟩ : ∃ J : Nat → Stt → Prop, ∀ i st, J i st ↔ ∃ (ls : List Lay) (q : Nat) (s4 : Option Slot), ls.length = i ∧ (∀ y ∈ ls, LOk y) ∧ OTok ls ∧ st = ⟨[some (.dat (.lck L)), some (.dat (.obj 0)), some (.dat (bD b)), some (.dat (mkD ls b)), s4, none, none], Hd xs q⟩ := ⟨_, fun _ _ => Iff.rfl⟩
  have j0 : J 0 ⟨[some (.dat (.lck L)), some (.dat (.obj 0)), some (.dat (bD b)), some (.dat (bD b)), none, none, none], Hd xs q⟩ := (hJ _ _).mpr ⟨[], q, none, rfl, nofun, trivial, rfl⟩
  have b4 := @bm4 [] b
  rw [mk0] at r0 b4
  have ⟨G, hG⟩ : ∃ G : Nat → Stt → Prop, ∀ i st, G i st ↔ ∃ (c : Brk) (q : Nat) (s3 s4 : Option Slot), BOk c ∧ c.high ≤ 6 + 2 * i ∧ c.size ≤ 364 + 4 * i ∧ st = ⟨[some (.dat (.lck L)), some (.dat (.obj 0)), some (.dat (bD b)), s3, s4, some (.dat (bD c)), none], Hd xs q⟩ := ⟨_, fun _ _ => Iff.rfl⟩
  have g0 : ∀ q s3 s4, G 0 ⟨[some (.dat (.lck L)), some (.dat (.obj 0)), some (.dat (bD b)), s3, s4, some (.dat (bD b)), none], Hd xs q⟩ := fun q s3 s4 => (hG _ _).mpr ⟨b, q, s3, s4, ob, by omega, by omega, rfl⟩
  generalize bD b = B at *
  unfold f_law b_law
  with_reducible refine FrP.fn ?h0 ?_
  case h0 => rfl
  simp [initR, hd', -List.cons_append]
  rw [← hH]
  simp [t0, t1, eb, r0]
  refine for_fr J j0 ?hs ?hk
  case hs =>
    intro i d st hd hj
    have hi := (rangeD_get hd).1
    have ⟨ls, q, s4, l1, lo, ot, e⟩ := (hJ _ _).mp hj
    subst e
    have ⟨y, q2, em, oy, oo⟩ := made_ex (xs := xs) (p := q) (ls := ls) (b := b)
    have lo2 : ∀ z ∈ y :: ls, LOk z := fun z hz => by
      rcases List.mem_cons.mp hz with h | h
      · rw [h]; exact oy
      · exact lo z h
    have ot2 := ot_cons oo ot
    have hr := fun S => right_eq (ls := y :: ls) (b := b) (S := S) (by simp; omega) lo2 ot2 ob (by omega) (by omega) (by simp; omega)
    have hr2 := fun S => right_eq (ls := .marks 1 1 :: .secrets 2 3 :: y :: ls) (b := b) (S := S) (by simp; omega) (fun z hz => by
      rcases List.mem_cons.mp hz with h | h
      · rw [h]; exact ⟨⟨by omega, by omega⟩, ⟨by omega, by omega⟩⟩
      · rcases List.mem_cons.mp h with h | h
        · rw [h]; exact ⟨⟨by omega, by omega⟩, ⟨by omega, by omega⟩⟩
        · exact lo2 z h) ⟨by decide, by decide, ot2⟩ ob (by omega) (by omega) (by simp; omega)
    have sh : mkD (.marks 1 1 :: .secrets 2 3 :: y :: ls) b = .tup [.str (Str.ofString "marks"), .int 1, .int 1, .tup [.str (Str.ofString "secrets"), .int 2, .int 3, mkD (y :: ls) b]] := rfl
    rw [sh] at hr2
    have nx : ∀ s4, J (i + 1) ⟨[some (.dat (.lck L)), some (.dat (.obj 0)), some (.dat B), some (.dat (mkD (y :: ls) b)), s4, none, none], Hd xs q2⟩ := fun s4 => (hJ _ _).mpr ⟨y :: ls, q2, s4, by simp [l1], lo2, ot2, rfl⟩
    generalize mkD (y :: ls) b = D2 at *
    generalize mkD ls b = D1 at *
    simp [em, hr, hr2]
    exact nx _
  intro st hj
  have ⟨ls, q, s4, l1, lo, ot, e⟩ := (hJ _ _).mp hj
  subst e
  generalize mkD ls b = D1 at *
  have ⟨a2, q2, t2⟩ := take_n (xs := xs) (p := q) 27 (by decide)
  simp at t2
  have ok : okR (a2 : Int) = true := by simp only [okR, decide_eq_true_eq]; omega
  simp [t2, ok]
  refine for_fr G (g0 _ _ _) ?hs2 ?hk2
  case hs2 =>
    intro i d st hd hj
    have hi := (rangeD_get hd).1
    have ⟨c, q, s3, s4, oc, hc, zc, e⟩ := (hG _ _).mp hj
    subst e
    have ⟨k, k2, t⟩ := take_n (xs := xs) (p := q) 2 (by decide)
    simp at t
    have nx : ∀ (c2 : Brk) (s4 : Option Slot), BOk c2 → c2.high ≤ 2 + c.high → c2.size ≤ 4 + c.size → G (i + 1) ⟨[some (.dat (.lck L)), some (.dat (.obj 0)), some (.dat B), s3, s4, some (.dat (bD c2)), none], Hd xs (q + 1)⟩ := fun c2 s4 h1 h2 h3 => (hG _ _).mpr ⟨c2, _, _, _, h1, by omega, by omega, rfl⟩
    have n1 := fun s4 => nx (.ask [.num 0] c) s4 (.ask (by simp) (fun p hp => by rw [List.mem_singleton.mp hp]; show 0 ≤ 9999; omega) oc) (by simp only [Brk.high]; omega) (by simp only [Brk.size]; omega)
    have n2 := fun s4 => nx (.look 3 (.ask [] (.say [])) (.ask [.bit false] c)) s4 (.look (by omega) (.ask (by simp) nofun (.say (by simp) nofun)) (.ask (by simp) (fun p hp => by rw [List.mem_singleton.mp hp]; trivial) oc)) w2h w2z
    simp [bD, psD, pD] at n1 n2
    generalize bD c = C at *
    match k, k2 with
    | 0, _ =>
      simp [t]
      exact n1 _
    | 1, _ =>
      simp [t, sb_0]
      exact n2 _
  intro st hj
  have ⟨c, q, s3, s4, oc, hc, zc, e⟩ := (hG _ _).mp hj
  subst e
  simp only [rangeD_len] at hc zc
  have r1 := fun S => right_eq (ls := []) (b := c) (S := S) (by simp) (by simp) trivial oc (by omega) (by omega) (by simp; omega)
  have r2 := fun S => right_eq (ls := [.marks 3 1]) (b := c) (S := S) (by simp) (fun z hz => by rw [List.mem_singleton.mp hz]; exact ⟨⟨by omega, by omega⟩, ⟨by omega, by omega⟩⟩) trivial oc (by omega) (by omega) (by simp; omega)
  have m1 : mkD [] c = bD c := rfl
  have m2 : mkD [.marks 3 1] c = .tup [.str (Str.ofString "marks"), .int 3, .int 1, bD c] := rfl
  rw [m1] at r1
  rw [m2] at r2
  generalize bD c = C at *
  have ⟨u, uq, t3⟩ := take_n (xs := xs) (p := q) 9 (by decide)
  simp at t3
  have kb : ∃ d, atI [.non, .tup [], .tup [.str "ask", .tup [.int 0]], .tup [.str "say", .lst [.int 0]], .tup [.str "marks", .int 1, .int 0, B], .int 7, .str "say", .tup [.str "toss", .tup []], .tup [.str "look", .int 0, .tup [.str "say", .tup []], .tup [.str "say", .tup [.str "2"]]]] (u : Int) = some d ∧ BadM d := by
    match u, uq with
    | 0, _ => exact ⟨_, atI_of (j := 0) rfl, bm0⟩
    | 1, _ => exact ⟨_, atI_of (j := 1) rfl, bm1⟩
    | 2, _ => exact ⟨_, atI_of (j := 2) rfl, bm2⟩
    | 3, _ => exact ⟨_, atI_of (j := 3) rfl, bm3⟩
    | 4, _ => exact ⟨_, atI_of (j := 4) rfl, b4⟩
    | 5, _ => exact ⟨_, atI_of (j := 5) rfl, bm5⟩
    | 6, _ => exact ⟨_, atI_of (j := 6) rfl, bm6⟩
    | 7, _ => exact ⟨_, atI_of (j := 7) rfl, bm7⟩
    | 8, _ => exact ⟨_, atI_of (j := 8) rfl, bm8⟩
  have ⟨d, de, db⟩ := kb
  have db' : ∀ S, f_most_asks [d] S = .exc ⟨"BadBreaker", none⟩ S := db
  simp [r1, r2, t3, de, db']
  all_goals (unfold QT; rfl)
theorem law_true : ∀ ns : List Int, ns.length ≤ 63 → ∃ S, f_law [.lck (ns.map D.int)] [] = .ok (.dat (.bl true)) S := by
  intro ns hl
  obtain ⟨s, S1, e, h2⟩ := (law_fr hl).ex
  have h3 : s = .dat (.bl true) := h2
  exact ⟨S1, by rw [e, h3]⟩
end Law
namespace Law
open PySem PySem.Spec PyProof.Rows L2 Pl
abbrev R : PySem.W.OpenRow := PySem.W.OpenLaw.row PySem.Challenge.rw_carriedbreaks_k07_the_most_asks
abbrev hk : PySem.W.Hook := hookP 4 fas dds xfs
def ob (s : PySem.W.SharedT) : AlP := obsPG 4 fas dds xfs (HandSHeadRun.getT s)
theorem ob_eq (s : PySem.W.SharedT) : ob s = hk.obs s.abs := obsPG_eq (HandSHeadRun.getT_eq s)
def nms : List PySem.Str := [("__name__" : PySem.Str), ("BreakError" : PySem.Str), ("BadBreaker" : PySem.Str), ("MOST_LENGTH" : PySem.Str), ("is_number" : PySem.Str), ("is_bits" : PySem.Str), ("is_row" : PySem.Str), ("is_generator" : PySem.Str), ("PLAIN_WORDS" : PySem.Str), ("MOST_BIT" : PySem.Str), ("MOST_TOSSED" : PySem.Str), ("MOST_DEPTH" : PySem.Str), ("MOST_LAYERS" : PySem.Str), ("MOST_WITHIN" : PySem.Str), ("MOST_ASKS" : PySem.Str), ("MOST_COUNTED" : PySem.Str), ("are_parts" : PySem.Str), ("inner_plain" : PySem.Str), ("check_plain" : PySem.Str), ("fits_longer" : PySem.Str), ("fits_tree" : PySem.Str), ("is_length" : PySem.Str), ("fits_word" : PySem.Str), ("has_plain_word" : PySem.Str), ("check_breaker" : PySem.Str), ("most_plain_asks" : PySem.Str), ("most_asks" : PySem.Str), ("_law_draws" : PySem.Str), ("_law_take" : PySem.Str), ("_law_string" : PySem.Str), ("_law_table" : PySem.Str), ("_law_parts" : PySem.Str), ("_law_breaker" : PySem.Str), ("_law_made" : PySem.Str), ("_law_most" : PySem.Str), ("_law_is_right" : PySem.Str)]
theorem run (w : World) : HandSHeadRun.RunEq R (PySem.W.view R.prog [39]) hk ob 6000 nms w := by
  intro os
  kernel_rfl
end Law
open PySem PySem.W PySem.Calls PyProof.Rows
theorem PySem.Challenge.cw_carriedbreaks_k07_the_most_asks_holds : PySem.Challenge.rw_carriedbreaks_k07_the_most_asks.Holds := by
  w_on; o_law
  refine HandSHeadRun.head_any (r := OpenLaw.row PySem.Challenge.rw_carriedbreaks_k07_the_most_asks) (q := view (OpenLaw.row PySem.Challenge.rw_carriedbreaks_k07_the_most_asks).prog [39]) (H := Law.hk) (ob := Law.ob) (M := 6000) (loose := Law.nms) (d := HandSHeadRun.topDef (OpenLaw.row PySem.Challenge.rw_carriedbreaks_k07_the_most_asks).prog 39) (kwd := []) Law.ob_eq
    (by kernel_rfl) (fun s => by kernel_rfl) Law.run (by kernel_rfl) (by kernel_rfl) (by kernel_rfl) (by rfl) (by first | assumption | decide +kernel) (by decide +kernel) ⟨rfl, rfl, rfl, rfl, rfl, by decide +kernel⟩ ?hw ?hc
  case hw => w_witness2
  case hc =>
    refine L2.walk_ofE (l := PySem.Challenge.rw_carriedbreaks_k07_the_most_asks) (n := 63) (k := 65) (x := "script") (CX := L2.CX0) rfl (by decide) (by kernel_rfl) ⟨rfl, by decide, by decide⟩ ?F (fun _ _ _ _ z => z)
    intro w mg fa h Y G hmg0
    obtain ⟨K, KX, c⟩ := Y
    have hmg : mg ("law" : PySem.Str) = some (.ref fa) := by
      have e : (HandSHeadRun.topDef (OpenLaw.row PySem.Challenge.rw_carriedbreaks_k07_the_most_asks).prog 39).name = ("law" : PySem.Str) := by kernel_rfl
      rw [← e]
      exact hmg0
    obtain ⟨fd, hb, hF⟩ := Law.facts (P := (PySem.Challenge.rw_carriedbreaks_k07_the_most_asks).prog) (w := w) KX G hmg c Law.law_true
    exact ⟨K, fd, Pl.spLaw K, KX, hb, fun H a ns hl _ hS => ⟨a, ns, rfl, hS, hl, fun _ => rfl⟩, hF⟩
